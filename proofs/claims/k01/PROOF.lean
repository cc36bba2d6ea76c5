import PyProof.Rows.All
import Wide.All
import OpenK.AllK
import Wide.FinOn
import HandS.ForMost
import HandS.Flow
import HandS.IsInst
import HandS.StrMore
import HandS.Wide
import HandS.Deep
import HandS.TupAny
import HandS.Style
import KE.DataEq
import KE.DataCmp
import KE.SortData
import KE.KeyNested
import KE.KDictKeyed
import HandS.Small
import HandS.Codes
import HandS.Defaults
import HandS.Ends
import PySem.Challenge.RW_farstride_k01_names_of_any_values
import KE.KxText
set_option Elab.async false
set_option linter.all false
set_option maxRecDepth 100000
/-! Ev: plain data, owned lists and dicts by value, the interpreter's combinators. No heap here. -/
namespace Ev
open PySem PySem.Spec PyProof.Rows

/-- a result: a value, an exception of a class, or nothing that is spoken of -/
inductive Rs (α : Type) where
  | ok (a : α)
  | ex (c : Str)
  | no
def Rs.bind {α β : Type} : Rs α → (α → Rs β) → Rs β
  | .ok a, f => f a
  | .ex c, _ => .ex c
  | .no, _ => .no
@[simp] theorem Rs.ok_bind {α β : Type} (a : α) (f : α → Rs β) : Rs.bind (.ok a) f = f a := rfl
@[simp] theorem Rs.ex_bind {α β : Type} (c : Str) (f : α → Rs β) : Rs.bind (.ex c) f = .ex c := rfl
@[simp] theorem Rs.no_bind {α β : Type} (f : α → Rs β) : Rs.bind .no f = .no := rfl
theorem Rs.bind_ok {α β : Type} {r : Rs α} {f : α → Rs β} {b : β} (h : Rs.bind r f = .ok b) : ∃ a, r = .ok a ∧ f a = .ok b := by
  cases r with
  | ok a => exact ⟨a, rfl, h⟩
  | ex c => cases h
  | no => cases h
def Rs.of {α : Type} : Option α → Rs α
  | some a => .ok a
  | none => .no
@[simp] theorem Rs.of_some {α : Type} (a : α) : Rs.of (some a) = .ok a := rfl
@[simp] theorem Rs.of_none {α : Type} : (Rs.of none : Rs α) = .no := rfl
theorem Rs.of_ok {α : Type} {o : Option α} {a : α} (h : Rs.of o = .ok a) : o = some a := by
  cases o with
  | none => cases h
  | some b => cases h; rfl
/-- go on only where it is so -/
def Rs.chk (b : Bool) : Rs Unit := if b = true then .ok () else .no
@[simp] theorem Rs.chk_true : Rs.chk true = .ok () := rfl
@[simp] theorem Rs.chk_false : Rs.chk false = .no := rfl
theorem Rs.chk_ok {b : Bool} {u : Unit} (h : Rs.chk b = .ok u) : b = true := by
  cases b with
  | true => rfl
  | false => cases h

/-- what a slot holds: frozen data, or an owned list or dict -/
inductive O where
  | hole
  | val (d : PyData)
  | lst (xs : List O)
  | dct (kvs : List (PyData × O))
abbrev Env := List O

mutual
/-- the data that is to be read there -/
def O.froz : O → Option PyData
  | .hole => none
  | .val d => some d
  | .lst xs => (O.frozL xs).map PyData.list
  | .dct kvs => (O.frozK kvs).map PyData.dict
def O.frozL : List O → Option (List PyData)
  | [] => some []
  | x :: xs => match O.froz x, O.frozL xs with
    | some d, some ds => some (d :: ds)
    | _, _ => none
def O.frozK : List (PyData × O) → Option (List (PyData × PyData))
  | [] => some []
  | (k, x) :: xs => match O.froz x, O.frozK xs with
    | some d, some ds => some ((k, d) :: ds)
    | _, _ => none
end
@[simp] theorem O.frozL_val (ds : List PyData) : O.frozL (ds.map O.val) = some ds := by
  induction ds with
  | nil => rfl
  | cons d ds ih => rw [List.map_cons, O.frozL, ih]; rfl
@[simp] theorem O.froz_val (d : PyData) : O.froz (.val d) = some d := rfl
@[simp] theorem O.froz_lst_val (ds : List PyData) : O.froz (.lst (ds.map O.val)) = some (.list ds) := by
  rw [O.froz, O.frozL_val]; rfl
@[simp] theorem O.froz_nil : O.froz (.lst []) = some (.list []) := rfl
/-- the items are frozen -/
def O.vals : List O → Option (List PyData)
  | [] => some []
  | .val d :: xs => (O.vals xs).map (d :: ·)
  | _ :: _ => none
@[simp] theorem O.vals_map (ds : List PyData) : O.vals (ds.map O.val) = some ds := by
  induction ds with
  | nil => rfl
  | cons d ds ih => rw [List.map_cons, O.vals, ih]; rfl
theorem O.vals_eq : ∀ {xs : List O} {ds : List PyData}, O.vals xs = some ds → xs = ds.map O.val
  | [], _, h => by cases h; rfl
  | .val d :: xs, ds, h => by
    rw [O.vals] at h
    obtain ⟨es, e, rfl⟩ := Option.map_eq_some_iff.mp h
    rw [O.vals_eq e]; rfl
  | .hole :: _, _, h => by cases h
  | .lst _ :: _, _, h => by cases h
  | .dct _ :: _, _, h => by cases h

/-- a dict's value at a key -/
def lookD {α : Type} (s : PyData) : List (PyData × α) → Option α
  | [] => none
  | (k, x) :: r => if PyData.eqv k s = true then some x else lookD s r
/-- the place of a key -/
def idxD {α : Type} (s : PyData) : List (PyData × α) → Option Nat
  | [] => none
  | (k, _) :: r => if PyData.eqv k s = true then some 0 else (idxD s r).map (· + 1)
/-- d[k] = v -/
def putD {α : Type} (s : PyData) (o : α) (l : List (PyData × α)) : List (PyData × α) :=
  if (lookD s l).isSome = true then l.map (fun q => if PyData.eqv q.1 s = true then (q.1, o) else q) else l ++ [(s, o)]
/-- the k-th thing within (of a dict: the k-th entry's value) -/
def O.sub : O → Nat → Option O
  | .lst xs, k => xs[k]?
  | .dct kvs, k => (kvs[k]?).map (·.2)
  | _, _ => none
def setAt {α : Type} (o : α) : List (PyData × α) → Nat → List (PyData × α)
  | [], _ => []
  | (k, _) :: r, 0 => (k, o) :: r
  | q :: r, n + 1 => q :: setAt o r n
def O.setSub : O → Nat → O → O
  | .lst xs, k, o => .lst (xs.set k o)
  | .dct kvs, k, o => .dct (setAt o kvs k)
  | x, _, _ => x
def O.get : O → List Nat → Option O
  | x, [] => some x
  | x, s :: p => match x.sub s with
    | some y => O.get y p
    | none => none
def O.put : O → List Nat → O → O
  | _, [], o => o
  | x, s :: p, o => match x.sub s with
    | some y => x.setSub s (O.put y p o)
    | none => x
def eget (e : Env) (i : Nat) (p : List Nat) : Option O := match e[i]? with
  | some x => x.get p
  | none => none
def eput (e : Env) (i : Nat) (p : List Nat) (o : O) : Env := match e[i]? with
  | some x => e.set i (x.put p o)
  | none => e

/-- what an expression comes to: data; a new owned thing; the owned thing at a path of a slot -/
inductive W where
  | val (d : PyData)
  | own (o : O)
  | at (i : Nat) (p : List Nat)
def mkW : O → W
  | .val d => .val d
  | o => .own o
def W.nested : W → Bool
  | .at _ (_ :: _) => true
  | _ => false
def isOwn : O → Bool
  | .lst _ => true
  | .dct _ => true
  | _ => false
def isAt : W → Bool
  | .at _ _ => true
  | _ => false
/-- its content -/
def content (e : Env) : W → Option O
  | .val d => some (.val d)
  | .own o => some o
  | .at i p => eget e i p
/-- ready to be stored elsewhere: an owned thing that stays where it is is frozen -/
def storeW (w : W) (e : Env) : Rs (O × Env) := match w with
  | .val d => .ok (.val d, e)
  | .own o => .ok (o, e)
  | .at i p => (Rs.of ((eget e i p).bind O.froz)).bind fun d => .ok (.val d, eput e i p (.val d))
/-- .. as data -/
def frozW (w : W) (e : Env) : Rs (PyData × Env) := (storeW w e).bind fun (o, e1) => (Rs.of o.froz).bind fun d => .ok (d, e1)
/-- an alias is frozen only where no nested alias stands behind it -/
def aliasOk (w : W) (ws : List W) : Bool := match w with
  | .at _ _ => ws.all fun w => !w.nested
  | _ => true
def storeL : List W → Env → Rs (List O × Env)
  | [], e => .ok ([], e)
  | w :: ws, e => (Rs.chk (aliasOk w ws)).bind fun _ => (storeW w e).bind fun (o, e1) => (storeL ws e1).bind fun (os, e2) => .ok (o :: os, e2)
def frozLW : List W → Env → Rs (List PyData × Env)
  | [], e => .ok ([], e)
  | w :: ws, e => (Rs.chk (aliasOk w ws)).bind fun _ => (frozW w e).bind fun (o, e1) => (frozLW ws e1).bind fun (os, e2) => .ok (o :: os, e2)

abbrev EF := Env → Rs (W × Env)
abbrev LF := Env → Rs (List W × Env)
abbrev Fns := Str → List O → Rs (O × List O)

def eCst (d : PyData) : EF := fun e => .ok (.val d, e)
def eVar (i : Nat) : EF := fun e => match e[i]? with
  | some (.val d) => .ok (.val d, e)
  | some (.lst _) => .ok (.at i [], e)
  | some (.dct _) => .ok (.at i [], e)
  | _ => .no
def lNil : LF := fun e => .ok ([], e)
/-- the rest is pure where p is true -/
def lCons (f : EF) (p : Bool) (g : LF) : LF := fun e => (f e).bind fun (w, e1) => (Rs.chk (p || !w.nested)).bind fun _ => (g e1).bind fun (ws, e2) => .ok (w :: ws, e2)
def lTwo (f : EF) (q : Bool) (g : EF) : LF := lCons f q (lCons g true lNil)
def lOne (f : EF) : LF := lCons f true lNil
def contents (e : Env) : List W → Option (List O)
  | [] => some []
  | w :: ws => match content e w, contents e ws with
    | some o, some os => some (o :: os)
    | _, _ => none
/-- an operation that reads its operands and makes something new -/
def eOp (F : List O → Rs O) (l : LF) : EF := fun e => (l e).bind fun (ws, e1) => (Rs.of (contents e1 ws)).bind fun os => (F os).bind fun o => .ok (mkW o, e1)
def eTup (l : LF) : EF := fun e => (l e).bind fun (ws, e1) => (frozLW ws e1).bind fun (ds, e2) => (Rs.chk (decide (ds.length ≤ 16777216))).bind fun _ => .ok (.val (.tuple ds), e2)
def eLst (l : LF) : EF := fun e => (l e).bind fun (ws, e1) => (storeL ws e1).bind fun (os, e2) => (Rs.chk (decide (os.length ≤ 16777216))).bind fun _ => .ok (.own (.lst os), e2)

/-! subscripts -/
def isKey : PyData → Bool
  | .str _ => true
  | .int _ => true
  | _ => false
/-- an item of data -/
def itemD : PyData → PyData → Option PyData
  | .list ds, .int i => (L2.ixN ds.length i).bind fun j => ds[j]?
  | .tuple ds, .int i => (L2.ixN ds.length i).bind fun j => ds[j]?
  | .str s, .int i => if s.length ≤ 16777216 then (L2.ixN s.cps.toList.length i).bind fun j => (s.cps.toList[j]?).map fun c => PyData.str ⟨#[c]⟩ else none
  | .dict kvs, k => if isKey k = true then lookD k kvs else none
  | _, _ => none
/-- the place of an item of an owned thing -/
def idxO : O → PyData → Option Nat
  | .lst xs, .int i => L2.ixN xs.length i
  | .dct kvs, k => if isKey k = true then idxD k kvs else none
  | _, _ => none
def subW (e : Env) (c : W) (k : PyData) : Option W := match c with
  | .val d => (itemD d k).map W.val
  | .own o => (idxO o k).bind fun j => (o.sub j).bind fun x => match x with
    | .hole => none
    | x => some (mkW x)
  | .at i p => (eget e i p).bind fun o => match o with
    | .val d => (itemD d k).map W.val
    | o => (idxO o k).bind fun j => (o.sub j).bind fun x => match x with
      | .hole => none
      | .val d => some (.val d)
      | _ => some (.at i (p ++ [j]))
def dataOf : Option O → Option PyData
  | some (.val d) => some d
  | _ => none
def eSub (l : LF) : EF := fun e => (l e).bind fun (ws, e1) => match ws with
  | [c, k] => (Rs.of (dataOf (content e1 k))).bind fun kd => (Rs.of (subW e1 c kd)).bind fun w => .ok (w, e1)
  | _ => .no

end Ev

set_option Elab.async false
set_option linter.all false
set_option maxRecDepth 100000
/-! Ev: how plain data and owned things lie in the abstract heap. -/
namespace Ev
open PySem PySem.Spec PyProof.Rows L2
abbrev Rg := Addr → Prop

/-- what never changes is kept -/
structure Keep (H H' : Hp) : Prop where
  tup : ∀ b xs, H b = some (.tup xs) → H' b = some (.tup xs)
  frz : ∀ b o u, H b = some (.frz o u) → H' b = some (.frz o u)
theorem Keep.refl (H : Hp) : Keep H H := ⟨fun _ _ h => h, fun _ _ _ h => h⟩
theorem Keep.trans {H H1 H2 : Hp} (a : Keep H H1) (b : Keep H1 H2) : Keep H H2 := ⟨fun _ _ h => b.tup _ _ (a.tup _ _ h), fun _ _ _ h => b.frz _ _ _ (a.frz _ _ _ h)⟩
theorem Keep.of {H H' : Hp} (h : ∀ b u, H b = some u → H' b = some u) : Keep H H' := ⟨fun _ _ e => h _ _ e, fun _ _ _ e => h _ _ e⟩

/-- the entries of a dict's object -/
def DictO (o : HO) (es : List (V × V)) : Prop := ∃ kvs : List (Key × V), o = .dK kvs ∧ es = kvs.map fun p => (kV p.1, p.2)
theorem kV_inj {a b : Key} (h : kV a = kV b) : a = b := by
  cases a <;> cases b <;> simp [kV] at h <;> simp [h]
theorem DictO.inj {o : HO} {es es' : List (V × V)} (a : DictO o es) (b : DictO o es') : es = es' := by
  obtain ⟨k, rfl, rfl⟩ := a
  obtain ⟨k', e, rfl⟩ := b
  cases e; rfl

section
variable (K : PySem.W.Frag) (H : Hp)
/-- a list that is locked, or an object of the module -/
def FrzL (a : Addr) (xs : List V) : Prop :=
  (∃ o, H a = some (.frz o (.lst xs))) ∨
    ∃ (its : List Value) (n : Nat), K.lookup a = some { cls := .type "list", data := .seq its.toArray n } ∧ its.length ≤ sizeLine ∧ Vals xs its
/-- a tuple that is locked (made by a display, a slice ..), or an object of the module -/
def TupF (a : Addr) (xs : List V) : Prop :=
  (∃ o, H a = some (.frz o (.tup xs)) ∧ o.dict = none) ∨
    ∃ (o : Obj) (its : Array Value) (n : Nat), K.lookup a = some o ∧ o.cls = .type "tuple" ∧ o.dict = none ∧ o.data = .seq its n ∧ its.size ≤ sizeLine ∧ Vals xs its.toList
def FrzD (a : Addr) (es : List (V × V)) : Prop := ∃ o u, H a = some (.frz o u) ∧ DictO u es
def RdD (a : Addr) (es : List (V × V)) : Prop := ∃ u, Rd H a u ∧ DictO u es
mutual
/-- data that never changes again -/
def Fz : PyData → V → Prop
  | .none, v => v = .non
  | .bool b, v => v = .bl b
  | .int i, v => v = .int i
  | .str s, v => v = .str s
  | .list ds, v => ∃ a xs, v = .ref a ∧ FrzL K H a xs ∧ FzAll ds xs
  | .tuple ds, v => ∃ a xs, v = .ref a ∧ TupF K H a xs ∧ FzAll ds xs
  | .dict kvs, v => ∃ a es, v = .ref a ∧ FrzD H a es ∧ FzKvs kvs es
def FzAll : List PyData → List V → Prop
  | [], xs => xs = []
  | d :: ds, xs => ∃ x r, xs = x :: r ∧ Fz d x ∧ FzAll ds r
def FzKvs : List (PyData × PyData) → List (V × V) → Prop
  | [], xs => xs = []
  | (k, d) :: ds, xs => ∃ y x r, xs = (y, x) :: r ∧ Fz k y ∧ Fz d x ∧ FzKvs ds r
end
mutual
/-- data as it stands now -/
def Vw : PyData → V → Prop
  | .none, v => v = .non
  | .bool b, v => v = .bl b
  | .int i, v => v = .int i
  | .str s, v => v = .str s
  | .list ds, v => ∃ a xs, v = .ref a ∧ SqL K H a xs ∧ VwAll ds xs
  | .tuple ds, v => ∃ a xs, v = .ref a ∧ TupF K H a xs ∧ VwAll ds xs
  | .dict kvs, v => ∃ a es, v = .ref a ∧ RdD H a es ∧ VwKvs kvs es
def VwAll : List PyData → List V → Prop
  | [], xs => xs = []
  | d :: ds, xs => ∃ x r, xs = x :: r ∧ Vw d x ∧ VwAll ds r
def VwKvs : List (PyData × PyData) → List (V × V) → Prop
  | [], xs => xs = []
  | (k, d) :: ds, xs => ∃ y x r, xs = (y, x) :: r ∧ Fz K H k y ∧ Vw d x ∧ VwKvs ds r
end
mutual
/-- the owned thing, its objects within the region -/
def Rep : O → V → Rg → Prop
  | .hole, _, _ => True
  | .val d, v, _ => Fz K H d v
  | .lst os, v, F => ∃ a xs, v = .ref a ∧ F a ∧ H a = some (.lst xs) ∧ RepL os xs (fun b => F b ∧ b ≠ a)
  | .dct kvs, v, F => ∃ a u es, v = .ref a ∧ F a ∧ H a = some u ∧ DictO u es ∧ RepK kvs es (fun b => F b ∧ b ≠ a)
def RepL : List O → List V → Rg → Prop
  | [], xs, _ => xs = []
  | o :: os, xs, F => ∃ x r, ∃ G : Rg, xs = x :: r ∧ Rep o x (fun b => F b ∧ G b) ∧ RepL os r (fun b => F b ∧ ¬ G b)
def RepK : List (PyData × O) → List (V × V) → Rg → Prop
  | [], xs, _ => xs = []
  | (k, o) :: os, xs, F => ∃ y x r, ∃ G : Rg, xs = (y, x) :: r ∧ Fz K H k y ∧ Rep o x (fun b => F b ∧ G b) ∧ RepK os r (fun b => F b ∧ ¬ G b)
end
def RepS (o : O) (x : Option V) (F : Rg) : Prop := match o with
  | .hole => True
  | o => ∃ v, x = some v ∧ Rep K H o v F
def RepE : List O → L2.St → Rg → Prop
  | [], xs, _ => xs = []
  | o :: os, xs, F => ∃ x r, ∃ G : Rg, xs = x :: r ∧ RepS K H o x (fun b => F b ∧ G b) ∧ RepE os r (fun b => F b ∧ ¬ G b)
end

section
variable {K : PySem.W.Frag} {H H' : Hp}
theorem SqT.keep (k : Keep H H') {a : Addr} {xs : List V} (h : SqT K H a xs) : SqT K H' a xs := by
  rcases h with (h | ⟨o, h⟩) | h
  · exact .inl (.inl (k.tup _ _ h))
  · exact .inl (.inr ⟨o, k.frz _ _ _ h⟩)
  · exact .inr h
theorem FrzL.keep (k : Keep H H') {a : Addr} {xs : List V} (h : FrzL K H a xs) : FrzL K H' a xs := by
  rcases h with ⟨o, h⟩ | h
  · exact .inl ⟨o, k.frz _ _ _ h⟩
  · exact .inr h
theorem TupF.keep (k : Keep H H') {a : Addr} {xs : List V} (h : TupF K H a xs) : TupF K H' a xs := by
  rcases h with ⟨o, h, d⟩ | h
  · exact .inl ⟨o, k.frz _ _ _ h, d⟩
  · exact .inr h
theorem TupF.sq {a : Addr} {xs : List V} (h : TupF K H a xs) : SqT K H a xs := by
  rcases h with ⟨o, h, d⟩ | ⟨o, its, n, h1, h2, h3, h4, h5, h6⟩
  · exact .inl (.inr ⟨o, h⟩)
  · exact .inr ⟨o, its, n, h1, h2, h4, h5, h6⟩
theorem FrzL.sq {a : Addr} {xs : List V} (h : FrzL K H a xs) : SqL K H a xs := by
  rcases h with ⟨o, h⟩ | ⟨its, n, h1, h2, h3⟩
  · exact .inl (.inr ⟨o, h⟩)
  · exact .inr ⟨_, its.toArray, n, h1, rfl, rfl, rfl, by simpa using h2, by simpa using h3⟩
mutual
theorem Fz.keep (k : Keep H H') : ∀ (d : PyData) (v : V), Fz K H d v → Fz K H' d v
  | .none, _, h => h
  | .bool _, _, h => h
  | .int _, _, h => h
  | .str _, _, h => h
  | .list ds, _, h => by
    unfold Fz at h ⊢
    obtain ⟨a, xs, e, f, g⟩ := h
    exact ⟨a, xs, e, f.keep k, FzAll.keep k ds xs g⟩
  | .tuple ds, _, h => by
    unfold Fz at h ⊢
    obtain ⟨a, xs, e, f, g⟩ := h
    exact ⟨a, xs, e, f.keep k, FzAll.keep k ds xs g⟩
  | .dict kvs, _, h => by
    unfold Fz at h ⊢
    obtain ⟨a, es, e, ⟨o, u, f, f2⟩, g⟩ := h
    exact ⟨a, es, e, ⟨o, u, k.frz _ _ _ f, f2⟩, FzKvs.keep k kvs es g⟩
theorem FzAll.keep (k : Keep H H') : ∀ (ds : List PyData) (xs : List V), FzAll K H ds xs → FzAll K H' ds xs
  | [], _, h => h
  | d :: ds, _, h => by
    unfold FzAll at h ⊢
    obtain ⟨x, r, e, f, g⟩ := h
    exact ⟨x, r, e, Fz.keep k d x f, FzAll.keep k ds r g⟩
theorem FzKvs.keep (k : Keep H H') : ∀ (ds : List (PyData × PyData)) (xs : List (V × V)), FzKvs K H ds xs → FzKvs K H' ds xs
  | [], _, h => h
  | (c, d) :: ds, _, h => by
    unfold FzKvs at h ⊢
    obtain ⟨y, x, r, e, f, g, q⟩ := h
    exact ⟨y, x, r, e, Fz.keep k c y f, Fz.keep k d x g, FzKvs.keep k ds r q⟩
end
mutual
theorem Fz.vw : ∀ (d : PyData) (v : V), Fz K H d v → Vw K H d v
  | .none, _, h => h
  | .bool _, _, h => h
  | .int _, _, h => h
  | .str _, _, h => h
  | .list ds, _, h => by
    unfold Fz at h
    unfold Vw
    obtain ⟨a, xs, e, f, g⟩ := h
    exact ⟨a, xs, e, f.sq, FzAll.vw ds xs g⟩
  | .tuple ds, _, h => by
    unfold Fz at h
    unfold Vw
    obtain ⟨a, xs, e, f, g⟩ := h
    exact ⟨a, xs, e, f, FzAll.vw ds xs g⟩
  | .dict kvs, _, h => by
    unfold Fz at h
    unfold Vw
    obtain ⟨a, es, e, ⟨o, u, f, f2⟩, g⟩ := h
    exact ⟨a, es, e, ⟨u, .inr ⟨o, f⟩, f2⟩, FzKvs.vw kvs es g⟩
theorem FzAll.vw : ∀ (ds : List PyData) (xs : List V), FzAll K H ds xs → VwAll K H ds xs
  | [], _, h => h
  | d :: ds, _, h => by
    unfold FzAll at h
    unfold VwAll
    obtain ⟨x, r, e, f, g⟩ := h
    exact ⟨x, r, e, Fz.vw d x f, FzAll.vw ds r g⟩
theorem FzKvs.vw : ∀ (ds : List (PyData × PyData)) (xs : List (V × V)), FzKvs K H ds xs → VwKvs K H ds xs
  | [], _, h => h
  | (c, d) :: ds, _, h => by
    unfold FzKvs at h
    unfold VwKvs
    obtain ⟨y, x, r, e, f, g, q⟩ := h
    exact ⟨y, x, r, e, f, Fz.vw d x g, FzKvs.vw ds r q⟩
end
theorem FzAll.nil_iff {xs : List V} : FzAll K H [] xs ↔ xs = [] := by unfold FzAll; exact Iff.rfl
theorem FzAll.cons {d : PyData} {ds : List PyData} {x : V} {xs : List V} (h : Fz K H d x) (g : FzAll K H ds xs) : FzAll K H (d :: ds) (x :: xs) := by
  unfold FzAll; exact ⟨x, xs, rfl, h, g⟩
theorem FzAll.cons_inv {d : PyData} {ds : List PyData} {xs : List V} (h : FzAll K H (d :: ds) xs) : ∃ x r, xs = x :: r ∧ Fz K H d x ∧ FzAll K H ds r := by
  unfold FzAll at h; exact h
theorem FzAll.length : ∀ {ds : List PyData} {xs : List V}, FzAll K H ds xs → ds.length = xs.length
  | [], _, h => by rw [FzAll.nil_iff.mp h]; rfl
  | d :: ds, _, h => by
    obtain ⟨x, r, rfl, _, g⟩ := FzAll.cons_inv h
    rw [List.length_cons, List.length_cons, FzAll.length g]
theorem FzAll.get : ∀ {ds : List PyData} {xs : List V} {i : Nat} {d : PyData}, FzAll K H ds xs → ds[i]? = some d → ∃ x, xs[i]? = some x ∧ Fz K H d x
  | [], _, _, _, _, e => by simp at e
  | c :: ds, _, 0, d, h, e => by
    obtain ⟨x, r, rfl, f, _⟩ := FzAll.cons_inv h
    simp at e; subst e
    exact ⟨x, rfl, f⟩
  | c :: ds, _, i + 1, d, h, e => by
    obtain ⟨x, r, rfl, _, g⟩ := FzAll.cons_inv h
    obtain ⟨y, h1, h2⟩ := FzAll.get (i := i) g (by simpa using e)
    exact ⟨y, by simpa using h1, h2⟩
theorem FzAll.append : ∀ {ds es : List PyData} {xs ys : List V}, FzAll K H ds xs → FzAll K H es ys → FzAll K H (ds ++ es) (xs ++ ys)
  | [], _, _, _, h, g => by rw [FzAll.nil_iff.mp h]; exact g
  | d :: ds, es, _, ys, h, g => by
    obtain ⟨x, r, rfl, f, q⟩ := FzAll.cons_inv h
    exact .cons f (FzAll.append q g)
theorem FzAll.reverse : ∀ {ds : List PyData} {xs : List V}, FzAll K H ds xs → FzAll K H ds.reverse xs.reverse
  | [], _, h => by rw [FzAll.nil_iff.mp h]; exact FzAll.nil_iff.mpr rfl
  | d :: ds, _, h => by
    obtain ⟨x, r, rfl, f, q⟩ := FzAll.cons_inv h
    rw [List.reverse_cons, List.reverse_cons]
    exact FzAll.append (FzAll.reverse q) (.cons f (FzAll.nil_iff.mpr rfl))
theorem FzAll.take : ∀ {ds : List PyData} {xs : List V} (n : Nat), FzAll K H ds xs → FzAll K H (ds.take n) (xs.take n)
  | [], _, n, h => by rw [FzAll.nil_iff.mp h, List.take_nil, List.take_nil]; exact FzAll.nil_iff.mpr rfl
  | d :: ds, _, 0, h => FzAll.nil_iff.mpr rfl
  | d :: ds, _, n + 1, h => by
    obtain ⟨x, r, rfl, f, q⟩ := FzAll.cons_inv h
    exact .cons f (FzAll.take n q)
theorem FzAll.drop : ∀ {ds : List PyData} {xs : List V} (n : Nat), FzAll K H ds xs → FzAll K H (ds.drop n) (xs.drop n)
  | [], _, n, h => by rw [FzAll.nil_iff.mp h, List.drop_nil, List.drop_nil]; exact FzAll.nil_iff.mpr rfl
  | d :: ds, _, 0, h => h
  | d :: ds, _, n + 1, h => by
    obtain ⟨x, r, rfl, f, q⟩ := FzAll.cons_inv h
    exact FzAll.drop n q

/-! ### owned things -/
mutual
theorem Rep.mono : ∀ (o : O) (v : V) (F F' : Rg), (∀ b, F b → F' b) → Rep K H o v F → Rep K H o v F'
  | .hole, _, _, _, _, _ => by unfold Rep; trivial
  | .val d, v, F, F', m, h => by unfold Rep at h ⊢; exact h
  | .lst os, v, F, F', m, h => by
    unfold Rep at h ⊢
    obtain ⟨a, xs, e, fa, ha, r⟩ := h
    exact ⟨a, xs, e, m a fa, ha, RepL.mono os xs _ _ (fun b q => ⟨m b q.1, q.2⟩) r⟩
  | .dct kvs, v, F, F', m, h => by
    unfold Rep at h ⊢
    obtain ⟨a, u, es, e, fa, ha, d, r⟩ := h
    exact ⟨a, u, es, e, m a fa, ha, d, RepK.mono kvs es _ _ (fun b q => ⟨m b q.1, q.2⟩) r⟩
theorem RepL.mono : ∀ (os : List O) (xs : List V) (F F' : Rg), (∀ b, F b → F' b) → RepL K H os xs F → RepL K H os xs F'
  | [], _, _, _, _, h => by unfold RepL at h ⊢; exact h
  | o :: os, xs, F, F', m, h => by
    unfold RepL at h ⊢
    obtain ⟨x, r, G, e, f, g⟩ := h
    exact ⟨x, r, G, e, Rep.mono o x _ _ (fun b q => ⟨m b q.1, q.2⟩) f, RepL.mono os r _ _ (fun b q => ⟨m b q.1, q.2⟩) g⟩
theorem RepK.mono : ∀ (os : List (PyData × O)) (xs : List (V × V)) (F F' : Rg), (∀ b, F b → F' b) → RepK K H os xs F → RepK K H os xs F'
  | [], _, _, _, _, h => by unfold RepK at h ⊢; exact h
  | (k, o) :: os, xs, F, F', m, h => by
    unfold RepK at h ⊢
    obtain ⟨y, x, r, G, e, f0, f, g⟩ := h
    exact ⟨y, x, r, G, e, f0, Rep.mono o x _ _ (fun b q => ⟨m b q.1, q.2⟩) f, RepK.mono os r _ _ (fun b q => ⟨m b q.1, q.2⟩) g⟩
end
/-- what lies in the region is kept -/
def Hold (F : Rg) (H H' : Hp) : Prop := ∀ b u, F b → H b = some u → H' b = some u
mutual
theorem Rep.frame (k : Keep H H') : ∀ (o : O) (v : V) (F : Rg), Hold F H H' → Rep K H o v F → Rep K H' o v F
  | .hole, _, _, _, _ => by unfold Rep; trivial
  | .val d, v, F, m, h => by unfold Rep at h ⊢; exact Fz.keep k d v h
  | .lst os, v, F, m, h => by
    unfold Rep at h ⊢
    obtain ⟨a, xs, e, fa, ha, r⟩ := h
    exact ⟨a, xs, e, fa, m a _ fa ha, RepL.frame k os xs _ (fun b u q => m b u q.1) r⟩
  | .dct kvs, v, F, m, h => by
    unfold Rep at h ⊢
    obtain ⟨a, u, es, e, fa, ha, d, r⟩ := h
    exact ⟨a, u, es, e, fa, m a _ fa ha, d, RepK.frame k kvs es _ (fun b u q => m b u q.1) r⟩
theorem RepL.frame (k : Keep H H') : ∀ (os : List O) (xs : List V) (F : Rg), Hold F H H' → RepL K H os xs F → RepL K H' os xs F
  | [], _, _, _, h => by unfold RepL at h ⊢; exact h
  | o :: os, xs, F, m, h => by
    unfold RepL at h ⊢
    obtain ⟨x, r, G, e, f, g⟩ := h
    exact ⟨x, r, G, e, Rep.frame k o x _ (fun b u q => m b u q.1) f, RepL.frame k os r _ (fun b u q => m b u q.1) g⟩
theorem RepK.frame (k : Keep H H') : ∀ (os : List (PyData × O)) (xs : List (V × V)) (F : Rg), Hold F H H' → RepK K H os xs F → RepK K H' os xs F
  | [], _, _, _, h => by unfold RepK at h ⊢; exact h
  | (c, o) :: os, xs, F, m, h => by
    unfold RepK at h ⊢
    obtain ⟨y, x, r, G, e, f0, f, g⟩ := h
    exact ⟨y, x, r, G, e, Fz.keep k c y f0, Rep.frame k o x _ (fun b u q => m b u q.1) f, RepK.frame k os r _ (fun b u q => m b u q.1) g⟩
end
mutual
theorem Rep.vw : ∀ (o : O) (v : V) (F : Rg) (d : PyData), O.froz o = some d → Rep K H o v F → Vw K H d v
  | .hole, _, _, _, e, _ => by simp [O.froz] at e
  | .val c, v, F, d, e, h => by
    unfold Rep at h
    simp [O.froz] at e
    subst e
    exact Fz.vw c v h
  | .lst os, v, F, d, e, h => by
    unfold Rep at h
    rw [O.froz] at e
    obtain ⟨ds, e1, rfl⟩ := Option.map_eq_some_iff.mp e
    obtain ⟨a, xs, rfl, fa, ha, r⟩ := h
    unfold Vw
    exact ⟨a, xs, rfl, SqL.of ha, RepL.vw os xs _ ds e1 r⟩
  | .dct kvs, v, F, d, e, h => by
    unfold Rep at h
    rw [O.froz] at e
    obtain ⟨ds, e1, rfl⟩ := Option.map_eq_some_iff.mp e
    obtain ⟨a, u, es, rfl, fa, ha, dd, r⟩ := h
    unfold Vw
    exact ⟨a, es, rfl, ⟨u, .inl ha, dd⟩, RepK.vw kvs es _ ds e1 r⟩
theorem RepL.vw : ∀ (os : List O) (xs : List V) (F : Rg) (ds : List PyData), O.frozL os = some ds → RepL K H os xs F → VwAll K H ds xs
  | [], xs, F, ds, e, h => by
    unfold RepL at h
    simp [O.frozL] at e
    subst e
    unfold VwAll
    exact h
  | o :: os, xs, F, ds, e, h => by
    unfold RepL at h
    rw [O.frozL] at e
    split at e
    · rename_i d es h1 h2
      cases e
      obtain ⟨x, r, G, rfl, f, g⟩ := h
      unfold VwAll
      exact ⟨x, r, rfl, Rep.vw o x _ d h1 f, RepL.vw os r _ es h2 g⟩
    · cases e
theorem RepK.vw : ∀ (os : List (PyData × O)) (xs : List (V × V)) (F : Rg) (ds : List (PyData × PyData)), O.frozK os = some ds → RepK K H os xs F → VwKvs K H ds xs
  | [], xs, F, ds, e, h => by
    unfold RepK at h
    simp [O.frozK] at e
    subst e
    unfold VwKvs
    exact h
  | (k, o) :: os, xs, F, ds, e, h => by
    unfold RepK at h
    rw [O.frozK] at e
    split at e
    · rename_i d es h1 h2
      cases e
      obtain ⟨y, x, r, G, rfl, f0, f, g⟩ := h
      unfold VwKvs
      exact ⟨y, x, r, rfl, f0, Rep.vw o x _ d h1 f, RepK.vw os r _ es h2 g⟩
    · cases e
end
end
end Ev

set_option Elab.async false
set_option linter.all false
set_option maxRecDepth 100000
/-! Ev: paths into owned things, slots, freezing, what an evaluation may change. -/
namespace Ev
open PySem PySem.Spec PyProof.Rows L2
section
variable {K : PySem.W.Frag} {H H' : Hp}

theorem setAt_setAt {α : Type} (o o' : α) : ∀ (l : List (PyData × α)) (k : Nat), setAt o' (setAt o l k) k = setAt o' l k
  | [], _ => rfl
  | (_, _) :: _, 0 => rfl
  | q :: r, n + 1 => by
    show q :: setAt o' (setAt o r n) n = q :: setAt o' r n
    rw [setAt_setAt o o' r n]
theorem setAt_get {α : Type} (o : α) : ∀ (l : List (PyData × α)) (k : Nat) (c : α), (l[k]?).map (·.2) = some c → ((setAt o l k)[k]?).map (·.2) = some o
  | [], _, _, h => by simp at h
  | (_, _) :: _, 0, _, _ => rfl
  | q :: r, n + 1, c, h => by
    show (((q :: setAt o r n)[n + 1]?).map (·.2)) = some o
    rw [List.getElem?_cons_succ]
    exact setAt_get o r n c (by simpa using h)
theorem O.sub_set {o c x : O} {k : Nat} (h : o.sub k = some c) : (o.setSub k x).sub k = some x := by
  cases o with
  | hole => cases h
  | val d => cases h
  | lst xs =>
    have h : xs[k]? = some c := h
    show (xs.set k x)[k]? = some x
    rw [List.getElem?_set_self (List.getElem?_eq_some_iff.mp h).1]
  | dct kvs => exact setAt_get x kvs k c h
theorem O.setSub_setSub {o x y : O} {k : Nat} : (o.setSub k x).setSub k y = o.setSub k y := by
  cases o with
  | hole => rfl
  | val d => rfl
  | lst xs => show O.lst ((xs.set k x).set k y) = O.lst (xs.set k y); rw [List.set_set]
  | dct kvs => show O.dct _ = O.dct _; rw [setAt_setAt]

/-- the k-th thing within an object -/
def Child (H : Hp) (v : V) (k : Nat) (x : V) : Prop :=
  ∃ a, v = .ref a ∧ ((∃ xs : List V, H a = some (.lst xs) ∧ xs[k]? = some x) ∨ ∃ u es y, H a = some u ∧ DictO u es ∧ es[k]? = some (y, x))
theorem Child.inj {v x y : V} {k : Nat} (h : Child H v k x) (g : Child H v k y) : x = y := by
  obtain ⟨a, rfl, h⟩ := h
  obtain ⟨b, e, g⟩ := g
  cases e
  rcases h with ⟨xs, h1, h2⟩ | ⟨u, es, z, h1, h2, h3⟩ <;> rcases g with ⟨ys, g1, g2⟩ | ⟨w, fs, q, g1, g2, g3⟩
  · rw [h1] at g1; cases g1; rw [h2] at g2; exact Option.some.inj g2
  · rw [h1] at g1; cases g1; obtain ⟨_, e, _⟩ := g2; cases e
  · rw [h1] at g1; cases g1; obtain ⟨_, e, _⟩ := h2; cases e
  · rw [h1] at g1; cases g1
    rw [h2.inj g2, g3] at h3
    injection h3 with h3
    injection h3 with _ h3
    exact h3.symm
def PathV (H : Hp) : V → List Nat → V → Prop
  | v, [], x => x = v
  | v, k :: p, x => ∃ y, Child H v k y ∧ PathV H y p x
theorem PathV.inj : ∀ {p : List Nat} {v x y : V}, PathV H v p x → PathV H v p y → x = y
  | [], _, _, _, h, g => by
    have h : _ = _ := h
    have g : _ = _ := g
    rw [h, g]
  | k :: p, v, x, y, ⟨z, h1, h2⟩, ⟨w, g1, g2⟩ => by
    rw [h1.inj g1] at h2
    exact PathV.inj h2 g2
theorem PathV.snoc : ∀ {p : List Nat} {v x y : V} {k : Nat}, PathV H v p x → Child H x k y → PathV H v (p ++ [k]) y
  | [], v, x, y, k, h, g => by
    have h : x = v := h
    subst h
    exact ⟨y, g, rfl⟩
  | j :: p, v, x, y, k, ⟨z, h1, h2⟩, g => ⟨z, h1, PathV.snoc h2 g⟩
def PathS (H : Hp) (σ : L2.St) (i : Nat) (p : List Nat) (x : V) : Prop := ∃ v, σ[i]? = some (some v) ∧ PathV H v p x
theorem Child.same (s : ∀ b u, H b = some u → H' b = some u) {v x : V} {k : Nat} (h : Child H v k x) : Child H' v k x := by
  obtain ⟨a, e, h⟩ := h
  rcases h with ⟨xs, h1, h2⟩ | ⟨u, es, z, h1, h2, h3⟩
  · exact ⟨a, e, .inl ⟨xs, s _ _ h1, h2⟩⟩
  · exact ⟨a, e, .inr ⟨u, es, z, s _ _ h1, h2, h3⟩⟩
theorem PathV.same (s : ∀ b u, H b = some u → H' b = some u) : ∀ {p : List Nat} {v x : V}, PathV H v p x → PathV H' v p x
  | [], _, _, h => h
  | _ :: _, _, _, ⟨z, h1, h2⟩ => ⟨z, h1.same s, PathV.same s h2⟩
theorem PathS.same (s : ∀ b u, H b = some u → H' b = some u) {σ : L2.St} {i : Nat} {p : List Nat} {x : V} (h : PathS H σ i p x) : PathS H' σ i p x := by
  obtain ⟨v, h1, h2⟩ := h
  exact ⟨v, h1, h2.same s⟩

theorem RepL.length : ∀ {os : List O} {xs : List V} {F : Rg}, RepL K H os xs F → os.length = xs.length
  | [], _, _, h => by unfold RepL at h; subst h; rfl
  | o :: os, xs, F, h => by
    unfold RepL at h
    obtain ⟨x, r, G, rfl, f, g⟩ := h
    rw [List.length_cons, List.length_cons, RepL.length g]
theorem RepL.out : ∀ {os : List O} {xs : List V} {F : Rg} {k : Nat} {c : O}, RepL K H os xs F → os[k]? = some c →
    ∃ x, ∃ G : Rg, xs[k]? = some x ∧ Rep K H c x (fun b => F b ∧ G b) ∧ RepL K H (os.set k .hole) xs (fun b => F b ∧ ¬ G b)
  | [], _, _, _, _, _, e => by simp at e
  | o :: os, xs, F, 0, c, h, e => by
    unfold RepL at h
    obtain ⟨x, r, G, rfl, f, g⟩ := h
    simp at e; subst e
    refine ⟨x, G, rfl, f, ?_⟩
    show RepL K H (.hole :: os) (x :: r) _
    unfold RepL
    refine ⟨x, r, fun _ => False, rfl, by unfold Rep; trivial, RepL.mono _ _ _ _ (fun b q => ⟨q, id⟩) g⟩
  | o :: os, xs, F, k + 1, c, h, e => by
    unfold RepL at h
    obtain ⟨x, r, G0, rfl, f, g⟩ := h
    obtain ⟨y, G1, h1, h2, h3⟩ := RepL.out (k := k) g (by simpa using e)
    refine ⟨y, fun b => ¬ G0 b ∧ G1 b, by simpa using h1, Rep.mono _ _ _ _ (fun b q => ⟨q.1.1, q.1.2, q.2⟩) h2, ?_⟩
    show RepL K H (o :: os.set k .hole) (x :: r) _
    unfold RepL
    exact ⟨x, r, G0, rfl, Rep.mono _ _ _ _ (fun b q => ⟨⟨q.1, fun z => z.1 q.2⟩, q.2⟩) f, RepL.mono _ _ _ _ (fun b q => ⟨⟨q.1.1, fun z => q.2 z.2⟩, q.1.2⟩) h3⟩
theorem RepL.back : ∀ {os : List O} {xs : List V} {F R : Rg} {k : Nat} {c : O} {x : V}, RepL K H (os.set k .hole) xs F → k < os.length → xs[k]? = some x → Rep K H c x R → (∀ b, F b → R b → False) →
    RepL K H (os.set k c) xs (fun b => F b ∨ R b)
  | [], _, _, _, _, _, _, _, l, _, _, _ => absurd l (Nat.not_lt_zero _)
  | o :: os, xs, F, R, 0, c, x, h, _, e, r, d => by
    have h : RepL K H (.hole :: os) xs F := h
    unfold RepL at h
    obtain ⟨y, q, G, rfl, _, g⟩ := h
    simp at e; subst e
    show RepL K H (c :: os) _ _
    unfold RepL
    exact ⟨y, q, R, rfl, Rep.mono _ _ _ _ (fun b z => ⟨.inr z, z⟩) r, RepL.mono _ _ _ _ (fun b z => ⟨.inl z.1, fun z2 => d b z.1 z2⟩) g⟩
  | o :: os, xs, F, R, k + 1, c, x, h, l, e, r, d => by
    have h : RepL K H (o :: os.set k .hole) xs F := h
    unfold RepL at h
    obtain ⟨y, q, G, rfl, f, g⟩ := h
    have ih := RepL.back (k := k) g (by simpa using l) (by simpa using e) r fun b z => d b z.1
    show RepL K H (o :: os.set k c) _ _
    unfold RepL
    exact ⟨y, q, fun b => F b ∧ G b, rfl, Rep.mono _ _ _ _ (fun b z => ⟨.inl z.1, z⟩) f, RepL.mono _ _ _ _ (fun b z => z.elim (fun z => ⟨.inl z.1, fun w => z.2 w.2⟩) fun z => ⟨.inr z, fun w => d b w.1 z⟩) ih⟩
theorem RepK.out : ∀ {os : List (PyData × O)} {xs : List (V × V)} {F : Rg} {k : Nat} {c : O}, RepK K H os xs F → (os[k]?).map (·.2) = some c →
    ∃ y x, ∃ G : Rg, xs[k]? = some (y, x) ∧ Rep K H c x (fun b => F b ∧ G b) ∧ RepK K H (setAt .hole os k) xs (fun b => F b ∧ ¬ G b)
  | [], _, _, _, _, _, e => by simp at e
  | (q, o) :: os, xs, F, 0, c, h, e => by
    unfold RepK at h
    obtain ⟨y, x, r, G, rfl, f0, f, g⟩ := h
    simp at e; subst e
    refine ⟨y, x, G, rfl, f, ?_⟩
    show RepK K H ((q, .hole) :: os) ((y, x) :: r) _
    unfold RepK
    refine ⟨y, x, r, fun _ => False, rfl, f0, by unfold Rep; trivial, RepK.mono _ _ _ _ (fun b q => ⟨q, id⟩) g⟩
  | (q, o) :: os, xs, F, k + 1, c, h, e => by
    unfold RepK at h
    obtain ⟨y0, x, r, G0, rfl, f0, f, g⟩ := h
    obtain ⟨z, y, G1, h1, h2, h3⟩ := RepK.out (k := k) g (by simpa using e)
    refine ⟨z, y, fun b => ¬ G0 b ∧ G1 b, by simpa using h1, Rep.mono _ _ _ _ (fun b q => ⟨q.1.1, q.1.2, q.2⟩) h2, ?_⟩
    show RepK K H ((q, o) :: setAt .hole os k) ((y0, x) :: r) _
    unfold RepK
    exact ⟨y0, x, r, G0, rfl, f0, Rep.mono _ _ _ _ (fun b q => ⟨⟨q.1, fun z => z.1 q.2⟩, q.2⟩) f, RepK.mono _ _ _ _ (fun b q => ⟨⟨q.1.1, fun z => q.2 z.2⟩, q.1.2⟩) h3⟩
theorem RepK.back : ∀ {os : List (PyData × O)} {xs : List (V × V)} {F R : Rg} {k : Nat} {c : O} {y x : V}, RepK K H (setAt .hole os k) xs F → xs[k]? = some (y, x) → Rep K H c x R → (∀ b, F b → R b → False) →
    RepK K H (setAt c os k) xs (fun b => F b ∨ R b)
  | [], xs, F, R, k, c, y, x, h, e, r, d => by
    have h : RepK K H [] xs F := h
    unfold RepK at h
    subst h
    simp at e
  | (q, o) :: os, xs, F, R, 0, c, y, x, h, e, r, d => by
    have h : RepK K H ((q, .hole) :: os) xs F := h
    unfold RepK at h
    obtain ⟨y, z, t, G, rfl, f0, _, g⟩ := h
    simp at e; obtain ⟨rfl, rfl⟩ := e
    show RepK K H ((q, c) :: os) _ _
    unfold RepK
    exact ⟨_, _, t, R, rfl, f0, Rep.mono _ _ _ _ (fun b z => ⟨.inr z, z⟩) r, RepK.mono _ _ _ _ (fun b z => ⟨.inl z.1, fun z2 => d b z.1 z2⟩) g⟩
  | (q, o) :: os, xs, F, R, k + 1, c, y, x, h, e, r, d => by
    have h : RepK K H ((q, o) :: setAt .hole os k) xs F := h
    unfold RepK at h
    obtain ⟨y0, x0, t, G, rfl, f0, f, g⟩ := h
    have ih := RepK.back (k := k) g (by simpa using e) r fun b z => d b z.1
    show RepK K H ((q, o) :: setAt c os k) _ _
    unfold RepK
    exact ⟨y0, x0, t, fun b => F b ∧ G b, rfl, f0, Rep.mono _ _ _ _ (fun b z => ⟨.inl z.1, z⟩) f, RepK.mono _ _ _ _ (fun b z => z.elim (fun z => ⟨.inl z.1, fun w => z.2 w.2⟩) fun z => ⟨.inr z, fun w => d b w.1 z⟩) ih⟩
/-- a thing within is taken out -/
theorem Rep.subOut {o c : O} {v : V} {F : Rg} {k : Nat} (h : Rep K H o v F) (e : o.sub k = some c) :
    ∃ x, ∃ G : Rg, Child H v k x ∧ Rep K H c x (fun b => F b ∧ G b) ∧ Rep K H (o.setSub k .hole) v (fun b => F b ∧ ¬ G b) := by
  cases o with
  | hole => cases e
  | val d => cases e
  | lst os =>
    unfold Rep at h
    obtain ⟨a, xs, rfl, fa, ha, r⟩ := h
    obtain ⟨x, G, h1, h2, h3⟩ := RepL.out (k := k) r e
    refine ⟨x, fun b => b ≠ a ∧ G b, ⟨a, rfl, .inl ⟨xs, ha, h1⟩⟩, Rep.mono _ _ _ _ (fun b q => ⟨q.1.1, q.1.2, q.2⟩) h2, ?_⟩
    show Rep K H (.lst (os.set k .hole)) _ _
    unfold Rep
    exact ⟨a, xs, rfl, ⟨fa, fun z => z.1 rfl⟩, ha, RepL.mono _ _ _ _ (fun b q => ⟨⟨q.1.1, fun z => q.2 z.2⟩, q.1.2⟩) h3⟩
  | dct kvs =>
    unfold Rep at h
    obtain ⟨a, u, es, rfl, fa, ha, dd, r⟩ := h
    obtain ⟨y, x, G, h1, h2, h3⟩ := RepK.out (k := k) r e
    refine ⟨x, fun b => b ≠ a ∧ G b, ⟨a, rfl, .inr ⟨u, es, y, ha, dd, h1⟩⟩, Rep.mono _ _ _ _ (fun b q => ⟨q.1.1, q.1.2, q.2⟩) h2, ?_⟩
    show Rep K H (.dct (setAt .hole kvs k)) _ _
    unfold Rep
    exact ⟨a, u, es, rfl, ⟨fa, fun z => z.1 rfl⟩, ha, dd, RepK.mono _ _ _ _ (fun b q => ⟨⟨q.1.1, fun z => q.2 z.2⟩, q.1.2⟩) h3⟩
/-- .. and put back -/
theorem Rep.subBack {o c y : O} {v x : V} {F R : Rg} {k : Nat} (h : Rep K H (o.setSub k .hole) v F) (e : o.sub k = some y) (ch : Child H v k x) (r : Rep K H c x R) (d : ∀ b, F b → R b → False) :
    Rep K H (o.setSub k c) v (fun b => F b ∨ R b) := by
  cases o with
  | hole => cases e
  | val d => cases e
  | lst os =>
    have h : Rep K H (.lst (os.set k .hole)) v F := h
    unfold Rep at h
    obtain ⟨a, xs, rfl, fa, ha, q⟩ := h
    obtain ⟨a', e1, ch⟩ := ch
    cases e1
    rcases ch with ⟨ys, h1, h2⟩ | ⟨u, es, z, h1, h2, _⟩
    · rw [ha] at h1; cases h1
      have := RepL.back q (List.getElem?_eq_some_iff.mp (show os[k]? = some y from e)).1 h2 r fun b z => d b z.1
      show Rep K H (.lst (os.set k c)) _ _
      unfold Rep
      exact ⟨a, xs, rfl, .inl fa, ha, RepL.mono _ _ _ _ (fun b z => z.elim (fun z => ⟨.inl z.1, z.2⟩) fun z => ⟨.inr z, fun w => d a fa (w ▸ z)⟩) this⟩
    · rw [ha] at h1; cases h1; obtain ⟨_, e, _⟩ := h2; cases e
  | dct kvs =>
    have h : Rep K H (.dct (setAt .hole kvs k)) v F := h
    unfold Rep at h
    obtain ⟨a, u, es, rfl, fa, ha, dd, q⟩ := h
    obtain ⟨a', e1, ch⟩ := ch
    cases e1
    rcases ch with ⟨ys, h1, h2⟩ | ⟨u', es', z, h1, h2, h3⟩
    · rw [ha] at h1; cases h1; obtain ⟨_, e, _⟩ := dd; cases e
    · rw [ha] at h1; cases h1
      rw [← dd.inj h2] at h3
      have := RepK.back q h3 r fun b z => d b z.1
      show Rep K H (.dct (setAt c kvs k)) _ _
      unfold Rep
      exact ⟨a, u, es, rfl, .inl fa, ha, dd, RepK.mono _ _ _ _ (fun b z => z.elim (fun z => ⟨.inl z.1, z.2⟩) fun z => ⟨.inr z, fun w => d a fa (w ▸ z)⟩) this⟩
theorem Rep.pathOut : ∀ {p : List Nat} {o c : O} {v : V} {F : Rg}, Rep K H o v F → o.get p = some c →
    ∃ x, ∃ G : Rg, PathV H v p x ∧ Rep K H c x (fun b => F b ∧ G b) ∧ Rep K H (o.put p .hole) v (fun b => F b ∧ ¬ G b)
  | [], o, c, v, F, h, e => by
    have e : o = c := by rw [O.get] at e; exact Option.some.inj e
    subst e
    refine ⟨v, fun _ => True, rfl, Rep.mono _ _ _ _ (fun b q => ⟨q, trivial⟩) h, ?_⟩
    rw [O.put]; unfold Rep; trivial
  | s :: p, o, c, v, F, h, e => by
    rw [O.get] at e
    cases hs : o.sub s with
    | none => rw [hs] at e; cases e
    | some y =>
      rw [hs] at e
      obtain ⟨z, G0, h1, h2, h3⟩ := h.subOut hs
      obtain ⟨x, G1, g1, g2, g3⟩ := Rep.pathOut (p := p) h2 e
      refine ⟨x, fun b => G0 b ∧ G1 b, ⟨z, h1, g1⟩, Rep.mono _ _ _ _ (fun b q => ⟨q.1.1, q.1.2, q.2⟩) g2, ?_⟩
      rw [O.put, hs]
      have := Rep.subBack (c := y.put p .hole) h3 hs h1 g3 fun b q w => q.2 w.1.2
      exact Rep.mono _ _ _ _ (fun b q => q.elim (fun q => ⟨q.1, fun w => q.2 w.1⟩) fun q => ⟨q.1.1, fun w => q.2 w.2⟩) this
theorem Rep.pathBack : ∀ {p : List Nat} {o c c0 : O} {v x : V} {F R : Rg}, Rep K H (o.put p .hole) v F → o.get p = some c0 → PathV H v p x → Rep K H c x R → (∀ b, F b → R b → False) →
    Rep K H (o.put p c) v (fun b => F b ∨ R b)
  | [], o, c, c0, v, x, F, R, _, _, hp, r, _ => by
    have hp : x = v := hp
    subst hp
    rw [O.put]
    exact Rep.mono _ _ _ _ (fun b q => .inr q) r
  | s :: p, o, c, c0, v, x, F, R, h, e, hp, r, d => by
    rw [O.get] at e
    cases hs : o.sub s with
    | none => rw [hs] at e; cases e
    | some y =>
      rw [hs] at e
      rw [O.put, hs] at h
      rw [O.put, hs]
      obtain ⟨z, h1, h2⟩ := hp
      obtain ⟨z', G, k1, k2, k3⟩ := h.subOut (O.sub_set hs)
      have ez := h1.inj k1
      subst ez
      rw [O.setSub_setSub] at k3
      have ih := Rep.pathBack (p := p) k2 e h2 r fun b q w => d b q.1 w
      have := Rep.subBack k3 hs h1 ih fun b q w => w.elim (fun w => q.2 w.2) fun w => d b q.1 w
      exact Rep.mono _ _ _ _ (fun b q => q.elim (fun q => .inl q.1) fun q => q.elim (fun q => .inl q.1) .inr) this

/-! ### slots -/
theorem RepE.mono : ∀ {os : List O} {xs : L2.St} {F F' : Rg}, (∀ b, F b → F' b) → RepE K H os xs F → RepE K H os xs F'
  | [], _, _, _, _, h => by unfold RepE at h ⊢; exact h
  | o :: os, xs, F, F', m, h => by
    unfold RepE at h ⊢
    obtain ⟨x, r, G, e, f, g⟩ := h
    refine ⟨x, r, G, e, ?_, RepE.mono (fun b q => ⟨m b q.1, q.2⟩) g⟩
    cases o with
    | hole => trivial
    | val d => obtain ⟨v, e, q⟩ := f; exact ⟨v, e, Rep.mono _ _ _ _ (fun b q => ⟨m b q.1, q.2⟩) q⟩
    | lst d => obtain ⟨v, e, q⟩ := f; exact ⟨v, e, Rep.mono _ _ _ _ (fun b q => ⟨m b q.1, q.2⟩) q⟩
    | dct d => obtain ⟨v, e, q⟩ := f; exact ⟨v, e, Rep.mono _ _ _ _ (fun b q => ⟨m b q.1, q.2⟩) q⟩
theorem RepS.of {o : O} {x : Option V} {F : Rg} (h : o ≠ .hole) : RepS K H o x F ↔ ∃ v, x = some v ∧ Rep K H o v F := by
  cases o with
  | hole => exact absurd rfl h
  | val d => exact Iff.rfl
  | lst d => exact Iff.rfl
  | dct d => exact Iff.rfl
theorem RepE.frame (k : Keep H H') : ∀ {os : List O} {xs : L2.St} {F : Rg}, Hold F H H' → RepE K H os xs F → RepE K H' os xs F
  | [], _, _, _, h => by unfold RepE at h ⊢; exact h
  | o :: os, xs, F, m, h => by
    unfold RepE at h ⊢
    obtain ⟨x, r, G, e, f, g⟩ := h
    refine ⟨x, r, G, e, ?_, RepE.frame k (fun b u q => m b u q.1) g⟩
    by_cases ho : o = .hole
    · subst ho; trivial
    · rw [RepS.of ho] at f ⊢
      obtain ⟨v, e, q⟩ := f
      exact ⟨v, e, Rep.frame k _ _ _ (fun b u q => m b u q.1) q⟩
theorem RepE.length : ∀ {os : List O} {xs : L2.St} {F : Rg}, RepE K H os xs F → os.length = xs.length
  | [], _, _, h => by unfold RepE at h; subst h; rfl
  | o :: os, xs, F, h => by
    unfold RepE at h
    obtain ⟨x, r, G, rfl, f, g⟩ := h
    rw [List.length_cons, List.length_cons, RepE.length g]
theorem RepE.out : ∀ {os : List O} {xs : L2.St} {F : Rg} {k : Nat} {c : O}, RepE K H os xs F → os[k]? = some c → c ≠ .hole →
    ∃ x, ∃ G : Rg, xs[k]? = some (some x) ∧ Rep K H c x (fun b => F b ∧ G b) ∧ RepE K H (os.set k .hole) xs (fun b => F b ∧ ¬ G b)
  | [], _, _, _, _, _, e, _ => by simp at e
  | o :: os, xs, F, 0, c, h, e, n => by
    unfold RepE at h
    obtain ⟨x, r, G, rfl, f, g⟩ := h
    simp at e; subst e
    rw [RepS.of n] at f
    obtain ⟨v, rfl, f⟩ := f
    refine ⟨v, G, rfl, f, ?_⟩
    show RepE K H (.hole :: os) (some v :: r) _
    unfold RepE
    refine ⟨_, r, fun _ => False, rfl, trivial, RepE.mono (fun b q => ⟨q, id⟩) g⟩
  | o :: os, xs, F, k + 1, c, h, e, n => by
    unfold RepE at h
    obtain ⟨x, r, G0, rfl, f, g⟩ := h
    obtain ⟨y, G1, h1, h2, h3⟩ := RepE.out (k := k) g (by simpa using e) n
    refine ⟨y, fun b => ¬ G0 b ∧ G1 b, by simpa using h1, Rep.mono _ _ _ _ (fun b q => ⟨q.1.1, q.1.2, q.2⟩) h2, ?_⟩
    show RepE K H (o :: os.set k .hole) (x :: r) _
    unfold RepE
    refine ⟨x, r, G0, rfl, ?_, RepE.mono (fun b q => ⟨⟨q.1.1, fun z => q.2 z.2⟩, q.1.2⟩) h3⟩
    by_cases ho : o = .hole
    · subst ho; trivial
    · rw [RepS.of ho] at f ⊢
      obtain ⟨v, e, q⟩ := f
      exact ⟨v, e, Rep.mono _ _ _ _ (fun b q => ⟨⟨q.1, fun z => z.1 q.2⟩, q.2⟩) q⟩
/-- a slot gets a value -/
theorem RepE.put : ∀ {os : List O} {xs : L2.St} {F R : Rg} {k : Nat} {c : O} {v : V}, RepE K H (os.set k .hole) xs F → Rep K H c v R → (∀ b, F b → R b → False) →
    RepE K H (os.set k c) (xs.set k (some v)) (fun b => F b ∨ R b)
  | [], xs, F, R, k, c, v, h, r, d => by
    have h : RepE K H [] xs F := h
    unfold RepE at h
    subst h
    show RepE K H [] [] _
    unfold RepE; rfl
  | o :: os, xs, F, R, 0, c, v, h, r, d => by
    have h : RepE K H (.hole :: os) xs F := h
    unfold RepE at h
    obtain ⟨y, q, G, rfl, _, g⟩ := h
    show RepE K H (c :: os) (some v :: q) _
    unfold RepE
    refine ⟨_, q, R, rfl, ?_, RepE.mono (fun b z => ⟨.inl z.1, fun z2 => d b z.1 z2⟩) g⟩
    by_cases ho : c = .hole
    · subst ho; trivial
    · rw [RepS.of ho]
      exact ⟨v, rfl, Rep.mono _ _ _ _ (fun b z => ⟨.inr z, z⟩) r⟩
  | o :: os, xs, F, R, k + 1, c, v, h, r, d => by
    have h : RepE K H (o :: os.set k .hole) xs F := h
    unfold RepE at h
    obtain ⟨y, q, G, rfl, f, g⟩ := h
    have ih := RepE.put (k := k) g r fun b z => d b z.1
    show RepE K H (o :: os.set k c) (y :: q.set k (some v)) _
    unfold RepE
    refine ⟨y, _, fun b => F b ∧ G b, rfl, ?_, RepE.mono (fun b z => z.elim (fun z => ⟨.inl z.1, fun w => z.2 w.2⟩) fun z => ⟨.inr z, fun w => d b w.1 z⟩) ih⟩
    by_cases ho : o = .hole
    · subst ho; trivial
    · rw [RepS.of ho] at f ⊢
      obtain ⟨v, e, q⟩ := f
      exact ⟨v, e, Rep.mono _ _ _ _ (fun b z => ⟨.inl z.1, z⟩) q⟩
theorem RepE.drop : ∀ {os : List O} {xs : L2.St} {F : Rg} (k : Nat), RepE K H os xs F → RepE K H (os.set k .hole) xs F
  | [], _, _, _, h => h
  | o :: os, xs, F, 0, h => by
    unfold RepE at h
    obtain ⟨x, r, G, rfl, f, g⟩ := h
    show RepE K H (.hole :: os) _ _
    unfold RepE
    exact ⟨x, r, G, rfl, trivial, g⟩
  | o :: os, xs, F, k + 1, h => by
    unfold RepE at h
    obtain ⟨x, r, G, rfl, f, g⟩ := h
    show RepE K H (o :: os.set k .hole) _ _
    unfold RepE
    exact ⟨x, r, G, rfl, f, RepE.drop k g⟩
theorem set_same {α : Type} : ∀ {l : List α} {k : Nat} {x : α}, l[k]? = some x → l.set k x = l
  | [], _, _, _ => rfl
  | y :: l, 0, x, h => by simp at h; rw [h]; rfl
  | y :: l, k + 1, x, h => by
    show y :: l.set k x = y :: l
    rw [set_same (by simpa using h)]
theorem RepE.back {os : List O} {xs : L2.St} {F R : Rg} {k : Nat} {c : O} {v : V} (h : RepE K H (os.set k .hole) xs F) (e : xs[k]? = some (some v)) (r : Rep K H c v R) (d : ∀ b, F b → R b → False) :
    RepE K H (os.set k c) xs (fun b => F b ∨ R b) := by
  have := RepE.put h r d
  rwa [set_same e] at this

/-- what stands at a path of a slot is taken out -/
theorem RepE.pathOut {e : Env} {σ : L2.St} {F : Rg} {i : Nat} {p : List Nat} {c : O} (h : RepE K H e σ F) (g : eget e i p = some c) (n : isOwn c = true) :
    ∃ x, ∃ G : Rg, PathS H σ i p x ∧ Rep K H c x (fun b => F b ∧ G b) ∧ RepE K H (eput e i p .hole) σ (fun b => F b ∧ ¬ G b) := by
  unfold eget at g
  cases he : e[i]? with
  | none => rw [he] at g; cases g
  | some o =>
    rw [he] at g
    have g : o.get p = some c := g
    have no : o ≠ .hole := by
      rintro rfl
      cases p with
      | nil => rw [O.get] at g; cases g; cases n
      | cons s p => rw [O.get] at g; cases g
    obtain ⟨v, G0, h1, h2, h3⟩ := h.out he no
    obtain ⟨x, G1, k1, k2, k3⟩ := h2.pathOut g
    refine ⟨x, fun b => G0 b ∧ G1 b, ⟨v, h1, k1⟩, Rep.mono _ _ _ _ (fun b q => ⟨q.1.1, q.1.2, q.2⟩) k2, ?_⟩
    unfold eput
    rw [he]
    show RepE K H (e.set i (o.put p .hole)) σ _
    exact RepE.mono (fun b q => q.elim (fun q => ⟨q.1, fun w => q.2 w.1⟩) fun q => ⟨q.1.1, fun w => q.2 w.2⟩) (RepE.back h3 h1 k3 fun b q w => q.2 w.1.2)
theorem RepE.pathBack {e : Env} {σ : L2.St} {F R : Rg} {i : Nat} {p : List Nat} {c c0 : O} {x : V} (h : RepE K H (eput e i p .hole) σ F) (g : eget e i p = some c0) (n : isOwn c0 = true) (hp : PathS H σ i p x) (r : Rep K H c x R)
    (d : ∀ b, F b → R b → False) : RepE K H (eput e i p c) σ (fun b => F b ∨ R b) := by
  unfold eget at g
  cases he : e[i]? with
  | none => rw [he] at g; cases g
  | some o =>
    rw [he] at g
    have g : o.get p = some c0 := g
    unfold eput at h ⊢
    rw [he] at h ⊢
    have h : RepE K H (e.set i (o.put p .hole)) σ F := h
    show RepE K H (e.set i (o.put p c)) σ _
    obtain ⟨v, h1, h2⟩ := hp
    have hl := (List.getElem?_eq_some_iff.mp he).1
    have hi : (e.set i (o.put p .hole))[i]? = some (o.put p .hole) := List.getElem?_set_self hl
    cases p with
    | nil =>
      have h2 : x = v := h2
      subst h2
      rw [O.put] at h ⊢
      exact RepE.back h h1 r d
    | cons s q =>
      have nh : o.put (s :: q) .hole ≠ .hole := by
        rw [O.put]
        rw [O.get] at g
        cases hs : o.sub s with
        | none => rw [hs] at g; cases g
        | some y =>
          cases o with
          | hole => cases hs
          | val d => cases hs
          | lst l => exact fun z => nomatch z
          | dct l => exact fun z => nomatch z
      obtain ⟨v', G, k1, k2, k3⟩ := h.out hi nh
      rw [h1] at k1; cases k1
      rw [List.set_set] at k3
      have ih := Rep.pathBack k2 g h2 r fun b q w => d b q.1 w
      have := RepE.back k3 h1 ih fun b q w => w.elim (fun w => q.2 w.2) fun w => d b q.1 w
      exact RepE.mono (fun b q => q.elim (fun q => .inl q.1) fun q => q.elim (fun q => .inl q.1) .inr) this
theorem RepE.at {e : Env} {σ : L2.St} {F : Rg} {i : Nat} {p : List Nat} {c : O} {x : V} (h : RepE K H e σ F) (g : eget e i p = some c) (n : isOwn c = true) (hp : PathS H σ i p x) : Rep K H c x F := by
  obtain ⟨y, G, ⟨v, h1, h2⟩, h3, _⟩ := h.pathOut g n
  obtain ⟨w, k1, k2⟩ := hp
  rw [h1] at k1; cases k1
  rw [k2.inj h2]
  exact Rep.mono _ _ _ _ (fun b q => q.1) h3
theorem RepE.path {e : Env} {σ : L2.St} {F : Rg} {i : Nat} {p : List Nat} {c : O} (h : RepE K H e σ F) (g : eget e i p = some c) (n : isOwn c = true) : ∃ x, PathS H σ i p x := by
  obtain ⟨y, G, q, _⟩ := h.pathOut g n
  exact ⟨y, q⟩
end
end Ev

set_option Elab.async false
set_option linter.all false
set_option maxRecDepth 100000
/-! Ev: freezing; what an evaluation may change; the judgements of expressions. -/
namespace Ev
open PySem PySem.Spec PyProof.Rows L2

/-- what may be locked -/
def OwnO : HO → Prop
  | .lst _ => True
  | .dK _ => True
  | _ => False
/-- the region's lists and dicts are locked -/
def FrzStep (R : Rg) (H H' : Hp) : Prop := ∀ b, (∃ ob u, R b ∧ H b = some u ∧ OwnO u ∧ H' b = some (.frz ob u)) ∨ (H' b = H b ∧ ∀ u, R b → H b = some u → OwnO u → False)
section
variable {K : PySem.W.Frag} {H H' : Hp} {R F : Rg}
theorem FrzStep.keep (h : FrzStep R H H') : Keep H H' := by
  refine ⟨fun b xs e => ?_, fun b o u e => ?_⟩
  · rcases h b with ⟨_, u, _, e2, q, _⟩ | ⟨e2, _⟩
    · rw [e] at e2; cases e2; exact False.elim q
    · rw [e2, e]
  · rcases h b with ⟨_, u, _, e2, q, _⟩ | ⟨e2, _⟩
    · rw [e] at e2; cases e2; exact False.elim q
    · rw [e2, e]
theorem FrzStep.hold (h : FrzStep R H H') (d : ∀ b, F b → R b → False) : Hold F H H' := fun b u fb e => by
  rcases h b with ⟨_, _, rb, _⟩ | ⟨e2, _⟩
  · exact (d b fb rb).elim
  · rw [e2, e]
theorem FrzStep.trk (h : FrzStep R H H') {b : Addr} {u : HO} (e : H b = some u) : ∃ u', H' b = some u' := by
  rcases h b with ⟨_, _, _, _, _, q⟩ | ⟨e2, _⟩
  · exact ⟨_, q⟩
  · exact ⟨u, by rw [e2, e]⟩
theorem FrzStep.none (h : FrzStep R H H') {b : Addr} (e : H' b = none) : H b = none := by
  rcases h b with ⟨_, _, _, _, _, q⟩ | ⟨e2, _⟩
  · rw [e] at q; cases q
  · rw [← e2, e]
theorem FrzStep.at (h : FrzStep R H H') {b : Addr} {u : HO} (rb : R b) (e : H b = some u) (q : OwnO u) : ∃ ob, H' b = some (.frz ob u) := by
  rcases h b with ⟨ob, u', _, e2, _, e3⟩ | ⟨_, n⟩
  · rw [e] at e2; cases e2; exact ⟨ob, e3⟩
  · exact (n u rb e q).elim
theorem FrzStep.other (h : FrzStep R H H') {b : Addr} (n : ¬ R b) : H' b = H b := by
  rcases h b with ⟨_, _, rb, _⟩ | ⟨e2, _⟩
  · exact absurd rb n
  · exact e2
mutual
theorem Rep.freeze (h : FrzStep R H H') : ∀ (o : O) (v : V) (F : Rg) (d : PyData), (∀ b, F b → R b) → O.froz o = some d → Rep K H o v F → Fz K H' d v
  | .hole, _, _, _, _, e, _ => by simp [O.froz] at e
  | .val c, v, F, d, m, e, r => by
    unfold Rep at r
    simp [O.froz] at e
    subst e
    exact Fz.keep h.keep c v r
  | .lst os, v, F, d, m, e, r => by
    unfold Rep at r
    rw [O.froz] at e
    obtain ⟨ds, e1, rfl⟩ := Option.map_eq_some_iff.mp e
    obtain ⟨a, xs, rfl, fa, ha, r⟩ := r
    obtain ⟨ob, q⟩ := h.at (m a fa) ha trivial
    unfold Fz
    exact ⟨a, xs, rfl, .inl ⟨ob, q⟩, RepL.freeze h os xs _ ds (fun b z => m b z.1) e1 r⟩
  | .dct kvs, v, F, d, m, e, r => by
    unfold Rep at r
    rw [O.froz] at e
    obtain ⟨ds, e1, rfl⟩ := Option.map_eq_some_iff.mp e
    obtain ⟨a, u, es, rfl, fa, ha, dd, r⟩ := r
    obtain ⟨ob, q⟩ := h.at (m a fa) ha (by obtain ⟨kvs, rfl, _⟩ := dd; trivial)
    unfold Fz
    exact ⟨a, es, rfl, ⟨ob, u, q, dd⟩, RepK.freeze h kvs es _ ds (fun b z => m b z.1) e1 r⟩
theorem RepL.freeze (h : FrzStep R H H') : ∀ (os : List O) (xs : List V) (F : Rg) (ds : List PyData), (∀ b, F b → R b) → O.frozL os = some ds → RepL K H os xs F → FzAll K H' ds xs
  | [], xs, F, ds, m, e, r => by
    unfold RepL at r
    simp [O.frozL] at e
    subst e
    unfold FzAll
    exact r
  | o :: os, xs, F, ds, m, e, r => by
    unfold RepL at r
    rw [O.frozL] at e
    split at e
    · rename_i d es h1 h2
      cases e
      obtain ⟨x, r, G, rfl, f, g⟩ := r
      unfold FzAll
      exact ⟨x, r, rfl, Rep.freeze h o x _ d (fun b z => m b z.1) h1 f, RepL.freeze h os r _ es (fun b z => m b z.1) h2 g⟩
    · cases e
theorem RepK.freeze (h : FrzStep R H H') : ∀ (os : List (PyData × O)) (xs : List (V × V)) (F : Rg) (ds : List (PyData × PyData)), (∀ b, F b → R b) → O.frozK os = some ds → RepK K H os xs F → FzKvs K H' ds xs
  | [], xs, F, ds, m, e, r => by
    unfold RepK at r
    simp [O.frozK] at e
    subst e
    unfold FzKvs
    exact r
  | (k, o) :: os, xs, F, ds, m, e, r => by
    unfold RepK at r
    rw [O.frozK] at e
    split at e
    · rename_i d es h1 h2
      cases e
      obtain ⟨y, x, r, G, rfl, f0, f, g⟩ := r
      unfold FzKvs
      exact ⟨y, x, r, rfl, Fz.keep h.keep k y f0, Rep.freeze h o x _ d (fun b z => m b z.1) h1 f, RepK.freeze h os r _ es (fun b z => m b z.1) h2 g⟩
    · cases e
end
end

open Classical in
theorem inv_freeze {X : Cx} {pins : List (Addr × Obj)} {σ : L2.St} {H : Hp} {s : Shared} (I : Inv X pins σ H s) (R : Rg) : ∃ H', FrzStep R H H' ∧ Inv X pins σ H' s := by
  let H' : Hp := fun b => match H b with
    | some u => if R b ∧ OwnO u then (match s.heap.get? b with
      | some ob => some (.frz ob u)
      | none => some u) else some u
    | none => none
  have get : ∀ b u, H b = some u → OwnO u → ∃ ob, s.heap.get? b = some ob := fun b u e q => by
    have ok := I.hok b u e
    cases u with
    | lst xs => obtain ⟨_, _, _, _, g⟩ := ok; exact ⟨_, g⟩
    | dK kvs => obtain ⟨_, _, _, _, o, _, _, g, _⟩ := ok; exact ⟨_, g⟩
    | _ => exact False.elim q
  have hn : ∀ b, H b = none → H' b = none := fun b e => by show (match H b with | some u => _ | none => _) = _; rw [e]
  have hy : ∀ b u, H b = some u → R b → OwnO u → ∃ ob, s.heap.get? b = some ob ∧ H' b = some (.frz ob u) := fun b u e rb q => by
    obtain ⟨ob, g⟩ := get b u e q
    refine ⟨ob, g, ?_⟩
    show (match H b with | some u => _ | none => _) = _
    rw [e]
    show (if R b ∧ OwnO u then _ else _) = _
    rw [if_pos ⟨rb, q⟩, g]
  have hs : ∀ b u, H b = some u → ¬ (R b ∧ OwnO u) → H' b = some u := fun b u e q => by
    show (match H b with | some u => _ | none => _) = _
    rw [e]
    show (if R b ∧ OwnO u then _ else _) = _
    rw [if_neg q]
  have tup : ∀ b xs, H b = some (.tup xs) → H' b = some (.tup xs) := fun b xs e => hs b _ e fun q => q.2
  have own : ∀ b c, H b = some (.own c) → H' b = some (.own c) := fun b c e => hs b _ e fun q => q.2
  have ok : HOk X.prog X.w H' s.heap := fun b u e => by
    cases eb : H b with
    | none => rw [hn b eb] at e; cases e
    | some w =>
      have st : ObjOk X.prog X.w H' s.heap b w := (I.hok b w eb).stay (fun c v _ q => q) (fun c q => own c b q) tup
      by_cases q : R b ∧ OwnO w
      · obtain ⟨ob, g, e2⟩ := hy b w eb q.1 q.2
        rw [e2] at e; cases e
        exact ⟨g, st⟩
      · rw [hs b w eb q] at e; cases e
        exact st
  refine ⟨H', fun b => ?_, I.un (t' := s.toks) (h' := s.heap) ⟨fun _ _ e _ _ _ => e, fun b o e _ _ _ => ⟨o.slots, e⟩, fun b o _ n _ => hn b n, fun b o e _ => ⟨o, e⟩, tup, fun b o u e => hs b _ e fun q => q.2, fun b ps e => ⟨#[], by rw [hs b _ e fun q => q.2]; simp⟩⟩ ok⟩
  cases eb : H b with
  | none => exact .inr ⟨by rw [hn b eb], fun u _ e => by cases e⟩
  | some w =>
    by_cases q : R b ∧ OwnO w
    · obtain ⟨ob, g, e2⟩ := hy b w eb q.1 q.2
      exact .inl ⟨ob, w, q.1, rfl, q.2, e2⟩
    · exact .inr ⟨by rw [hs b w eb q], fun u rb e ow => by cases e; exact q ⟨rb, ow⟩⟩

section
variable {X : Cx}
theorem pe_imp {ex : Expr} {t u : TE} (h : PE X ex t) (i : ∀ σ H Q, u σ H Q → t σ H Q) : PE X ex u := ⟨fun pins s σ H Q I q => h.run pins s σ H Q I (i σ H Q q)⟩
theorem pt_imp {ex : Expr} {t u : TT} (h : PT X ex t) (i : ∀ σ H Q, u σ H Q → t σ H Q) : PT X ex u := ⟨fun pins s σ H Q I q => h.run pins s σ H Q I (i σ H Q q)⟩
theorem pw_imp {ex : Expr} {t u : TT} (h : PW X ex t) (i : ∀ σ H Q, u σ H Q → t σ H Q) : PW X ex u := ⟨fun wh pins s σ H Q I q => h.run wh pins s σ H Q I (i σ H Q q)⟩
theorem pa_imp {es : List Expr} {t u : TA} (h : PA X es t) (i : ∀ σ H Q, u σ H Q → t σ H Q) : PA X es u := ⟨fun ps pins s σ H Q I q => h.run ps pins s σ H Q I (i σ H Q q)⟩
theorem ps_imp {st : Stmt} {t u : TS} (h : PS X st t) (i : ∀ D σ H, u D σ H → t D σ H) : PS X st u := ⟨fun pins s σ H D I q => h.run pins s σ H D I (i D σ H q)⟩
theorem pss_imp {st : List Stmt} {t u : TS} (h : PSs X st t) (i : ∀ D σ H, u D σ H → t D σ H) : PSs X st u := ⟨fun pins s σ H D I q => h.run pins s σ H D I (i D σ H q)⟩
/-- behind an expression something may be frozen -/
theorem pe_frz {ex : Expr} {t : TE} (h : PE X ex t) : PE X ex (fun σ H Q => t σ H fun v H1 => ∃ R : Rg, ∀ H2, FrzStep R H1 H2 → Q v H2) := ⟨fun pins s σ H Q I q =>
  thn (h.run pins s σ H _ I q) fun v s1 ⟨x, H1, I1, r1, R, q1⟩ => by
    obtain ⟨H2, f, I2⟩ := inv_freeze I1 R
    exact ⟨x, H2, I2, r1, q1 H2 f⟩⟩
theorem pa_frz {es : List Expr} {t : TA} (h : PA X es t) : PA X es (fun σ H Q => t σ H fun v H1 => ∃ R : Rg, ∀ H2, FrzStep R H1 H2 → Q v H2) := ⟨fun ps pins s σ H Q I q =>
  thn (h.run ps pins s σ H _ I q) fun v s1 ⟨x, H1, I1, r1, R, q1⟩ => by
    obtain ⟨H2, f, I2⟩ := inv_freeze I1 R
    exact ⟨x, H2, I2, r1, q1 H2 f⟩⟩
end

/-! ### what an evaluation may change -/
def Trk (H : Hp) (F : Rg) : Prop := ∀ b, F b → ∃ u, H b = some u
structure Post (H : Hp) (F : Rg) (H' : Hp) (F' R : Rg) : Prop where
  keep : Keep H H'
  frm : ∀ b u, H b = some u → ¬ F b → H' b = some u
  new : ∀ b, F' b ∨ R b → F b ∨ H b = none
  dis : ∀ b, F' b → R b → False
  trk : ∀ b, F' b ∨ R b → ∃ u, H' b = some u
def Same2 (H H' : Hp) : Prop := ∀ b u, H b = some u → H' b = some u
/-- something new is laid -/
structure Fresh (H H' : Hp) (R : Rg) : Prop where
  same : Same2 H H'
  new : ∀ b, R b → H b = none
  trk : ∀ b, R b → ∃ u, H' b = some u
section
variable {H H1 H2 : Hp} {F F1 F2 R R1 R2 : Rg}
theorem Fresh.refl (H : Hp) : Fresh H H fun _ => False := ⟨fun _ _ h => h, fun _ h => h.elim, fun _ h => h.elim⟩
theorem Post.refl (t : Trk H F) : Post H F H F fun _ => False := ⟨.refl H, fun _ _ e _ => e, fun _ h => h.elim .inl False.elim, fun _ _ h => h, fun b h => h.elim (t b) False.elim⟩
theorem Post.hold (a : Post H F H1 F1 R1) (b : Post H1 F1 H2 F2 R2) : Hold R1 H1 H2 := fun c u rc e => b.frm c u e fun fc => a.dis c fc rc
theorem Post.trans (a : Post H F H1 F1 R1) (b : Post H1 F1 H2 F2 R2) : Post H F H2 F2 (fun c => R1 c ∨ R2 c) where
  keep := a.keep.trans b.keep
  frm := fun c u e n => b.frm c u (a.frm c u e n) fun fc => (a.new c (.inl fc)).elim n fun z => by rw [e] at z; cases z
  new := fun c h => by
    have go : F1 c ∨ H1 c = none → F c ∨ H c = none := fun q => q.elim (fun q => a.new c (.inl q)) fun q => by
      cases e : H c with
      | none => exact .inr rfl
      | some u =>
        by_cases fc : F c
        · exact .inl fc
        · rw [a.frm c u e fc] at q; cases q
    rcases h with h | h | h
    · exact go (b.new c (.inl h))
    · exact a.new c (.inr h)
    · exact go (b.new c (.inr h))
  dis := fun c f2 r => by
    rcases r with r | r
    · rcases b.new c (.inl f2) with q | q
      · exact a.dis c q r
      · obtain ⟨u, e⟩ := a.trk c (.inr r); rw [q] at e; cases e
    · exact b.dis c f2 r
  trk := fun c h => by
    rcases h with h | h | h
    · exact b.trk c (.inl h)
    · obtain ⟨u, e⟩ := a.trk c (.inr h)
      exact ⟨u, a.hold b c u h e⟩
    · exact b.trk c (.inr h)
theorem Post.apart (a : Post H F H1 F1 R1) (b : Post H1 F1 H2 F2 R2) : ∀ c, R1 c → R2 c → False := fun c h1 h2 => by
  rcases b.new c (.inr h2) with q | q
  · exact a.dis c q h1
  · obtain ⟨u, e⟩ := a.trk c (.inr h1); rw [q] at e; cases e
theorem Post.mono {R' : Rg} (a : Post H F H1 F1 R1) (m : ∀ b, R' b → R1 b) : Post H F H1 F1 R' := ⟨a.keep, a.frm, fun b h => a.new b (h.elim .inl fun h => .inr (m b h)), fun b f r => a.dis b f (m b r), fun b h => a.trk b (h.elim .inl fun h => .inr (m b h))⟩
theorem Post.fmono {F' : Rg} (a : Post H F H1 F1 R1) (m : ∀ b, F' b → F1 b) : Post H F H1 F' R1 := ⟨a.keep, a.frm, fun b h => a.new b (h.elim (fun h => .inl (m b h)) .inr), fun b f r => a.dis b (m b f) r, fun b h => a.trk b (h.elim (fun h => .inl (m b h)) .inr)⟩
theorem Fresh.post (t : Trk H F) (a : Fresh H H1 R) : Post H F H1 F R where
  keep := .of a.same
  frm := fun b u e _ => a.same b u e
  new := fun b h => h.elim .inl fun h => .inr (a.new b h)
  dis := fun b f r => by obtain ⟨u, e⟩ := t b f; rw [a.new b r] at e; cases e
  trk := fun b h => h.elim (fun f => by obtain ⟨u, e⟩ := t b f; exact ⟨u, a.same b u e⟩) (a.trk b)
theorem Post.trkF (a : Post H F H1 F1 R1) : Trk H1 F1 := fun b h => a.trk b (.inl h)
theorem Fresh.trans (a : Fresh H H1 R1) (b : Fresh H1 H2 R2) : Fresh H H2 (fun c => R1 c ∨ R2 c) := ⟨fun c u e => b.same c u (a.same c u e), fun c h => h.elim (a.new c) (fun h => by
    cases e : H c with
    | none => rfl
    | some u => have := a.same c u e; rw [b.new c h] at this; cases this),
  fun c h => h.elim (fun h => by obtain ⟨u, e⟩ := a.trk c h; exact ⟨u, b.same c u e⟩) (b.trk c)⟩
end

def RepW (K : PySem.W.Frag) (H : Hp) (σ : L2.St) (e : Env) (w : W) (v : V) (R : Rg) : Prop := match w with
  | .val d => Fz K H d v
  | .own o => Rep K H o v R
  | .at i p => PathS H σ i p v ∧ (p ≠ [] → ∃ o, eget e i p = some o ∧ isOwn o = true)
def RepWs (K : PySem.W.Frag) (H : Hp) (σ : L2.St) (e : Env) : List W → List V → Rg → Prop
  | [], vs, _ => vs = []
  | w :: ws, vs, R => ∃ x r, ∃ G : Rg, vs = x :: r ∧ RepW K H σ e w x (fun b => R b ∧ G b) ∧ RepWs K H σ e ws r (fun b => R b ∧ ¬ G b)

/-- an expression's reading, by the interpreter's function; p: it is pure -/
def tE (K : PySem.W.Frag) (f : EF) (p : Bool) : TE := fun σ H Q => ∃ e, ∃ F : Rg, ∃ w e', Trk H F ∧ RepE K H e σ F ∧ f e = .ok (w, e') ∧
  ∀ v H' (F' R : Rg), RepE K H' e' σ F' → RepW K H' σ e' w v R → Post H F H' F' R → (p = true → e' = e ∧ Same2 H H') → Q v H'
def tL (K : PySem.W.Frag) (f : LF) (p : Bool) : TA := fun σ H Q => ∃ e, ∃ F : Rg, ∃ ws e', Trk H F ∧ RepE K H e σ F ∧ f e = .ok (ws, e') ∧
  ∀ vs H' (F' R : Rg), RepE K H' e' σ F' → RepWs K H' σ e' ws vs R → Post H F H' F' R → (p = true → e' = e ∧ Same2 H H') → Q vs H'

section
variable {K : PySem.W.Frag} {H H' : Hp} {σ : L2.St} {e : Env} {F R R' : Rg}
theorem RepW.mono {w : W} {v : V} (m : ∀ b, R b → R' b) (h : RepW K H σ e w v R) : RepW K H σ e w v R' := by
  cases w with
  | val d => exact h
  | own o => exact Rep.mono _ _ _ _ m h
  | «at» i p => exact h
theorem RepWs.mono : ∀ {ws : List W} {vs : List V} {R R' : Rg}, (∀ b, R b → R' b) → RepWs K H σ e ws vs R → RepWs K H σ e ws vs R'
  | [], _, _, _, _, h => h
  | w :: ws, vs, R, R', m, ⟨x, r, G, e1, h1, h2⟩ => ⟨x, r, G, e1, h1.mono fun b q => ⟨m b q.1, q.2⟩, RepWs.mono (fun b q => ⟨m b q.1, q.2⟩) h2⟩
theorem RepWs.cons {w : W} {ws : List W} {v : V} {vs : List V} {R1 R2 : Rg} (h : RepW K H σ e w v R1) (g : RepWs K H σ e ws vs R2) (d : ∀ b, R1 b → R2 b → False) : RepWs K H σ e (w :: ws) (v :: vs) (fun b => R1 b ∨ R2 b) :=
  ⟨v, vs, R1, rfl, h.mono fun b q => ⟨.inl q, q⟩, RepWs.mono (fun b q => ⟨.inr q, fun z => d b z q⟩) g⟩
/-- its content, as it stands -/
theorem RepW.rep {w : W} {v : V} {o : O} (hE : RepE K H e σ F) (h : RepW K H σ e w v R) (hc : content e w = some o) : Rep K H o v (fun b => F b ∨ R b) := by
  cases w with
  | val d => cases hc; unfold Rep; exact h
  | own o' => cases hc; exact Rep.mono _ _ _ _ (fun b q => .inr q) h
  | «at» i p =>
    obtain ⟨h1, h2⟩ := h
    have hc : eget e i p = some o := hc
    cases p with
    | nil =>
      unfold eget at hc
      cases he : e[i]? with
      | none => rw [he] at hc; cases hc
      | some x =>
        rw [he] at hc
        have hx : x.get [] = some o := hc
        rw [O.get] at hx; cases hx
        by_cases n : o = O.hole
        · subst n; unfold Rep; trivial
        · obtain ⟨y, G, k1, k2, _⟩ := hE.out he n
          obtain ⟨z, g1, g2⟩ := h1
          rw [k1] at g1; cases g1
          have g2 : v = y := g2
          subst g2
          exact Rep.mono _ _ _ _ (fun b q => .inl q.1) k2
    | cons s q =>
      obtain ⟨o', h2, h3⟩ := h2 (by simp)
      rw [h2] at hc; cases hc
      exact Rep.mono _ _ _ _ (fun b q => .inl q) (hE.at h2 h3 h1)
/-- a value that was read stays so, while what comes next is evaluated -/
theorem RepW.later {w : W} {v : V} {e2 : Env} {H1 H2 : Hp} {F1 F2 R1 R2 : Rg} {q : Bool} (h : RepW K H1 σ e w v R1) (a : Post H F H1 F1 R1) (b : Post H1 F1 H2 F2 R2) (hq : q = true → e2 = e ∧ Same2 H1 H2)
    (hn : (q || !w.nested) = true) : RepW K H2 σ e2 w v R1 := by
  cases w with
  | val d => exact Fz.keep b.keep d v h
  | own o => exact Rep.frame b.keep _ _ _ (a.hold b) h
  | «at» i p =>
    obtain ⟨h1, h2⟩ := h
    cases q with
    | true =>
      obtain ⟨e1, e3⟩ := hq rfl
      subst e1
      exact ⟨h1.same e3, h2⟩
    | false =>
      cases p with
      | nil =>
        obtain ⟨x, k1, k2⟩ := h1
        exact ⟨⟨x, k1, k2⟩, fun z => absurd rfl z⟩
      | cons s p => cases hn
end
end Ev

set_option Elab.async false
set_option linter.all false
set_option maxRecDepth 100000
/-! Ev: expressions, rule by rule. -/
namespace Ev
open PySem PySem.Spec PyProof.Rows L2
structure EvE (X : Cx) (ex : Expr) (f : EF) (p : Bool) : Prop where
  run : PE X ex (tE X.K f p)
structure EvL (X : Cx) (es : List Expr) (f : LF) (p : Bool) : Prop where
  run : PA X es (tL X.K f p)

section
variable {K : PySem.W.Frag} {σ : L2.St} {H : Hp}
theorem tE_mono {f : EF} {p : Bool} {Q Q' : VK} (h : tE K f p σ H Q) (m : ∀ v H', Q v H' → Q' v H') : tE K f p σ H Q' := by
  obtain ⟨e, F, w, e', t, hE, hf, k⟩ := h
  exact ⟨e, F, w, e', t, hE, hf, fun v H1 F1 R1 a b c d => m _ _ (k v H1 F1 R1 a b c d)⟩
theorem tL_mono {f : LF} {p : Bool} {Q Q' : List V → Hp → Prop} (h : tL K f p σ H Q) (m : ∀ v H', Q v H' → Q' v H') : tL K f p σ H Q' := by
  obtain ⟨e, F, w, e', t, hE, hf, k⟩ := h
  exact ⟨e, F, w, e', t, hE, hf, fun v H1 F1 R1 a b c d => m _ _ (k v H1 F1 R1 a b c d)⟩
theorem tL_nil {p : Bool} {Q : List V → Hp → Prop} (h : tL K lNil p σ H Q) : Q [] H := by
  obtain ⟨e, F, ws, e', t, hE, hf, k⟩ := h
  cases hf
  exact k [] H F (fun _ => False) hE rfl (.refl t) fun _ => ⟨rfl, fun _ _ h => h⟩
theorem tL_cons {f : EF} {g : LF} {p q : Bool} {Q : List V → Hp → Prop} (h : tL K (lCons f q g) (p && q) σ H Q) : tE K f p σ H fun x H1 => tL K g q σ H1 fun xs H2 => Q (x :: xs) H2 := by
  obtain ⟨e, F, ws, e', t, hE, hf, k⟩ := h
  unfold lCons at hf
  obtain ⟨⟨w, e1⟩, h1, hf⟩ := Rs.bind_ok hf
  obtain ⟨_, hc, hf⟩ := Rs.bind_ok hf
  obtain ⟨⟨ws', e2⟩, h2, hf⟩ := Rs.bind_ok hf
  have hc := Rs.chk_ok hc
  cases hf
  refine ⟨e, F, w, e1, t, hE, h1, fun x H1 F1 R1 hE1 hW1 P1 pu1 => ⟨e1, F1, ws', e', P1.trkF, hE1, h2, fun xs H2 F2 R2 hE2 hW2 P2 pu2 => ?_⟩⟩
  refine k (x :: xs) H2 F2 _ hE2 (RepWs.cons (hW1.later P1 P2 pu2 hc) hW2 (P1.apart P2)) (P1.trans P2) fun z => ?_
  rw [Bool.and_eq_true] at z
  obtain ⟨a1, a2⟩ := pu1 z.1
  obtain ⟨b1, b2⟩ := pu2 z.2
  exact ⟨b1.trans a1, fun b u e => b2 b u (a2 b u e)⟩
end
section
variable {X : Cx}
theorem evl_nil : EvL X [] lNil true := ⟨pa_imp pa_nil fun _ _ _ h => tL_nil h⟩
theorem evl_cons {ex : Expr} {es : List Expr} {f : EF} {g : LF} {p q : Bool} (h : EvE X ex f p) (k : EvL X es g q) (hs : starEach (ex :: es) X.env = (false, eval ex X.env) :: starEach es X.env) : EvL X (ex :: es) (lCons f q g) (p && q) :=
  ⟨pa_imp (pa_cons h.run k.run hs) fun _ _ _ z => tL_cons z⟩
end

/-- the values' contents -/
def Reps (K : PySem.W.Frag) (H : Hp) (F : Rg) : List O → List V → Prop
  | [], vs => vs = []
  | o :: os, vs => ∃ v r, vs = v :: r ∧ Rep K H o v F ∧ Reps K H F os r
section
variable {K : PySem.W.Frag} {σ : L2.St} {H : Hp}
theorem Reps.mono {F F' : Rg} (m : ∀ b, F b → F' b) : ∀ {os : List O} {vs : List V}, Reps K H F os vs → Reps K H F' os vs
  | [], _, h => h
  | _ :: _, _, ⟨v, r, e, h, g⟩ => ⟨v, r, e, Rep.mono _ _ _ _ m h, Reps.mono m g⟩
theorem reps_of {e : Env} {F : Rg} (hE : RepE K H e σ F) : ∀ {ws : List W} {vs : List V} {os : List O} {R : Rg}, RepWs K H σ e ws vs R → contents e ws = some os → Reps K H (fun b => F b ∨ R b) os vs
  | [], vs, os, R, h, e1 => by cases e1; exact h
  | w :: ws, vs, os, R, ⟨x, r, G, e0, h1, h2⟩, e1 => by
    unfold contents at e1
    split at e1
    · rename_i o os' c1 c2
      cases e1
      exact ⟨x, r, e0, Rep.mono _ _ _ _ (fun b q => q.elim .inl fun q => .inr q.1) (h1.rep hE c1), Reps.mono (fun b q => q.elim .inl fun q => .inr q.1) (reps_of hE h2 c2)⟩
    · cases e1
theorem RepW.mk {o : O} {v : V} {R : Rg} {e : Env} (h : Rep K H o v R) : RepW K H σ e (mkW o) v R := by
  cases o with
  | hole => exact h
  | val d => unfold Rep at h; exact h
  | lst l => exact h
  | dct l => exact h
/-- an operation that makes something new: what is asked of the values -/
def opWish (K : PySem.W.Frag) (F : List O → Rs O) (vs : List V) (H : Hp) (Q : VK) : Prop :=
  ∃ os, ∃ G : Rg, ∃ o, Reps K H G os vs ∧ F os = .ok o ∧ ∀ v H' (R : Rg), Rep K H' o v R → Fresh H H' R → Q v H'
theorem tE_op {F : List O → Rs O} {l : LF} {p : Bool} {Q : VK} (h : tE K (eOp F l) p σ H Q) : tL K l p σ H fun vs H1 => opWish K F vs H1 Q := by
  obtain ⟨e, Fr, w, e', t, hE, hf, k⟩ := h
  unfold eOp at hf
  obtain ⟨⟨ws, e1⟩, h1, hf⟩ := Rs.bind_ok hf
  obtain ⟨os, h2, hf⟩ := Rs.bind_ok hf
  obtain ⟨o, h3, hf⟩ := Rs.bind_ok hf
  have h2 := Rs.of_ok h2
  cases hf
  refine ⟨e, Fr, ws, e', t, hE, h1, fun vs H1 F1 R1 hE1 hW1 P1 pu => ⟨os, _, o, reps_of hE1 hW1 h2, h3, fun v H2 R2 hr fr => ?_⟩⟩
  have P2 := fr.post P1.trkF
  refine k v H2 F1 R2 (RepE.frame P2.keep (fun b u _ e => fr.same b u e) hE1) (.mk hr) ((P1.trans P2).mono fun b q => .inr q) fun z => ?_
  obtain ⟨a1, a2⟩ := pu z
  exact ⟨a1, fun b u e => fr.same b u (a2 b u e)⟩
end
section
variable {X : Cx}
/-- binary operations by values -/
def OpD (X : Cx) (f : Value → Value → Sem Value) (F : List O → Rs O) : Prop := OpR X f fun x y H Q => opWish X.K F [x, y] H Q
def UnD (X : Cx) (f : Value → Sem Value) (F : List O → Rs O) : Prop := UnR X f fun x H Q => opWish X.K F [x] H Q
def CallD (X : Cx) (f : Value) (F : List O → Rs O) : Prop := CallR X f fun xs H Q => opWish X.K F xs H Q
theorem tL_two {K : PySem.W.Frag} {σ : L2.St} {H : Hp} {f g : EF} {p q : Bool} {Q : List V → Hp → Prop} (h : tL K (lTwo f q g) (p && q) σ H Q) : tE K f p σ H fun x H1 => tE K g q σ H1 fun y H2 => Q [x, y] H2 := by
  have h1 := tL_cons h
  obtain ⟨e, F, w, e', t, hE, hf, k⟩ := h1
  refine ⟨e, F, w, e', t, hE, hf, fun v H1 F1 R1 a b c d => ?_⟩
  have h2 := k v H1 F1 R1 a b c d
  have h3 : tL K (lCons g true lNil) (q && true) σ H1 fun xs H2 => Q (v :: xs) H2 := by rw [Bool.and_true]; exact h2
  have h4 := tL_cons h3
  obtain ⟨e2, F2, w2, e3, t2, hE2, hf2, k2⟩ := h4
  exact ⟨e2, F2, w2, e3, t2, hE2, hf2, fun v2 H2 F3 R3 a2 b2 c2 d2 => tL_nil (k2 v2 H2 F3 R3 a2 b2 c2 d2)⟩
theorem tL_one {K : PySem.W.Frag} {σ : L2.St} {H : Hp} {f : EF} {p : Bool} {Q : List V → Hp → Prop} (h : tL K (lOne f) p σ H Q) : tE K f p σ H fun x H1 => Q [x] H1 := by
  have h1 : tL K (lCons f true lNil) (p && true) σ H Q := by rw [Bool.and_true]; exact h
  have h1 := tL_cons h1
  obtain ⟨e, F, w, e', t, hE, hf, k⟩ := h1
  exact ⟨e, F, w, e', t, hE, hf, fun v H1 F1 R1 a b c d => tL_nil (k v H1 F1 R1 a b c d)⟩
theorem eve_bin {op : Operator} {F : List O → Rs O} {a b : Expr} {f g : EF} {p q : Bool} {pos : Pos} (ho : OpD X (binaryOp op) F) (ha : EvE X a f p) (hb : EvE X b g q) : EvE X (.BinOp a op b pos) (eOp F (lTwo f q g)) (p && q) :=
  ⟨pe_imp (pe_op ho ha.run hb.run) fun _ _ _ h => tL_two (tE_op h)⟩
theorem eve_un {op : UnaryOp} {F : List O → Rs O} {a : Expr} {f : EF} {p : Bool} {pos : Pos} (ho : UnD X (unaryOp op) F) (ha : EvE X a f p) : EvE X (.UnaryOp op a pos) (eOp F (lOne f)) p :=
  ⟨pe_imp (pe_un ho ha.run) fun _ _ _ h => tL_one (tE_op h)⟩
theorem eve_cmp {op : CmpOp} {F : List O → Rs O} {a b : Expr} {f g : EF} {p q : Bool} {pos : Pos} (ho : OpD X (compareOp op) F) (ha : EvE X a f p) (hb : EvE X b g q) (hm : behindInMarks op b = false) :
    EvE X (.Compare a [op] [b] pos) (eOp F (lTwo f q g)) (p && q) := ⟨pe_imp (pe_cmpR ho ha.run hb.run hm) fun _ _ _ h => tL_two (tE_op h)⟩
theorem eve_callB {x : Str} {id : String} {F : List O → Rs O} {ex : Expr} {es : List Expr} {l : LF} {p : Bool} {np pos : Pos} (hc : CallD X (.builtin id) F) (hg : Gl X x) (hm : X.mg x = none) (hv : bootBuiltins x = some (.builtin id)) (ha : EvL X (ex :: es) l p)
    (hn : x ≠ "__name__") (hdb : (x == ("__debug__" : Str)) = false) (he : starEach (ex :: es) X.env = (false, eval ex X.env) :: starEach es X.env) (hpl : (backTo pos (starEach es X.env)).any (·.1) = false) : EvE X (.Call (.Name x np) (ex :: es) [] pos) (eOp F l) p :=
  ⟨pe_imp (pe_callB hc hg hm hv ha.run hn hdb he hpl) fun _ _ _ h => tE_op h⟩
theorem eve_callT {x : Str} {id : String} {F : List O → Rs O} {ex : Expr} {es : List Expr} {l : LF} {p : Bool} {np pos : Pos} (hc : CallD X (.type id) F) (hg : Gl X x) (hm : X.mg x = none) (hv : bootBuiltins x = some (.type id)) (ha : EvL X (ex :: es) l p)
    (hn : x ≠ "__name__") (hdb : (x == ("__debug__" : Str)) = false) (he : starEach (ex :: es) X.env = (false, eval ex X.env) :: starEach es X.env) (hpl : (backTo pos (starEach es X.env)).any (·.1) = false) : EvE X (.Call (.Name x np) (ex :: es) [] pos) (eOp F l) p :=
  ⟨pe_imp (pe_callTy hc hg hm hv ha.run hn hdb he hpl) fun _ _ _ h => tE_op h⟩

theorem same2_refl (H : Hp) : Same2 H H := fun _ _ h => h
theorem eve_val {ex : Expr} {v : V} {d : PyData} (h : PE X ex (tC v)) (hd : ∀ H, Fz X.K H d v) : EvE X ex (eCst d) true :=
  ⟨pe_imp h fun σ H Q z => by
    obtain ⟨e, F, w, e', t, hE, hf, k⟩ := z
    cases hf
    exact k v H F (fun _ => False) hE (hd H) (.refl t) fun _ => ⟨rfl, same2_refl H⟩⟩
theorem eve_var {i : Nat} {x : Str} {pos : Pos} (hN : X.N[i]? = some x) (hv : Vis X.env.scope x) (hd : (x == ("__debug__" : Str)) = false) (hcd : (x == ("__classdict__" : Str)) = false) : EvE X (.Name x pos) (eVar i) true :=
  ⟨pe_imp (pe_var hN hv hd hcd) fun σ H Q z => by
    obtain ⟨e, F, w, e', t, hE, hf, k⟩ := z
    unfold eVar at hf
    split at hf
    · rename_i d he
      cases hf
      obtain ⟨y, G, h1, h2, _⟩ := hE.out he (fun z => nomatch z)
      unfold Rep at h2
      exact ⟨y, h1, k y H F (fun _ => False) hE h2 (.refl t) fun _ => ⟨rfl, same2_refl H⟩⟩
    · rename_i d he
      cases hf
      obtain ⟨y, G, h1, h2, _⟩ := hE.out he (fun z => nomatch z)
      exact ⟨y, h1, k y H F (fun _ => False) hE ⟨⟨y, h1, rfl⟩, fun z => absurd rfl z⟩ (.refl t) fun _ => ⟨rfl, same2_refl H⟩⟩
    · rename_i d he
      cases hf
      obtain ⟨y, G, h1, h2, _⟩ := hE.out he (fun z => nomatch z)
      exact ⟨y, h1, k y H F (fun _ => False) hE ⟨⟨y, h1, rfl⟩, fun z => absurd rfl z⟩ (.refl t) fun _ => ⟨rfl, same2_refl H⟩⟩
    · cases hf⟩
theorem eve_int {i : Int} {j : Nat} {pos : Pos} : EvE X (.Constant (.int i) j pos) (eCst (.int i)) true := eve_val pe_int fun H => by unfold Fz; rfl
theorem eve_bl {b : Bool} {j : Nat} {pos : Pos} : EvE X (.Constant (.bool b) j pos) (eCst (.bool b)) true := eve_val pe_bl fun H => by unfold Fz; rfl
theorem eve_non {j : Nat} {pos : Pos} : EvE X (.Constant .none j pos) (eCst .none) true := eve_val pe_non fun H => by unfold Fz; rfl
theorem eve_str {x : Str} {j : Nat} {pos : Pos} : EvE X (.Constant (.str x) j pos) (eCst (.str x)) true := eve_val pe_str fun H => by unfold Fz; rfl
end
end Ev

set_option Elab.async false
set_option linter.all false
set_option maxRecDepth 100000
/-! Ev: storing, displays, subscripts. -/
namespace Ev
open PySem PySem.Spec PyProof.Rows L2

/-- reached by freezing, step by step -/
inductive Frzs (Q : Hp → Prop) : Hp → Prop where
  | now {H : Hp} : Q H → Frzs Q H
  | step {H : Hp} (R : Rg) : (∀ H2, FrzStep R H H2 → Frzs Q H2) → Frzs Q H
theorem frzs_inv {X : Cx} {pins : List (Addr × Obj)} {σ : L2.St} {s : Shared} {Q : Hp → Prop} {H : Hp} (h : Frzs Q H) (I : Inv X pins σ H s) : ∃ H', Inv X pins σ H' s ∧ Q H' := by
  induction h with
  | now q => exact ⟨_, I, q⟩
  | step R _ ih =>
    obtain ⟨H2, f, I2⟩ := inv_freeze I R
    exact ih H2 f I2
theorem Frzs.mono {P Q : Hp → Prop} (m : ∀ H, P H → Q H) {H : Hp} (h : Frzs P H) : Frzs Q H := by
  induction h with
  | now q => exact .now (m _ q)
  | step R _ ih => exact .step R ih
section
variable {X : Cx}
theorem pe_frzs {ex : Expr} {t : TE} (h : PE X ex t) : PE X ex (fun σ H Q => t σ H fun v H1 => Frzs (Q v) H1) := ⟨fun pins s σ H Q I q =>
  thn (h.run pins s σ H _ I q) fun v s1 ⟨x, H1, I1, r1, q1⟩ => by
    obtain ⟨H2, I2, q2⟩ := frzs_inv q1 I1
    exact ⟨x, H2, I2, r1, q2⟩⟩
theorem pa_frzs {es : List Expr} {t : TA} (h : PA X es t) : PA X es (fun σ H Q => t σ H fun v H1 => Frzs (Q v) H1) := ⟨fun ps pins s σ H Q I q =>
  thn (h.run ps pins s σ H _ I q) fun v s1 ⟨x, H1, I1, r1, q1⟩ => by
    obtain ⟨H2, I2, q2⟩ := frzs_inv q1 I1
    exact ⟨x, H2, I2, r1, q2⟩⟩
end
/-- what freezing within a region leaves -/
structure FRel (S : Rg) (H H2 : Hp) : Prop where
  keep : Keep H H2
  other : ∀ b, ¬ S b → H2 b = H b
  trk : ∀ b u, H b = some u → ∃ u', H2 b = some u'
  back : ∀ b, H2 b = none → H b = none
section
variable {S S' : Rg} {H H1 H2 : Hp}
theorem FRel.refl (S : Rg) (H : Hp) : FRel S H H := ⟨.refl H, fun _ _ => rfl, fun _ u e => ⟨u, e⟩, fun _ e => e⟩
theorem FRel.trans (a : FRel S H H1) (b : FRel S H1 H2) : FRel S H H2 := ⟨a.keep.trans b.keep, fun c n => (b.other c n).trans (a.other c n), fun c u e => by
  obtain ⟨u1, e1⟩ := a.trk c u e
  exact b.trk c u1 e1, fun c e => a.back c (b.back c e)⟩
theorem FRel.mono (m : ∀ b, S b → S' b) (a : FRel S H H1) : FRel S' H H1 := ⟨a.keep, fun c n => a.other c fun z => n (m c z), a.trk, a.back⟩
theorem FrzStep.rel {R : Rg} (h : FrzStep R H H1) : FRel R H H1 := ⟨h.keep, fun b n => h.other n, fun b u e => h.trk e, fun b e => h.none e⟩
/-- behind an evaluation, then freezing of what it left -/
theorem Post.frz {H0 : Hp} {F0 F R F2 R2 : Rg} (p : Post H0 F0 H F R) (f : FRel (fun b => F b ∨ R b) H H2) (m1 : ∀ b, F2 b → F b) (m2 : ∀ b, R2 b → R b) : Post H0 F0 H2 F2 R2 where
  keep := p.keep.trans f.keep
  frm := fun b u e n => by
    rw [f.other b ?_]
    · exact p.frm b u e n
    · intro z
      rcases p.new b z with q | q
      · exact n q
      · rw [q] at e; cases e
  new := fun b h => p.new b (h.elim (fun h => .inl (m1 b h)) fun h => .inr (m2 b h))
  dis := fun b h g => p.dis b (m1 b h) (m2 b g)
  trk := fun b h => by
    obtain ⟨u, e⟩ := p.trk b (h.elim (fun h => .inl (m1 b h)) fun h => .inr (m2 b h))
    exact f.trk b u e
end

section
variable {K : PySem.W.Frag} {σ : L2.St}
theorem RepW.frz {H H2 : Hp} {e e2 : Env} {w : W} {v : V} {R S : Rg} (f : FrzStep S H H2) (d : ∀ b, R b → S b → False) (n : w.nested = false ∨ (H2 = H ∧ e2 = e)) (h : RepW K H σ e w v R) : RepW K H2 σ e2 w v R := by
  cases w with
  | val d => exact Fz.keep f.keep _ _ h
  | own o => exact Rep.frame f.keep _ _ _ (f.hold d) h
  | «at» i p =>
    rcases n with n | ⟨rfl, rfl⟩
    · cases p with
      | nil =>
        obtain ⟨⟨x, k1, k2⟩, _⟩ := h
        exact ⟨⟨x, k1, k2⟩, fun z => absurd rfl z⟩
      | cons s p => cases n
    · exact h
theorem RepWs.frz {H H2 : Hp} {e e2 : Env} {S : Rg} (f : FrzStep S H H2) : ∀ {ws : List W} {vs : List V} {R : Rg}, (∀ b, R b → S b → False) → (ws.all (fun w => !w.nested) = true ∨ (H2 = H ∧ e2 = e)) → RepWs K H σ e ws vs R → RepWs K H2 σ e2 ws vs R
  | [], _, _, _, _, h => h
  | w :: ws, vs, R, d, n, ⟨x, r, G, e0, h1, h2⟩ => by
    refine ⟨x, r, G, e0, h1.frz f (fun b q => d b q.1) ?_, RepWs.frz f (fun b q => d b q.1) ?_ h2⟩
    · rcases n with n | n
      · rw [List.all_cons, Bool.and_eq_true] at n; exact .inl (by simpa using n.1)
      · exact .inr n
    · rcases n with n | n
      · rw [List.all_cons, Bool.and_eq_true] at n; exact .inl n.2
      · exact .inr n
theorem Rep.pathKept {H H2 : Hp} : ∀ {p : List Nat} {o c : O} {v x : V} {F2 : Rg}, Rep K H2 (o.put p .hole) v F2 → o.get p = some c → PathV H v p x → (∀ b, F2 b → H2 b = H b) → PathV H2 v p x
  | [], _, _, _, _, _, _, _, h, _ => h
  | s :: p, o, c, v, x, F2, r, g, ⟨z, h1, h2⟩, m => by
    rw [O.get] at g
    cases hs : o.sub s with
    | none => rw [hs] at g; cases g
    | some y =>
      rw [hs] at g
      rw [O.put, hs] at r
      have r : Rep K H2 (o.setSub s (y.put p .hole)) v F2 := r
      have fa : ∀ a, v = .ref a → F2 a := fun a e => by
        cases o with
        | hole => cases hs
        | val d => cases hs
        | lst l =>
          have r : Rep K H2 (.lst (l.set s (y.put p .hole))) v F2 := r
          unfold Rep at r
          obtain ⟨b, xs, e2, fb, _⟩ := r
          rw [e] at e2; cases e2; exact fb
        | dct l =>
          have r : Rep K H2 (.dct (setAt (y.put p .hole) l s)) v F2 := r
          unfold Rep at r
          obtain ⟨b, u, xs, e2, fb, _⟩ := r
          rw [e] at e2; cases e2; exact fb
      have ch : Child H2 v s z := by
        obtain ⟨a, e, q⟩ := h1
        have ea := m a (fa a e)
        exact ⟨a, e, by rw [ea]; exact q⟩
      obtain ⟨z', G, k1, k2, _⟩ := r.subOut (O.sub_set hs)
      have ez := ch.inj k1
      subst ez
      exact ⟨z, ch, Rep.pathKept k2 g h2 fun b q => m b q.1⟩
theorem RepE.pathKept {H H2 : Hp} {e : Env} {F : Rg} {i : Nat} {p : List Nat} {c : O} {x : V} (h : RepE K H2 (eput e i p .hole) σ F) (g : eget e i p = some c) (n : isOwn c = true) (hp : PathS H σ i p x) (m : ∀ b, F b → H2 b = H b) : PathS H2 σ i p x := by
  obtain ⟨v, h1, h2⟩ := hp
  cases p with
  | nil => exact ⟨v, h1, h2⟩
  | cons s q =>
    unfold eget at g
    cases he : e[i]? with
    | none => rw [he] at g; cases g
    | some o =>
      rw [he] at g
      have g : o.get (s :: q) = some c := g
      unfold eput at h
      rw [he] at h
      have h : RepE K H2 (e.set i (o.put (s :: q) .hole)) σ F := h
      have hl := (List.getElem?_eq_some_iff.mp he).1
      have hi : (e.set i (o.put (s :: q) .hole))[i]? = some (o.put (s :: q) .hole) := List.getElem?_set_self hl
      have nh : o.put (s :: q) .hole ≠ .hole := by
        have g2 := g
        rw [O.get] at g2
        rw [O.put]
        cases hs : o.sub s with
        | none => rw [hs] at g2; cases g2
        | some y =>
          cases o with
          | hole => cases hs
          | val d => cases hs
          | lst l => exact fun z => nomatch z
          | dct l => exact fun z => nomatch z
      obtain ⟨v', G, k1, k2, _⟩ := h.out hi nh
      rw [h1] at k1; cases k1
      exact ⟨v, h1, Rep.pathKept k2 g h2 fun b q => m b q.1⟩
/-- one value made ready to be stored -/
theorem storeW_ok {H : Hp} {e e' : Env} {F R : Rg} {w : W} {v : V} {o : O} {Q : Hp → Prop} (hE : RepE K H e σ F) (hW : RepW K H σ e w v R) (dis : ∀ b, F b → R b → False) (hs : storeW w e = .ok (o, e'))
    (k : ∀ H2, ∀ S : Rg, (∀ b, S b → F b) → FrzStep S H H2 → RepE K H2 e' σ (fun b => F b ∧ ¬ S b) → Rep K H2 o v R → (isAt w = false → H2 = H ∧ e' = e) → Frzs Q H2) : Frzs Q H := by
  have none : FrzStep (fun _ => False) H H := fun b => .inr ⟨rfl, fun _ z => z.elim⟩
  have idE : RepE K H e σ (fun b => F b ∧ ¬ False) := RepE.mono (fun b q => ⟨q, id⟩) hE
  cases w with
  | val d =>
    cases hs
    exact k H _ (fun _ z => z.elim) none idE (by unfold Rep; exact hW) fun _ => ⟨rfl, rfl⟩
  | own o' =>
    cases hs
    exact k H _ (fun _ z => z.elim) none idE hW fun _ => ⟨rfl, rfl⟩
  | «at» i p =>
    unfold storeW at hs
    obtain ⟨d, h1, hs⟩ := Rs.bind_ok hs
    have h1 := Rs.of_ok h1
    cases hs
    obtain ⟨c, g1, g2⟩ := Option.bind_eq_some_iff.mp h1
    by_cases n : isOwn c = true
    · obtain ⟨x, G, p1, p2, p3⟩ := hE.pathOut g1 n
      obtain ⟨hp, _⟩ := hW
      have ex : v = x := by
        obtain ⟨a, q1, q2⟩ := hp
        obtain ⟨b, r1, r2⟩ := p1
        rw [q1] at r1; cases r1
        exact q2.inj r2
      subst ex
      refine .step (fun b => F b ∧ G b) fun H2 f => ?_
      have fz : Fz K H2 d v := Rep.freeze f c v _ d (fun b q => q) g2 p2
      have hE2 : RepE K H2 (eput e i p .hole) σ (fun b => F b ∧ ¬ G b) := RepE.frame f.keep (f.hold fun b q w => q.2 w.2) p3
      have r0 : Rep K H2 (.val d) v (fun _ => False) := by unfold Rep; exact fz
      -- the path's containers are not frozen
      have hp2 : PathS H2 σ i p v := RepE.pathKept hE2 g1 n p1 fun b q => f.other fun w => q.2 w.2
      refine k H2 _ (fun b q => q.1) f ?_ (by unfold Rep; exact fz) (fun z => nomatch z)
      exact RepE.mono (fun b q => q.elim (fun q => ⟨q.1, fun w => q.2 w.2⟩) False.elim) (RepE.pathBack hE2 g1 n hp2 r0 fun _ _ z => z)
    · have hc : c = .val d := by
        cases c with
        | hole => cases g2
        | val d' => simp [O.froz] at g2; rw [g2]
        | lst l => exact absurd rfl n
        | dct l => exact absurd rfl n
      subst hc
      have rep := hW.rep hE (o := .val d) g1
      have same : eput e i p (.val d) = e := by
        cases p with
        | nil =>
          unfold eget at g1
          unfold eput
          cases he : e[i]? with
          | none => rfl
          | some x =>
            rw [he] at g1
            have g1 : x.get [] = some (.val d) := g1
            rw [O.get] at g1; cases g1
            show e.set i (O.put _ [] (.val d)) = e
            rw [O.put]
            exact set_same he
        | cons s q =>
          obtain ⟨o', k1, k2⟩ := hW.2 (by simp)
          rw [k1] at g1; cases g1; cases k2
      unfold Rep at rep
      exact k H _ (fun _ z => z.elim) none (by rw [same]; exact idE) (by unfold Rep; exact rep) (fun z => nomatch z)

/-- freezing apart from slots and value -/
theorem RepW.stay {H H2 : Hp} {e : Env} {F : Rg} {w : W} {v : V} {R S : Rg} (f : FrzStep S H H2) (hE : RepE K H e σ F) (d1 : ∀ b, F b → S b → False) (d2 : ∀ b, R b → S b → False) (h : RepW K H σ e w v R) : RepW K H2 σ e w v R := by
  cases w with
  | val d => exact Fz.keep f.keep _ _ h
  | own o => exact Rep.frame f.keep _ _ _ (f.hold d2) h
  | «at» i p =>
    obtain ⟨hp, hn⟩ := h
    refine ⟨?_, hn⟩
    cases p with
    | nil =>
      obtain ⟨x, k1, k2⟩ := hp
      exact ⟨x, k1, k2⟩
    | cons s q =>
      obtain ⟨o, g, n⟩ := hn (by simp)
      obtain ⟨x, G, p1, p2, p3⟩ := hE.pathOut g n
      have p3' : RepE K H2 (eput e i (s :: q) .hole) σ _ := RepE.frame f.keep (f.hold fun b q w => d1 b q.1 w) p3
      exact RepE.pathKept p3' g n hp fun b q => f.other fun w => d1 b q.1 w
theorem RepWs.stay {H H2 : Hp} {e : Env} {F : Rg} {S : Rg} (f : FrzStep S H H2) (hE : RepE K H e σ F) (d1 : ∀ b, F b → S b → False) : ∀ {ws : List W} {vs : List V} {R : Rg}, (∀ b, R b → S b → False) → RepWs K H σ e ws vs R → RepWs K H2 σ e ws vs R
  | [], _, _, _, h => h
  | w :: ws, vs, R, d, ⟨x, r, G, e0, h1, h2⟩ => ⟨x, r, G, e0, h1.stay f hE d1 fun b q => d b q.1, RepWs.stay f hE d1 (fun b q => d b q.1) h2⟩
theorem aliasOk_or {w : W} {ws : List W} {H H2 : Hp} {e e1 : Env} (a : aliasOk w ws = true) (n : isAt w = false → H2 = H ∧ e1 = e) : ws.all (fun w => !w.nested) = true ∨ (H2 = H ∧ e1 = e) := by
  cases w with
  | val d => exact .inr (n rfl)
  | own o => exact .inr (n rfl)
  | «at» i p => exact .inl a
theorem storeL_ok : ∀ {ws : List W} {vs : List V} {H : Hp} {e e' : Env} {F R : Rg} {os : List O} {Q : Hp → Prop}, RepE K H e σ F → RepWs K H σ e ws vs R → (∀ b, F b → R b → False) → storeL ws e = .ok (os, e') →
    (∀ H2, ∀ F2 : Rg, FRel F H H2 → (∀ b, F2 b → F b) → RepE K H2 e' σ F2 → RepL K H2 os vs R → Frzs Q H2) → Frzs Q H
  | [], vs, H, e, e', F, R, os, Q, hE, hW, dis, hs, k => by
    cases hs
    exact k H F (.refl _ _) (fun _ q => q) hE (by unfold RepL; exact hW)
  | w :: ws, vs, H, e, e', F, R, os, Q, hE, ⟨x, r, G, e0, h1, h2⟩, dis, hs, k => by
    unfold storeL at hs
    obtain ⟨_, hc, hs⟩ := Rs.bind_ok hs
    have hc := Rs.chk_ok hc
    obtain ⟨⟨o, e1⟩, g1, hs⟩ := Rs.bind_ok hs
    obtain ⟨⟨os', e2⟩, g2, hs⟩ := Rs.bind_ok hs
    cases hs
    refine storeW_ok hE h1 (fun b q w => dis b q w.1) g1 fun H2 S sF f hE2 hr na => ?_
    have h2' := h2.frz f (fun b q w => dis b (sF b w) q.1) (aliasOk_or hc na)
    refine storeL_ok hE2 h2' (fun b q w => dis b q.1 w.1) g2 fun H3 F3 fr m hE3 hL => ?_
    refine k H3 F3 ((f.rel.mono sF).trans (fr.mono fun b q => q.1)) (fun b q => (m b q).1) hE3 ?_
    unfold RepL
    refine ⟨x, r, G, e0, Rep.frame fr.keep _ _ _ (fun b u q e => ?_) hr, hL⟩
    rw [fr.other b fun z => dis b z.1 q.1]
    exact e
theorem frozLW_ok : ∀ {ws : List W} {vs : List V} {H : Hp} {e e' : Env} {F R : Rg} {ds : List PyData} {Q : Hp → Prop}, RepE K H e σ F → RepWs K H σ e ws vs R → (∀ b, F b → R b → False) → frozLW ws e = .ok (ds, e') →
    (∀ H2, ∀ F2 : Rg, FRel (fun b => F b ∨ R b) H H2 → (∀ b, F2 b → F b) → RepE K H2 e' σ F2 → FzAll K H2 ds vs → Frzs Q H2) → Frzs Q H
  | [], vs, H, e, e', F, R, ds, Q, hE, hW, dis, hs, k => by
    cases hs
    exact k H F (.refl _ _) (fun _ q => q) hE (by unfold FzAll; exact hW)
  | w :: ws, vs, H, e, e', F, R, ds, Q, hE, ⟨x, r, G, e0, h1, h2⟩, dis, hs, k => by
    unfold frozLW at hs
    obtain ⟨_, hc, hs⟩ := Rs.bind_ok hs
    have hc := Rs.chk_ok hc
    obtain ⟨⟨d, e1⟩, g1, hs⟩ := Rs.bind_ok hs
    obtain ⟨⟨ds', e2⟩, g2, hs⟩ := Rs.bind_ok hs
    cases hs
    unfold frozW at g1
    obtain ⟨⟨o, e1'⟩, g0, g1⟩ := Rs.bind_ok g1
    obtain ⟨d', g3, g1⟩ := Rs.bind_ok g1
    have g3 := Rs.of_ok g3
    cases g1
    refine storeW_ok hE h1 (fun b q w => dis b q w.1) g0 fun H2 S sF f hE2 hr na => ?_
    have h2' := h2.frz f (fun b q w => dis b (sF b w) q.1) (aliasOk_or hc na)
    -- the value's own region is frozen
    refine .step (fun b => R b ∧ G b) fun H2b fb => ?_
    have fz : Fz K H2b d x := Rep.freeze fb o x _ d (fun b q => q) g3 hr
    have hE2b : RepE K H2b e1 σ (fun b => F b ∧ ¬ S b) := RepE.frame fb.keep (fb.hold fun b q w => dis b q.1 w.1) hE2
    have h2b := h2'.stay fb hE2 (fun b q w => dis b q.1 w.1) (fun b q w => q.2 w.2)
    refine frozLW_ok hE2b h2b (fun b q w => dis b q.1 w.1) g2 fun H3 F3 fr m hE3 hL => ?_
    refine k H3 F3 (((f.rel.mono fun b q => .inl (sF b q)).trans (fb.rel.mono fun b q => .inr q.1)).trans (fr.mono fun b q => q.elim (fun q => .inl q.1) fun q => .inr q.1)) (fun b q => (m b q).1) hE3 ?_
    subst e0; exact .cons (Fz.keep fr.keep _ _ fz) hL
end

section
variable {X : Cx}
theorem chk_le {n : Nat} {u : Unit} (h : Rs.chk (decide (n ≤ 16777216)) = .ok u) : n ≤ sizeLine := by
  have := of_decide_eq_true (Rs.chk_ok h)
  rw [sizeLine_eq]; exact this
theorem FRel.same {S : Rg} {H H2 : Hp} (f : FRel S H H2) (n : ∀ b u, H b = some u → ¬ S b) : Same2 H H2 := fun b u e => by rw [f.other b (n b u e)]; exact e
/-- a new object behind an evaluation and freezing -/
theorem Post.laid {H0 : Hp} {F0 F R F2 R2 : Rg} {H H2 : Hp} {a : Addr} {o : HO} (p : Post H0 F0 H F R) (f : FRel (fun b => F b ∨ R b) H H2) (m1 : ∀ b, F2 b → F b) (m2 : ∀ b, R2 b → R b) (n : H2 a = none) :
    Post H0 F0 (upd H2 a o) F2 (fun b => R2 b ∨ b = a) := by
  have q := p.frz f m1 m2
  have n0 : H0 a = none ∨ F0 a := by
    cases e : H0 a with
    | none => exact .inl rfl
    | some u =>
      by_cases fa : F0 a
      · exact .inr fa
      · have := q.frm a u e fa; rw [n] at this; cases this
  refine ⟨q.keep.trans (.of fun b u e => by rw [upd_ne (ne_of_none e n)]; exact e), fun b u e nf => ?_, fun b h => ?_, fun b h g => ?_, fun b h => ?_⟩
  · have := q.frm b u e nf
    rw [upd_ne (ne_of_none this n)]; exact this
  · rcases h with h | h | h
    · exact q.new b (.inl h)
    · exact q.new b (.inr h)
    · subst h; exact n0.elim .inr .inl
  · rcases g with g | g
    · exact q.dis b h g
    · subst g
      obtain ⟨u, e⟩ := q.trk b (.inl h); rw [n] at e; cases e
  · rcases h with h | h | h
    · obtain ⟨u, e⟩ := q.trk b (.inl h); exact ⟨u, by rw [upd_ne (ne_of_none e n)]; exact e⟩
    · obtain ⟨u, e⟩ := q.trk b (.inr h); exact ⟨u, by rw [upd_ne (ne_of_none e n)]; exact e⟩
    · subst h; exact ⟨o, upd_same⟩
theorem keep_upd {H : Hp} {a : Addr} {o : HO} (n : H a = none) : Keep H (upd H a o) := .of fun b u e => by rw [upd_ne (ne_of_none e n)]; exact e
/-- a display of a tuple: the new object is locked at once -/
theorem pe_tupF {es : List Expr} {t : TA} {x1 : Nat} {pos : Pos} (h : PA X es t) : PE X (.Tuple es x1 pos) (fun σ H Q => t σ H fun xs H1 => xs.length ≤ sizeLine ∧ ∀ p o, H1 p = none → o.dict = none → Q (.ref p) (upd H1 p (.frz o (.tup xs)))) := by
  refine ⟨fun pins s σ H Q I hq => wpAny_Tuple_spliced (thn (h.run pos pins s σ H _ I hq) fun us s1 ⟨xs, H1, I1, r, z, q⟩ => ⟨by rw [← r.length]; exact z, ?_⟩)⟩
  have hf : H1 s1.heap.objs.size = none := I1.hok.fresh (Nat.le_refl _)
  let o : Obj := { cls := .type "tuple", data := .seq us.toArray }
  refine ⟨.ref s1.heap.objs.size, upd H1 s1.heap.objs.size (.frz o (.tup xs)), I1.laid (t' := s1.toks) (fun b u e => Heap.get?_push_of_some _ e) (Nat.le_refl _) ?_, rfl, q _ o hf rfl⟩
  exact ⟨Heap.get?_push_size _ rfl, z, us, r, ⟨_, Heap.get?_push_size _ rfl, rfl, _, rfl⟩⟩
theorem eve_tup {es : List Expr} {l : LF} {p : Bool} {x1 : Nat} {pos : Pos} (h : EvL X es l p) : EvE X (.Tuple es x1 pos) (eTup l) false :=
  ⟨pe_imp (pe_tupF (pa_frzs h.run)) fun σ H Q z => by
    obtain ⟨e, F, w, e', t, hE, hf, k⟩ := z
    unfold eTup at hf
    obtain ⟨⟨ws, e1⟩, h1, hf⟩ := Rs.bind_ok hf
    obtain ⟨⟨ds, e2⟩, h2, hf⟩ := Rs.bind_ok hf
    obtain ⟨_, h3, hf⟩ := Rs.bind_ok hf
    cases hf
    refine ⟨e, F, ws, e1, t, hE, h1, fun vs H1 F1 R1 hE1 hW1 P1 _ => frozLW_ok hE1 hW1 P1.dis h2 fun H2 F2 fr m hE2 hd => .now ⟨?_, fun a ob na nd => ?_⟩⟩
    · rw [← FzAll.length hd]; exact chk_le h3
    · refine k (.ref a) _ F2 (fun b => False ∨ b = a) (RepE.frame (keep_upd na) (fun b u _ q => by rw [upd_ne (ne_of_none q na)]; exact q) hE2) ?_ (P1.laid fr m (fun _ z => z.elim) na) fun z => nomatch z
      show Fz X.K _ (.tuple ds) _
      unfold Fz
      exact ⟨a, vs, rfl, .inl ⟨ob, upd_same, nd⟩, FzAll.keep (keep_upd na) _ _ hd⟩⟩
theorem eve_lst {es : List Expr} {l : LF} {p : Bool} {pos : Pos} (h : EvL X es l p) : EvE X (.List es pos) (eLst l) false :=
  ⟨pe_imp (pe_lst (pa_frzs h.run)) fun σ H Q z => by
    obtain ⟨e, F, w, e', t, hE, hf, k⟩ := z
    unfold eLst at hf
    obtain ⟨⟨ws, e1⟩, h1, hf⟩ := Rs.bind_ok hf
    obtain ⟨⟨os, e2⟩, h2, hf⟩ := Rs.bind_ok hf
    obtain ⟨_, h3, hf⟩ := Rs.bind_ok hf
    cases hf
    refine ⟨e, F, ws, e1, t, hE, h1, fun vs H1 F1 R1 hE1 hW1 P1 _ => storeL_ok hE1 hW1 P1.dis h2 fun H2 F2 fr m hE2 hd => .now ⟨?_, fun a na => ?_⟩⟩
    · rw [← RepL.length hd]; exact chk_le h3
    · have P2 : Post H F _ F2 (fun b => R1 b ∨ b = a) := P1.laid (o := .lst vs) (fr.mono fun b q => .inl q) m (fun _ z => z) na
      refine k (.ref a) _ F2 _ (RepE.frame (keep_upd na) (fun b u _ q => by rw [upd_ne (ne_of_none q na)]; exact q) hE2) ?_ P2 fun z => nomatch z
      show Rep X.K _ (.lst os) _ _
      unfold Rep
      refine ⟨a, vs, rfl, .inr rfl, upd_same, RepL.mono _ _ _ _ (fun b q => ⟨.inl q, ?_⟩) (RepL.frame (keep_upd na) _ _ _ (fun b u _ q => by rw [upd_ne (ne_of_none q na)]; exact q) hd)⟩
      rintro rfl
      obtain ⟨u, q2⟩ := P1.trk b (.inr q)
      obtain ⟨u2, q3⟩ := fr.trk b u q2
      rw [na] at q3; cases q3⟩
theorem eve_lst0 {pos : Pos} : EvE X (.List [] pos) (eLst lNil) true :=
  ⟨pe_imp (pe_lst pa_nil) fun σ H Q z => by
    obtain ⟨e, F, w, e', t, hE, hf, k⟩ := z
    cases hf
    refine ⟨Nat.zero_le _, fun a na => ?_⟩
    have fr : Fresh H (upd H a (.lst [])) (fun b => b = a) := ⟨fun b u q => by rw [upd_ne (ne_of_none q na)]; exact q, fun b q => by rw [q]; exact na, fun b q => by rw [q]; exact ⟨_, upd_same⟩⟩
    refine k (.ref a) _ F (fun b => b = a) (RepE.frame (keep_upd na) (fun b u _ q => fr.same b u q) hE) ?_ (fr.post t) fun _ => ⟨rfl, fr.same⟩
    show Rep X.K _ (.lst []) _ _
    unfold Rep
    exact ⟨a, [], rfl, rfl, upd_same, by unfold RepL; rfl⟩⟩
end
end Ev

set_option Elab.async false
set_option linter.all false
set_option maxRecDepth 100000
/-! Ev: subscripts. -/
namespace Ev
open PySem PySem.Spec PyProof.Rows L2
section
variable {K : PySem.W.Frag} {H : Hp} {σ : L2.St}
theorem fz_key {d : PyData} {y : V} (h : Fz K H d y) (i : isKey d = true) : ∃ k : Key, y = kV k ∧ ((∃ n, d = .int n ∧ k = .inl n) ∨ ∃ s, d = .str s ∧ k = .inr s) := by
  cases d with
  | int n => unfold Fz at h; exact ⟨.inl n, h, .inl ⟨n, rfl, rfl⟩⟩
  | str s => unfold Fz at h; exact ⟨.inr s, h, .inr ⟨s, rfl, rfl⟩⟩
  | _ => cases i
theorem fz_kV {d : PyData} {k : Key} (h : Fz K H d (kV k)) : (∃ n, d = .int n ∧ k = .inl n) ∨ ∃ s, d = .str s ∧ k = .inr s := by
  cases d with
  | int n => unfold Fz at h; cases k with
    | inl m => cases h; exact .inl ⟨n, rfl, rfl⟩
    | inr s => cases h
  | str n => unfold Fz at h; cases k with
    | inl m => cases h
    | inr s => cases h; exact .inr ⟨n, rfl, rfl⟩
  | none => unfold Fz at h; cases k <;> cases h
  | bool b => unfold Fz at h; cases k <;> cases h
  | list l => unfold Fz at h; obtain ⟨_, _, e, _⟩ := h; cases k <;> cases e
  | tuple l => unfold Fz at h; obtain ⟨_, _, e, _⟩ := h; cases k <;> cases e
  | dict l => unfold Fz at h; obtain ⟨_, _, e, _⟩ := h; cases k <;> cases e
theorem eqv_key {d c : PyData} {k j : Key} (h : Fz K H d (kV k)) (g : Fz K H c (kV j)) : PyData.eqv d c = decide (k = j) := by
  rcases fz_kV h with ⟨n, rfl, rfl⟩ | ⟨s, rfl, rfl⟩ <;> rcases fz_kV g with ⟨m, rfl, rfl⟩ | ⟨t, rfl, rfl⟩
  · rw [key_ll]; rfl
  · simp [PyData.eqv]
  · simp [PyData.eqv]
  · rw [key_rr]; show (s == t) = _; exact Bool.beq_eq_decide_eq s t
theorem fzKvs_look {kd d : PyData} {k : Key} (hk : Fz K H kd (kV k)) : ∀ {kvs : List (PyData × PyData)} {ks : List (Key × V)}, FzKvs K H kvs (ks.map fun p => (kV p.1, p.2)) → lookD kd kvs = some d → ∃ v, valV ks k = some v ∧ Fz K H d v
  | [], _, _, e => by cases e
  | (c, x) :: kvs, ks, h, e => by
    unfold FzKvs at h
    obtain ⟨y, z, r, e1, h1, h2, h3⟩ := h
    cases ks with
    | nil => cases e1
    | cons p ks =>
      rw [List.map_cons] at e1
      injection e1 with e1 e2
      injection e1 with e1 e3
      subst e1 e3 e2
      rw [lookD, eqv_key h1 hk] at e
      by_cases q : p.1 = k
      · rw [if_pos (decide_eq_true q)] at e
        cases e
        exact ⟨p.2, valV_pos q, h2⟩
      · rw [decide_eq_false q, if_neg Bool.false_ne_true] at e
        rw [valV_neg q]
        exact fzKvs_look hk h3 e
theorem repK_look {kd : PyData} {k : Key} (hk : Fz K H kd (kV k)) : ∀ {kvs : List (PyData × O)} {ks : List (Key × V)} {F : Rg} {j : Nat} {y x : V}, RepK K H kvs (ks.map fun p => (kV p.1, p.2)) F → idxD kd kvs = some j → (ks.map fun p => (kV p.1, p.2))[j]? = some (y, x) → valV ks k = some x
  | [], _, _, _, _, _, _, e, _ => by cases e
  | (c, o) :: kvs, ks, F, j, y, x, h, e, g => by
    unfold RepK at h
    obtain ⟨y0, z, r, G, e1, h1, h2, h3⟩ := h
    cases ks with
    | nil => cases e1
    | cons p ks =>
      rw [List.map_cons] at e1 g
      injection e1 with e1 e2
      injection e1 with e1 e3
      subst e1 e3 e2
      rw [idxD, eqv_key h1 hk] at e
      by_cases q : p.1 = k
      · rw [if_pos (decide_eq_true q)] at e
        cases e
        simp at g
        rw [← g.2]
        exact valV_pos q
      · rw [decide_eq_false q, if_neg Bool.false_ne_true] at e
        obtain ⟨j', e1, rfl⟩ := Option.map_eq_some_iff.mp e
        rw [valV_neg q]
        exact repK_look hk h3 e1 (by simpa using g)
theorem eget_snoc {e : Env} {i j : Nat} {p : List Nat} {o c : O} (h : eget e i p = some o) (s : o.sub j = some c) : eget e i (p ++ [j]) = some c := by
  unfold eget at h ⊢
  cases he : e[i]? with
  | none => rw [he] at h; cases h
  | some x =>
    rw [he] at h
    have h : x.get p = some o := h
    show x.get (p ++ [j]) = some c
    clear he
    induction p generalizing x with
    | nil =>
      rw [O.get] at h; cases h
      show O.get _ [j] = _
      rw [O.get, s]
      show O.get c [] = _
      rw [O.get]
    | cons k p ih =>
      rw [O.get] at h
      rw [List.cons_append, O.get]
      cases hs : x.sub k with
      | none => rw [hs] at h; cases h
      | some z => rw [hs] at h; exact ih z h h
/-- what a value is to be, to be subscripted -/
def SubWish (K : PySem.W.Frag) (x y : V) (H : Hp) (Q : VK) : Prop :=
  rIxL K x y H Q ∨ rIxT K x y H Q ∨ rIxS x y H Q
def SubWishD (x y : V) (H : Hp) (Q : VK) : Prop := ∃ a v, x = .ref a ∧ DGet H a y (some v) ∧ Q v H
def isDictD : PyData → Bool
  | .dict _ => true
  | _ => false
def isDictO : O → Bool
  | .val d => isDictD d
  | .dct _ => true
  | _ => false
def isDictW (e : Env) (c : W) : Bool := match content e c with
  | some o => isDictO o
  | none => false
theorem item_data {ds d : PyData} {k : PyData} {x y : V} {Q : VK} (hx : Fz K H ds x) (hk : Fz K H k y) (h : itemD ds k = some d) (q : ∀ v, Fz K H d v → Q v H) :
    (if isDictD ds = true then SubWishD x y H Q else SubWish K x y H Q) := by
  cases ds with
  | list l =>
    cases k with
    | int i =>
      unfold Fz at hx hk
      obtain ⟨a, xs, rfl, f, g⟩ := hx
      subst hk
      unfold itemD at h
      obtain ⟨j, h1, h2⟩ := Option.bind_eq_some_iff.mp h
      obtain ⟨v, h3, h4⟩ := FzAll.get g h2
      rw [if_neg (by exact Bool.false_ne_true)]
      refine .inl ⟨a, xs, i, v, rfl, rfl, f.sq, ?_, q v h4⟩
      unfold atI
      rw [← FzAll.length g, h1]
      exact h3
    | _ => cases h
  | tuple l =>
    cases k with
    | int i =>
      unfold Fz at hx hk
      obtain ⟨a, xs, rfl, f, g⟩ := hx
      subst hk
      unfold itemD at h
      obtain ⟨j, h1, h2⟩ := Option.bind_eq_some_iff.mp h
      obtain ⟨v, h3, h4⟩ := FzAll.get g h2
      rw [if_neg (by exact Bool.false_ne_true)]
      refine .inr (.inl ⟨a, xs, i, v, rfl, rfl, f.sq, ?_, q v h4⟩)
      unfold atI
      rw [← FzAll.length g, h1]
      exact h3
    | _ => cases h
  | str s =>
    cases k with
    | int i =>
      unfold Fz at hx hk
      subst hx hk
      have h : (if s.length ≤ 16777216 then (L2.ixN s.cps.toList.length i).bind (fun j => (s.cps.toList[j]?).map fun c => PyData.str ⟨#[c]⟩) else none) = some d := h
      by_cases hz : s.length ≤ 16777216
      · rw [if_pos hz] at h
        obtain ⟨j, h1, h2⟩ := Option.bind_eq_some_iff.mp h
        obtain ⟨c, h3, rfl⟩ := Option.map_eq_some_iff.mp h2
        rw [if_neg (by exact Bool.false_ne_true)]
        refine .inr (.inr ⟨s, i, c, rfl, rfl, by rw [sizeLine_eq]; exact hz, ?_, q _ (by unfold Fz; rfl)⟩)
        unfold atI
        rw [h1]
        exact h3
      · rw [if_neg hz] at h; cases h
    | _ => cases h
  | dict kvs =>
    have h : (if isKey k = true then lookD k kvs else none) = some d := h
    by_cases hk' : isKey k = true
    · rw [if_pos hk'] at h
      obtain ⟨kk, rfl, _⟩ := fz_key hk hk'
      unfold Fz at hx
      obtain ⟨a, es, rfl, ⟨ob, u, f, ks, rfl, rfl⟩, g⟩ := hx
      obtain ⟨v, h1, h2⟩ := fzKvs_look hk g h
      rw [if_pos (by rfl)]
      exact ⟨a, v, rfl, .inl ⟨ks, kk, .inr ⟨ob, f⟩, rfl, h1.symm⟩, q v h2⟩
    · rw [if_neg hk'] at h; cases h
  | none => cases h
  | bool b => cases h
  | int i => cases h
theorem idx_owned {o c : O} {k : PyData} {x y : V} {F : Rg} {j : Nat} {Q : VK} (hx : Rep K H o x F) (n : isOwn o = true) (hk : Fz K H k y) (h : idxO o k = some j) (hc : o.sub j = some c) (q : ∀ v, Child H x j v → Rep K H c v F → Q v H) :
    (if isDictO o = true then SubWishD x y H Q else SubWish K x y H Q) := by
  obtain ⟨v, G, ch, rc, _⟩ := hx.subOut hc
  have qv := q v ch (Rep.mono _ _ _ _ (fun b q => q.1) rc)
  cases o with
  | lst l =>
    cases k with
    | int i =>
      unfold Rep at hx
      unfold Fz at hk
      obtain ⟨a, xs, rfl, fa, ha, r⟩ := hx
      subst hk
      rw [if_neg (by exact Bool.false_ne_true)]
      refine .inl ⟨a, xs, i, v, rfl, rfl, SqL.of ha, ?_, qv⟩
      unfold atI
      have h : L2.ixN l.length i = some j := h
      rw [← RepL.length r, h]
      obtain ⟨a', e, ch⟩ := ch
      cases e
      rcases ch with ⟨ys, h1, h2⟩ | ⟨u, es, z, h1, ⟨_, e, _⟩, _⟩
      · rw [ha] at h1; cases h1; exact h2
      · rw [ha] at h1; cases h1; cases e
    | _ => cases h
  | dct kvs =>
    unfold Rep at hx
    obtain ⟨a, u, es, rfl, fa, ha, ⟨ks, rfl, rfl⟩, r⟩ := hx
    have h : (if isKey k = true then idxD k kvs else none) = some j := h
    by_cases hk' : isKey k = true
    · rw [if_pos hk'] at h
      obtain ⟨kk, rfl, _⟩ := fz_key hk hk'
      obtain ⟨a', e, ch⟩ := ch
      cases e
      rcases ch with ⟨ys, h1, h2⟩ | ⟨u, es, z, h1, ⟨ks', e, rfl⟩, h3⟩
      · rw [ha] at h1; cases h1
      · rw [ha] at h1; cases h1; cases e
        rw [if_pos (by rfl)]
        exact ⟨a, v, rfl, .inl ⟨ks, kk, .inl ha, rfl, (repK_look hk r h h3).symm⟩, qv⟩
    · rw [if_neg hk'] at h; cases h
  | hole => cases n
  | val d => cases n
end
section
variable {X : Cx}
theorem pe_or {ex : Expr} {t u : TE} (h : PE X ex t) (g : PE X ex u) : PE X ex (fun σ H Q => t σ H Q ∨ u σ H Q) := ⟨fun pins s σ H Q I q => q.elim (h.run pins s σ H Q I) (g.run pins s σ H Q I)⟩
theorem eve_sub {a b : Expr} {f g : EF} {p q : Bool} {pos : Pos} (hu : X.A.units + 1 < cLine) (ha : EvE X a f p) (hb : EvE X b g q) (hs : PlainIx b) : EvE X (.Subscript a b pos) (eSub (lTwo f q g)) (p && q) := by
  refine ⟨pe_imp (pe_or (pe_ix (IxR.or ix_list (IxR.or ix_tup ix_str)) ha.run hb.run hs) (pe_dget hu ha.run hb.run hs)) fun σ H Q z => ?_⟩
  obtain ⟨e, F, w, e', t, hE, hf, k⟩ := z
  unfold eSub at hf
  obtain ⟨⟨ws, e1⟩, h1, hf⟩ := Rs.bind_ok hf
  dsimp only at hf
  split at hf
  · rename_i c kk
    obtain ⟨kd, h2, hf⟩ := Rs.bind_ok hf
    obtain ⟨w', h3, hf⟩ := Rs.bind_ok hf
    have h2 := Rs.of_ok h2
    have h3 := Rs.of_ok h3
    cases hf
    -- the values and their contents
    have key : ∀ vs H1 (F1 R1 : Rg), RepE X.K H1 e' σ F1 → RepWs X.K H1 σ e' [c, kk] vs R1 → Post H F H1 F1 R1 → ((p && q) = true → e' = e ∧ Same2 H H1) →
        ∃ x y, vs = [x, y] ∧ (if isDictW e' c = true then SubWishD x y H1 Q else SubWish X.K x y H1 Q) := by
      rintro vs H1 F1 R1 hE1 ⟨x, r, G, rfl, hc, y, r2, G2, rfl, hy, hr⟩ P1 pu
      have hr : r2 = [] := hr
      subst hr
      refine ⟨x, y, rfl, ?_⟩
      have fk : Fz X.K H1 kd y := by
        unfold dataOf at h2
        split at h2
        · rename_i d hd
          cases h2
          have := hy.rep hE1 hd
          unfold Rep at this
          exact this
        · cases h2
      have mono : Post H F H1 F1 (fun b => R1 b ∧ G b) := P1.mono fun b q => q.1
      have fin : ∀ v, RepW X.K H1 σ e' w v (fun b => R1 b ∧ G b) → Q v H1 := fun v hv => k v H1 F1 _ hE1 hv mono pu
      cases c with
      | val d =>
        obtain ⟨d', h4, rfl⟩ := Option.map_eq_some_iff.mp h3
        have := item_data (Q := Q) hc fk h4 fun v hv => fin v hv
        exact this
      | own o =>
        obtain ⟨j, h4, h5⟩ := Option.bind_eq_some_iff.mp h3
        obtain ⟨ch, h6, h7⟩ := Option.bind_eq_some_iff.mp h5
        have n : isOwn o = true := by cases o with
          | hole => cases h6
          | val d => cases h6
          | lst l => rfl
          | dct l => rfl
        have hw : w = mkW ch := by
          cases ch <;> first | (cases h7; done) | (injection h7 with h7; subst h7; rfl) | (cases h7; rfl)
        have := idx_owned (Q := Q) hc n fk h4 h6 fun v _ hv => fin v (by rw [hw]; exact .mk hv)
        exact this
      | «at» i pth =>
        obtain ⟨o, h4, h5⟩ := Option.bind_eq_some_iff.mp h3
        have hrep := hc.rep hE1 (o := o) h4
        have ds : isDictW e' (.at i pth) = isDictO o := by
          unfold isDictW
          have h4' : content e' (.at i pth) = some o := h4
          rw [h4']
        by_cases n : isOwn o = true
        · have h5 : (idxO o kd).bind (fun j => (o.sub j).bind fun x => match x with
              | .hole => none
              | .val d => some (W.val d)
              | _ => some (.at i (pth ++ [j]))) = some w := by
            cases o with
            | hole => cases n
            | val d => cases n
            | lst l => exact h5
            | dct l => exact h5
          obtain ⟨j, h6, h7⟩ := Option.bind_eq_some_iff.mp h5
          obtain ⟨ch, h8, h9⟩ := Option.bind_eq_some_iff.mp h7
          have hre : Rep X.K H1 o x F1 := by
            cases pth with
            | nil => 
              unfold eget at h4
              cases he : e'[i]? with
              | none => rw [he] at h4; cases h4
              | some z =>
                rw [he] at h4
                have h4' : z.get [] = some o := h4
                rw [O.get] at h4'; cases h4'
                exact hE1.at (i := i) (p := []) (by unfold eget; rw [he]; exact h4) n hc.1
            | cons s t => exact hE1.at h4 n hc.1
          have := idx_owned (Q := Q) hre n fk h6 h8 fun v chd hv => fin v (by
            cases ch with
            | hole => cases h9
            | val d => cases h9; unfold Rep at hv; exact hv
            | lst l => 
              cases h9
              obtain ⟨v0, k1, k2⟩ := hc.1
              exact ⟨⟨v0, k1, k2.snoc chd⟩, fun _ => ⟨_, eget_snoc h4 h8, rfl⟩⟩
            | dct l => 
              cases h9
              obtain ⟨v0, k1, k2⟩ := hc.1
              exact ⟨⟨v0, k1, k2.snoc chd⟩, fun _ => ⟨_, eget_snoc h4 h8, rfl⟩⟩)
          rw [ds]
          exact this
        · cases o with
          | val d =>
            obtain ⟨d', h6, rfl⟩ := Option.map_eq_some_iff.mp h5
            unfold Rep at hrep
            have := item_data (Q := Q) hrep fk h6 fun v hv => fin v hv
            rw [ds]
            exact this
          | hole => cases h5
          | lst l => exact absurd rfl n
          | dct l => exact absurd rfl n
    cases hd : isDictW e' c with
    | true =>
      have h : tE X.K f p σ H fun x H1 => tE X.K g q σ H1 fun y H2 => ∃ x' y', [x, y] = [x', y'] ∧ SubWishD x' y' H2 Q := by
        refine tL_two (p := p) (Q := fun vs H1 => ∃ x y, vs = [x, y] ∧ SubWishD x y H1 Q) ⟨e, F, [c, kk], e', t, hE, h1, fun vs H1 F1 R1 a b c d => ?_⟩
        obtain ⟨x, y, e1, z⟩ := key vs H1 F1 R1 a b c d
        rw [hd, if_pos rfl] at z
        exact ⟨x, y, e1, z⟩
      refine .inr (tE_mono h fun x H1 h => tE_mono h fun y H2 ⟨x', y', e1, z⟩ => ?_)
      cases e1
      exact z
    | false =>
      have h : tE X.K f p σ H fun x H1 => tE X.K g q σ H1 fun y H2 => ∃ x' y', [x, y] = [x', y'] ∧ SubWish X.K x' y' H2 Q := by
        refine tL_two (p := p) (Q := fun vs H1 => ∃ x y, vs = [x, y] ∧ SubWish X.K x y H1 Q) ⟨e, F, [c, kk], e', t, hE, h1, fun vs H1 F1 R1 a b c d => ?_⟩
        obtain ⟨x, y, e1, z⟩ := key vs H1 F1 R1 a b c d
        rw [hd, if_neg Bool.false_ne_true] at z
        exact ⟨x, y, e1, z⟩
      refine .inl (tE_mono h fun x H1 h => tE_mono h fun y H2 ⟨x', y', e1, z⟩ => ?_)
      cases e1
      exact z
  · cases hf
end
end Ev

set_option Elab.async false
set_option linter.all false
set_option maxRecDepth 100000
/-! Ev: what the operations compute, upon plain data. -/
namespace Ev
open PySem PySem.Spec PyProof.Rows

/-- the frozen items of a list -/
def listOf? : O → Option (List PyData)
  | .val (.list ds) => some ds
  | .lst os => O.vals os
  | _ => none
/-- .. of a list or a tuple -/
def seqOf? : O → Option (List PyData)
  | .val (.list ds) => some ds
  | .val (.tuple ds) => some ds
  | .lst os => O.vals os
  | _ => none
def mkL (ds : List PyData) : O := .lst (ds.map O.val)
def vI (i : Int) : O := .val (.int i)
def vB (b : Bool) : O := .val (.bool b)
def vS (s : Str) : O := .val (.str s)
def fits (n : Nat) : Bool := decide (n ≤ 16777216)
def catL (a b : List PyData) : Rs O := (Rs.chk (fits (a.length + b.length))).bind fun _ => .ok (mkL (a ++ b))
def oAdd : List O → Rs O
  | [.val (.int a), .val (.int b)] => .ok (vI (a + b))
  | [.val (.str a), .val (.str b)] => (Rs.chk (fits (a.length + b.length))).bind fun _ => .ok (vS (a ++ b))
  | [.val (.tuple a), .val (.tuple b)] => (Rs.chk (fits (a.length + b.length))).bind fun _ => .ok (.val (.tuple (a ++ b)))
  | [x, y] => (Rs.of (listOf? x)).bind fun a => (Rs.of (listOf? y)).bind fun b => catL a b
  | _ => .no
def oSub : List O → Rs O
  | [.val (.int a), .val (.int b)] => .ok (vI (a - b))
  | _ => .no
def repL {α : Type} (xs : List α) (k : Int) : List α := (List.replicate k.toNat xs).flatten
def repOk (n : Nat) (k : Int) : Bool := decide (-(2 ^ 63) ≤ k) && (decide (k < 2 ^ 63) && fits (n * k.toNat))
def repS (s : Str) (k : Int) : Str := ⟨((List.replicate k.toNat s.cps.toList).flatten).toArray⟩
def oMul : List O → Rs O
  | [.val (.int a), .val (.int b)] => (Rs.chk (decide (a.natAbs.log2 + b.natAbs.log2 < 1000000))).bind fun _ => .ok (vI (a * b))
  | [.val (.str a), .val (.int k)] => (Rs.chk (repOk a.length k)).bind fun _ => .ok (vS (repS a k))
  | [x, .val (.int k)] => (Rs.of (listOf? x)).bind fun a => (Rs.chk (repOk a.length k)).bind fun _ => .ok (mkL (repL a k))
  | _ => .no
def oDiv : List O → Rs O
  | [.val (.int a), .val (.int b)] => (Rs.chk (decide (0 < b) && decide (b.natAbs.log2 < 9000))).bind fun _ => .ok (vI (a / b))
  | _ => .no
def oMod : List O → Rs O
  | [.val (.int a), .val (.int b)] => (Rs.chk (decide (b ≠ 0))).bind fun _ => .ok (vI (a.fmod b))
  | _ => .no
def oPow : List O → Rs O
  | [.val (.int a), .val (.int b)] => (Rs.chk (decide (0 ≤ b) && (decide (b ≤ 1000000) && decide (a.natAbs < 2 ^ 64)))).bind fun _ => .ok (vI (a ^ b.toNat))
  | _ => .no
def oNeg : List O → Rs O
  | [.val (.int a)] => .ok (vI (-a))
  | _ => .no
/-- no dict within -/
def plainD (d : PyData) : Bool := PyData.plain d
def eqOk (d c : PyData) : Bool := PyData.plain d && (PyData.plain c && decide (min d.depth c.depth ≤ 64))
def oEq : List O → Rs O
  | [x, y] => (Rs.of x.froz).bind fun d => (Rs.of y.froz).bind fun c => (Rs.chk (eqOk d c)).bind fun _ => .ok (vB (PyData.eqv d c))
  | _ => .no
def oNe : List O → Rs O
  | [x, y] => (Rs.of x.froz).bind fun d => (Rs.of y.froz).bind fun c => (Rs.chk (eqOk d c)).bind fun _ => .ok (vB (!PyData.eqv d c))
  | _ => .no
def strLt (a b : Str) : Bool := decide (a.cps.toList < b.cps.toList)
def oLt : List O → Rs O
  | [.val (.int a), .val (.int b)] => .ok (vB (decide (a < b)))
  | [.val (.str a), .val (.str b)] => .ok (vB (strLt a b))
  | _ => .no
def oLe : List O → Rs O
  | [.val (.int a), .val (.int b)] => .ok (vB (decide (a ≤ b)))
  | [.val (.str a), .val (.str b)] => .ok (vB (!strLt b a))
  | _ => .no
def oGt : List O → Rs O
  | [.val (.int a), .val (.int b)] => .ok (vB (decide (b < a)))
  | [.val (.str a), .val (.str b)] => .ok (vB (strLt b a))
  | _ => .no
def oGe : List O → Rs O
  | [.val (.int a), .val (.int b)] => .ok (vB (decide (b ≤ a)))
  | [.val (.str a), .val (.str b)] => .ok (vB (!strLt a b))
  | _ => .no
/-- the type's name -/
def tyName : PyData → String
  | .none => "NoneType"
  | .bool _ => "bool"
  | .int _ => "int"
  | .str _ => "str"
  | .list _ => "list"
  | .tuple _ => "tuple"
  | .dict _ => "dict"
def isTyN (T n : String) : Bool := n == T || (T == "int" && n == "bool")
def isTy (T : String) (d : PyData) : Bool := isTyN T (tyName d)
def tyOk (T : String) : Bool := T == "str" || (T == "int" || (T == "bool" || (T == "tuple" || (T == "list" || T == "dict"))))
def tyO : O → Option PyData
  | .val d => some d
  | .lst _ => some (.list [])
  | .dct _ => some (.dict [])
  | .hole => none
def oIsi (T : String) : List O → Rs O
  | [x] => (Rs.of (tyO x)).bind fun d => .ok (vB (isTy T d))
  | _ => .no
def strIn (a b : Str) : Bool := !(Builtin.Str.occurrences b a 0 b.length 1).isEmpty
def oIn : List O → Rs O
  | [.val (.str a), .val (.str b)] => .ok (vB (strIn a b))
  | [x, y] => (Rs.of x.froz).bind fun d => (Rs.of (seqOf? y)).bind fun l => (Rs.chk (PyData.plain d && (PyData.plainAll l && decide (d.depth ≤ 64)))).bind fun _ => .ok (vB (l.any fun z => PyData.eqv z d))
  | _ => .no
def oNotIn : List O → Rs O
  | [.val (.str a), .val (.str b)] => .ok (vB (!strIn a b))
  | [x, y] => (Rs.of x.froz).bind fun d => (Rs.of (seqOf? y)).bind fun l => (Rs.chk (PyData.plain d && (PyData.plainAll l && decide (d.depth ≤ 64)))).bind fun _ => .ok (vB (!l.any fun z => PyData.eqv z d))
  | _ => .no
def isN : PyData → Bool
  | .none => true
  | _ => false
def oIs : List O → Rs O
  | [x, .val .none] => (Rs.of x.froz).bind fun d => .ok (vB (isN d))
  | _ => .no
def oIsNot : List O → Rs O
  | [x, .val .none] => (Rs.of x.froz).bind fun d => .ok (vB (!isN d))
  | _ => .no
def oLen : List O → Rs O
  | [.val (.str s)] => (Rs.chk (fits s.length)).bind fun _ => .ok (vI s.length)
  | [.val (.list l)] => .ok (vI l.length)
  | [.val (.tuple l)] => .ok (vI l.length)
  | [.lst l] => .ok (vI l.length)
  | _ => .no
def allBools : List PyData → Option (List Bool)
  | [] => some []
  | .bool b :: r => (allBools r).map (b :: ·)
  | _ => none
def oAll : List O → Rs O
  | [x] => (Rs.of (listOf? x)).bind fun ds => (Rs.of (allBools ds)).bind fun bs => .ok (vB (bs.all id))
  | _ => .no
def oAny : List O → Rs O
  | [x] => (Rs.of (listOf? x)).bind fun ds => (Rs.of (allBools ds)).bind fun bs => .ok (vB (bs.any id))
  | _ => .no
def oList : List O → Rs O
  | [x] => (Rs.of (seqOf? x)).bind fun ds => .ok (mkL ds)
  | _ => .no
def oTuple : List O → Rs O
  | [x] => (Rs.of (seqOf? x)).bind fun ds => .ok (.val (.tuple ds))
  | _ => .no
def isSc : PyData → Bool
  | .none => true
  | .bool _ => true
  | .int _ => true
  | .str _ => true
  | _ => false
def oRepr : List O → Rs O
  | [x] => (Rs.of x.froz).bind fun d => (Rs.chk (PyData.showable d && (decide (d.depth ≤ 64) && fits d.shown.length))).bind fun _ => .ok (vS d.shown)
  | _ => .no
def oAbs : List O → Rs O
  | [.val (.int a)] => .ok (vI (if a < 0 then -a else a))
  | _ => .no
def cutL {α : Type} (xs : List α) (lo hi : Option Int) : List α := (xs.drop (HT.sIx xs.length 0 lo)).take (HT.sIx xs.length xs.length hi - HT.sIx xs.length 0 lo)
/-- x[lo:hi] -/
def sliceO (x : O) (lo hi : Option Int) : Rs O := match x with
  | .val (.str s) => (Rs.chk (fits s.length)).bind fun _ => .ok (vS (L2.cutS s lo hi))
  | .val (.tuple l) => .ok (.val (.tuple (cutL l lo hi)))
  | x => (Rs.of (listOf? x)).bind fun l => .ok (mkL (cutL l lo hi))
/-- x[lo:hi] with the bounds that are written -/
def oSlice (a b : Bool) : List O → Rs O
  | [x] => if a || b then .no else sliceO x none none
  | [x, .val (.int i)] => if a && !b then sliceO x (some i) none else if !a && b then sliceO x none (some i) else .no
  | _ => .no
def intW : W → Option Int
  | .val (.int i) => some i
  | _ => none
/-- x[i:j] -/
def eSlice2 (f : EF) (q : Bool) (g : EF) (r : Bool) (h : EF) : EF := fun e => (f e).bind fun (w, e1) => (Rs.chk ((q && r) || !w.nested)).bind fun _ => (g e1).bind fun (wl, e2) => (Rs.of (intW wl)).bind fun i =>
  (h e2).bind fun (wu, e3) => (Rs.of (intW wu)).bind fun j => (Rs.of (content e3 w)).bind fun o => (sliceO o (some i) (some j)).bind fun o' => .ok (mkW o', e3)
/-- xs[::-1] -/
def oRevL : List O → Rs O
  | [x] => (Rs.of (listOf? x)).bind fun l => .ok (mkL l.reverse)
  | _ => .no
/-! methods -/
def eMeth (T : String) (F : List O → Rs O) (f : EF) (q : Bool) (g : LF) : EF := fun e => (f e).bind fun (w, e1) => (Rs.of ((content e1 w).bind tyO)).bind fun d => (Rs.chk (tyName d == T)).bind fun _ =>
  (Rs.chk (q || !w.nested)).bind fun _ => (g e1).bind fun (ws, e2) => (Rs.of (contents e2 (w :: ws))).bind fun os => (F os).bind fun o => .ok (mkW o, e2)
def notAt (w : W) : Bool := !isAt w
def eMut (T : String) (M : O → List O → Rs (O × O)) (f : EF) (q : Bool) (g : LF) : EF := fun e => (f e).bind fun (w, e1) => match w with
  | .at i p => (Rs.of (eget e1 i p)).bind fun o => (Rs.of (tyO o)).bind fun d => (Rs.chk (tyName d == T)).bind fun _ => (Rs.chk (q || p.isEmpty)).bind fun _ => (g e1).bind fun (ws, e2) =>
    (Rs.chk (p.isEmpty || ws.all notAt)).bind fun _ => (storeL ws e2).bind fun (os, e3) => (Rs.of (eget e3 i p)).bind fun o => (Rs.chk (isOwn o)).bind fun _ => (M o os).bind fun (o', r) => .ok (mkW r, eput e3 i p o')
  | _ => .no
def mAppend : O → List O → Rs (O × O)
  | .lst l, [y] => (Rs.chk (decide (l.length < 16777216))).bind fun _ => .ok (.lst (l ++ [y]), .val .none)
  | _, _ => .no
def mPop : O → List O → Rs (O × O)
  | .lst l, [] => (Rs.of l.getLast?).bind fun y => .ok (.lst l.dropLast, y)
  | _, _ => .no
/-- texts in a list -/
def strsOf : List PyData → Option (List Str)
  | [] => some []
  | .str b :: r => (strsOf r).map (b :: ·)
  | _ => none
def oJoin : List O → Rs O
  | [.val (.str a), x] => (Rs.of (seqOf? x)).bind fun l => (Rs.of (strsOf l)).bind fun ys => (Rs.chk (fits ((ys.map (·.length)).sum + ys.length * a.length))).bind fun _ => .ok (vS (PySem.Txt.join a ys))
  | _ => .no
def oFind : List O → Rs O
  | [.val (.str a), .val (.str b)] => .ok (vI (PySem.Txt.find a b))
  | _ => .no
end Ev

set_option Elab.async false
set_option linter.all false
set_option maxRecDepth 100000
/-! Ev: the operations, proved. -/
namespace Ev
open PySem PySem.Spec PyProof.Rows L2
section
variable {X : Cx} {pins : List (Addr × Obj)} {σ : L2.St} {H : Hp} {s : Shared}
theorem fits_ok {n : Nat} {u : Unit} (h : Rs.chk (fits n) = .ok u) : n ≤ sizeLine := by
  have := of_decide_eq_true (Rs.chk_ok h)
  rw [sizeLine_eq]; exact this
/-- a list's exact object: tracked, locked or of the module -/
def LstAt (K : PySem.W.Frag) (H : Hp) (a : Addr) (xs : List V) : Prop := H a = some (.lst xs) ∨ FrzL K H a xs
theorem LstAt.get {a : Addr} {xs : List V} (I : Inv X pins σ H s) (h : LstAt X.K H a xs) : ∃ (its : List Value) (n : Nat), Vals xs its ∧ s.heap.get? a = some { cls := .type "list", data := .seq its.toArray n } ∧ xs.length ≤ sizeLine := by
  rcases h with h | ⟨o, h⟩ | ⟨its, n, h1, h2, h3⟩
  · obtain ⟨z, its, n, r, e⟩ := I.hok a _ h
    exact ⟨its, n, r, e, z⟩
  · obtain ⟨_, z, its, n, r, e⟩ := I.hok a _ h
    exact ⟨its, n, r, e, z⟩
  · exact ⟨its, n, h3, I.kIn a _ h1, by rw [h3.length]; exact h2⟩
theorem LstAt.sq {K : PySem.W.Frag} {a : Addr} {xs : List V} (h : LstAt K H a xs) : SqL K H a xs := h.elim SqL.of FrzL.sq
theorem vals_rep {K : PySem.W.Frag} : ∀ {ds : List PyData} {xs : List V} {F : Rg}, RepL K H (ds.map O.val) xs F ↔ FzAll K H ds xs
  | [], xs, F => by unfold FzAll; rw [List.map_nil]; unfold RepL; exact Iff.rfl
  | d :: ds, xs, F => by
    rw [List.map_cons]
    unfold RepL FzAll
    constructor
    · rintro ⟨x, r, G, e, h1, h2⟩
      unfold Rep at h1
      exact ⟨x, r, e, h1, vals_rep.mp h2⟩
    · rintro ⟨x, r, e, h1, h2⟩
      exact ⟨x, r, fun _ => True, e, by unfold Rep; exact h1, vals_rep.mpr h2⟩
/-- the list behind listOf? -/
theorem listOf_at {K : PySem.W.Frag} {o : O} {v : V} {F : Rg} {ds : List PyData} (h : Rep K H o v F) (e : listOf? o = some ds) : ∃ a xs, v = .ref a ∧ LstAt K H a xs ∧ FzAll K H ds xs := by
  cases o with
  | hole => cases e
  | val d =>
    cases d with
    | list l =>
      cases e
      unfold Rep at h
      unfold Fz at h
      obtain ⟨a, xs, e, f, g⟩ := h
      exact ⟨a, xs, e, .inr f, g⟩
    | _ => cases e
  | lst os =>
    have e : O.vals os = some ds := e
    have := O.vals_eq e
    subst this
    unfold Rep at h
    obtain ⟨a, xs, e2, fa, ha, r⟩ := h
    exact ⟨a, xs, e2, .inl ha, vals_rep.mp r⟩
  | dct l => cases e
theorem seqOf_at {K : PySem.W.Frag} {o : O} {v : V} {F : Rg} {ds : List PyData} (h : Rep K H o v F) (e : seqOf? o = some ds) : ∃ a xs, v = .ref a ∧ (SqL K H a xs ∨ TupF K H a xs) ∧ FzAll K H ds xs := by
  cases o with
  | hole => cases e
  | val d =>
    cases d with
    | list l =>
      obtain ⟨a, xs, h1, h2, h3⟩ := listOf_at h (show listOf? (.val (.list l)) = some ds from e)
      exact ⟨a, xs, h1, .inl h2.sq, h3⟩
    | tuple l =>
      cases e
      unfold Rep at h
      unfold Fz at h
      obtain ⟨a, xs, e, f, g⟩ := h
      exact ⟨a, xs, e, .inr f, g⟩
    | _ => cases e
  | lst os =>
    obtain ⟨a, xs, h1, h2, h3⟩ := listOf_at h (show listOf? (.lst os) = some ds from e)
    exact ⟨a, xs, h1, .inl h2.sq, h3⟩
  | dct l => cases e
/-- a new list is laid -/
theorem fresh_upd {H : Hp} {a : Addr} {o : HO} (n : H a = none) : Fresh H (upd H a o) (fun b => b = a) := ⟨fun b u e => by rw [upd_ne (ne_of_none e n)]; exact e, fun b e => by rw [e]; exact n, fun b e => by rw [e]; exact ⟨o, upd_same⟩⟩
theorem rep_newL {K : PySem.W.Frag} {H : Hp} {a : Addr} {xs : List V} {ds : List PyData} (n : H a = none) (h : FzAll K H ds xs) : Rep K (upd H a (.lst xs)) (mkL ds) (.ref a) (fun b => b = a) := by
  unfold mkL Rep
  exact ⟨a, xs, rfl, rfl, upd_same, vals_rep.mpr (FzAll.keep (keep_upd n) _ _ h)⟩
theorem rep_newT {K : PySem.W.Frag} {H : Hp} {a : Addr} {o : Obj} {xs : List V} {ds : List PyData} (n : H a = none) (d : o.dict = none) (h : FzAll K H ds xs) (F : Rg) : Rep K (upd H a (.frz o (.tup xs))) (.val (.tuple ds)) (.ref a) F := by
  unfold Rep Fz
  exact ⟨a, xs, rfl, .inl ⟨o, upd_same, d⟩, FzAll.keep (keep_upd n) _ _ h⟩
/-- a new tuple, locked -/
theorem tup_laid {its : List Value} {xs : List V} (I : Inv X pins σ H s) (r : Vals xs its) (z : xs.length ≤ sizeLine) (t : Nat) :
    Inv X pins σ (upd H s.heap.objs.size (.frz { cls := .type "tuple", data := .seq its.toArray } (.tup xs))) { s with heap := s.heap.push { cls := .type "tuple", data := .seq its.toArray }, toks := t } :=
  I.laid (fun b ob q => Heap.get?_push_of_some _ q) (Nat.le_refl _) ⟨Heap.get?_push_size _ rfl, z, its, r, IsTup.new _ _⟩

theorem scal_fin {o : O} {v : V} {Q : VK} (hv : ∀ K : PySem.W.Frag, Rep K H o v (fun _ => False)) (q : ∀ v H' (R : Rg), Rep X.K H' o v R → Fresh H H' R → Q v H') : Q v H := q v H _ (hv X.K) (.refl H)
theorem rep_vI {K : PySem.W.Frag} {i : Int} {F : Rg} : Rep K H (vI i) (.int i) F := by unfold vI Rep Fz; rfl
theorem rep_vB {K : PySem.W.Frag} {b : Bool} {F : Rg} : Rep K H (vB b) (.bl b) F := by unfold vB Rep Fz; rfl
theorem rep_vS {K : PySem.W.Frag} {x : Str} {F : Rg} : Rep K H (vS x) (.str x) F := by unfold vS Rep Fz; rfl
theorem rep_int {K : PySem.W.Frag} {i : Int} {v : V} {F : Rg} (h : Rep K H (.val (.int i)) v F) : v = .int i := by unfold Rep Fz at h; exact h
theorem rep_str {K : PySem.W.Frag} {i : Str} {v : V} {F : Rg} (h : Rep K H (.val (.str i)) v F) : v = .str i := by unfold Rep Fz at h; exact h
theorem rep_bool {K : PySem.W.Frag} {i : Bool} {v : V} {F : Rg} (h : Rep K H (.val (.bool i)) v F) : v = .bl i := by unfold Rep Fz at h; exact h
theorem rep_tup {K : PySem.W.Frag} {l : List PyData} {v : V} {F : Rg} (h : Rep K H (.val (.tuple l)) v F) : ∃ a xs, v = .ref a ∧ TupF K H a xs ∧ FzAll K H l xs := by unfold Rep Fz at h; exact h

theorem wish2 {K : PySem.W.Frag} {F : List O → Rs O} {x y : V} {Q : VK} (h : opWish K F [x, y] H Q) : ∃ o1 o2, ∃ G : Rg, ∃ o, Rep K H o1 x G ∧ Rep K H o2 y G ∧ F [o1, o2] = .ok o ∧ ∀ v H' (R : Rg), Rep K H' o v R → Fresh H H' R → Q v H' := by
  obtain ⟨os, G, o, hr, hf, q⟩ := h
  cases os with
  | nil => cases hr
  | cons o1 os =>
    obtain ⟨v, r, e, h1, h2⟩ := hr
    cases os with
    | nil => cases e; cases h2
    | cons o2 os =>
      obtain ⟨w, r2, e2, h3, h4⟩ := h2
      cases os with
      | nil =>
        have h4 : r2 = [] := h4
        subst h4 e2
        cases e
        exact ⟨o1, o2, G, o, h1, h3, hf, q⟩
      | cons o3 os =>
        obtain ⟨w3, r3, e3, _⟩ := h4
        subst e3 e2
        cases e
theorem wish1 {K : PySem.W.Frag} {F : List O → Rs O} {x : V} {Q : VK} (h : opWish K F [x] H Q) : ∃ o1, ∃ G : Rg, ∃ o, Rep K H o1 x G ∧ F [o1] = .ok o ∧ ∀ v H' (R : Rg), Rep K H' o v R → Fresh H H' R → Q v H' := by
  obtain ⟨os, G, o, hr, hf, q⟩ := h
  cases os with
  | nil => cases hr
  | cons o1 os =>
    obtain ⟨v, r, e, h1, h2⟩ := hr
    cases os with
    | nil =>
      have h2 : r = [] := h2
      subst h2
      cases e
      exact ⟨o1, G, o, h1, hf, q⟩
    | cons o2 os =>
      obtain ⟨w, r2, e2, _⟩ := h2
      subst e2
      cases e
theorem opd_of {f : Value → Value → Sem Value} {r : R2} {F : List O → Rs O} (h : OpR X f r)
    (i : ∀ x y H Q o1 o2 (G : Rg) o, Rep X.K H o1 x G → Rep X.K H o2 y G → F [o1, o2] = .ok o → (∀ v H' (R : Rg), Rep X.K H' o v R → Fresh H H' R → Q v H') → r x y H Q) : OpD X f F := fun pins s σ H x y v u Q I rx ry q => by
  obtain ⟨o1, o2, G, o, h1, h2, hf, k⟩ := wish2 q
  exact h pins s σ H x y v u Q I rx ry (i x y H Q o1 o2 G o h1 h2 hf k)
theorem und_of {f : Value → Sem Value} {r : V → Hp → VK → Prop} {F : List O → Rs O} (h : UnR X f r)
    (i : ∀ x H Q o1 (G : Rg) o, Rep X.K H o1 x G → F [o1] = .ok o → (∀ v H' (R : Rg), Rep X.K H' o v R → Fresh H H' R → Q v H') → r x H Q) : UnD X f F := fun pins s σ H x v Q I rx q => by
  obtain ⟨o1, G, o, h1, hf, k⟩ := wish1 q
  exact h pins s σ H x v Q I rx (i x H Q o1 G o h1 hf k)
theorem opd_sub : OpD X (binaryOp .Sub) oSub := opd_of op_sub fun x y H Q o1 o2 G o h1 h2 hf k => by
  unfold oSub at hf
  split at hf
  · rename_i a b he
    cases he; cases hf
    exact ⟨a, b, rep_int h1, rep_int h2, k _ _ _ rep_vI (.refl H)⟩
  · cases hf
theorem opd_div : OpD X (binaryOp .FloorDiv) oDiv := opd_of op_fdivW fun x y H Q o1 o2 G o h1 h2 hf k => by
  unfold oDiv at hf
  split at hf
  · rename_i a b he
    obtain ⟨_, hc, hf⟩ := Rs.bind_ok hf
    have hc := Rs.chk_ok hc
    rw [Bool.and_eq_true] at hc
    cases he; cases hf
    exact ⟨a, b, rep_int h1, rep_int h2, ⟨of_decide_eq_true hc.1, of_decide_eq_true hc.2⟩, k _ _ _ rep_vI (.refl H)⟩
  · cases hf
theorem opd_mod : OpD X (binaryOp .Mod) oMod := opd_of op_modN fun x y H Q o1 o2 G o h1 h2 hf k => by
  unfold oMod at hf
  split at hf
  · rename_i a b he
    obtain ⟨_, hc, hf⟩ := Rs.bind_ok hf
    have hc := of_decide_eq_true (Rs.chk_ok hc)
    cases he; cases hf
    exact ⟨a, b, rep_int h1, rep_int h2, hc, k _ _ _ rep_vI (.refl H)⟩
  · cases hf
theorem opd_pow : OpD X (binaryOp .Pow) oPow := opd_of op_pow fun x y H Q o1 o2 G o h1 h2 hf k => by
  unfold oPow at hf
  split at hf
  · rename_i a b he
    obtain ⟨_, hc, hf⟩ := Rs.bind_ok hf
    have hc := Rs.chk_ok hc
    rw [Bool.and_eq_true, Bool.and_eq_true] at hc
    cases he; cases hf
    exact ⟨a, b, rep_int h1, rep_int h2, ⟨of_decide_eq_true hc.1, of_decide_eq_true hc.2.1, of_decide_eq_true hc.2.2⟩, k _ _ _ rep_vI (.refl H)⟩
  · cases hf
theorem und_neg : UnD X (unaryOp .USub) oNeg := und_of un_neg fun x H Q o1 G o h1 hf k => by
  unfold oNeg at hf
  split at hf
  · rename_i a he
    cases he; cases hf
    exact ⟨a, rep_int h1, k _ _ _ rep_vI (.refl H)⟩
  · cases hf
/-! ### order of ints and texts -/
theorem opd_lt : OpD X (compareOp .Lt) oLt := opd_of (OpR.or op_lt op_lt_str) fun x y H Q o1 o2 G o h1 h2 hf k => by
  unfold oLt at hf
  split at hf
  · rename_i a b he
    cases he; cases hf
    exact .inl ⟨a, b, rep_int h1, rep_int h2, k _ _ _ rep_vB (.refl H)⟩
  · rename_i a b he
    cases he; cases hf
    exact .inr ⟨a, b, rep_str h1, rep_str h2, k _ _ _ rep_vB (.refl H)⟩
  · cases hf
theorem opd_le : OpD X (compareOp .LtE) oLe := opd_of (OpR.or op_le op_le_str) fun x y H Q o1 o2 G o h1 h2 hf k => by
  unfold oLe at hf
  split at hf
  · rename_i a b he
    cases he; cases hf
    exact .inl ⟨a, b, rep_int h1, rep_int h2, k _ _ _ rep_vB (.refl H)⟩
  · rename_i a b he
    cases he; cases hf
    exact .inr ⟨a, b, rep_str h1, rep_str h2, k _ _ _ rep_vB (.refl H)⟩
  · cases hf
theorem opd_gt : OpD X (compareOp .Gt) oGt := opd_of (OpR.or op_gt op_gt_str) fun x y H Q o1 o2 G o h1 h2 hf k => by
  unfold oGt at hf
  split at hf
  · rename_i a b he
    cases he; cases hf
    exact .inl ⟨a, b, rep_int h1, rep_int h2, k _ _ _ rep_vB (.refl H)⟩
  · rename_i a b he
    cases he; cases hf
    exact .inr ⟨a, b, rep_str h1, rep_str h2, k _ _ _ rep_vB (.refl H)⟩
  · cases hf
theorem opd_ge : OpD X (compareOp .GtE) oGe := opd_of (OpR.or op_ge op_ge_str) fun x y H Q o1 o2 G o h1 h2 hf k => by
  unfold oGe at hf
  split at hf
  · rename_i a b he
    cases he; cases hf
    exact .inl ⟨a, b, rep_int h1, rep_int h2, k _ _ _ rep_vB (.refl H)⟩
  · rename_i a b he
    cases he; cases hf
    exact .inr ⟨a, b, rep_str h1, rep_str h2, k _ _ _ rep_vB (.refl H)⟩
  · cases hf
/-! ### + -/
theorem op_catD : OpR X (binaryOp .Add) (fun x y H Q => ∃ a b xs ys, x = .ref a ∧ y = .ref b ∧ LstAt X.K H a xs ∧ LstAt X.K H b ys ∧ xs.length + ys.length ≤ sizeLine ∧ ∀ p, H p = none → Q (.ref p) (upd H p (.lst (xs ++ ys)))) := by
  intro pins s σ H x y v u Q I rx ry h
  obtain ⟨a, b, xs, ys, rfl, rfl, ha, hb, hz, q⟩ := h
  cases rx
  cases ry
  obtain ⟨its, n, r, e, _⟩ := ha.get I
  obtain ⟨its2, n2, r2, e2, _⟩ := hb.get I
  refine PySem.P.add_list e e2 ?_ (by rw [List.size_toArray, List.size_toArray, ← r.length, ← r2.length]; exact hz)
  rw [List.append_toArray]
  exact ⟨.ref _, _, I.lnew (t' := s.toks) (r.append r2) (by rw [List.length_append]; exact hz), rfl, q _ I.fresh⟩
theorem op_catTF : OpR X (binaryOp .Add) (fun x y H Q => ∃ a b xs ys, x = .ref a ∧ y = .ref b ∧ SqT X.K H a xs ∧ SqT X.K H b ys ∧ xs.length + ys.length ≤ sizeLine ∧ (xs = [] → Q (.ref b) H) ∧ (xs ≠ [] → ys = [] → Q (.ref a) H) ∧
    (xs ≠ [] → ys ≠ [] → ∀ p o, H p = none → o.dict = none → Q (.ref p) (upd H p (.frz o (.tup (xs ++ ys)))))) := by
  intro pins s σ H x y v u Q I rx ry h
  obtain ⟨a, b, xs, ys, rfl, rfl, ha, hb, hz, q0, q1, q2⟩ := h
  cases rx
  cases ry
  obtain ⟨its, r1, p1, _⟩ := I.tuple ha
  obtain ⟨its2, r2, p2, _⟩ := I.tuple hb
  by_cases hx : its = []
  · obtain ⟨⟨cls, dd, data, sl⟩, ho, hc, n, hd⟩ := id p1
    obtain ⟨⟨cls2, dd2, data2, sl2⟩, ho2, hc2, n2, hd2⟩ := id p2
    simp only at hc hd hc2 hd2
    subst hc hd hc2 hd2
    exact concat_meets ⟨_, ho, rfl⟩ ⟨_, ho2, rfl⟩ noFill_tuple_add seq_tuple_add PySem.F.slot_tuple_add PySem.F.entry_tuple_add (PySem.F.args_tuple_add_2 _ _)
      (tuple_addW0 a b its.toArray its2.toArray n n2 dd dd2 sl sl2 (by simp [hx])) ⟨ho, ho2, ⟨.ref b, H, I, rfl, q0 (r1.nil_iff.mp hx)⟩⟩
  · have nx : xs ≠ [] := fun z => hx (r1.nil_iff.mpr z)
    refine HT.cat_tup p1 p2 hx (fun z => ⟨.ref a, H, I, rfl, q1 nx (r2.nil_iff.mp z)⟩) (fun z => ?_) (by rw [← r1.length, ← r2.length]; exact hz)
    exact ⟨.ref s.heap.objs.size, _, tup_laid I (r1.append r2) (by rw [List.length_append]; exact hz) s.toks, rfl, q2 nx (fun w => z (r2.nil_iff.mpr w)) _ _ I.fresh rfl⟩
theorem fz_nil {K : PySem.W.Frag} {l : List PyData} {xs : List V} (h : FzAll K H l xs) : xs = [] ↔ l = [] := by
  have e := FzAll.length h
  constructor
  · rintro rfl; exact List.length_eq_zero_iff.mp e
  · rintro rfl; exact List.length_eq_zero_iff.mp e.symm
theorem opd_add : OpD X (binaryOp .Add) oAdd := opd_of (OpR.or op_add (OpR.or op_add_str (OpR.or op_catTF op_catD))) fun x y H Q o1 o2 G o h1 h2 hf k => by
  unfold oAdd at hf
  split at hf
  · rename_i a b he
    cases he; cases hf
    exact .inl ⟨a, b, rep_int h1, rep_int h2, k _ _ _ rep_vI (.refl H)⟩
  · rename_i a b he
    obtain ⟨_, hc, hf⟩ := Rs.bind_ok hf
    cases he; cases hf
    exact .inr (.inl ⟨a, b, rep_str h1, rep_str h2, fits_ok hc, k _ _ _ rep_vS (.refl H)⟩)
  · rename_i a b he
    obtain ⟨_, hc, hf⟩ := Rs.bind_ok hf
    cases he; cases hf
    obtain ⟨p, xs, rfl, f1, g1⟩ := rep_tup h1
    obtain ⟨q, ys, rfl, f2, g2⟩ := rep_tup h2
    refine .inr (.inr (.inl ⟨p, q, xs, ys, rfl, rfl, f1.sq, f2.sq, by rw [← FzAll.length g1, ← FzAll.length g2]; exact fits_ok hc, fun z => ?_, fun _ z => ?_, fun _ _ r ob nr nd => ?_⟩))
    · have := (fz_nil g1).mp z
      subst this
      exact k _ _ (fun _ => False) (Rep.mono _ _ _ _ (fun _ z => z) (by unfold Rep at h2 ⊢; exact h2)) (.refl H)
    · have := (fz_nil g2).mp z
      subst this
      rw [List.append_nil] at k
      exact k _ _ (fun _ => False) (by unfold Rep at h1 ⊢; exact h1) (.refl H)
    · exact k _ _ _ (rep_newT nr nd (FzAll.append g1 g2) _) (fresh_upd nr)
  · rename_i p q he
    cases he
    obtain ⟨a, e1, hf⟩ := Rs.bind_ok hf
    obtain ⟨b, e2, hf⟩ := Rs.bind_ok hf
    have e1 := Rs.of_ok e1
    have e2 := Rs.of_ok e2
    unfold catL at hf
    obtain ⟨_, hc, hf⟩ := Rs.bind_ok hf
    cases hf
    obtain ⟨p, xs, rfl, f1, g1⟩ := listOf_at h1 e1
    obtain ⟨q, ys, rfl, f2, g2⟩ := listOf_at h2 e2
    exact .inr (.inr (.inr ⟨p, q, xs, ys, rfl, rfl, f1, f2, by rw [← FzAll.length g1, ← FzAll.length g2]; exact fits_ok hc, fun r nr => k _ _ _ (rep_newL nr (FzAll.append g1 g2)) (fresh_upd nr)⟩))
  · cases hf
/-! ### * -/
theorem op_repD : OpR X (binaryOp .Mult) (fun x y H Q => ∃ l k xs, x = .ref l ∧ y = .int k ∧ LstAt X.K H l xs ∧ -(2 ^ 63) ≤ k ∧ k < 2 ^ 63 ∧ xs.length * k.toNat ≤ sizeLine ∧ ∀ p, H p = none → Q (.ref p) (upd H p (.lst (List.replicate k.toNat xs).flatten))) := by
  intro pins s σ H x y v u Q I rx ry h
  obtain ⟨l, k, xs, rfl, rfl, hH, h1, h2, hz, q⟩ := h
  cases rx
  obtain ⟨t, rfl⟩ := ry
  obtain ⟨its, n, r, e, _⟩ := hH.get I
  have hsz : its.toArray.size * k.toNat ≤ sizeLine := by rw [List.size_toArray, ← r.length]; exact hz
  have hcap : ¬ its.toArray.size * k.toNat > (2 ^ 63 - 1) / 8 := fun z => by
    have : (sizeLine : Nat) ≤ (2 ^ 63 - 1) / 8 := by decide
    omega
  have hnew : List.foldl (fun x1 x2 => x1 ++ x2) #[] (List.replicate (if its.toArray.isEmpty = true then 0 else k.toNat) its.toArray) = (List.replicate k.toNat its).flatten.toArray := by
    have f0 : ∀ m : Nat, List.foldl (fun x1 x2 => x1 ++ x2) #[] (List.replicate m its.toArray) = (List.replicate m its).flatten.toArray := fun m => (foldl_rep its m []).trans (by rw [List.nil_append])
    rw [f0]
    cases its with
    | nil => simp
    | cons a r' => rw [if_neg (by simp)]
  refine wpAny_binaryOp_repeat_ref (T := "list") (U := "int") (by decide) ⟨_, e, rfl⟩ (fun s' => typeIs_int s' k t) noFill_list_mul F.fills_int_mul F.slot_int_rmul repeat_list F.slot_int_index.lookup
    (call_meets F.slot_int_rmul (typeIs_int s k t) F.entry_int_rmul (F.args_int_rmul_2 _ _) (int___rmul___int_list k t l its.toArray n)
      ⟨e, rfl, ⟨_, e, rfl⟩, call_meets F.slot_list_mul ⟨_, e, rfl⟩ F.entry_list_mul (F.args_list_mul_2 _ _)
        (AutoListH.list___mul___list_int_3 l its.toArray n k t (by rw [fitsIndex_both h1 h2]; exact Bool.false_ne_true) hcap (by rw [notLongL hsz]; exact Bool.false_ne_true)) ⟨e, ?_⟩⟩)
  rw [hnew]
  exact ⟨.ref _, _, I.lnew (t' := s.toks) (r.rep k.toNat) (by rw [PyProof.Rows.lm_len_rep_flat, Nat.mul_comm]; exact hz), rfl, q _ I.fresh⟩
theorem foldl_cps (x : List Nat) : ∀ (n : Nat) (acc : List Nat), List.foldl (fun (a b : Array Nat) => a ++ b) acc.toArray (List.replicate n x.toArray) = (acc ++ (List.replicate n x).flatten).toArray
  | 0, acc => by simp
  | n + 1, acc => by
    rw [List.replicate_succ, List.foldl_cons, List.append_toArray, foldl_cps x n, List.replicate_succ, List.flatten_cons, List.append_assoc]
theorem op_repS : OpR X (binaryOp .Mult) (fun x y H Q => ∃ (z : Str) (k : Int), x = .str z ∧ y = .int k ∧ -(2 ^ 63) ≤ k ∧ k < 2 ^ 63 ∧ z.length * k.toNat ≤ sizeLine ∧ Q (.str (repS z k)) H) := by
  intro pins s σ H x y v u Q I rx ry h
  obtain ⟨z, k, rfl, rfl, h1, h2, hz, q⟩ := h
  obtain ⟨t, rfl⟩ := rx
  obtain ⟨t', rfl⟩ := ry
  have hrs : repS z k = if k < 1 then Str.empty else if (k == 1 || z.length == 0) = true then z else ⟨(List.replicate k.toNat z.cps).foldl (· ++ ·) #[]⟩ := by
    obtain ⟨c⟩ := z
    have key : (⟨(List.replicate k.toNat c).foldl (· ++ ·) #[]⟩ : Str) = repS ⟨c⟩ k := by
      unfold repS
      have := foldl_cps c.toList k.toNat []
      rw [Array.toArray_toList] at this
      rw [List.nil_append] at this
      exact congrArg Str.mk this
    rw [← key]
    by_cases k1 : k < 1
    · rw [if_pos k1, show k.toNat = 0 by omega]
      rfl
    · rw [if_neg k1]
      by_cases k2 : (k == 1 || (Str.mk c).length == 0) = true
      · rw [if_pos k2]
        rw [Bool.or_eq_true] at k2
        rcases k2 with e | e
        · have : k = 1 := eq_of_beq e
          subst this
          show (⟨#[] ++ c⟩ : Str) = ⟨c⟩
          simp
        · have e : c.size = 0 := eq_of_beq e
          have : c = #[] := Array.size_eq_zero_iff.mp e
          subst this
          have := foldl_cps [] k.toNat []
          rw [key]
          unfold repS
          simp
      · rw [if_neg k2]
  refine PySem.P.mul_str ?_ (fun k1 k2 => ?_) (fun k1 k2 => ?_) ?_
  · rw [decide_eq_false (by omega), decide_eq_false (by omega)]; rfl
  · have hs : (sizeLine : Int) < 2 ^ 63 := by rw [sizeLine_eq]; decide
    have h3 : z.length * k.toNat < 2 ^ 63 := by rw [sizeLine_eq] at hz; omega
    rw [show k = ((k.toNat : Nat) : Int) by omega, show ((2 : Int) ^ 63 - 1) = ((2 ^ 63 - 1 : Nat) : Int) by decide, ← Int.natCast_ediv]
    have h4 : z.length ≤ (2 ^ 63 - 1) / k.toNat := (Nat.le_div_iff_mul_le (by omega)).mpr (by omega)
    omega
  · unfold Builtin.Str.tooLong
    exact decide_eq_false (by omega)
  · rw [hrs] at q
    by_cases k1 : k < 1
    · rw [if_pos k1] at q ⊢
      exact ⟨by decide, ⟨.str _, H, I.tok _, ⟨_, rfl⟩, q⟩⟩
    · rw [if_neg k1] at q ⊢
      by_cases k2 : (k == 1 || z.length == 0) = true
      · rw [if_pos k2] at q ⊢
        exact ⟨.str _, H, I, ⟨_, rfl⟩, q⟩
      · rw [if_neg k2] at q ⊢
        refine ⟨?_, ⟨.str _, H, I.tok _, ⟨_, rfl⟩, q⟩⟩
        have e := hrs
        rw [if_neg k1, if_neg k2] at e
        rw [← e]
        show (repS z k).cps.size ≤ sizeLine
        unfold repS
        rw [List.size_toArray, PyProof.Rows.lm_len_rep_flat, Nat.mul_comm]
        exact hz
end
end Ev

set_option Elab.async false
set_option linter.all false
set_option maxRecDepth 100000
/-! Ev: more operations, proved: *, ==, in, built-in functions. -/
namespace Ev
open PySem PySem.Spec PyProof.Rows L2
section
variable {X : Cx} {pins : List (Addr × Obj)} {σ : L2.St} {H : Hp} {s : Shared}
theorem repOk_ok {n : Nat} {k : Int} {u : Unit} (h : Rs.chk (repOk n k) = .ok u) : -(2 ^ 63) ≤ k ∧ k < 2 ^ 63 ∧ n * k.toNat ≤ sizeLine := by
  have h := Rs.chk_ok h
  unfold repOk at h
  rw [Bool.and_eq_true, Bool.and_eq_true] at h
  refine ⟨of_decide_eq_true h.1, of_decide_eq_true h.2.1, ?_⟩
  have := of_decide_eq_true h.2.2
  rw [sizeLine_eq]; exact this
theorem FzAll.rep {K : PySem.W.Frag} {ds : List PyData} {xs : List V} (h : FzAll K H ds xs) : ∀ n : Nat, FzAll K H (List.replicate n ds).flatten (List.replicate n xs).flatten
  | 0 => by simp; exact FzAll.nil_iff.mpr rfl
  | n + 1 => by
    rw [List.replicate_succ, List.replicate_succ, List.flatten_cons, List.flatten_cons]
    exact h.append (FzAll.rep h n)
theorem opd_mul : OpD X (binaryOp .Mult) oMul := opd_of (OpR.or op_mulW (OpR.or op_repS op_repD)) fun x y H Q o1 o2 G o h1 h2 hf k => by
  unfold oMul at hf
  split at hf
  · rename_i a b he
    obtain ⟨_, hc, hf⟩ := Rs.bind_ok hf
    cases he; cases hf
    have hc : a.natAbs.log2 + b.natAbs.log2 < 1000000 := of_decide_eq_true (Rs.chk_ok hc)
    exact .inl ⟨a, b, rep_int h1, rep_int h2, hc, k _ _ _ rep_vI (.refl H)⟩
  · rename_i a b he
    obtain ⟨_, hc, hf⟩ := Rs.bind_ok hf
    cases he; cases hf
    obtain ⟨c1, c2, c3⟩ := repOk_ok hc
    exact .inr (.inl ⟨a, b, rep_str h1, rep_int h2, c1, c2, c3, k _ _ _ rep_vS (.refl H)⟩)
  · rename_i p n _ _ he
    cases he
    obtain ⟨a, e1, hf⟩ := Rs.bind_ok hf
    have e1 := Rs.of_ok e1
    obtain ⟨_, hc, hf⟩ := Rs.bind_ok hf
    cases hf
    obtain ⟨c1, c2, c3⟩ := repOk_ok hc
    obtain ⟨l, xs, rfl, f1, g1⟩ := listOf_at h1 e1
    exact .inr (.inr ⟨l, n, xs, rfl, rep_int h2, f1, c1, c2, by rw [← FzAll.length g1]; exact c3, fun r nr => k _ _ _ (rep_newL nr (g1.rep _)) (fresh_upd nr)⟩)
  · cases hf
/-! ### data, read -/
theorem RdD.get {a : Addr} {es : List (V × V)} (I : Inv X pins σ H s) (h : RdD H a es) : ∃ (ks : List (Key × V)) (o : Obj) (des : Array DictEntry) (n : Nat) (vs : List (Key × Value)), es = ks.map (fun p => (kV p.1, p.2)) ∧ (a == sysModules) = false ∧ KV ks vs ∧ s.heap.get? a = some o ∧ o.ExactDict ∧ o.data = .dict des n ∧
    Pairs (mixKind X.prog X.w) des.toList vs := by
  obtain ⟨u, r, ks, rfl, rfl⟩ := h
  obtain ⟨_, ns, vs, kv, o, des, n, e, ex, ed, _, ps, _⟩ := r.ok I.hok
  exact ⟨ks, o, des, n, vs, rfl, ns, kv, e, ex, ed, ps⟩

theorem keyIs_reads {k : Key} {u : Value} {d : PyData} (h : keyIs k u = true) (f : Fz X.K H d (kV k)) : Reads s.heap u d [] := by
  rcases keyIs_shape h with ⟨i, t, rfl, rfl⟩ | ⟨x, t, rfl, rfl⟩
  · rcases fz_kV f with ⟨n, rfl, e⟩ | ⟨n, rfl, e⟩ <;> cases e
    exact Reads.int _ _
  · rcases fz_kV f with ⟨n, rfl, e⟩ | ⟨n, rfl, e⟩ <;> cases e
    exact Reads.str _ _
mutual
theorem Vw.reads (I : Inv X pins σ H s) (sy : ∀ o, s.heap.get? sysModules = some o → ∃ es ep, o.data = .dict es ep) : ∀ (d : PyData) (v : V) (u : Value), Vw X.K H d v → RelV v u → ∃ as, Reads s.heap u d as ∧ sysModules ∉ as
  | .none, _, _, h, r => by unfold Vw at h; subst h; cases r; exact ⟨_, Reads.none, by simp⟩
  | .bool b, _, _, h, r => by unfold Vw at h; subst h; cases r; exact ⟨_, Reads.bool b, by simp⟩
  | .int i, _, _, h, r => by unfold Vw at h; subst h; obtain ⟨t, rfl⟩ := r; exact ⟨_, Reads.int i t, by simp⟩
  | .str x, _, _, h, r => by unfold Vw at h; subst h; obtain ⟨t, rfl⟩ := r; exact ⟨_, Reads.str x t, by simp⟩
  | .list ds, _, _, h, r => by
    unfold Vw at h
    obtain ⟨a, xs, rfl, hs, ha⟩ := h
    cases r
    obtain ⟨its, rv, ⟨o, n, ho, hc, _, hd⟩, _⟩ := I.list hs
    obtain ⟨as, hr, hn⟩ := VwAll.reads I sy ds xs its ha rv
    refine ⟨_, Reads.list ho hc hd hr, fun z => ?_⟩
    rcases List.mem_cons.mp z with z | z
    · subst z
      obtain ⟨es, ep, q⟩ := sy o ho
      rw [hd] at q
      cases q
    · exact hn z
  | .tuple ds, _, _, h, r => by
    unfold Vw at h
    obtain ⟨a, xs, rfl, hs, ha⟩ := h
    cases r
    obtain ⟨its, rv, ⟨o, ho, hc, n, hd⟩, _⟩ := I.tuple hs.sq
    obtain ⟨as, hr, hn⟩ := VwAll.reads I sy ds xs its ha rv
    exact ⟨_, Reads.tuple ho hc hd hr, hn⟩
  | .dict kvs, _, _, h, r => by
    unfold Vw at h
    obtain ⟨a, es, rfl, hs, ha⟩ := h
    cases r
    obtain ⟨ks, o, des, n, vs, rfl, ns, kv, ho, ex, ed, ps⟩ := hs.get I
    obtain ⟨as, bs, h1, h2, h3⟩ := VwKvs.reads I sy kvs ks vs des.toList ha kv ps
    refine ⟨_, Reads.dict ho ex.1 ed h1 h2, fun z => ?_⟩
    rw [List.cons_append] at z
    rcases List.mem_cons.mp z with z | z
    · rw [z] at ns; simp at ns
    · exact h3 z
theorem VwAll.reads (I : Inv X pins σ H s) (sy : ∀ o, s.heap.get? sysModules = some o → ∃ es ep, o.data = .dict es ep) : ∀ (ds : List PyData) (vs : List V) (us : List Value), VwAll X.K H ds vs → Vals vs us → ∃ as, ReadsAll s.heap us ds as ∧ sysModules ∉ as
  | [], _, _, h, r => by unfold VwAll at h; subst h; cases r; exact ⟨_, ReadsAll.nil, by simp⟩
  | d :: ds, _, _, h, r => by
    unfold VwAll at h
    obtain ⟨x, q, rfl, h1, h2⟩ := h
    cases r with
    | cons r1 r2 =>
      obtain ⟨as, q1, n1⟩ := Vw.reads I sy d _ _ h1 r1
      obtain ⟨bs, q2, n2⟩ := VwAll.reads I sy ds _ _ h2 r2
      exact ⟨_, ReadsAll.cons q1 q2, fun z => (List.mem_append.mp z).elim n1 n2⟩
theorem VwKvs.reads (I : Inv X pins σ H s) (sy : ∀ o, s.heap.get? sysModules = some o → ∃ es ep, o.data = .dict es ep) : ∀ (kvs : List (PyData × PyData)) (ks : List (Key × V)) (vs : List (Key × Value)) (des : List DictEntry), VwKvs X.K H kvs (ks.map fun p => (kV p.1, p.2)) → KV ks vs → Pairs (mixKind X.prog X.w) des vs →
    ∃ as bs, ReadsAll s.heap (des.map (·.key)) (kvs.map (·.1)) as ∧ ReadsAll s.heap (des.map (·.val)) (kvs.map (·.2)) bs ∧ sysModules ∉ as ++ bs
  | [], ks, vs, des, h, kv, ps => by
    unfold VwKvs at h
    cases ks with
    | cons _ _ => cases h
    | nil =>
      cases kv
      cases ps
      exact ⟨[], [], ReadsAll.nil, ReadsAll.nil, by simp⟩
  | (k, d) :: kvs, ks, vs, des, h, kv, ps => by
    unfold VwKvs at h
    obtain ⟨y, x, r, e, h0, h1, h2⟩ := h
    cases ks with
    | nil => cases e
    | cons p ks =>
      rw [List.map_cons] at e
      injection e with e e2
      injection e with e3 e4
      subst e3 e4 e2
      cases kv with
      | cons kv1 kv2 =>
        cases ps with
        | cons pk pv pr =>
          obtain ⟨kv1a, kv1b⟩ := kv1
          obtain ⟨as, bs, q1, q2, q3⟩ := VwKvs.reads I sy kvs ks _ _ h2 kv2 pr
          rw [← kv1a] at pk
          rw [← pv] at kv1b
          obtain ⟨cs, c1, c2⟩ := Vw.reads I sy d _ _ h1 kv1b
          refine ⟨_, _, ReadsAll.cons (keyIs_reads pk h0) q1, ReadsAll.cons c1 q2, fun z => ?_⟩
          rcases List.mem_append.mp z with z | z
          · exact q3 (List.mem_append_left _ (by simpa using z))
          · rcases List.mem_append.mp z with z | z
            · exact c2 z
            · exact q3 (List.mem_append_right _ z)
end

/-! ### == and != -/
theorem eqOk_ok {d c : PyData} {u : Unit} (h : Rs.chk (eqOk d c) = .ok u) : d.plain = true ∧ c.plain = true ∧ min d.depth c.depth ≤ 64 := by
  have h := Rs.chk_ok h
  unfold eqOk at h
  rw [Bool.and_eq_true, Bool.and_eq_true] at h
  exact ⟨h.1, h.2.1, of_decide_eq_true h.2.2⟩
end
/-- what the context is to have, so that data may be read, compared, shown -/
structure Sys (X : Cx) : Prop where
  dict : ∃ mm, X.base.Ns sysModules mm
  room : X.A.units + 200 < cLine
  guards : X.A.guards = some []
section
variable {X : Cx} {pins : List (Addr × Obj)} {σ : L2.St} {H : Hp} {s : Shared}
theorem Sys.sy (S : Sys X) (I : Inv X pins σ H s) : ∀ o, s.heap.get? sysModules = some o → ∃ es ep, o.data = .dict es ep := fun o e => by
  obtain ⟨mm, o', es, ep, h1, h2, _⟩ := S.dict
  have := I.bk _ _ h1
  rw [e] at this
  cases this
  exact ⟨es, ep, h2⟩
theorem Sys.reads (S : Sys X) (I : Inv X pins σ H s) {o : O} {v : V} {u : Value} {d : PyData} {G : Rg} (h : Rep X.K H o v G) (e : o.froz = some d) (r : RelV v u) : ∃ as, Reads s.heap u d as ∧ sysModules ∉ as :=
  Vw.reads I (S.sy I) d v u (Rep.vw o v G d e h) r
theorem opd_eq (S : Sys X) : OpD X (compareOp .Eq) oEq := fun pins s σ H x y v u Q I rx ry q => by
  obtain ⟨o1, o2, G, o, h1, h2, hf, k⟩ := wish2 q
  unfold oEq at hf
  obtain ⟨d, e1, hf⟩ := Rs.bind_ok hf
  obtain ⟨c, e2, hf⟩ := Rs.bind_ok hf
  obtain ⟨_, hc, hf⟩ := Rs.bind_ok hf
  cases hf
  obtain ⟨c1, c2, c3⟩ := eqOk_ok hc
  obtain ⟨as, r1, _⟩ := S.reads I h1 (Rs.of_ok e1) rx
  obtain ⟨bs, r2, _⟩ := S.reads I h2 (Rs.of_ok e2) ry
  have := S.room
  exact SeqAt.eq_plain r1 r2 c1 c2 (by omega) ⟨.bl _, H, I, rfl, k _ _ _ rep_vB (.refl H)⟩
theorem opd_ne (S : Sys X) : OpD X (compareOp .NotEq) oNe := fun pins s σ H x y v u Q I rx ry q => by
  obtain ⟨o1, o2, G, o, h1, h2, hf, k⟩ := wish2 q
  unfold oNe at hf
  obtain ⟨d, e1, hf⟩ := Rs.bind_ok hf
  obtain ⟨c, e2, hf⟩ := Rs.bind_ok hf
  obtain ⟨_, hc, hf⟩ := Rs.bind_ok hf
  cases hf
  obtain ⟨c1, c2, c3⟩ := eqOk_ok hc
  obtain ⟨as, r1, _⟩ := S.reads I h1 (Rs.of_ok e1) rx
  obtain ⟨bs, r2, _⟩ := S.reads I h2 (Rs.of_ok e2) ry
  have := S.room
  exact SeqAt.ne_plain r1 r2 c1 c2 (by omega) ⟨.bl _, H, I, rfl, k _ _ _ rep_vB (.refl H)⟩
/-! ### is None -/
theorem froz_non {K : PySem.W.Frag} {o : O} {v : V} {d : PyData} {G : Rg} (h : Rep K H o v G) (e : o.froz = some d) : (decide (v = V.non)) = isN d := by
  have hv := Rep.vw o v G d e h
  cases d with
  | none => unfold Vw at hv; rw [hv]; rfl
  | bool b => unfold Vw at hv; rw [hv]; rfl
  | int b => unfold Vw at hv; rw [hv]; rfl
  | str b => unfold Vw at hv; rw [hv]; rfl
  | list b => unfold Vw at hv; obtain ⟨a, xs, rfl, _⟩ := hv; rfl
  | tuple b => unfold Vw at hv; obtain ⟨a, xs, rfl, _⟩ := hv; rfl
  | dict b => unfold Vw at hv; obtain ⟨a, xs, rfl, _⟩ := hv; rfl
theorem rep_none {K : PySem.W.Frag} {v : V} {F : Rg} (h : Rep K H (.val .none) v F) : v = .non := by unfold Rep Fz at h; exact h
theorem opd_is : OpD X (compareOp .Is) oIs := opd_of op_isN fun x y H Q o1 o2 G o h1 h2 hf k => by
  unfold oIs at hf
  split at hf
  · rename_i p he
    cases he
    obtain ⟨d, e1, hf⟩ := Rs.bind_ok hf
    cases hf
    refine ⟨rep_none h2, ?_⟩
    rw [froz_non h1 (Rs.of_ok e1)]
    exact k _ _ _ rep_vB (.refl H)
  · cases hf
theorem opd_isNot : OpD X (compareOp .IsNot) oIsNot := opd_of op_notN fun x y H Q o1 o2 G o h1 h2 hf k => by
  unfold oIsNot at hf
  split at hf
  · rename_i p he
    cases he
    obtain ⟨d, e1, hf⟩ := Rs.bind_ok hf
    cases hf
    refine ⟨rep_none h2, ?_⟩
    rw [froz_non h1 (Rs.of_ok e1)]
    exact k _ _ _ rep_vB (.refl H)
  · cases hf
/-! ### in -/
theorem seq_read (S : Sys X) (I : Inv X pins σ H s) {o : O} {v : V} {u : Value} {l : List PyData} {G : Rg} (h : Rep X.K H o v G) (e : seqOf? o = some l) (r : RelV v u) : ∃ as, Reads s.heap u (.list l) as ∨ Reads s.heap u (.tuple l) as := by
  cases o with
  | hole => cases e
  | val d =>
    cases d with
    | list m =>
      cases e
      obtain ⟨as, q, _⟩ := S.reads I h rfl r
      exact ⟨as, .inl q⟩
    | tuple m =>
      cases e
      obtain ⟨as, q, _⟩ := S.reads I h rfl r
      exact ⟨as, .inr q⟩
    | _ => cases e
  | lst os =>
    have e : O.vals os = some l := e
    have := O.vals_eq e
    subst this
    obtain ⟨as, q, _⟩ := S.reads I h (O.froz_lst_val l) r
    exact ⟨as, .inl q⟩
  | dct l => cases e
theorem opd_in (S : Sys X) : OpD X (compareOp .In) oIn := fun pins s σ H x y v u Q I rx ry q => by
  obtain ⟨o1, o2, G, o, h1, h2, hf, k⟩ := wish2 q
  unfold oIn at hf
  split at hf
  · rename_i a b he
    cases he; cases hf
    exact op_in_str pins s σ H x y v u Q I rx ry ⟨a, b, rep_str h1, rep_str h2, k _ _ _ rep_vB (.refl H)⟩
  · rename_i p c _ he
    cases he
    obtain ⟨d, e1, hf⟩ := Rs.bind_ok hf
    obtain ⟨l, e2, hf⟩ := Rs.bind_ok hf
    obtain ⟨_, hc, hf⟩ := Rs.bind_ok hf
    cases hf
    have hc := Rs.chk_ok hc
    rw [Bool.and_eq_true, Bool.and_eq_true] at hc
    obtain ⟨c1, c2, c3⟩ := hc
    have c3 := of_decide_eq_true c3
    obtain ⟨as, r1, _⟩ := S.reads I h1 (Rs.of_ok e1) rx
    obtain ⟨bs, r2⟩ := seq_read S I h2 (Rs.of_ok e2) ry
    have := S.room
    have fin : EP X pins σ Q (.bool (l.any fun z => PyData.eqv z d)) s := ⟨.bl _, H, I, rfl, k _ _ _ rep_vB (.refl H)⟩
    rcases r2 with r2 | r2
    · exact SeqAt.in_list_data r2 r1 c2 c1 (by omega) fin
    · exact SeqAt.in_tuple_data r2 r1 c2 c1 (by omega) fin
  · cases hf
theorem opd_notIn (S : Sys X) : OpD X (compareOp .NotIn) oNotIn := fun pins s σ H x y v u Q I rx ry q => by
  obtain ⟨o1, o2, G, o, h1, h2, hf, k⟩ := wish2 q
  unfold oNotIn at hf
  split at hf
  · rename_i a b he
    cases he; cases hf
    refine op_notin_str pins s σ H x y v u Q I rx ry ⟨a, b, rep_str h1, rep_str h2, ?_⟩
    exact k _ _ _ rep_vB (.refl H)
  · rename_i p c _ he
    cases he
    obtain ⟨d, e1, hf⟩ := Rs.bind_ok hf
    obtain ⟨l, e2, hf⟩ := Rs.bind_ok hf
    obtain ⟨_, hc, hf⟩ := Rs.bind_ok hf
    cases hf
    have hc := Rs.chk_ok hc
    rw [Bool.and_eq_true, Bool.and_eq_true] at hc
    obtain ⟨c1, c2, c3⟩ := hc
    have c3 := of_decide_eq_true c3
    obtain ⟨as, r1, _⟩ := S.reads I h1 (Rs.of_ok e1) rx
    obtain ⟨bs, r2⟩ := seq_read S I h2 (Rs.of_ok e2) ry
    have := S.room
    have fin : EP X pins σ Q (.bool (!l.any fun z => PyData.eqv z d)) s := ⟨.bl _, H, I, rfl, k _ _ _ rep_vB (.refl H)⟩
    rcases r2 with r2 | r2
    · exact SeqAt.notIn_list_data r2 r1 c2 c1 (by omega) fin
    · exact SeqAt.notIn_tuple_data r2 r1 c2 c1 (by omega) fin
  · cases hf
end
end Ev

set_option Elab.async false
set_option linter.all false
set_option maxRecDepth 100000
/-! Ev: built-in functions, slices. -/
namespace Ev
open PySem PySem.Spec PyProof.Rows L2
section
variable {X : Cx} {pins : List (Addr × Obj)} {σ : L2.St} {H : Hp} {s : Shared}
theorem reps1 {K : PySem.W.Frag} {G : Rg} {o : O} {xs : List V} (h : Reps K H G [o] xs) : ∃ v, xs = [v] ∧ Rep K H o v G := by
  obtain ⟨v, r, e, h1, h2⟩ := h
  have h2 : r = [] := h2
  subst h2
  exact ⟨v, e, h1⟩
theorem reps2 {K : PySem.W.Frag} {G : Rg} {o p : O} {xs : List V} (h : Reps K H G [o, p] xs) : ∃ v w, xs = [v, w] ∧ Rep K H o v G ∧ Rep K H p w G := by
  obtain ⟨v, r, e, h1, h2⟩ := h
  obtain ⟨w, rfl, h3⟩ := reps1 h2
  exact ⟨v, w, e, h1, h3⟩
theorem calld_of {f : Value} {r : List V → Hp → VK → Prop} {F : List O → Rs O} (h : CallR X f r)
    (i : ∀ xs H Q os (G : Rg) o, Reps X.K H G os xs → F os = .ok o → (∀ v H' (R : Rg), Rep X.K H' o v R → Fresh H H' R → Q v H') → r xs H Q) : CallD X f F := fun pins s σ H xs us Q I rx q => by
  obtain ⟨os, G, o, h1, hf, k⟩ := q
  exact h pins s σ H xs us Q I rx (i xs H Q os G o h1 hf k)
theorem calld_len : CallD X (.builtin "len") oLen := calld_of (CallR.or call_len_str call_len_seq) fun xs H Q os G o hr hf k => by
  unfold oLen at hf
  split at hf
  · rename_i z
    obtain ⟨_, hc, hf⟩ := Rs.bind_ok hf
    cases hf
    obtain ⟨v, rfl, h1⟩ := reps1 hr
    exact .inl ⟨z, by rw [rep_str h1], fits_ok hc, k _ _ _ rep_vI (.refl H)⟩
  · rename_i l
    cases hf
    obtain ⟨v, rfl, h1⟩ := reps1 hr
    obtain ⟨a, ys, rfl, f, g⟩ := listOf_at h1 (show listOf? (.val (.list l)) = some l from rfl)
    refine .inr ⟨a, ys, rfl, .inl f.sq, ?_⟩
    rw [← FzAll.length g]
    exact k _ _ _ rep_vI (.refl H)
  · rename_i l
    cases hf
    obtain ⟨v, rfl, h1⟩ := reps1 hr
    obtain ⟨a, ys, rfl, f, g⟩ := rep_tup h1
    refine .inr ⟨a, ys, rfl, .inr f.sq, ?_⟩
    rw [← FzAll.length g]
    exact k _ _ _ rep_vI (.refl H)
  · rename_i l
    cases hf
    obtain ⟨v, rfl, h1⟩ := reps1 hr
    unfold Rep at h1
    obtain ⟨a, ys, rfl, fa, ha, g⟩ := h1
    refine .inr ⟨a, ys, rfl, .inl (SqL.of ha), ?_⟩
    rw [← RepL.length g]
    exact k _ _ _ rep_vI (.refl H)
  · cases hf
theorem fz_bools {K : PySem.W.Frag} : ∀ {ds : List PyData} {bs : List Bool} {xs : List V}, allBools ds = some bs → FzAll K H ds xs → xs = bs.map V.bl
  | [], bs, xs, e, h => by cases e; rw [FzAll.nil_iff.mp h]; rfl
  | .bool b :: ds, bs, xs, e, h => by
    rw [allBools] at e
    obtain ⟨cs, e1, rfl⟩ := Option.map_eq_some_iff.mp e
    obtain ⟨x, r, rfl, h1, h2⟩ := FzAll.cons_inv h
    unfold Fz at h1
    rw [h1, fz_bools e1 h2]
    rfl
  | .none :: _, _, _, e, _ => by cases e
  | .int _ :: _, _, _, e, _ => by cases e
  | .str _ :: _, _, _, e, _ => by cases e
  | .list _ :: _, _, _, e, _ => by cases e
  | .tuple _ :: _, _, _, e, _ => by cases e
  | .dict _ :: _, _, _, e, _ => by cases e
theorem calld_all (hc : X.calm = true) : CallD X (.builtin "all") oAll := calld_of (cr_all hc) fun xs H Q os G o hr hf k => by
  unfold oAll at hf
  split at hf
  · rename_i z
    obtain ⟨ds, e1, hf⟩ := Rs.bind_ok hf
    obtain ⟨bs, e2, hf⟩ := Rs.bind_ok hf
    cases hf
    obtain ⟨v, rfl, h1⟩ := reps1 hr
    obtain ⟨a, ys, rfl, f, g⟩ := listOf_at h1 (Rs.of_ok e1)
    have := fz_bools (Rs.of_ok e2) g
    subst this
    exact ⟨a, bs, rfl, f.sq, k _ _ _ rep_vB (.refl H)⟩
  · cases hf
theorem calld_any (hc : X.calm = true) : CallD X (.builtin "any") oAny := calld_of (cr_any hc) fun xs H Q os G o hr hf k => by
  unfold oAny at hf
  split at hf
  · rename_i z
    obtain ⟨ds, e1, hf⟩ := Rs.bind_ok hf
    obtain ⟨bs, e2, hf⟩ := Rs.bind_ok hf
    cases hf
    obtain ⟨v, rfl, h1⟩ := reps1 hr
    obtain ⟨a, ys, rfl, f, g⟩ := listOf_at h1 (Rs.of_ok e1)
    have := fz_bools (Rs.of_ok e2) g
    subst this
    exact ⟨a, bs, rfl, f.sq, k _ _ _ rep_vB (.refl H)⟩
  · cases hf
theorem calld_abs : CallD X (.builtin "abs") oAbs := calld_of call_abs fun xs H Q os G o hr hf k => by
  unfold oAbs at hf
  split at hf
  · rename_i z
    cases hf
    obtain ⟨v, rfl, h1⟩ := reps1 hr
    exact ⟨z, by rw [rep_int h1], k _ _ _ rep_vI (.refl H)⟩
  · cases hf
theorem calld_list : CallD X (.type "list") oList := calld_of call_list_of fun xs H Q os G o hr hf k => by
  unfold oList at hf
  split at hf
  · rename_i z
    obtain ⟨ds, e1, hf⟩ := Rs.bind_ok hf
    cases hf
    obtain ⟨v, rfl, h1⟩ := reps1 hr
    obtain ⟨a, ys, rfl, f, g⟩ := seqOf_at h1 (Rs.of_ok e1)
    exact ⟨a, ys, rfl, f.elim .inl fun z => .inr z.sq, fun p np => k _ _ _ (rep_newL np g) (fresh_upd np)⟩
  · cases hf
theorem call_tupF : CallR X (.type "tuple") (fun xs H Q => ∃ p ys, xs = [.ref p] ∧ ((SqL X.K H p ys ∧ ∀ l o, H l = none → o.dict = none → Q (.ref l) (upd H l (.frz o (.tup ys)))) ∨ (SqT X.K H p ys ∧ Q (.ref p) H))) := by
  intro pins s σ H xs us Q I r h
  obtain ⟨p, ys, rfl, h⟩ := h
  obtain ⟨u, rfl, rx⟩ := vals1 r
  cases rx
  rcases h with ⟨hq, q⟩ | ⟨hq, q⟩
  · obtain ⟨its, r', pl, hz⟩ := I.list hq
    refine call_tuple_list pl.isList (fun h' kp => ?_) (by rw [List.size_toArray, ← r'.length]; exact hz)
    have I1 : Inv X pins σ H { s with heap := h' } := I.kept (t' := s.toks) kp
    exact ⟨.ref h'.objs.size, _, tup_laid I1 r' hz s.toks, rfl, q _ _ I1.fresh rfl⟩
  · obtain ⟨its, r', pl, hz⟩ := I.tuple hq
    exact call_tuple_same pl ⟨.ref p, H, I, rfl, q⟩
theorem calld_tuple : CallD X (.type "tuple") oTuple := calld_of call_tupF fun xs H Q os G o hr hf k => by
  unfold oTuple at hf
  split at hf
  · rename_i z
    obtain ⟨ds, e1, hf⟩ := Rs.bind_ok hf
    cases hf
    obtain ⟨v, rfl, h1⟩ := reps1 hr
    obtain ⟨a, ys, rfl, f, g⟩ := seqOf_at h1 (Rs.of_ok e1)
    rcases f with f | f
    · exact ⟨a, ys, rfl, .inl ⟨f, fun p ob np nd => k _ _ _ (rep_newT np nd g _) (fresh_upd np)⟩⟩
    · refine ⟨a, ys, rfl, .inr ⟨f.sq, k _ _ (fun _ => False) ?_ (.refl H)⟩⟩
      unfold Rep Fz
      exact ⟨a, ys, rfl, f, g⟩
  · cases hf
/-! ### isinstance -/
theorem tyX_of {K : PySem.W.Frag} {o : O} {v : V} {d : PyData} {G : Rg} (h : Rep K H o v G) (e : tyO o = some d) : TyX K H v (.type (tyName d)) := by
  cases o with
  | hole => cases e
  | val c =>
    cases e
    unfold Rep at h
    cases d with
    | none => unfold Fz at h; subst h; exact .base .non
    | bool b => unfold Fz at h; subst h; exact .base (.bl b)
    | int b => unfold Fz at h; subst h; exact .base (.int b)
    | str b => unfold Fz at h; subst h; exact .base (.str b)
    | list b =>
      unfold Fz at h
      obtain ⟨a, xs, rfl, ⟨o, e⟩ | ⟨its, n, e, _⟩, _⟩ := h
      · exact .base (.frz e)
      · exact .kList e rfl
    | tuple b =>
      unfold Fz at h
      obtain ⟨a, xs, rfl, ⟨o, e, _⟩ | ⟨o, its, n, e, c, _⟩, _⟩ := h
      · exact .fTuple e
      · exact .kTuple e c
    | dict b =>
      unfold Fz at h
      obtain ⟨a, es, rfl, ⟨o, u, e, ks, rfl, _⟩, _⟩ := h
      exact .fDict e
  | lst l =>
    cases e
    unfold Rep at h
    obtain ⟨a, xs, rfl, _, e, _⟩ := h
    exact .base (.lst e)
  | dct l =>
    cases e
    unfold Rep at h
    obtain ⟨a, u, es, rfl, _, e, ⟨ks, rfl, _⟩, _⟩ := h
    exact .base (.dK e)
theorem kitB_ok {T : String} (h : tyOk T = true) (d : PyData) : kitB (tyName d) T = some (isTy T d) := by
  unfold tyOk at h
  simp only [Bool.or_eq_true, beq_iff_eq] at h
  have hn : tyName d = "NoneType" ∨ tyName d = "bool" ∨ tyName d = "int" ∨ tyName d = "str" ∨ tyName d = "list" ∨ tyName d = "tuple" ∨ tyName d = "dict" := by cases d <;> simp [tyName]
  unfold isTy
  generalize tyName d = n at hn ⊢
  rcases h with rfl | rfl | rfl | rfl | rfl | rfl <;> rcases hn with rfl | rfl | rfl | rfl | rfl | rfl | rfl <;> decide +kernel
theorem eve_isi {x T : Str} {Ts : String} {e : Expr} {f : EF} {p : Bool} {np tp pos : Pos} (hT : tyOk Ts = true) (hg : Gl X "isinstance") (hm : X.mg "isinstance" = none) (ha : EvE X e f p) (gT : Gl X T) (mT : X.mg T = none) (bT : bootBuiltins T = some (.type Ts))
    (nT : T ≠ "__name__") (dT : (T == ("__debug__" : Str)) = false)
    (he : starEach [e, .Name T tp] X.env = (false, eval e X.env) :: starEach [.Name T tp] X.env) (hpl : (backTo pos (starEach [.Name T tp] X.env)).any (·.1) = false) : EvE X (.Call (.Name "isinstance" np) [e, .Name T tp] [] pos) (eOp (oIsi Ts) (lOne f)) p := by
  have bI : bootBuiltins "isinstance" = some (.builtin "isinstance") := by decide +kernel
  refine ⟨pe_imp (pe_callB call_isi hg hm bI (pa_cons ha.run (pa_cons (pe_bltn (v := .ty Ts) gT mT bT rfl nT dT) pa_nil (by rfl)) he) (by decide) (by decide) he hpl) fun σ H Q z => ?_⟩
  refine tE_mono (tL_one (tE_op z)) fun v H1 q => ?_
  obtain ⟨o1, G, o, h1, hf, k⟩ := wish1 q
  have hf : (Rs.of (tyO o1)).bind (fun d => Rs.ok (vB (isTy Ts d))) = .ok o := hf
  obtain ⟨d, e1, hf⟩ := Rs.bind_ok hf
  injection hf with hf
  subst hf
  exact ⟨v, .ty Ts, _, _, isTy Ts d, rfl, .ty Ts, tyX_of h1 (Rs.of_ok e1), kit_ty (kitB_ok hT d), k _ _ _ rep_vB (.refl H1)⟩
/-! ### repr -/
theorem call_repr_scal {d : PyData} {u : Value} {as : List Addr} {Q : Value → Shared → Prop} (hs : isSc d = true) (hw : d.showable = true) (hz : d.shown.length ≤ sizeLine) (r : Reads s.heap u d as) (hQ : ∀ t tk, Q (.str d.shown t) { s with toks := tk }) :
    wpAny (model X.prog X.w) X.A (call (.builtin "repr") [u]) Q X.xe s := by
  cases r with
  | none => exact PySem.P.repr_of_none (by have := hQ s.toks (s.toks + 1); simpa only [PyData.shown] using this)
  | bool b => exact PySem.P.repr_of_bool (by have := hQ s.toks (s.toks + 1); simpa only [PyData.shown] using this)
  | int i t => exact PySem.P.repr_of_int (by simpa only [PyData.showable, decide_eq_true_eq] using hw) (by have := hQ s.toks (s.toks + 1); simpa only [PyData.shown] using this)
  | str x t => exact PySem.P.repr_of_str (by have := hQ s.toks (s.toks + 1); simpa only [PyData.shown] using this) (by simpa only [PyData.shown] using hz)
  | list => cases hs
  | tuple => cases hs
  | dict => cases hs
theorem calld_repr (S : Sys X) : CallD X (.builtin "repr") oRepr := fun pins s σ H xs us Q I rx q => by
  obtain ⟨os, G, o, hr, hf, k⟩ := q
  unfold oRepr at hf
  split at hf
  · rename_i z
    obtain ⟨d, e1, hf⟩ := Rs.bind_ok hf
    obtain ⟨_, hc, hf⟩ := Rs.bind_ok hf
    cases hf
    have hc := Rs.chk_ok hc
    rw [Bool.and_eq_true, Bool.and_eq_true] at hc
    obtain ⟨c1, c2, c3⟩ := hc
    have c2 := of_decide_eq_true c2
    have c3 : d.shown.length ≤ sizeLine := by rw [sizeLine_eq]; exact of_decide_eq_true c3
    obtain ⟨v, rfl, h1⟩ := reps1 hr
    obtain ⟨u, rfl, ru⟩ := vals1 rx
    obtain ⟨as, r1, n1⟩ := S.reads I h1 (Rs.of_ok e1) ru
    have room := S.room
    have fin : ∀ h' t tk, (∀ b o, s.heap.get? b = some o → h'.get? b = some o) → EP X pins σ Q (.str d.shown t) { s with heap := h', toks := tk } := fun h' t tk kp => ⟨.str _, H, I.kept kp, ⟨_, rfl⟩, k _ _ _ rep_vS (.refl H)⟩
    by_cases hsc : isSc d = true
    · exact call_repr_scal hsc c1 c3 r1 fun t tk => fin s.heap t tk fun _ _ e => e
    · have : ∃ a, u = .ref a := by
        cases r1 with
        | none => exact absurd rfl hsc
        | bool => exact absurd rfl hsc
        | int => exact absurd rfl hsc
        | str => exact absurd rfl hsc
        | list => exact ⟨_, rfl⟩
        | tuple => exact ⟨_, rfl⟩
        | dict => exact ⟨_, rfl⟩
      obtain ⟨a, rfl⟩ := this
      exact repr_of_reads' r1 c1 (fun _ => n1) S.guards (by omega) (fun _ _ e => e) (fun h' t tk kp => fin h' t tk kp) c3
  · cases hf
end
end Ev

set_option Elab.async false
set_option linter.all false
set_option maxRecDepth 100000
/-! Ev: slices, methods of built-in types. -/
namespace Ev
open PySem PySem.Spec PyProof.Rows L2
section
variable {X : Cx} {pins : List (Addr × Obj)} {σ : L2.St} {H : Hp} {s : Shared}
/-! ### slices -/
theorem sl_tupF : SlR X (fun x lo hi H Q => ∃ a xs, x = .ref a ∧ SqT X.K H a xs ∧ (HT.sIx xs.length 0 lo = 0 ∧ HT.sIx xs.length xs.length hi = xs.length → Q (.ref a) H) ∧
    (¬ (HT.sIx xs.length 0 lo = 0 ∧ HT.sIx xs.length xs.length hi = xs.length) → ∀ p o, H p = none → o.dict = none → Q (.ref p) (upd H p (.frz o (.tup (cutV xs lo hi)))))) := by
  intro pins s σ H x v vl vu lo hi sl Q I rx hs pl pu h
  obtain ⟨a, xs, rfl, hx, q1, q2⟩ := h
  cases rx
  obtain ⟨its, r, ht, hz⟩ := I.tuple hx
  have hlen : its.toArray.size = xs.length := by rw [List.size_toArray]; exact r.length.symm
  refine ⟨"tuple", _, PyProof.Rows.slot_tuple_getitem.lookup, ht.typeIs, ?_⟩
  by_cases hw : HT.sIx xs.length 0 lo = 0 ∧ HT.sIx xs.length xs.length hi = xs.length
  · exact getItem_tuple_whole ht hs pl pu (by rw [hlen]; exact hw) ⟨.ref a, H, I, rfl, q1 hw⟩
  · refine HT.getItem_tuple_cut ht hs pl pu (by rw [hlen]; exact hw) ?_ (by rw [hlen]; exact hz)
    rw [hlen]
    exact ⟨.ref s.heap.objs.size, _, tup_laid I ((r.drop (HT.sIx xs.length 0 lo)).take (HT.sIx xs.length xs.length hi - HT.sIx xs.length 0 lo)) (Nat.le_trans (cutV_length xs lo hi) hz) s.toks, rfl, q2 hw _ _ I.fresh rfl⟩
theorem FzAll.cut {K : PySem.W.Frag} {ds : List PyData} {xs : List V} (h : FzAll K H ds xs) (lo hi : Option Int) : FzAll K H (cutL ds lo hi) (cutV xs lo hi) := by
  unfold cutL cutV
  rw [FzAll.length h]
  exact (h.drop _).take _
theorem cut_whole {ds : List PyData} {lo hi : Option Int} (h : HT.sIx ds.length 0 lo = 0 ∧ HT.sIx ds.length ds.length hi = ds.length) : cutL ds lo hi = ds := by
  unfold cutL
  rw [h.1, h.2]
  simp
/-- what a slice asks of its values -/
theorem slice_wish {K : PySem.W.Frag} {x : V} {o1 o : O} {G : Rg} {lo hi : Option Int} {Q : VK} (h1 : Rep K H o1 x G) (hf : sliceO o1 lo hi = .ok o) (k : ∀ v H' (R : Rg), Rep K H' o v R → Fresh H H' R → Q v H') :
    rSlL K x lo hi H Q ∨ ((∃ a xs, x = .ref a ∧ SqT K H a xs ∧ (HT.sIx xs.length 0 lo = 0 ∧ HT.sIx xs.length xs.length hi = xs.length → Q (.ref a) H) ∧
    (¬ (HT.sIx xs.length 0 lo = 0 ∧ HT.sIx xs.length xs.length hi = xs.length) → ∀ p o, H p = none → o.dict = none → Q (.ref p) (upd H p (.frz o (.tup (cutV xs lo hi)))))) ∨ rSlS x lo hi H Q) := by
  unfold sliceO at hf
  split at hf
  · rename_i z
    obtain ⟨_, hc, hf⟩ := Rs.bind_ok hf
    cases hf
    exact .inr (.inr ⟨z, rep_str h1, fits_ok hc, k _ _ _ rep_vS (.refl H)⟩)
  · rename_i l
    cases hf
    obtain ⟨a, xs, rfl, f, g⟩ := rep_tup h1
    refine .inr (.inl ⟨a, xs, rfl, f.sq, fun hw => ?_, fun _ p ob np nd => ?_⟩)
    · rw [← FzAll.length g] at hw
      refine k _ _ (fun _ => False) ?_ (.refl H)
      rw [cut_whole hw]
      unfold Rep Fz
      exact ⟨a, xs, rfl, f, g⟩
    · exact k _ _ _ (rep_newT np nd (g.cut lo hi) _) (fresh_upd np)
  · rename_i y _ _
    obtain ⟨l, e1, hf⟩ := Rs.bind_ok hf
    cases hf
    obtain ⟨a, xs, rfl, f, g⟩ := listOf_at h1 (Rs.of_ok e1)
    exact .inl ⟨a, xs, rfl, f.sq, fun p np => k _ _ _ (rep_newL np (g.cut lo hi)) (fresh_upd np)⟩
theorem eve_slice00 {a : Expr} {f : EF} {p : Bool} {p2 pos : Pos} (ha : EvE X a f p) : EvE X (.Subscript a (.Slice none none none p2) pos) (eOp (oSlice false false) (lOne f)) p :=
  ⟨pe_imp (pe_slice (SlR.or sl_list (SlR.or sl_tupF sl_str)) ha.run po_none po_none) fun σ H Q z => tE_mono (tL_one (tE_op z)) fun v H1 q => by
    obtain ⟨o1, G, o, h1, hf, k⟩ := wish1 q
    exact slice_wish h1 hf k⟩
theorem eve_slice10 {a l : Expr} {f g : EF} {p q : Bool} {p2 pos : Pos} (ha : EvE X a f p) (hl : EvE X l g q) : EvE X (.Subscript a (.Slice (some l) none none p2) pos) (eOp (oSlice true false) (lTwo f q g)) (p && q) :=
  ⟨pe_imp (pe_slice (SlR.or sl_list (SlR.or sl_tupF sl_str)) ha.run (po_some hl.run) po_none) fun σ H Q z => tE_mono (tL_two (tE_op z)) fun v H1 h => tE_mono h fun w H2 q => by
    obtain ⟨o1, o2, G, o, h1, h2, hf, k⟩ := wish2 q
    unfold oSlice at hf
    split at hf
    · rename_i he; cases he
    · rename_i x i he
      cases he
      exact ⟨i, rep_int h2, slice_wish h1 hf k⟩
    · cases hf⟩
theorem eve_slice01 {a l : Expr} {f g : EF} {p q : Bool} {p2 pos : Pos} (ha : EvE X a f p) (hl : EvE X l g q) : EvE X (.Subscript a (.Slice none (some l) none p2) pos) (eOp (oSlice false true) (lTwo f q g)) (p && q) :=
  ⟨pe_imp (pe_slice (SlR.or sl_list (SlR.or sl_tupF sl_str)) ha.run po_none (po_some hl.run)) fun σ H Q z => tE_mono (tL_two (tE_op z)) fun v H1 h => tE_mono h fun w H2 q => by
    obtain ⟨o1, o2, G, o, h1, h2, hf, k⟩ := wish2 q
    unfold oSlice at hf
    split at hf
    · rename_i he; cases he
    · rename_i x i he
      cases he
      exact ⟨i, rep_int h2, slice_wish h1 hf k⟩
    · cases hf⟩
theorem intW_eq {w : W} {i : Int} (h : intW w = some i) : w = .val (.int i) := by
  unfold intW at h
  split at h
  · cases h; rfl
  · cases h
theorem nest_and {q r : Bool} {w : W} (h : ((q && r) || !w.nested) = true) : (q || !w.nested) = true ∧ (r || !w.nested) = true := by
  cases q <;> cases r <;> simp_all
theorem eve_slice11 {a l u : Expr} {f g h : EF} {p q r : Bool} {p2 pos : Pos} (ha : EvE X a f p) (hl : EvE X l g q) (hu : EvE X u h r) : EvE X (.Subscript a (.Slice (some l) (some u) none p2) pos) (eSlice2 f q g r h) (p && (q && r)) :=
  ⟨pe_imp (pe_slice (SlR.or sl_list (SlR.or sl_tupF sl_str)) ha.run (po_some hl.run) (po_some hu.run)) fun σ H Q z => by
    obtain ⟨e, F, w, e', t, hE, hf, k⟩ := z
    unfold eSlice2 at hf
    obtain ⟨⟨w1, e1⟩, h1, hf⟩ := Rs.bind_ok hf
    obtain ⟨_, hc, hf⟩ := Rs.bind_ok hf
    obtain ⟨⟨w2, e2⟩, h2, hf⟩ := Rs.bind_ok hf
    obtain ⟨i, h3, hf⟩ := Rs.bind_ok hf
    obtain ⟨⟨w3, e3⟩, h4, hf⟩ := Rs.bind_ok hf
    obtain ⟨j, h5, hf⟩ := Rs.bind_ok hf
    obtain ⟨o, h6, hf⟩ := Rs.bind_ok hf
    obtain ⟨o', h7, hf⟩ := Rs.bind_ok hf
    cases hf
    obtain ⟨n1, n2⟩ := nest_and (Rs.chk_ok hc)
    have i1 := intW_eq (Rs.of_ok h3)
    have i2 := intW_eq (Rs.of_ok h5)
    subst i1 i2
    refine ⟨e, F, w1, e1, t, hE, h1, fun x H1 F1 R1 hE1 hW1 P1 pu1 => ⟨e1, F1, _, e2, P1.trkF, hE1, h2, fun y H2 F2 R2 hE2 hW2 P2 pu2 => ⟨i, ?_, e2, F2, _, e', P2.trkF, hE2, h4, fun v H3 F3 R3 hE3 hW3 P3 pu3 => ⟨j, ?_, ?_⟩⟩⟩⟩
    · have : Fz X.K H2 (.int i) y := hW2
      unfold Fz at this; exact this
    · have : Fz X.K H3 (.int j) v := hW3
      unfold Fz at this; exact this
    · have P12 : Post H F H2 F2 R1 := (P1.trans P2).mono fun b q => .inl q
      have l1 := hW1.later P1 P2 pu2 n1
      have l2 := l1.later P12 P3 pu3 n2
      have hrep := l2.rep hE3 (Rs.of_ok h6)
      refine slice_wish hrep h7 fun v' H4 R4 hr fr => ?_
      have P := (P12.trans P3)
      have P5 := fr.post P.trkF
      refine k v' H4 F3 R4 (RepE.frame P5.keep (fun b u _ e => fr.same b u e) hE3) (.mk hr) ((P.trans P5).mono fun b q => .inr q) fun z => ?_
      rw [Bool.and_eq_true, Bool.and_eq_true] at z
      obtain ⟨z1, z2, z3⟩ := z
      obtain ⟨a1, b1⟩ := pu1 z1
      obtain ⟨a2, b2⟩ := pu2 z2
      obtain ⟨a3, b3⟩ := pu3 z3
      exact ⟨a3.trans (a2.trans a1), fun b u e => fr.same b u (b3 b u (b2 b u (b1 b u e)))⟩⟩
theorem eve_revL {a : Expr} {f : EF} {p : Bool} {j : Nat} {p1 p2 p3 pos : Pos} (ha : EvE X a f p) : EvE X (.Subscript a (.Slice none none (some (.UnaryOp .USub (.Constant (.int 1) j p1) p2)) p3) pos) (eOp oRevL (lOne f)) p :=
  ⟨pe_imp (pe_revL ha.run) fun σ H Q z => tE_mono (tL_one (tE_op z)) fun v H1 q => by
    obtain ⟨o1, G, o, h1, hf, k⟩ := wish1 q
    have hf : (Rs.of (listOf? o1)).bind (fun l => Rs.ok (mkL l.reverse)) = .ok o := hf
    obtain ⟨l, e1, hf⟩ := Rs.bind_ok hf
    injection hf with hf
    subst hf
    obtain ⟨a, xs, rfl, f, g⟩ := listOf_at h1 (Rs.of_ok e1)
    exact ⟨a, xs, rfl, f.sq, fun p np => k _ _ _ (rep_newL np g.reverse) (fresh_upd np)⟩⟩
end
end Ev

set_option Elab.async false
set_option linter.all false
set_option maxRecDepth 100000
/-! Ev: methods of built-in types. -/
namespace Ev
open PySem PySem.Spec PyProof.Rows L2
section
variable {X : Cx} {pins : List (Addr × Obj)} {σ : L2.St} {H : Hp} {s : Shared}
/-- the value's type, as a method's call asks it -/
def TyI (X : Cx) (T : String) (x : V) (H : Hp) : Prop := ∀ (pins : List (Addr × Obj)) (s : Shared) (σ : L2.St) (v : Value), Inv X pins σ H s → RelV x v → s.TypeIs v T ∧ ∀ a, v = .ref a → ∃ ob, s.heap.get? a = some ob ∧ ob.dict = none
def methT (T : String) : Bool := T == "str" || (T == "list" || (T == "tuple" || T == "dict"))
theorem tyI_of {o : O} {v : V} {d : PyData} {G : Rg} (h : Rep X.K H o v G) (e : tyO o = some d) (m : methT (tyName d) = true) : TyI X (tyName d) v H := by
  intro pins s σ u I r
  have lst : ∀ a xs, LstAt X.K H a xs → s.TypeIs (.ref a) "list" ∧ ∀ b, Value.ref a = .ref b → ∃ ob, s.heap.get? b = some ob ∧ ob.dict = none := fun a xs q => by
    obtain ⟨its, n, _, g, _⟩ := q.get I
    refine ⟨⟨_, g, rfl⟩, fun b e => ?_⟩
    cases e
    exact ⟨_, g, rfl⟩
  cases o with
  | hole => cases e
  | val c =>
    cases e
    unfold Rep at h
    cases d with
    | none => cases m
    | bool b => cases m
    | int b => cases m
    | str b =>
      unfold Fz at h
      subst h
      obtain ⟨t, rfl⟩ := r
      exact ⟨typeIs_str s b t, fun _ e => nomatch e⟩
    | list b =>
      unfold Fz at h
      obtain ⟨a, xs, rfl, f, _⟩ := h
      cases r
      exact lst a xs (.inr f)
    | tuple b =>
      unfold Fz at h
      obtain ⟨a, xs, rfl, f, _⟩ := h
      cases r
      rcases f with ⟨ob, f, nd⟩ | ⟨ob, its, n, f, c, nd, _⟩
      · obtain ⟨g, _, its, _, ob', g', c, _⟩ := I.hok a _ f
        rw [g] at g'; cases g'
        exact ⟨⟨_, g, c⟩, fun b e => by cases e; exact ⟨_, g, nd⟩⟩
      · have g := I.kIn a _ f
        exact ⟨⟨_, g, c⟩, fun b e => by cases e; exact ⟨_, g, nd⟩⟩
    | dict b =>
      unfold Fz at h
      obtain ⟨a, es, rfl, ⟨ob, u, f, ks, rfl, _⟩, _⟩ := h
      cases r
      obtain ⟨g, _, _, vs, _, ob', _, _, g', ex, _⟩ := I.hok a _ f
      rw [g] at g'; cases g'
      exact ⟨⟨_, g, ex.1⟩, fun b e => by cases e; exact ⟨_, g, ex.2.1⟩⟩
  | lst l =>
    cases e
    unfold Rep at h
    obtain ⟨a, xs, rfl, _, g, _⟩ := h
    cases r
    exact lst a xs (.inl g)
  | dct l =>
    cases e
    unfold Rep at h
    obtain ⟨a, u', es, rfl, _, g, ⟨ks, rfl, _⟩, _⟩ := h
    cases r
    obtain ⟨_, _, vs, _, ob', _, _, g', ex, _⟩ := I.hok a _ g
    exact ⟨⟨_, g', ex.1⟩, fun b e => by cases e; exact ⟨_, g', ex.2.1⟩⟩
variable {o e : Expr} {es : List Expr} {to : TE} {t : TA} {name : Str} {apos cpos : Pos} {T id : String} {r : V → List V → Hp → VK → Prop}
theorem pe_bmG0 (pa : PlainAttrs T) (slot : Slot T name id) (hty : typeOf (.builtin id) = pure (.type "method_descriptor")) (hm : MtR X id r) (ho : PE X o to)
    (hbase : attributeBase o name X.env (eval o X.env) = eval o X.env) (hline : (apos.endLine == cpos.line) = true) : PE X (.Call (.Attribute o name apos) [] [] cpos) (fun σ H Q => to σ H fun x H1 => TyI X T x H1 ∧ r x [] H1 Q) :=
  ⟨fun pins s σ H Q I h => wpAny_Call_method0_late hbase hline (thn (ho.run pins s σ H _ I h) fun v s1 ⟨x, H1, I1, r1, ty, q1⟩ => by
    obtain ⟨h1, h2⟩ := ty pins s1 σ v I1 r1
    exact ⟨T, id, pa, slot, hty, h1, h2, Calls.callWith_builtin rfl (PySem.evalArgs_none (hm pins s1 σ H1 x [] v [] Q I1 r1 .nil q1))⟩)⟩
theorem pe_bmG (pa : PlainAttrs T) (slot : Slot T name id) (hty : typeOf (.builtin id) = pure (.type "method_descriptor")) (hm : MtR X id r) (ho : PE X o to) (ha : PA X (e :: es) t)
    (hbase : attributeBase o name X.env (eval o X.env) = eval o X.env)
    (hfew : ((backTo cpos (starEach (e :: es) X.env)).all (fun x => !x.1) && (backToKw cpos (keywordEach [] X.env)).all (fun x => x.1.isSome)
      && decide ((e :: es).length + ([] : List Keyword).length + (if ([] : List Keyword).isEmpty then 0 else 1) < 30)) = true)
    (hline : (apos.endLine == cpos.line) = true) (hs : starEach (e :: es) X.env = (false, eval e X.env) :: starEach es X.env) (hplain : (backTo cpos (starEach es X.env)).any (·.1) = false) :
    PE X (.Call (.Attribute o name apos) (e :: es) [] cpos) (fun σ H Q => to σ H fun x H1 => TyI X T x H1 ∧ t σ H1 fun xs H2 => r x xs H2 Q) := by
  refine ⟨fun pins s σ H Q I h => wpAny_Call_method_late hbase hfew hline rfl (thn (ho.run pins s σ H _ I h) fun v s1 ⟨x, H1, I1, r1, ty, q1⟩ => ?_)⟩
  obtain ⟨h1, h2⟩ := ty pins s1 σ v I1 r1
  refine ⟨T, id, pa, slot, hty, h1, h2, ?_⟩
  have hA := ha.run cpos pins s1 σ H1 _ I1 q1
  rw [hs] at hA ⊢
  refine Calls.callWith_builtin ?_ (Calls.evalArgs_plain (thn hA fun us s2 ⟨vs, H2, I2, r2, q2⟩ => hm pins s2 σ H2 x vs v us Q I2 r1 r2 q2))
  show (false || (backTo cpos (starEach es X.env)).any (·.1)) = false
  rw [hplain]
  rfl
/-- a method that reads and makes something new, by values -/
def MtD (X : Cx) (id : String) (F : List O → Rs O) : Prop := MtR X id fun x xs H Q => opWish X.K F (x :: xs) H Q
theorem beq_str {a b : String} (h : (a == b) = true) : a = b := by simpa using h
theorem tE_meth {K : PySem.W.Frag} {F : List O → Rs O} {f : EF} {g : LF} {p q : Bool} {Q : VK} (m : methT T = true) (h : tE X.K (eMeth T F f q g) (p && q) σ H Q) :
    tE X.K f p σ H fun x H1 => TyI X T x H1 ∧ tL X.K g q σ H1 fun xs H2 => opWish X.K F (x :: xs) H2 Q := by
  obtain ⟨e, Fr, w, e', t, hE, hf, k⟩ := h
  unfold eMeth at hf
  obtain ⟨⟨w1, e1⟩, h1, hf⟩ := Rs.bind_ok hf
  obtain ⟨d, h2, hf⟩ := Rs.bind_ok hf
  obtain ⟨_, h3, hf⟩ := Rs.bind_ok hf
  obtain ⟨_, h4, hf⟩ := Rs.bind_ok hf
  obtain ⟨⟨ws, e2⟩, h5, hf⟩ := Rs.bind_ok hf
  obtain ⟨os, h6, hf⟩ := Rs.bind_ok hf
  obtain ⟨o, h7, hf⟩ := Rs.bind_ok hf
  cases hf
  have h2 := Rs.of_ok h2
  obtain ⟨c, c1, c2⟩ := Option.bind_eq_some_iff.mp h2
  have h3 := beq_str (Rs.chk_ok h3)
  refine ⟨e, Fr, w1, e1, t, hE, h1, fun x H1 F1 R1 hE1 hW1 P1 pu1 => ⟨?_, e1, F1, ws, e', P1.trkF, hE1, h5, fun xs H2 F2 R2 hE2 hW2 P2 pu2 => ?_⟩⟩
  · rw [← h3]
    exact tyI_of (hW1.rep hE1 c1) c2 (by rw [h3]; exact m)
  · have hWs := RepWs.cons (hW1.later P1 P2 pu2 (Rs.chk_ok h4)) hW2 (P1.apart P2)
    refine ⟨os, _, o, reps_of hE2 hWs (Rs.of_ok h6), h7, fun v H3 R3 hr fr => ?_⟩
    have P := P1.trans P2
    have P3 := fr.post P2.trkF
    refine k v H3 F2 R3 (RepE.frame P3.keep (fun b u _ e => fr.same b u e) hE2) (.mk hr) ((P.trans P3).mono fun b q => .inr q) fun z => ?_
    rw [Bool.and_eq_true] at z
    obtain ⟨a1, b1⟩ := pu1 z.1
    obtain ⟨a2, b2⟩ := pu2 z.2
    exact ⟨a2.trans a1, fun b u e => fr.same b u (b2 b u (b1 b u e))⟩
theorem eve_meth {F : List O → Rs O} {f : EF} {g : LF} {p q : Bool} (m : methT T = true) (pa : PlainAttrs T) (slot : Slot T name id) (hty : typeOf (.builtin id) = pure (.type "method_descriptor")) (hm : MtD X id F) (ho : EvE X o f p) (ha : EvL X (e :: es) g q)
    (hbase : attributeBase o name X.env (eval o X.env) = eval o X.env)
    (hfew : ((backTo cpos (starEach (e :: es) X.env)).all (fun x => !x.1) && (backToKw cpos (keywordEach [] X.env)).all (fun x => x.1.isSome)
      && decide ((e :: es).length + ([] : List Keyword).length + (if ([] : List Keyword).isEmpty then 0 else 1) < 30)) = true)
    (hline : (apos.endLine == cpos.line) = true) (hs : starEach (e :: es) X.env = (false, eval e X.env) :: starEach es X.env) (hplain : (backTo cpos (starEach es X.env)).any (·.1) = false) :
    EvE X (.Call (.Attribute o name apos) (e :: es) [] cpos) (eMeth T F f q g) (p && q) :=
  ⟨pe_imp (pe_bmG pa slot hty hm ho.run ha.run hbase hfew hline hs hplain) fun σ H Q z => tE_meth (K := X.K) m z⟩
theorem eve_meth0 {F : List O → Rs O} {f : EF} {p : Bool} (m : methT T = true) (pa : PlainAttrs T) (slot : Slot T name id) (hty : typeOf (.builtin id) = pure (.type "method_descriptor")) (hm : MtD X id F) (ho : EvE X o f p)
    (hbase : attributeBase o name X.env (eval o X.env) = eval o X.env) (hline : (apos.endLine == cpos.line) = true) :
    EvE X (.Call (.Attribute o name apos) [] [] cpos) (eMeth T F f true lNil) p :=
  ⟨pe_imp (pe_bmG0 pa slot hty hm ho.run hbase hline) fun σ H Q z => by
    have z : tE X.K (eMeth T F f true lNil) (p && true) σ H Q := by rw [Bool.and_true]; exact z
    exact tE_mono (tE_meth (K := X.K) m z) fun x H1 ⟨a, b⟩ => ⟨a, tL_nil b⟩⟩
theorem mtd_of {r : V → List V → Hp → VK → Prop} {F : List O → Rs O} (h : MtR X id r)
    (i : ∀ x xs H Q os (G : Rg) o, Reps X.K H G os (x :: xs) → F os = .ok o → (∀ v H' (R : Rg), Rep X.K H' o v R → Fresh H H' R → Q v H') → r x xs H Q) : MtD X id F := fun pins s σ H x xs v us Q I rx rxs q => by
  obtain ⟨os, G, o, h1, hf, k⟩ := q
  exact h pins s σ H x xs v us Q I rx rxs (i x xs H Q os G o h1 hf k)
theorem fz_strs {K : PySem.W.Frag} : ∀ {ds : List PyData} {bs : List Str} {xs : List V}, strsOf ds = some bs → FzAll K H ds xs → xs = bs.map V.str
  | [], bs, xs, e, h => by cases e; rw [FzAll.nil_iff.mp h]; rfl
  | .str b :: ds, bs, xs, e, h => by
    rw [strsOf] at e
    obtain ⟨cs, e1, rfl⟩ := Option.map_eq_some_iff.mp e
    obtain ⟨x, r, rfl, h1, h2⟩ := FzAll.cons_inv h
    unfold Fz at h1
    rw [h1, fz_strs e1 h2]
    rfl
  | .none :: _, _, _, e, _ => by cases e
  | .int _ :: _, _, _, e, _ => by cases e
  | .bool _ :: _, _, _, e, _ => by cases e
  | .list _ :: _, _, _, e, _ => by cases e
  | .tuple _ :: _, _, _, e, _ => by cases e
  | .dict _ :: _, _, _, e, _ => by cases e
theorem mtd_join : MtD X "str.join" oJoin := mtd_of mt_join fun x xs H Q os G o hr hf k => by
  unfold oJoin at hf
  split at hf
  · rename_i a y
    obtain ⟨l, e1, hf⟩ := Rs.bind_ok hf
    obtain ⟨ys, e2, hf⟩ := Rs.bind_ok hf
    obtain ⟨_, hc, hf⟩ := Rs.bind_ok hf
    cases hf
    obtain ⟨v, w, e, h1, h2⟩ := reps2 hr
    cases e
    obtain ⟨p, zs, rfl, f, g⟩ := seqOf_at h2 (Rs.of_ok e1)
    have := fz_strs (Rs.of_ok e2) g
    subst this
    have hz := of_decide_eq_true (Rs.chk_ok hc)
    exact ⟨a, p, ys, rep_str h1, rfl, f.elim .inl fun z => .inr z.sq, hz, k _ _ _ rep_vS (.refl H)⟩
  · cases hf
theorem mtd_find : MtD X "str.find" oFind := mtd_of mt_find fun x xs H Q os G o hr hf k => by
  unfold oFind at hf
  split at hf
  · rename_i a b
    cases hf
    obtain ⟨v, w, e, h1, h2⟩ := reps2 hr
    cases e
    exact ⟨a, b, rep_str h1, by rw [rep_str h2], k _ _ _ rep_vI (.refl H)⟩
  · cases hf
/-! ### methods that change -/
/-- what is asked of the values where the receiver, an owned thing, is changed -/
def mutWish (K : PySem.W.Frag) (M : O → List O → Rs (O × O)) (x : V) (xs : List V) (H : Hp) (Q : VK) : Prop :=
  ∃ o os o' r, ∃ G R : Rg, isOwn o = true ∧ Rep K H o x G ∧ RepL K H os xs R ∧ (∀ b, G b → R b → False) ∧ Trk H G ∧ Trk H R ∧ M o os = .ok (o', r) ∧
    ∀ v H' (G' R' : Rg), Rep K H' o' x G' → Rep K H' r v R' → Keep H H' → (∀ b, ¬ G b → H' b = H b) → (∀ b, G' b ∨ R' b → G b ∨ R b) → (∀ b, G' b → R' b → False) → (∀ b u, H b = some u → ∃ u', H' b = some u') → Q v H'
def MutD (X : Cx) (id : String) (M : O → List O → Rs (O × O)) : Prop := MtR X id fun x xs H Q => mutWish X.K M x xs H Q
theorem RepL.append {K : PySem.W.Frag} : ∀ {os ps : List O} {xs ys : List V} {F G : Rg}, RepL K H os xs F → RepL K H ps ys G → (∀ b, F b → G b → False) → RepL K H (os ++ ps) (xs ++ ys) (fun b => F b ∨ G b)
  | [], ps, xs, ys, F, G, h, g, d => by
    unfold RepL at h
    subst h
    exact RepL.mono _ _ _ _ (fun b q => .inr q) g
  | o :: os, ps, xs, ys, F, G, h, g, d => by
    unfold RepL at h
    obtain ⟨x, r, A, rfl, h1, h2⟩ := h
    show RepL K H (o :: (os ++ ps)) (x :: (r ++ ys)) _
    unfold RepL
    refine ⟨x, _, fun b => F b ∧ A b, rfl, Rep.mono _ _ _ _ (fun b q => ⟨.inl q.1, q⟩) h1, RepL.mono _ _ _ _ (fun b q => ?_) (RepL.append h2 g fun b q => d b q.1)⟩
    exact q.elim (fun q => ⟨.inl q.1, fun z => q.2 z.2⟩) fun q => ⟨.inr q, fun z => d b z.1 q⟩
theorem RepL.snoc_inv {K : PySem.W.Frag} : ∀ {os : List O} {c : O} {xs : List V} {F : Rg}, RepL K H (os ++ [c]) xs F → ∃ ys y, ∃ A : Rg, xs = ys ++ [y] ∧ RepL K H os ys (fun b => F b ∧ ¬ A b) ∧ Rep K H c y (fun b => F b ∧ A b)
  | [], c, xs, F, h => by
    have h : RepL K H [c] xs F := h
    unfold RepL at h
    obtain ⟨x, r, A, rfl, h1, h2⟩ := h
    unfold RepL at h2
    subst h2
    exact ⟨[], x, A, rfl, by unfold RepL; rfl, h1⟩
  | o :: os, c, xs, F, h => by
    have h : RepL K H (o :: (os ++ [c])) xs F := h
    unfold RepL at h
    obtain ⟨x, r, B, rfl, h1, h2⟩ := h
    obtain ⟨ys, y, A, rfl, g1, g2⟩ := RepL.snoc_inv h2
    refine ⟨x :: ys, y, fun b => ¬ B b ∧ A b, rfl, ?_, Rep.mono _ _ _ _ (fun b q => ⟨q.1.1, q.1.2, q.2⟩) g2⟩
    unfold RepL
    exact ⟨x, ys, B, rfl, Rep.mono _ _ _ _ (fun b q => ⟨⟨q.1, fun z => z.1 q.2⟩, q.2⟩) h1, RepL.mono _ _ _ _ (fun b q => ⟨⟨q.1.1, fun z => q.2 z.2⟩, q.1.2⟩) g1⟩
theorem repL1 {K : PySem.W.Frag} {o : O} {xs : List V} {F : Rg} (h : RepL K H [o] xs F) : ∃ x, xs = [x] ∧ Rep K H o x F := by
  unfold RepL at h
  obtain ⟨x, r, A, rfl, h1, h2⟩ := h
  unfold RepL at h2
  subst h2
  exact ⟨x, rfl, Rep.mono _ _ _ _ (fun b q => q.1) h1⟩
theorem rep_one {K : PySem.W.Frag} {o : O} {x : V} {F : Rg} (h : Rep K H o x F) : RepL K H [o] [x] F := by
  unfold RepL
  exact ⟨x, [], fun _ => True, rfl, Rep.mono _ _ _ _ (fun b q => ⟨q, trivial⟩) h, by unfold RepL; rfl⟩
theorem keep_lst {H : Hp} {a : Addr} {xs ys : List V} (h : H a = some (.lst xs)) : Keep H (upd H a (.lst ys)) := by
  refine ⟨fun b zs e => ?_, fun b o u e => ?_⟩
  · rw [upd_ne (ne_of e h (fun z => nomatch z))]; exact e
  · rw [upd_ne (ne_of e h (fun z => nomatch z))]; exact e
theorem trk_upd {H : Hp} {a : Addr} {o : HO} : ∀ b u, H b = some u → ∃ u', upd H a o b = some u' := fun b u e => by
  by_cases hb : b = a
  · subst hb; exact ⟨o, upd_same⟩
  · exact ⟨u, by rw [upd_ne hb]; exact e⟩
theorem mutd_append : MutD X "list.append" mAppend := fun pins s σ H x xs v us Q I rx rxs q => by
  obtain ⟨o, os, o', r, G, R, n, h1, h2, d, tG, tR, hf, k⟩ := q
  unfold mAppend at hf
  split at hf
  · rename_i l y
    obtain ⟨_, hc, hf⟩ := Rs.bind_ok hf
    cases hf
    unfold Rep at h1
    obtain ⟨a, zs, rfl, fa, ha, g⟩ := h1
    obtain ⟨z, rfl, h3⟩ := repL1 h2
    have hl : l.length < 16777216 := of_decide_eq_true (Rs.chk_ok hc)
    refine mt_append pins s σ H _ _ v us Q I rx rxs ⟨a, zs, z, rfl, rfl, ha, by rw [← RepL.length g, sizeLine_eq]; exact hl, ?_⟩
    refine k .non _ (fun b => G b ∨ R b) (fun _ => False) ?_ (by unfold Rep Fz; rfl) (keep_lst ha) (fun b nb => ?_) (fun b q => q.elim id False.elim) (fun _ _ q => q) trk_upd
    · unfold Rep
      refine ⟨a, _, rfl, .inl fa, upd_same, ?_⟩
      have g' : RepL X.K (upd H a (.lst (zs ++ [z]))) l zs (fun b => G b ∧ b ≠ a) := RepL.frame (keep_lst ha) _ _ _ (fun b u q e => by rw [upd_ne q.2]; exact e) g
      have h2' : RepL X.K (upd H a (.lst (zs ++ [z]))) [y] [z] R := rep_one (Rep.frame (keep_lst ha) _ _ _ (fun b u q e => by rw [upd_ne (show b ≠ a from fun w => d a fa (w ▸ q))]; exact e) h3)
      refine RepL.mono _ _ _ _ (fun b q => ?_) (RepL.append g' h2' fun b q w => d b q.1 w)
      exact q.elim (fun q => ⟨.inl q.1, q.2⟩) fun q => ⟨.inr q, fun w => d a fa (w ▸ q)⟩
    · exact upd_ne fun w => nb (w ▸ fa)
  · cases hf
theorem getLast_split {α : Type} : ∀ {l : List α} {c : α}, l.getLast? = some c → l = l.dropLast ++ [c]
  | [], _, h => by cases h
  | [x], c, h => by cases h; rfl
  | x :: y :: l, c, h => by
    have := getLast_split (l := y :: l) (c := c) (by simpa using h)
    show x :: y :: l = x :: ((y :: l).dropLast ++ [c])
    rw [← this]
theorem mutd_pop : MutD X "list.pop" mPop := fun pins s σ H x xs v us Q I rx rxs q => by
  obtain ⟨o, os, o', r, G, R, n, h1, h2, d, tG, tR, hf, k⟩ := q
  unfold mPop at hf
  split at hf
  · rename_i l
    obtain ⟨y, hc, hf⟩ := Rs.bind_ok hf
    cases hf
    have hl := getLast_split (Rs.of_ok hc)
    unfold Rep at h1
    obtain ⟨a, zs, rfl, fa, ha, g⟩ := h1
    unfold RepL at h2
    subst h2
    rw [hl] at g
    obtain ⟨ys, z, A, rfl, g1, g2⟩ := g.snoc_inv
    refine mt_pop pins s σ H _ _ v us Q I rx rxs ⟨a, _, z, rfl, rfl, ha, by simp, ?_⟩
    rw [List.dropLast_concat]
    refine k z _ (fun b => G b ∧ (b = a ∨ ¬ A b)) (fun b => G b ∧ b ≠ a ∧ A b) ?_ ?_ (keep_lst ha) (fun b nb => upd_ne fun w => nb (w ▸ fa)) (fun b q => q.elim (fun q => .inl q.1) fun q => .inl q.1) (fun b q w => q.2.elim w.2.1 fun z => z w.2.2) trk_upd
    · unfold Rep
      refine ⟨a, ys, rfl, ⟨fa, .inl rfl⟩, upd_same, RepL.mono _ _ _ _ (fun b q => ⟨⟨q.1.1, .inr q.2⟩, q.1.2⟩) (RepL.frame (keep_lst ha) _ _ _ (fun b u q e => by rw [upd_ne q.1.2]; exact e) g1)⟩
    · exact Rep.mono _ _ _ _ (fun b q => ⟨q.1.1, q.1.2, q.2⟩) (Rep.frame (keep_lst ha) _ _ _ (fun b u q e => by rw [upd_ne q.1.2]; exact e) g2)
  · cases hf
end
end Ev

set_option Elab.async false
set_option linter.all false
set_option maxRecDepth 100000
/-! Ev: methods that change their receiver. -/
namespace Ev
open PySem PySem.Spec PyProof.Rows L2
section
variable {X : Cx} {K : PySem.W.Frag} {σ : L2.St} {H : Hp}
theorem storeL_notAt : ∀ {ws : List W} {vs : List V} {e e' : Env} {R : Rg} {os : List O}, ws.all notAt = true → storeL ws e = .ok (os, e') → RepWs K H σ e ws vs R → e' = e ∧ RepL K H os vs R
  | [], vs, e, e', R, os, n, hs, h => by
    cases hs
    exact ⟨rfl, by unfold RepL; exact h⟩
  | w :: ws, vs, e, e', R, os, n, hs, ⟨x, r, G, e0, h1, h2⟩ => by
    rw [List.all_cons, Bool.and_eq_true] at n
    unfold storeL at hs
    obtain ⟨_, hc, hs⟩ := Rs.bind_ok hs
    obtain ⟨⟨o, e1⟩, g1, hs⟩ := Rs.bind_ok hs
    obtain ⟨⟨os', e2⟩, g2, hs⟩ := Rs.bind_ok hs
    cases hs
    have hw : e1 = e ∧ Rep K H o x (fun b => R b ∧ G b) := by
      cases w with
      | val d => cases g1; exact ⟨rfl, by unfold Rep; exact h1⟩
      | own o' => cases g1; exact ⟨rfl, h1⟩
      | «at» i p => cases n.1
    obtain ⟨rfl, hr⟩ := hw
    obtain ⟨rfl, hl⟩ := storeL_notAt n.2 g2 h2
    refine ⟨rfl, ?_⟩
    unfold RepL
    exact ⟨x, r, G, e0, hr, hl⟩
/-- the slot's thing is changed in its place -/
theorem mut_back {e3 : Env} {i : Nat} {p : List Nat} {o o' : O} {x : V} {F3 G G' : Rg} {H3 H4 : Hp} (hE : RepE K H3 (eput e3 i p .hole) σ (fun b => F3 b ∧ ¬ G b)) (g : eget e3 i p = some o) (n : isOwn o = true) (hp : PathS H3 σ i p x)
    (kp : Keep H3 H4) (m : ∀ b, ¬ (F3 b ∧ G b) → H4 b = H3 b) (r : Rep K H4 o' x G') (d : ∀ b, F3 b ∧ ¬ G b → G' b → False) : RepE K H4 (eput e3 i p o') σ (fun b => (F3 b ∧ ¬ G b) ∨ G' b) := by
  have hE4 : RepE K H4 (eput e3 i p .hole) σ (fun b => F3 b ∧ ¬ G b) := RepE.frame kp (fun b u q e => by rw [m b fun z => q.2 z.2]; exact e) hE
  have hp4 : PathS H4 σ i p x := RepE.pathKept hE4 g n hp fun b q => m b fun z => q.2 z.2
  exact RepE.pathBack hE4 g n hp4 r d
theorem Post.mut {H0 H3 H4 : Hp} {F0 F3 R2 G G' R' : Rg} (P : Post H0 F0 H3 F3 R2) (kp : Keep H3 H4) (m : ∀ b, ¬ (F3 b ∧ G b) → H4 b = H3 b) (sub : ∀ b, G' b ∨ R' b → (F3 b ∧ G b) ∨ R2 b) (d : ∀ b, G' b → R' b → False)
    (tk : ∀ b u, H3 b = some u → ∃ u', H4 b = some u') : Post H0 F0 H4 (fun b => (F3 b ∧ ¬ G b) ∨ G' b) R' where
  keep := P.keep.trans kp
  frm := fun b u e n => by
    have h3 := P.frm b u e n
    rw [m b ?_]
    · exact h3
    · rintro ⟨f, _⟩
      rcases P.new b (.inl f) with q | q
      · exact n q
      · rw [q] at e; cases e
  new := fun b h => by
    rcases h with (h | h) | h
    · exact P.new b (.inl h.1)
    · rcases sub b (.inl h) with q | q
      · exact P.new b (.inl q.1)
      · exact P.new b (.inr q)
    · rcases sub b (.inr h) with q | q
      · exact P.new b (.inl q.1)
      · exact P.new b (.inr q)
  dis := fun b h r => by
    rcases h with h | h
    · rcases sub b (.inr r) with q | q
      · exact h.2 q.2
      · exact P.dis b h.1 q
    · exact d b h r
  trk := fun b h => by
    have : ∃ u, H3 b = some u := by
      rcases h with (h | h) | h
      · exact P.trk b (.inl h.1)
      · rcases sub b (.inl h) with q | q
        · exact P.trk b (.inl q.1)
        · exact P.trk b (.inr q)
      · rcases sub b (.inr h) with q | q
        · exact P.trk b (.inl q.1)
        · exact P.trk b (.inr q)
    obtain ⟨u, e⟩ := this
    exact tk b u e
theorem tE_mut {T : String} {M : O → List O → Rs (O × O)} {f : EF} {g : LF} {p q : Bool} {Q : VK} (m : methT T = true) (h : tE X.K (eMut T M f q g) false σ H Q) :
    tE X.K f p σ H fun x H1 => TyI X T x H1 ∧ tL X.K g q σ H1 fun xs H2 => Frzs (fun H3 => mutWish X.K M x xs H3 Q) H2 := by
  obtain ⟨e, Fr, w, e', t, hE, hf, k⟩ := h
  unfold eMut at hf
  obtain ⟨⟨w1, e1⟩, h1, hf⟩ := Rs.bind_ok hf
  cases w1 with
  | val d => cases hf
  | own o => cases hf
  | «at» i pth =>
    dsimp only at hf
    obtain ⟨o1, h2, hf⟩ := Rs.bind_ok hf
    obtain ⟨d, h3, hf⟩ := Rs.bind_ok hf
    obtain ⟨_, h4, hf⟩ := Rs.bind_ok hf
    obtain ⟨_, h5, hf⟩ := Rs.bind_ok hf
    obtain ⟨⟨ws, e2⟩, h6, hf⟩ := Rs.bind_ok hf
    obtain ⟨_, h7, hf⟩ := Rs.bind_ok hf
    obtain ⟨⟨os, e3⟩, h8, hf⟩ := Rs.bind_ok hf
    obtain ⟨o, h9, hf⟩ := Rs.bind_ok hf
    obtain ⟨_, h10, hf⟩ := Rs.bind_ok hf
    obtain ⟨⟨o', r⟩, h11, hf⟩ := Rs.bind_ok hf
    cases hf
    have h2 := Rs.of_ok h2
    have h4 := beq_str (Rs.chk_ok h4)
    have h5 := Rs.chk_ok h5
    have h7 := Rs.chk_ok h7
    have h9 := Rs.of_ok h9
    have h10 := Rs.chk_ok h10
    refine ⟨e, Fr, .at i pth, e1, t, hE, h1, fun x H1 F1 R1 hE1 hW1 P1 pu1 => ⟨?_, e1, F1, ws, e2, P1.trkF, hE1, h6, fun xs H2 F2 R2 hE2 hW2 P2 pu2 => ?_⟩⟩
    · rw [← h4]
      exact tyI_of (hW1.rep hE1 (o := o1) h2) (Rs.of_ok h3) (by rw [h4]; exact m)
    · have nn : (q || !W.nested (.at i pth)) = true := by
        cases q with
        | true => rfl
        | false =>
          cases pth with
          | nil => rfl
          | cons s t => cases h5
      have l2 : RepW X.K H2 σ e2 (.at i pth) x R1 := hW1.later P1 P2 pu2 nn
      have P12 := (P1.trans P2).mono (R' := R2) fun b q => .inr q
      -- behind the arguments' storing
      have go : ∀ H3, ∀ F3 : Rg, FRel F2 H2 H3 → (∀ b, F3 b → F2 b) → RepE X.K H3 e3 σ F3 → RepL X.K H3 os xs R2 → PathS H3 σ i pth x → mutWish X.K M x xs H3 Q := by
        intro H3 F3 fr mF hE3 hL hp3
        obtain ⟨x', G, k1, k2, k3⟩ := hE3.pathOut h9 h10
        have ex : x = x' := by
          obtain ⟨a, q1, q2⟩ := hp3
          obtain ⟨b, r1, r2⟩ := k1
          rw [q1] at r1; cases r1
          exact q2.inj r2
        subst ex
        have P3 : Post H Fr H3 F3 R2 := P12.frz (fr.mono fun b q => .inl q) mF fun _ q => q
        refine ⟨o, os, o', r, _, R2, h10, k2, hL, fun b q w => P12.dis b (mF b q.1) w, fun b q => P3.trk b (.inl q.1), fun b q => P3.trk b (.inr q), h11, fun v H4 G' R' r1 r2 kp mm sub dd tk => ?_⟩
        refine k v H4 _ R' (mut_back k3 h9 h10 hp3 kp mm r1 fun b q w => ?_) (.mk r2) (P3.mut kp mm sub dd tk) (fun z => nomatch z)
        rcases sub b (.inl w) with z | z
        · exact q.2 z.2
        · exact P12.dis b (mF b q.1) z
      cases pth with
      | nil =>
        refine storeL_ok hE2 hW2 P2.dis h8 fun H3 F3 fr mF hE3 hL => .now (go H3 F3 fr mF hE3 hL ?_)
        obtain ⟨⟨a, q1, q2⟩, _⟩ := l2
        exact ⟨a, q1, q2⟩
      | cons s t =>
        have h7 : ws.all notAt = true := h7
        obtain ⟨rfl, hL⟩ := storeL_notAt h7 h8 hW2
        exact .now (go H2 F2 (.refl _ _) (fun _ q => q) hE2 hL l2.1)
theorem tE_mut0 {T : String} {M : O → List O → Rs (O × O)} {f : EF} {p : Bool} {Q : VK} (m : methT T = true) (h : tE X.K (eMut T M f true lNil) false σ H Q) :
    tE X.K f p σ H fun x H1 => TyI X T x H1 ∧ mutWish X.K M x [] H1 Q := by
  obtain ⟨e, Fr, w, e', t, hE, hf, k⟩ := h
  unfold eMut at hf
  obtain ⟨⟨w1, e1⟩, h1, hf⟩ := Rs.bind_ok hf
  cases w1 with
  | val d => cases hf
  | own o => cases hf
  | «at» i pth =>
    dsimp only at hf
    obtain ⟨o1, h2, hf⟩ := Rs.bind_ok hf
    obtain ⟨d, h3, hf⟩ := Rs.bind_ok hf
    obtain ⟨_, h4, hf⟩ := Rs.bind_ok hf
    obtain ⟨_, h5, hf⟩ := Rs.bind_ok hf
    obtain ⟨⟨ws, e2⟩, h6, hf⟩ := Rs.bind_ok hf
    obtain ⟨_, h7, hf⟩ := Rs.bind_ok hf
    obtain ⟨⟨os, e3⟩, h8, hf⟩ := Rs.bind_ok hf
    obtain ⟨o, h9, hf⟩ := Rs.bind_ok hf
    obtain ⟨_, h10, hf⟩ := Rs.bind_ok hf
    obtain ⟨⟨o', r⟩, h11, hf⟩ := Rs.bind_ok hf
    cases hf
    cases h6
    cases h8
    have h2 := Rs.of_ok h2
    have h4 := beq_str (Rs.chk_ok h4)
    have h9 := Rs.of_ok h9
    have h10 := Rs.chk_ok h10
    refine ⟨e, Fr, .at i pth, _, t, hE, h1, fun x H1 F1 R1 hE1 hW1 P1 pu1 => ⟨?_, ?_⟩⟩
    · rw [← h4]
      exact tyI_of (hW1.rep hE1 (o := o1) h2) (Rs.of_ok h3) (by rw [h4]; exact m)
    · obtain ⟨x', G, k1, k2, k3⟩ := hE1.pathOut h9 h10
      have ex : x = x' := by
        obtain ⟨⟨a, q1, q2⟩, _⟩ := hW1
        obtain ⟨b, r1, r2⟩ := k1
        rw [q1] at r1; cases r1
        exact q2.inj r2
      subst ex
      refine ⟨o, [], o', r, _, fun _ => False, h10, k2, by unfold RepL; rfl, fun b q w => w, fun b q => P1.trk b (.inl q.1), fun b q => q.elim, h11, fun v H4 G' R' r1 r2 kp mm sub dd tk => ?_⟩
      refine k v H4 _ R' (mut_back k3 h9 h10 hW1.1 kp mm r1 fun b q w => ?_) (.mk r2) ((P1.mono (R' := fun _ => False) fun _ z => z.elim).mut kp mm sub dd tk) (fun z => nomatch z)
      rcases sub b (.inl w) with z | z
      · exact q.2 z.2
      · exact z.elim
end
section
variable {X : Cx} {o e : Expr} {es : List Expr} {name : Str} {apos cpos : Pos} {T id : String}
theorem eve_mut {M : O → List O → Rs (O × O)} {f : EF} {g : LF} {p q : Bool} (m : methT T = true) (pa : PlainAttrs T) (slot : Slot T name id) (hty : typeOf (.builtin id) = pure (.type "method_descriptor")) (hm : MutD X id M) (ho : EvE X o f p) (ha : EvL X (e :: es) g q)
    (hbase : attributeBase o name X.env (eval o X.env) = eval o X.env)
    (hfew : ((backTo cpos (starEach (e :: es) X.env)).all (fun x => !x.1) && (backToKw cpos (keywordEach [] X.env)).all (fun x => x.1.isSome)
      && decide ((e :: es).length + ([] : List Keyword).length + (if ([] : List Keyword).isEmpty then 0 else 1) < 30)) = true)
    (hline : (apos.endLine == cpos.line) = true) (hs : starEach (e :: es) X.env = (false, eval e X.env) :: starEach es X.env) (hplain : (backTo cpos (starEach es X.env)).any (·.1) = false) :
    EvE X (.Call (.Attribute o name apos) (e :: es) [] cpos) (eMut T M f q g) false :=
  ⟨pe_imp (pe_bmG pa slot hty hm ho.run (pa_frzs ha.run) hbase hfew hline hs hplain) fun σ H Q z => tE_mut m z⟩
theorem eve_mut0 {M : O → List O → Rs (O × O)} {f : EF} {p : Bool} (m : methT T = true) (pa : PlainAttrs T) (slot : Slot T name id) (hty : typeOf (.builtin id) = pure (.type "method_descriptor")) (hm : MutD X id M) (ho : EvE X o f p)
    (hbase : attributeBase o name X.env (eval o X.env) = eval o X.env) (hline : (apos.endLine == cpos.line) = true) :
    EvE X (.Call (.Attribute o name apos) [] [] cpos) (eMut T M f true lNil) false :=
  ⟨pe_imp (pe_bmG0 pa slot hty (r := fun x xs H Q => mutWish X.K M x xs H Q) hm ho.run hbase hline) fun σ H Q z => tE_mut0 m z⟩
end
end Ev

set_option Elab.async false
set_option linter.all false
set_option maxRecDepth 100000
/-! Ev: tests, statements, loops, comprehensions, functions as plain functions. No heap here. -/
namespace Ev
open PySem PySem.Spec PyProof.Rows
inductive Fl where
  | nx
  | bk
  | ct
  | rt (o : O)
abbrev TF := Env → Rs (Bool × Env)
abbrev SF := Env → Rs (Fl × Env)
abbrev Fn := List O → Rs (O × List O)

def truthD : PyData → Option Bool
  | .none => some false
  | .bool b => some b
  | .int i => some (i != 0)
  | .str s => if s.length ≤ 16777216 then some ((s.length : Int) != 0) else none
  | .list ds => some (!ds.isEmpty)
  | .tuple ds => some (!ds.isEmpty)
  | .dict _ => none
def truthO : O → Option Bool
  | .hole => none
  | .val d => truthD d
  | .lst xs => some (!xs.isEmpty)
  | .dct kvs => some (!kvs.isEmpty)
def cOf (f : EF) : TF := fun e => (f e).bind fun (w, e1) => (Rs.of (content e1 w)).bind fun o => (Rs.of (truthO o)).bind fun b => .ok (b, e1)
/-- a bool -/
def cB (f : EF) : TF := fun e => (f e).bind fun (w, e1) => match w with
  | .val (.bool b) => .ok (b, e1)
  | _ => .no
def cNot (c : TF) : TF := fun e => (c e).bind fun (b, e1) => .ok (!b, e1)
def cAnd (c d : TF) : TF := fun e => (c e).bind fun (b, e1) => if b = true then d e1 else .ok (false, e1)
def cOr (c d : TF) : TF := fun e => (c e).bind fun (b, e1) => if b = true then .ok (true, e1) else d e1
def cYes : TF := fun e => .ok (true, e)
def eOfC (c : TF) : EF := fun e => (c e).bind fun (b, e1) => .ok (.val (.bool b), e1)
def eAnd (f g : EF) : EF := fun e => (f e).bind fun (w, e1) => (Rs.of ((content e1 w).bind truthO)).bind fun b => if b = true then g e1 else .ok (w, e1)
def eOr (f g : EF) : EF := fun e => (f e).bind fun (w, e1) => (Rs.of ((content e1 w).bind truthO)).bind fun b => if b = true then .ok (w, e1) else g e1
def eIfx (c : TF) (f g : EF) : EF := fun e => (c e).bind fun (b, e1) => if b = true then f e1 else g e1
/-- a op1 b op2 c -/
def eChain (F G : List O → Rs O) (l : LF) (p : Bool) (h : EF) : EF := fun e => (l e).bind fun (ws, e1) => (Rs.of (contents e1 ws)).bind fun os => (F os).bind fun o => match ws, o with
  | [_, y], .val (.bool true) => (Rs.chk (p || !y.nested)).bind fun _ => (h e1).bind fun (z, e2) => (Rs.of (contents e2 [y, z])).bind fun os => (G os).bind fun o => .ok (mkW o, e2)
  | [_, _], .val (.bool false) => .ok (.val (.bool false), e1)
  | _, _ => .no

/-- a dict display -/
def dPairs : List (EF × EF) → Env → Rs (List (PyData × O) × Env)
  | [], e => .ok ([], e)
  | (f, g) :: r, e => (f e).bind fun (wk, e1) => match wk with
    | .val kd => (Rs.chk (isKey kd)).bind fun _ => (g e1).bind fun (w, e2) => (storeW w e2).bind fun (o, e3) => (dPairs r e3).bind fun (ps, e4) => .ok ((kd, o) :: ps, e4)
    | _ => .no
def mergeD (kvs more : List (PyData × O)) : List (PyData × O) := more.foldl (fun acc kv => putD kv.1 kv.2 acc) kvs
def eDct (prs : List (EF × EF)) : EF := fun e => (dPairs prs e).bind fun (ps, e1) => .ok (.own (.dct (mergeD [] ps)), e1)

/-- a value, frozen -/
def eFrz (f : EF) : EF := fun e => (f e).bind fun (w, e1) => (frozW w e1).bind fun (d, e2) => .ok (.val d, e2)

/-! statements -/
def sNx : SF := fun e => .ok (.nx, e)
def sBk : SF := fun e => .ok (.bk, e)
def sCt : SF := fun e => .ok (.ct, e)
def sSeq (s t : SF) : SF := fun e => (s e).bind fun (f, e1) => match f with
  | .nx => t e1
  | f => .ok (f, e1)
def sExp (f : EF) : SF := fun e => (f e).bind fun (_, e1) => .ok (.nx, e1)
def sIf (c : TF) (s t : SF) : SF := fun e => (c e).bind fun (b, e1) => if b = true then s e1 else t e1
/-- the value of a return: an owned thing leaves its slot -/
def takeW (w : W) (e : Env) : Rs (O × Env) := match w with
  | .val d => .ok (.val d, e)
  | .own o => .ok (o, e)
  | .at i p => (Rs.of (eget e i p)).bind fun o => .ok (o, if isOwn o = true then eput e i p .hole else e)
def sRet (f : EF) : SF := fun e => (f e).bind fun (w, e1) => (takeW w e1).bind fun (o, e2) => .ok (.rt o, e2)
def sRetN : SF := fun e => .ok (.rt (.val .none), e)
/-- name = value; pb: the slots that keep what they have -/
def setN (pb : List Nat) (i : Nat) (o : O) (e : Env) : Rs Env := (Rs.chk (!pb.contains i)).bind fun _ => .ok (e.set i o)
def sAsg (pb : List Nat) (i : Nat) (f : EF) : SF := fun e => (f e).bind fun (w, e1) => (storeW w e1).bind fun (o, e2) => (setN pb i o e2).bind fun e3 => .ok (.nx, e3)
def setNs (pb : List Nat) : List Nat → List O → Env → Rs Env
  | [], [], e => .ok e
  | i :: is, o :: os, e => (setN pb i o e).bind fun e1 => setNs pb is os e1
  | _, _, _ => .no
/-- a, b, .. = x, y, .. -/
def sPar (pb : List Nat) (is : List Nat) (l : LF) : SF := fun e => (l e).bind fun (ws, e1) => (storeL ws e1).bind fun (os, e2) => (setNs pb is os e2).bind fun e3 => .ok (.nx, e3)
inductive Pat where
  | nm (i : Nat)
  | tup (ps : List Pat)
mutual
def patSet (pb : List Nat) : Pat → PyData → Env → Rs Env
  | .nm i, d, e => setN pb i (.val d) e
  | .tup ps, .tuple ds, e => patSets pb ps ds e
  | _, _, _ => .no
def patSets (pb : List Nat) : List Pat → List PyData → Env → Rs Env
  | [], [], e => .ok e
  | p :: ps, d :: ds, e => (patSet pb p d e).bind fun e1 => patSets pb ps ds e1
  | _, _, _ => .no
end
def sUnp (pb : List Nat) (ps : List Pat) (f : EF) : SF := fun e => (f e).bind fun (w, e1) => match w with
  | .val d => (patSet pb (.tup ps) d e1).bind fun e2 => .ok (.nx, e2)
  | _ => .no
/-- o[k] = v -/
def putO : O → PyData → O → Option O
  | .lst xs, .int i, o => (L2.ixN xs.length i).map fun j => .lst (xs.set j o)
  | .dct kvs, k, o => if isKey k = true then (if kvs.length < 16777216 then some (.dct (putD k o kvs)) else none) else none
  | _, _, _ => none
def sPut (f : EF) (l : LF) : SF := fun e => (f e).bind fun (w, e1) => (storeW w e1).bind fun (o, e2) => (l e2).bind fun (ws, e3) => match ws with
  | [.at i p, k] => (Rs.of (dataOf (content e3 k))).bind fun kd => (Rs.of (eget e3 i p)).bind fun c => (Rs.chk (isOwn c)).bind fun _ => (Rs.of (putO c kd o)).bind fun c' => .ok (.nx, eput e3 i p c')
  | _ => .no

/-! loops -/
def whileN (c : TF) (b : SF) : Nat → SF
  | 0, _ => .no
  | n + 1, e => (c e).bind fun (k, e1) => if k = true then (b e1).bind fun (f, e2) => match f with
      | .nx => whileN c b n e2
      | .ct => whileN c b n e2
      | .bk => .ok (.nx, e2)
      | .rt o => .ok (.rt o, e2) else .ok (.nx, e1)
open Classical in
noncomputable def sWhile (c : TF) (b : SF) : SF := fun e => if h : ∃ n r, whileN c b n e = .ok r then .ok h.choose_spec.choose else .no
theorem sWhile_ok {c : TF} {b : SF} {e : Env} {r : Fl × Env} (h : sWhile c b e = .ok r) : ∃ n, whileN c b n e = .ok r := by
  unfold sWhile at h
  split at h
  · rename_i q
    cases h
    exact ⟨_, q.choose_spec.choose_spec⟩
  · cases h
theorem whileN_mono {c : TF} {b : SF} : ∀ {n m : Nat} {e : Env} {r : Fl × Env}, n ≤ m → whileN c b n e = .ok r → whileN c b m e = .ok r
  | 0, _, _, _, _, h => by cases h
  | n + 1, 0, _, _, l, _ => by omega
  | n + 1, m + 1, e, r, l, h => by
    unfold whileN at h ⊢
    obtain ⟨⟨k, e1⟩, h1, h⟩ := Rs.bind_ok h
    rw [h1]
    simp only [Rs.ok_bind]
    cases k with
    | false => exact h
    | true =>
      simp only [if_true] at h ⊢
      obtain ⟨⟨f, e2⟩, h2, h⟩ := Rs.bind_ok h
      rw [h2]
      simp only [Rs.ok_bind]
      cases f with
      | nx => exact whileN_mono (by omega) h
      | ct => exact whileN_mono (by omega) h
      | bk => exact h
      | rt o => exact h
theorem sWhile_eq {c : TF} {b : SF} {e : Env} {r : Fl × Env} {n : Nat} (h : whileN c b n e = .ok r) : sWhile c b e = .ok r := by
  have q : ∃ n r, whileN c b n e = .ok r := ⟨n, r, h⟩
  unfold sWhile
  rw [dif_pos q]
  have := q.choose_spec.choose_spec
  have a := whileN_mono (Nat.le_max_left n q.choose) h
  have b := whileN_mono (Nat.le_max_right n q.choose) this
  rw [a] at b
  exact b.symm
abbrev IF := Env → Rs (List PyData × Env)
/-- the items, frozen ahead -/
def itemsD : PyData → Option (List PyData)
  | .list ds => some ds
  | .tuple ds => some ds
  | .str s => some (s.cps.toList.map fun c => .str ⟨#[c]⟩)
  | _ => none
def iSeq (f : EF) : IF := fun e => (f e).bind fun (w, e1) => (frozW w e1).bind fun (d, e2) => (Rs.of (itemsD d)).bind fun ds => .ok (ds, e2)
def rangeD (lo : Int) (n : Nat) : List PyData := (List.range n).map fun k : Nat => PyData.int (lo + (k : Int))
def iRgA (l : LF) : IF := fun e => (l e).bind fun (ws, e1) => (Rs.of (contents e1 ws)).bind fun os => match os with
  | [.val (.int j)] => (Rs.chk (decide (-(2 ^ 62) ≤ j) && decide (j < 2 ^ 62))).bind fun _ => .ok (rangeD 0 j.toNat, e1)
  | _ => .no
def iRgB (l : LF) : IF := fun e => (l e).bind fun (ws, e1) => (Rs.of (contents e1 ws)).bind fun os => match os with
  | [.val (.int i), .val (.int j)] => (Rs.chk (decide (-(2 ^ 62) ≤ i) && decide (i < 2 ^ 62) && (decide (-(2 ^ 62) ≤ j) && decide (j < 2 ^ 62)))).bind fun _ => .ok (rangeD i (j - i).toNat, e1)
  | _ => .no
def forN (pb : List Nat) (p : Pat) (b : SF) : List PyData → SF
  | [], e => .ok (.nx, e)
  | d :: ds, e => (patSet pb p d e).bind fun e1 => (b e1).bind fun (f, e2) => match f with
      | .nx => forN pb p b ds e2
      | .ct => forN pb p b ds e2
      | .bk => .ok (.nx, e2)
      | .rt o => .ok (.rt o, e2)
def sFor (pb : List Nat) (i : IF) (p : Pat) (b : SF) : SF := fun e => (i e).bind fun (ds, e1) => forN pb p b ds e1

/-! comprehensions -/
def wipeE (vs : List Nat) (e : Env) : Env := vs.foldr (fun v e => e.set v .hole) e
/-- the turns: the slots at vs are the block's own -/
def lcN (vs : List Nat) (p : Pat) (c : TF) (f : EF) : List PyData → List O → Env → Rs (List O × Env)
  | [], acc, e => .ok (acc, e)
  | d :: ds, acc, e => (patSet [] p d e).bind fun e1 => (c e1).bind fun (k, e2) => if k = true then (f e2).bind fun (w, e3) => (storeW w e3).bind fun (o, e4) =>
      (Rs.chk (decide (acc.length < 16777216))).bind fun _ => lcN vs p c f ds (acc ++ [o]) (wipeE vs e4) else lcN vs p c f ds acc (wipeE vs e2)
/-- behind the block the slots' own data is there again -/
def backE (e : Env) : List Nat → Env → Rs Env
  | [], e' => .ok e'
  | v :: vs, e' => match e[v]? with
    | some (.val d) => backE e vs (e'.set v (.val d))
    | some .hole => backE e vs (e'.set v .hole)
    | _ => .no
def eLc (i : IF) (vs : List Nat) (p : Pat) (c : TF) (f : EF) : EF := fun e => (i e).bind fun (ds, e1) => (lcN vs p c f ds [] (wipeE vs e1)).bind fun (os, e2) => (backE e1 vs e2).bind fun e3 => .ok (.own (.lst os), e3)

/-! calls of functions -/
def slotsOf : List W → List Nat
  | [] => []
  | .at i _ :: ws => i :: slotsOf ws
  | _ :: ws => slotsOf ws
/-- the arguments: owned things leave their slots -/
def takeL : List W → Env → Rs (List O × Env)
  | [], e => .ok ([], e)
  | w :: ws, e => (takeW w e).bind fun (o, e1) => (takeL ws e1).bind fun (os, e2) => .ok (o :: os, e2)
/-- .. and come back; e0: the slots ahead -/
def giveW (w : W) (o o' : O) (e : Env) : Env := match w with
  | .at i p => if isOwn o = true then eput e i p o' else e
  | _ => e
def giveL : List W → List O → List O → Env → Env
  | w :: ws, o :: os, o' :: os', e => giveW w o o' (giveL ws os os' e)
  | _, _, _, e => e
def eCall (F : Fn) (l : LF) : EF := fun e => (l e).bind fun (ws, e1) => (Rs.chk (decide (slotsOf ws).Nodup)).bind fun _ => (takeL ws e1).bind fun (os, e2) => (F os).bind fun (r, os') =>
  (Rs.chk (os'.length == os.length)).bind fun _ => .ok (mkW r, giveL ws os os' e2)
/-- keywords: every argument is frozen; idx: the written arguments in the parameters' order -/
def pickD (ds : List PyData) : List Nat → Option (List O)
  | [] => some []
  | i :: is => match ds[i]?, pickD ds is with
    | some d, some os => some (.val d :: os)
    | _, _ => none
def lApp (l : LF) (q : Bool) (m : LF) : LF := fun e => (l e).bind fun (ws, e1) => (Rs.chk (q || ws.all fun w => !w.nested)).bind fun _ => (m e1).bind fun (us, e2) => .ok (ws ++ us, e2)
def eCallK (F : Fn) (idx : List Nat) (l : LF) : EF := fun e => (l e).bind fun (ws, e1) => (frozLW ws e1).bind fun (ds, e2) => (Rs.of (pickD ds idx)).bind fun os => (F os).bind fun (r, _) => .ok (mkW r, e2)
/-- the parameters at the entry -/
def enterL (pb : List Nat) : Nat → List O → Rs (List O)
  | _, [] => .ok []
  | j, o :: os => (if pb.contains j = true then .ok o else (Rs.of o.froz).bind fun d => .ok (.val d)).bind fun o' => (enterL pb (j + 1) os).bind fun os' => .ok (o' :: os')
def leaveL (pb : List Nat) (e : Env) : Nat → List O → List O
  | _, [] => []
  | j, o :: os => (if pb.contains j = true then (e[j]?).getD .hole else o) :: leaveL pb e (j + 1) os
def mkFn (n N : Nat) (pb : List Nat) (b : SF) : Fn := fun os => (Rs.chk (os.length == n)).bind fun _ => (enterL pb 0 os).bind fun es => (b (es ++ List.replicate (N - n) .hole)).bind fun (f, e') => match f with
  | .rt o => .ok (o, leaveL pb e' 0 es)
  | .nx => .ok (.val .none, leaveL pb e' 0 es)
  | _ => .no
end Ev

set_option Elab.async false
set_option linter.all false
set_option maxRecDepth 100000
/-! Ev: tests; and, or, not, a if c else b as values; chains. -/
namespace Ev
open PySem PySem.Spec PyProof.Rows L2
def tT (K : PySem.W.Frag) (c : TF) : TT := fun σ H Q => ∃ e, ∃ F : Rg, ∃ b e', Trk H F ∧ RepE K H e σ F ∧ c e = .ok (b, e') ∧
  ∀ H' (F' : Rg), RepE K H' e' σ F' → Post H F H' F' (fun _ => False) → Q b H'
structure EvT (X : Cx) (ex : Expr) (c : TF) : Prop where
  run : PT X ex (tT X.K c)
structure EvW (X : Cx) (ex : Expr) (c : TF) : Prop where
  run : PW X ex (tT X.K c)
section
variable {X : Cx} {K : PySem.W.Frag} {σ : L2.St} {H : Hp}
theorem RepL.isEmpty {os : List O} {xs : List V} {F : Rg} (h : RepL K H os xs F) : (!xs.isEmpty) = !os.isEmpty := by
  have := RepL.length h
  cases os <;> cases xs <;> simp_all
theorem FzAll.isEmpty {ds : List PyData} {xs : List V} (h : FzAll K H ds xs) : (!xs.isEmpty) = !ds.isEmpty := by
  have := FzAll.length h
  cases ds <;> cases xs <;> simp_all
theorem RepK.isEmpty {ks : List (PyData × O)} {es : List (V × V)} {F : Rg} (h : RepK K H ks es F) : (!es.isEmpty) = !ks.isEmpty := by
  cases ks with
  | nil => unfold RepK at h; subst h; rfl
  | cons q ks =>
    obtain ⟨k, o⟩ := q
    unfold RepK at h
    obtain ⟨y, x, r, G, rfl, _⟩ := h
    rfl
theorem rep_bl {i : Bool} {v : V} {F : Rg} (h : Rep K H (.val (.bool i)) v F) : v = .bl i := by unfold Rep Fz at h; exact h
theorem rep_tru {o : O} {v : V} {F : Rg} {b : Bool} (h : Rep K H o v F) (e : truthO o = some b) : TruV K v H b := by
  cases o with
  | hole => cases e
  | val d =>
    unfold Rep at h
    have e : truthD d = some b := e
    cases d with
    | none => unfold Fz at h; subst h; cases e; rfl
    | bool c => unfold Fz at h; subst h; cases e; rfl
    | int i => unfold Fz at h; subst h; cases e; rfl
    | str s =>
      unfold Fz at h; subst h
      have e : (if s.length ≤ 16777216 then some ((s.length : Int) != 0) else none) = some b := e
      by_cases hl : s.length ≤ 16777216
      · rw [if_pos hl] at e
        cases e
        refine ⟨?_, rfl⟩
        rw [sizeLine_eq]; exact hl
      · rw [if_neg hl] at e; cases e
    | list ds =>
      unfold Fz at h
      obtain ⟨a, xs, rfl, f, g⟩ := h
      cases e
      exact .inl ⟨xs, f.sq, (FzAll.isEmpty g).symm⟩
    | tuple ds =>
      unfold Fz at h
      obtain ⟨a, xs, rfl, f, g⟩ := h
      cases e
      exact .inr (.inl ⟨xs, f.sq, (FzAll.isEmpty g).symm⟩)
    | dict kvs => cases e
  | lst os =>
    unfold Rep at h
    obtain ⟨a, xs, rfl, _, ha, r⟩ := h
    cases e
    exact .inl ⟨xs, .of ha, (RepL.isEmpty r).symm⟩
  | dct kvs =>
    unfold Rep at h
    obtain ⟨a, u, es, rfl, _, ha, ⟨ks, rfl, rfl⟩, r⟩ := h
    cases e
    refine .inr (.inr ⟨ks, ha, ?_⟩)
    rw [← RepK.isEmpty r]
    cases ks <;> rfl
theorem Post.none {H0 H1 : Hp} {F0 F1 R : Rg} (p : Post H0 F0 H1 F1 R) : Post H0 F0 H1 F1 fun _ => False := p.mono fun _ z => z.elim
/-- a value's truth -/
theorem tT_of {f : EF} {p : Bool} {Q : Bool → Hp → Prop} (h : tT K (cOf f) σ H Q) : tE K f p σ H fun x H1 => ∃ k, TruV K x H1 k ∧ Q k H1 := by
  obtain ⟨e, F, b, e', t, hE, hf, k⟩ := h
  unfold cOf at hf
  obtain ⟨⟨w, e1⟩, h1, hf⟩ := Rs.bind_ok hf
  obtain ⟨o, h2, hf⟩ := Rs.bind_ok hf
  obtain ⟨c, h3, hf⟩ := Rs.bind_ok hf
  cases hf
  refine ⟨e, F, w, _, t, hE, h1, fun v H1 F1 R1 a d P _ => ⟨b, rep_tru (d.rep a (Rs.of_ok h2)) (Rs.of_ok h3), k H1 F1 a P.none⟩⟩
theorem tT_mono {c : TF} {Q Q' : Bool → Hp → Prop} (h : tT K c σ H Q) (m : ∀ b H', Q b H' → Q' b H') : tT K c σ H Q' := by
  obtain ⟨e, F, b, e', t, hE, hf, k⟩ := h
  exact ⟨e, F, b, e', t, hE, hf, fun H1 F1 a p => m _ _ (k H1 F1 a p)⟩
theorem tT_not {c : TF} {Q : Bool → Hp → Prop} (h : tT K (cNot c) σ H Q) : tT K c σ H fun b H1 => Q (!b) H1 := by
  obtain ⟨e, F, b, e', t, hE, hf, k⟩ := h
  unfold cNot at hf
  obtain ⟨⟨b1, e1⟩, h1, hf⟩ := Rs.bind_ok hf
  cases hf
  exact ⟨e, F, b1, _, t, hE, h1, fun H1 F1 a p => k H1 F1 a p⟩
theorem tT_and {c d : TF} {Q : Bool → Hp → Prop} (h : tT K (cAnd c d) σ H Q) : L2.tAnd (tT K c) (tT K d) σ H Q := by
  obtain ⟨e, F, b, e', t, hE, hf, k⟩ := h
  unfold cAnd at hf
  obtain ⟨⟨b1, e1⟩, h1, hf⟩ := Rs.bind_ok hf
  refine ⟨e, F, b1, _, t, hE, h1, fun H1 F1 a p => ?_⟩
  cases b1 with
  | true =>
    simp only [if_true] at hf ⊢
    exact ⟨e1, F1, b, e', p.trkF, a, hf, fun H2 F2 a2 p2 => k H2 F2 a2 (p.trans p2).none⟩
  | false =>
    cases hf
    exact k H1 F1 a p
theorem tT_or {c d : TF} {Q : Bool → Hp → Prop} (h : tT K (cOr c d) σ H Q) : L2.tOr (tT K c) (tT K d) σ H Q := by
  obtain ⟨e, F, b, e', t, hE, hf, k⟩ := h
  unfold cOr at hf
  obtain ⟨⟨b1, e1⟩, h1, hf⟩ := Rs.bind_ok hf
  refine ⟨e, F, b1, _, t, hE, h1, fun H1 F1 a p => ?_⟩
  cases b1 with
  | false =>
    simp only [Bool.false_eq_true, if_false] at hf ⊢
    exact ⟨e1, F1, b, e', p.trkF, a, hf, fun H2 F2 a2 p2 => k H2 F2 a2 (p.trans p2).none⟩
  | true =>
    cases hf
    exact k H1 F1 a p
/-- one value behind another, whose place may hold it -/
theorem tE_seq {H0 : Hp} {F0 : Rg} {f : EF} {q : Bool} {e : Env} {F : Rg} {w : W} {e' : Env} {Q : VK} {R0 : Rg} (hE : RepE K H e σ F) (p : Post H0 F0 H F R0) (hf : f e = .ok (w, e'))
    (k : ∀ v H' (F' R : Rg), RepE K H' e' σ F' → RepW K H' σ e' w v R → Post H0 F0 H' F' R → Q v H') : tE K f q σ H Q :=
  ⟨e, F, w, e', p.trkF, hE, hf, fun v H1 F1 R1 a b c d => k v H1 F1 R1 a b ((p.trans c).mono fun _ z => .inr z)⟩
theorem tE_ifx {c : TF} {f g : EF} {p q r : Bool} {Q : VK} (h : tE K (eIfx c f g) false σ H Q) : L2.tIf (tT K c) (tE K f p) (tE K g q) σ H Q := by
  obtain ⟨e, F, w, e', t, hE, hf, k⟩ := h
  unfold eIfx at hf
  obtain ⟨⟨b1, e1⟩, h1, hf⟩ := Rs.bind_ok hf
  refine ⟨e, F, b1, _, t, hE, h1, fun H1 F1 a P => ?_⟩
  cases b1 with
  | true =>
    simp only [if_true] at hf ⊢
    exact tE_seq a P hf fun v H2 F2 R2 x y z => k v H2 F2 R2 x y z (fun z => nomatch z)
  | false =>
    simp only [Bool.false_eq_true, if_false] at hf ⊢
    exact tE_seq a P hf fun v H2 F2 R2 x y z => k v H2 F2 R2 x y z (fun z => nomatch z)
theorem tE_and {f g : EF} {p q : Bool} {Q : VK} (h : tE K (eAnd f g) false σ H Q) : tAndT K (tE K f p) (tE K g q) σ H Q := by
  obtain ⟨e, F, w, e', t, hE, hf, k⟩ := h
  unfold eAnd at hf
  obtain ⟨⟨w1, e1⟩, h1, hf⟩ := Rs.bind_ok hf
  obtain ⟨b, h2, hf⟩ := Rs.bind_ok hf
  obtain ⟨o, c1, c2⟩ := Option.bind_eq_some_iff.mp (Rs.of_ok h2)
  refine ⟨e, F, w1, _, t, hE, h1, fun v H1 F1 R1 a d P _ => ⟨b, rep_tru (d.rep a c1) c2, ?_⟩⟩
  cases b with
  | true =>
    simp only [if_true] at hf ⊢
    exact tE_seq a P hf fun v H2 F2 R2 x y z => k v H2 F2 R2 x y z (fun z => nomatch z)
  | false =>
    cases hf
    exact k v H1 F1 R1 a d P (fun z => nomatch z)
theorem tE_or {f g : EF} {p q : Bool} {Q : VK} (h : tE K (eOr f g) false σ H Q) : tOrT K (tE K f p) (tE K g q) σ H Q := by
  obtain ⟨e, F, w, e', t, hE, hf, k⟩ := h
  unfold eOr at hf
  obtain ⟨⟨w1, e1⟩, h1, hf⟩ := Rs.bind_ok hf
  obtain ⟨b, h2, hf⟩ := Rs.bind_ok hf
  obtain ⟨o, c1, c2⟩ := Option.bind_eq_some_iff.mp (Rs.of_ok h2)
  refine ⟨e, F, w1, _, t, hE, h1, fun v H1 F1 R1 a d P _ => ⟨b, rep_tru (d.rep a c1) c2, ?_⟩⟩
  cases b with
  | false =>
    simp only [Bool.false_eq_true, if_false] at hf ⊢
    exact tE_seq a P hf fun v H2 F2 R2 x y z => k v H2 F2 R2 x y z (fun z => nomatch z)
  | true =>
    cases hf
    exact k v H1 F1 R1 a d P (fun z => nomatch z)
theorem tE_notT {c : EF} {p : Bool} {Q : VK} (h : tE K (eOfC (cNot (cOf c))) false σ H Q) : tNotT K (tE K c p) σ H Q := by
  obtain ⟨e, F, w, e', t, hE, hf, k⟩ := h
  unfold eOfC at hf
  obtain ⟨⟨b1, e1⟩, h1, hf⟩ := Rs.bind_ok hf
  cases hf
  refine tT_of (K := K) (Q := fun b H1 => Q (.bl (!b)) H1) (tT_not (Q := fun b H1 => Q (.bl b) H1) ⟨e, F, b1, _, t, hE, h1, fun H1 F1 a P => ?_⟩)
  exact k (.bl b1) H1 F1 (fun _ => False) a (by show Fz K H1 (.bool b1) _; unfold Fz; rfl) P (fun z => nomatch z)
/-- the chain's readings -/
theorem tE_chain {F G : List O → Rs O} {f g h : EF} {p q r : Bool} {Q : VK} (hh : tE K (eChain F G (lTwo f q g) r h) false σ H Q) :
    tChain (fun x y H Q => opWish K F [x, y] H Q) (fun x y H Q => opWish K G [x, y] H Q) (tE K f p) (tE K g q) (tE K h r) σ H Q := by
  obtain ⟨e, Fr, w, e', t, hE, hf, k⟩ := hh
  unfold eChain at hf
  obtain ⟨⟨ws, e1⟩, h1, hf⟩ := Rs.bind_ok hf
  obtain ⟨os, h2, hf⟩ := Rs.bind_ok hf
  obtain ⟨o, h3, hf⟩ := Rs.bind_ok hf
  have h2 := Rs.of_ok h2
  refine tL_two (p := p) (Q := fun vs H1 => ∃ x y, vs = [x, y] ∧ opWish K F [x, y] H1 fun z H3 => ∃ k, z = .bl k ∧ (if k = true then tE K h r σ H3 fun w' H4 => opWish K G [y, w'] H4 Q else Q (.bl false) H3)) ?_ |> fun z =>
    tE_mono z fun x H1 a => tE_mono a fun y H2 ⟨x', y', e0, b⟩ => by cases e0; exact b
  refine ⟨e, Fr, ws, e1, t, hE, h1, fun vs H1 F1 R1 a d P pu => ?_⟩
  -- two of them
  cases ws with
  | nil => cases hf
  | cons w1 ws =>
  cases ws with
  | nil => cases hf
  | cons w2 ws =>
  cases ws with
  | cons w3 ws => split at hf <;> simp_all
  | nil =>
  obtain ⟨x, vs', G1, rfl, d1, y, vs'', G2, rfl, d2, d3⟩ := id d
  have d3 : vs'' = [] := d3
  subst d3
  refine ⟨x, y, rfl, os, _, o, reps_of a d h2, h3, fun z H2 R2 rz fr => ?_⟩
  have P2 := fr.post P.trkF
  have a2 : RepE K H2 e1 σ F1 := RepE.frame P2.keep (fun b u _ e => fr.same b u e) a
  cases o with
  | hole => cases hf
  | lst l => cases hf
  | dct l => cases hf
  | val dd =>
  cases dd with
  | none => cases hf
  | int i => cases hf
  | str i => cases hf
  | list i => cases hf
  | tuple i => cases hf
  | dict i => cases hf
  | bool bb =>
  have rz : z = .bl _ := rep_bl rz
  subst rz
  cases bb with
  | true =>
    obtain ⟨_, c1, hf⟩ := Rs.bind_ok hf
    obtain ⟨⟨w3, e2⟩, c2, hf⟩ := Rs.bind_ok hf
    obtain ⟨os2, c3, hf⟩ := Rs.bind_ok hf
    obtain ⟨o2, c4, hf⟩ := Rs.bind_ok hf
    have c3 := Rs.of_ok c3
    have c1 := Rs.chk_ok c1
    refine ⟨true, rfl, ?_⟩
    rw [if_pos rfl]
    have P12 := P.trans P2
    refine ⟨e1, F1, w3, _, P12.trkF, a2, c2, fun v3 H3 F3 R3 a3 d4 P3 pu3 => ?_⟩
    have y1 : RepW K H2 σ e1 w2 y (fun b => (R1 b ∧ ¬ G1 b) ∧ G2 b) := by
      cases w2 with
      | val _ => exact Fz.keep P2.keep _ _ d2
      | own _ => exact Rep.frame P2.keep _ _ _ (fun b u _ e => fr.same b u e) d2
      | «at» i s => exact ⟨d2.1.same fr.same, d2.2⟩
    have y2 := y1.later (P12.mono (R' := fun b => (R1 b ∧ ¬ G1 b) ∧ G2 b) fun b z => .inl z.1.1) P3 pu3 c1
    have rws : RepWs K H3 σ e2 [w2, w3] [y, v3] _ := RepWs.cons y2 (RepWs.cons d4 (R2 := fun _ => False) rfl fun _ _ z => z) fun b z z2 => P12.apart P3 b (.inl z.1.1) (z2.elim id False.elim)
    refine ⟨os2, _, o2, reps_of a3 rws c3, c4, fun v4 H4 R4 r4 fr4 => ?_⟩
    have P4 := fr4.post P3.trkF
    cases hf
    exact k v4 H4 F3 R4 (RepE.frame P4.keep (fun b u _ e => fr4.same b u e) a3) (.mk r4) (((P12.trans P3).trans P4).mono fun b z => .inr z) (fun z => nomatch z)
  | false =>
    cases hf
    refine ⟨false, rfl, ?_⟩
    rw [if_neg Bool.false_ne_true]
    exact k (.bl false) H2 F1 (fun _ => False) a2 (by show Fz K H2 (.bool false) _; unfold Fz; rfl) (P.trans P2).none (fun z => nomatch z)
end
section
variable {X : Cx} {ex a b c : Expr} {f g h : EF} {p q r : Bool} {s t : TF} {pos : Pos} {rest : List Expr}
theorem evt_of (ha : EvE X ex f p) (he : ∀ whole, isTrue ex X.env whole = (do let v ← whole; standAt ex.pos; holding [v] (truthy v))) : EvT X ex (cOf f) := ⟨pt_imp (pt_truth ha.run he) fun _ _ _ h => tT_of h⟩
theorem EvW.pt (h : EvW X ex s) : EvT X ex s := ⟨h.run.pt⟩
theorem evt_not (h : EvT X a s) : EvT X (.UnaryOp .Not a pos) (cNot s) := ⟨pt_imp (pt_not h.run) fun _ _ _ h => tT_not h⟩
theorem evw_and1 (h : EvT X a s) : EvW X (.BoolOp .And [a] pos) s := ⟨pw_and1 h.run⟩
theorem evw_or1 (h : EvT X a s) : EvW X (.BoolOp .Or [a] pos) s := ⟨pw_or1 h.run⟩
theorem evw_and (h : EvT X a s) (k : EvW X (.BoolOp .And (b :: rest) pos) t) : EvW X (.BoolOp .And (a :: b :: rest) pos) (cAnd s t) := ⟨pw_imp (pw_and h.run k.run) fun _ _ _ h => tT_and h⟩
theorem evw_or (h : EvT X a s) (k : EvW X (.BoolOp .Or (b :: rest) pos) t) : EvW X (.BoolOp .Or (a :: b :: rest) pos) (cOr s t) := ⟨pw_imp (pw_or h.run k.run) fun _ _ _ h => tT_or h⟩
theorem tT_cmp {K : PySem.W.Frag} {F : List O → Rs O} {σ : L2.St} {H : Hp} {Q : Bool → Hp → Prop} (h : tT K (cB (eOp F (lTwo f q g))) σ H Q) : tTest (tOp (fun x y H Q => opWish K F [x, y] H Q) (tE K f p) (tE K g q)) σ H Q := by
  refine tL_two (tE_op (K := K) (p := p && q) (Q := fun x H' => ∃ k, x = .bl k ∧ Q k H') ?_)
  obtain ⟨e, Fr, b, e', t, hE, hf, k⟩ := h
  unfold cB at hf
  obtain ⟨⟨w, e1⟩, h1, hf⟩ := Rs.bind_ok hf
  dsimp only at hf
  split at hf
  · cases hf
    refine ⟨e, Fr, _, _, t, hE, h1, fun v H1 F1 R1 a d P _ => ⟨b, ?_, k H1 F1 a P.none⟩⟩
    have d : Fz K H1 (.bool b) v := d
    unfold Fz at d
    exact d
  · cases hf
theorem evt_cmp {op : CmpOp} {F : List O → Rs O} (ho : OpD X (compareOp op) F) (ha : EvE X a f p) (hb : EvE X b g q) (hm : behindInMarks op b = false) : EvT X (.Compare a [op] [b] pos) (cB (eOp F (lTwo f q g))) :=
  ⟨pt_imp (pt_cmpR ho ha.run hb.run hm) fun _ _ _ h => tT_cmp h⟩
theorem eve_ifx (hc : EvT X c s) (ha : EvE X a f p) (hb : EvE X b g q) : EvE X (.IfExp c a b pos) (eIfx s f g) false := ⟨pe_imp (pe_ifExp hc.run ha.run hb.run) fun _ _ _ h => tE_ifx (r := false) h⟩
theorem eve_one {op} (ha : EvE X a f p) : EvE X (.BoolOp op [a] pos) f p := ⟨pe_one ha.run⟩
theorem eve_and (ha : EvE X a f p) (hb : EvE X (.BoolOp .And (b :: rest) pos) g q) : EvE X (.BoolOp .And (a :: b :: rest) pos) (eAnd f g) false := ⟨pe_imp (pe_andT ha.run hb.run) fun _ _ _ h => tE_and h⟩
theorem eve_or (ha : EvE X a f p) (hb : EvE X (.BoolOp .Or (b :: rest) pos) g q) : EvE X (.BoolOp .Or (a :: b :: rest) pos) (eOr f g) false := ⟨pe_imp (pe_orT ha.run hb.run) fun _ _ _ h => tE_or h⟩
theorem eve_not (ha : EvE X a f p) : EvE X (.UnaryOp .Not a pos) (eOfC (cNot (cOf f))) false := ⟨pe_imp (pe_notT ha.run) fun _ _ _ h => tE_notT h⟩
theorem eve_chain {op op' : CmpOp} {F G : List O → Rs O} (ho : OpD X (compareOp op) F) (ho' : OpD X (compareOp op') G) (ha : EvE X a f p) (hb : EvE X b g q) (hc : EvE X c h r) (hm : lastMarks [op, op'] [b, c] = false) :
    EvE X (.Compare a [op, op'] [b, c] pos) (eChain F G (lTwo f q g) r h) false := ⟨pe_imp (pe_chain ho ho' ha.run hb.run hc.run hm) fun _ _ _ h => tE_chain h⟩
theorem tT_chain {K : PySem.W.Frag} {F G : List O → Rs O} {σ : L2.St} {H : Hp} {Q : Bool → Hp → Prop} (hh : tT K (cB (eChain F G (lTwo f q g) r h)) σ H Q) :
    tTest (tChain (fun x y H Q => opWish K F [x, y] H Q) (fun x y H Q => opWish K G [x, y] H Q) (tE K f p) (tE K g q) (tE K h r)) σ H Q := by
  refine tE_chain (K := K) (Q := fun x H' => ∃ k, x = .bl k ∧ Q k H') ?_
  obtain ⟨e, Fr, b, e', t, hE, hf, k⟩ := hh
  unfold cB at hf
  obtain ⟨⟨w, e1⟩, h1, hf⟩ := Rs.bind_ok hf
  dsimp only at hf
  split at hf
  · cases hf
    refine ⟨e, Fr, _, _, t, hE, h1, fun v H1 F1 R1 a d P _ => ⟨b, ?_, k H1 F1 a P.none⟩⟩
    have d : Fz K H1 (.bool b) v := d
    unfold Fz at d
    exact d
  · cases hf
theorem evt_chain {op op' : CmpOp} {F G : List O → Rs O} (ho : OpD X (compareOp op) F) (ho' : OpD X (compareOp op') G) (ha : EvE X a f p) (hb : EvE X b g q) (hc : EvE X c h r) (hm : lastMarks [op, op'] [b, c] = false) :
    EvT X (.Compare a [op, op'] [b, c] pos) (cB (eChain F G (lTwo f q g) r h)) := ⟨pt_imp (pt_chain ho ho' ha.run hb.run hc.run hm) fun _ _ _ h => tT_chain h⟩
end
end Ev

set_option Elab.async false
set_option linter.all false
set_option maxRecDepth 100000
/-! Ev: statements. -/
namespace Ev
open PySem PySem.Spec PyProof.Rows L2
/-- the slots of pb are as they were -/
def Keeps (pb : List Nat) (σ σ' : L2.St) : Prop := ∀ i ∈ pb, σ'[i]? = σ[i]?
theorem Keeps.refl {pb : List Nat} {σ : L2.St} : Keeps pb σ σ := fun _ _ => rfl
theorem Keeps.trans {pb : List Nat} {σ σ1 σ2 : L2.St} (a : Keeps pb σ σ1) (b : Keeps pb σ1 σ2) : Keeps pb σ σ2 := fun i h => (b i h).trans (a i h)
/-- only these slots are changed -/
def Only (is : List Nat) (σ σ' : L2.St) : Prop := σ'.length = σ.length ∧ ∀ i, i ∉ is → σ'[i]? = σ[i]?
theorem Only.refl {is : List Nat} {σ : L2.St} : Only is σ σ := ⟨rfl, fun _ _ => rfl⟩
theorem Only.trans {is js : List Nat} {σ σ1 σ2 : L2.St} (a : Only is σ σ1) (b : Only js σ1 σ2) : Only (is ++ js) σ σ2 := ⟨b.1.trans a.1, fun i h => by
  rw [List.mem_append, not_or] at h
  exact (b.2 i h.2).trans (a.2 i h.1)⟩
theorem Only.set {i : Nat} {σ : L2.St} {v : Option V} : Only [i] σ (σ.set i v) := ⟨List.length_set, fun j h => by
  rw [List.getElem?_set_ne]
  rintro rfl
  exact h (by simp)⟩
theorem Only.keeps {is pb : List Nat} {σ σ' : L2.St} (a : Only is σ σ') (h : ∀ i ∈ is, i ∉ pb) : Keeps pb σ σ' := fun i q => a.2 i fun z => h i z q

def Kont (K : PySem.W.Frag) (pb : List Nat) (D : Ends) (σ : L2.St) (H : Hp) (F : Rg) (e' : Env) : Fl → Prop
  | .nx => ∀ σ' H' (F' : Rg), Keeps pb σ σ' → RepE K H' e' σ' F' → Post H F H' F' (fun _ => False) → D.nx σ' H'
  | .bk => ∀ σ' H' (F' : Rg), Keeps pb σ σ' → RepE K H' e' σ' F' → Post H F H' F' (fun _ => False) → D.bk σ' H'
  | .ct => ∀ σ' H' (F' : Rg), Keeps pb σ σ' → RepE K H' e' σ' F' → Post H F H' F' (fun _ => False) → D.ct σ' H'
  | .rt o => ∀ v σ' H' (F' R : Rg), Keeps pb σ σ' → RepE K H' e' σ' F' → Rep K H' o v R → Post H F H' F' R → D.rt v H'
def tS (K : PySem.W.Frag) (pb : List Nat) (s : SF) : TS := fun D σ H => ∃ e, ∃ F : Rg, ∃ fl e', Trk H F ∧ RepE K H e σ F ∧ s e = .ok (fl, e') ∧ Kont K pb D σ H F e' fl
structure EvS (X : Cx) (pb : List Nat) (st : Stmt) (s : SF) : Prop where
  run : PS X st (tS X.K pb s)
structure EvSs (X : Cx) (pb : List Nat) (st : List Stmt) (s : SF) : Prop where
  run : PSs X st (tS X.K pb s)
section
variable {X : Cx} {K : PySem.W.Frag} {σ σ1 : L2.St} {H H1 : Hp} {pb : List Nat}
theorem Kont.later {D : Ends} {F F1 R : Rg} {e' : Env} {fl : Fl} (k : Keeps pb σ σ1) (P : Post H F H1 F1 R) (h : Kont K pb D σ H F e' fl) : Kont K pb D σ1 H1 F1 e' fl := by
  cases fl with
  | nx => exact fun σ' H' F' a b c => h σ' H' F' (k.trans a) b (P.trans c).none
  | bk => exact fun σ' H' F' a b c => h σ' H' F' (k.trans a) b (P.trans c).none
  | ct => exact fun σ' H' F' a b c => h σ' H' F' (k.trans a) b (P.trans c).none
  | rt o => exact fun v σ' H' F' R a b d c => h v σ' H' F' R (k.trans a) b d ((P.trans c).mono fun _ z => .inr z)
theorem tS_seq {s t : SF} {D : Ends} (h : tS K pb (sSeq s t) D σ H) : tSeq (tS K pb s) (tS K pb t) D σ H := by
  obtain ⟨e, F, fl, e', tr, hE, hf, k⟩ := h
  unfold sSeq at hf
  obtain ⟨⟨f1, e1⟩, h1, hf⟩ := Rs.bind_ok hf
  cases f1 with
  | nx => exact ⟨e, F, .nx, e1, tr, hE, h1, fun σ' H' F' kp hE' P => ⟨e1, F', fl, e', P.trkF, hE', hf, k.later kp P⟩⟩
  | bk => cases hf; exact ⟨e, F, .bk, _, tr, hE, h1, k⟩
  | ct => cases hf; exact ⟨e, F, .ct, _, tr, hE, h1, k⟩
  | rt o => cases hf; exact ⟨e, F, .rt o, _, tr, hE, h1, k⟩
theorem tS_nx {D : Ends} (h : tS K pb sNx D σ H) : tNext D σ H := by
  obtain ⟨e, F, fl, e', tr, hE, hf, k⟩ := h
  cases hf
  exact k σ H F .refl hE (.refl tr)
theorem tS_bk {D : Ends} (h : tS K pb sBk D σ H) : tBreak D σ H := by
  obtain ⟨e, F, fl, e', tr, hE, hf, k⟩ := h
  cases hf
  exact k σ H F .refl hE (.refl tr)
theorem tS_ct {D : Ends} (h : tS K pb sCt D σ H) : tCont D σ H := by
  obtain ⟨e, F, fl, e', tr, hE, hf, k⟩ := h
  cases hf
  exact k σ H F .refl hE (.refl tr)
theorem tS_exp {f : EF} {p : Bool} {D : Ends} (h : tS K pb (sExp f) D σ H) : tDrop (tE K f p) D σ H := by
  obtain ⟨e, F, fl, e', tr, hE, hf, k⟩ := h
  unfold sExp at hf
  obtain ⟨⟨w, e1⟩, h1, hf⟩ := Rs.bind_ok hf
  cases hf
  exact ⟨e, F, w, _, tr, hE, h1, fun v H' F' R a b P _ => k σ H' F' .refl a P.none⟩
theorem tS_if {c : TF} {s t : SF} {D : Ends} (h : tS K pb (sIf c s t) D σ H) : tIfS (tT K c) (tS K pb s) (tS K pb t) D σ H := by
  obtain ⟨e, F, fl, e', tr, hE, hf, k⟩ := h
  unfold sIf at hf
  obtain ⟨⟨b, e1⟩, h1, hf⟩ := Rs.bind_ok hf
  refine ⟨e, F, b, e1, tr, hE, h1, fun H1 F1 a P => ?_⟩
  cases b with
  | true => exact ⟨e1, F1, fl, e', P.trkF, a, hf, k.later .refl P⟩
  | false => exact ⟨e1, F1, fl, e', P.trkF, a, hf, k.later .refl P⟩
/-- an owned thing leaves its slot -/
theorem takeW_ok {e e' : Env} {F R : Rg} {w : W} {v : V} {o : O} (hE : RepE K H e σ F) (hW : RepW K H σ e w v R) (dis : ∀ b, F b → R b → False) (hs : takeW w e = .ok (o, e')) :
    ∃ G : Rg, (∀ b, G b → F b ∨ R b) ∧ RepE K H e' σ (fun b => F b ∧ ¬ G b) ∧ Rep K H o v G := by
  cases w with
  | val d => cases hs; exact ⟨fun _ => False, fun _ z => z.elim, RepE.mono (fun b q => ⟨q, id⟩) hE, by unfold Rep; exact hW⟩
  | own o' => cases hs; exact ⟨R, fun _ z => .inr z, RepE.mono (fun b q => ⟨q, fun z => dis b q z⟩) hE, hW⟩
  | «at» i p =>
    unfold takeW at hs
    obtain ⟨c, h1, hs⟩ := Rs.bind_ok hs
    have h1 := Rs.of_ok h1
    cases hs
    by_cases n : isOwn o = true
    · rw [if_pos n]
      obtain ⟨x, G, p1, p2, p3⟩ := hE.pathOut h1 n
      have ex : v = x := by
        obtain ⟨a, q1, q2⟩ := hW.1
        obtain ⟨b, r1, r2⟩ := p1
        rw [q1] at r1; cases r1
        exact q2.inj r2
      subst ex
      exact ⟨fun b => F b ∧ G b, fun _ z => .inl z.1, RepE.mono (fun b q => ⟨q.1, fun z => q.2 z.2⟩) p3, p2⟩
    · rw [if_neg n]
      have rep := hW.rep hE (o := o) h1
      refine ⟨fun _ => False, fun _ z => z.elim, RepE.mono (fun b q => ⟨q, id⟩) hE, ?_⟩
      cases o with
      | hole => unfold Rep; trivial
      | val d => unfold Rep at rep ⊢; exact rep
      | lst l => exact absurd rfl n
      | dct l => exact absurd rfl n
theorem tS_ret {f : EF} {p : Bool} {D : Ends} (h : tS K pb (sRet f) D σ H) : tRet (tE K f p) D σ H := by
  obtain ⟨e, F, fl, e', tr, hE, hf, k⟩ := h
  unfold sRet at hf
  obtain ⟨⟨w, e1⟩, h1, hf⟩ := Rs.bind_ok hf
  obtain ⟨⟨o, e2⟩, h2, hf⟩ := Rs.bind_ok hf
  cases hf
  refine ⟨e, F, w, _, tr, hE, h1, fun v H' F' R a b P _ => ?_⟩
  obtain ⟨G, g1, g2, g3⟩ := takeW_ok a b P.dis h2
  refine k v σ H' _ G .refl g2 g3 ⟨P.keep, P.frm, fun b h => ?_, fun b f r => f.2 r, fun b h => ?_⟩
  · rcases h with h | h
    · exact P.new b (.inl h.1)
    · exact P.new b (g1 b h)
  · rcases h with h | h
    · exact P.trk b (.inl h.1)
    · exact P.trk b (g1 b h)
theorem tS_retN {D : Ends} (h : tS K pb sRetN D σ H) : tRetN D σ H := by
  obtain ⟨e, F, fl, e', tr, hE, hf, k⟩ := h
  cases hf
  exact k .non σ H F (fun _ => False) .refl hE (by unfold Rep Fz; rfl) (.refl tr)
theorem setN_ok {i : Nat} {o : O} {e e' : Env} {F R : Rg} {v : V} (hs : setN pb i o e = .ok e') (hE : RepE K H e σ F) (hr : Rep K H o v R) (d : ∀ b, F b → R b → False) :
    i ∉ pb ∧ RepE K H e' (σ.set i (some v)) (fun b => F b ∨ R b) := by
  unfold setN at hs
  obtain ⟨_, h1, hs⟩ := Rs.bind_ok hs
  cases hs
  have h1 := Rs.chk_ok h1
  refine ⟨by simpa using h1, ?_⟩
  exact RepE.put (RepE.drop i hE) hr d
theorem tS_asg {i : Nat} {f : EF} {p : Bool} {D : Ends} (h : tS K pb (sAsg pb i f) D σ H) : tE K f p σ H fun x H1 => Frzs (fun H2 => D.nx (σ.set i (some x)) H2) H1 := by
  obtain ⟨e, F, fl, e', tr, hE, hf, k⟩ := h
  unfold sAsg at hf
  obtain ⟨⟨w, e1⟩, h1, hf⟩ := Rs.bind_ok hf
  obtain ⟨⟨o, e2⟩, h2, hf⟩ := Rs.bind_ok hf
  obtain ⟨e3, h3, hf⟩ := Rs.bind_ok hf
  cases hf
  refine ⟨e, F, w, _, tr, hE, h1, fun v H' F' R a b P _ => ?_⟩
  refine storeW_ok a b P.dis h2 fun H2 S sF fz hE2 hr _ => .now ?_
  have dis : ∀ b, (F' b ∧ ¬ S b) → R b → False := fun b q r => P.dis b q.1 r
  obtain ⟨ni, hE3⟩ := setN_ok h3 hE2 hr dis
  have P2 : Post H F H2 (fun b => F' b ∧ ¬ S b) R := P.frz (fz.rel.mono fun b q => .inl (sF b q)) (fun b q => q.1) fun _ q => q
  refine k _ H2 _ (Only.set.keeps (by simpa using ni)) hE3 ⟨P2.keep, P2.frm, fun b h => ?_, fun b f r => r, fun b h => ?_⟩
  · rcases h with h | h
    · exact P2.new b h
    · exact h.elim
  · rcases h with h | h
    · exact P2.trk b h
    · exact h.elim
end
section
variable {X : Cx} {pb : List Nat} {st : Stmt} {rest : List Stmt} {s t : SF} {e c : Expr} {f : EF} {p : Bool} {tc : TF} {pos : Pos} {a b : List Stmt}
theorem evs_nil : EvSs X pb [] sNx := ⟨pss_imp pss_nil fun _ _ _ h => tS_nx h⟩
theorem evs_cons (h : EvS X pb st s) (k : EvSs X pb rest t) : EvSs X pb (st :: rest) (sSeq s t) := ⟨pss_imp (pss_cons h.run k.run) fun _ _ _ h => tS_seq h⟩
theorem evs_one (h : EvS X pb st s) : EvSs X pb [st] s := ⟨pss_one h.run⟩
theorem evs_pass : EvS X pb (.Pass pos) sNx := ⟨ps_imp ps_pass fun _ _ _ h => tS_nx h⟩
theorem evs_break : EvS X pb (.Break pos) sBk := ⟨ps_imp ps_break fun _ _ _ h => tS_bk h⟩
theorem evs_continue : EvS X pb (.Continue pos) sCt := ⟨ps_imp ps_continue fun _ _ _ h => tS_ct h⟩
theorem evs_doc {x : Str} {j : Nat} {pos pos' : Pos} : EvS X pb (.Expr (.Constant (.str x) j pos) pos') sNx := ⟨ps_imp ps_doc fun _ _ _ h => tS_nx h⟩
theorem evs_expr (he : EvE X e f p) (hs : swapsWith e none pos.line X.env = pure false) : EvS X pb (.Expr e pos) (sExp f) := ⟨ps_imp (ps_expr he.run hs) fun _ _ _ h => tS_exp h⟩
theorem evs_ret (he : EvE X e f p) : EvS X pb (.Return (some e) pos) (sRet f) := ⟨ps_imp (ps_ret he.run) fun _ _ _ h => tS_ret h⟩
theorem evs_retN : EvS X pb (.Return none pos) sRetN := ⟨ps_imp ps_retN fun _ _ _ h => tS_retN h⟩
theorem evs_if (hc : EvT X c tc) (ha : EvSs X pb a s) (hb : EvSs X pb b t) : EvS X pb (.If c a b pos) (sIf tc s t) := ⟨ps_imp (ps_if hc.run ha.run hb.run) fun _ _ _ h => tS_if h⟩
theorem evs_asg {i : Nat} {x : Str} {pos' : Pos} (hN : X.N.Nodup) (hi : X.N[i]? = some x) (hx : Loc X.env.scope x) (he : EvE X e f p) (hs : swapsWith e (some (.Name x pos')) pos.line X.env = pure false) (hf : X.fn x = true ∨ X.env.scope.names.lookup x = some .local) :
    EvS X pb (.Assign [.Name x pos'] e pos) (sAsg pb i f) := ⟨ps_imp (ps_set hN hi hx (pe_frzs he.run) hs hf) fun _ _ _ h => by
  exact tS_asg h⟩
end
end Ev

set_option Elab.async false
set_option linter.all false
set_option maxRecDepth 100000
/-! Ev: several names at once, patterns, subscript stores. -/
namespace Ev
open PySem PySem.Spec PyProof.Rows L2
def setAll (σ : L2.St) : List Nat → List V → L2.St
  | i :: is, v :: vs => setAll (σ.set i (some v)) is vs
  | _, _ => σ
def Pat.slots : Pat → List Nat
  | .nm i => [i]
  | .tup ps => slotsL ps
where slotsL : List Pat → List Nat
  | [] => []
  | p :: ps => Pat.slots p ++ slotsL ps
section
variable {X : Cx} {K : PySem.W.Frag} {σ σ1 : L2.St} {H H1 : Hp} {pb : List Nat}
theorem setNs_ok : ∀ {is : List Nat} {os : List O} {e e' : Env} {F R : Rg} {vs : List V} {σ : L2.St}, setNs pb is os e = .ok e' → RepE K H e σ F → RepL K H os vs R → (∀ b, F b → R b → False) →
    vs.length = is.length ∧ (∀ i ∈ is, i ∉ pb) ∧ RepE K H e' (setAll σ is vs) (fun b => F b ∨ R b)
  | [], [], e, e', F, R, vs, σ, hs, hE, hL, d => by
    cases hs
    unfold RepL at hL
    subst hL
    exact ⟨rfl, by simp, RepE.mono (fun b q => .inl q) hE⟩
  | [], o :: os, e, e', F, R, vs, σ, hs, hE, hL, d => by cases hs
  | i :: is, [], e, e', F, R, vs, σ, hs, hE, hL, d => by cases hs
  | i :: is, o :: os, e, e', F, R, vs, σ, hs, hE, hL, d => by
    unfold setNs at hs
    obtain ⟨e1, h1, hs⟩ := Rs.bind_ok hs
    unfold RepL at hL
    obtain ⟨x, r, G, rfl, k1, k2⟩ := hL
    obtain ⟨n1, hE1⟩ := setN_ok h1 hE k1 fun b f q => d b f q.1
    obtain ⟨l2, n2, hE2⟩ := setNs_ok hs hE1 k2 fun b f q => f.elim (fun f => d b f q.1) fun f => q.2 f.2
    refine ⟨by simp [l2], fun j hj => ?_, RepE.mono (fun b q => ?_) hE2⟩
    · rcases List.mem_cons.mp hj with e | e
      · rw [e]; exact n1
      · exact n2 j e
    · rcases q with (q | q) | q
      · exact .inl q
      · exact .inr q.1
      · exact .inr q.1
theorem setAll_only : ∀ {is : List Nat} {vs : List V} {σ : L2.St}, Only is σ (setAll σ is vs)
  | [], _, _ => .refl
  | _ :: _, [], _ => .refl
  | i :: is, v :: vs, σ => by
    unfold setAll
    have := (Only.set (i := i) (σ := σ) (v := some v)).trans (setAll_only (is := is) (vs := vs) (σ := σ.set i (some v)))
    exact this
theorem tS_par {is : List Nat} {l : LF} {p : Bool} {D : Ends} (h : tS K pb (sPar pb is l) D σ H) :
    tL K l p σ H fun vs H1 => Frzs (fun H2 => vs.length = is.length ∧ ∀ H3, Same2 H2 H3 → D.nx (setAll σ is vs) H3) H1 := by
  obtain ⟨e, F, fl, e', tr, hE, hf, k⟩ := h
  unfold sPar at hf
  obtain ⟨⟨ws, e1⟩, h1, hf⟩ := Rs.bind_ok hf
  obtain ⟨⟨os, e2⟩, h2, hf⟩ := Rs.bind_ok hf
  obtain ⟨e3, h3, hf⟩ := Rs.bind_ok hf
  cases hf
  refine ⟨e, F, ws, _, tr, hE, h1, fun vs H' F' R a b P _ => ?_⟩
  refine storeL_ok a b P.dis h2 fun H2 F2 fr mF hE2 hL => .now ?_
  have dis : ∀ b, F2 b → R b → False := fun b q r => P.dis b (mF b q) r
  obtain ⟨l, ni, hE3⟩ := setNs_ok h3 hE2 hL dis
  have P2 : Post H F H2 F2 R := P.frz (fr.mono fun b q => .inl q) mF fun _ q => q
  refine ⟨l, fun H3 sm => ?_⟩
  have kp : Keep H2 H3 := .of sm
  refine k _ H3 _ (setAll_only.keeps ni) (RepE.frame kp (fun b u _ e => sm b u e) hE3) ⟨P2.keep.trans kp, fun b u e n => sm b u (P2.frm b u e n), fun b h => ?_, fun b f r => r, fun b h => ?_⟩
  · rcases h with h | h
    · exact P2.new b h
    · exact h.elim
  · rcases h with h | h
    · obtain ⟨u, e⟩ := P2.trk b h
      exact ⟨u, sm b u e⟩
    · exact h.elim
theorem evs_par2 {i j : Nat} {x y : Str} {a b : Expr} {l : LF} {p : Bool} {px py pt pos : Pos} {kt k2 pt2} (hc : X.calm = true) (hN : X.N.Nodup) (hi : X.N[i]? = some x) (hj : X.N[j]? = some y) (hij : i ≠ j)
    (hx : X.env.scope.names.lookup x = some .local) (hy : X.env.scope.names.lookup y = some .local) (ha : EvL X [a, b] l p)
    (hw : swappedStores [.Tuple [.Name x px, .Name y py] kt pt] (.Tuple [a, b] k2 pt2) X.env = pure (some [x, y]))
    (hs : swapsWithSole [.Tuple [.Name x px, .Name y py] kt pt] (.Tuple [a, b] k2 pt2) pos.line X.env = pure false) :
    EvS X pb (.Assign [.Tuple [.Name x px, .Name y py] kt pt] (.Tuple [a, b] k2 pt2) pos) (sPar pb [i, j] l) := ⟨ps_imp (ps_par hc hN hi hj hij hx hy (pa_frzs ha.run) hw hs) fun D σ H h => by
  refine tL_mono (tS_par h) fun vs H1 q => q.mono fun H2 ⟨e, k⟩ => ?_
  match vs, e with
  | [v, w], _ => exact ⟨v, w, rfl, k H2 fun _ _ e => e⟩⟩
theorem evs_par3 {i j m : Nat} {x y z : Str} {a b c : Expr} {l : LF} {p : Bool} {px py pz pt pos : Pos} {kt k2 pt2} (hc : X.calm = true) (hN : X.N.Nodup) (hi : X.N[i]? = some x) (hj : X.N[j]? = some y) (hm : X.N[m]? = some z) (hij : i ≠ j) (him : i ≠ m) (hjm : j ≠ m)
    (hx : X.env.scope.names.lookup x = some .local) (hy : X.env.scope.names.lookup y = some .local) (hz : X.env.scope.names.lookup z = some .local) (ha : EvL X [a, b, c] l p)
    (hw : swappedStores [.Tuple [.Name x px, .Name y py, .Name z pz] kt pt] (.Tuple [a, b, c] k2 pt2) X.env = pure (some [x, y, z]))
    (hs : swapsWithSole [.Tuple [.Name x px, .Name y py, .Name z pz] kt pt] (.Tuple [a, b, c] k2 pt2) pos.line X.env = pure false) :
    EvS X pb (.Assign [.Tuple [.Name x px, .Name y py, .Name z pz] kt pt] (.Tuple [a, b, c] k2 pt2) pos) (sPar pb [i, j, m] l) := ⟨ps_imp (ps_par3 hc hN hi hj hm hij him hjm hx hy hz (pa_frzs ha.run) hw hs) fun D σ H h => by
  refine tL_mono (tS_par h) fun vs H1 q => q.mono fun H2 ⟨e, k⟩ => ?_
  match vs, e with
  | [v, w, u], _ => exact ⟨v, w, u, rfl, k H2 fun _ _ e => e⟩⟩
/-- names, one after another -/
def gNames (is : List Nat) : TGs := fun vs σ H Q => vs.length = is.length ∧ Q (setAll σ is vs) H
theorem pgs_names : ∀ {ts : List Expr} {is : List Nat}, (∀ t ∈ ts, True) → PGs X ts (gNames is) → PGs X ts (gNames is) := fun _ h => h
theorem pgsN_nil : PGs X [] (gNames []) := ⟨fun pins s σ H vs us Q I r h => pgs_nil.run pins s σ H vs us Q I r ⟨List.eq_nil_of_length_eq_zero h.1, by
  have := List.eq_nil_of_length_eq_zero h.1
  subst this
  exact h.2⟩⟩
theorem pgsN_cons {i : Nat} {is : List Nat} {x : Str} {pos : Pos} {es : List Expr} (hN : X.N.Nodup) (hi : X.N[i]? = some x) (hx : Loc X.env.scope x) (hf : X.fn x = true ∨ X.env.scope.names.lookup x = some .local) (h2 : PGs X es (gNames is))
    (hs : (assignEach (.Name x pos :: es) X.env).map (·.2) = assign (.Name x pos) X.env :: (assignEach es X.env).map (·.2)) : PGs X (.Name x pos :: es) (gNames (i :: is)) :=
  ⟨fun pins s σ H vs us Q I r h => by
    refine (pgs_cons (pg_name hN hi hx hf) h2 hs).run pins s σ H vs us Q I r ?_
    obtain ⟨l, q⟩ := h
    cases vs with
    | nil => cases l
    | cons v vs => exact ⟨v, vs, rfl, by simpa using l, q⟩⟩
theorem evs_parN {ts es : List Expr} {is : List Nat} {l : LF} {p : Bool} {kt k2 : Nat} {pt pt2 pos : Pos} (hc : X.calm = true) (hg : PGs X ts (gNames is)) (ha : EvL X es l p) (hn : (assignEach ts X.env).length = is.length) (hst : (assignEach ts X.env).findIdx? (·.1) = none)
    (hs : swapsWithSole [.Tuple ts kt pt] (.Tuple es k2 pt2) pos.line X.env = pure false) (hw : swappedStores [.Tuple ts kt pt] (.Tuple es k2 pt2) X.env = pure none) (hl : is.length ≤ 16777216)
    (h1 : (assignEach [.Tuple ts kt pt] X.env).map (·.2) = [assign (.Tuple ts kt pt) X.env]) :
    EvS X pb (.Assign [.Tuple ts kt pt] (.Tuple es k2 pt2) pos) (sPar pb is l) := ⟨ps_imp (ps_asg (pe_tup (pa_frzs ha.run)) (pg_tup hc hg hn hst) hs hw h1) fun D σ H h => by
  refine tL_mono (tS_par h) fun vs H1 q => q.mono fun H2 ⟨e, k⟩ => ?_
  refine ⟨by rw [e, sizeLine_eq]; exact hl, fun a n => ⟨a, vs, rfl, .of upd_same, e, e, k _ fun b u q => ?_⟩⟩
  rw [upd_ne (ne_of_none q n)]; exact q⟩

/-! ### patterns -/
def Lk (K : PySem.W.Frag) (H : Hp) : Pat → PyData → V → Prop
  | .nm _, d, v => Fz K H d v
  | .tup _, .tuple ds, v => ∃ a xs, v = .ref a ∧ SqT K H a xs ∧ FzAll K H ds xs
  | .tup _, _, _ => False
theorem Lk.of {q : Pat} {d : PyData} {v : V} {pb : List Nat} {e e' : Env} (h : Fz K H d v) (hs : patSet pb q d e = .ok e') : Lk K H q d v := by
  cases q with
  | nm i => exact h
  | tup ps =>
    cases d with
    | tuple ds =>
      unfold Fz at h
      obtain ⟨a, xs, e, f, g⟩ := h
      exact ⟨a, xs, e, f.sq, g⟩
    | _ => cases hs
def gP (K : PySem.W.Frag) (pb : List Nat) (q : Pat) : TG := fun v σ H Q => ∃ e, ∃ F : Rg, ∃ d e', RepE K H e σ F ∧ Lk K H q d v ∧ patSet pb q d e = .ok e' ∧
  ∀ σ', ∀ F' : Rg, Only q.slots σ σ' → (∀ b, F' b → F b) → RepE K H e' σ' F' → Q σ' H
def gPs (K : PySem.W.Frag) (pb : List Nat) (qs : List Pat) : TGs := fun vs σ H Q => ∃ e, ∃ F : Rg, ∃ ds e', RepE K H e σ F ∧ FzAll K H ds vs ∧ patSets pb qs ds e = .ok e' ∧
  ∀ σ', ∀ F' : Rg, Only (Pat.slots.slotsL qs) σ σ' → (∀ b, F' b → F b) → RepE K H e' σ' F' → Q σ' H
structure EvG (X : Cx) (pb : List Nat) (tg : Expr) (q : Pat) : Prop where
  run : PG X tg (gP X.K pb q)
structure EvGs (X : Cx) (pb : List Nat) (tg : List Expr) (q : List Pat) : Prop where
  run : PGs X tg (gPs X.K pb q)
mutual
theorem patSet_pb : ∀ {q : Pat} {d : PyData} {e e' : Env}, patSet pb q d e = .ok e' → ∀ i ∈ q.slots, i ∉ pb
  | .nm j, d, e, e', h => by
    unfold patSet setN at h
    obtain ⟨_, h1, h⟩ := Rs.bind_ok h
    have h1 := Rs.chk_ok h1
    intro i hi
    have : i = j := by simpa [Pat.slots] using hi
    subst this
    simpa using h1
  | .tup ps, .tuple ds, e, e', h => by
    unfold patSet at h
    unfold Pat.slots
    exact patSets_pb h
  | .tup ps, .none, _, _, h => by cases h
  | .tup ps, .bool _, _, _, h => by cases h
  | .tup ps, .int _, _, _, h => by cases h
  | .tup ps, .str _, _, _, h => by cases h
  | .tup ps, .list _, _, _, h => by cases h
  | .tup ps, .dict _, _, _, h => by cases h
theorem patSets_pb : ∀ {qs : List Pat} {ds : List PyData} {e e' : Env}, patSets pb qs ds e = .ok e' → ∀ i ∈ Pat.slots.slotsL qs, i ∉ pb
  | [], [], e, e', h => by intro i hi; simp [Pat.slots.slotsL] at hi
  | [], _ :: _, _, _, h => by cases h
  | _ :: _, [], _, _, h => by cases h
  | q :: qs, d :: ds, e, e', h => by
    unfold patSets at h
    obtain ⟨e1, h1, h⟩ := Rs.bind_ok h
    intro i hi
    unfold Pat.slots.slotsL at hi
    rcases List.mem_append.mp hi with hi | hi
    · exact patSet_pb h1 i hi
    · exact patSets_pb h i hi
end
theorem evg_name {i : Nat} {x : Str} {pos : Pos} (hN : X.N.Nodup) (hi : X.N[i]? = some x) (hx : Loc X.env.scope x) (hf : X.fn x = true ∨ X.env.scope.names.lookup x = some .local) : EvG X pb (.Name x pos) (.nm i) :=
  ⟨⟨fun pins s σ H v u Q I r h => by
    refine (pg_name hN hi hx hf).run pins s σ H v u Q I r ?_
    obtain ⟨e, F, d, e', hE, l, hs, k⟩ := h
    have l : Rep X.K H (.val d) v (fun _ => False) := by unfold Rep; exact l
    obtain ⟨_, hE'⟩ := setN_ok hs hE l fun _ _ z => z
    exact k _ _ .set (fun b q => q.elim id False.elim) hE'⟩⟩
theorem evgs_nil : EvGs X pb [] [] := ⟨⟨fun pins s σ H vs us Q I r h => by
  refine pgs_nil.run pins s σ H vs us Q I r ?_
  obtain ⟨e, F, ds, e', hE, l, hs, k⟩ := h
  cases ds with
  | cons d ds => cases hs
  | nil =>
    cases hs
    exact ⟨FzAll.nil_iff.mp l, k σ F .refl (fun _ q => q) hE⟩⟩⟩
theorem evgs_cons {t : Expr} {ts : List Expr} {q : Pat} {qs : List Pat} (h1 : EvG X pb t q) (h2 : EvGs X pb ts qs) (hs : (assignEach (t :: ts) X.env).map (·.2) = assign t X.env :: (assignEach ts X.env).map (·.2)) : EvGs X pb (t :: ts) (q :: qs) :=
  ⟨⟨fun pins s σ H vs us Q I r h => by
    refine (pgs_cons h1.run h2.run hs).run pins s σ H vs us Q I r ?_
    obtain ⟨e, F, ds, e', hE, l, hs, k⟩ := h
    cases ds with
    | nil => cases hs
    | cons d ds =>
      unfold patSets at hs
      obtain ⟨e1, g1, hs⟩ := Rs.bind_ok hs
      obtain ⟨x, r', rfl, f1, f2⟩ := FzAll.cons_inv l
      refine ⟨x, r', rfl, e, F, d, e1, hE, .of f1 g1, g1, fun σ1 F1 o1 m1 hE1 => ⟨e1, F1, ds, e', hE1, f2, hs, fun σ2 F2 o2 m2 hE2 => ?_⟩⟩
      exact k σ2 F2 (by unfold Pat.slots.slotsL; exact o1.trans o2) (fun b q => m1 b (m2 b q)) hE2⟩⟩
theorem evg_tup {ts : List Expr} {qs : List Pat} {kk : Nat} {pos : Pos} (hc : X.calm = true) (h : EvGs X pb ts qs) (hn : (assignEach ts X.env).length = qs.length) (hst : (assignEach ts X.env).findIdx? (·.1) = none) : EvG X pb (.Tuple ts kk pos) (.tup qs) :=
  ⟨⟨fun pins s σ H v u Q I r hw => by
    refine (pg_tup hc h.run hn hst).run pins s σ H v u Q I r ?_
    obtain ⟨e, F, d, e', hE, l, hs, k⟩ := hw
    cases d with
    | tuple ds =>
      obtain ⟨a, xs, rfl, sq, fz⟩ := l
      unfold patSet at hs
      have len : ∀ {qs : List Pat} {ds : List PyData} {e e' : Env}, patSets pb qs ds e = .ok e' → ds.length = qs.length := by
        intro qs
        induction qs with
        | nil => intro ds e e' h; cases ds with
          | nil => rfl
          | cons d ds => cases h
        | cons q qs ih => intro ds e e' h; cases ds with
          | nil => cases h
          | cons d ds =>
            unfold patSets at h
            obtain ⟨e1, h1, h⟩ := Rs.bind_ok h
            simp [ih h]
      refine ⟨a, xs, rfl, sq, by rw [← FzAll.length fz, len hs], e, F, ds, e', hE, fz, hs, fun σ' F' o m hE' => k σ' F' (by unfold Pat.slots; exact o) m hE'⟩
    | _ => exact l.elim⟩⟩
theorem tS_unp {qs : List Pat} {f : EF} {p : Bool} {D : Ends} (h : tS K pb (sUnp pb qs f) D σ H) : tAsg (tE K f p) (gP K pb (.tup qs)) D σ H := by
  obtain ⟨e, F, fl, e', tr, hE, hf, k⟩ := h
  unfold sUnp at hf
  obtain ⟨⟨w, e1⟩, h1, hf⟩ := Rs.bind_ok hf
  cases w with
  | own o => cases hf
  | «at» i s => cases hf
  | val d =>
    dsimp only at hf
    obtain ⟨e2, h2, hf⟩ := Rs.bind_ok hf
    cases hf
    refine ⟨e, F, .val d, e1, tr, hE, h1, fun v H' F' R a b P _ => ⟨e1, F', d, _, a, .of b h2, h2, fun σ' F2 o m hE' => ?_⟩⟩
    exact k σ' H' F2 (o.keeps (patSet_pb h2)) hE' (P.none.fmono m)
theorem evs_unp {e : Expr} {ts : List Expr} {qs : List Pat} {f : EF} {p : Bool} {kt : Nat} {pt pos : Pos} (he : EvE X e f p) (hg : EvG X pb (.Tuple ts kt pt) (.tup qs)) (hs : swapsWithSole [.Tuple ts kt pt] e pos.line X.env = pure false)
    (hw : swappedStores [.Tuple ts kt pt] e X.env = pure none) (h1 : (assignEach [.Tuple ts kt pt] X.env).map (·.2) = [assign (.Tuple ts kt pt) X.env]) : EvS X pb (.Assign [.Tuple ts kt pt] e pos) (sUnp pb qs f) :=
  ⟨ps_imp (ps_asg he.run hg.run hs hw h1) fun _ _ _ h => tS_unp h⟩
end
end Ev

set_option Elab.async false
set_option linter.all false
set_option maxRecDepth 100000
/-! Ev: o[k] = v. -/
namespace Ev
open PySem PySem.Spec PyProof.Rows L2
section
variable {X : Cx} {K : PySem.W.Frag} {σ σ1 : L2.St} {H H1 : Hp} {pb : List Nat}
theorem RepL.put : ∀ {os : List O} {xs : List V} {F R : Rg} {k : Nat} {c : O} {v : V}, RepL K H os xs F → Rep K H c v R → (∀ b, F b → R b → False) → RepL K H (os.set k c) (xs.set k v) (fun b => F b ∨ R b)
  | [], xs, F, R, k, c, v, h, r, d => by
    unfold RepL at h
    subst h
    show RepL K H [] ([].set k v) _
    unfold RepL
    rfl
  | o :: os, xs, F, R, 0, c, v, h, r, d => by
    unfold RepL at h
    obtain ⟨x, t, G, rfl, h1, h2⟩ := h
    show RepL K H (c :: os) (v :: t) _
    unfold RepL
    refine ⟨v, t, R, rfl, Rep.mono _ _ _ _ (fun b q => ⟨.inr q, q⟩) r, RepL.mono _ _ _ _ (fun b q => ⟨.inl q.1, fun z => d b q.1 z⟩) h2⟩
  | o :: os, xs, F, R, k + 1, c, v, h, r, d => by
    unfold RepL at h
    obtain ⟨x, t, G, rfl, h1, h2⟩ := h
    show RepL K H (o :: os.set k c) (x :: t.set k v) _
    unfold RepL
    refine ⟨x, _, fun b => F b ∧ G b, rfl, Rep.mono _ _ _ _ (fun b q => ⟨.inl q.1, q⟩) h1, RepL.mono _ _ _ _ (fun b q => ?_) (RepL.put (k := k) h2 r fun b q => d b q.1)⟩
    exact q.elim (fun q => ⟨.inl q.1, fun z => q.2 z.2⟩) fun q => ⟨.inr q, fun z => d b z.1 q⟩
theorem repK_none {kd : PyData} {k : Key} (hk : Fz K H kd (kV k)) : ∀ {kvs : List (PyData × O)} {ks : List (Key × V)} {F : Rg}, RepK K H kvs (ks.map fun p => (kV p.1, p.2)) F →
    ((lookD kd kvs).isSome = true ↔ ∃ p ∈ ks, p.1 = k) ∧ kvs.length = ks.length
  | [], ks, F, h => by
    unfold RepK at h
    have : ks = [] := by simpa using h
    subst this
    exact ⟨⟨fun z => (nomatch z), fun ⟨p, hp, _⟩ => (nomatch hp)⟩, rfl⟩
  | (c, o) :: kvs, ks, F, h => by
    unfold RepK at h
    obtain ⟨y0, z, r, G, e1, h1, h2, h3⟩ := h
    cases ks with
    | nil => cases e1
    | cons p ks =>
      rw [List.map_cons] at e1
      injection e1 with e1 e2
      injection e1 with e1 e3
      subst e1 e3 e2
      obtain ⟨i1, i2⟩ := repK_none hk h3
      refine ⟨?_, by simp [i2]⟩
      rw [lookD, eqv_key h1 hk]
      by_cases q : p.1 = k
      · rw [if_pos (decide_eq_true q)]
        exact ⟨fun _ => ⟨p, by simp, q⟩, fun _ => rfl⟩
      · rw [decide_eq_false q, if_neg Bool.false_ne_true, i1]
        constructor
        · rintro ⟨p', hp', e⟩; exact ⟨p', by simp [hp'], e⟩
        · rintro ⟨p', hp', e⟩
          rcases List.mem_cons.mp hp' with z | z
          · exact absurd (z ▸ e) q
          · exact ⟨p', z, e⟩
theorem RepK.snoc {kd : PyData} {y x : V} {o : O} : ∀ {kvs : List (PyData × O)} {es : List (V × V)} {F R : Rg}, RepK K H kvs es F → Fz K H kd y → Rep K H o x R → (∀ b, F b → R b → False) → RepK K H (kvs ++ [(kd, o)]) (es ++ [(y, x)]) (fun b => F b ∨ R b)
  | [], es, F, R, h, hk, hr, d => by
    unfold RepK at h
    subst h
    show RepK K H [(kd, o)] [(y, x)] _
    unfold RepK
    refine ⟨y, x, [], R, rfl, hk, Rep.mono _ _ _ _ (fun b q => ⟨.inr q, q⟩) hr, by unfold RepK; rfl⟩
  | (c, o') :: kvs, es, F, R, h, hk, hr, d => by
    unfold RepK at h
    obtain ⟨y0, z, r, G, rfl, h1, h2, h3⟩ := h
    show RepK K H ((c, o') :: (kvs ++ [(kd, o)])) ((y0, z) :: (r ++ [(y, x)])) _
    unfold RepK
    refine ⟨y0, z, _, fun b => F b ∧ G b, rfl, h1, Rep.mono _ _ _ _ (fun b q => ⟨.inl q.1, q⟩) h2, RepK.mono _ _ _ _ (fun b q => ?_) (RepK.snoc h3 hk hr fun b q => d b q.1)⟩
    exact q.elim (fun q => ⟨.inl q.1, fun z => q.2 z.2⟩) fun q => ⟨.inr q, fun z => d b z.1 q⟩
def putF (kd : PyData) (o : O) : PyData × O → PyData × O := fun q => if PyData.eqv q.1 kd = true then (q.1, o) else q
def putG (k : Key) (v : V) : Key × V → Key × V := fun kv => if kv.1 = k then (kv.1, v) else kv
theorem repK_skip {kd : PyData} {k : Key} {o : O} {v : V} (hk : Fz K H kd (kV k)) : ∀ {kvs : List (PyData × O)} {ks : List (Key × V)} {F : Rg}, RepK K H kvs (ks.map fun p => (kV p.1, p.2)) F → (∀ p ∈ ks, p.1 ≠ k) →
    kvs.map (putF kd o) = kvs ∧ ks.map (putG k v) = ks
  | [], ks, F, h, n => by
    unfold RepK at h
    have : ks = [] := by simpa using h
    subst this
    exact ⟨rfl, rfl⟩
  | (c, o') :: kvs, ks, F, h, n => by
    unfold RepK at h
    obtain ⟨y0, z, r, G, e1, h1, h2, h3⟩ := h
    cases ks with
    | nil => cases e1
    | cons p ks =>
      rw [List.map_cons] at e1
      injection e1 with e1 e2
      injection e1 with e1 e3
      subst e1 e3 e2
      obtain ⟨i1, i2⟩ := repK_skip (o := o) (v := v) hk h3 fun q hq => n q (by simp [hq])
      have np : p.1 ≠ k := n p (by simp)
      refine ⟨?_, ?_⟩
      · rw [List.map_cons, i1]
        unfold putF
        rw [eqv_key h1 hk, decide_eq_false np, if_neg Bool.false_ne_true]
      · rw [List.map_cons, i2]
        unfold putG
        rw [if_neg np]
theorem repK_map {kd : PyData} {k : Key} {o : O} {v : V} (hk : Fz K H kd (kV k)) : ∀ {kvs : List (PyData × O)} {ks : List (Key × V)} {F R : Rg}, RepK K H kvs (ks.map fun p => (kV p.1, p.2)) F → (ks.map (·.1)).Nodup → Rep K H o v R → (∀ b, F b → R b → False) →
    RepK K H (kvs.map (putF kd o)) ((ks.map (putG k v)).map fun p => (kV p.1, p.2)) (fun b => F b ∨ R b)
  | [], ks, F, R, h, nd, hr, d => by
    unfold RepK at h
    have : ks = [] := by simpa using h
    subst this
    show RepK K H [] [] _
    unfold RepK
    rfl
  | (c, o') :: kvs, ks, F, R, h, nd, hr, d => by
    unfold RepK at h
    obtain ⟨y0, z, r, G, e1, h1, h2, h3⟩ := h
    cases ks with
    | nil => cases e1
    | cons p ks =>
      rw [List.map_cons] at e1
      injection e1 with e1 e2
      injection e1 with e1 e3
      subst e1 e3 e2
      rw [List.map_cons, List.nodup_cons] at nd
      rw [List.map_cons, List.map_cons, List.map_cons]
      by_cases q : p.1 = k
      · obtain ⟨i1, i2⟩ := repK_skip (o := o) (v := v) hk h3 fun p' hp' e => nd.1 (List.mem_map.mpr ⟨p', hp', by rw [e, q]⟩)
        rw [i1, i2]
        have a1 : putF kd o (c, o') = (c, o) := by unfold putF; rw [eqv_key h1 hk, decide_eq_true q, if_pos rfl]
        have a2 : putG k v p = (p.1, v) := by unfold putG; rw [if_pos q]
        rw [a1, a2]
        unfold RepK
        exact ⟨kV p.1, v, _, R, rfl, h1, Rep.mono _ _ _ _ (fun b q => ⟨.inr q, q⟩) hr, RepK.mono _ _ _ _ (fun b q => ⟨.inl q.1, fun z => d b q.1 z⟩) h3⟩
      · have a1 : putF kd o (c, o') = (c, o') := by unfold putF; rw [eqv_key h1 hk, decide_eq_false q, if_neg Bool.false_ne_true]
        have a2 : putG k v p = p := by unfold putG; rw [if_neg q]
        rw [a1, a2]
        unfold RepK
        refine ⟨kV p.1, p.2, _, fun b => F b ∧ G b, rfl, h1, Rep.mono _ _ _ _ (fun b q => ⟨.inl q.1, q⟩) h2, RepK.mono _ _ _ _ (fun b q => ?_) (repK_map hk h3 nd.2 hr fun b q => d b q.1)⟩
        exact q.elim (fun q => ⟨.inl q.1, fun z => q.2 z.2⟩) fun q => ⟨.inr q, fun z => d b z.1 q⟩
theorem repK_put {kd : PyData} {k : Key} {o : O} {v : V} {kvs : List (PyData × O)} {ks : List (Key × V)} {F R : Rg} (hk : Fz K H kd (kV k)) (h : RepK K H kvs (ks.map fun p => (kV p.1, p.2)) F) (nd : (ks.map (·.1)).Nodup) (hr : Rep K H o v R) (d : ∀ b, F b → R b → False) :
    RepK K H (putD kd o kvs) ((putK ks k v).map fun p => (kV p.1, p.2)) (fun b => F b ∨ R b) ∧ (putD kd o kvs).length = (putK ks k v).length := by
  obtain ⟨i1, i2⟩ := repK_none hk h
  have ba : (ks.any fun kv => decide (kv.1 = k)) = true ↔ ∃ p ∈ ks, p.1 = k := by simp
  unfold putD putK
  by_cases q : (lookD kd kvs).isSome = true
  · rw [if_pos q, if_pos (ba.mpr (i1.mp q))]
    exact ⟨repK_map hk h nd hr d, by rw [List.length_map, List.length_map, i2]⟩
  · rw [if_neg q, if_neg fun z => q (i1.mpr (ba.mp z)), List.map_append]
    exact ⟨RepK.snoc h hk hr d, by rw [List.length_append, List.length_append, i2]; rfl⟩
/-- d[k] = v; the keys are apart -/
def rPutD : TSet := fun o i v H Q => ∃ a ks k, o = .ref a ∧ H a = some (.dK ks) ∧ i = kV k ∧ ((ks.map (·.1)).Nodup → ks.length < sizeLine ∧ Q (upd H a (.dK (putK ks k v))))
theorem kv_keys {κ : Type} : ∀ {ks : List (κ × V)} {vs : List (κ × Value)}, KV ks vs → ks.map (·.1) = vs.map (·.1)
  | _, _, .nil => rfl
  | _, _, .cons r t => by rw [List.map_cons, List.map_cons, kv_keys t, r.1]
theorem set_dictN (hu : X.A.units + 1 < cLine) : PSet X rPutD := by
  intro pins s σ H o i v ov iv u Q I ro ri rv h
  obtain ⟨a, ks, k, eo, ha, ei, q⟩ := h
  obtain ⟨z, hd, vs, r, dd⟩ := dk_of I.hok ha
  have nd : (ks.map (·.1)).Nodup := by
    rw [kv_keys r]
    obtain ⟨_, _, _, _, _, _, _, _, n⟩ := dd
    exact n
  obtain ⟨l, q⟩ := q nd
  subst ei
  exact set_dict hu pins s σ H o _ v ov iv u Q I ro ri rv ⟨a, _, eo, .k ha l, q⟩
theorem pset_or {t u : TSet} (h : PSet X t) (g : PSet X u) : PSet X fun o i v H Q => t o i v H Q ∨ u o i v H Q := fun pins s σ H o i v ov iv w Q I a b c q => q.elim (h pins s σ H o i v ov iv w Q I a b c) (g pins s σ H o i v ov iv w Q I a b c)
theorem keep_dct {H : Hp} {a : Addr} {u : HO} {es : List (V × V)} {ys : List (Key × V)} (h : H a = some u) (hd : DictO u es) : Keep H (upd H a (.dK ys)) := by
  obtain ⟨k, rfl, _⟩ := hd
  refine ⟨fun b zs e => ?_, fun b o u e => ?_⟩
  · rw [upd_ne (ne_of e h (fun z => nomatch z))]; exact e
  · rw [upd_ne (ne_of e h (fun z => nomatch z))]; exact e
/-- what is put into a thing -/
theorem putO_ok {c c' o : O} {kd : PyData} {x y v : V} {G R : Rg} {Q : Hp → Prop} (hs : putO c kd o = some c') (hx : Rep K H c x G) (hk : Fz K H kd y) (hr : Rep K H o v R) (d : ∀ b, G b → R b → False)
    (k : ∀ H', Rep K H' c' x (fun b => G b ∨ R b) → Keep H H' → (∀ b, ¬ G b → H' b = H b) → (∀ b u, H b = some u → ∃ u', H' b = some u') → Q H') : rSetL x y v H Q ∨ rPutD x y v H Q := by
  cases c with
  | hole => cases hs
  | val dd => cases hs
  | lst xs =>
    cases kd with
    | int i =>
      have hs : (L2.ixN xs.length i).map (fun j => O.lst (xs.set j o)) = some c' := hs
      obtain ⟨j, h1, rfl⟩ := Option.map_eq_some_iff.mp hs
      unfold Fz at hk
      subst hk
      unfold Rep at hx
      obtain ⟨a, zs, rfl, ga, ha, r⟩ := hx
      refine .inl ⟨a, zs, i, j, rfl, rfl, ha, by rw [← RepL.length r]; exact h1, k _ ?_ (keep_lst ha) (fun b nb => upd_ne fun w => nb (w ▸ ga)) trk_upd⟩
      have kp : Keep H (upd H a (.lst (zs.set j v))) := keep_lst ha
      unfold Rep
      refine ⟨a, _, rfl, .inl ga, upd_same, ?_⟩
      have r' : RepL K (upd H a (.lst (zs.set j v))) xs zs (fun b => G b ∧ b ≠ a) := RepL.frame kp _ _ _ (fun b u q e => by rw [upd_ne q.2]; exact e) r
      have hr' : Rep K (upd H a (.lst (zs.set j v))) o v R := Rep.frame kp _ _ _ (fun b u q e => by rw [upd_ne (show b ≠ a from fun w => d a ga (w ▸ q))]; exact e) hr
      refine RepL.mono _ _ _ _ (fun b q => ?_) (RepL.put (k := j) r' hr' fun b q w => d b q.1 w)
      exact q.elim (fun q => ⟨.inl q.1, q.2⟩) fun q => ⟨.inr q, fun w => d a ga (w ▸ q)⟩
    | _ => cases hs
  | dct kvs =>
    have hs : (if isKey kd = true then (if kvs.length < 16777216 then some (O.dct (putD kd o kvs)) else none) else none) = some c' := by
      cases kd <;> exact hs
    by_cases hi : isKey kd = true
    · rw [if_pos hi] at hs
      by_cases hl : kvs.length < 16777216
      · rw [if_pos hl] at hs
        cases hs
        obtain ⟨kk, rfl, _⟩ := fz_key hk hi
        unfold Rep at hx
        obtain ⟨a, u, es, rfl, ga, ha, ⟨ks, rfl, rfl⟩, r⟩ := hx
        refine .inr ⟨a, ks, kk, rfl, ha, rfl, fun nd => ?_⟩
        obtain ⟨i1, i2⟩ := repK_put hk r nd hr fun b q w => d b q.1 w
        refine ⟨by rw [sizeLine_eq, ← (repK_none hk r).2]; exact hl, k _ ?_ (keep_dct ha ⟨ks, rfl, rfl⟩) (fun b nb => upd_ne fun w => nb (w ▸ ga)) trk_upd⟩
        have kp : Keep H (upd H a (.dK (putK ks kk v))) := keep_dct ha ⟨ks, rfl, rfl⟩
        unfold Rep
        refine ⟨a, _, _, rfl, .inl ga, upd_same, ⟨_, rfl, rfl⟩, ?_⟩
        refine RepK.mono _ _ _ _ (fun b q => ?_) (RepK.frame kp _ _ _ (fun b u q e => ?_) i1)
        · exact q.elim (fun q => ⟨.inl q.1, q.2⟩) fun q => ⟨.inr q, fun w => d a ga (w ▸ q)⟩
        · rw [upd_ne (q.elim (fun q => q.2) fun q w => d a ga (w ▸ q))]; exact e
      · rw [if_neg hl] at hs; cases hs
    · rw [if_neg hi] at hs; cases hs
theorem tS_put {f : EF} {g h : EF} {p q r : Bool} {D : Ends} (hh : tS K pb (sPut f (lTwo g r h)) D σ H) :
    tAsg (fun σ H Q => tE K f p σ H fun v H1 => Frzs (Q v) H1) (gSub (tE K g q) (tE K h r) (fun x y v H Q => rSetL x y v H Q ∨ rPutD x y v H Q)) D σ H := by
  obtain ⟨e, F, fl, e', tr, hE, hf, k⟩ := hh
  unfold sPut at hf
  obtain ⟨⟨w, e1⟩, h1, hf⟩ := Rs.bind_ok hf
  obtain ⟨⟨o, e2⟩, h2, hf⟩ := Rs.bind_ok hf
  obtain ⟨⟨ws, e3⟩, h3, hf⟩ := Rs.bind_ok hf
  refine ⟨e, F, w, e1, tr, hE, h1, fun v H1 F1 R1 hE1 hW1 P1 _ => ?_⟩
  refine storeW_ok hE1 hW1 P1.dis h2 fun H2 S sF fz hE2 hr _ => .now ?_
  have P2 : Post H F H2 (fun b => F1 b ∧ ¬ S b) R1 := P1.frz (fz.rel.mono fun b q => .inl (sF b q)) (fun b q => q.1) fun _ q => q
  show tE K g q σ H2 fun x H3 => tE K h r σ H3 fun y H4 => rSetL x y v H4 (fun H5 => D.nx σ H5) ∨ rPutD x y v H4 (fun H5 => D.nx σ H5)
  have go : tL K (lTwo g r h) (q && r) σ H2 fun xs H4 => ∃ x y, xs = [x, y] ∧ (rSetL x y v H4 (fun H5 => D.nx σ H5) ∨ rPutD x y v H4 (fun H5 => D.nx σ H5)) := by
    refine ⟨e2, _, ws, e3, P2.trkF, hE2, h3, fun xs H4 F4 R4 hE4 hW4 P4 _ => ?_⟩
    cases ws with
    | nil => cases hf
    | cons w1 ws =>
    cases w1 with
    | val d => cases hf
    | own d => cases hf
    | «at» i pth =>
    cases ws with
    | nil => cases hf
    | cons w2 ws =>
    cases ws with
    | cons w3 ws => cases hf
    | nil =>
    dsimp only at hf
    obtain ⟨kd, g1, hf⟩ := Rs.bind_ok hf
    obtain ⟨c, g2, hf⟩ := Rs.bind_ok hf
    obtain ⟨_, g3, hf⟩ := Rs.bind_ok hf
    obtain ⟨c', g4, hf⟩ := Rs.bind_ok hf
    cases hf
    have g1 := Rs.of_ok g1
    have g2 := Rs.of_ok g2
    have g3 := Rs.chk_ok g3
    have g4 := Rs.of_ok g4
    obtain ⟨x, xr, A, rfl, d1, y, yr, B, rfl, d2, d3⟩ := hW4
    have d3 : yr = [] := d3
    subst d3
    refine ⟨x, y, rfl, ?_⟩
    obtain ⟨x', G, k1, k2, k3⟩ := hE4.pathOut g2 g3
    have ex : x = x' := by
      obtain ⟨a, q1, q2⟩ := d1.1
      obtain ⟨b, r1, r2⟩ := k1
      rw [q1] at r1; cases r1
      exact q2.inj r2
    subst ex
    have hk : Fz K H4 kd y := by
      unfold dataOf at g1
      split at g1
      · rename_i d' e'
        cases g1
        have := d2.rep hE4 e'
        unfold Rep at this
        exact this
      · cases g1
    have hr4 : Rep K H4 o v R1 := Rep.frame P4.keep _ _ _ (P2.hold P4) hr
    have P24 : Post H F H4 F4 R1 := (P2.trans P4).mono fun b q => .inl q
    refine putO_ok g4 k2 hk hr4 (fun b q w => P24.dis b q.1 w) fun H5 hr5 kp m tk => ?_
    have m' : ∀ b, ¬ (F4 b ∧ G b) → H5 b = H4 b := m
    refine k σ H5 _ .refl (mut_back k3 g2 g3 d1.1 kp m' hr5 fun b q w => ?_) (P24.mut (R' := fun _ => False) kp m' (fun b q => ?_) (fun b _ z => z) tk)
    · rcases w with w | w
      · exact q.2 w.2
      · exact P24.dis b q.1 w
    · exact q.elim (fun z => z) False.elim
  exact tE_mono (tL_two go) fun x H3 a => tE_mono a fun y H4 ⟨x', y', e0, b⟩ => by cases e0; exact b
theorem evs_put {a b v : Expr} {f g h : EF} {p q r : Bool} {spos pos : Pos} (hu : X.A.units + 1 < cLine) (hv : EvE X v f p) (ha : EvE X a g q) (hb : EvE X b h r)
    (hs : swapsWithSole [.Subscript a b spos] v pos.line X.env = pure false) (hw : swappedStores [.Subscript a b spos] v X.env = pure none) (h1 : (assignEach [.Subscript a b spos] X.env).map (·.2) = [assign (.Subscript a b spos) X.env])
    (hass : ∀ v, assign (.Subscript a b spos) X.env v = (do
      let ov ← holding [v] (eval a X.env)
      let iv ← holding [v, ov] (eval b X.env)
      standAt spos
      holding [v, ov, iv] (setItem ov iv v)
      release [v, ov, iv] [])) : EvS X pb (.Assign [.Subscript a b spos] v pos) (sPut f (lTwo g r h)) :=
  ⟨ps_imp (ps_asg (pe_frzs hv.run) (pg_sub ha.run hb.run (pset_or set_list (set_dictN hu)) hass) hs hw h1) fun _ _ _ h => tS_put h⟩
end
end Ev

set_option Elab.async false
set_option linter.all false
set_option maxRecDepth 100000
/-! Ev: what is walked; loops. -/
namespace Ev
open PySem PySem.Spec PyProof.Rows L2
/-- the iterator walks the items, whatever else comes to the heap -/
def IterD (K : PySem.W.Frag) (q : Pat) (J : It) (ds : List PyData) (H : Hp) : Prop := ∀ H2, Keep H H2 →
  (∀ i d, ds[i]? = some d → J.go i H2 ∧ ∀ x H3, J.yld i H2 x H3 → Same2 H2 H3 ∧ ∀ pb e e', patSet pb q d e = .ok e' → Lk K H3 q d x) ∧ J.stop ds.length H2
def tI (K : PySem.W.Frag) (q : Pat) (f : IF) : TI := fun σ H R => ∃ e, ∃ F : Rg, ∃ ds e', Trk H F ∧ RepE K H e σ F ∧ f e = .ok (ds, e') ∧
  ∀ J H' (F' : Rg), RepE K H' e' σ F' → Post H F H' F' (fun _ => False) → IterD K q J ds H' → R J H'
structure EvI (X : Cx) (tg iter : Expr) (q : Pat) (f : IF) : Prop where
  run : PI X tg iter (tI X.K q f)
section
variable {X : Cx} {tg : Expr}
theorem pi_imp {iter : Expr} {t u : TI} (h : PI X tg iter t) (i : ∀ σ H Q, u σ H Q → t σ H Q) : PI X tg iter u := ⟨fun pins s σ H Q I q => h.run pins s σ H Q I (i σ H Q q)⟩
theorem pi_or {iter : Expr} {t u : TI} (h : PI X tg iter t) (g : PI X tg iter u) : PI X tg iter fun σ H Q => t σ H Q ∨ u σ H Q := ⟨fun pins s σ H Q I q => q.elim (h.run pins s σ H Q I) (g.run pins s σ H Q I)⟩
theorem pi_ex {α : Type} {iter : Expr} {t : α → TI} (h : ∀ a, PI X tg iter (t a)) : PI X tg iter fun σ H Q => ∃ a, t a σ H Q := ⟨fun pins s σ H Q I ⟨a, q⟩ => (h a).run pins s σ H Q I q⟩
end
section
variable {X : Cx} {K : PySem.W.Frag} {σ σ1 : L2.St} {H H1 : Hp} {pb : List Nat}
theorem frozW_ok {e e' : Env} {F R : Rg} {w : W} {v : V} {d : PyData} {Q : Hp → Prop} (hE : RepE K H e σ F) (hW : RepW K H σ e w v R) (dis : ∀ b, F b → R b → False) (hs : frozW w e = .ok (d, e'))
    (k : ∀ H2, ∀ F2 : Rg, FRel (fun b => F b ∨ R b) H H2 → (∀ b, F2 b → F b) → RepE K H2 e' σ F2 → Fz K H2 d v → Frzs Q H2) : Frzs Q H := by
  have h1 : RepWs K H σ e [w] [v] R := ⟨v, [], R, rfl, hW.mono fun b q => ⟨q, q⟩, rfl⟩
  have h2 : frozLW [w] e = .ok ([d], e') := by
    unfold frozLW
    have : aliasOk w [] = true := by cases w <;> rfl
    rw [this, hs]
    rfl
  refine frozLW_ok hE h1 dis h2 fun H2 F2 a b c d => k H2 F2 a b c ?_
  obtain ⟨x, r, e, f, _⟩ := FzAll.cons_inv d
  cases e
  exact f
theorem IterD.list {a : Addr} {xs : List V} {ds : List PyData} {q : Pat} (f : FrzL K H a xs) (g : FzAll K H ds xs) : IterD K q (Itl K a) ds H := fun H2 kp => by
  have f2 := f.keep kp
  have g2 := FzAll.keep kp _ _ g
  refine ⟨fun i d e => ?_, xs, f2.sq, by rw [FzAll.length g]; exact Nat.le_refl _⟩
  obtain ⟨x, h1, h2⟩ := FzAll.get g2 e
  refine ⟨⟨xs, x, f2.sq, h1⟩, fun y H3 ⟨e3, hy⟩ => ?_⟩
  subst e3
  refine ⟨same2_refl _, fun pb e e' hs => ?_⟩
  have := hy xs f2.sq
  rw [h1] at this
  cases this
  exact .of h2 hs
theorem IterD.tuple {a : Addr} {xs : List V} {ds : List PyData} {q : Pat} (f : TupF K H a xs) (g : FzAll K H ds xs) : IterD K q (Itt K a) ds H := fun H2 kp => by
  have f2 := f.keep kp
  have g2 := FzAll.keep kp _ _ g
  refine ⟨fun i d e => ?_, xs, f2.sq, by rw [FzAll.length g]; exact Nat.le_refl _⟩
  obtain ⟨x, h1, h2⟩ := FzAll.get g2 e
  refine ⟨⟨xs, x, f2.sq, h1⟩, fun y H3 ⟨e3, hy⟩ => ?_⟩
  subst e3
  refine ⟨same2_refl _, fun pb e e' hs => ?_⟩
  have := hy xs f2.sq
  rw [h1] at this
  cases this
  exact .of h2 hs
theorem IterD.str {x : Str} {q : Pat} : IterD K q (Its x) (x.cps.toList.map fun c => PyData.str ⟨#[c]⟩) H := fun H2 kp => by
  refine ⟨fun i d e => ?_, ?_⟩
  · rw [List.getElem?_map] at e
    obtain ⟨c, h1, rfl⟩ := Option.map_eq_some_iff.mp e
    have h2 : x.cps[i]? = some c := by rw [← Array.getElem?_toList]; exact h1
    refine ⟨?_, fun y H3 hy => ?_⟩
    · exact (Array.getElem?_eq_some_iff.mp h2).1
    · obtain ⟨e3, c', h3, rfl⟩ := hy
      subst e3
      rw [h2] at h3
      cases h3
      exact ⟨same2_refl _, fun pb e e' hs => .of (by unfold Fz; rfl) hs⟩
  · show x.cps.size ≤ _
    simp
theorem IterD.range {lo : Int} {n : Nat} {q : Pat} : IterD K q (Itr lo n) (rangeD lo n) H := fun H2 kp => by
  have hl : (rangeD lo n).length = n := by simp [rangeD]
  refine ⟨fun i d e => ?_, ?_⟩
  · have hi : i < n := by
      have := (List.getElem?_eq_some_iff.mp e).1
      rwa [hl] at this
    refine ⟨hi, fun y H3 ⟨e3, ey⟩ => ?_⟩
    subst e3 ey
    have : d = .int (lo + i) := by
      unfold rangeD at e
      rw [List.getElem?_map] at e
      obtain ⟨c, h1, rfl⟩ := Option.map_eq_some_iff.mp e
      rw [List.getElem?_range hi] at h1
      cases h1; rfl
    subst this
    exact ⟨same2_refl _, fun pb e e' hs => .of (by unfold Fz; rfl) hs⟩
  · show n ≤ _
    rw [hl]; exact Nat.le_refl _
theorem tI_seq {q : Pat} {f : EF} {p : Bool} {R : It → Hp → Prop} (h : tI K q (iSeq f) σ H R) :
    iList K (fun σ H Q => tE K f p σ H fun v H1 => Frzs (Q v) H1) σ H R ∨ iTup K (fun σ H Q => tE K f p σ H fun v H1 => Frzs (Q v) H1) σ H R ∨ iStr (fun σ H Q => tE K f p σ H fun v H1 => Frzs (Q v) H1) σ H R := by
  obtain ⟨e, F, ds, e', tr, hE, hf, k⟩ := h
  unfold iSeq at hf
  obtain ⟨⟨w, e1⟩, h1, hf⟩ := Rs.bind_ok hf
  obtain ⟨⟨d, e2⟩, h2, hf⟩ := Rs.bind_ok hf
  obtain ⟨ds', h3, hf⟩ := Rs.bind_ok hf
  cases hf
  have h3 := Rs.of_ok h3
  have go : ∀ Q : VK, (∀ v H2, ∀ F2 : Rg, RepE K H2 e' σ F2 → Post H F H2 F2 (fun _ => False) → Fz K H2 d v → Q v H2) → tE K f p σ H fun v H1 => Frzs (Q v) H1 := fun Q hQ =>
    ⟨e, F, w, e1, tr, hE, h1, fun v H1 F1 R1 hE1 hW P _ => frozW_ok hE1 hW P.dis h2 fun H2 F2 fr m hE2 fz => .now (hQ v H2 F2 hE2 (P.frz fr m fun _ z => z.elim) fz)⟩
  cases d with
  | list l =>
    cases h3
    refine .inl (go _ fun v H2 F2 hE2 P2 fz => ?_)
    unfold Fz at fz
    obtain ⟨a, xs, rfl, f, g⟩ := fz
    exact ⟨a, rfl, ⟨xs, f.sq⟩, k _ _ _ hE2 P2 (.list f g)⟩
  | tuple l =>
    cases h3
    refine .inr (.inl (go _ fun v H2 F2 hE2 P2 fz => ?_))
    unfold Fz at fz
    obtain ⟨a, xs, rfl, f, g⟩ := fz
    exact ⟨a, rfl, ⟨xs, f.sq⟩, k _ _ _ hE2 P2 (.tuple f g)⟩
  | str y =>
    cases h3
    refine .inr (.inr (go _ fun v H2 F2 hE2 P2 fz => ?_))
    unfold Fz at fz
    subst fz
    exact ⟨y, rfl, k _ _ _ hE2 P2 .str⟩
  | none => cases h3
  | bool _ => cases h3
  | int _ => cases h3
  | dict _ => cases h3
theorem evi_seq {tg ex : Expr} {q : Pat} {f : EF} {p : Bool} (h : EvE X ex f p) : EvI X tg ex q (iSeq f) :=
  ⟨pi_imp (pi_or (pi_list (pe_frzs h.run)) (pi_or (pi_tup (pe_frzs h.run)) (pi_str (pe_frzs h.run)))) fun _ _ _ z => tI_seq z⟩
theorem tI_rgA {q : Pat} {l : LF} {p : Bool} {R : It → Hp → Prop} (h : tI K q (iRgA l) σ H R) : iRng1 (tL K l p) σ H R := by
  obtain ⟨e, F, ds, e', tr, hE, hf, k⟩ := h
  unfold iRgA at hf
  obtain ⟨⟨ws, e1⟩, h1, hf⟩ := Rs.bind_ok hf
  obtain ⟨os, h2, hf⟩ := Rs.bind_ok hf
  have h2 := Rs.of_ok h2
  split at hf
  · rename_i j _
    obtain ⟨_, c, hf⟩ := Rs.bind_ok hf
    cases hf
    have c := Rs.chk_ok c
    simp only [Bool.and_eq_true, decide_eq_true_eq] at c
    refine ⟨e, F, ws, _, tr, hE, h1, fun vs H1 F1 R1 a b P _ => ?_⟩
    obtain ⟨v, r, rfl, r1, r2⟩ := reps_of a b h2
    have r2 : r = [] := r2
    subst r2
    have r1 : v = .int j := by unfold Rep Fz at r1; exact r1
    subst r1
    exact ⟨j, rfl, c.1, c.2, k _ _ _ a P.none .range⟩
  · cases hf
theorem tI_rgB {q : Pat} {l : LF} {p : Bool} {R : It → Hp → Prop} (h : tI K q (iRgB l) σ H R) : iRng2 (tL K l p) σ H R := by
  obtain ⟨e, F, ds, e', tr, hE, hf, k⟩ := h
  unfold iRgB at hf
  obtain ⟨⟨ws, e1⟩, h1, hf⟩ := Rs.bind_ok hf
  obtain ⟨os, h2, hf⟩ := Rs.bind_ok hf
  have h2 := Rs.of_ok h2
  split at hf
  · rename_i i j _
    obtain ⟨_, c, hf⟩ := Rs.bind_ok hf
    cases hf
    have c := Rs.chk_ok c
    simp only [Bool.and_eq_true, decide_eq_true_eq] at c
    refine ⟨e, F, ws, _, tr, hE, h1, fun vs H1 F1 R1 a b P _ => ?_⟩
    obtain ⟨v, r, rfl, r1, v2, r', rfl, r2, r3⟩ := reps_of a b h2
    have r3 : r' = [] := r3
    subst r3
    have r1 : v = .int i := by unfold Rep Fz at r1; exact r1
    have r2 : v2 = .int j := by unfold Rep Fz at r2; exact r2
    subst r1 r2
    exact ⟨i, j, rfl, ⟨c.1.1, c.1.2, c.2.1, c.2.2⟩, k _ _ _ a P.none .range⟩
  · cases hf
theorem evi_rgA {tg a : Expr} {q : Pat} {l : LF} {p : Bool} {np pos : Pos} (hg : Gl X "range") (hm : X.mg "range" = none) (ha : EvL X [a] l p) (hs : starEach [a] X.env = [(false, eval a X.env)]) : EvI X tg (.Call (.Name "range" np) [a] [] pos) q (iRgA l) :=
  ⟨pi_imp (pi_range1 hg hm ha.run hs) fun _ _ _ z => tI_rgA z⟩
theorem evi_rgB {tg a b : Expr} {q : Pat} {l : LF} {p : Bool} {np pos : Pos} (hg : Gl X "range") (hm : X.mg "range" = none) (ha : EvL X [a, b] l p) (hs : starEach [a, b] X.env = [(false, eval a X.env), (false, eval b X.env)]) (hs2 : starEach [b] X.env = [(false, eval b X.env)]) :
    EvI X tg (.Call (.Name "range" np) [a, b] [] pos) q (iRgB l) := ⟨pi_imp (pi_range2 hg hm ha.run hs hs2) fun _ _ _ z => tI_rgB z⟩

/-! ### loops -/
theorem tS_while {c : TF} {b : SF} {D : Ends} (h : tS K pb (sWhile c b) D σ H) : tWhile (tT K c) (tS K pb b) D σ H := by
  obtain ⟨e, F, fl, e', tr, hE, hf, k⟩ := h
  obtain ⟨n, hn⟩ := sWhile_ok hf
  refine ⟨fun m σ1 H1 => ∃ e1, ∃ F1 : Rg, Keeps pb σ σ1 ∧ Post H F H1 F1 (fun _ => False) ∧ RepE K H1 e1 σ1 F1 ∧ whileN c b m e1 = .ok (fl, e'), ⟨n, e, F, .refl, .refl tr, hE, hn⟩, fun m σ1 H1 ⟨e1, F1, kp, P, hE1, hw⟩ => ?_⟩
  cases m with
  | zero => cases hw
  | succ m =>
    unfold whileN at hw
    obtain ⟨⟨t, e2⟩, h1, hw⟩ := Rs.bind_ok hw
    refine ⟨e1, F1, t, e2, P.trkF, hE1, h1, fun H2 F2 hE2 P2 => ?_⟩
    have P12 := (P.trans P2).none
    cases t with
    | false =>
      cases hw
      exact k σ1 H2 F2 kp hE2 P12
    | true =>
      dsimp only at hw ⊢
      rw [if_pos rfl] at hw ⊢
      obtain ⟨⟨f2, e3⟩, h2, hw⟩ := Rs.bind_ok hw
      refine ⟨fun σ' H' => ∃ e1, ∃ F1 : Rg, Keeps pb σ σ' ∧ Post H F H' F1 (fun _ => False) ∧ RepE K H' e1 σ' F1 ∧ whileN c b m e1 = .ok (fl, e'), fun σ' H' q => ⟨m, Nat.lt_succ_self m, q⟩, e2, F2, f2, e3, P12.trkF, hE2, h2, ?_⟩
      cases f2 with
      | nx => exact fun σ' H' F' kp' hE' P' => ⟨e3, F', kp.trans kp', (P12.trans P').none, hE', hw⟩
      | ct => exact fun σ' H' F' kp' hE' P' => ⟨e3, F', kp.trans kp', (P12.trans P').none, hE', hw⟩
      | bk =>
        cases hw
        exact fun σ' H' F' kp' hE' P' => k σ' H' F' (kp.trans kp') hE' (P12.trans P').none
      | rt o =>
        cases hw
        exact fun v σ' H' F' R kp' hE' r P' => k v σ' H' F' R (kp.trans kp') hE' r ((P12.trans P').mono fun _ z => .inr z)
theorem evs_while {c : Expr} {body : List Stmt} {tc : TF} {s : SF} {pos : Pos} (hp : PassesOwn (model X.prog X.w) X.A X.env X.xe) (hc : EvT X c tc) (hb : EvSs X pb body s) : EvS X pb (.While c body [] pos) (sWhile tc s) :=
  ⟨ps_imp (ps_while hp hc.run hb.run) fun _ _ _ h => tS_while h⟩
theorem tS_for {i : IF} {q : Pat} {b : SF} {D : Ends} (h : tS K pb (sFor pb i q b) D σ H) : tFor (tI K q i) (gP K pb q) (tS K pb b) D σ H := by
  obtain ⟨e, F, fl, e', tr, hE, hf, k⟩ := h
  unfold sFor at hf
  obtain ⟨⟨ds, e1⟩, h1, hf⟩ := Rs.bind_ok hf
  refine ⟨e, F, ds, e1, tr, hE, h1, fun J H1 F1 hE1 P1 it => ?_⟩
  have k1 := k.later .refl P1
  refine ⟨fun n m σ2 H2 => m = ds.length - n ∧ n ≤ ds.length ∧ ∃ e2, ∃ F2 : Rg, Keeps pb σ σ2 ∧ Post H1 F1 H2 F2 (fun _ => False) ∧ RepE K H2 e2 σ2 F2 ∧ forN pb q b (ds.drop n) e2 = .ok (fl, e'),
    ⟨ds.length, rfl, Nat.zero_le _, e1, F1, .refl, .refl P1.trkF, hE1, hf⟩, fun n m σ2 H2 ⟨hm, hn, e2, F2, kp, P2, hE2, hw⟩ => ?_⟩
  obtain ⟨go, stop⟩ := it H2 P2.keep
  by_cases hl : n = ds.length
  · subst hl
    rw [List.drop_length] at hw
    cases hw
    exact .inl ⟨stop, k1 σ2 H2 F2 kp hE2 P2⟩
  · have hn' : n < ds.length := by omega
    rw [List.drop_eq_getElem_cons hn'] at hw
    unfold forN at hw
    obtain ⟨e3, g1, hw⟩ := Rs.bind_ok hw
    obtain ⟨⟨f2, e4⟩, g2, hw⟩ := Rs.bind_ok hw
    obtain ⟨gg, yl⟩ := go n ds[n] (List.getElem?_eq_getElem hn')
    refine .inr ⟨gg, fun σ' H' => ∃ e5, ∃ F5 : Rg, Keeps pb σ σ' ∧ Post H1 F1 H' F5 (fun _ => False) ∧ RepE K H' e5 σ' F5 ∧ forN pb q b (ds.drop (n + 1)) e5 = .ok (fl, e'), fun σ' H' z => ⟨ds.length - (n + 1), by omega, rfl, by omega, z⟩, fun x H3 hy => ?_⟩
    obtain ⟨sm, lk⟩ := yl x H3 hy
    have kp3 : Keep H2 H3 := .of sm
    have P3 : Post H1 F1 H3 F2 (fun _ => False) := ⟨P2.keep.trans kp3, fun b u e n => sm b u (P2.frm b u e n), P2.new, P2.dis, fun b h => by obtain ⟨u, e⟩ := P2.trk b h; exact ⟨u, sm b u e⟩⟩
    refine ⟨e2, F2, ds[n], e3, RepE.frame kp3 (fun b u _ e => sm b u e) hE2, lk pb e2 e3 g1, g1, fun σ4 F4 on m4 hE4 => ?_⟩
    have kp4 := kp.trans (on.keeps (patSet_pb g1))
    have P4 := P3.fmono m4
    refine ⟨e3, F4, f2, e4, P4.trkF, hE4, g2, ?_⟩
    cases f2 with
    | nx => exact fun σ' H' F' kp' hE' P' => ⟨e4, F', kp4.trans kp', (P4.trans P').none, hE', hw⟩
    | ct => exact fun σ' H' F' kp' hE' P' => ⟨e4, F', kp4.trans kp', (P4.trans P').none, hE', hw⟩
    | bk =>
      cases hw
      exact fun σ' H' F' kp' hE' P' => k1 σ' H' F' (kp4.trans kp') hE' (P4.trans P').none
    | rt o =>
      cases hw
      exact fun v σ' H' F' R kp' hE' r P' => k1 v σ' H' F' R (kp4.trans kp') hE' r ((P4.trans P').mono fun _ z => .inr z)
theorem evs_for {tg iter : Expr} {body : List Stmt} {i : IF} {q : Pat} {s : SF} {pos : Pos} (hp : PassesOwn (model X.prog X.w) X.A X.env X.xe) (hc : X.calm = true) (hi : EvI X tg iter q i) (hg : EvG X pb tg q) (hb : EvSs X pb body s)
    (hs : ∀ x, foldedSetIterable iter X.env x = pure x) : EvS X pb (.For tg iter body [] pos) (sFor pb i q s) := ⟨ps_imp (ps_for hp hc hi.run hg.run hb.run hs) fun _ _ _ h => tS_for h⟩
theorem tE_frz {f : EF} {p : Bool} {Q : VK} (h : tE K (eFrz f) false σ H Q) : tE K f p σ H fun v H1 => Frzs (Q v) H1 := by
  obtain ⟨e, F, w, e', t, hE, hf, k⟩ := h
  unfold eFrz at hf
  obtain ⟨⟨w1, e1⟩, h1, hf⟩ := Rs.bind_ok hf
  obtain ⟨⟨d, e2⟩, h2, hf⟩ := Rs.bind_ok hf
  cases hf
  refine ⟨e, F, w1, e1, t, hE, h1, fun v H1 F1 R1 a b P _ => frozW_ok a b P.dis h2 fun H2 F2 fr m hE2 fz => .now ?_⟩
  exact k v H2 F2 (fun _ => False) hE2 fz (P.frz fr m fun _ z => z.elim) (fun z => nomatch z)
theorem eve_frz {ex : Expr} {f : EF} {p : Bool} (h : EvE X ex f p) : EvE X ex (eFrz f) false := ⟨pe_imp (pe_frzs h.run) fun _ _ _ z => tE_frz z⟩
end
end Ev

set_option Elab.async false
set_option linter.all false
set_option maxRecDepth 100000
/-! Ev: list comprehensions. -/
namespace Ev
open PySem PySem.Spec PyProof.Rows L2
section
variable {X : Cx} {K : PySem.W.Frag} {σ σ1 : L2.St} {H H1 : Hp} {pb : List Nat}
theorem RepE.hole : ∀ {os : List O} {xs : L2.St} {F : Rg} (k : Nat) (x : Option V), RepE K H os xs F → RepE K H (os.set k .hole) (xs.set k x) F
  | [], xs, F, k, x, h => by
    unfold RepE at h
    subst h
    show RepE K H [] ([].set k x) F
    unfold RepE
    rfl
  | o :: os, xs, F, 0, x, h => by
    unfold RepE at h
    obtain ⟨y, r, G, rfl, h1, h2⟩ := h
    show RepE K H (.hole :: os) (x :: r) F
    unfold RepE
    exact ⟨x, r, G, rfl, trivial, h2⟩
  | o :: os, xs, F, k + 1, x, h => by
    unfold RepE at h
    obtain ⟨y, r, G, rfl, h1, h2⟩ := h
    show RepE K H (o :: os.set k .hole) (y :: r.set k x) F
    unfold RepE
    exact ⟨y, _, G, rfl, h1, RepE.hole k x h2⟩
theorem RepE.wipe {e : Env} {F : Rg} (h : RepE K H e σ F) : ∀ vs : List Nat, RepE K H (wipeE vs e) (L2.wipe σ vs) F
  | [] => h
  | v :: vs => RepE.hole v none (RepE.wipe h vs)
theorem wipe_get {i : Nat} : ∀ {vs : List Nat}, i ∉ vs → (L2.wipe σ vs)[i]? = σ[i]?
  | [], _ => rfl
  | v :: vs, h => by
    unfold L2.wipe
    rw [List.mem_cons, not_or] at h
    rw [List.getElem?_set_ne (Ne.symm h.1), wipe_get h.2]
theorem wipe_in {i : Nat} : ∀ {vs : List Nat}, i ∈ vs → i < σ.length → (L2.wipe σ vs)[i]? = some none
  | v :: vs, h, l => by
    unfold L2.wipe
    by_cases e : v = i
    · subst e
      rw [List.getElem?_set_self (by rw [wipe_length]; exact l)]
    · rw [List.getElem?_set_ne e]
      exact wipe_in ((List.mem_cons.mp h).resolve_left (Ne.symm e)) l
theorem wipe_only {σ2 : L2.St} {is vs : List Nat} (o : Only is (L2.wipe σ vs) σ2) (s : ∀ i ∈ is, i ∈ vs) : L2.wipe σ2 vs = L2.wipe σ vs := by
  refine List.ext_getElem? fun i => ?_
  have hl : σ2.length = σ.length := by rw [o.1, wipe_length]
  by_cases h : i ∈ vs
  · by_cases l : i < σ.length
    · rw [wipe_in h l, wipe_in h (by rw [hl]; exact l)]
    · rw [List.getElem?_eq_none (by rw [wipe_length, hl]; omega), List.getElem?_eq_none (by rw [wipe_length]; omega)]
  · rw [wipe_get h, o.2 i fun z => h (s i z)]
theorem backE_ok {e1 : Env} {F2 : Rg} (h0 : e1.length = σ.length) (h1 : ∀ (v : Nat) (d : PyData), e1[v]? = some (O.val d) → ∃ x, σ[v]? = some (some x) ∧ Fz K H d x) : ∀ {vs : List Nat} {e2 e3 : Env} {σ' : L2.St}, σ'.length = σ.length → (∀ i, i ∉ vs → σ'[i]? = σ[i]?) → RepE K H e2 σ' F2 → backE e1 vs e2 = .ok e3 → RepE K H e3 σ F2
  | [], e2, e3, σ', l, a, h, hb => by
    cases hb
    have : σ' = σ := List.ext_getElem? fun i => a i (by simp)
    rwa [← this]
  | v :: vs, e2, e3, σ', l, a, h, hb => by
    unfold backE at hb
    have ag : ∀ x, σ[v]? = some x → ∀ i, i ∉ vs → (σ'.set v x)[i]? = σ[i]? := fun x hx i hi => by
      by_cases e : v = i
      · subst e
        have lt : v < σ'.length := by rw [l]; exact (List.getElem?_eq_some_iff.mp hx).1
        rw [List.getElem?_set_self lt, hx]
      · rw [List.getElem?_set_ne e]
        exact a i (by simp [Ne.symm e, hi])
    split at hb
    · rename_i d hd
      obtain ⟨x, k1, k2⟩ := h1 v d hd
      have k2' : Rep K H (.val d) x (fun _ => False) := by unfold Rep; exact k2
      have h' : RepE K H (e2.set v (.val d)) (σ'.set v (some x)) F2 := RepE.mono (fun b q => q.elim id False.elim) (RepE.put (RepE.drop v h) k2' fun _ _ z => z)
      exact backE_ok h0 h1 (by rw [List.length_set]; exact l) (ag _ k1) h' hb
    · rename_i hd
      have hv : v < σ.length := by
        rw [← h0]; exact (List.getElem?_eq_some_iff.mp hd).1
      exact backE_ok h0 h1 (by rw [List.length_set]; exact l) (ag _ (List.getElem?_eq_getElem hv)) (RepE.hole v _ h) hb
    · cases hb
theorem tE_lc {i : IF} {vs : List Nat} {q : Pat} {c : TF} {f : EF} {p : Bool} {Q : VK} (sub : ∀ j ∈ q.slots, j ∈ vs) (h : tE K (eLc i vs q c f) false σ H Q) :
    tLc (tI K q i) (gP K [] q) (tT K c) (fun σ H Q => tE K f p σ H fun v H1 => Frzs (Q v) H1) vs σ H Q := by
  obtain ⟨e, F, w, e', tr, hE, hf, k⟩ := h
  unfold eLc at hf
  obtain ⟨⟨ds, e1⟩, h1, hf⟩ := Rs.bind_ok hf
  obtain ⟨⟨os, e2⟩, h2, hf⟩ := Rs.bind_ok hf
  obtain ⟨e3, h3, hf⟩ := Rs.bind_ok hf
  cases hf
  refine ⟨e, F, ds, e1, tr, hE, h1, fun J H1 F1 hE1 P1 it D nD => ?_⟩
  have nF : ¬ F1 D := fun z => by obtain ⟨u, q⟩ := P1.trk D (.inl z); rw [nD] at q; cases q
  have same1 : Same2 H1 (upd H1 D (.lst [])) := fun b u e => by rw [upd_ne (ne_of_none e nD)]; exact e
  refine ⟨fun n m H2 => m = ds.length - n ∧ n ≤ ds.length ∧ ∃ e2', ∃ F2 RA : Rg, ∃ acc xs, H2 D = some (.lst xs) ∧ RepL K H2 acc xs RA ∧ ¬ RA D ∧ ¬ F2 D ∧ RepE K H2 e2' (L2.wipe σ vs) F2 ∧ Post H1 F1 H2 F2 (fun b => RA b ∨ b = D) ∧
    lcN vs q c f (ds.drop n) acc e2' = .ok (os, e2), ⟨ds.length, rfl, Nat.zero_le _, wipeE vs e1, F1, fun _ => False, [], [], upd_same, by unfold RepL; rfl, id, nF, RepE.frame (.of same1) (fun b u _ e => same1 b u e) (RepE.wipe hE1 vs), ?_, h2⟩, ?_⟩
  · exact ((Fresh.post P1.trkF (fresh_upd nD)).mono fun b q => q.elim False.elim id)
  · rintro n m H2 ⟨hm, hn, e4, F2, RA, acc, xs, hD, hA, nRA, nF2, hE2, P2, hw⟩
    obtain ⟨go, stop⟩ := it H2 P2.keep
    by_cases hl : n = ds.length
    · subst hl
      rw [List.drop_length] at hw
      cases hw
      refine .inl ⟨stop, k (.ref D) H2 F2 (fun b => RA b ∨ b = D) ?_ ?_ ((P1.trans P2).mono fun b q => .inr q) (fun z => nomatch z)⟩
      · refine backE_ok (RepE.length hE1) (fun v d hd => ?_) (by rw [wipe_length]) (fun i hi => wipe_get hi) hE2 h3
        obtain ⟨x, G, k1, k2, _⟩ := hE1.out hd (fun z => nomatch z)
        unfold Rep at k2
        exact ⟨x, k1, Fz.keep P2.keep _ _ k2⟩
      · show Rep K H2 (.lst os) (.ref D) _
        unfold Rep
        exact ⟨D, xs, rfl, .inr rfl, hD, RepL.mono _ _ _ _ (fun b q => ⟨.inl q, fun z => nRA (z ▸ q)⟩) hA⟩
    · have hn' : n < ds.length := by omega
      rw [List.drop_eq_getElem_cons hn'] at hw
      unfold lcN at hw
      obtain ⟨e5, g1, hw⟩ := Rs.bind_ok hw
      obtain ⟨⟨t, e6⟩, g2, hw⟩ := Rs.bind_ok hw
      obtain ⟨gg, yl⟩ := go n ds[n] (List.getElem?_eq_getElem hn')
      refine .inr ⟨gg, fun H' => ∃ e2', ∃ F2 RA : Rg, ∃ acc xs, H' D = some (.lst xs) ∧ RepL K H' acc xs RA ∧ ¬ RA D ∧ ¬ F2 D ∧ RepE K H' e2' (L2.wipe σ vs) F2 ∧ Post H1 F1 H' F2 (fun b => RA b ∨ b = D) ∧
        lcN vs q c f (ds.drop (n + 1)) acc e2' = .ok (os, e2), fun H' z => ⟨ds.length - (n + 1), by omega, rfl, by omega, z⟩, fun x H3 hy => ?_⟩
      obtain ⟨sm, lk⟩ := yl x H3 hy
      have kp3 : Keep H2 H3 := .of sm
      have P3 : Post H1 F1 H3 F2 (fun b => RA b ∨ b = D) := ⟨P2.keep.trans kp3, fun b u e n => sm b u (P2.frm b u e n), P2.new, P2.dis, fun b h => by obtain ⟨u, e⟩ := P2.trk b h; exact ⟨u, sm b u e⟩⟩
      have hA3 : RepL K H3 acc xs RA := RepL.frame kp3 _ _ _ (fun b u _ e => sm b u e) hA
      refine ⟨e4, F2, ds[n], e5, RepE.frame kp3 (fun b u _ e => sm b u e) hE2, lk [] e4 e5 g1, g1, fun σ4 F4 on m4 hE4 => ⟨wipe_only on sub, ?_⟩⟩
      have hwp : L2.wipe σ4 vs = L2.wipe σ vs := wipe_only on sub
      have P4 := P3.fmono m4
      refine ⟨e5, F4, t, e6, P4.trkF, hE4, g2, fun H5 F5 hE5 P5 => ?_⟩
      have hold5 : ∀ b u, (RA b ∨ b = D) → H3 b = some u → H5 b = some u := fun b u q e => P4.hold P5 b u q e
      have P45 : Post H1 F1 H5 F5 (fun b => RA b ∨ b = D) := (P4.trans P5).mono fun b q => .inl q
      have hD5 : H5 D = some (.lst xs) := hold5 D _ (.inr rfl) (sm D _ hD)
      have hA5 : RepL K H5 acc xs RA := RepL.frame P5.keep _ _ _ (fun b u q e => hold5 b u (.inl q) e) hA3
      cases t with
      | false =>
        dsimp only at hw ⊢
        rw [if_neg Bool.false_ne_true] at hw ⊢
        exact ⟨wipeE vs e6, F5, RA, acc, xs, hD5, hA5, nRA, fun z => P45.dis D z (.inr rfl), by rw [← hwp]; exact RepE.wipe hE5 vs, P45, hw⟩
      | true =>
        dsimp only at hw ⊢
        rw [if_pos rfl] at hw ⊢
        obtain ⟨⟨w, e7⟩, g3, hw⟩ := Rs.bind_ok hw
        obtain ⟨⟨o, e8⟩, g4, hw⟩ := Rs.bind_ok hw
        obtain ⟨_, g5, hw⟩ := Rs.bind_ok hw
        have g5 : acc.length < 16777216 := of_decide_eq_true (Rs.chk_ok g5)
        refine ⟨e6, F5, w, e7, P45.trkF, hE5, g3, fun y H7 F7 R7 hE7 hW7 P7 _ => ?_⟩
        refine storeW_ok hE7 hW7 P7.dis g4 fun H8 S sF fz hE8 hr _ => .now ?_
        have P78 : Post H5 F5 H8 (fun b => F7 b ∧ ¬ S b) R7 := P7.frz (fz.rel.mono fun b q => .inl (sF b q)) (fun b q => q.1) fun _ q => q
        have P8 := P45.trans P78
        have hold8 := P45.hold P78
        have hD8 : H8 D = some (.lst xs) := hold8 D _ (.inr rfl) hD5
        have hA8 : RepL K H8 acc xs RA := RepL.frame P78.keep _ _ _ (fun b u q e => hold8 b u (.inl q) e) hA5
        have nF8 : ¬ (F7 D ∧ ¬ S D) := fun z => P8.dis D z (.inl (.inr rfl))
        have nR7 : ¬ R7 D := fun z => P45.apart P78 D (.inr rfl) z
        have kp9 : Keep H8 (upd H8 D (.lst (xs ++ [y]))) := keep_lst hD8
        refine ⟨xs, hD8, by rw [← RepL.length hA8, sizeLine_eq]; exact g5, wipeE vs e8, fun b => F7 b ∧ ¬ S b, fun b => RA b ∨ R7 b, acc ++ [o], xs ++ [y], upd_same, ?_, fun z => z.elim nRA nR7, nF8, ?_, ?_, hw⟩
        · refine RepL.append (RepL.frame kp9 _ _ _ (fun b u q e => by rw [upd_ne (show b ≠ D from fun z => nRA (z ▸ q))]; exact e) hA8) (rep_one (Rep.frame kp9 _ _ _ (fun b u q e => by rw [upd_ne (show b ≠ D from fun z => nR7 (z ▸ q))]; exact e) hr)) fun b q z => P45.apart P78 b (.inl q) z
        · rw [← hwp]
          exact RepE.wipe (RepE.frame kp9 (fun b u q e => by rw [upd_ne (show b ≠ D from fun z => nF8 (z ▸ q))]; exact e) hE8) vs
        · refine ⟨P8.keep.trans kp9, fun b u e n => ?_, fun b h => P8.new b (h.imp id fun h => ?_), fun b f h => P8.dis b f ?_, fun b h => ?_⟩
          · rw [upd_ne (ne_of_none e nD)]
            exact P8.frm b u e n
          · rcases h with (h | h) | h
            · exact .inl (.inl h)
            · exact .inr h
            · exact .inl (.inr h)
          · rcases h with (h | h) | h
            · exact .inl (.inl h)
            · exact .inr h
            · exact .inl (.inr h)
          · have : ∃ u, H8 b = some u := P8.trk b (h.imp id fun h => by
              rcases h with (h | h) | h
              · exact .inl (.inl h)
              · exact .inr h
              · exact .inl (.inr h))
            obtain ⟨u, e⟩ := this
            exact trk_upd b u e
end
section
variable {X : Cx} {pb : List Nat}
theorem eve_lc {elt tg iter : Expr} {ifs : List Expr} {scope : Scope} {own : List (Str × Nat)} {pos : Pos} {i : IF} {q : Pat} {c : TF} {f : EF} {p : Bool} (hc : X.calm = true) (hN : X.N.Nodup) (sub : ∀ j ∈ q.slots, j ∈ own.map (·.2)) (hi : EvI X tg iter q i) (ok : BlkOk X.N X.env.scope scope own)
    (hg : ∀ (s : Shared) (H : Hp) (C : Addr) (cl : List (Str × Addr)) (fp : List Addr), EvG (X.blk s H scope (compEnvC scope cl C X.env) fp) [] tg q) (ht : ∀ (s : Shared) (H : Hp) (C : Addr) (cl : List (Str × Addr)) (fp : List Addr), PTs (X.blk s H scope (compEnvC scope cl C X.env) fp) ifs (tT X.K c))
    (he : ∀ (s : Shared) (H : Hp) (C : Addr) (cl : List (Str × Addr)) (fp : List Addr), EvE (X.blk s H scope (compEnvC scope cl C X.env) fp) elt f p) (hs : ∀ x, foldedSetIterable iter X.env x = pure x) :
    EvE X (.ListComp elt [⟨tg, iter, ifs, 0⟩] scope pos) (eLc i (own.map (·.2)) q c f) false :=
  ⟨pe_imp (pe_lc hc hN hi.run ok (fun s H C cl fp => (hg s H C cl fp).run) ht (fun s H C cl fp => pe_frzs (he s H C cl fp).run) hs) fun _ _ _ z => tE_lc sub z⟩
theorem tT_yes {K : PySem.W.Frag} {σ : L2.St} {H : Hp} {Q : Bool → Hp → Prop} (h : tT K cYes σ H Q) : tYes σ H Q := by
  obtain ⟨e, F, b, e', t, hE, hf, k⟩ := h
  cases hf
  exact k H F hE (.refl t)
theorem pts_imp {ifs : List Expr} {t u : TT} (h : PTs X ifs t) (i : ∀ σ H Q, u σ H Q → t σ H Q) : PTs X ifs u := ⟨fun pins s σ H Q I q => h.run pins s σ H Q I (i σ H Q q)⟩
theorem evts_nil : PTs X [] (tT X.K cYes) := pts_imp pts_nil fun _ _ _ h => tT_yes h
theorem evts_one {c : Expr} {t : TF} (h : EvT X c t) : PTs X [c] (tT X.K t) := pts_one h.run
/-- name = [..] on one line -/
theorem evs_setLc {i : Nat} {y : Str} {py : Pos} {elt tg iter : Expr} {ifs : List Expr} {scope : Scope} {own : List (Str × Nat)} {pos spos : Pos} {it : IF} {q : Pat} {c : TF} {f : EF} {p : Bool} (hc : X.calm = true) (hN : X.N.Nodup) (hy : X.N[i]? = some y) (hyl : X.env.scope.names.lookup y = some .local)
    (hsw : swapsWith (.ListComp elt [⟨tg, iter, ifs, 0⟩] scope pos) (some (.Name y py)) spos.line X.env = pure true) (sub : ∀ j ∈ q.slots, j ∈ own.map (·.2)) (hi : EvI X tg iter q it) (ok : BlkOk X.N X.env.scope scope own)
    (hg : ∀ (s : Shared) (H : Hp) (C : Addr) (cl : List (Str × Addr)) (fp : List Addr), EvG (X.blk s H scope (compEnvC scope cl C X.env) fp) [] tg q) (ht : ∀ (s : Shared) (H : Hp) (C : Addr) (cl : List (Str × Addr)) (fp : List Addr), PTs (X.blk s H scope (compEnvC scope cl C X.env) fp) ifs (tT X.K c))
    (he : ∀ (s : Shared) (H : Hp) (C : Addr) (cl : List (Str × Addr)) (fp : List Addr), EvE (X.blk s H scope (compEnvC scope cl C X.env) fp) elt f p) (hs : ∀ x, foldedSetIterable iter X.env x = pure x) :
    EvS X pb (.Assign [.Name y py] (.ListComp elt [⟨tg, iter, ifs, 0⟩] scope pos) spos) (sAsg pb i (eLc it (own.map (·.2)) q c f)) :=
  ⟨ps_imp (ps_setLc hc hN hy hyl hsw hi.run ok (fun s H C cl fp => (hg s H C cl fp).run) ht (fun s H C cl fp => pe_frzs (he s H C cl fp).run) hs) fun D σ H h => by
    obtain ⟨e, F, fl, e', tr, hE, hf, k⟩ := h
    unfold sAsg at hf
    obtain ⟨⟨w, e1⟩, h1, hf⟩ := Rs.bind_ok hf
    obtain ⟨⟨o, e2⟩, h2, hf⟩ := Rs.bind_ok hf
    obtain ⟨e3, h3, hf⟩ := Rs.bind_ok hf
    cases hf
    refine tE_lc (p := p) sub ⟨e, F, w, _, tr, hE, h1, fun v H' F' R a b P _ => ?_⟩
    -- a new list is not frozen
    have hw : ∃ os, w = .own (.lst os) := by
      unfold eLc at h1
      obtain ⟨⟨ds, e1'⟩, g1, h1⟩ := Rs.bind_ok h1
      obtain ⟨⟨os, e2'⟩, g2, h1⟩ := Rs.bind_ok h1
      obtain ⟨e3', g3, h1⟩ := Rs.bind_ok h1
      cases h1
      exact ⟨os, rfl⟩
    obtain ⟨os, rfl⟩ := hw
    cases h2
    obtain ⟨ni, hE3⟩ := setN_ok h3 a b P.dis
    refine k _ H' _ (Only.set.keeps (by simpa using ni)) hE3 ⟨P.keep, P.frm, fun b h => ?_, fun b f r => r, fun b h => ?_⟩
    · rcases h with h | h
      · exact P.new b h
      · exact h.elim
    · rcases h with h | h
      · exact P.trk b h
      · exact h.elim⟩
end
end Ev

set_option Elab.async false
set_option linter.all false
set_option maxRecDepth 100000
/-! Ev: functions of the text and their calls. -/
namespace Ev
open PySem PySem.Spec PyProof.Rows L2
/-- what a function promises -/
def spF (K : PySem.W.Frag) (F : Fn) (vs : List V) (H : Hp) (Q : VK) : Prop :=
  ∃ os, ∃ G : Rg, ∃ r os', Trk H G ∧ RepL K H os vs G ∧ F os = .ok (r, os') ∧ ∀ v H' (G' R' : Rg), RepL K H' os' vs G' → Rep K H' r v R' → Post H G H' G' R' → Q v H'
structure FnG (P : Program) (w : World) (K : PySem.W.Frag) (mg : Str → Option Value) (base : Heap) (k : Nat) (f : Addr) (fd : FuncData) (ps : List Str) (F : Fn) : Prop where
  len : ∀ os r, F os = .ok r → os.length = ps.length ∧ r.2.length = os.length
  run : ∀ (B : Around) (fr : List PySem.Env) (s : Shared) (H : Hp) (args : Args) (us : List Value) (vs : List V) (Q : VK), Room k B → B.guards = some [] → Env0 P w K mg base B fr s H → BindsTo s fd args (ps.zip us) → Vals vs us → spF K F vs H Q →
    codeAny (model P w) B (.call (.ref f) args) (CR C8.CX0 fr P w H s Q C8.E0) s
section
variable {X : Cx} {K : PySem.W.Frag} {σ σ1 : L2.St} {H H1 : Hp} {pb : List Nat}
theorem takeW_slot {w : W} {e e' : Env} {o : O} {j : Nat} (h : takeW w e = .ok (o, e')) (n : ∀ i p, w = .at i p → i ≠ j) : e'[j]? = e[j]? := by
  cases w with
  | val d => cases h; rfl
  | own d => cases h; rfl
  | «at» i p =>
    unfold takeW at h
    obtain ⟨c, h1, h⟩ := Rs.bind_ok h
    cases h
    split
    · unfold eput
      split
      · exact List.getElem?_set_ne (n i p rfl)
      · rfl
    · rfl
theorem takeL_slot {j : Nat} : ∀ {ws : List W} {e e' : Env} {os : List O}, takeL ws e = .ok (os, e') → j ∉ slotsOf ws → e'[j]? = e[j]?
  | [], e, e', os, h, n => by cases h; rfl
  | w :: ws, e, e', os, h, n => by
    unfold takeL at h
    obtain ⟨⟨o, e1⟩, h1, h⟩ := Rs.bind_ok h
    obtain ⟨⟨os', e2⟩, h2, h⟩ := Rs.bind_ok h
    cases h
    have a : j ∉ slotsOf ws ∧ ∀ i p, w = .at i p → i ≠ j := by
      cases w with
      | val d => exact ⟨n, fun i p z => nomatch z⟩
      | own d => exact ⟨n, fun i p z => nomatch z⟩
      | «at» i p =>
        unfold slotsOf at n
        rw [List.mem_cons, not_or] at n
        exact ⟨n.2, fun i' p' z => by cases z; exact Ne.symm n.1⟩
    rw [takeL_slot h2 a.1, takeW_slot h1 a.2]
theorem eput_slot {e : Env} {i j : Nat} {p : List Nat} {o : O} (n : i ≠ j) : (eput e i p o)[j]? = e[j]? := by
  unfold eput
  split
  · exact List.getElem?_set_ne n
  · rfl
theorem giveL_slot {j : Nat} : ∀ {ws : List W} {os os' : List O} {e : Env}, j ∉ slotsOf ws → (giveL ws os os' e)[j]? = e[j]?
  | [], os, os', e, n => by unfold giveL; rfl
  | w :: ws, [], os', e, n => by unfold giveL; rfl
  | w :: ws, o :: os, [], e, n => by unfold giveL; rfl
  | w :: ws, o :: os, o' :: os', e, n => by
    unfold giveL
    cases w with
    | val d => exact giveL_slot (ws := ws) n
    | own d => exact giveL_slot (ws := ws) n
    | «at» i p =>
      unfold slotsOf at n
      rw [List.mem_cons, not_or] at n
      unfold giveW
      dsimp only
      split
      · rw [eput_slot (Ne.symm n.1)]
        exact giveL_slot (ws := ws) n.2
      · exact giveL_slot (ws := ws) n.2
/-- an environment in which only a slot's part is empty -/
theorem eput_back {e e1 : Env} {i : Nat} {p : List Nat} {x : O} (hi : e[i]? = some x) (h1 : e1[i]? = some (x.put p .hole)) : eput (e1.set i x) i p .hole = e1 ∧ ∀ o, eput (e1.set i x) i p o = e1.set i (x.put p o) := by
  have l : i < e1.length := (List.getElem?_eq_some_iff.mp h1).1
  have g : (e1.set i x)[i]? = some x := List.getElem?_set_self l
  refine ⟨?_, fun o => ?_⟩
  · unfold eput
    rw [g]
    show (e1.set i x).set i (x.put p .hole) = e1
    rw [List.set_set]
    exact set_same h1
  · unfold eput
    rw [g]
    show (e1.set i x).set i (x.put p o) = _
    rw [List.set_set]
theorem put_nil (x o : O) : x.put [] o = o := by cases x <;> rfl
theorem put_cons {x y : O} {k : Nat} {p : List Nat} {o : O} (h : x.sub k = some y) : x.put (k :: p) o = x.setSub k (y.put p o) := by
  cases x <;> (rw [O.put, h])
theorem put_put {c : O} : ∀ {p : List Nat} {x : O} {a b : O}, x.get p = some c → (x.put p a).put p b = x.put p b
  | [], x, a, b, h => by rw [put_nil, put_nil]
  | k :: p, x, a, b, h => by
    rw [O.get] at h
    cases hs : x.sub k with
    | none => rw [hs] at h; cases h
    | some y =>
      rw [hs] at h
      have h : y.get p = some c := h
      rw [put_cons hs, put_cons hs]
      have s2 : (x.setSub k (y.put p a)).sub k = some (y.put p a) := O.sub_set hs
      rw [put_cons s2, O.setSub_setSub, put_put h]
theorem takes_ok : ∀ {ws : List W} {vs : List V} {e e2 : Env} {F R : Rg} {os : List O}, (slotsOf ws).Nodup → Trk H F → RepE K H e σ F → RepWs K H σ e ws vs R → (∀ b, F b → R b → False) → takeL ws e = .ok (os, e2) →
    ∃ G : Rg, (∀ b, G b → F b ∨ R b) ∧ RepL K H os vs G ∧ RepE K H e2 σ (fun b => F b ∧ ¬ G b) ∧
      ∀ H' os' (G' : Rg), Keep H H' → (∀ b u, H b = some u → F b → ¬ G b → H' b = some u) → RepL K H' os' vs G' → (∀ b, (F b ∧ ¬ G b) → G' b → False) → RepE K H' (giveL ws os os' e2) σ (fun b => (F b ∧ ¬ G b) ∨ G' b)
  | [], vs, e, e2, F, R, os, nd, tr, hE, hW, dis, hs => by
    cases hs
    refine ⟨fun _ => False, fun _ z => z.elim, by unfold RepL; exact hW, RepE.mono (fun b q => ⟨q, id⟩) hE, fun H' os' G' kp fm _ _ => ?_⟩
    unfold giveL
    exact RepE.mono (fun b q => .inl ⟨q, id⟩) (RepE.frame kp (fun b u q e => fm b u e q id) hE)
  | w :: ws, vs, e, e2, F, R, os, nd, tr, hE, ⟨x, r, A, e0, hw, hW⟩, dis, hs => by
    unfold takeL at hs
    obtain ⟨⟨o, e1⟩, h1, hs⟩ := Rs.bind_ok hs
    obtain ⟨⟨os1, e2'⟩, h2, hs⟩ := Rs.bind_ok hs
    cases hs
    subst e0
    obtain ⟨G0, g1, hE1, hr⟩ := takeW_ok hE hw (fun b f q => dis b f q.1) h1
    have nd2 : (slotsOf ws).Nodup := by
      cases w with
      | val d => exact nd
      | own d => exact nd
      | «at» i p => unfold slotsOf at nd; exact (List.nodup_cons.mp nd).2
    -- the others' readings stay
    have hW1 : RepWs K H σ e1 ws r (fun b => R b ∧ ¬ A b) := by
      have go : ∀ {us : List W} {zs : List V} {S : Rg}, (∀ i p, w = .at i p → i ∉ slotsOf us) → RepWs K H σ e us zs S → RepWs K H σ e1 us zs S := by
        intro us
        induction us with
        | nil => intro zs S _ h; exact h
        | cons u us ih =>
          intro zs S n ⟨y, t, B, e3, a1, a2⟩
          have n2 : ∀ i p, w = .at i p → i ∉ slotsOf us := fun i p z m => by
            refine n i p z ?_
            cases u with
            | val d => exact m
            | own d => exact m
            | «at» j q => unfold slotsOf; exact List.mem_cons_of_mem _ m
          refine ⟨y, t, B, e3, ?_, ih n2 a2⟩
          cases u with
          | val d => exact a1
          | own d => exact a1
          | «at» j q =>
            refine ⟨a1.1, fun z => ?_⟩
            obtain ⟨c, c1, c2⟩ := a1.2 z
            refine ⟨c, ?_, c2⟩
            have : e1[j]? = e[j]? := takeW_slot h1 fun i p z2 e4 => n i p z2 (by unfold slotsOf; rw [e4]; exact List.mem_cons_self)
            unfold eget at c1 ⊢
            rw [this]
            exact c1
      refine go (fun i p z m => ?_) hW
      subst z
      unfold slotsOf at nd
      exact (List.nodup_cons.mp nd).1 m
    have tr1 : Trk H (fun b => F b ∧ ¬ G0 b) := fun b q => tr b q.1
    obtain ⟨G1, k1, k2, k3, k4⟩ := takes_ok nd2 tr1 hE1 hW1 (fun b f q => dis b f.1 q.1) h2
    have apart : ∀ b, G0 b → G1 b → False := fun b a c => by
      rcases k1 b c with q | q
      · exact q.2 a
      · rcases g1 b a with z | z
        · exact dis b z q.1
        · exact q.2 z.2
    refine ⟨fun b => G0 b ∨ G1 b, fun b q => ?_, ?_, RepE.mono (fun b q => ⟨q.1.1, fun z => Or.elim z q.1.2 q.2⟩) k3, fun H' os' G' kp fm hL dd => ?_⟩
    · rcases q with q | q
      · exact (g1 b q).imp id fun z => z.1
      · exact (k1 b q).elim (fun z => .inl z.1) fun z => .inr z.1
    · unfold RepL
      exact ⟨x, r, G0, rfl, Rep.mono _ _ _ _ (fun b q => ⟨.inl q, q⟩) hr, RepL.mono _ _ _ _ (fun b q => ⟨.inr q, fun z => apart b z q⟩) k2⟩
    · cases os' with
      | nil => unfold RepL at hL; cases hL
      | cons o' os' =>
        unfold RepL at hL
        obtain ⟨x', r', B, e5, hr', hL'⟩ := hL
        cases e5
        have fm1 : ∀ b u, H b = some u → (F b ∧ ¬ G0 b) → ¬ G1 b → H' b = some u := fun b u e f n => fm b u e f.1 fun z => Or.elim z f.2 n
        have base := k4 H' os' (fun b => G' b ∧ ¬ B b) kp fm1 hL' fun b q z => dd b ⟨q.1.1, fun y => Or.elim y q.1.2 q.2⟩ z.1
        have stay : ∀ {e3 : Env}, RepE K H' e3 σ (fun b => ((F b ∧ ¬ G0 b) ∧ ¬ G1 b) ∨ G' b ∧ ¬ B b) → RepE K H' e3 σ (fun b => (F b ∧ ¬ (G0 b ∨ G1 b)) ∨ G' b) :=
          fun h => RepE.mono (fun b q => q.imp (fun q => ⟨q.1.1, fun z => Or.elim z q.1.2 q.2⟩) fun q => q.1) h
        unfold giveL
        cases w with
        | val d => exact stay base
        | own d => exact stay base
        | «at» i p =>
          unfold giveW
          dsimp only
          by_cases n : isOwn o = true
          · rw [if_pos n]
            unfold takeW at h1
            obtain ⟨c, c1, h1⟩ := Rs.bind_ok h1
            cases h1
            rw [if_pos n] at h2 hE1
            have c1 := Rs.of_ok c1
            obtain ⟨x0, hx0, hg0⟩ : ∃ x0, e[i]? = some x0 ∧ x0.get p = some o := by
              unfold eget at c1
              cases hx : e[i]? with
              | none => rw [hx] at c1; cases c1
              | some x0 => rw [hx] at c1; exact ⟨x0, rfl, c1⟩
            unfold slotsOf at nd
            have ni := (List.nodup_cons.mp nd).1
            have li : i < e.length := (List.getElem?_eq_some_iff.mp hx0).1
            have s1 : (eput e i p .hole)[i]? = some (x0.put p .hole) := by
              unfold eput
              rw [hx0]
              exact List.getElem?_set_self li
            have s2 : e2[i]? = some (x0.put p .hole) := (takeL_slot h2 ni).trans s1
            have s3 : (giveL ws os1 os' e2)[i]? = some (x0.put p .hole) := (giveL_slot ni).trans s2
            obtain ⟨b1, _⟩ := eput_back hx0 s2
            obtain ⟨b2, b3⟩ := eput_back hx0 s3
            have gs : ∀ {e4 : Env}, e4[i]? = some (x0.put p .hole) → eget (e4.set i x0) i p = some o := fun {e4} h4 => by
              unfold eget
              rw [List.getElem?_set_self (List.getElem?_eq_some_iff.mp h4).1]
              exact hg0
            have hE2' : RepE K H' e2 σ (fun b => (F b ∧ ¬ G0 b) ∧ ¬ G1 b) := RepE.frame kp (fun b u q e => fm1 b u e q.1 q.2) k3
            have hp' : PathS H' σ i p x := by
              have h3 : RepE K H' (eput (e2.set i x0) i p .hole) σ (fun b => (F b ∧ ¬ G0 b) ∧ ¬ G1 b) := by rw [b1]; exact hE2'
              refine RepE.pathKept h3 (gs s2) n hw.1 fun b q => ?_
              obtain ⟨u, e⟩ := tr b q.1.1
              rw [e, fm1 b u e q.1 q.2]
            have base2 : RepE K H' (eput ((giveL ws os1 os' e2).set i x0) i p .hole) σ (fun b => ((F b ∧ ¬ G0 b) ∧ ¬ G1 b) ∨ G' b ∧ ¬ B b) := by rw [b2]; exact base
            have fin := RepE.pathBack base2 (gs s3) n hp' hr' fun b q z => q.elim (fun q => dd b ⟨q.1.1, fun y => Or.elim y q.1.2 q.2⟩ z.1) fun q => q.2 z.2
            have eq : eput (giveL ws os1 os' e2) i p o' = eput ((giveL ws os1 os' e2).set i x0) i p o' := by
              rw [b3]
              unfold eput
              rw [s3]
              show (giveL ws os1 os' e2).set i ((x0.put p .hole).put p o') = _
              rw [put_put hg0]
            rw [eq]
            exact RepE.mono (fun b q => q.elim (fun q => q.imp (fun q => ⟨q.1.1, fun z => Or.elim z q.1.2 q.2⟩) fun q => q.1) fun q => .inr q.1) fin
          · rw [if_neg n]
            exact stay base
end
end Ev

set_option Elab.async false
set_option linter.all false
set_option maxRecDepth 100000
/-! Ev: calls of functions of the text; a function by its body. -/
namespace Ev
open PySem PySem.Spec PyProof.Rows L2
section
variable {X : Cx} {K : PySem.W.Frag} {σ σ1 : L2.St} {H H1 H2 : Hp} {pb : List Nat}
/-- behind a callee -/
theorem Post.call {F F1 R1 G G' R' : Rg} (P1 : Post H F H1 F1 R1) (gs : ∀ b, G b → F1 b ∨ R1 b) (P2 : Post H1 G H2 G' R') : Post H F H2 (fun b => (F1 b ∧ ¬ G b) ∨ G' b) R' := by
  have old : ∀ b, G b ∨ H1 b = Option.none → F b ∨ H b = Option.none := fun b h => by
    rcases h with h | h
    · exact P1.new b (gs b h)
    · cases e : H b with
      | none => exact .inr rfl
      | some u =>
        by_cases f : F b
        · exact .inl f
        · rw [P1.frm b u e f] at h; cases h
  refine ⟨P1.keep.trans P2.keep, fun b u e n => ?_, fun b h => ?_, fun b h r => ?_, fun b h => ?_⟩
  · refine P2.frm b u (P1.frm b u e n) fun g => ?_
    rcases P1.new b (gs b g) with z | z
    · exact n z
    · rw [z] at e; cases e
  · rcases h with (h | h) | h
    · exact P1.new b (.inl h.1)
    · exact old b (P2.new b (.inl h))
    · exact old b (P2.new b (.inr h))
  · rcases h with h | h
    · rcases P2.new b (.inr r) with z | z
      · exact h.2 z
      · obtain ⟨u, e⟩ := P1.trk b (.inl h.1); rw [z] at e; cases e
    · exact P2.dis b h r
  · rcases h with (h | h) | h
    · obtain ⟨u, e⟩ := P1.trk b (.inl h.1)
      exact ⟨u, P2.frm b u e h.2⟩
    · exact P2.trk b (.inl h)
    · exact P2.trk b (.inr h)
theorem tE_call {F : Fn} {l : LF} {p : Bool} {Q : VK} (h : tE K (eCall F l) false σ H Q) : tL K l p σ H fun vs H1 => spF K F vs H1 Q := by
  obtain ⟨e, Fr, w, e', tr, hE, hf, k⟩ := h
  unfold eCall at hf
  obtain ⟨⟨ws, e1⟩, h1, hf⟩ := Rs.bind_ok hf
  obtain ⟨_, h2, hf⟩ := Rs.bind_ok hf
  obtain ⟨⟨os, e2⟩, h3, hf⟩ := Rs.bind_ok hf
  obtain ⟨⟨r, os'⟩, h4, hf⟩ := Rs.bind_ok hf
  obtain ⟨_, h5, hf⟩ := Rs.bind_ok hf
  cases hf
  have nd : (slotsOf ws).Nodup := of_decide_eq_true (Rs.chk_ok h2)
  refine ⟨e, Fr, ws, e1, tr, hE, h1, fun vs H1 F1 R1 hE1 hW1 P1 _ => ?_⟩
  obtain ⟨G, gs, kL, kE, kb⟩ := takes_ok nd P1.trkF hE1 hW1 P1.dis h3
  refine ⟨os, G, r, os', fun b g => P1.trk b (gs b g), kL, h4, fun v H2 G' R' hL' hr P2 => ?_⟩
  have P := P1.call gs P2
  refine k v H2 _ R' (kb H2 os' G' P2.keep (fun b u e f n => P2.frm b u e n) hL' fun b q z => ?_) (.mk hr) P (fun z => nomatch z)
  rcases P2.new b (.inl z) with y | y
  · exact q.2 y
  · obtain ⟨u, e⟩ := P1.trk b (.inl q.1); rw [y] at e; cases e
theorem pick_ok {ds : List PyData} {vs : List V} (h : FzAll K H ds vs) : ∀ {idx : List Nat} {os : List O}, pickD ds idx = some os → ∃ ys, RepL K H os ys (fun _ => False) ∧ ys.length = idx.length ∧ ∀ i j : Nat, idx[i]? = some j → ys[i]? = vs[j]?
  | [], os, e => by
    cases e
    exact ⟨[], by unfold RepL; rfl, rfl, fun i j z => nomatch z⟩
  | j :: idx, os, e => by
    unfold pickD at e
    split at e
    · rename_i d os' e1 e2
      cases e
      obtain ⟨x, g1, g2⟩ := FzAll.get h e1
      obtain ⟨ys, k1, k2, k3⟩ := pick_ok h e2
      refine ⟨x :: ys, ?_, by simp [k2], fun i j' z => ?_⟩
      · unfold RepL
        refine ⟨x, ys, fun _ => False, rfl, by unfold Rep; exact g2, RepL.mono _ _ _ _ (fun b q => q.elim) k1⟩
      · cases i with
        | zero => simp at z; subst z; exact g1.symm
        | succ i => exact k3 i j' (by simpa using z)
    · cases e
def tCallKw (K : PySem.W.Frag) (F : Fn) (idx : List Nat) (t : TA) : TE := fun σ H Q => t σ H fun vs H1 => Frzs (fun H2 => ∃ ys, ys.length = idx.length ∧ (∀ i j : Nat, idx[i]? = some j → ys[i]? = vs[j]?) ∧ spF K F ys H2 Q) H1
theorem tE_callK {F : Fn} {idx : List Nat} {l : LF} {p : Bool} {Q : VK} (h : tE K (eCallK F idx l) false σ H Q) : tCallKw K F idx (tL K l p) σ H Q := by
  obtain ⟨e, Fr, w, e', tr, hE, hf, k⟩ := h
  unfold eCallK at hf
  obtain ⟨⟨ws, e1⟩, h1, hf⟩ := Rs.bind_ok hf
  obtain ⟨⟨ds, e2⟩, h2, hf⟩ := Rs.bind_ok hf
  obtain ⟨os, h3, hf⟩ := Rs.bind_ok hf
  obtain ⟨⟨r, os'⟩, h4, hf⟩ := Rs.bind_ok hf
  cases hf
  have h3 := Rs.of_ok h3
  refine ⟨e, Fr, ws, e1, tr, hE, h1, fun vs H1 F1 R1 hE1 hW1 P1 _ => ?_⟩
  refine frozLW_ok hE1 hW1 P1.dis h2 fun H2 F2 fr m hE2 fz => .now ?_
  have P2 : Post H Fr H2 F2 (fun _ => False) := P1.frz fr m fun _ z => z.elim
  obtain ⟨ys, k1, k2, k3⟩ := pick_ok fz h3
  refine ⟨ys, k2, k3, os, fun _ => False, r, os', fun _ z => z.elim, k1, h4, fun v H3 G' R' hL' hr P3 => ?_⟩
  have P := P2.call (G := fun _ => False) (fun _ z => z.elim) P3
  refine k v H3 F2 R' (RepE.frame P3.keep (fun b u q e => P3.frm b u e id) hE2) (.mk hr) (P.fmono fun b q => .inl ⟨q, id⟩) (fun z => nomatch z)
/-- two lists of arguments -/
theorem tL_app {l m : LF} {p q : Bool} {Q : List V → Hp → Prop} (h : tL K (lApp l q m) (p && q) σ H Q) : tL K l p σ H fun vs H1 => tL K m q σ H1 fun zs H2 => Q (vs ++ zs) H2 := by
  obtain ⟨e, F, w, e', tr, hE, hf, k⟩ := h
  unfold lApp at hf
  obtain ⟨⟨ws, e1⟩, h1, hf⟩ := Rs.bind_ok hf
  obtain ⟨_, hc, hf⟩ := Rs.bind_ok hf
  obtain ⟨⟨us, e2⟩, h2, hf⟩ := Rs.bind_ok hf
  cases hf
  have hc := Rs.chk_ok hc
  refine ⟨e, F, ws, e1, tr, hE, h1, fun vs H1 F1 R1 hE1 hW1 P1 pu1 => ⟨e1, F1, us, _, P1.trkF, hE1, h2, fun zs H2 F2 R2 hE2 hW2 P2 pu2 => ?_⟩⟩
  have app : ∀ {ws : List W} {vs : List V} {S : Rg}, (∀ b, S b → R1 b) → (q || ws.all fun w => !w.nested) = true → RepWs K H1 σ e1 ws vs S → RepWs K H2 σ e' (ws ++ us) (vs ++ zs) (fun b => S b ∨ R2 b) := by
    intro ws
    induction ws with
    | nil =>
      intro vs S _ _ h
      have h : vs = [] := h
      subst h
      exact hW2.mono fun b q => .inr q
    | cons w ws ih =>
      intro vs S sub hq ⟨x, r, A, e0, a1, a2⟩
      subst e0
      have hq1 : (q || !w.nested) = true ∧ (q || ws.all fun w => !w.nested) = true := by
        cases q with
        | true => exact ⟨rfl, rfl⟩
        | false =>
          rw [List.all_cons] at hq
          simpa using hq
      have l1 : RepW K H2 σ e' w x (fun b => S b ∧ A b) := a1.later (P1.mono (R' := fun b => S b ∧ A b) fun b z => sub b z.1) P2 pu2 hq1.1
      refine ⟨x, _, fun b => S b ∧ A b, rfl, l1.mono fun b z => ⟨.inl z.1, z⟩, (ih (S := fun b => S b ∧ ¬ A b) (fun b z => sub b z.1) hq1.2 a2).mono fun b z => ?_⟩
      rcases z with z | z
      · exact ⟨.inl z.1, fun y => z.2 y.2⟩
      · exact ⟨.inr z, fun y => P1.apart P2 b (sub b y.1) z⟩
  refine k (vs ++ zs) H2 F2 _ hE2 (app (fun _ z => z) hc hW1) (P1.trans P2) fun z => ?_
  rw [Bool.and_eq_true] at z
  obtain ⟨a1, a2⟩ := pu1 z.1
  obtain ⟨b1, b2⟩ := pu2 z.2
  exact ⟨b1.trans a1, fun b u e => b2 b u (a2 b u e)⟩
end
/-! ### the rules -/
structure EvKs (X : Cx) (kws : List Keyword) (l : LF) (p : Bool) : Prop where
  run : PK X kws (tL X.K l p)
section
variable {X : Cx} {k n : Nat} {f : Addr} {fd : FuncData} {ps ks : List Str} {F : Fn} {x : Str} {np pos kpos : Pos} {e : Expr} {es : List Expr} {kws : List Keyword} {l m : LF} {p q : Bool} {ef : EF} {nm : Option Str}
theorem pk_imp {t u : TA} (h : PK X kws t) (i : ∀ σ H Q, u σ H Q → t σ H Q) : PK X kws u := ⟨fun ps pins s σ H Q I q => h.run ps pins s σ H Q I (i σ H Q q)⟩
theorem evk_nil : EvKs X [] lNil true := ⟨pk_imp pk_nil fun _ _ _ h => tL_nil h⟩
theorem evk_cons (h : EvE X e ef p) (g : EvKs X kws l q) : EvKs X (⟨nm, e, kpos⟩ :: kws) (lCons ef q l) (p && q) := ⟨pk_imp (pk_cons h.run g.run) fun _ _ _ z => tL_cons z⟩
/-- the callee runs -/
theorem run_fng {pins : List (Addr × Obj)} {σ : L2.St} {H : Hp} {s : Shared} {Q : VK} {us ws : List Value} {vs : List V} {bs : List Value} (Fg : FnG X.prog X.w X.K X.mg X.base k f fd ps F) (room : Room k X.A) (gd : X.A.guards = some [])
    (I : Inv X pins σ H s) (bind : BindsTo s fd ⟨us, ks.zip ws⟩ (ps.zip bs)) (r : Vals vs bs) (h : spF X.K F vs H Q) : wpAny (model X.prog X.w) X.A (call (.ref f) us (ks.zip ws)) (EP X pins σ Q) X.xe s := by
  have go := Fg.run X.A X.stack s H ⟨us, ks.zip ws⟩ bs vs Q room gd I.env0 bind r h
  refine wpAny_call (codeAny_mono go fun z s2 hz => ?_)
  match z, hz with
  | .ok (.ret u), hz => exact I.after hz
theorem spF.len {K : PySem.W.Frag} {vs : List V} {H : Hp} {Q : VK} (h : spF K F vs H Q) (L : ∀ os r, F os = .ok r → os.length = ps.length ∧ r.2.length = os.length) : vs.length = ps.length := by
  obtain ⟨os, G, r, os', _, hL, hf, _⟩ := h
  rw [← RepL.length hL]
  exact (L os _ hf).1
theorem eve_call (Fg : FnG X.prog X.w X.K X.mg X.base k f fd ps F) (room : Room k X.A) (gd : X.A.guards = some []) (isg : Gl X x) (at_ : X.mg x = some (.ref f)) (kp : PySem.W.keepIn X.K (.ref f) = true) (bind : Binds X.K fd ps []) (ha : EvL X (e :: es) l p)
    (hdb : (x == ("__debug__" : Str)) = false) (he : starEach (e :: es) X.env = (false, eval e X.env) :: starEach es X.env) (hpl : (backTo pos (starEach es X.env)).any (·.1) = false) : EvE X (.Call (.Name x np) (e :: es) [] pos) (eCall F l) false := by
  refine ⟨⟨fun pins s σ H Q I h => ?_⟩⟩
  refine wpAny_Call_Name_kw (ld_glob I isg at_ (PySem.W.callWith_K (h₀ := X.base) I.ok.mod.kin kp ?_ he hpl) hdb)
  refine thn (ha.run.run pos pins s σ H _ I (tE_call h)) fun us s2 ⟨vs, H2, I2, r, q⟩ => ⟨I2.kIn, ?_⟩
  have hl : (us ++ []).length = ps.length := by rw [List.append_nil, ← r.length]; exact q.len Fg.len
  exact run_fng (ks := []) (ws := []) (bs := us ++ []) Fg room gd I2 (bind s2 us I2.kIn hl) (by rw [List.append_nil]; exact r) q
theorem eve_call0 (Fg : FnG X.prog X.w X.K X.mg X.base k f fd ps F) (room : Room k X.A) (gd : X.A.guards = some []) (isg : Gl X x) (at_ : X.mg x = some (.ref f)) (kp : PySem.W.keepIn X.K (.ref f) = true) (bind : Binds X.K fd ps [])
    (hdb : (x == ("__debug__" : Str)) = false) : EvE X (.Call (.Name x np) [] [] pos) (eCall F lNil) false := by
  refine ⟨⟨fun pins s σ H Q I h => ?_⟩⟩
  have q := tL_nil (tE_call (p := true) h)
  refine wpAny_Call_Name_kw (ld_glob I isg at_ (PySem.W.callWith_K0 I.kIn kp ?_) hdb)
  have hl : (([] : List Value) ++ []).length = ps.length := q.len Fg.len
  exact run_fng (ks := []) (ws := []) (us := []) (bs := []) Fg room gd I (bind s [] I.kIn hl) .nil q
/-- keywords: the arguments written, in the parameters' order -/
theorem vals_pick {vs ys : List V} {us : List Value} {idx : List Nat} {bs : List Value} (r : Vals vs us) (l : ys.length = idx.length) (g : ∀ i j : Nat, idx[i]? = some j → ys[i]? = vs[j]?) (lb : bs.length = idx.length) (b : ∀ i j : Nat, idx[i]? = some j → bs[i]? = us[j]?) (d : ∀ j ∈ idx, j < vs.length) : Vals ys bs := by
  induction idx generalizing ys bs with
  | nil =>
    have e1 := List.eq_nil_of_length_eq_zero l
    have e2 := List.eq_nil_of_length_eq_zero lb
    subst e1 e2
    exact .nil
  | cons j idx ih =>
    cases ys with
    | nil => cases l
    | cons y ys =>
      cases bs with
      | nil => cases lb
      | cons b0 bs =>
        have g0 : some y = vs[j]? := g 0 j rfl
        have b0' : some b0 = us[j]? := b 0 j rfl
        obtain ⟨u, h1, h2⟩ := r.get g0.symm
        rw [← b0'] at h1
        cases h1
        exact .cons h2 (ih (by simpa using l) (fun i j' z => g (i + 1) j' z) (by simpa using lb) (fun i j' z => b (i + 1) j' z) fun j' hj => d j' (List.mem_cons_of_mem _ hj))
def pickV (us : List Value) (idx : List Nat) : List Value := idx.map fun j => us.getD j .none
theorem pickV_ok {us : List Value} {idx : List Nat} (h : ∀ j ∈ idx, j < us.length) : (pickV us idx).length = idx.length ∧ ∀ i j : Nat, idx[i]? = some j → (pickV us idx)[i]? = us[j]? := by
  refine ⟨by simp [pickV], fun i j e => ?_⟩
  unfold pickV
  rw [List.getElem?_map, e]
  have lt := h j (List.mem_of_getElem? e)
  show some (us.getD j .none) = us[j]?
  rw [List.getD_eq_getElem?_getD, List.getElem?_eq_getElem lt]
  rfl
theorem eve_callK0 {idx : List Nat} (Fg : FnG X.prog X.w X.K X.mg X.base k f fd ps F) (room : Room k X.A) (gd : X.A.guards = some []) (isg : Gl X x) (at_ : X.mg x = some (.ref f)) (kp : PySem.W.keepIn X.K (.ref f) = true)
    (bind : ∀ (s : Shared) (ws : List Value), X.K.In s.heap → ws.length = n → BindsTo s fd ⟨[], ks.zip ws⟩ (ps.zip (pickV ws idx))) (sub : idx.all (fun j => decide (j < n)) = true) (hkw : EvKs X kws l p)
    (hlen : ∀ e ws e', l e = .ok (ws, e') → ws.length = n)
    (hall : (backToKw pos (keywordEach kws X.env)).all (·.1.isSome) = true) (hks : (backToKw pos (keywordEach kws X.env)).filterMap (·.1) = ks) (hdb : (x == ("__debug__" : Str)) = false)
    (hpl : ((backTo pos (starEach [] X.env)).any (·.1) || (backToKw pos (keywordEach kws X.env)).any (·.1.isNone)) = false) : EvE X (.Call (.Name x np) [] kws pos) (eCallK F idx l) false := by
  have hsub : ∀ j ∈ idx, j < n := fun j hj => of_decide_eq_true (List.all_eq_true.mp sub j hj)
  refine ⟨⟨fun pins s σ H Q I h => ?_⟩⟩
  have red : tL X.K l p σ H fun vs H1 => vs.length = n ∧ Frzs (fun H2 => ∃ ys : List V, ys.length = idx.length ∧ (∀ i j : Nat, idx[i]? = some j → ys[i]? = vs[j]?) ∧ spF X.K F ys H2 Q) H1 := by
    obtain ⟨e, Fr, ws, e1, tr, hE, h1, kk⟩ := tE_callK (p := p) h
    refine ⟨e, Fr, ws, e1, tr, hE, h1, fun vs H1 F1 R1 a b c d => ⟨?_, kk vs H1 F1 R1 a b c d⟩⟩
    have := hlen _ _ _ h1
    have lw : ∀ {ws : List W} {vs : List V} {S : Rg}, RepWs X.K H1 σ e1 ws vs S → vs.length = ws.length := by
      intro ws
      induction ws with
      | nil => intro vs S h; have h : vs = [] := h; subst h; rfl
      | cons w ws ih => intro vs S ⟨x, r, A, e0, _, a2⟩; subst e0; simp [ih a2]
    rw [lw b, this]
  refine wpAny_Call_Name_kw (ld_glob I isg at_ (PySem.W.callWith_KW0 (h₀ := X.base) I.ok.mod.kin kp hall ?_ hpl) hdb)
  refine thn (hkw.run.run pos pins s σ H _ I red) fun ws s2 ⟨vs, H2, I2, r, lv, q⟩ => ⟨I2.kIn, ?_⟩
  obtain ⟨H3, I3, ys, k1, k2, k3⟩ := frzs_inv q I2
  have lw : ws.length = n := by rw [← r.length, lv]
  obtain ⟨p1, p2⟩ := pickV_ok (us := ws) (idx := idx) fun j hj => by rw [lw]; exact hsub j hj
  rw [hks]
  exact run_fng (us := []) (bs := pickV ws idx) Fg room gd I3 (bind s2 ws I3.kIn lw) (vals_pick r k1 k2 p1 p2 fun j hj => by rw [lv]; exact hsub j hj) k3
end
end Ev

set_option Elab.async false
set_option linter.all false
set_option maxRecDepth 100000
/-! Ev: a function of the text, by its body. -/
namespace Ev
open PySem PySem.Spec PyProof.Rows L2
section
variable {X : Cx} {K : PySem.W.Frag} {σ σ1 : L2.St} {H H1 H2 : Hp} {pb : List Nat}
theorem enter_ok : ∀ {os : List O} {vs : List V} {H : Hp} {G : Rg} {j : Nat} {es : List O} {Q : Hp → Prop}, enterL pb j os = .ok es → RepL K H os vs G →
    (∀ H2, ∀ G2 : Rg, FRel G H H2 → (∀ b, G2 b → G b) → RepL K H2 es vs G2 → Frzs Q H2) → Frzs Q H
  | [], vs, H, G, j, es, Q, hs, hL, k => by
    cases hs
    exact k H G (.refl _ _) (fun _ q => q) hL
  | o :: os, vs, H, G, j, es, Q, hs, hL, k => by
    unfold enterL at hs
    obtain ⟨o', h1, hs⟩ := Rs.bind_ok hs
    obtain ⟨os', h2, hs⟩ := Rs.bind_ok hs
    cases hs
    unfold RepL at hL
    obtain ⟨x, r, A, rfl, k1, k2⟩ := hL
    by_cases hp : pb.contains j = true
    · rw [if_pos hp] at h1
      cases h1
      refine enter_ok h2 k2 fun H2 G2 fr sub hL2 => k H2 (fun b => (G b ∧ A b) ∨ G2 b) (fr.mono fun b q => q.1) (fun b q => q.elim (fun q => q.1) fun q => (sub b q).1) ?_
      unfold RepL
      refine ⟨x, r, fun b => G b ∧ A b, rfl, ?_, RepL.mono _ _ _ _ (fun b q => ⟨.inr q, fun z => (sub b q).2 z.2⟩) hL2⟩
      refine Rep.mono _ _ _ _ (fun b q => ⟨.inl q, q⟩) (Rep.frame fr.keep _ _ _ (fun b u q e => ?_) k1)
      rw [fr.other b fun z => z.2 q.2]
      exact e
    · rw [if_neg hp] at h1
      obtain ⟨d, h3, h1⟩ := Rs.bind_ok h1
      cases h1
      refine .step (fun b => G b ∧ A b) fun H2 f => ?_
      have fz : Fz K H2 d x := Rep.freeze f o x _ d (fun b q => q) (Rs.of_ok h3) k1
      have k2' : RepL K H2 os r (fun b => G b ∧ ¬ A b) := RepL.frame f.keep _ _ _ (f.hold fun b q w => q.2 w.2) k2
      refine enter_ok h2 k2' fun H3 G3 fr sub hL3 => k H3 G3 ((f.rel.mono fun b q => q.1).trans (fr.mono fun b q => q.1)) (fun b q => (sub b q).1) ?_
      unfold RepL
      exact ⟨x, r, fun _ => False, rfl, by unfold Rep; exact Fz.keep fr.keep _ _ fz, RepL.mono _ _ _ _ (fun b q => ⟨q, id⟩) hL3⟩
theorem enter_len : ∀ {os es : List O} {j : Nat}, enterL pb j os = .ok es → es.length = os.length
  | [], es, j, h => by cases h; rfl
  | o :: os, es, j, h => by
    unfold enterL at h
    obtain ⟨o', h1, h⟩ := Rs.bind_ok h
    obtain ⟨os', h2, h⟩ := Rs.bind_ok h
    cases h
    simp [enter_len h2]
theorem repE_start : ∀ {es : List O} {vs : List V} {G : Rg} (m : Nat), RepL K H es vs G → RepE K H (es ++ List.replicate m .hole) (vs.map some ++ List.replicate m none) G
  | [], vs, G, m, h => by
    unfold RepL at h
    subst h
    show RepE K H (List.replicate m .hole) (List.replicate m none) G
    induction m with
    | zero => unfold RepE; rfl
    | succ m ih =>
      rw [List.replicate_succ, List.replicate_succ]
      unfold RepE
      exact ⟨none, _, fun _ => False, rfl, trivial, RepE.mono (fun b q => ⟨q, id⟩) ih⟩
  | o :: es, vs, G, m, h => by
    unfold RepL at h
    obtain ⟨x, r, A, rfl, k1, k2⟩ := h
    show RepE K H (o :: (es ++ List.replicate m .hole)) (some x :: (r.map some ++ List.replicate m none)) G
    unfold RepE
    refine ⟨some x, _, A, rfl, ?_, repE_start m k2⟩
    cases o with
    | hole => trivial
    | val d => exact ⟨x, rfl, k1⟩
    | lst l => exact ⟨x, rfl, k1⟩
    | dct l => exact ⟨x, rfl, k1⟩
theorem leave_ok {e' : Env} {σ' : L2.St} : ∀ {es : List O} {vs : List V} {os : List O} {j : Nat} {F2 F' : Rg} {H2 H' : Hp}, Keep H2 H' → enterL pb j os = .ok es → RepL K H2 es vs F2 → RepE K H' (e'.drop j) (σ'.drop j) F' →
    (∀ (i : Nat) (v : V), vs[i]? = some v → j + i ∈ pb → σ'[j + i]? = some (some v)) → RepL K H' (leaveL pb e' j es) vs F'
  | [], vs, os, j, F2, F', H2, H', kp, he, hL, hE, hk => by
    unfold RepL at hL
    subst hL
    unfold leaveL RepL
    rfl
  | o :: es, vs, [], j, F2, F', H2, H', kp, he, hL, hE, hk => by cases he
  | o :: es, vs, o0 :: os, j, F2, F', H2, H', kp, he, hL, hE, hk => by
    unfold enterL at he
    obtain ⟨o', h1, he⟩ := Rs.bind_ok he
    obtain ⟨os', h2, he⟩ := Rs.bind_ok he
    cases he
    unfold RepL at hL
    obtain ⟨x, r, A, rfl, k1, k2⟩ := hL
    have hk2 : ∀ (i : Nat) (v : V), r[i]? = some v → j + 1 + i ∈ pb → σ'[j + 1 + i]? = some (some v) := fun i v e m => by
      have := hk (i + 1) v e (by rw [show j + (i + 1) = j + 1 + i by omega]; exact m)
      rwa [show j + (i + 1) = j + 1 + i by omega] at this
    unfold leaveL
    by_cases hl : j < e'.length
    · have hls : j < σ'.length := by
        have := RepE.length hE
        rw [List.length_drop, List.length_drop] at this
        omega
      rw [List.drop_eq_getElem_cons hl, List.drop_eq_getElem_cons hls] at hE
      unfold RepE at hE
      obtain ⟨y, t, B, e1, g1, g2⟩ := hE
      injection e1 with e1 e2
      subst e1 e2
      have rest := leave_ok kp h2 k2 g2 hk2
      unfold RepL
      refine ⟨x, r, B, rfl, ?_, rest⟩
      by_cases hp : pb.contains j = true
      · rw [if_pos hp, List.getElem?_eq_getElem hl]
        show Rep K H' e'[j] x _
        have sx := hk 0 x rfl (by simpa using hp)
        rw [Nat.add_zero, List.getElem?_eq_getElem hls] at sx
        have sx := Option.some.inj sx
        by_cases z : e'[j] = O.hole
        · rw [z]; unfold Rep; trivial
        · obtain ⟨v, a1, a2⟩ := (RepS.of z).mp g1
          rw [sx] at a1
          cases a1
          exact a2
      · rw [if_neg hp] at h1 ⊢
        obtain ⟨d, h3, h1⟩ := Rs.bind_ok h1
        cases h1
        unfold Rep at k1 ⊢
        exact Fz.keep kp _ _ k1
    · have e0 : e'.drop (j + 1) = [] := List.drop_eq_nil_of_le (by omega)
      have hls : ¬ j < σ'.length := by
        have := RepE.length hE
        rw [List.length_drop, List.length_drop] at this
        omega
      have e2 : σ'.drop (j + 1) = [] := List.drop_eq_nil_of_le (by omega)
      have rest := leave_ok (F' := fun _ => False) kp h2 k2 (by rw [e0, e2]; unfold RepE; rfl) hk2
      unfold RepL
      refine ⟨x, r, fun _ => True, rfl, ?_, RepL.mono _ _ _ _ (fun b q => q.elim) rest⟩
      by_cases hp : pb.contains j = true
      · rw [if_pos hp, List.getElem?_eq_none (by omega)]
        show Rep K H' .hole x _
        unfold Rep; trivial
      · rw [if_neg hp] at h1 ⊢
        obtain ⟨d, h3, h1⟩ := Rs.bind_ok h1
        cases h1
        unfold Rep at k1 ⊢
        exact Fz.keep kp _ _ k1
theorem leave_len {e' : Env} : ∀ {es : List O} {j : Nat}, (leaveL pb e' j es).length = es.length
  | [], j => rfl
  | o :: es, j => by unfold leaveL; simp [leave_len (es := es)]
theorem mkFn_len {n N : Nat} {b : SF} {os : List O} {r : O × List O} (h : mkFn n N pb b os = .ok r) : os.length = n ∧ r.2.length = os.length := by
  unfold mkFn at h
  obtain ⟨_, h1, h⟩ := Rs.bind_ok h
  obtain ⟨es, h2, h⟩ := Rs.bind_ok h
  obtain ⟨⟨f, e'⟩, h3, h⟩ := Rs.bind_ok h
  refine ⟨by simpa using Rs.chk_ok h1, ?_⟩
  rw [← enter_len h2]
  cases f with
  | rt o => cases h; exact leave_len
  | nx => cases h; exact leave_len
  | bk => cases h
  | ct => cases h
/-- from the promise at the call to the body's reading -/
theorem body_wish {n N : Nat} {b : SF} {vs : List V} {Q : VK} (hpb : pb.all (fun j => decide (j < n)) = true) (hnN : n ≤ N) (h : spF K (mkFn n N pb b) vs H Q) :
    Frzs (fun H2 => tS K pb b { nx := fun _ H' => Q .non H', rt := Q } (vs.map some ++ List.replicate (N - n) none) H2) H := by
  obtain ⟨os, G, r, os', tr, hL, hf, k⟩ := h
  unfold mkFn at hf
  obtain ⟨_, h1, hf⟩ := Rs.bind_ok hf
  obtain ⟨es, h2, hf⟩ := Rs.bind_ok hf
  obtain ⟨⟨f, e'⟩, h3, hf⟩ := Rs.bind_ok hf
  have ln : os.length = n := by simpa using Rs.chk_ok h1
  refine enter_ok h2 hL fun H2 G2 fr sub hL2 => .now ?_
  have P0 : Post H G H2 G2 (fun _ => False) := (Post.refl tr).frz (fr.mono fun b q => .inl q) sub fun _ q => q
  refine ⟨_, G2, f, e', P0.trkF, repE_start _ hL2, h3, ?_⟩
  have back : ∀ {σ' : L2.St} {H' : Hp} {F' : Rg}, Keep H2 H' → Keeps pb (vs.map some ++ List.replicate (N - n) none) σ' → RepE K H' e' σ' F' → RepL K H' (leaveL pb e' 0 es) vs F' := fun {σ' H' F'} kp ks hE => by
    refine leave_ok kp h2 hL2 hE fun i v e m => ?_
    rw [Nat.zero_add] at m ⊢
    rw [ks i m, List.getElem?_append_left (by rw [List.length_map]; exact (List.getElem?_eq_some_iff.mp e).1), List.getElem?_map, e]
    rfl
  cases f with
  | rt o =>
    cases hf
    exact fun v σ' H' F' R ks hE hr P => k v H' F' R (back P.keep ks hE) hr ((P0.trans P).mono fun _ z => .inr z)
  | nx =>
    cases hf
    exact fun σ' H' F' ks hE P => k .non H' F' (fun _ => False) (back P.keep ks hE) (by unfold Rep Fz; rfl) ((P0.trans P).none)
  | bk => cases hf
  | ct => cases hf
end
/-- the context of a function's body -/
abbrev fcx (P : Program) (w : World) (K : PySem.W.Frag) (mg : Str → Option Value) (base : Heap) (N : List Str) (qual : Str) (sc : Scope) (f : Addr) (cd : Value) (B : Around) (fr : List PySem.Env) (s : Shared) (H : Hp) : Cx :=
  (cxOf C8.CX0 P w K mg base N qual sc f cd B fr s H C8.E0).nox
section
variable {P : Program} {w : World} {K : PySem.W.Frag} {mg : Str → Option Value} {base : Heap} {k : Nat} {f : Addr} {fd : FuncData} {N ps : List Str} {x qual : Str} {st : Stmt} {pb : List Nat} {b : SF}
theorem fng_of (F : C8.Fun K x qual st f fd) (S : FnScope N ps (C8.fnScope st)) (hpb : pb.all (fun j => decide (j < ps.length)) = true)
    (hb : ∀ (cd : Value) (B : Around) (fr : List PySem.Env) (s : Shared) (H : Hp), Room k (B.deeper (envOfC qual (C8.fnScope st) s.heap.objs.size f cd)) → (B.deeper (envOfC qual (C8.fnScope st) s.heap.objs.size f cd)).guards = some [] →
      EvSs (fcx P w K mg base N qual (C8.fnScope st) f cd B fr s H) pb (C8.fnBody st) b) : FnG P w K mg base (k + 1) f fd ps (mkFn ps.length N.length pb b) := by
  refine ⟨fun os r h => mkFn_len h, fun B fr s H args us vs Q room gd e0 bind r h => ?_⟩
  have hl : vs.length = ps.length := by
    obtain ⟨os, G, r', os', _, hL, hf, _⟩ := h
    rw [← RepL.length hL]
    exact (mkFn_len hf).1
  obtain ⟨oc, od, dV, kV, doc, pm, an, cdv, ct, osl, rfl, lk, hcd⟩ := F.ex
  have inK : K.In s.heap := e0.mod.kin.keeps fun b o e => (e0.bs b o e).1
  have free : s.heap.NoLimit := e0.mod.nolimit.keeps fun b o e => (e0.bs b o e).1
  have places : ∀ y ∈ ps.zip us, (C8.fnScope st).names.lookup y.1 = some .local ∨ ((C8.fnScope st).names.lookup y.1 = some .cell ∧ ((cellsFrom (s.heap.objs.size + 1) (C8.fnScope st).names []).lookup y.1).isSome = true) := by
    rintro ⟨z, u⟩ hy
    exact (S.par z (List.of_mem_zip hy).1).imp id fun q => ⟨q, PySem.W.cellsFrom_some _ _ _ (.inl q)⟩
  refine codeAny_call_function room.depth (inK _ _ lk) rfl S.co S.gen rfl (PySem.W.codeRec_of inK hcd) (bind _ _ _ _ (wpAny_newFunctionEnv_cells S.kind places fun env he s1 entry => ?_))
  subst he
  refine ⟨free.keeps entry.toInCall.keep, codeAny_func ?_⟩
  have hN : ps.length ≤ N.length := by
    have := congrArg List.length S.pre
    rw [List.length_take] at this
    omega
  have I0 : Inv (cxOf C8.CX0 P w K mg base N qual (C8.fnScope st) f cdv B fr s H C8.E0) [] (L2.start N vs) H s1 := inv_start S room.hd e0 hl r entry
  have wish := body_wish hpb hN h
  have st0 : L2.start N vs = vs.map some ++ List.replicate (N.length - ps.length) none := by unfold L2.start; rw [hl]
  rw [← st0] at wish
  obtain ⟨H2, I2, q2⟩ := frzs_inv wish (I0.wish fun _ _ => False)
  have bodyRun := (hb cdv B fr s H (room.deeper _) (by exact gd)).run.run [] s1 (L2.start N vs) H2 _ I2 q2
  refine wpAny_mono bodyRun (fun fl s2 hs => ?_) fun _ _ z => z.elim
  have close : ∀ {τ : L2.St} {H3 : Hp} {v : V} {u : Value}, Inv (fcx P w K mg base N qual (C8.fnScope st) f cdv B fr s H) [] τ H3 s2 → RelV v u → Q v H3 → CE fr P w H s Q u s2 := fun J a c => ⟨_, _, J.os, J.bare, J.base, J.hok, a, c⟩
  match fl, hs with
  | .ret u, hs =>
    obtain ⟨v, τ, H3, J, a, c⟩ := hs
    exact close J a c
  | .next, hs =>
    obtain ⟨τ, H3, J, c⟩ := hs
    exact close (v := V.non) (u := Value.none) J rfl c
  | .brk, hs => exact (let ⟨_, _, _, z⟩ := hs; False.elim z)
  | .cont, hs => exact (let ⟨_, _, _, z⟩ := hs; False.elim z)
end
end Ev

set_option Elab.async false
set_option linter.all false
set_option maxRecDepth 100000
/-! Ev: the law's call. -/
namespace Ev
open PySem PySem.Spec PyProof.Rows L2
theorem ints_fz {K : PySem.W.Frag} {H : Hp} : ∀ ns : List Int, FzAll K H (ns.map PyData.int) (ns.map V.int)
  | [] => FzAll.nil_iff.mpr rfl
  | n :: ns => .cons (by unfold Fz; rfl) (ints_fz ns)
section
variable {P : Program} {w : World} {K : PySem.W.Frag} {mg mb : Str → Option Value} {k : Nat} {fa a : Addr} {fd : FuncData} {x : Str} {F : Fn} {s1 : Shared} {us : List Value} {ns : List Int}
/-- the call, where at most the script is tracked -/
theorem law_at {H : Hp} (inK : K.In s1.heap) (gl : s1.heap.Ns mainGlobals mg) (bl : s1.heap.Ns builtinsNs mb) (bb : ∀ x : Str, x ≠ "__name__" → mb x = bootBuiltins x) (free : s1.heap.NoLimit) (gens : s1.gens = #[])
    (ob : s1.heap.get? a = some { cls := .type "list", data := .seq us.toArray }) (room : Room k callerA) (Fg : ∀ base : Heap, K.In base → base.Ns mainGlobals mg → (∃ mm, base.Ns sysModules mm) → FnG P w K mg base k fa fd [x] F) (sy : ∃ mm, s1.heap.Ns sysModules mm)
    (bind : ∀ (s : Shared) (u : Value), BindsTo s fd ⟨[u], []⟩ [(x, u)]) (law : ∃ os', F [.val (.list (ns.map PyData.int))] = .ok (.val (.bool true), os'))
    (hO : ∀ b u, H b = some u → b = a ∧ ∃ o xs, u = .frz o (.lst xs)) (hS : FrzL K H a (ns.map V.int)) (ok : HOk P w H s1.heap) (apart : H a ≠ none → K.lookup a = none) :
    codeAny (model P w) callerA (.call (.ref fa) ⟨[.ref a], []⟩) (fun r s' => r = .ok (.ret (.bool true)) ∧ OldK s1.heap s'.heap ∧ s'.os = s1.os ∧ AllBare s'.gens) s1 := by
  -- a dict or an object of the module is not tracked
  have plain : ∀ {b : Addr} {o : Obj}, s1.heap.get? b = some o → (b = a → H a = none) → (hidT s1.heap H).get? b = some o := fun {b o} e n => by
    refine hidT_get e ?_
    cases q : H b with
    | none => rfl
    | some u =>
      have ba := (hO b u q).1
      subst ba
      rw [n rfl] at q; cases q
  have nsK : ∀ {b : Addr} {m : Str → Option Value}, s1.heap.Ns b m → (hidT s1.heap H).Ns b m := by
    rintro b m ⟨o, es, ep, e, d, r⟩
    refine ⟨o, es, ep, plain e fun z => ?_, d, r⟩
    subst z
    rw [ob] at e; cases e
    have d : Data.seq us.toArray 0 = Data.dict es ep := d
    cases d
  have inB : K.In (hidT s1.heap H) := fun b o e => plain (inK b o e) fun z => by
    subst z
    cases q : H b with
    | none => rfl
    | some u =>
      have := apart (by rw [q]; exact fun z => nomatch z)
      rw [e] at this; cases this
  have M : Mod K mg (hidT s1.heap H) := ⟨inB, nsK gl, ⟨mb, nsK bl, bb⟩, let ⟨mc, c1, c2⟩ := free; ⟨mc, nsK c1, c2⟩⟩
  have e0 : Env0 P w K mg (hidT s1.heap H) callerA [] s1 H := ⟨rfl, M, fun b o e => of_hidT e, Nat.le_of_eq (hidT_size _ _), trivial, fun b z => (nomatch z), ok, .of_eq gens⟩
  obtain ⟨os', hF⟩ := law
  have hw : spF K F [.ref a] H (fun v _ => v = .bl true) := by
    refine ⟨[.val (.list (ns.map PyData.int))], fun _ => False, _, os', fun _ z => z.elim, ?_, hF, fun v H' G' R' _ hr _ => rep_bl hr⟩
    unfold RepL
    exact ⟨_, [], fun _ => False, rfl, by unfold Rep Fz; exact ⟨a, _, rfl, hS, ints_fz ns⟩, by unfold RepL; rfl⟩
  obtain ⟨mm, sy⟩ := sy
  have go := (Fg _ inB (nsK gl) ⟨mm, nsK sy⟩).run callerA [] s1 H ⟨[.ref a], []⟩ [.ref a] [.ref a] _ room rfl e0 (bind s1 (.ref a)) (.cons rfl .nil) hw
  refine codeAny_mono go fun z s2 hz => ?_
  match z, hz with
  | .ok (.ret u), hz =>
    obtain ⟨v, H2, os, bare, un, ok2, rv, qv⟩ := hz
    have qv : v = .bl true := qv
    subst qv
    have hu : u = Value.bool true := rv
    subst hu
    refine ⟨rfl, OldK.of_keep fun b o e => ?_, os, bare⟩
    cases q : H b with
    | none => exact un.keep b o e q (fun z => by cases z) (fun z => by cases z)
    | some u =>
      obtain ⟨ba, o2, xs, eu⟩ := hO b u q
      subst eu
      have q2 := un.frzs b o2 _ q
      have h1 := (ok b _ q).1
      rw [e] at h1; cases h1
      exact (ok2 b _ q2).1
theorem law_goes (inK : K.In s1.heap) (gl : s1.heap.Ns mainGlobals mg) (bl : s1.heap.Ns builtinsNs mb) (bb : ∀ x : Str, x ≠ "__name__" → mb x = bootBuiltins x) (free : s1.heap.NoLimit) (gens : s1.gens = #[])
    (ob : s1.heap.get? a = some { cls := .type "list", data := .seq us.toArray }) (nums : IntsAre us ns) (few : ns.length ≤ sizeLine) (room : Room k callerA) (Fg : ∀ base : Heap, K.In base → base.Ns mainGlobals mg → (∃ mm, base.Ns sysModules mm) → FnG P w K mg base k fa fd [x] F) (sy : ∃ mm, s1.heap.Ns sysModules mm)
    (bind : ∀ (s : Shared) (u : Value), BindsTo s fd ⟨[u], []⟩ [(x, u)]) (law : ∃ os', F [.val (.list (ns.map PyData.int))] = .ok (.val (.bool true), os')) :
    codeAny (model P w) callerA (.call (.ref fa) ⟨[.ref a], []⟩) (fun r s' => r = .ok (.ret (.bool true)) ∧ OldK s1.heap s'.heap ∧ s'.os = s1.os ∧ AllBare s'.gens) s1 := by
  have rv := vals_ints nums
  have ln := nums.length
  cases hk : K.lookup a with
  | some o =>
    have e := inK a o hk
    rw [ob] at e
    cases e
    refine law_at (H := fun _ => none) inK gl bl bb free gens ob room Fg sy bind law (fun b u z => nomatch z) (.inr ⟨us, 0, hk, by rw [ln]; exact few, rv⟩) (fun b u z => nomatch z) fun z => absurd rfl z
  | none =>
    have up : (upd (fun _ => none) a (.frz { cls := .type "list", data := .seq us.toArray } (.lst (ns.map V.int)))) a = some (.frz { cls := .type "list", data := .seq us.toArray } (.lst (ns.map V.int))) := upd_same
    have only : ∀ b u, (upd (fun _ => none) a (.frz { cls := .type "list", data := .seq us.toArray } (.lst (ns.map V.int)))) b = some u → b = a ∧ u = .frz { cls := .type "list", data := .seq us.toArray } (.lst (ns.map V.int)) := fun b u z => by
      by_cases hb : b = a
      · subst hb
        rw [up] at z; cases z
        exact ⟨rfl, rfl⟩
      · rw [upd_ne hb] at z; cases z
    refine law_at (H := upd (fun _ => none) a (.frz { cls := .type "list", data := .seq us.toArray } (.lst (ns.map V.int)))) inK gl bl bb free gens ob room Fg sy bind law (fun b u z => ⟨(only b u z).1, _, _, (only b u z).2⟩) (.inl ⟨_, up⟩) (fun b u z => ?_) fun _ => hk
    obtain ⟨hb, hu⟩ := only b u z
    subst hb hu
    exact ⟨ob, by rw [List.length_map]; exact few, us, 0, rv, ob⟩
end
/-- the goal behind k_head -/
theorem law_walk {l : PySem.W.OpenLaw} {n k : Nat} {q : Program} {loose : List Str} {XP : (Str → Option Value) → Heap → Prop} {YP : World → Heap → Prop} {d : DefRec} {K : Params → PySem.W.Frag} {F : Fn} {x : Str}
    (most : l.most = some n) (few : n ≤ sizeLine) (nodef : d.params.defaults = []) (room : Room k callerA) (inK : ∀ (w : World) (h : Heap), YP w h → (K w.params).In h)
    (Fg : ∀ (w : World) (mg : Str → Option Value) (fa : Addr) (h : Heap), (K w.params).In h → h.Ns mainGlobals mg → mg d.name = some (.ref fa) →
      ∃ fd : FuncData, (∀ (s : Shared) (u : Value), BindsTo s fd ⟨[u], []⟩ [(x, u)]) ∧ ∀ base : Heap, (K w.params).In base → base.Ns mainGlobals mg → (∃ mm, base.Ns sysModules mm) → FnG l.prog w (K w.params) mg base k fa fd [x] F) (imp : importsNone q = true)
    (law : ∀ ns : List Int, ns.length ≤ n → ∃ os', F [.val (.list (ns.map PyData.int))] = .ok (.val (.bool true), os')) :
    PySem.W.WalkO q loose XP YP l.row.toRowW d [] (fun f vs => PySem.call f vs) := by
  refine Att.attach_call most nodef fun w s0 s1 mg mb fa o pm cd doc a us ns G Y ho hd hcd hmg ob nums hlen gens => ?_
  obtain ⟨fd, bind, go⟩ := Fg w mg fa _ (inK w _ Y) G.T.g hmg
  exact law_goes (inK w _ Y) G.T.g G.T.b G.T.builtins G.T.nolimit gens ob nums (Nat.le_trans hlen few) room go (let ⟨mm, h, _⟩ := (G.T.seer imp).mods; ⟨mm, h⟩) bind (law ns hlen)
end Ev

set_option Elab.async false
set_option linter.all false
set_option maxRecDepth 100000
/-! Ev: dict displays. -/
namespace Ev
open PySem PySem.Spec PyProof.Rows L2
section
variable {X : Cx} {K : PySem.W.Frag} {σ σ1 : L2.St} {H H1 : Hp}
theorem tE_weak {f : EF} {p : Bool} {Q : VK} (h : tE K f false σ H Q) : tE K f p σ H Q := by
  obtain ⟨e, F, w, e', t, hE, hf, k⟩ := h
  exact ⟨e, F, w, e', t, hE, hf, fun v H1 F1 R1 a b c _ => k v H1 F1 R1 a b c fun z => nomatch z⟩
def trsOf (K : PySem.W.Frag) (prs : List (EF × EF)) : List (TE × TE) := prs.map fun q => (tE K q.1 false, fun σ H Q => tE K q.2 false σ H fun v H1 => Frzs (Q v) H1)
theorem pairs_ok : ∀ {prs : List (EF × EF)} {e e' : Env} {ps : List (PyData × O)} {H : Hp} {F : Rg} {Q : List (V × V) → Hp → Prop}, dPairs prs e = .ok (ps, e') → Trk H F → RepE K H e σ F →
    (∀ vs H' (F' R : Rg), RepE K H' e' σ F' → RepK K H' ps vs R → (∀ q ∈ ps, isKey q.1 = true) → Post H F H' F' R → Q vs H') → tPairs (trsOf K prs) σ H Q
  | [], e, e', ps, H, F, Q, hs, tr, hE, k => by
    cases hs
    exact k [] H F (fun _ => False) hE (by unfold RepK; rfl) (fun q z => nomatch z) (.refl tr)
  | (f, g) :: r, e, e', ps, H, F, Q, hs, tr, hE, k => by
    unfold dPairs at hs
    obtain ⟨⟨wk, e1⟩, h1, hs⟩ := Rs.bind_ok hs
    cases wk with
    | own o => cases hs
    | «at» i p => cases hs
    | val kd =>
      dsimp only at hs
      obtain ⟨_, h2, hs⟩ := Rs.bind_ok hs
      obtain ⟨⟨w, e2⟩, h3, hs⟩ := Rs.bind_ok hs
      obtain ⟨⟨o, e3⟩, h4, hs⟩ := Rs.bind_ok hs
      obtain ⟨⟨ps', e4⟩, h5, hs⟩ := Rs.bind_ok hs
      cases hs
      refine ⟨e, F, .val kd, e1, tr, hE, h1, fun x H1 F1 R1 hE1 hW1 P1 _ => ⟨e1, F1, w, e2, P1.trkF, hE1, h3, fun y H2 F2 R2 hE2 hW2 P2 _ => ?_⟩⟩
      refine storeW_ok hE2 hW2 P2.dis h4 fun H3 S sF fz hE3 hr _ => .now ?_
      have P3 : Post H F H3 (fun b => F2 b ∧ ¬ S b) R2 := ((P1.trans P2).frz (fz.rel.mono fun b q => .inl (sF b q)) (fun b q => q.1) (R2 := R2) fun _ q => .inr q)
      refine pairs_ok h5 P3.trkF hE3 fun vs H4 F4 R4 hE4 hK hk P4 => ?_
      refine k ((x, y) :: vs) H4 F4 (fun b => R2 b ∨ R4 b) hE4 ?_ (fun q hq => ?_) (P3.trans P4)
      · unfold RepK
        refine ⟨x, y, vs, R2, rfl, ?_, Rep.mono _ _ _ _ (fun b q => ⟨.inl q, q⟩) (Rep.frame P4.keep _ _ _ (P3.hold P4) hr), RepK.mono _ _ _ _ (fun b q => ⟨.inr q, fun z => P3.apart P4 b z q⟩) hK⟩
        exact Fz.keep ((P2.keep.trans fz.keep).trans P4.keep) _ _ hW1
      · rcases List.mem_cons.mp hq with z | z
        · rw [z]; exact Rs.chk_ok h2
        · exact hk q z
theorem nodup_putK {ks : List (Key × V)} {k : Key} {v : V} (nd : (ks.map (·.1)).Nodup) : ((putK ks k v).map (·.1)).Nodup := by
  unfold putK
  split
  · rw [List.map_map]
    have : ((fun x : Key × V => x.1) ∘ fun kv : Key × V => if kv.1 = k then (kv.1, v) else kv) = fun x => x.1 := by
      funext q
      show (if q.1 = k then (q.1, v) else q).1 = q.1
      split <;> rfl
    rw [this]
    exact nd
  · rename_i h
    rw [List.map_append, List.nodup_append]
    refine ⟨nd, by simp, fun a ha b hb => ?_⟩
    rintro rfl
    simp at hb
    subst hb
    obtain ⟨q, hq, e⟩ := List.mem_map.mp ha
    exact h (by rw [List.any_eq_true]; exact ⟨q, hq, by simpa using e⟩)
theorem repK_keys : ∀ {ps : List (PyData × O)} {vs : List (V × V)} {R : Rg}, RepK K H ps vs R → (∀ q ∈ ps, isKey q.1 = true) → ∃ kvs : List (Key × V), vs = kvs.map (fun kv => (kV kv.1, kv.2)) ∧ kvs.length = ps.length
  | [], vs, R, h, _ => by
    unfold RepK at h
    exact ⟨[], h, rfl⟩
  | (c, o) :: ps, vs, R, h, hk => by
    unfold RepK at h
    obtain ⟨y, x, r, G, rfl, h1, h2, h3⟩ := h
    obtain ⟨k, rfl, _⟩ := fz_key h1 (hk (c, o) (by simp))
    obtain ⟨kvs, rfl, l⟩ := repK_keys h3 fun q hq => hk q (by simp [hq])
    exact ⟨(k, x) :: kvs, rfl, by simp [l]⟩
theorem repK_merge : ∀ {more : List (PyData × O)} {ms : List (Key × V)} {kvs : List (PyData × O)} {ks : List (Key × V)} {F R : Rg}, RepK K H more (ms.map fun p => (kV p.1, p.2)) R → RepK K H kvs (ks.map fun p => (kV p.1, p.2)) F → (ks.map (·.1)).Nodup →
    (∀ b, F b → R b → False) → RepK K H (mergeD kvs more) ((mergeK ks ms).map fun p => (kV p.1, p.2)) (fun b => F b ∨ R b)
  | [], ms, kvs, ks, F, R, hm, hk, nd, d => by
    unfold RepK at hm
    have : ms = [] := by simpa using hm
    subst this
    exact RepK.mono _ _ _ _ (fun b q => .inl q) hk
  | (c, o) :: more, ms, kvs, ks, F, R, hm, hk, nd, d => by
    unfold RepK at hm
    obtain ⟨y, x, r, G, e1, h1, h2, h3⟩ := hm
    cases ms with
    | nil => cases e1
    | cons p ms =>
      rw [List.map_cons] at e1
      injection e1 with e1 e2
      injection e1 with e1 e3
      subst e1 e3 e2
      obtain ⟨i1, _⟩ := repK_put h1 hk nd h2 fun b f q => d b f q.1
      have dd : ∀ b, (F b ∨ (R b ∧ G b)) → (R b ∧ ¬ G b) → False := fun b f q => Or.elim f (fun f => d b f q.1) fun f => q.2 f.2
      have fin := repK_merge h3 i1 (nodup_putK nd) dd
      refine RepK.mono _ _ _ _ (fun b q => ?_) fin
      rcases q with (q | q) | q
      · exact .inl q
      · exact .inr q.1
      · exact .inr q.1
theorem dPairs_len : ∀ {prs : List (EF × EF)} {e e' : Env} {ps : List (PyData × O)}, dPairs prs e = .ok (ps, e') → ps.length = prs.length
  | [], e, e', ps, h => by cases h; rfl
  | (f, g) :: r, e, e', ps, hs => by
    unfold dPairs at hs
    obtain ⟨⟨wk, e1⟩, h1, hs⟩ := Rs.bind_ok hs
    cases wk with
    | own o => cases hs
    | «at» i p => cases hs
    | val kd =>
      dsimp only at hs
      obtain ⟨_, h2, hs⟩ := Rs.bind_ok hs
      obtain ⟨⟨w, e2⟩, h3, hs⟩ := Rs.bind_ok hs
      obtain ⟨⟨o, e3⟩, h4, hs⟩ := Rs.bind_ok hs
      obtain ⟨⟨ps', e4⟩, h5, hs⟩ := Rs.bind_ok hs
      cases hs
      simp [dPairs_len h5]
theorem tE_disp {prs : List (EF × EF)} {Q : VK} (few : prs.length ≤ 15) (h : tE K (eDct prs) false σ H Q) : tDisp (trsOf K prs) σ H Q := by
  obtain ⟨e, F, w, e', tr, hE, hf, k⟩ := h
  unfold eDct at hf
  obtain ⟨⟨ps, e1⟩, h1, hf⟩ := Rs.bind_ok hf
  cases hf
  intro p np
  have nF : ¬ F p := fun z => by obtain ⟨u, q⟩ := tr p z; rw [np] at q; cases q
  have sm : Same2 H (upd H p (.dK [])) := fun b u e => by rw [upd_ne (ne_of_none e np)]; exact e
  have P0 : Post H F (upd H p (.dK [])) F (fun b => b = p) := (fresh_upd np).post tr
  have P0' := P0.mono (R' := fun _ => False) fun _ z => z.elim
  refine pairs_ok h1 P0'.trkF (RepE.frame P0.keep (fun b u _ e => sm b u e) hE) fun vs H2 F2 R2 hE2 hK hk P2 => ?_
  have hp2 : H2 p = some (.dK []) := P0.hold P2 p _ rfl upd_same
  obtain ⟨kvs, rfl, lk⟩ := repK_keys hK hk
  have nR : ¬ R2 p := fun z => P0.apart P2 p rfl z
  have nF2 : ¬ F2 p := fun z => (P0.trans P2).dis p z (.inl rfl)
  refine ⟨hp2, kvs, rfl, by rw [lk, dPairs_len h1]; exact few, ?_⟩
  have kp : Keep H2 (upd H2 p (.dK (mergeK [] kvs))) := keep_dct hp2 ⟨[], rfl, rfl⟩
  have P : Post H F H2 F2 (fun b => b = p ∨ R2 b) := P0.trans P2
  refine k (.ref p) _ F2 (fun b => b = p ∨ R2 b) (RepE.frame kp (fun b u q e => by rw [upd_ne (show b ≠ p from fun z => nF2 (z ▸ q))]; exact e) hE2) ?_ ⟨P.keep.trans kp, fun b u e n => ?_, P.new, P.dis, fun b h => ?_⟩ (fun z => nomatch z)
  · show Rep K _ (.dct (mergeD [] ps)) (.ref p) _
    unfold Rep
    refine ⟨p, _, _, rfl, .inl rfl, upd_same, ⟨_, rfl, rfl⟩, ?_⟩
    have hm := repK_merge (F := fun _ => False) hK (ks := []) (kvs := []) (by unfold RepK; rfl) (by simp) fun _ z _ => False.elim z
    refine RepK.mono _ _ _ _ (fun b q => ?_) (RepK.frame kp _ _ _ (fun b u q e => ?_) hm)
    · rcases q with q | q
      · exact False.elim q
      · exact ⟨.inr q, fun z => nR (z ▸ q)⟩
    · rcases q with q | q
      · exact False.elim q
      · rw [upd_ne (show b ≠ p from fun z => nR (z ▸ q))]; exact e
  · rw [upd_ne (ne_of_none e np)]
    exact P.frm b u e n
  · obtain ⟨u, e⟩ := P.trk b h
    exact trk_upd b u e
end
section
variable {X : Cx}
structure EvPs (X : Cx) (pos : Pos) (keys : List (Option Expr)) (values : List Expr) (prs : List (EF × EF)) : Prop where
  run : PPs X pos keys values (trsOf X.K prs)
theorem evps_nil {pos : Pos} : EvPs X pos [] [] [] := ⟨pps_nil⟩
theorem evps_cons {pos : Pos} {k v : Expr} {ks : List (Option Expr)} {vs : List Expr} {f g : EF} {p q : Bool} {prs : List (EF × EF)} (hk : EvE X k f p) (hv : EvE X v g q) (hr : EvPs X pos ks vs prs) : EvPs X pos (some k :: ks) (v :: vs) ((f, g) :: prs) :=
  ⟨pps_cons (pe_imp hk.run fun _ _ _ z => tE_weak z) (pe_frzs (pe_imp hv.run fun _ _ _ z => tE_weak z)) hr.run⟩
theorem eve_disp {keys : List (Option Expr)} {values : List Expr} {prs : List (EF × EF)} {pos : Pos} (h : EvPs X pos keys values prs) (hall : keys.all (·.isSome) = true) (hl : keys.length = values.length) (h0 : keys ≠ []) (h15 : keys.length ≤ 15) (few : prs.length ≤ 15) :
    EvE X (.Dict keys values pos) (eDct prs) false := ⟨pe_imp (pe_disp h.run hall hl h0 h15) fun _ _ _ z => tE_disp few z⟩
theorem eve_disp0 {pos : Pos} : EvE X (.Dict [] [] pos) (eDct []) false := ⟨pe_imp pe_dnewK fun σ H Q z => by
  obtain ⟨e, F, w, e', tr, hE, hf, k⟩ := z
  cases hf
  intro p np
  have P := (fresh_upd (o := .dK []) np).post tr
  refine k (.ref p) _ F _ (RepE.frame P.keep (fun b u _ e => (fresh_upd np).same b u e) hE) ?_ P (fun z => nomatch z)
  show Rep X.K _ (.dct []) (.ref p) _
  unfold Rep
  exact ⟨p, _, _, rfl, rfl, upd_same, ⟨[], rfl, rfl⟩, by unfold RepK; rfl⟩⟩
end
end Ev

set_option Elab.async false
set_option linter.all false
set_option maxRecDepth 100000
/-! Ev: the rules in the form that the printer writes. -/
namespace Ev
open PySem PySem.Spec PyProof.Rows L2
/-- a def of the text as it stands behind the top; no defaults -/
def fdAt (x : Str) (st : Stmt) (kV doc pm : Value) (an : Option Addr) (cdv ct : Value) : FuncData := PySem.W.fnOf x x (C8.fnArgs st) (C8.fnBody st) (C8.fnScope st) .none kV doc pm an cdv ct
structure DefAt (K : PySem.W.Frag) (mg : Str → Option Value) (x : Str) (st : Stmt) : Prop where
  ex : ∃ (f : Addr) (oc : Value) (od : Option Addr) (kV doc pm : Value) (an : Option Addr) (cdv ct : Value) (osl : Array (Option Value)),
    K.lookup f = some ⟨oc, od, .func (fdAt x st kV doc pm an cdv ct), osl⟩ ∧ PySem.W.codeIn K cdv x = true ∧ mg x = some (.ref f) ∧ PySem.W.keepIn K (.ref f) = true
structure FnAt (P : Program) (w : World) (K : PySem.W.Frag) (mg : Str → Option Value) (base : Heap) (k : Nat) (x : Str) (st : Stmt) (ps : List Str) (F : Fn) : Prop where
  ex : ∃ (f : Addr) (kV doc pm : Value) (an : Option Addr) (cdv ct : Value), FnG P w K mg base k f (fdAt x st kV doc pm an cdv ct) ps F ∧ mg x = some (.ref f) ∧ PySem.W.keepIn K (.ref f) = true ∧
    ∃ oc od osl, K.lookup f = some ⟨oc, od, .func (fdAt x st kV doc pm an cdv ct), osl⟩
theorem FnG.mono {P : Program} {w : World} {K : PySem.W.Frag} {mg : Str → Option Value} {base : Heap} {j k : Nat} {f : Addr} {fd : FuncData} {ps : List Str} {F : Fn} (h : FnG P w K mg base j f fd ps F) (l : j ≤ k) : FnG P w K mg base k f fd ps F :=
  ⟨h.len, fun B fr s H args us vs Q room => h.run B fr s H args us vs Q (room.mono l)⟩
section
variable {P : Program} {w : World} {K : PySem.W.Frag} {mg : Str → Option Value} {base : Heap} {k : Nat} {N ps : List Str} {x : Str} {st : Stmt} {pb : List Nat} {b : SF}
theorem fnAt_of (D : DefAt K mg x st) (S : FnScope N ps (C8.fnScope st)) (hpb : pb.all (fun j => decide (j < ps.length)) = true)
    (hb : ∀ (f : Addr) (cd : Value) (B : Around) (fr : List PySem.Env) (s : Shared) (H : Hp), Room k (B.deeper (envOfC x (C8.fnScope st) s.heap.objs.size f cd)) → (B.deeper (envOfC x (C8.fnScope st) s.heap.objs.size f cd)).guards = some [] →
      EvSs (fcx P w K mg base N x (C8.fnScope st) f cd B fr s H) pb (C8.fnBody st) b) : FnAt P w K mg base (k + 1) x st ps (mkFn ps.length N.length pb b) := by
  obtain ⟨f, oc, od, kV, doc, pm, an, cdv, ct, osl, h1, h2, h3, h4⟩ := D.ex
  exact ⟨f, kV, doc, pm, an, cdv, ct, fng_of ⟨oc, od, _, _, _, _, _, _, _, osl, rfl, h1, h2⟩ S hpb fun cd B fr s H room gd => hb f cd B fr s H room gd, h3, h4, oc, od, osl, h1⟩
end
section
variable {X : Cx} {pb : List Nat}
theorem sysOf {k : Nat} (d : ∃ mm, X.base.Ns sysModules mm) (room : Room k X.A) (gd : X.A.guards = some []) : Sys X := ⟨d, by have := room.un; omega, gd⟩
theorem sB {s : Shared} {H : Hp} {scope : Scope} {env : PySem.Env} {fp : List Addr} (S : Sys X) : Sys (X.blk s H scope env fp) := ⟨S.dict, S.room, S.guards⟩
theorem Sys.hu (S : Sys X) : X.A.units + 1 < cLine := by have := S.room; omega
theorem r_var (i : Nat) {x : Str} {pos : Pos} (hN : X.N[i]? = some x := by rfl) (hv : Vis X.env.scope x := by first | exact .inl rfl | exact .inr (.inl rfl) | exact .inr (.inr rfl)) (hd : (x == ("__debug__" : Str)) = false := by decide) (hcd : (x == ("__classdict__" : Str)) = false := by decide) :
    EvE X (.Name x pos) (eVar i) true := eve_var hN hv hd hcd
theorem r_glb {x : Str} {v : V} {u : Value} {d : PyData} {pos : Pos} (hm : X.mg x = some u) (r : RelV v u) (fz : ∀ H, Fz X.K H d v) (hg : Gl X x := by rfl) (hd : (x == ("__debug__" : Str)) = false := by decide) : EvE X (.Name x pos) (eCst d) true := eve_val (pe_glob hg hm r hd) fz
theorem r_gint {x : Str} {i : Int} {t : Tok} {pos : Pos} (hm : X.mg x = some (.int i t)) (hg : Gl X x := by rfl) (hd : (x == ("__debug__" : Str)) = false := by decide) : EvE X (.Name x pos) (eCst (.int i)) true := r_glb (v := .int i) hm ⟨t, rfl⟩ (fun H => by unfold Fz; rfl) hg hd
theorem r_gstr {x y : Str} {t : Tok} {pos : Pos} (hm : X.mg x = some (.str y t)) (hg : Gl X x := by rfl) (hd : (x == ("__debug__" : Str)) = false := by decide) : EvE X (.Name x pos) (eCst (.str y)) true := r_glb (v := .str y) hm ⟨t, rfl⟩ (fun H => by unfold Fz; rfl) hg hd
theorem l_nil : EvL X [] lNil true := evl_nil
theorem l_cons {ex : Expr} {es : List Expr} {f : EF} {g : LF} {p q : Bool} (h : EvE X ex f p) (k : EvL X es g q) (hs : starEach (ex :: es) X.env = (false, eval ex X.env) :: starEach es X.env := by rfl) : EvL X (ex :: es) (lCons f q g) (p && q) := evl_cons h k hs
theorem r_cmp {op : CmpOp} {F : List O → Rs O} {a b : Expr} {f g : EF} {p q : Bool} {pos : Pos} (ho : OpD X (compareOp op) F) (ha : EvE X a f p) (hb : EvE X b g q) (hm : behindInMarks op b = false := by rfl) : EvE X (.Compare a [op] [b] pos) (eOp F (lTwo f q g)) (p && q) := eve_cmp ho ha hb hm
theorem c_cmp {op : CmpOp} {F : List O → Rs O} {a b : Expr} {f g : EF} {p q : Bool} {pos : Pos} (ho : OpD X (compareOp op) F) (ha : EvE X a f p) (hb : EvE X b g q) (hm : behindInMarks op b = false := by rfl) : EvT X (.Compare a [op] [b] pos) (cB (eOp F (lTwo f q g))) := evt_cmp ho ha hb hm
theorem r_chain {op op' : CmpOp} {F G : List O → Rs O} {a b c : Expr} {f g h : EF} {p q r : Bool} {pos : Pos} (ho : OpD X (compareOp op) F) (ho' : OpD X (compareOp op') G) (ha : EvE X a f p) (hb : EvE X b g q) (hc : EvE X c h r) (hm : lastMarks [op, op'] [b, c] = false := by rfl) :
    EvE X (.Compare a [op, op'] [b, c] pos) (eChain F G (lTwo f q g) r h) false := eve_chain ho ho' ha hb hc hm
theorem c_chain {op op' : CmpOp} {F G : List O → Rs O} {a b c : Expr} {f g h : EF} {p q r : Bool} {pos : Pos} (ho : OpD X (compareOp op) F) (ho' : OpD X (compareOp op') G) (ha : EvE X a f p) (hb : EvE X b g q) (hc : EvE X c h r) (hm : lastMarks [op, op'] [b, c] = false := by rfl) :
    EvT X (.Compare a [op, op'] [b, c] pos) (cB (eChain F G (lTwo f q g) r h)) := evt_chain ho ho' ha hb hc hm
theorem c_of {ex : Expr} {f : EF} {p : Bool} (ha : EvE X ex f p) (he : ∀ whole, isTrue ex X.env whole = (do let v ← whole; standAt ex.pos; holding [v] (truthy v)) := by intro _; rfl) : EvT X ex (cOf f) := evt_of ha he
theorem r_callB {x : Str} {id : String} {F : List O → Rs O} {ex : Expr} {es : List Expr} {l : LF} {p : Bool} {np pos : Pos} (hc : CallD X (.builtin id) F) (hm : X.mg x = none) (hv : bootBuiltins x = some (.builtin id)) (ha : EvL X (ex :: es) l p) (hg : Gl X x := by rfl)
    (hn : x ≠ "__name__" := by decide) (hdb : (x == ("__debug__" : Str)) = false := by decide) (he : starEach (ex :: es) X.env = (false, eval ex X.env) :: starEach es X.env := by rfl) (hpl : (backTo pos (starEach es X.env)).any (·.1) = false := by rfl) : EvE X (.Call (.Name x np) (ex :: es) [] pos) (eOp F l) p :=
  eve_callB hc hg hm hv ha hn hdb he hpl
theorem r_callT {x : Str} {id : String} {F : List O → Rs O} {ex : Expr} {es : List Expr} {l : LF} {p : Bool} {np pos : Pos} (hc : CallD X (.type id) F) (hm : X.mg x = none) (hv : bootBuiltins x = some (.type id)) (ha : EvL X (ex :: es) l p) (hg : Gl X x := by rfl)
    (hn : x ≠ "__name__" := by decide) (hdb : (x == ("__debug__" : Str)) = false := by decide) (he : starEach (ex :: es) X.env = (false, eval ex X.env) :: starEach es X.env := by rfl) (hpl : (backTo pos (starEach es X.env)).any (·.1) = false := by rfl) : EvE X (.Call (.Name x np) (ex :: es) [] pos) (eOp F l) p :=
  eve_callT hc hg hm hv ha hn hdb he hpl
theorem r_isi {T : Str} {Ts : String} {e : Expr} {f : EF} {p : Bool} {np tp pos : Pos} (ha : EvE X e f p) (hm : X.mg "isinstance" = none) (mT : X.mg T = none) (bT : bootBuiltins T = some (.type Ts) := by decide +kernel) (hT : tyOk Ts = true := by decide) (hg : Gl X "isinstance" := by rfl) (gT : Gl X T := by rfl)
    (nT : T ≠ "__name__" := by decide) (dT : (T == ("__debug__" : Str)) = false := by decide) (he : starEach [e, .Name T tp] X.env = (false, eval e X.env) :: starEach [.Name T tp] X.env := by rfl) (hpl : (backTo pos (starEach [.Name T tp] X.env)).any (·.1) = false := by rfl) :
    EvE X (.Call (.Name "isinstance" np) [e, .Name T tp] [] pos) (eOp (oIsi Ts) (lOne f)) p := eve_isi (x := T) hT hg hm ha gT mT bT nT dT he hpl
theorem r_sub {a b : Expr} {f g : EF} {p q : Bool} {pos : Pos} (S : Sys X) (ha : EvE X a f p) (hb : EvE X b g q) (hs : PlainIx b := by intro _ _; rfl) : EvE X (.Subscript a b pos) (eSub (lTwo f q g)) (p && q) := eve_sub S.hu ha hb hs
section
variable {o e : Expr} {es : List Expr} {name : Str} {apos cpos : Pos} {T id : String}
theorem r_meth {F : List O → Rs O} {f : EF} {g : LF} {p q : Bool} (pa : PlainAttrs T) (slot : Slot T name id) (hty : typeOf (.builtin id) = pure (.type "method_descriptor")) (hm : MtD X id F) (ho : EvE X o f p) (ha : EvL X (e :: es) g q) (m : methT T = true := by decide)
    (hbase : attributeBase o name X.env (eval o X.env) = eval o X.env := by rfl)
    (hfew : ((backTo cpos (starEach (e :: es) X.env)).all (fun x => !x.1) && (backToKw cpos (keywordEach [] X.env)).all (fun x => x.1.isSome)
      && decide ((e :: es).length + ([] : List Keyword).length + (if ([] : List Keyword).isEmpty then 0 else 1) < 30)) = true := by rfl)
    (hline : (apos.endLine == cpos.line) = true := by rfl) (hs : starEach (e :: es) X.env = (false, eval e X.env) :: starEach es X.env := by rfl) (hplain : (backTo cpos (starEach es X.env)).any (·.1) = false := by rfl) :
    EvE X (.Call (.Attribute o name apos) (e :: es) [] cpos) (eMeth T F f q g) (p && q) := eve_meth m pa slot hty hm ho ha hbase hfew hline hs hplain
theorem r_mut {M : O → List O → Rs (O × O)} {f : EF} {g : LF} {p q : Bool} (pa : PlainAttrs T) (slot : Slot T name id) (hty : typeOf (.builtin id) = pure (.type "method_descriptor")) (hm : MutD X id M) (ho : EvE X o f p) (ha : EvL X (e :: es) g q) (m : methT T = true := by decide)
    (hbase : attributeBase o name X.env (eval o X.env) = eval o X.env := by rfl)
    (hfew : ((backTo cpos (starEach (e :: es) X.env)).all (fun x => !x.1) && (backToKw cpos (keywordEach [] X.env)).all (fun x => x.1.isSome)
      && decide ((e :: es).length + ([] : List Keyword).length + (if ([] : List Keyword).isEmpty then 0 else 1) < 30)) = true := by rfl)
    (hline : (apos.endLine == cpos.line) = true := by rfl) (hs : starEach (e :: es) X.env = (false, eval e X.env) :: starEach es X.env := by rfl) (hplain : (backTo cpos (starEach es X.env)).any (·.1) = false := by rfl) :
    EvE X (.Call (.Attribute o name apos) (e :: es) [] cpos) (eMut T M f q g) false := eve_mut m pa slot hty hm ho ha hbase hfew hline hs hplain
theorem r_mut0 {M : O → List O → Rs (O × O)} {f : EF} {p : Bool} (pa : PlainAttrs T) (slot : Slot T name id) (hty : typeOf (.builtin id) = pure (.type "method_descriptor")) (hm : MutD X id M) (ho : EvE X o f p) (m : methT T = true := by decide)
    (hbase : attributeBase o name X.env (eval o X.env) = eval o X.env := by rfl) (hline : (apos.endLine == cpos.line) = true := by rfl) :
    EvE X (.Call (.Attribute o name apos) [] [] cpos) (eMut T M f true lNil) false := eve_mut0 m pa slot hty hm ho hbase hline
end
theorem r_disp {keys : List (Option Expr)} {values : List Expr} {prs : List (EF × EF)} {pos : Pos} (h : EvPs X pos keys values prs) (hall : keys.all (·.isSome) = true := by rfl) (hl : keys.length = values.length := by rfl) (h0 : keys ≠ [] := by exact List.cons_ne_nil _ _) (h15 : keys.length ≤ 15 := by exact of_decide_eq_true rfl)
    (few : prs.length ≤ 15 := by exact of_decide_eq_true rfl) : EvE X (.Dict keys values pos) (eDct prs) false := eve_disp h hall hl h0 h15 few
theorem r_lc {elt tg iter : Expr} {ifs : List Expr} {scope : Scope} {pos : Pos} {i : IF} {q : Pat} {c : TF} {f : EF} {p : Bool} (own : List (Str × Nat)) (hN : X.N.Nodup) (hi : EvI X tg iter q i)
    (hg : ∀ (s : Shared) (H : Hp) (C : Addr) (cl : List (Str × Addr)) (fp : List Addr), EvG (X.blk s H scope (compEnvC scope cl C X.env) fp) [] tg q) (ht : ∀ (s : Shared) (H : Hp) (C : Addr) (cl : List (Str × Addr)) (fp : List Addr), PTs (X.blk s H scope (compEnvC scope cl C X.env) fp) ifs (tT X.K c))
    (he : ∀ (s : Shared) (H : Hp) (C : Addr) (cl : List (Str × Addr)) (fp : List Addr), EvE (X.blk s H scope (compEnvC scope cl C X.env) fp) elt f p) (ok : blkC X.N X.env.scope scope own = true := by rfl) (sub : ∀ j ∈ q.slots, j ∈ own.map (·.2) := by decide) (hc : X.calm = true := by rfl) (hs : ∀ x, foldedSetIterable iter X.env x = pure x := by intro _; rfl) :
    EvE X (.ListComp elt [⟨tg, iter, ifs, 0⟩] scope pos) (eLc i (own.map (·.2)) q c f) false := eve_lc hc hN sub hi (blkOk_by ok) hg ht he hs
theorem s_setLc (i : Nat) {y : Str} {py : Pos} {elt tg iter : Expr} {ifs : List Expr} {scope : Scope} {pos spos : Pos} {it : IF} {q : Pat} {c : TF} {f : EF} {p : Bool} (own : List (Str × Nat)) (hN : X.N.Nodup) (hi : EvI X tg iter q it)
    (hg : ∀ (s : Shared) (H : Hp) (C : Addr) (cl : List (Str × Addr)) (fp : List Addr), EvG (X.blk s H scope (compEnvC scope cl C X.env) fp) [] tg q) (ht : ∀ (s : Shared) (H : Hp) (C : Addr) (cl : List (Str × Addr)) (fp : List Addr), PTs (X.blk s H scope (compEnvC scope cl C X.env) fp) ifs (tT X.K c))
    (he : ∀ (s : Shared) (H : Hp) (C : Addr) (cl : List (Str × Addr)) (fp : List Addr), EvE (X.blk s H scope (compEnvC scope cl C X.env) fp) elt f p) (ok : blkC X.N X.env.scope scope own = true := by rfl) (sub : ∀ j ∈ q.slots, j ∈ own.map (·.2) := by decide) (hc : X.calm = true := by rfl) (hs : ∀ x, foldedSetIterable iter X.env x = pure x := by intro _; rfl)
    (hy : X.N[i]? = some y := by rfl) (hyl : X.env.scope.names.lookup y = some .local := by rfl) (hsw : swapsWith (.ListComp elt [⟨tg, iter, ifs, 0⟩] scope pos) (some (.Name y py)) spos.line X.env = pure true := by rfl) :
    EvS X pb (.Assign [.Name y py] (.ListComp elt [⟨tg, iter, ifs, 0⟩] scope pos) spos) (sAsg pb i (eLc it (own.map (·.2)) q c f)) := evs_setLc hc hN hy hyl hsw sub hi (blkOk_by ok) hg ht he hs
theorem g_nm (i : Nat) {x : Str} {pos : Pos} (hN : X.N.Nodup) (hi : X.N[i]? = some x := by rfl) (hx : Loc X.env.scope x := by first | exact .inl rfl | exact .inr rfl) (hf : X.fn x = true ∨ X.env.scope.names.lookup x = some .local := by first | exact .inl rfl | exact .inr rfl) : EvG X pb (.Name x pos) (.nm i) := evg_name hN hi hx hf
theorem gs_cons {t : Expr} {ts : List Expr} {q : Pat} {qs : List Pat} (h1 : EvG X pb t q) (h2 : EvGs X pb ts qs) (hs : (assignEach (t :: ts) X.env).map (·.2) = assign t X.env :: (assignEach ts X.env).map (·.2) := by rfl) : EvGs X pb (t :: ts) (q :: qs) := evgs_cons h1 h2 hs
theorem g_tup {ts : List Expr} {qs : List Pat} {kk : Nat} {pos : Pos} (h : EvGs X pb ts qs) (hc : X.calm = true := by rfl) (hn : (assignEach ts X.env).length = qs.length := by rfl) (hst : (assignEach ts X.env).findIdx? (·.1) = none := by rfl) : EvG X pb (.Tuple ts kk pos) (.tup qs) := evg_tup hc h hn hst
theorem i_rgA {tg a : Expr} {q : Pat} {l : LF} {p : Bool} {np pos : Pos} (hm : X.mg "range" = none) (ha : EvL X [a] l p) (hg : Gl X "range" := by rfl) (hs : starEach [a] X.env = [(false, eval a X.env)] := by rfl) : EvI X tg (.Call (.Name "range" np) [a] [] pos) q (iRgA l) := evi_rgA hg hm ha hs
theorem i_rgB {tg a b : Expr} {q : Pat} {l : LF} {p : Bool} {np pos : Pos} (hm : X.mg "range" = none) (ha : EvL X [a, b] l p) (hg : Gl X "range" := by rfl) (hs : starEach [a, b] X.env = [(false, eval a X.env), (false, eval b X.env)] := by rfl) (hs2 : starEach [b] X.env = [(false, eval b X.env)] := by rfl) :
    EvI X tg (.Call (.Name "range" np) [a, b] [] pos) q (iRgB l) := evi_rgB hg hm ha hs hs2
/-! statements -/
theorem s_expr {e : Expr} {f : EF} {p : Bool} {pos : Pos} (he : EvE X e f p) (hs : swapsWith e none pos.line X.env = pure false := by rfl) : EvS X pb (.Expr e pos) (sExp f) := evs_expr he hs
theorem s_asg (i : Nat) {x : Str} {e : Expr} {f : EF} {p : Bool} {pos pos' : Pos} (hN : X.N.Nodup) (he : EvE X e f p) (hi : X.N[i]? = some x := by rfl) (hx : Loc X.env.scope x := by first | exact .inl rfl | exact .inr rfl) (hs : swapsWith e (some (.Name x pos')) pos.line X.env = pure false := by rfl)
    (hf : X.fn x = true ∨ X.env.scope.names.lookup x = some .local := by exact .inl rfl) : EvS X pb (.Assign [.Name x pos'] e pos) (sAsg pb i f) := evs_asg hN hi hx he hs hf
theorem s_par2 (i j : Nat) {x y : Str} {a b : Expr} {l : LF} {p : Bool} {px py pt pos : Pos} {kt k2 pt2} (hN : X.N.Nodup) (ha : EvL X [a, b] l p) (hi : X.N[i]? = some x := by rfl) (hj : X.N[j]? = some y := by rfl) (hij : i ≠ j := by decide)
    (hx : X.env.scope.names.lookup x = some .local := by rfl) (hy : X.env.scope.names.lookup y = some .local := by rfl) (hc : X.calm = true := by rfl)
    (hw : swappedStores [.Tuple [.Name x px, .Name y py] kt pt] (.Tuple [a, b] k2 pt2) X.env = pure (some [x, y]) := by rfl)
    (hs : swapsWithSole [.Tuple [.Name x px, .Name y py] kt pt] (.Tuple [a, b] k2 pt2) pos.line X.env = pure false := by rfl) :
    EvS X pb (.Assign [.Tuple [.Name x px, .Name y py] kt pt] (.Tuple [a, b] k2 pt2) pos) (sPar pb [i, j] l) := evs_par2 hc hN hi hj hij hx hy ha hw hs
theorem s_par3 (i j m : Nat) {x y z : Str} {a b c : Expr} {l : LF} {p : Bool} {px py pz pt pos : Pos} {kt k2 pt2} (hN : X.N.Nodup) (ha : EvL X [a, b, c] l p) (hi : X.N[i]? = some x := by rfl) (hj : X.N[j]? = some y := by rfl) (hm : X.N[m]? = some z := by rfl) (hij : i ≠ j := by decide) (him : i ≠ m := by decide) (hjm : j ≠ m := by decide)
    (hx : X.env.scope.names.lookup x = some .local := by rfl) (hy : X.env.scope.names.lookup y = some .local := by rfl) (hz : X.env.scope.names.lookup z = some .local := by rfl) (hc : X.calm = true := by rfl)
    (hw : swappedStores [.Tuple [.Name x px, .Name y py, .Name z pz] kt pt] (.Tuple [a, b, c] k2 pt2) X.env = pure (some [x, y, z]) := by rfl)
    (hs : swapsWithSole [.Tuple [.Name x px, .Name y py, .Name z pz] kt pt] (.Tuple [a, b, c] k2 pt2) pos.line X.env = pure false := by rfl) :
    EvS X pb (.Assign [.Tuple [.Name x px, .Name y py, .Name z pz] kt pt] (.Tuple [a, b, c] k2 pt2) pos) (sPar pb [i, j, m] l) := evs_par3 hc hN hi hj hm hij him hjm hx hy hz ha hw hs
theorem n_cons (i : Nat) {is : List Nat} {x : Str} {pos : Pos} {es : List Expr} (hN : X.N.Nodup) (h2 : PGs X es (gNames is)) (hi : X.N[i]? = some x := by rfl) (hx : Loc X.env.scope x := by first | exact .inl rfl | exact .inr rfl) (hf : X.fn x = true ∨ X.env.scope.names.lookup x = some .local := by exact .inl rfl)
    (hs : (assignEach (.Name x pos :: es) X.env).map (·.2) = assign (.Name x pos) X.env :: (assignEach es X.env).map (·.2) := by rfl) : PGs X (.Name x pos :: es) (gNames (i :: is)) := pgsN_cons hN hi hx hf h2 hs
theorem s_parN {ts es : List Expr} {is : List Nat} {l : LF} {p : Bool} {kt k2 : Nat} {pt pt2 pos : Pos} (hg : PGs X ts (gNames is)) (ha : EvL X es l p) (hc : X.calm = true := by rfl) (hn : (assignEach ts X.env).length = is.length := by rfl) (hst : (assignEach ts X.env).findIdx? (·.1) = none := by rfl)
    (hs : swapsWithSole [.Tuple ts kt pt] (.Tuple es k2 pt2) pos.line X.env = pure false := by rfl) (hw : swappedStores [.Tuple ts kt pt] (.Tuple es k2 pt2) X.env = pure none := by rfl) (hl : is.length ≤ 16777216 := by exact of_decide_eq_true rfl)
    (h1 : (assignEach [.Tuple ts kt pt] X.env).map (·.2) = [assign (.Tuple ts kt pt) X.env] := by rfl) :
    EvS X pb (.Assign [.Tuple ts kt pt] (.Tuple es k2 pt2) pos) (sPar pb is l) := evs_parN hc hg ha hn hst hs hw hl h1
theorem s_unp {e : Expr} {ts : List Expr} {qs : List Pat} {f : EF} {p : Bool} {kt : Nat} {pt pos : Pos} (he : EvE X e f p) (hg : EvG X pb (.Tuple ts kt pt) (.tup qs)) (hs : swapsWithSole [.Tuple ts kt pt] e pos.line X.env = pure false := by rfl)
    (hw : swappedStores [.Tuple ts kt pt] e X.env = pure none := by rfl) (h1 : (assignEach [.Tuple ts kt pt] X.env).map (·.2) = [assign (.Tuple ts kt pt) X.env] := by rfl) : EvS X pb (.Assign [.Tuple ts kt pt] e pos) (sUnp pb qs f) := evs_unp he hg hs hw h1
theorem s_put {a b v : Expr} {f g h : EF} {p q r : Bool} {spos pos : Pos} (S : Sys X) (hv : EvE X v f p) (ha : EvE X a g q) (hb : EvE X b h r)
    (hs : swapsWithSole [.Subscript a b spos] v pos.line X.env = pure false := by rfl) (hw : swappedStores [.Subscript a b spos] v X.env = pure none := by rfl) (h1 : (assignEach [.Subscript a b spos] X.env).map (·.2) = [assign (.Subscript a b spos) X.env] := by rfl)
    (hass : ∀ v, assign (.Subscript a b spos) X.env v = (do
      let ov ← holding [v] (eval a X.env)
      let iv ← holding [v, ov] (eval b X.env)
      standAt spos
      holding [v, ov, iv] (setItem ov iv v)
      release [v, ov, iv] []) := by intro _; rfl) : EvS X pb (.Assign [.Subscript a b spos] v pos) (sPut f (lTwo g r h)) := evs_put S.hu hv ha hb hs hw h1 hass
theorem s_while {c : Expr} {body : List Stmt} {tc : TF} {s : SF} {pos : Pos} (hc : EvT X c tc) (hb : EvSs X pb body s) (hp : PassesOwn (model X.prog X.w) X.A X.env X.xe := by exact PassesOwn.never) : EvS X pb (.While c body [] pos) (sWhile tc s) := evs_while hp hc hb
theorem s_for {tg iter : Expr} {body : List Stmt} {i : IF} {q : Pat} {s : SF} {pos : Pos} (hi : EvI X tg iter q i) (hg : EvG X pb tg q) (hb : EvSs X pb body s) (hp : PassesOwn (model X.prog X.w) X.A X.env X.xe := by exact PassesOwn.never) (hc : X.calm = true := by rfl)
    (hs : ∀ x, foldedSetIterable iter X.env x = pure x := by intro _; rfl) : EvS X pb (.For tg iter body [] pos) (sFor pb i q s) := evs_for hp hc hi hg hb hs
/-! calls -/
section
variable {k n j : Nat} {ps ks : List Str} {F : Fn} {x : Str} {st : Stmt} {np pos kpos : Pos} {e : Expr} {es : List Expr} {kws : List Keyword} {l : LF} {p : Bool}
def BindOk (x : Str) (st : Stmt) (ps : List Str) : Prop := ∀ (kV doc pm : Value) (an : Option Addr) (cdv ct : Value) (us : List Value), us.length = ps.length → bindArgs (fdAt x st kV doc pm an cdv ct) ⟨us, []⟩ = pure (ps.zip us)
theorem r_call (C : FnAt X.prog X.w X.K X.mg X.base k x st ps F) (bd : BindOk x st ps) (room : Room j X.A) (gd : X.A.guards = some []) (kj : k ≤ j) (ha : EvL X (e :: es) l p) (isg : Gl X x := by rfl) (hdb : (x == ("__debug__" : Str)) = false := by decide)
    (he : starEach (e :: es) X.env = (false, eval e X.env) :: starEach es X.env := by rfl) (hpl : (backTo pos (starEach es X.env)).any (·.1) = false := by rfl) : EvE X (.Call (.Name x np) (e :: es) [] pos) (eCall F l) false := by
  obtain ⟨f, kV, doc, pm, an, cdv, ct, h1, h2, h3, _⟩ := C.ex
  exact eve_call h1 (room.mono kj) gd isg h2 h3 (.all fun us hl => bd kV doc pm an cdv ct us hl) ha hdb he hpl
theorem r_call0 (C : FnAt X.prog X.w X.K X.mg X.base k x st ps F) (bd : BindOk x st ps) (room : Room j X.A) (gd : X.A.guards = some []) (kj : k ≤ j) (isg : Gl X x := by rfl) (hdb : (x == ("__debug__" : Str)) = false := by decide) : EvE X (.Call (.Name x np) [] [] pos) (eCall F lNil) false := by
  obtain ⟨f, kV, doc, pm, an, cdv, ct, h1, h2, h3, _⟩ := C.ex
  exact eve_call0 h1 (room.mono kj) gd isg h2 h3 (.all fun us hl => bd kV doc pm an cdv ct us hl) hdb
theorem r_callK (C : FnAt X.prog X.w X.K X.mg X.base k x st ps F) (idx : List Nat)
    (bd : ∀ (kV doc pm : Value) (an : Option Addr) (cdv ct : Value) (ws : List Value), ws.length = n → bindArgs (fdAt x st kV doc pm an cdv ct) ⟨[], ks.zip ws⟩ = pure (ps.zip (pickV ws idx))) (room : Room j X.A) (gd : X.A.guards = some []) (kj : k ≤ j) (hkw : EvKs X kws l p) (hlen : ∀ e ws e', l e = .ok (ws, e') → ws.length = n)
    (isg : Gl X x := by rfl) (sub : idx.all (fun j => decide (j < n)) = true := by rfl) (hdb : (x == ("__debug__" : Str)) = false := by decide) (hall : (backToKw pos (keywordEach kws X.env)).all (·.1.isSome) = true := by rfl) (hks : (backToKw pos (keywordEach kws X.env)).filterMap (·.1) = ks := by rfl)
    (hpl : ((backTo pos (starEach [] X.env)).any (·.1) || (backToKw pos (keywordEach kws X.env)).any (·.1.isNone)) = false := by rfl) : EvE X (.Call (.Name x np) [] kws pos) (eCallK F idx l) false := by
  obtain ⟨f, kV, doc, pm, an, cdv, ct, h1, h2, h3, _⟩ := C.ex
  exact eve_callK0 h1 (room.mono kj) gd isg h2 h3 (fun s ws _ lw => .of_eq (bd kV doc pm an cdv ct ws lw)) sub hkw hlen hall hks hdb hpl
end
theorem lnil_len : ∀ e ws e', lNil e = .ok (ws, e') → ws.length = 0 := fun e ws e' h => by cases h; rfl
theorem lcons_len {f : EF} {q : Bool} {g : LF} {n : Nat} (h : ∀ e ws e', g e = .ok (ws, e') → ws.length = n) : ∀ e ws e', lCons f q g e = .ok (ws, e') → ws.length = n + 1 := fun e ws e' z => by
  unfold lCons at z
  obtain ⟨⟨w, e1⟩, h1, z⟩ := Rs.bind_ok z
  obtain ⟨_, h2, z⟩ := Rs.bind_ok z
  obtain ⟨⟨us, e2⟩, h3, z⟩ := Rs.bind_ok z
  cases z
  simp [h e1 us _ h3]
end
theorem law_fg {P : Program} {w : World} {K : PySem.W.Frag} {mg : Str → Option Value} {k : Nat} {x n : Str} {st : Stmt} {F : Fn} {fa : Addr} (D : DefAt K mg n st) (ok : ∀ base : Heap, (∃ mm, base.Ns sysModules mm) → FnAt P w K mg base k n st [x] F) (hfa : mg n = some (.ref fa)) (bd : BindOk n st [x]) :
    ∃ fd : FuncData, (∀ (s : Shared) (u : Value), BindsTo s fd ⟨[u], []⟩ [(x, u)]) ∧ ∀ base : Heap, K.In base → base.Ns mainGlobals mg → (∃ mm, base.Ns sysModules mm) → FnG P w K mg base k fa fd [x] F := by
  obtain ⟨f, oc, od, kV, doc, pm, an, cdv, ct, osl, h1, h2, h3, h4⟩ := D.ex
  rw [hfa] at h3
  cases h3
  refine ⟨_, fun s u => .of_eq (bd kV doc pm an cdv ct [u] rfl), fun base _ _ sy => ?_⟩
  obtain ⟨f', kV', doc', pm', an', cdv', ct', g1, g2, g3, oc', od', osl', g4⟩ := (ok base sy).ex
  rw [hfa] at g2
  cases g2
  rw [h1] at g4
  injection g4 with g4
  injection g4 with _ _ g4 _
  injection g4 with g4
  rw [g4]
  exact g1
end Ev

set_option Elab.async false
set_option linter.all false
set_option maxRecDepth 100000
/-! Ev: the combinators, evaluated from the front (every continuation has a name, so that nothing is unfolded ahead of its turn). -/
namespace Ev
open PySem PySem.Spec PyProof.Rows
section
variable {F G : List O → Rs O} {l g : LF} {f h : EF} {e e1 e2 : Env} {p q r : Bool} {w : W} {ws : List W} {o : O} {os : List O}
@[simp] theorem v_cst {d : PyData} : eCst d e = .ok (.val d, e) := rfl
def kVar (i : Nat) (e : Env) : Option O → Rs (W × Env)
  | some (.val d) => .ok (.val d, e)
  | some (.lst _) => .ok (.at i [], e)
  | some (.dct _) => .ok (.at i [], e)
  | _ => .no
@[simp] theorem v_var {i : Nat} : eVar i e = kVar i e e[i]? := by unfold eVar; cases e[i]? with
  | none => rfl
  | some o => cases o <;> rfl
@[simp] theorem v_var1 {i : Nat} {d : PyData} : kVar i e (some (.val d)) = .ok (.val d, e) := rfl
@[simp] theorem v_var2 {i : Nat} {d : List O} : kVar i e (some (.lst d)) = .ok (.at i [], e) := rfl
@[simp] theorem v_var3 {i : Nat} {d : List (PyData × O)} : kVar i e (some (.dct d)) = .ok (.at i [], e) := rfl
@[simp] theorem v_nil : lNil e = .ok ([], e) := rfl
def kC3 (w : W) : List W × Env → Rs (List W × Env) := fun (ws, e2) => .ok (w :: ws, e2)
def kC2 (g : LF) (w : W) (e1 : Env) : Unit → Rs (List W × Env) := fun _ => (g e1).bind (kC3 w)
def kC1 (p : Bool) (g : LF) : W × Env → Rs (List W × Env) := fun (w, e1) => (Rs.chk (p || !w.nested)).bind (kC2 g w e1)
@[simp] theorem v_cons : lCons f p g e = (f e).bind (kC1 p g) := rfl
@[simp] theorem v_cons1 : kC1 p g (w, e1) = (Rs.chk (p || !w.nested)).bind (kC2 g w e1) := rfl
@[simp] theorem v_cons2 {u : Unit} : kC2 g w e1 u = (g e1).bind (kC3 w) := rfl
@[simp] theorem v_cons3 : kC3 w (ws, e2) = .ok (w :: ws, e2) := rfl
@[simp] theorem v_two : lTwo f q h e = lCons f q (lCons h true lNil) e := rfl
@[simp] theorem v_one : lOne f e = lCons f true lNil e := rfl
@[simp] theorem v_nested1 {d : PyData} : (W.val d).nested = false := rfl
@[simp] theorem v_nested2 : (W.own o).nested = false := rfl
@[simp] theorem v_nested3 {i : Nat} : (W.at i []).nested = false := rfl
@[simp] theorem v_nested4 {i j : Nat} {s : List Nat} : (W.at i (j :: s)).nested = true := rfl
@[simp] theorem v_mkW1 {d : PyData} : mkW (.val d) = .val d := rfl
@[simp] theorem v_mkW2 {d : List O} : mkW (.lst d) = .own (.lst d) := rfl
@[simp] theorem v_mkW3 {d : List (PyData × O)} : mkW (.dct d) = .own (.dct d) := rfl
def kOp3 (e1 : Env) : O → Rs (W × Env) := fun o => .ok (mkW o, e1)
def kOp2 (F : List O → Rs O) (e1 : Env) : List O → Rs (W × Env) := fun os => (F os).bind (kOp3 e1)
def kOp (F : List O → Rs O) : List W × Env → Rs (W × Env) := fun (ws, e1) => (Rs.of (contents e1 ws)).bind (kOp2 F e1)
@[simp] theorem v_op : eOp F l e = (l e).bind (kOp F) := rfl
@[simp] theorem v_op1 : kOp F (ws, e1) = (Rs.of (contents e1 ws)).bind (kOp2 F e1) := rfl
@[simp] theorem v_op2 : kOp2 F e1 os = (F os).bind (kOp3 e1) := rfl
@[simp] theorem v_op3 : kOp3 e1 o = .ok (mkW o, e1) := rfl
@[simp] theorem v_cont0 : contents e [] = some [] := rfl
def kCont : Option O → Option (List O) → Option (List O)
  | some o, some os => some (o :: os)
  | _, _ => none
@[simp] theorem v_cont1 : contents e (w :: ws) = kCont (content e w) (contents e ws) := by
  rw [contents]
  cases content e w <;> cases contents e ws <;> rfl
@[simp] theorem v_cont2 : kCont (some o) (some os) = some (o :: os) := rfl
@[simp] theorem v_content1 {d : PyData} : content e (.val d) = some (.val d) := rfl
@[simp] theorem v_content2 : content e (.own o) = some o := rfl
@[simp] theorem v_content3 {i : Nat} {s : List Nat} : content e (.at i s) = eget e i s := rfl
def kGet (s : List Nat) : Option O → Option O
  | some x => x.get s
  | none => none
@[simp] theorem v_eget {i : Nat} {s : List Nat} : eget e i s = kGet s e[i]? := by unfold eget kGet; cases e[i]? <;> rfl
@[simp] theorem v_get0 : kGet [] (some o) = some o := by cases o <;> rfl
@[simp] theorem v_get1 {k : Nat} {s : List Nat} : kGet (k :: s) (some o) = kGet s (o.sub k) := by
  unfold kGet; show O.get o (k :: s) = _
  cases o <;> (rw [O.get]; try rfl)
@[simp] theorem v_sub1 {k : Nat} {xs : List O} : (O.lst xs).sub k = xs[k]? := rfl
@[simp] theorem v_sub2 {k : Nat} {xs : List (PyData × O)} : (O.dct xs).sub k = (xs[k]?).map (·.2) := rfl
@[simp] theorem v_dataOf {d : PyData} : dataOf (some (.val d)) = some d := rfl
def kSub3 (e1 : Env) : W → Rs (W × Env) := fun w => .ok (w, e1)
def kSub2 (e1 : Env) (c : W) : PyData → Rs (W × Env) := fun kd => (Rs.of (subW e1 c kd)).bind (kSub3 e1)
def kSub : List W × Env → Rs (W × Env)
  | ([c, k], e1) => (Rs.of (dataOf (content e1 k))).bind (kSub2 e1 c)
  | _ => .no
@[simp] theorem v_esub : eSub l e = (l e).bind kSub := by
  unfold eSub
  cases l e with
  | ok a =>
    obtain ⟨ws, e1⟩ := a
    match ws with
    | [] => rfl
    | [_] => rfl
    | [_, _] => rfl
    | _ :: _ :: _ :: _ => rfl
  | ex c => rfl
  | no => rfl
@[simp] theorem v_esub1 {c k : W} : kSub ([c, k], e1) = (Rs.of (dataOf (content e1 k))).bind (kSub2 e1 c) := rfl
@[simp] theorem v_esub2 {c : W} {kd : PyData} : kSub2 e1 c kd = (Rs.of (subW e1 c kd)).bind (kSub3 e1) := rfl
@[simp] theorem v_esub3 : kSub3 e1 w = .ok (w, e1) := rfl
@[simp] theorem v_subW1 {d k : PyData} : subW e (.val d) k = (itemD d k).map W.val := rfl
def kSbO : Option O → Option W
  | some .hole => none
  | some x => some (mkW x)
  | none => none
def kSbI (o : O) : Option Nat → Option W
  | some j => kSbO (o.sub j)
  | none => none
@[simp] theorem v_subW2 {k : PyData} : subW e (.own o) k = kSbI o (idxO o k) := by
  unfold subW kSbI
  dsimp only
  cases idxO o k with
  | none => rfl
  | some j =>
    show (o.sub j).bind _ = kSbO (o.sub j)
    cases o.sub j with
    | none => rfl
    | some x => cases x <;> rfl
@[simp] theorem v_sbI {j : Nat} : kSbI o (some j) = kSbO (o.sub j) := rfl
@[simp] theorem v_sbO1 {d : PyData} : kSbO (some (.val d)) = some (.val d) := rfl
@[simp] theorem v_sbO2 {d : List O} : kSbO (some (.lst d)) = some (.own (.lst d)) := rfl
def kSaO (i : Nat) (s : List Nat) (j : Nat) : Option O → Option W
  | some .hole => none
  | some (.val d) => some (.val d)
  | some _ => some (.at i (s ++ [j]))
  | none => none
def kSaI (i : Nat) (s : List Nat) (o : O) : Option Nat → Option W
  | some j => kSaO i s j (o.sub j)
  | none => none
def kSa (i : Nat) (s : List Nat) (k : PyData) : Option O → Option W
  | some (.val d) => (itemD d k).map W.val
  | some o => kSaI i s o (idxO o k)
  | none => none
@[simp] theorem v_subW3 {i : Nat} {s : List Nat} {k : PyData} : subW e (.at i s) k = kSa i s k (eget e i s) := by
  have go : ∀ o, (idxO o k).bind (fun j => (o.sub j).bind fun x => match x with
      | .hole => none
      | .val d => some (W.val d)
      | _ => some (.at i (s ++ [j]))) = kSaI i s o (idxO o k) := fun o => by
    cases idxO o k with
    | none => rfl
    | some j =>
      show (o.sub j).bind _ = kSaO i s j (o.sub j)
      cases o.sub j with
      | none => rfl
      | some x => cases x <;> rfl
  unfold subW kSa
  dsimp only
  cases eget e i s with
  | none => rfl
  | some o =>
    cases o with
    | val d => rfl
    | hole => cases k <;> rfl
    | lst l => exact go (.lst l)
    | dct l => exact go (.dct l)
@[simp] theorem v_sa1 {i : Nat} {s : List Nat} {k d : PyData} : kSa i s k (some (.val d)) = (itemD d k).map W.val := rfl
@[simp] theorem v_sa2 {i : Nat} {s : List Nat} {k : PyData} {d : List O} : kSa i s k (some (.lst d)) = kSaI i s (.lst d) (idxO (.lst d) k) := rfl
@[simp] theorem v_sa3 {i : Nat} {s : List Nat} {k : PyData} {d : List (PyData × O)} : kSa i s k (some (.dct d)) = kSaI i s (.dct d) (idxO (.dct d) k) := rfl
@[simp] theorem v_saI {i j : Nat} {s : List Nat} : kSaI i s o (some j) = kSaO i s j (o.sub j) := rfl
@[simp] theorem v_saO1 {i j : Nat} {s : List Nat} {d : PyData} : kSaO i s j (some (.val d)) = some (.val d) := rfl
@[simp] theorem v_saO2 {i j : Nat} {s : List Nat} {d : List O} : kSaO i s j (some (.lst d)) = some (.at i (s ++ [j])) := rfl
@[simp] theorem v_saO3 {i j : Nat} {s : List Nat} {d : List (PyData × O)} : kSaO i s j (some (.dct d)) = some (.at i (s ++ [j])) := rfl
@[simp] theorem v_idx1 {xs : List O} {i : Int} : idxO (.lst xs) (.int i) = L2.ixN xs.length i := rfl
@[simp] theorem v_idx2 {xs : List (PyData × O)} {x : Str} : idxO (.dct xs) (.str x) = idxD (.str x) xs := rfl
@[simp] theorem v_itemS {xs : List PyData} {i : Int} : itemD (.list xs) (.int i) = (L2.ixN xs.length i).bind (fun j => xs[j]?) := rfl
@[simp] theorem v_itemT {xs : List PyData} {i : Int} : itemD (.tuple xs) (.int i) = (L2.ixN xs.length i).bind (fun j => xs[j]?) := rfl
/-! operations -/
@[simp] theorem v_add1 {a b : Int} : oAdd [.val (.int a), .val (.int b)] = .ok (.val (.int (a + b))) := rfl
@[simp] theorem v_add2 {a b : Str} : oAdd [.val (.str a), .val (.str b)] = (Rs.chk (fits (a.length + b.length))).bind (fun _ => .ok (.val (.str (a ++ b)))) := rfl
@[simp] theorem v_sub {a b : Int} : oSub [.val (.int a), .val (.int b)] = .ok (.val (.int (a - b))) := rfl
@[simp] theorem v_mul {a b : Int} : oMul [.val (.int a), .val (.int b)] = (Rs.chk (decide (a.natAbs.log2 + b.natAbs.log2 < 1000000))).bind (fun _ => .ok (.val (.int (a * b)))) := rfl
@[simp] theorem v_div {a b : Int} : oDiv [.val (.int a), .val (.int b)] = (Rs.chk (decide (0 < b) && decide (b.natAbs.log2 < 9000))).bind (fun _ => .ok (.val (.int (a / b)))) := rfl
@[simp] theorem v_mod {a b : Int} : oMod [.val (.int a), .val (.int b)] = (Rs.chk (decide (b ≠ 0))).bind (fun _ => .ok (.val (.int (a.fmod b)))) := rfl
@[simp] theorem v_pow {a b : Int} : oPow [.val (.int a), .val (.int b)] = (Rs.chk (decide (0 ≤ b) && (decide (b ≤ 1000000) && decide (a.natAbs < 2 ^ 64)))).bind (fun _ => .ok (.val (.int (a ^ b.toNat)))) := rfl
@[simp] theorem v_neg {a : Int} : oNeg [.val (.int a)] = .ok (.val (.int (-a))) := rfl
@[simp] theorem v_lt {a b : Int} : oLt [.val (.int a), .val (.int b)] = .ok (.val (.bool (decide (a < b)))) := rfl
@[simp] theorem v_le {a b : Int} : oLe [.val (.int a), .val (.int b)] = .ok (.val (.bool (decide (a ≤ b)))) := rfl
@[simp] theorem v_gt {a b : Int} : oGt [.val (.int a), .val (.int b)] = .ok (.val (.bool (decide (b < a)))) := rfl
@[simp] theorem v_ge {a b : Int} : oGe [.val (.int a), .val (.int b)] = .ok (.val (.bool (decide (b ≤ a)))) := rfl
/-! storing, tests, statements -/
@[simp] theorem v_st1 {d : PyData} : storeW (.val d) e = .ok (.val d, e) := rfl
@[simp] theorem v_st2 : storeW (.own o) e = .ok (o, e) := rfl
@[simp] theorem v_sl0 : storeL [] e = .ok ([], e) := rfl
def kSl3 (o : O) : List O × Env → Rs (List O × Env) := fun (os, e2) => .ok (o :: os, e2)
def kSl2 (ws : List W) : O × Env → Rs (List O × Env) := fun (o, e1) => (storeL ws e1).bind (kSl3 o)
def kSl1 (w : W) (ws : List W) (e : Env) : Unit → Rs (List O × Env) := fun _ => (storeW w e).bind (kSl2 ws)
@[simp] theorem v_sl1 : storeL (w :: ws) e = (Rs.chk (aliasOk w ws)).bind (kSl1 w ws e) := rfl
@[simp] theorem v_sl2 {u : Unit} : kSl1 w ws e u = (storeW w e).bind (kSl2 ws) := rfl
@[simp] theorem v_sl3 : kSl2 ws (o, e1) = (storeL ws e1).bind (kSl3 o) := rfl
@[simp] theorem v_sl4 : kSl3 o (os, e1) = .ok (o :: os, e1) := rfl
@[simp] theorem v_al1 {d : PyData} : aliasOk (.val d) ws = true := rfl
@[simp] theorem v_al2 : aliasOk (.own o) ws = true := rfl
def kLst2 (os : List O) (e2 : Env) : Unit → Rs (W × Env) := fun _ => .ok (.own (.lst os), e2)
def kLst1 : List O × Env → Rs (W × Env) := fun (os, e2) => (Rs.chk (decide (os.length ≤ 16777216))).bind (kLst2 os e2)
def kLst : List W × Env → Rs (W × Env) := fun (ws, e1) => (storeL ws e1).bind kLst1
@[simp] theorem v_lst : eLst l e = (l e).bind kLst := rfl
@[simp] theorem v_lst1 : kLst (ws, e1) = (storeL ws e1).bind kLst1 := rfl
@[simp] theorem v_lst2 : kLst1 (os, e1) = (Rs.chk (decide (os.length ≤ 16777216))).bind (kLst2 os e1) := rfl
@[simp] theorem v_lst3 {u : Unit} : kLst2 os e1 u = .ok (.own (.lst os), e1) := rfl
end
section
variable {c d : TF} {s t : SF} {f : EF} {l : LF} {e e1 : Env} {w : W} {ws : List W} {o : O} {os : List O} {b : Bool} {pb : List Nat}
def kB : W × Env → Rs (Bool × Env)
  | (.val (.bool b), e1) => .ok (b, e1)
  | _ => .no
@[simp] theorem v_cB : cB f e = (f e).bind kB := by
  unfold cB
  cases f e with
  | ok a =>
    obtain ⟨w, e1⟩ := a
    cases w with
    | val d => cases d <;> rfl
    | _ => rfl
  | _ => rfl
@[simp] theorem v_cB1 : kB (.val (.bool b), e1) = .ok (b, e1) := rfl
def kNot : Bool × Env → Rs (Bool × Env) := fun (b, e1) => .ok (!b, e1)
@[simp] theorem v_cNot : cNot c e = (c e).bind kNot := rfl
@[simp] theorem v_cNot1 : kNot (b, e1) = .ok (!b, e1) := rfl
def kAnd (d : TF) : Bool × Env → Rs (Bool × Env) := fun (b, e1) => if b = true then d e1 else .ok (false, e1)
def kOr (d : TF) : Bool × Env → Rs (Bool × Env) := fun (b, e1) => if b = true then .ok (true, e1) else d e1
@[simp] theorem v_cAnd : cAnd c d e = (c e).bind (kAnd d) := rfl
@[simp] theorem v_cAnd1 : kAnd d (true, e1) = d e1 := rfl
@[simp] theorem v_cAnd2 : kAnd d (false, e1) = .ok (false, e1) := rfl
@[simp] theorem v_cOr : cOr c d e = (c e).bind (kOr d) := rfl
@[simp] theorem v_cOr1 : kOr d (true, e1) = .ok (true, e1) := rfl
@[simp] theorem v_cOr2 : kOr d (false, e1) = d e1 := rfl
@[simp] theorem v_cYes : cYes e = .ok (true, e) := rfl
def kOf2 (e1 : Env) : Bool → Rs (Bool × Env) := fun b => .ok (b, e1)
def kOf1 (e1 : Env) : O → Rs (Bool × Env) := fun o => (Rs.of (truthO o)).bind (kOf2 e1)
def kOf : W × Env → Rs (Bool × Env) := fun (w, e1) => (Rs.of (content e1 w)).bind (kOf1 e1)
@[simp] theorem v_cOf : cOf f e = (f e).bind kOf := rfl
@[simp] theorem v_cOf1 : kOf (w, e1) = (Rs.of (content e1 w)).bind (kOf1 e1) := rfl
@[simp] theorem v_cOf2 : kOf1 e1 o = (Rs.of (truthO o)).bind (kOf2 e1) := rfl
@[simp] theorem v_cOf3 : kOf2 e1 b = .ok (b, e1) := rfl
@[simp] theorem v_sNx : sNx e = .ok (.nx, e) := rfl
@[simp] theorem v_sBk : sBk e = .ok (.bk, e) := rfl
@[simp] theorem v_sCt : sCt e = .ok (.ct, e) := rfl
def kSeq (t : SF) : Fl × Env → Rs (Fl × Env)
  | (.nx, e1) => t e1
  | (f, e1) => .ok (f, e1)
@[simp] theorem v_seq : sSeq s t e = (s e).bind (kSeq t) := by
  unfold sSeq
  cases s e with
  | ok a => obtain ⟨f, e1⟩ := a; cases f <;> rfl
  | _ => rfl
@[simp] theorem v_seq1 : kSeq t (.nx, e1) = t e1 := rfl
@[simp] theorem v_seq2 : kSeq t (.bk, e1) = .ok (.bk, e1) := rfl
@[simp] theorem v_seq3 : kSeq t (.ct, e1) = .ok (.ct, e1) := rfl
@[simp] theorem v_seq4 : kSeq t (.rt o, e1) = .ok (.rt o, e1) := rfl
def kExp : W × Env → Rs (Fl × Env) := fun (_, e1) => .ok (.nx, e1)
@[simp] theorem v_exp : sExp f e = (f e).bind kExp := rfl
@[simp] theorem v_exp1 : kExp (w, e1) = .ok (.nx, e1) := rfl
def kIf (s t : SF) : Bool × Env → Rs (Fl × Env) := fun (b, e1) => if b = true then s e1 else t e1
@[simp] theorem v_if : sIf c s t e = (c e).bind (kIf s t) := rfl
@[simp] theorem v_if1 : kIf s t (b, e1) = if b = true then s e1 else t e1 := rfl
def kRet2 : O × Env → Rs (Fl × Env) := fun (o, e2) => .ok (.rt o, e2)
def kRet : W × Env → Rs (Fl × Env) := fun (w, e1) => (takeW w e1).bind kRet2
@[simp] theorem v_ret : sRet f e = (f e).bind kRet := rfl
@[simp] theorem v_ret1 : kRet (w, e1) = (takeW w e1).bind kRet2 := rfl
@[simp] theorem v_ret2 : kRet2 (o, e1) = .ok (.rt o, e1) := rfl
@[simp] theorem v_take1 {d : PyData} : takeW (.val d) e = .ok (.val d, e) := rfl
@[simp] theorem v_take2 : takeW (.own o) e = .ok (o, e) := rfl
def kTk (i : Nat) (s : List Nat) (e : Env) : O → Rs (O × Env) := fun o => .ok (o, if isOwn o = true then eput e i s .hole else e)
@[simp] theorem v_take3 {i : Nat} {s : List Nat} : takeW (.at i s) e = (Rs.of (eget e i s)).bind (kTk i s e) := rfl
@[simp] theorem v_take4 {i : Nat} {s : List Nat} {d : PyData} : kTk i s e (.val d) = .ok (.val d, e) := rfl
@[simp] theorem v_take5 {i : Nat} {s : List Nat} {d : List O} : kTk i s e (.lst d) = .ok (.lst d, eput e i s .hole) := rfl
@[simp] theorem v_take6 {i : Nat} {s : List Nat} {d : List (PyData × O)} : kTk i s e (.dct d) = .ok (.dct d, eput e i s .hole) := rfl
def kPt (s : List Nat) (o : O) (i : Nat) (e : Env) : Option O → Env
  | some x => e.set i (x.put s o)
  | none => e
@[simp] theorem v_eput {i : Nat} {s : List Nat} : eput e i s o = kPt s o i e e[i]? := by unfold eput kPt; cases e[i]? <;> rfl
@[simp] theorem v_pt {i : Nat} {s : List Nat} {x : O} : kPt s o i e (some x) = e.set i (x.put s o) := rfl
def kPu (x : O) (k : Nat) (s : List Nat) (o : O) : Option O → O
  | some y => x.setSub k (y.put s o)
  | none => x
@[simp] theorem v_put0 {x : O} : x.put [] o = o := by cases x <;> rfl
@[simp] theorem v_put1 {x : O} {k : Nat} {s : List Nat} : x.put (k :: s) o = kPu x k s o (x.sub k) := by
  cases x <;> (rw [O.put]; try rfl)
@[simp] theorem v_pu {x y : O} {k : Nat} {s : List Nat} : kPu x k s o (some y) = x.setSub k (y.put s o) := rfl
@[simp] theorem v_ss1 {k : Nat} {xs : List O} : (O.lst xs).setSub k o = .lst (xs.set k o) := rfl
@[simp] theorem v_ss2 {k : Nat} {xs : List (PyData × O)} : (O.dct xs).setSub k o = .dct (setAt o xs k) := rfl
@[simp] theorem v_own1 {d : PyData} : isOwn (.val d) = false := rfl
@[simp] theorem v_own2 {d : List O} : isOwn (.lst d) = true := rfl
@[simp] theorem v_own3 {d : List (PyData × O)} : isOwn (.dct d) = true := rfl
@[simp] theorem v_own4 : isOwn .hole = false := rfl
def kAs2 : Env → Rs (Fl × Env) := fun e3 => .ok (.nx, e3)
def kAs1 (pb : List Nat) (i : Nat) : O × Env → Rs (Fl × Env) := fun (o, e2) => (setN pb i o e2).bind kAs2
def kAs (pb : List Nat) (i : Nat) : W × Env → Rs (Fl × Env) := fun (w, e1) => (storeW w e1).bind (kAs1 pb i)
@[simp] theorem v_asg {i : Nat} : sAsg pb i f e = (f e).bind (kAs pb i) := rfl
@[simp] theorem v_asg1 {i : Nat} : kAs pb i (w, e1) = (storeW w e1).bind (kAs1 pb i) := rfl
@[simp] theorem v_asg2 {i : Nat} : kAs1 pb i (o, e1) = (setN pb i o e1).bind kAs2 := rfl
@[simp] theorem v_asg3 : kAs2 e1 = .ok (.nx, e1) := rfl
def kSN (i : Nat) (o : O) (e : Env) : Unit → Rs Env := fun _ => .ok (e.set i o)
@[simp] theorem v_setN {i : Nat} : setN pb i o e = (Rs.chk (!pb.contains i)).bind (kSN i o e) := rfl
@[simp] theorem v_setN1 {i : Nat} {u : Unit} : kSN i o e u = .ok (e.set i o) := rfl
@[simp] theorem v_ns0 : setNs pb [] [] e = .ok e := rfl
def kNs (pb : List Nat) (is : List Nat) (os : List O) : Env → Rs Env := fun e1 => setNs pb is os e1
@[simp] theorem v_ns1 {i : Nat} {is : List Nat} : setNs pb (i :: is) (o :: os) e = (setN pb i o e).bind (kNs pb is os) := rfl
@[simp] theorem v_ns2 {is : List Nat} : kNs pb is os e = setNs pb is os e := rfl
def kPar1 (pb is : List Nat) : List O × Env → Rs (Fl × Env) := fun (os, e2) => (setNs pb is os e2).bind kAs2
def kPar (pb is : List Nat) : List W × Env → Rs (Fl × Env) := fun (ws, e1) => (storeL ws e1).bind (kPar1 pb is)
@[simp] theorem v_par {is : List Nat} : sPar pb is l e = (l e).bind (kPar pb is) := rfl
@[simp] theorem v_par1 {is : List Nat} : kPar pb is (ws, e1) = (storeL ws e1).bind (kPar1 pb is) := rfl
@[simp] theorem v_par2 {is : List Nat} : kPar1 pb is (os, e1) = (setNs pb is os e1).bind kAs2 := rfl
def kPut5 (e3 : Env) (i : Nat) (s : List Nat) : O → Rs (Fl × Env) := fun c' => .ok (.nx, eput e3 i s c')
def kPut4 (e3 : Env) (i : Nat) (s : List Nat) (c : O) (kd : PyData) (o : O) : Unit → Rs (Fl × Env) := fun _ => (Rs.of (putO c kd o)).bind (kPut5 e3 i s)
def kPut3 (e3 : Env) (i : Nat) (s : List Nat) (kd : PyData) (o : O) : O → Rs (Fl × Env) := fun c => (Rs.chk (isOwn c)).bind (kPut4 e3 i s c kd o)
def kPut2 (e3 : Env) (i : Nat) (s : List Nat) (o : O) : PyData → Rs (Fl × Env) := fun kd => (Rs.of (eget e3 i s)).bind (kPut3 e3 i s kd o)
def kPutL (o : O) : List W × Env → Rs (Fl × Env)
  | ([.at i s, k], e3) => (Rs.of (dataOf (content e3 k))).bind (kPut2 e3 i s o)
  | _ => .no
def kPut1 (l : LF) : O × Env → Rs (Fl × Env) := fun (o, e2) => (l e2).bind (kPutL o)
def kPut (l : LF) : W × Env → Rs (Fl × Env) := fun (w, e1) => (storeW w e1).bind (kPut1 l)
theorem kPutL_eq (o : O) (e2 : Env) : (l e2).bind (fun (ws, e3) => match ws with
  | [.at i p, k] => (Rs.of (dataOf (content e3 k))).bind fun kd => (Rs.of (eget e3 i p)).bind fun c => (Rs.chk (isOwn c)).bind fun _ => (Rs.of (putO c kd o)).bind fun c' => Rs.ok (Fl.nx, eput e3 i p c')
  | _ => .no) = (l e2).bind (kPutL o) := by
  cases l e2 with
  | ok a =>
    obtain ⟨ws, e3⟩ := a
    match ws with
    | [] => rfl
    | [w] => cases w <;> rfl
    | [.val _, _] => rfl
    | [.own _, _] => rfl
    | [.at i s, k] => rfl
    | w :: _ :: _ :: _ => cases w <;> rfl
  | _ => rfl
@[simp] theorem v_put : sPut f l e = (f e).bind (kPut l) := by
  unfold sPut
  cases f e with
  | ok a =>
    obtain ⟨w, e1⟩ := a
    show (storeW w e1).bind _ = (storeW w e1).bind (kPut1 l)
    cases storeW w e1 with
    | ok a => obtain ⟨o, e2⟩ := a; exact kPutL_eq o e2
    | _ => rfl
  | _ => rfl
@[simp] theorem v_putA : kPut l (w, e1) = (storeW w e1).bind (kPut1 l) := rfl
@[simp] theorem v_putB : kPut1 l (o, e1) = (l e1).bind (kPutL o) := rfl
@[simp] theorem v_putC {i : Nat} {s : List Nat} {k : W} : kPutL o ([.at i s, k], e1) = (Rs.of (dataOf (content e1 k))).bind (kPut2 e1 i s o) := rfl
@[simp] theorem v_putD {i : Nat} {s : List Nat} {kd : PyData} : kPut2 e1 i s o kd = (Rs.of (eget e1 i s)).bind (kPut3 e1 i s kd o) := rfl
@[simp] theorem v_putE {i : Nat} {s : List Nat} {kd : PyData} {c : O} : kPut3 e1 i s kd o c = (Rs.chk (isOwn c)).bind (kPut4 e1 i s c kd o) := rfl
@[simp] theorem v_putF {i : Nat} {s : List Nat} {kd : PyData} {c : O} {u : Unit} : kPut4 e1 i s c kd o u = (Rs.of (putO c kd o)).bind (kPut5 e1 i s) := rfl
@[simp] theorem v_putG {i : Nat} {s : List Nat} {c : O} : kPut5 e1 i s c = .ok (.nx, eput e1 i s c) := rfl
@[simp] theorem v_putO1 {xs : List O} {i : Int} : putO (.lst xs) (.int i) o = (L2.ixN xs.length i).map (fun j => .lst (xs.set j o)) := rfl
end
/-! methods that change, calls -/
section
variable {M : O → List O → Rs (O × O)} {T : String} {f : EF} {g l : LF} {q : Bool} {e e1 e2 e3 : Env} {w : W} {ws : List W} {o o' r : O} {os os' : List O} {i : Nat} {s : List Nat} {u : Unit}
def kM9 (e3 : Env) (i : Nat) (s : List Nat) : O × O → Rs (W × Env) := fun (o', r) => .ok (mkW r, eput e3 i s o')
def kM8 (M : O → List O → Rs (O × O)) (i : Nat) (s : List Nat) (os : List O) (e3 : Env) (o : O) : Unit → Rs (W × Env) := fun _ => (M o os).bind (kM9 e3 i s)
def kM7 (M : O → List O → Rs (O × O)) (i : Nat) (s : List Nat) (os : List O) (e3 : Env) : O → Rs (W × Env) := fun o => (Rs.chk (isOwn o)).bind (kM8 M i s os e3 o)
def kM6 (M : O → List O → Rs (O × O)) (i : Nat) (s : List Nat) : List O × Env → Rs (W × Env) := fun (os, e3) => (Rs.of (eget e3 i s)).bind (kM7 M i s os e3)
def kM5 (M : O → List O → Rs (O × O)) (i : Nat) (s : List Nat) (ws : List W) (e2 : Env) : Unit → Rs (W × Env) := fun _ => (storeL ws e2).bind (kM6 M i s)
def kM4 (M : O → List O → Rs (O × O)) (i : Nat) (s : List Nat) : List W × Env → Rs (W × Env) := fun (ws, e2) => (Rs.chk (s.isEmpty || ws.all notAt)).bind (kM5 M i s ws e2)
def kM3 (M : O → List O → Rs (O × O)) (i : Nat) (s : List Nat) (g : LF) (e1 : Env) : Unit → Rs (W × Env) := fun _ => (g e1).bind (kM4 M i s)
def kM2 (M : O → List O → Rs (O × O)) (q : Bool) (i : Nat) (s : List Nat) (g : LF) (e1 : Env) : Unit → Rs (W × Env) := fun _ => (Rs.chk (q || s.isEmpty)).bind (kM3 M i s g e1)
def kM1 (T : String) (M : O → List O → Rs (O × O)) (q : Bool) (i : Nat) (s : List Nat) (g : LF) (e1 : Env) : PyData → Rs (W × Env) := fun d => (Rs.chk (tyName d == T)).bind (kM2 M q i s g e1)
def kM0 (T : String) (M : O → List O → Rs (O × O)) (q : Bool) (i : Nat) (s : List Nat) (g : LF) (e1 : Env) : O → Rs (W × Env) := fun o => (Rs.of (tyO o)).bind (kM1 T M q i s g e1)
def kM (T : String) (M : O → List O → Rs (O × O)) (q : Bool) (g : LF) : W × Env → Rs (W × Env)
  | (.at i s, e1) => (Rs.of (eget e1 i s)).bind (kM0 T M q i s g e1)
  | _ => .no
@[simp] theorem v_mut : eMut T M f q g e = (f e).bind (kM T M q g) := by
  unfold eMut
  cases f e with
  | ok a => obtain ⟨w, e1⟩ := a; cases w <;> rfl
  | _ => rfl
@[simp] theorem v_mutA : kM T M q g (.at i s, e1) = (Rs.of (eget e1 i s)).bind (kM0 T M q i s g e1) := rfl
@[simp] theorem v_mut0 : kM0 T M q i s g e1 o = (Rs.of (tyO o)).bind (kM1 T M q i s g e1) := rfl
@[simp] theorem v_mut1 {d : PyData} : kM1 T M q i s g e1 d = (Rs.chk (tyName d == T)).bind (kM2 M q i s g e1) := rfl
@[simp] theorem v_mut2 : kM2 M q i s g e1 u = (Rs.chk (q || s.isEmpty)).bind (kM3 M i s g e1) := rfl
@[simp] theorem v_mut3 : kM3 M i s g e1 u = (g e1).bind (kM4 M i s) := rfl
@[simp] theorem v_mut4 : kM4 M i s (ws, e2) = (Rs.chk (s.isEmpty || ws.all notAt)).bind (kM5 M i s ws e2) := rfl
@[simp] theorem v_mut5 : kM5 M i s ws e2 u = (storeL ws e2).bind (kM6 M i s) := rfl
@[simp] theorem v_mut6 : kM6 M i s (os, e3) = (Rs.of (eget e3 i s)).bind (kM7 M i s os e3) := rfl
@[simp] theorem v_mut7 : kM7 M i s os e3 o = (Rs.chk (isOwn o)).bind (kM8 M i s os e3 o) := rfl
@[simp] theorem v_mut8 : kM8 M i s os e3 o u = (M o os).bind (kM9 e3 i s) := rfl
@[simp] theorem v_mut9 : kM9 e3 i s (o', r) = .ok (mkW r, eput e3 i s o') := rfl
@[simp] theorem v_tyO1 {d : List O} : tyO (.lst d) = some (.list []) := rfl
@[simp] theorem v_tyO2 {d : PyData} : tyO (.val d) = some d := rfl
@[simp] theorem v_tyN1 {d : List PyData} : tyName (.list d) = "list" := rfl
@[simp] theorem v_tyN2 {d : Str} : tyName (.str d) = "str" := rfl
@[simp] theorem v_notAt1 {d : PyData} : notAt (.val d) = true := rfl
@[simp] theorem v_notAt2 : notAt (.own o) = true := rfl
@[simp] theorem v_app {xs : List O} {y : O} : mAppend (.lst xs) [y] = (Rs.chk (decide (xs.length < 16777216))).bind (fun _ => .ok (.lst (xs ++ [y]), .val .none)) := rfl
@[simp] theorem v_pop {xs : List O} : mPop (.lst xs) [] = (Rs.of xs.getLast?).bind (fun y => .ok (.lst xs.dropLast, y)) := rfl
variable {F : Fn}
def kL4 (ws : List W) (os : List O) (e2 : Env) (r : O) (os' : List O) : Unit → Rs (W × Env) := fun _ => .ok (mkW r, giveL ws os os' e2)
def kL3 (ws : List W) (os : List O) (e2 : Env) : O × List O → Rs (W × Env) := fun (r, os') => (Rs.chk (os'.length == os.length)).bind (kL4 ws os e2 r os')
def kL2 (F : Fn) (ws : List W) : List O × Env → Rs (W × Env) := fun (os, e2) => (F os).bind (kL3 ws os e2)
def kL1 (F : Fn) (ws : List W) (e1 : Env) : Unit → Rs (W × Env) := fun _ => (takeL ws e1).bind (kL2 F ws)
def kL (F : Fn) : List W × Env → Rs (W × Env) := fun (ws, e1) => (Rs.chk (decide (slotsOf ws).Nodup)).bind (kL1 F ws e1)
@[simp] theorem v_call : eCall F l e = (l e).bind (kL F) := rfl
@[simp] theorem v_call0 : kL F (ws, e1) = (Rs.chk (decide (slotsOf ws).Nodup)).bind (kL1 F ws e1) := rfl
@[simp] theorem v_call1 : kL1 F ws e1 u = (takeL ws e1).bind (kL2 F ws) := rfl
@[simp] theorem v_call2 : kL2 F ws (os, e2) = (F os).bind (kL3 ws os e2) := rfl
@[simp] theorem v_call3 : kL3 ws os e2 (r, os') = (Rs.chk (os'.length == os.length)).bind (kL4 ws os e2 r os') := rfl
@[simp] theorem v_call4 : kL4 ws os e2 r os' u = .ok (mkW r, giveL ws os os' e2) := rfl
@[simp] theorem v_so0 : slotsOf [] = [] := rfl
@[simp] theorem v_so1 {d : PyData} : slotsOf (.val d :: ws) = slotsOf ws := rfl
@[simp] theorem v_so2 : slotsOf (.own o :: ws) = slotsOf ws := rfl
@[simp] theorem v_so3 : slotsOf (.at i s :: ws) = i :: slotsOf ws := rfl
def kTl2 (o : O) : List O × Env → Rs (List O × Env) := fun (os, e2) => .ok (o :: os, e2)
def kTl1 (ws : List W) : O × Env → Rs (List O × Env) := fun (o, e1) => (takeL ws e1).bind (kTl2 o)
@[simp] theorem v_tl0 : takeL [] e = .ok ([], e) := rfl
@[simp] theorem v_tl1 : takeL (w :: ws) e = (takeW w e).bind (kTl1 ws) := rfl
@[simp] theorem v_tl2 : kTl1 ws (o, e1) = (takeL ws e1).bind (kTl2 o) := rfl
@[simp] theorem v_tl3 : kTl2 o (os, e2) = .ok (o :: os, e2) := rfl
@[simp] theorem v_gl0 : giveL [] os os' e = e := by unfold giveL; rfl
@[simp] theorem v_gl1 : giveL (w :: ws) (o :: os) (o' :: os') e = giveW w o o' (giveL ws os os' e) := rfl
@[simp] theorem v_gw1 {d : PyData} : giveW (.val d) o o' e = e := rfl
@[simp] theorem v_gw2 {d : O} : giveW (.own d) o o' e = e := rfl
@[simp] theorem v_gw3 : giveW (.at i s) o o' e = if isOwn o = true then eput e i s o' else e := rfl
end
/-! functions -/
section
variable {n N : Nat} {pb : List Nat} {b : SF} {os es : List O} {o : O} {e : Env} {j : Nat} {u : Unit}
def kF3 (pb : List Nat) (es : List O) : Fl × Env → Rs (O × List O)
  | (.rt o, e') => .ok (o, leaveL pb e' 0 es)
  | (.nx, e') => .ok (.val .none, leaveL pb e' 0 es)
  | _ => .no
def kF2 (n N : Nat) (pb : List Nat) (b : SF) : List O → Rs (O × List O) := fun es => (b (es ++ List.replicate (N - n) .hole)).bind (kF3 pb es)
def kF1 (n N : Nat) (pb : List Nat) (b : SF) (os : List O) : Unit → Rs (O × List O) := fun _ => (enterL pb 0 os).bind (kF2 n N pb b)
theorem v_fn : mkFn n N pb b os = (Rs.chk (os.length == n)).bind (kF1 n N pb b os) := by
  unfold mkFn
  cases os.length == n with
  | false => rfl
  | true =>
    show (enterL pb 0 os).bind _ = (enterL pb 0 os).bind (kF2 n N pb b)
    cases enterL pb 0 os with
    | ok es =>
      show (b _).bind _ = (b _).bind (kF3 pb es)
      cases b (es ++ List.replicate (N - n) .hole) with
      | ok a => obtain ⟨f, e⟩ := a; cases f <;> rfl
      | _ => rfl
    | _ => rfl
@[simp] theorem v_fn1 : kF1 n N pb b os u = (enterL pb 0 os).bind (kF2 n N pb b) := rfl
@[simp] theorem v_fn2 : kF2 n N pb b es = (b (es ++ List.replicate (N - n) .hole)).bind (kF3 pb es) := rfl
@[simp] theorem v_fn3 : kF3 pb es (.rt o, e) = .ok (o, leaveL pb e 0 es) := rfl
@[simp] theorem v_fn4 : kF3 pb es (.nx, e) = .ok (.val .none, leaveL pb e 0 es) := rfl
@[simp] theorem v_en0 : enterL pb j [] = .ok [] := rfl
def kE2 (o' : O) : List O → Rs (List O) := fun os' => .ok (o' :: os')
def kE1 (pb : List Nat) (j : Nat) (os : List O) : O → Rs (List O) := fun o' => (enterL pb (j + 1) os).bind (kE2 o')
def kE0 : PyData → Rs O := fun d => .ok (.val d)
@[simp] theorem v_en1 : enterL pb j (o :: os) = (if pb.contains j = true then .ok o else (Rs.of o.froz).bind kE0).bind (kE1 pb j os) := rfl
@[simp] theorem v_en2 : kE1 pb j os o = (enterL pb (j + 1) os).bind (kE2 o) := rfl
@[simp] theorem v_en3 : kE2 o os = .ok (o :: os) := rfl
@[simp] theorem v_en4 {d : PyData} : kE0 d = .ok (.val d) := rfl
@[simp] theorem v_le0 : leaveL pb e j [] = [] := rfl
@[simp] theorem v_le1 : leaveL pb e j (o :: os) = (if pb.contains j = true then (e[j]?).getD .hole else o) :: leaveL pb e (j + 1) os := rfl
end
/-! methods, comprehensions, loops, the rest -/
section
variable {T : String} {F : List O → Rs O} {f : EF} {g l : LF} {q : Bool} {e e1 e2 e3 : Env} {w : W} {ws : List W} {o : O} {os : List O} {u : Unit} {d : PyData} {vs : List Nat} {p : Pat} {c : TF} {ds : List PyData} {acc : List O} {i : IF} {b : SF} {fl : Fl} {pb : List Nat}
def kMe3 (F : List O → Rs O) (w : W) : List W × Env → Rs (W × Env) := fun (ws, e2) => (Rs.of (contents e2 (w :: ws))).bind (kOp2 F e2)
def kMe2 (F : List O → Rs O) (w : W) (g : LF) (e1 : Env) : Unit → Rs (W × Env) := fun _ => (g e1).bind (kMe3 F w)
def kMe1 (F : List O → Rs O) (q : Bool) (w : W) (g : LF) (e1 : Env) : Unit → Rs (W × Env) := fun _ => (Rs.chk (q || !w.nested)).bind (kMe2 F w g e1)
def kMe0 (T : String) (F : List O → Rs O) (q : Bool) (w : W) (g : LF) (e1 : Env) : PyData → Rs (W × Env) := fun d => (Rs.chk (tyName d == T)).bind (kMe1 F q w g e1)
def kMe (T : String) (F : List O → Rs O) (q : Bool) (g : LF) : W × Env → Rs (W × Env) := fun (w, e1) => (Rs.of ((content e1 w).bind tyO)).bind (kMe0 T F q w g e1)
@[simp] theorem v_meth : eMeth T F f q g e = (f e).bind (kMe T F q g) := rfl
@[simp] theorem v_methA : kMe T F q g (w, e1) = (Rs.of ((content e1 w).bind tyO)).bind (kMe0 T F q w g e1) := rfl
@[simp] theorem v_meth0 : kMe0 T F q w g e1 d = (Rs.chk (tyName d == T)).bind (kMe1 F q w g e1) := rfl
@[simp] theorem v_meth1 : kMe1 F q w g e1 u = (Rs.chk (q || !w.nested)).bind (kMe2 F w g e1) := rfl
@[simp] theorem v_meth2 : kMe2 F w g e1 u = (g e1).bind (kMe3 F w) := rfl
@[simp] theorem v_meth3 : kMe3 F w (ws, e2) = (Rs.of (contents e2 (w :: ws))).bind (kOp2 F e2) := rfl
def kLc3 (os : List O) : Env → Rs (W × Env) := fun e3 => .ok (.own (.lst os), e3)
def kLc2 (e1 : Env) (vs : List Nat) : List O × Env → Rs (W × Env) := fun (os, e2) => (backE e1 vs e2).bind (kLc3 os)
def kLc (vs : List Nat) (p : Pat) (c : TF) (f : EF) : List PyData × Env → Rs (W × Env) := fun (ds, e1) => (lcN vs p c f ds [] (wipeE vs e1)).bind (kLc2 e1 vs)
@[simp] theorem v_lc : eLc i vs p c f e = (i e).bind (kLc vs p c f) := rfl
@[simp] theorem v_lc1 : kLc vs p c f (ds, e1) = (lcN vs p c f ds [] (wipeE vs e1)).bind (kLc2 e1 vs) := rfl
@[simp] theorem v_lc2 : kLc2 e1 vs (os, e2) = (backE e1 vs e2).bind (kLc3 os) := rfl
@[simp] theorem v_lc3 : kLc3 os e3 = .ok (.own (.lst os), e3) := rfl
def kT5 (vs : List Nat) (p : Pat) (c : TF) (f : EF) (ds : List PyData) (acc : List O) (o : O) (e4 : Env) : Unit → Rs (List O × Env) := fun _ => lcN vs p c f ds (acc ++ [o]) (wipeE vs e4)
def kT4 (vs : List Nat) (p : Pat) (c : TF) (f : EF) (ds : List PyData) (acc : List O) : O × Env → Rs (List O × Env) := fun (o, e4) => (Rs.chk (decide (acc.length < 16777216))).bind (kT5 vs p c f ds acc o e4)
def kT3 (vs : List Nat) (p : Pat) (c : TF) (f : EF) (ds : List PyData) (acc : List O) : W × Env → Rs (List O × Env) := fun (w, e3) => (storeW w e3).bind (kT4 vs p c f ds acc)
def kT2 (vs : List Nat) (p : Pat) (c : TF) (f : EF) (ds : List PyData) (acc : List O) : Bool × Env → Rs (List O × Env) := fun (k, e2) => if k = true then (f e2).bind (kT3 vs p c f ds acc) else lcN vs p c f ds acc (wipeE vs e2)
def kT1 (vs : List Nat) (p : Pat) (c : TF) (f : EF) (ds : List PyData) (acc : List O) : Env → Rs (List O × Env) := fun e1 => (c e1).bind (kT2 vs p c f ds acc)
@[simp] theorem v_lcN0 : lcN vs p c f [] acc e = .ok (acc, e) := rfl
theorem v_lcN : lcN vs p c f (d :: ds) acc e = (patSet [] p d e).bind (kT1 vs p c f ds acc) := rfl
@[simp] theorem v_lcN1 : kT1 vs p c f ds acc e1 = (c e1).bind (kT2 vs p c f ds acc) := rfl
@[simp] theorem v_lcN2 : kT2 vs p c f ds acc (true, e1) = (f e1).bind (kT3 vs p c f ds acc) := rfl
@[simp] theorem v_lcN2f : kT2 vs p c f ds acc (false, e1) = lcN vs p c f ds acc (wipeE vs e1) := rfl
@[simp] theorem v_lcN3 : kT3 vs p c f ds acc (w, e1) = (storeW w e1).bind (kT4 vs p c f ds acc) := rfl
@[simp] theorem v_lcN4 : kT4 vs p c f ds acc (o, e1) = (Rs.chk (decide (acc.length < 16777216))).bind (kT5 vs p c f ds acc o e1) := rfl
@[simp] theorem v_lcN5 : kT5 vs p c f ds acc o e1 u = lcN vs p c f ds (acc ++ [o]) (wipeE vs e1) := rfl
@[simp] theorem v_wp0 : wipeE [] e = e := rfl
@[simp] theorem v_wp1 {v : Nat} : wipeE (v :: vs) e = (wipeE vs e).set v .hole := rfl
@[simp] theorem v_bk0 : backE e [] e1 = .ok e1 := rfl
def kBk (e : Env) (v : Nat) (vs : List Nat) (e' : Env) : Option O → Rs Env
  | some (.val d) => backE e vs (e'.set v (.val d))
  | some .hole => backE e vs (e'.set v .hole)
  | _ => .no
@[simp] theorem v_bk1 {v : Nat} : backE e (v :: vs) e1 = kBk e v vs e1 e[v]? := by
  unfold backE kBk
  cases e[v]? with
  | none => rfl
  | some o => cases o <;> rfl
@[simp] theorem v_bk2 {v : Nat} : kBk e v vs e1 (some (.val d)) = backE e vs (e1.set v (.val d)) := rfl
@[simp] theorem v_bk3 {v : Nat} : kBk e v vs e1 (some .hole) = backE e vs (e1.set v .hole) := rfl
@[simp] theorem v_ps1 {i : Nat} : patSet pb (.nm i) d e = setN pb i (.val d) e := by cases d <;> rfl
@[simp] theorem v_ps2 {ps : List Pat} : patSet pb (.tup ps) (.tuple ds) e = patSets pb ps ds e := rfl
def kFn2 (pb : List Nat) (p : Pat) (b : SF) (ds : List PyData) : Fl × Env → Rs (Fl × Env)
  | (.nx, e2) => forN pb p b ds e2
  | (.ct, e2) => forN pb p b ds e2
  | (.bk, e2) => .ok (.nx, e2)
  | (.rt o, e2) => .ok (.rt o, e2)
def kFn1 (pb : List Nat) (p : Pat) (b : SF) (ds : List PyData) : Env → Rs (Fl × Env) := fun e1 => (b e1).bind (kFn2 pb p b ds)
@[simp] theorem v_for0 : forN pb p b [] e = .ok (.nx, e) := rfl
theorem v_for : forN pb p b (d :: ds) e = (patSet pb p d e).bind (kFn1 pb p b ds) := by
  unfold forN
  cases patSet pb p d e with
  | ok e1 =>
    show (b e1).bind _ = (b e1).bind (kFn2 pb p b ds)
    cases b e1 with
    | ok a => obtain ⟨f, e2⟩ := a; cases f <;> rfl
    | _ => rfl
  | _ => rfl
@[simp] theorem v_for1 : kFn1 pb p b ds e1 = (b e1).bind (kFn2 pb p b ds) := rfl
@[simp] theorem v_for2 : kFn2 pb p b ds (.nx, e1) = forN pb p b ds e1 := rfl
@[simp] theorem v_for3 : kFn2 pb p b ds (.ct, e1) = forN pb p b ds e1 := rfl
@[simp] theorem v_for4 : kFn2 pb p b ds (.bk, e1) = .ok (.nx, e1) := rfl
@[simp] theorem v_for5 : kFn2 pb p b ds (.rt o, e1) = .ok (.rt o, e1) := rfl
def kFor (pb : List Nat) (p : Pat) (b : SF) : List PyData × Env → Rs (Fl × Env) := fun (ds, e1) => forN pb p b ds e1
@[simp] theorem v_sfor : sFor pb i p b e = (i e).bind (kFor pb p b) := rfl
@[simp] theorem v_sfor1 : kFor pb p b (ds, e1) = forN pb p b ds e1 := rfl
def kIs2 (e2 : Env) : List PyData → Rs (List PyData × Env) := fun ds => .ok (ds, e2)
def kIs1 : PyData × Env → Rs (List PyData × Env) := fun (d, e2) => (Rs.of (itemsD d)).bind (kIs2 e2)
def kIs : W × Env → Rs (List PyData × Env) := fun (w, e1) => (frozW w e1).bind kIs1
@[simp] theorem v_iseq : iSeq f e = (f e).bind kIs := rfl
@[simp] theorem v_iseq1 : kIs (w, e1) = (frozW w e1).bind kIs1 := rfl
@[simp] theorem v_iseq2 : kIs1 (d, e1) = (Rs.of (itemsD d)).bind (kIs2 e1) := rfl
@[simp] theorem v_iseq3 : kIs2 e1 ds = .ok (ds, e1) := rfl
def kFw2 (e1 : Env) : PyData → Rs (PyData × Env) := fun d => .ok (d, e1)
def kFw : O × Env → Rs (PyData × Env) := fun (o, e1) => (Rs.of o.froz).bind (kFw2 e1)
@[simp] theorem v_fw : frozW w e = (storeW w e).bind kFw := rfl
@[simp] theorem v_fw1 : kFw (o, e1) = (Rs.of o.froz).bind (kFw2 e1) := rfl
@[simp] theorem v_fw2 : kFw2 e1 d = .ok (d, e1) := rfl
def kSt (i : Nat) (s : List Nat) (e : Env) : PyData → Rs (O × Env) := fun d => .ok (.val d, eput e i s (.val d))
@[simp] theorem v_st3 {i : Nat} {s : List Nat} : storeW (.at i s) e = (Rs.of ((eget e i s).bind O.froz)).bind (kSt i s e) := rfl
@[simp] theorem v_st4 {i : Nat} {s : List Nat} : kSt i s e d = .ok (.val d, eput e i s (.val d)) := rfl
def kRg : List O → Env → Rs (List PyData × Env)
  | [.val (.int j)], e1 => (Rs.chk (decide (-(2 ^ 62) ≤ j) && decide (j < 2 ^ 62))).bind fun _ => .ok (rangeD 0 j.toNat, e1)
  | _, _ => .no
def kRgA1 (e1 : Env) : List O → Rs (List PyData × Env) := fun os => kRg os e1
def kRgA : List W × Env → Rs (List PyData × Env) := fun (ws, e1) => (Rs.of (contents e1 ws)).bind (kRgA1 e1)
@[simp] theorem v_rgA : iRgA l e = (l e).bind kRgA := by
  unfold iRgA
  cases l e with
  | ok a =>
    obtain ⟨ws, e1⟩ := a
    show (Rs.of (contents e1 ws)).bind _ = (Rs.of (contents e1 ws)).bind (kRgA1 e1)
    cases contents e1 ws with
    | none => rfl
    | some os =>
      rcases os with _ | ⟨o, _ | ⟨o2, r⟩⟩
      · rfl
      · cases o with
        | val d => cases d <;> rfl
        | _ => rfl
      · cases o with
        | val d => cases d <;> rfl
        | _ => rfl
  | _ => rfl
@[simp] theorem v_rgA1 : kRgA (ws, e1) = (Rs.of (contents e1 ws)).bind (kRgA1 e1) := rfl
@[simp] theorem v_rgA2 {j : Int} : kRgA1 e1 [.val (.int j)] = (Rs.chk (decide (-(2 ^ 62) ≤ j) && decide (j < 2 ^ 62))).bind (fun _ => .ok (rangeD 0 j.toNat, e1)) := rfl
@[simp] theorem v_isi : oIsi T [.val d] = .ok (.val (.bool (isTy T d))) := rfl
theorem v_eqI {a b : Int} : oEq [.val (.int a), .val (.int b)] = .ok (.val (.bool (decide (a = b)))) := by
  show Rs.ok (vB (PyData.eqv (.int a) (.int b))) = _
  have : PyData.eqv (.int a) (.int b) = decide (a = b) := by
    show (a == b) = _
    exact Bool.beq_eq_decide_eq a b
  rw [this]; rfl
theorem v_eqS {a b : Str} : oEq [.val (.str a), .val (.str b)] = .ok (.val (.bool (decide (a = b)))) := by
  show Rs.ok (vB (PyData.eqv (.str a) (.str b))) = _
  have : PyData.eqv (.str a) (.str b) = decide (a = b) := by
    show (a == b) = _
    exact Bool.beq_eq_decide_eq a b
  rw [this]; rfl
theorem v_neS {a b : Str} : oNe [.val (.str a), .val (.str b)] = .ok (.val (.bool (!decide (a = b)))) := by
  show Rs.ok (vB (!PyData.eqv (.str a) (.str b))) = _
  have : PyData.eqv (.str a) (.str b) = decide (a = b) := by
    show (a == b) = _
    exact Bool.beq_eq_decide_eq a b
  rw [this]; rfl
def kFz1 : PyData × Env → Rs (W × Env) := fun (d, e2) => .ok (.val d, e2)
def kFz : W × Env → Rs (W × Env) := fun (w, e1) => (frozW w e1).bind kFz1
@[simp] theorem v_frz : eFrz f e = (f e).bind kFz := rfl
@[simp] theorem v_frz1 : kFz (w, e1) = (frozW w e1).bind kFz1 := rfl
@[simp] theorem v_frz2 : kFz1 (d, e1) = .ok (.val d, e1) := rfl
def kTp2 (ds : List PyData) (e2 : Env) : Unit → Rs (W × Env) := fun _ => .ok (.val (.tuple ds), e2)
def kTp1 : List PyData × Env → Rs (W × Env) := fun (ds, e2) => (Rs.chk (decide (ds.length ≤ 16777216))).bind (kTp2 ds e2)
def kTp : List W × Env → Rs (W × Env) := fun (ws, e1) => (frozLW ws e1).bind kTp1
@[simp] theorem v_tup : eTup l e = (l e).bind kTp := rfl
@[simp] theorem v_tup1 : kTp (ws, e1) = (frozLW ws e1).bind kTp1 := rfl
@[simp] theorem v_tup2 : kTp1 (ds, e1) = (Rs.chk (decide (ds.length ≤ 16777216))).bind (kTp2 ds e1) := rfl
@[simp] theorem v_tup3 : kTp2 ds e1 u = .ok (.val (.tuple ds), e1) := rfl
@[simp] theorem v_fl0 : frozLW [] e = .ok ([], e) := rfl
def kFl3 (d : PyData) : List PyData × Env → Rs (List PyData × Env) := fun (ds, e2) => .ok (d :: ds, e2)
def kFl2 (ws : List W) : PyData × Env → Rs (List PyData × Env) := fun (d, e1) => (frozLW ws e1).bind (kFl3 d)
def kFl1 (w : W) (ws : List W) (e : Env) : Unit → Rs (List PyData × Env) := fun _ => (frozW w e).bind (kFl2 ws)
@[simp] theorem v_fl1 : frozLW (w :: ws) e = (Rs.chk (aliasOk w ws)).bind (kFl1 w ws e) := rfl
@[simp] theorem v_fl2 : kFl1 w ws e u = (frozW w e).bind (kFl2 ws) := rfl
@[simp] theorem v_fl3 : kFl2 ws (d, e1) = (frozLW ws e1).bind (kFl3 d) := rfl
@[simp] theorem v_fl4 : kFl3 d (ds, e1) = .ok (d :: ds, e1) := rfl
@[simp] theorem v_dct0 : eDct [] e = .ok (.own (.dct []), e) := rfl
end
end Ev

set_option Elab.async false
set_option linter.all false
set_option maxRecDepth 100000
namespace K01
open Ev PySem
noncomputable def sm__law_draw_1 : SF :=
    (sRet (eOp oMod (lTwo (eVar 2) true (eVar 1))))
noncomputable def sm__law_draw_2 : SF :=
    (sAsg [0, 1] 2 (eOp oAdd (lTwo (eVar 2) true (eSub (lTwo (eVar 0) true (eCst (.int 1)))))))
noncomputable def sm__law_draw_3 : SF :=
    (sSeq (sIf (cB (eOp oGe (lTwo (eVar 2) true (eOp oPow (lTwo (eCst (.int 10)) true (eCst (.int 18)))))))
    (sSeq (sExp (eMut "list" mAppend (eSub (lTwo (eVar 0) true (eCst (.int 0)))) true (lCons (eOp oDiv (lTwo (eVar 2) true (eVar 1))) true lNil))) sm__law_draw_1)
    sNx) sm__law_draw_2)
noncomputable def sm__law_draw_4 : SF :=
    (sRet (eOp oMod (lTwo (eOp oDiv (lTwo (eOp oMod (lTwo (eOp oMul (lTwo (eVar 3) true (eCst (.int 69621)))) true (eCst (.int 2147483563)))) true (eCst (.int 32)))) true (eVar 1))))
noncomputable def sm__law_draw_5 : SF :=
    (sSeq (sAsg [0, 1] 3 (eOp oMod (lTwo (eOp oAdd (lTwo (eOp oAdd (lTwo (eOp oMul (lTwo (eVar 3) true (eVar 3))) true (eOp oMul (lTwo (eCst (.int 16807)) true (eSub (lTwo (eVar 0) true (eCst (.int 2)))))))) true (eCst (.int 17)))) true (eCst (.int 2147483587))))) sm__law_draw_4)
noncomputable def sm__law_draw_6 : SF :=
    (sSeq (sAsg [0, 1] 3 (eOp oMod (lTwo (eOp oMul (lTwo (eOp oAdd (lTwo (eOp oAdd (lTwo (eOp oMod (lTwo (eVar 2) true (eCst (.int 2147483647)))) true (eOp oMul (lTwo (eOp oMul (lTwo (eCst (.int 65537)) true (eSub (lTwo (eVar 0) true (eCst (.int 2)))))) true (eSub (lTwo (eVar 0) true (eCst (.int 2)))))))) true (eCst (.int 29)))) true (eCst (.int 48271)))) true (eCst (.int 2147483629))))) sm__law_draw_5)
noncomputable def sm__law_draw_7 : SF :=
    (sSeq (sIf (cB (eOp oNe (lTwo (eSub (lTwo (eVar 0) true (eCst (.int 0)))) true (eLst lNil))))
    (sSeq (sAsg [0, 1] 2 (eMut "list" mPop (eSub (lTwo (eVar 0) true (eCst (.int 0)))) true lNil)) sm__law_draw_3)
    sNx) sm__law_draw_6)
noncomputable def sm__law_draw_8 : SF :=
    (sSeq (sAsg [0, 1] 2 (eSub (lTwo (eVar 0) true (eCst (.int 1))))) sm__law_draw_7)
noncomputable def sm__law_draw : SF :=
    (sSeq (sPut (eOp oAdd (lTwo (eSub (lTwo (eVar 0) true (eCst (.int 2)))) true (eCst (.int 1)))) (lTwo (eVar 0) true (eCst (.int 2)))) sm__law_draw_8)
noncomputable def fn__law_draw : Fn := mkFn 2 4 [0, 1] sm__law_draw
noncomputable def sm__law_pick : SF :=
    (sRet (eSub (lTwo (eVar 1) false (eCall fn__law_draw (lCons (eVar 0) true (lCons (eOp oLen (lCons (eVar 1) true lNil)) true lNil))))))
noncomputable def fn__law_pick : Fn := mkFn 2 2 [0, 1] sm__law_pick
noncomputable def sm__law_bent_1 : SF :=
    (sRet (eSub (lTwo (eLst (lCons (eOp oAdd (lTwo (eOp oAdd (lTwo (eOp (oSlice false true) (lTwo (eVar 1) true (eVar 2))) true (eVar 3))) true (eOp (oSlice true false) (lTwo (eVar 1) true (eOp oAdd (lTwo (eVar 2) true (eCst (.int 1)))))))) true (lCons (eOp oAdd (lTwo (eOp oAdd (lTwo (eOp (oSlice false true) (lTwo (eVar 1) true (eVar 2))) true (eVar 3))) true (eOp (oSlice true false) (lTwo (eVar 1) true (eVar 2))))) true (lCons (eOp oAdd (lTwo (eOp (oSlice false true) (lTwo (eVar 1) true (eVar 2))) true (eOp (oSlice true false) (lTwo (eVar 1) true (eOp oAdd (lTwo (eVar 2) true (eCst (.int 1)))))))) true lNil)))) true (eVar 4))))
noncomputable def sm__law_bent : SF :=
    (sSeq (sPar [0, 1] [2, 3, 4] (lCons (eCall fn__law_draw (lCons (eVar 0) true (lCons (eOp oAdd (lTwo (eOp oLen (lCons (eVar 1) true lNil)) true (eCst (.int 1)))) true lNil))) false (lCons (eCall fn__law_pick (lCons (eVar 0) true (lCons (eCst (.str "azAZ0 ~\n_`{")) true lNil))) false (lCons (eCall fn__law_draw (lCons (eVar 0) true (lCons (eCst (.int 3)) true lNil))) true lNil)))) sm__law_bent_1)
noncomputable def fn__law_bent : Fn := mkFn 2 5 [0, 1] sm__law_bent
noncomputable def sm__law_dealt_1 : SF :=
    (sAsg [0] 2 (eOp oMod (lTwo (eOp oAdd (lTwo (eOp oAdd (lTwo (eOp oMul (lTwo (eVar 2) true (eCst (.int 48271)))) true (eOp oMod (lTwo (eVar 3) true (eCst (.int 2147483629)))))) true (eCst (.int 41)))) true (eCst (.int 2147483647)))))
noncomputable def sm__law_dealt_2 : SF :=
    (sRet (eLst (lCons (eOp oRevL (lOne (eVar 1))) true (lCons (eVar 2) true (lCons (eCst (.int 0)) true lNil)))))
noncomputable def sm__law_dealt_3 : SF :=
    (sSeq (sFor [0] (iSeq (eVar 1)) (.nm 3) sm__law_dealt_1) sm__law_dealt_2)
noncomputable def sm__law_dealt : SF :=
    (sSeq (sPar [0] [1, 2] (lCons (eOp oList (lCons (eOp (oSlice false true) (lTwo (eVar 0) true (eCst (.int 63)))) true lNil)) true (lCons (eCst (.int 71011)) true lNil))) sm__law_dealt_3)
noncomputable def fn__law_dealt : Fn := mkFn 1 4 [0] sm__law_dealt
noncomputable def sm__law_due_1 : SF :=
    (sRet (eOp oEq (lTwo (eLc (iSeq (eVar 0)) [1] (.nm 1) (cB (eOp oLt (lTwo (eMeth "str" oFind (eCst (.str "abcdefghijklmnopqrstuvwxyz")) true (lCons (eVar 1) true lNil)) true (eCst (.int 0))))) (eVar 1)) true (eLst lNil))))
noncomputable def sm__law_due : SF :=
    (sSeq (sIf (cOr (cNot (cOf (eOp (oIsi "str") (lOne (eVar 0))))) (cOr (cB (eOp oEq (lTwo (eVar 0) true (eCst (.str ""))))) (cB (eOp oGt (lTwo (eOp oLen (lCons (eVar 0) true lNil)) true (eCst (.int 8)))))))
    (sRet (eCst (.bool false)))
    sNx) sm__law_due_1)
noncomputable def fn__law_due : Fn := mkFn 1 2 [0] sm__law_due
noncomputable def sm__law_string_1 : SF :=
    (sRet (eMeth "str" oJoin (eCst (.str "")) false (lCons (eLc (iRgA (lCons (eVar 2) true lNil)) [6] (.nm 6) cYes (eCall fn__law_pick (lCons (eVar 0) true (lCons (eVar 5) true lNil)))) true lNil)))
noncomputable def sm__law_string_2 : SF :=
    (sSeq (sAsg [0] 5 (eSub (lTwo (eLst (lCons (eVar 3) true (lCons (eVar 3) true (lCons (eOp oAdd (lTwo (eVar 4) true (eVar 3))) true lNil)))) true (eOp oSub (lTwo (eVar 1) true (eCst (.int 1))))))) sm__law_string_1)
noncomputable def sm__law_string_3 : SF :=
    (sSeq (sIf (cB (eOp oEq (lTwo (eVar 1) true (eCst (.int 0)))))
    (sRet (eOp oMul (lTwo (eCall fn__law_pick (lCons (eVar 0) true (lCons (eOp oAdd (lTwo (eVar 3) true (eVar 4))) true lNil))) true (eVar 2))))
    sNx) sm__law_string_2)
noncomputable def sm__law_string_4 : SF :=
    (sSeq (sPar [0] [3, 4] (lCons (eCst (.str "abcdefghijklmnopqrstuvwxyz")) true (lCons (eCst (.str "azAZ09_-. ~\n`{[@")) true lNil))) sm__law_string_3)
noncomputable def sm__law_string : SF :=
    (sSeq (sPar [0] [1, 2] (lCons (eCall fn__law_draw (lCons (eVar 0) true (lCons (eCst (.int 4)) true lNil))) false (lCons (eCall fn__law_draw (lCons (eVar 0) true (lCons (eCst (.int 10)) true lNil))) true lNil))) sm__law_string_4)
noncomputable def fn__law_string : Fn := mkFn 1 7 [0] sm__law_string
noncomputable def sm_is_name_1 : SF :=
    (sRet (eOp oAll (lCons (eLc (iSeq (eVar 0)) [1] (.nm 1) cYes (eOp oIn (lTwo (eVar 1) true (eCst (.str "abcdefghijklmnopqrstuvwxyz"))))) true lNil)))
noncomputable def sm_is_name : SF :=
    (sSeq (sIf (cOr (cNot (cOf (eOp (oIsi "str") (lOne (eVar 0))))) (cNot (cB (eChain oLe oLe (lTwo (eCst (.int 1)) true (eOp oLen (lCons (eVar 0) true lNil))) true (eCst (.int 8))))))
    (sRet (eCst (.bool false)))
    sNx) sm_is_name_1)
noncomputable def fn_is_name : Fn := mkFn 1 2 [0] sm_is_name
noncomputable def sm_law_1 : SF :=
    (sAsg [0] 2 (eOp oAdd (lTwo (eVar 2) false (eLst (lCons (eVar 4) false (lCons (eCall fn__law_bent (lCons (eVar 1) true (lCons (eVar 4) true lNil))) true lNil))))))
noncomputable def sm_law_2 : SF :=
    (sSeq (sAsg [0] 4 (eCall fn__law_string (lCons (eVar 1) true lNil))) sm_law_1)
noncomputable def sm_law_3 : SF :=
    (sIf (cOr (cB (eOp oNe (lTwo (eOp oRepr (lCons (eLst (lCons (eCall fn_is_name (lCons (eVar 5) true lNil)) false (lCons (eCallK fn_is_name [0] (lCons (eVar 5) true lNil)) false (lCons (eCall fn_is_name (lCons (eVar 5) true lNil)) true lNil)))) true lNil)) false (eOp oRepr (lCons (eOp oMul (lTwo (eLst (lCons (eVar 7) true lNil)) true (eCst (.int 3)))) true lNil))))) (cB (eOp oNe (lTwo (eOp oRepr (lCons (eVar 5) true lNil)) true (eVar 6)))))
    (sRet (eCst (.bool false)))
    sNx)
noncomputable def sm_law_4 : SF :=
    (sSeq (sPar [0] [6, 7] (lCons (eOp oRepr (lCons (eVar 5) true lNil)) false (lCons (eCall fn__law_due (lCons (eVar 5) true lNil)) true lNil))) sm_law_3)
noncomputable def sm_law_5 : SF :=
    (sRet (eCst (.bool true)))
noncomputable def sm_law_6 : SF :=
    (sSeq (sFor [0] (iSeq (eVar 2)) (.nm 5) sm_law_4) sm_law_5)
noncomputable def sm_law_7 : SF :=
    (sSeq (sAsg [0] 2 (eOp oAdd (lTwo (eVar 2) false (eFrz (eLst (lCons (eCst .none) false (lCons (eCst (.bool true)) false (lCons (eCst (.bool false)) false (lCons (eCst (.int 0)) false (lCons (eCst (.int 1)) false (lCons (eOp oNeg (lOne (eCst (.int 1)))) false (lCons (eOp oPow (lTwo (eCst (.int 10)) true (eCst (.int 39)))) false (lCons (eTup lNil) false (lCons (eTup (lCons (eCst (.str "a")) true lNil)) false (lCons (eLst lNil) false (lCons (eLst (lCons (eCst (.str "a")) true lNil)) false (lCons (eDct []) false (lCons (eDct [((eCst (.str "a")), (eCst (.str "b")))]) false (lCons (eTup (lCons (eTup (lCons (eCst (.str "a")) true lNil)) true lNil)) false (lCons (eLst (lCons (eTup (lCons (eCst (.str "a")) true (lCons (eCst (.int 1)) true lNil))) true lNil)) true lNil)))))))))))))))))))) sm_law_6)
noncomputable def sm_law_8 : SF :=
    (sSeq (sAsg [0] 2 (eOp oAdd (lTwo (eVar 2) false (eLst (lCons (eCst (.str "")) true (lCons (eCst (.str "a")) true (lCons (eCst (.str "z")) true (lCons (eCst (.str "abcdefgh")) true (lCons (eCst (.str "abcdefghi")) true (lCons (eCst (.str "A")) true (lCons (eCst (.str "a b")) true (lCons (eCst (.str " a")) true (lCons (eCst (.str "a ")) true (lCons (eCst (.str "a\n")) true (lCons (eCst (.str "main")) true (lCons (eCst (.str "n")) true (lCons (eCst (.str "`")) true (lCons (eCst (.str "{")) true lNil)))))))))))))))))) sm_law_7)
noncomputable def sm_law_9 : SF :=
    (sSeq (sFor [0] (iRgA (lCons (eCst (.int 40)) true lNil)) (.nm 3) sm_law_2) sm_law_8)
noncomputable def sm_law_10 : SF :=
    (sSeq (sAsg [0] 2 (eLst lNil)) sm_law_9)
noncomputable def sm_law : SF :=
    (sSeq (sAsg [0] 1 (eCall fn__law_dealt (lCons (eVar 0) true lNil))) sm_law_10)
noncomputable def fn_law : Fn := mkFn 1 8 [0] sm_law
end K01

set_option Elab.async false
set_option linter.all false
set_option maxRecDepth 100000
set_option maxHeartbeats 4000000
namespace K01
open PySem PySem.Spec PyProof.Rows L2 Ev
def topS (i : Nat) : Stmt := PySem.Challenge.pw_farstride_k01_names_of_any_values.main.body.getD i (.Pass ⟨0, 0, 0, 0⟩)
abbrev st__law_draw : Stmt := topS 6
abbrev st__law_pick : Stmt := topS 7
abbrev st__law_bent : Stmt := topS 9
abbrev st__law_dealt : Stmt := topS 5
abbrev st__law_due : Stmt := topS 10
abbrev st__law_string : Stmt := topS 8
abbrev st_is_name : Stmt := topS 3
abbrev st_law : Stmt := topS 11
structure Tb (K : PySem.W.Frag) (mg : Str → Option Value) : Prop where
  n_all : mg "all" = none
  n_isinstance : mg "isinstance" = none
  n_len : mg "len" = none
  n_list : mg "list" = none
  n_range : mg "range" = none
  n_repr : mg "repr" = none
  n_str : mg "str" = none
  c_LETTERS : ∃ t, mg "LETTERS" = some (.str "abcdefghijklmnopqrstuvwxyz" t)
  c_LONGEST_NAME : ∃ t, mg "LONGEST_NAME" = some (.int (8) t)
  d__law_draw : DefAt K mg "_law_draw" st__law_draw
  d__law_pick : DefAt K mg "_law_pick" st__law_pick
  d__law_bent : DefAt K mg "_law_bent" st__law_bent
  d__law_dealt : DefAt K mg "_law_dealt" st__law_dealt
  d__law_due : DefAt K mg "_law_due" st__law_due
  d__law_string : DefAt K mg "_law_string" st__law_string
  d_is_name : DefAt K mg "is_name" st_is_name
  d_law : DefAt K mg "law" st_law
section
variable {P : Program} {w : World} {K : PySem.W.Frag} {mg : Str → Option Value} {base : Heap}
theorem sc__law_draw : FnScope ["_law_deck", "_law_many", "_law_cell", "_law_number"] ["_law_deck", "_law_many"] (C8.fnScope st__law_draw) := C8.fnScope_by (by decide +kernel)
theorem bd__law_draw : BindOk "_law_draw" st__law_draw ["_law_deck", "_law_many"] := fun _ _ _ _ _ _ us h => match us, h with | [_, _], _ => rfl
theorem ok__law_draw (T : Tb K mg) (sy : ∃ mm, base.Ns sysModules mm) : FnAt P w K mg base 1 "_law_draw" st__law_draw ["_law_deck", "_law_many"] fn__law_draw := by
  refine fnAt_of T.d__law_draw sc__law_draw (by rfl) fun f cd B fr s H room gd => ?_
  have S : Sys (fcx P w K mg base ["_law_deck", "_law_many", "_law_cell", "_law_number"] "_law_draw" (C8.fnScope st__law_draw) f cd B fr s H) := sysOf sy room gd
  have hN : (["_law_deck", "_law_many", "_law_cell", "_law_number"] : List Str).Nodup := sc__law_draw.nd
  exact (evs_cons (s_put S (eve_bin opd_add (r_sub S (r_var 0) eve_int) eve_int) (r_var 0) eve_int)
      (evs_cons (s_asg 2 hN (r_sub S (r_var 0) eve_int))
      (evs_cons (evs_if (c_cmp (opd_ne S) (r_sub S (r_var 0) eve_int) eve_lst0) (evs_cons (s_asg 2 hN (r_mut0 PySem.F.plainAttrs_list PySem.F.slot_list_pop PySem.F.type_list_pop mutd_pop (r_sub S (r_var 0) eve_int)))
      (evs_cons (evs_if (c_cmp opd_ge (r_var 2) (eve_bin opd_pow eve_int eve_int)) (evs_cons (s_expr (r_mut PySem.F.plainAttrs_list PySem.F.slot_list_append PySem.F.type_list_append mutd_append (r_sub S (r_var 0) eve_int) (l_cons (eve_bin opd_div (r_var 2) (r_var 1)) l_nil)))
      (evs_one (evs_ret (eve_bin opd_mod (r_var 2) (r_var 1))))) evs_nil)
      (evs_one (s_asg 2 hN (eve_bin opd_add (r_var 2) (r_sub S (r_var 0) eve_int)))))) evs_nil)
      (evs_cons (s_asg 3 hN (eve_bin opd_mod (eve_bin opd_mul (eve_bin opd_add (eve_bin opd_add (eve_bin opd_mod (r_var 2) eve_int) (eve_bin opd_mul (eve_bin opd_mul eve_int (r_sub S (r_var 0) eve_int)) (r_sub S (r_var 0) eve_int))) eve_int) eve_int) eve_int))
      (evs_cons (s_asg 3 hN (eve_bin opd_mod (eve_bin opd_add (eve_bin opd_add (eve_bin opd_mul (r_var 3) (r_var 3)) (eve_bin opd_mul eve_int (r_sub S (r_var 0) eve_int))) eve_int) eve_int))
      (evs_one (evs_ret (eve_bin opd_mod (eve_bin opd_div (eve_bin opd_mod (eve_bin opd_mul (r_var 3) eve_int) eve_int) eve_int) (r_var 1)))))))))
theorem sc__law_pick : FnScope ["_law_deck", "_law_some"] ["_law_deck", "_law_some"] (C8.fnScope st__law_pick) := C8.fnScope_by (by decide +kernel)
theorem bd__law_pick : BindOk "_law_pick" st__law_pick ["_law_deck", "_law_some"] := fun _ _ _ _ _ _ us h => match us, h with | [_, _], _ => rfl
theorem ok__law_pick (T : Tb K mg) (sy : ∃ mm, base.Ns sysModules mm) (f__law_draw : FnAt P w K mg base 1 "_law_draw" st__law_draw ["_law_deck", "_law_many"] fn__law_draw) : FnAt P w K mg base 2 "_law_pick" st__law_pick ["_law_deck", "_law_some"] fn__law_pick := by
  refine fnAt_of T.d__law_pick sc__law_pick (by rfl) fun f cd B fr s H room gd => ?_
  have S : Sys (fcx P w K mg base ["_law_deck", "_law_some"] "_law_pick" (C8.fnScope st__law_pick) f cd B fr s H) := sysOf sy room gd
  have hN : (["_law_deck", "_law_some"] : List Str).Nodup := sc__law_pick.nd
  exact (evs_one (evs_ret (r_sub S (r_var 1) (r_call f__law_draw bd__law_draw room gd (by decide) (l_cons (r_var 0) (l_cons (r_callB calld_len T.n_len boot_len (l_cons (r_var 1) l_nil)) l_nil))))))
theorem sc__law_bent : FnScope ["_law_deck", "_law_word", "_law_at", "_law_sign", "_law_way"] ["_law_deck", "_law_word"] (C8.fnScope st__law_bent) := C8.fnScope_by (by decide +kernel)
theorem bd__law_bent : BindOk "_law_bent" st__law_bent ["_law_deck", "_law_word"] := fun _ _ _ _ _ _ us h => match us, h with | [_, _], _ => rfl
theorem ok__law_bent (T : Tb K mg) (sy : ∃ mm, base.Ns sysModules mm) (f__law_draw : FnAt P w K mg base 1 "_law_draw" st__law_draw ["_law_deck", "_law_many"] fn__law_draw) (f__law_pick : FnAt P w K mg base 2 "_law_pick" st__law_pick ["_law_deck", "_law_some"] fn__law_pick) : FnAt P w K mg base 3 "_law_bent" st__law_bent ["_law_deck", "_law_word"] fn__law_bent := by
  refine fnAt_of T.d__law_bent sc__law_bent (by rfl) fun f cd B fr s H room gd => ?_
  have S : Sys (fcx P w K mg base ["_law_deck", "_law_word", "_law_at", "_law_sign", "_law_way"] "_law_bent" (C8.fnScope st__law_bent) f cd B fr s H) := sysOf sy room gd
  have hN : (["_law_deck", "_law_word", "_law_at", "_law_sign", "_law_way"] : List Str).Nodup := sc__law_bent.nd
  exact (evs_cons (s_par3 2 3 4 hN (l_cons (r_call f__law_draw bd__law_draw room gd (by decide) (l_cons (r_var 0) (l_cons (eve_bin opd_add (r_callB calld_len T.n_len boot_len (l_cons (r_var 1) l_nil)) eve_int) l_nil))) (l_cons (r_call f__law_pick bd__law_pick room gd (by decide) (l_cons (r_var 0) (l_cons eve_str l_nil))) (l_cons (r_call f__law_draw bd__law_draw room gd (by decide) (l_cons (r_var 0) (l_cons eve_int l_nil))) l_nil))))
      (evs_one (evs_ret (r_sub S (eve_lst (l_cons (eve_bin opd_add (eve_bin opd_add (eve_slice01 (r_var 1) (r_var 2)) (r_var 3)) (eve_slice10 (r_var 1) (eve_bin opd_add (r_var 2) eve_int))) (l_cons (eve_bin opd_add (eve_bin opd_add (eve_slice01 (r_var 1) (r_var 2)) (r_var 3)) (eve_slice10 (r_var 1) (r_var 2))) (l_cons (eve_bin opd_add (eve_slice01 (r_var 1) (r_var 2)) (eve_slice10 (r_var 1) (eve_bin opd_add (r_var 2) eve_int))) l_nil)))) (r_var 4)))))
theorem sc__law_dealt : FnScope ["_law_script", "_law_cells", "_law_stir", "_law_cell"] ["_law_script"] (C8.fnScope st__law_dealt) := C8.fnScope_by (by decide +kernel)
theorem bd__law_dealt : BindOk "_law_dealt" st__law_dealt ["_law_script"] := fun _ _ _ _ _ _ us h => match us, h with | [_], _ => rfl
theorem ok__law_dealt (T : Tb K mg) (sy : ∃ mm, base.Ns sysModules mm) : FnAt P w K mg base 1 "_law_dealt" st__law_dealt ["_law_script"] fn__law_dealt := by
  refine fnAt_of T.d__law_dealt sc__law_dealt (by rfl) fun f cd B fr s H room gd => ?_
  have S : Sys (fcx P w K mg base ["_law_script", "_law_cells", "_law_stir", "_law_cell"] "_law_dealt" (C8.fnScope st__law_dealt) f cd B fr s H) := sysOf sy room gd
  have hN : (["_law_script", "_law_cells", "_law_stir", "_law_cell"] : List Str).Nodup := sc__law_dealt.nd
  exact (evs_cons (s_par2 1 2 hN (l_cons (r_callT calld_list T.n_list boot_list (l_cons (eve_slice01 (r_var 0) eve_int) l_nil)) (l_cons eve_int l_nil)))
      (evs_cons (s_for (evi_seq (r_var 1)) (g_nm 3 hN) (evs_one (s_asg 2 hN (eve_bin opd_mod (eve_bin opd_add (eve_bin opd_add (eve_bin opd_mul (r_var 2) eve_int) (eve_bin opd_mod (r_var 3) eve_int)) eve_int) eve_int))))
      (evs_one (evs_ret (eve_lst (l_cons (eve_revL (r_var 1)) (l_cons (r_var 2) (l_cons eve_int l_nil))))))))
theorem sc__law_due : FnScope ["_law_it", "_law_sign"] ["_law_it"] (C8.fnScope st__law_due) := C8.fnScope_by (by decide +kernel)
theorem bd__law_due : BindOk "_law_due" st__law_due ["_law_it"] := fun _ _ _ _ _ _ us h => match us, h with | [_], _ => rfl
theorem ok__law_due (T : Tb K mg) (sy : ∃ mm, base.Ns sysModules mm) : FnAt P w K mg base 1 "_law_due" st__law_due ["_law_it"] fn__law_due := by
  refine fnAt_of T.d__law_due sc__law_due (by rfl) fun f cd B fr s H room gd => ?_
  have S : Sys (fcx P w K mg base ["_law_it", "_law_sign"] "_law_due" (C8.fnScope st__law_due) f cd B fr s H) := sysOf sy room gd
  have hN : (["_law_it", "_law_sign"] : List Str).Nodup := sc__law_due.nd
  exact (evs_cons (evs_if (EvW.pt (evw_or (evt_not (c_of (r_isi (r_var 0) T.n_isinstance T.n_str))) (evw_or (c_cmp (opd_eq S) (r_var 0) eve_str) (evw_or1 (c_cmp opd_gt (r_callB calld_len T.n_len boot_len (l_cons (r_var 0) l_nil)) eve_int))))) (evs_one (evs_ret eve_bl)) evs_nil)
      (evs_one (evs_ret (r_cmp (opd_eq S) (r_lc [("_law_sign", 1)] hN (evi_seq (r_var 0)) (fun _ _ _ _ _ => (g_nm 1 hN)) (fun _ _ _ _ _ => (evts_one (c_cmp opd_lt (r_meth PySem.F.plainAttrs_str PySem.F.slot_str_find PySem.F.type_str_find mtd_find eve_str (l_cons (r_var 1) l_nil)) eve_int))) (fun _ _ _ _ _ => (r_var 1))) eve_lst0))))
theorem sc__law_string : FnScope ["_law_deck", "_law_way", "_law_many", "_law_letters", "_law_signs", "_law_some", "_law_k"] ["_law_deck"] (C8.fnScope st__law_string) := C8.fnScope_by (by decide +kernel)
theorem bd__law_string : BindOk "_law_string" st__law_string ["_law_deck"] := fun _ _ _ _ _ _ us h => match us, h with | [_], _ => rfl
theorem ok__law_string (T : Tb K mg) (sy : ∃ mm, base.Ns sysModules mm) (f__law_draw : FnAt P w K mg base 1 "_law_draw" st__law_draw ["_law_deck", "_law_many"] fn__law_draw) (f__law_pick : FnAt P w K mg base 2 "_law_pick" st__law_pick ["_law_deck", "_law_some"] fn__law_pick) : FnAt P w K mg base 3 "_law_string" st__law_string ["_law_deck"] fn__law_string := by
  refine fnAt_of T.d__law_string sc__law_string (by rfl) fun f cd B fr s H room gd => ?_
  have S : Sys (fcx P w K mg base ["_law_deck", "_law_way", "_law_many", "_law_letters", "_law_signs", "_law_some", "_law_k"] "_law_string" (C8.fnScope st__law_string) f cd B fr s H) := sysOf sy room gd
  have hN : (["_law_deck", "_law_way", "_law_many", "_law_letters", "_law_signs", "_law_some", "_law_k"] : List Str).Nodup := sc__law_string.nd
  exact (evs_cons (s_par2 1 2 hN (l_cons (r_call f__law_draw bd__law_draw room gd (by decide) (l_cons (r_var 0) (l_cons eve_int l_nil))) (l_cons (r_call f__law_draw bd__law_draw room gd (by decide) (l_cons (r_var 0) (l_cons eve_int l_nil))) l_nil)))
      (evs_cons (s_parN (n_cons 3 hN (n_cons 4 hN pgsN_nil)) (l_cons eve_str (l_cons eve_str l_nil)))
      (evs_cons (evs_if (c_cmp (opd_eq S) (r_var 1) eve_int) (evs_one (evs_ret (eve_bin opd_mul (r_call f__law_pick bd__law_pick room gd (by decide) (l_cons (r_var 0) (l_cons (eve_bin opd_add (r_var 3) (r_var 4)) l_nil))) (r_var 2)))) evs_nil)
      (evs_cons (s_asg 5 hN (r_sub S (eve_lst (l_cons (r_var 3) (l_cons (r_var 3) (l_cons (eve_bin opd_add (r_var 4) (r_var 3)) l_nil)))) (eve_bin opd_sub (r_var 1) eve_int)))
      (evs_one (evs_ret (r_meth PySem.F.plainAttrs_str PySem.F.slot_str_join PySem.F.type_str_join mtd_join eve_str (l_cons (r_lc [("_law_k", 6)] hN (i_rgA T.n_range (l_cons (r_var 2) l_nil)) (fun _ _ _ _ _ => (g_nm 6 hN)) (fun _ _ _ _ _ => evts_nil) (fun _ _ _ _ _ => (r_call f__law_pick bd__law_pick room gd (by decide) (l_cons (r_var 0) (l_cons (r_var 5) l_nil))))) l_nil))))))))
theorem sc_is_name : FnScope ["value", "letter"] ["value"] (C8.fnScope st_is_name) := C8.fnScope_by (by decide +kernel)
theorem bd_is_name : BindOk "is_name" st_is_name ["value"] := fun _ _ _ _ _ _ us h => match us, h with | [_], _ => rfl
theorem ok_is_name (T : Tb K mg) (sy : ∃ mm, base.Ns sysModules mm) : FnAt P w K mg base 1 "is_name" st_is_name ["value"] fn_is_name := by
  obtain ⟨t_LETTERS, c_LETTERS⟩ := T.c_LETTERS
  obtain ⟨t_LONGEST_NAME, c_LONGEST_NAME⟩ := T.c_LONGEST_NAME
  refine fnAt_of T.d_is_name sc_is_name (by rfl) fun f cd B fr s H room gd => ?_
  have S : Sys (fcx P w K mg base ["value", "letter"] "is_name" (C8.fnScope st_is_name) f cd B fr s H) := sysOf sy room gd
  have hN : (["value", "letter"] : List Str).Nodup := sc_is_name.nd
  exact (evs_cons (evs_if (EvW.pt (evw_or (evt_not (c_of (r_isi (r_var 0) T.n_isinstance T.n_str))) (evw_or1 (evt_not (c_chain opd_le opd_le eve_int (r_callB calld_len T.n_len boot_len (l_cons (r_var 0) l_nil)) (r_gint c_LONGEST_NAME)))))) (evs_one (evs_ret eve_bl)) evs_nil)
      (evs_one (evs_ret (r_callB (calld_all rfl) T.n_all boot_all (l_cons (r_lc [("letter", 1)] hN (evi_seq (r_var 0)) (fun _ _ _ _ _ => (g_nm 1 hN)) (fun _ _ _ _ _ => evts_nil) (fun _ _ _ _ _ => (r_cmp (opd_in (sB S)) (r_var 1) (r_gstr c_LETTERS)))) l_nil)))))
theorem sc_law : FnScope ["_law_script", "_law_deck", "_law_some", "_law_k", "_law_word", "_law_it", "_law_kept", "_law_due_here"] ["_law_script"] (C8.fnScope st_law) := C8.fnScope_by (by decide +kernel)
theorem bd_law : BindOk "law" st_law ["_law_script"] := fun _ _ _ _ _ _ us h => match us, h with | [_], _ => rfl
theorem ok_law (T : Tb K mg) (sy : ∃ mm, base.Ns sysModules mm) (f__law_bent : FnAt P w K mg base 3 "_law_bent" st__law_bent ["_law_deck", "_law_word"] fn__law_bent) (f__law_dealt : FnAt P w K mg base 1 "_law_dealt" st__law_dealt ["_law_script"] fn__law_dealt) (f__law_due : FnAt P w K mg base 1 "_law_due" st__law_due ["_law_it"] fn__law_due) (f__law_string : FnAt P w K mg base 3 "_law_string" st__law_string ["_law_deck"] fn__law_string) (f_is_name : FnAt P w K mg base 1 "is_name" st_is_name ["value"] fn_is_name) : FnAt P w K mg base 4 "law" st_law ["_law_script"] fn_law := by
  refine fnAt_of T.d_law sc_law (by rfl) fun f cd B fr s H room gd => ?_
  have S : Sys (fcx P w K mg base ["_law_script", "_law_deck", "_law_some", "_law_k", "_law_word", "_law_it", "_law_kept", "_law_due_here"] "law" (C8.fnScope st_law) f cd B fr s H) := sysOf sy room gd
  have hN : (["_law_script", "_law_deck", "_law_some", "_law_k", "_law_word", "_law_it", "_law_kept", "_law_due_here"] : List Str).Nodup := sc_law.nd
  exact (evs_cons (s_asg 1 hN (r_call f__law_dealt bd__law_dealt room gd (by decide) (l_cons (r_var 0) l_nil)))
      (evs_cons (s_asg 2 hN eve_lst0)
      (evs_cons (s_for (i_rgA T.n_range (l_cons eve_int l_nil)) (g_nm 3 hN) (evs_cons (s_asg 4 hN (r_call f__law_string bd__law_string room gd (by decide) (l_cons (r_var 1) l_nil)))
      (evs_one (s_asg 2 hN (eve_bin opd_add (r_var 2) (eve_lst (l_cons (r_var 4) (l_cons (r_call f__law_bent bd__law_bent room gd (by decide) (l_cons (r_var 1) (l_cons (r_var 4) l_nil))) l_nil))))))))
      (evs_cons (s_asg 2 hN (eve_bin opd_add (r_var 2) (eve_lst (l_cons eve_str (l_cons eve_str (l_cons eve_str (l_cons eve_str (l_cons eve_str (l_cons eve_str (l_cons eve_str (l_cons eve_str (l_cons eve_str (l_cons eve_str (l_cons eve_str (l_cons eve_str (l_cons eve_str (l_cons eve_str l_nil)))))))))))))))))
      (evs_cons (s_asg 2 hN (eve_bin opd_add (r_var 2) (eve_frz (eve_lst (l_cons eve_non (l_cons eve_bl (l_cons eve_bl (l_cons eve_int (l_cons eve_int (l_cons (eve_un und_neg eve_int) (l_cons (eve_bin opd_pow eve_int eve_int) (l_cons (eve_tup l_nil) (l_cons (eve_tup (l_cons eve_str l_nil)) (l_cons eve_lst0 (l_cons (eve_lst (l_cons eve_str l_nil)) (l_cons eve_disp0 (l_cons (r_disp (evps_cons eve_str eve_str evps_nil)) (l_cons (eve_tup (l_cons (eve_tup (l_cons eve_str l_nil)) l_nil)) (l_cons (eve_lst (l_cons (eve_tup (l_cons eve_str (l_cons eve_int l_nil))) l_nil)) l_nil)))))))))))))))))))
      (evs_cons (s_for (evi_seq (r_var 2)) (g_nm 5 hN) (evs_cons (s_par2 6 7 hN (l_cons (r_callB (calld_repr S) T.n_repr boot_repr (l_cons (r_var 5) l_nil)) (l_cons (r_call f__law_due bd__law_due room gd (by decide) (l_cons (r_var 5) l_nil)) l_nil)))
      (evs_one (evs_if (EvW.pt (evw_or (c_cmp (opd_ne S) (r_callB (calld_repr S) T.n_repr boot_repr (l_cons (eve_lst (l_cons (r_call f_is_name bd_is_name room gd (by decide) (l_cons (r_var 5) l_nil)) (l_cons (r_callK (ks := ["value"]) (n := 1) f_is_name [0] (fun _ _ _ _ _ _ ws h => match ws, h with | [_], _ => rfl) room gd (by decide) (evk_cons (r_var 5) evk_nil) (lcons_len lnil_len)) (l_cons (r_call f_is_name bd_is_name room gd (by decide) (l_cons (r_var 5) l_nil)) l_nil)))) l_nil)) (r_callB (calld_repr S) T.n_repr boot_repr (l_cons (eve_bin opd_mul (eve_lst (l_cons (r_var 7) l_nil)) eve_int) l_nil))) (evw_or1 (c_cmp (opd_ne S) (r_callB (calld_repr S) T.n_repr boot_repr (l_cons (r_var 5) l_nil)) (r_var 6))))) (evs_one (evs_ret eve_bl)) evs_nil))))
      (evs_one (evs_ret eve_bl))))))))
end
end K01

set_option Elab.async false
set_option linter.all false
set_option maxRecDepth 100000
set_option maxHeartbeats 4000000
namespace K01
open Ev PySem
def dk (cs : List Int) (st tn : Int) : O := .lst [.lst (cs.map fun n => .val (.int n)), .val (.int st), .val (.int tn)]
theorem ix0 {n : Nat} (h : 0 < n) : L2.ixN n 0 = some 0 := by
  unfold L2.ixN
  rw [if_pos (by decide), if_pos (by omega)]; rfl
theorem cells_froz (cs : List Int) : O.froz (.lst (cs.map fun n => .val (.int n))) = some (.list (cs.map PyData.int)) := by
  have : (cs.map fun n => O.val (.int n)) = (cs.map PyData.int).map O.val := by rw [List.map_map]; rfl
  rw [this, O.froz_lst_val]
theorem ne_cells (cs : List Int) : oNe [.lst (cs.map fun n => .val (.int n)), .lst []] = .ok (.val (.bool (!cs.isEmpty))) := by
  have pl : ∀ cs : List Int, PyData.plainAll (cs.map PyData.int) = true := by
    intro cs
    induction cs with
    | nil => rfl
    | cons c cs ih => rw [List.map_cons, PyData.plainAll, ih]; rfl
  show (Rs.of (O.froz (.lst (cs.map fun n => .val (.int n))))).bind _ = _
  rw [cells_froz, Rs.of_some, Rs.ok_bind, O.froz_nil, Rs.of_some, Rs.ok_bind]
  cases cs with
  | nil => rfl
  | cons c cs =>
    have : eqOk (.list ((c :: cs).map PyData.int)) (.list []) = true := by
      unfold eqOk
      have h1 : PyData.plain (.list ((c :: cs).map PyData.int)) = true := by rw [PyData.plain]; exact pl _
      have h2 : (PyData.list []).depth = 1 := rfl
      rw [h1, h2]
      have h3 : min (PyData.list ((c :: cs).map PyData.int)).depth 1 ≤ 64 := Nat.le_trans (Nat.min_le_right _ _) (by decide)
      rw [decide_eq_true h3]
      rfl
    rw [this]
    rfl
theorem mul_ok {a b : Int} (ha : a.natAbs < 1000000000000000000000000000000) (hb : b.natAbs < 1000000000000000000000000000000) : decide (a.natAbs.log2 + b.natAbs.log2 < 1000000) = true := by
  have l : ∀ n : Nat, n < 1000000000000000000000000000000 → n.log2 < 101 := fun n h => by
    by_cases z : n = 0
    · subst z; decide
    · exact (Nat.log2_lt z).mpr (Nat.lt_of_lt_of_le h (by decide))
  have := l _ ha
  have := l _ hb
  exact decide_eq_true (by omega)
theorem mulE {a b : Int} (ha : a.natAbs < 1000000000000000000000000000000) (hb : b.natAbs < 1000000000000000000000000000000) : oMul [.val (.int a), .val (.int b)] = .ok (.val (.int (a * b))) := by
  rw [v_mul, mul_ok ha hb]; rfl
theorem fmB (a : Int) {b : Int} (hb : 0 < b) : 0 ≤ a.fmod b ∧ a.fmod b < b := ⟨Int.fmod_nonneg_of_pos _ hb, Int.fmod_lt_of_pos _ hb⟩
theorem l32 : Nat.log2 32 = 5 := by decide
theorem i30 : L2.ixN 3 0 = some 0 := by decide
theorem i31 : L2.ixN 3 1 = some 1 := by decide
theorem i32 : L2.ixN 3 2 = some 2 := by decide
theorem draw4 {C : O} {st tn m c v : Int} (hm : 0 < m) (h0 : 0 ≤ v) (h1 : v < 2147483587) :
    ∃ r, 0 ≤ r ∧ r < m ∧ sm__law_draw_4 [.lst [C, .val (.int st), .val (.int tn)], .val (.int m), .val (.int c), .val (.int v)] = .ok (.rt (.val (.int r)), [.lst [C, .val (.int st), .val (.int tn)], .val (.int m), .val (.int c), .val (.int v)]) := by
  have mz : ¬ m = 0 := by omega
  refine ⟨((v * 69621).fmod 2147483563 / 32).fmod m, (fmB _ hm).1, (fmB _ hm).2, ?_⟩
  simp [sm__law_draw_4, -v_mul]
  rw [mulE (by omega) (by decide)]
  simp [mz, l32]
theorem draw5 {C : O} {st tn m c v : Int} (hm : 0 < m) (h0 : 0 ≤ v) (h1 : v < 2147483629) (t0 : 0 ≤ tn) (t1 : tn < 100001) :
    ∃ r e, 0 ≤ r ∧ r < m ∧ sm__law_draw_5 [.lst [C, .val (.int st), .val (.int tn)], .val (.int m), .val (.int c), .val (.int v)] = .ok (.rt (.val (.int r)), .lst [C, .val (.int st), .val (.int tn)] :: .val (.int m) :: e) := by
  have b := fmB (v * v + 16807 * tn + 17) (b := 2147483587) (by decide)
  obtain ⟨r, r0, r1, e⟩ := draw4 (C := C) (st := st) (tn := tn) (c := c) hm b.1 b.2
  refine ⟨r, _, r0, r1, Eq.trans ?_ e⟩
  simp [sm__law_draw_5, -v_mul, i32]
  rw [mulE (by omega) (by omega)]
  simp [-v_mul, i32]
  rw [mulE (by decide) (by omega)]
  simp
theorem draw6 {C : O} {st tn m c : Int} {x : O} (hm : 0 < m) (t0 : 0 ≤ tn) (t1 : tn < 100001) :
    ∃ r e, 0 ≤ r ∧ r < m ∧ sm__law_draw_6 [.lst [C, .val (.int st), .val (.int tn)], .val (.int m), .val (.int c), x] = .ok (.rt (.val (.int r)), .lst [C, .val (.int st), .val (.int tn)] :: .val (.int m) :: e) := by
  have q1 : 0 ≤ 65537 * tn * tn ∧ 65537 * tn * tn ≤ 65537 * 100001 * 100001 := by
    have a1 : 0 ≤ tn * tn := Int.mul_nonneg t0 t0
    have a2 : tn * tn ≤ 100001 * 100001 := Int.mul_le_mul (by omega) (by omega) (by omega) (by omega)
    rw [Int.mul_assoc]
    omega
  have c1 := fmB c (b := 2147483647) (by decide)
  have b := fmB ((c.fmod 2147483647 + 65537 * tn * tn + 29) * 48271) (b := 2147483629) (by decide)
  obtain ⟨r, e1, r0, r1, e⟩ := draw5 (C := C) (st := st) (tn := tn) (c := c) hm b.1 b.2 t0 t1
  refine ⟨r, _, r0, r1, Eq.trans ?_ e⟩
  simp [sm__law_draw_6, -v_mul, i32]
  rw [mulE (by decide) (by omega)]
  simp [-v_mul, i32]
  rw [mulE (by omega) (by omega)]
  simp [-v_mul, i32]
  rw [mulE (by omega) (by decide)]
  simp
theorem draw_ok (cs : List Int) (st tn m : Int) (hm : 0 < m) (hl : m.natAbs.log2 < 9000) (h0 : 0 ≤ tn) (h1 : tn < 100000) (hc : cs.length ≤ 63) :
    ∃ cs' r, fn__law_draw [dk cs st tn, .val (.int m)] = .ok (.val (.int r), [dk cs' st (tn + 1), .val (.int m)]) ∧ 0 ≤ r ∧ r < m ∧ cs'.length ≤ 63 := by
  have mz : ¬ m = 0 := by omega
  unfold fn__law_draw
  rw [v_fn]
  simp [sm__law_draw, sm__law_draw_8, sm__law_draw_7, dk, i30, i31, i32]
  rw [ne_cells]
  by_cases hcs : cs = []
  · subst hcs
    obtain ⟨r, e1, r0, r1, e⟩ := draw6 (C := .lst []) (st := st) (tn := tn + 1) (m := m) (c := st) (x := .hole) hm (by omega) (by omega)
    refine ⟨[], r, ?_, r0, r1, by simp⟩
    simp [e]
  · have em : cs.isEmpty = false := by cases cs <;> simp_all
    obtain ⟨ds, c, rfl⟩ : ∃ ds c, cs = ds ++ [c] := ⟨cs.dropLast, cs.getLast hcs, (List.dropLast_concat_getLast hcs).symm⟩
    simp [em, sm__law_draw_3, i30, i31]
    have ln : ds.length < 63 := by simp at hc; omega
    by_cases h18 : 1000000000000000000 ≤ c
    · refine ⟨ds ++ [c / m], c.fmod m, ?_, (fmB c hm).1, (fmB c hm).2, by simp; omega⟩
      have l2 : ds.length < 16777216 := by omega
      simp [h18, hm, hl, sm__law_draw_1, mz, l2]
    · obtain ⟨r, e1, r0, r1, e⟩ := draw6 (C := .lst (ds.map fun n => .val (.int n))) (st := st) (tn := tn + 1) (m := m) (c := c + st) (x := .hole) hm (by omega) (by omega)
      refine ⟨ds, r, ?_, r0, r1, by omega⟩
      simp [h18, sm__law_draw_2, i31, e]
theorem v_len {s : Str} (h : s.length ≤ 16777216) : oLen [.val (.str s)] = .ok (.val (.int (s.length : Int))) := by
  show (Rs.chk (fits s.length)).bind _ = _
  rw [show fits s.length = true from decide_eq_true h]; rfl
theorem log_ok {n : Nat} (h : n ≤ 20000000) : ((n : Int)).natAbs.log2 < 9000 := by
  by_cases z : n = 0
  · subst z; decide
  · rw [Int.natAbs_natCast]
    exact Nat.lt_trans ((Nat.log2_lt z).mpr (show n < 2 ^ 30 by omega)) (by decide)
theorem item_str {s : Str} (hl : s.length ≤ 16777216) {r : Int} (r0 : 0 ≤ r) (r1 : r < (s.length : Int)) : ∃ c, c ∈ s.cps.toList ∧ itemD (.str s) (.int r) = some (.str ⟨#[c]⟩) := by
  have hn : r.toNat < s.cps.toList.length := by
    have : s.length = s.cps.size := rfl
    simp; omega
  refine ⟨s.cps.toList[r.toNat], List.getElem_mem _, ?_⟩
  show (if s.length ≤ 16777216 then _ else _) = _
  rw [if_pos hl]
  have ix : L2.ixN s.cps.toList.length r = some r.toNat := by
    unfold L2.ixN
    rw [if_pos r0, if_pos (by have : s.length = s.cps.size := rfl; simp; omega)]
  rw [ix, Option.bind_some, List.getElem?_eq_getElem hn]
  rfl
/-- the deck, drawn at most n times -/
def Dk (n : Int) (d : O) : Prop := ∃ cs st tn, d = dk cs st tn ∧ 0 ≤ tn ∧ tn ≤ n ∧ cs.length ≤ 63
theorem drawD {n m : Int} {d : O} (h : Dk n d) (hn : n < 100000) (hm : 0 < m) (hl : m.natAbs.log2 < 9000) : ∃ d' r, Dk (n + 1) d' ∧ fn__law_draw [d, .val (.int m)] = .ok (.val (.int r), [d', .val (.int m)]) ∧ 0 ≤ r ∧ r < m := by
  obtain ⟨cs, st, tn, rfl, h0, h1, h2⟩ := h
  obtain ⟨cs', r, e, r0, r1, l⟩ := draw_ok cs st tn m hm hl h0 (by omega) h2
  exact ⟨_, r, ⟨cs', st, tn + 1, rfl, by omega, by omega, l⟩, e, r0, r1⟩
theorem pickD {n : Int} {d : O} {s : Str} (h : Dk n d) (hn : n < 100000) (hs : 0 < s.length) (hl : s.length ≤ 16777216) :
    ∃ d' c, Dk (n + 1) d' ∧ fn__law_pick [d, .val (.str s)] = .ok (.val (.str ⟨#[c]⟩), [d', .val (.str s)]) ∧ c ∈ s.cps.toList := by
  obtain ⟨d', r, hd, e, r0, r1⟩ := drawD (m := (s.length : Int)) h hn (by omega) (log_ok (by omega))
  obtain ⟨c, hc, ei⟩ := item_str hl r0 r1
  refine ⟨d', c, hd, ?_, hc⟩
  obtain ⟨cs, st, tn, rfl, _⟩ := h
  obtain ⟨cs', st', tn', rfl, _⟩ := hd
  unfold fn__law_pick
  rw [v_fn]
  simp only [dk] at e ⊢
  simp [sm__law_pick, v_len hl, e, ei]
def one (c : Nat) : Str := ⟨#[c]⟩
/-- plain signs only -/
def Asc (w : Str) : Prop := ∀ c ∈ w.cps.toList, c < 128
theorem Asc.app {a b : Str} (h : Asc a) (g : Asc b) : Asc (a ++ b) := fun c hc => by
  have : (a ++ b).cps.toList = a.cps.toList ++ b.cps.toList := by
    show (a.cps ++ b.cps).toList = _
    rw [Array.toList_append]
  rw [this] at hc
  exact (List.mem_append.mp hc).elim (h c) (g c)
theorem Asc.one {c : Nat} (h : c < 128) : Asc (one c) := fun d hd => by
  have : d = c := by simpa [K01.one] using hd
  omega
theorem Asc.cut {s : Str} {lo hi : Option Int} (h : Asc s) : Asc (L2.cutS s lo hi) := fun c hc => by
  refine h c ?_
  have : c ∈ (s.cps.toList.drop (HT.sIx s.length 0 lo)).take (HT.sIx s.length s.length hi - HT.sIx s.length 0 lo) := by simpa [L2.cutS] using hc
  exact List.mem_of_mem_drop (List.mem_of_mem_take this)
theorem asc_join : ∀ cs : List Nat, (∀ c ∈ cs, c < 128) → Asc (Str.join (Str.ofString "") (cs.map K01.one))
  | [], _ => fun c hc => by
    have : c ∈ ([] : List Nat) := hc
    cases this
  | [x], h => Asc.one (h x (by simp))
  | x :: y :: r, h => by
    have e0 : Asc (Str.ofString "") := by unfold Asc; decide
    exact ((Asc.one (h x (by simp))).app e0).app (asc_join (y :: r) fun c hc => h c (List.mem_cons_of_mem _ hc))
theorem strs_vals (cs : List Nat) : O.vals (cs.map fun c => .val (.str (one c))) = some (cs.map fun c => .str (one c)) := by
  have : (cs.map fun c => O.val (.str (one c))) = (cs.map fun c => PyData.str (one c)).map O.val := by rw [List.map_map]; rfl
  rw [this, O.vals_map]
theorem strs_of (cs : List Nat) : strsOf (cs.map fun c => .str (one c)) = some (cs.map one) := by
  induction cs with
  | nil => rfl
  | cons c cs ih => rw [List.map_cons, strsOf, ih]; rfl
theorem join_ok (cs : List Nat) (h : cs.length ≤ 100) (ha : ∀ c ∈ cs, c < 128) : ∃ w : Str, w.length = cs.length ∧ Asc w ∧ oJoin [.val (.str ""), .lst (cs.map fun c => .val (.str (one c)))] = .ok (.val (.str w)) := by
  refine ⟨PySem.Txt.join (PySem.Str.ofString "") (cs.map one), ?_, ?_, ?_⟩
  · rw [PySem.W.KT.join_ones _ (fun a ha => by obtain ⟨c, _, rfl⟩ := List.mem_map.mp ha; rfl), List.length_map]
  · show Asc (Builtin.Str.glued _ _)
    rw [StrLaws.glued_eq_join]
    exact asc_join cs ha
  · clear ha
    show (Rs.of (O.vals (cs.map fun c => .val (.str (one c))))).bind _ = _
    rw [strs_vals, Rs.of_some, Rs.ok_bind, strs_of, Rs.of_some, Rs.ok_bind]
    have e1 : (((cs.map one).map fun x => x.length).sum + (cs.map one).length * (Str.ofString "").length) = cs.length := by
      have z : (Str.ofString "").length = 0 := by decide
      rw [z, Nat.mul_zero, Nat.add_zero, List.map_map]
      induction cs with
      | nil => rfl
      | cons c cs ih =>
        rw [List.map_cons, List.sum_cons, ih (by simp at h; omega)]
        show 1 + cs.length = cs.length + 1
        omega
    rw [e1, show fits cs.length = true from decide_eq_true (by omega)]
    rfl
theorem lc_pick {s : Str} (hs : 0 < s.length) (hl : s.length ≤ 16777216) (ha : Asc s) {a b c f : O} : ∀ (ds : List PyData) (cs : List Nat) (d : O) (n : Int), Dk n d → n + ds.length < 100000 → cs.length + ds.length ≤ 100 → (∀ c ∈ cs, c < 128) →
    ∃ (d' : O) (cs' : List Nat), Dk (n + ds.length) d' ∧ cs'.length = cs.length + ds.length ∧ (∀ c ∈ cs', c < 128) ∧
      lcN [6] (.nm 6) cYes (eCall fn__law_pick (lCons (eVar 0) true (lCons (eVar 5) true lNil))) ds (cs.map fun c => .val (.str (one c))) [d, a, b, c, f, .val (.str s), .hole] = .ok (cs'.map (fun c => .val (.str (one c))), [d', a, b, c, f, .val (.str s), .hole])
  | [], cs, d, n, h, _, _, hx => ⟨d, cs, by simpa using h, by simp, hx, rfl⟩
  | x :: ds, cs, d, n, h, hn, hc, hx => by
    simp at hn hc
    obtain ⟨d1, ch, h1, e, hch⟩ := pickD (s := s) h (by omega) hs hl
    obtain ⟨d2, cs2, h2, l2, hx2, e2⟩ := lc_pick hs hl ha (a := a) (b := b) (c := c) (f := f) ds (cs ++ [ch]) d1 (n + 1) h1 (by omega) (by simp; omega) (fun y hy => by
      rcases List.mem_append.mp hy with z | z
      · exact hx y z
      · have : y = ch := by simpa using z
        rw [this]; exact ha ch hch)
    refine ⟨d2, cs2, ?_, by simp at l2; simp; omega, hx2, ?_⟩
    · have : n + ((x :: ds).length : Int) = n + 1 + (ds.length : Int) := by simp; omega
      rw [this]; exact h2
    · obtain ⟨k1, k2, k3, rfl, _⟩ := id h
      obtain ⟨k1', k2', k3', rfl, _⟩ := id h1
      simp only [dk] at e e2 ⊢
      have lc : cs.length < 16777216 := by omega
      rw [v_lcN]
      simp [e, lc]
      simp at e2
      exact e2
theorem Dk.mono {n m : Int} {d : O} (h : Dk n d) (l : n ≤ m) : Dk m d := by
  obtain ⟨cs, st, tn, e, a, b, c⟩ := h
  exact ⟨cs, st, tn, e, a, by omega, c⟩
abbrev sLet : Str := "abcdefghijklmnopqrstuvwxyz"
abbrev sSig : Str := "azAZ09_-. ~\n`{[@"
theorem v_addS {a b : Str} (h : a.length + b.length ≤ 16777216) : oAdd [.val (.str a), .val (.str b)] = .ok (.val (.str (a ++ b))) := by
  rw [v_add2, show fits (a.length + b.length) = true from decide_eq_true h]; rfl
theorem rep_ok {c : Nat} {k : Int} (h0 : 0 ≤ k) (h1 : k < 10) (hc : c < 128) : ∃ w : Str, w.length ≤ 9 ∧ Asc w ∧ oMul [.val (.str (one c)), .val (.int k)] = .ok (.val (.str w)) := by
  refine ⟨repS (one c) k, ?_, fun d hd => ?_, ?_⟩
  · have : (repS (one c) k).length = k.toNat := by
      show (((List.replicate k.toNat [c]).flatten).toArray).size = _
      simp
    omega
  · have hd : d ∈ (List.replicate k.toNat [c]).flatten := by simpa [repS, one] using hd
    obtain ⟨l, h1, h2⟩ := List.mem_flatten.mp hd
    rw [List.eq_of_mem_replicate h1] at h2
    have : d = c := by simpa using h2
    omega
  · show (Rs.chk (repOk 1 k)).bind _ = _
    have : repOk 1 k = true := by
      unfold repOk fits
      simp
      omega
    rw [this]; rfl
theorem string1 {n many : Int} {d : O} {s : Str} {y : PyData} {a b : O} (h : Dk n d) (hn : n < 95000) (hs : 0 < s.length) (hl : s.length ≤ 16777216) (ha : Asc s) (m0 : 0 ≤ many) (m1 : many < 10) :
    ∃ d' w e, Dk (n + 10) d' ∧ (w.length ≤ 9 ∧ Asc w) ∧ sm__law_string_1 [d, .val y, .val (.int many), a, b, .val (.str s), .hole] = .ok (.rt (.val (.str w)), d' :: e) := by
  have lr : (rangeD 0 many.toNat).length = many.toNat := by simp [rangeD]
  obtain ⟨d', cs, hd, lc, hx, e⟩ := lc_pick hs hl ha (a := .val y) (b := .val (.int many)) (c := a) (f := b) (rangeD 0 many.toNat) [] d n h (by rw [lr]; omega) (by rw [lr]; simp; omega) (fun c hc => by cases hc)
  obtain ⟨w, lw, aw, ew⟩ := join_ok cs (by rw [lc, lr]; simp; omega) hx
  obtain ⟨a1, a2, a3, rfl, _⟩ := id h
  obtain ⟨b1, b2, b3, rfl, _⟩ := id hd
  refine ⟨_, w, [.val y, .val (.int many), a, b, .val (.str s), .hole], hd.mono (by rw [lr]; omega), ⟨by rw [lw, lc, lr]; simp; omega, aw⟩, ?_⟩
  have r1 : -4611686018427387904 ≤ many := by omega
  have r2 : many < 4611686018427387904 := by omega
  simp only [dk, one] at e ew ⊢
  simp at e
  simp [sm__law_string_1, r1, r2, e, ew]
theorem string_ok {n : Int} {d : O} (h : Dk n d) (hn : n < 90000) : ∃ d' w, Dk (n + 20) d' ∧ fn__law_string [d] = .ok (.val (.str w), [d']) ∧ (w.length ≤ 9 ∧ Asc w) := by
  obtain ⟨d1, way, g1, e1, w0, w1⟩ := drawD (m := 4) h (by omega) (by decide) (by decide)
  obtain ⟨d2, many, g2, e2, m0, m1⟩ := drawD (m := 10) g1 (by omega) (by decide) (by decide)
  have lL : sLet.length = 26 := by decide
  have lS : sSig.length = 16 := by decide
  have aL : Asc sLet := by unfold Asc; decide
  have aS : Asc sSig := by unfold Asc; decide
  obtain ⟨a1, a2, a3, rfl, _⟩ := id h
  obtain ⟨b1, b2, b3, rfl, _⟩ := id g1
  obtain ⟨c1, c2, c3, rfl, _⟩ := id g2
  by_cases hw : way = 0
  · obtain ⟨d3, c, g3, e3, hcc⟩ := pickD (s := sLet ++ sSig) g2 (by omega) (by rw [Str.length_append]; omega) (by rw [Str.length_append]; omega)
    obtain ⟨x1, x2, x3, rfl, _⟩ := id g3
    obtain ⟨w, lw, aw, ew⟩ := rep_ok (c := c) m0 m1 ((aL.app aS) c hcc)
    refine ⟨_, w, g3.mono (by omega), ?_, lw, aw⟩
    unfold fn__law_string
    rw [v_fn]
    subst hw
    have ad := v_addS (a := sLet) (b := sSig) (by omega)
    simp only [dk, one] at e1 e2 e3 ew ⊢
    simp [sm__law_string, sm__law_string_4, sm__law_string_3, e1, e2, v_eqI, ad, e3, ew]
  · have fin : ∀ s : Str, 0 < s.length → s.length ≤ 16777216 → Asc s → sm__law_string_2 [dk c1 c2 c3, .val (.int way), .val (.int many), .val (.str sLet), .val (.str sSig), .hole, .hole] = sm__law_string_1 [dk c1 c2 c3, .val (.int way), .val (.int many), .val (.str sLet), .val (.str sSig), .val (.str s), .hole] →
        ∃ d' w, Dk (n + 20) d' ∧ fn__law_string [dk a1 a2 a3] = .ok (.val (.str w), [d']) ∧ (w.length ≤ 9 ∧ Asc w) := fun s hs hl ha es => by
      obtain ⟨d', w, e, hd, lw, ee⟩ := string1 (s := s) (y := .int way) (a := .val (.str sLet)) (b := .val (.str sSig)) g2 (by omega) hs hl ha m0 m1
      refine ⟨d', w, hd.mono (by omega), ?_, lw⟩
      rw [← es] at ee
      unfold fn__law_string
      rw [v_fn]
      simp only [dk] at e1 e2 ee ⊢
      simp [sm__law_string, sm__law_string_4, sm__law_string_3, e1, e2, v_eqI, hw, ee]
    have ad := v_addS (a := sSig) (b := sLet) (by omega)
    rcases (show way = 1 ∨ way = 2 ∨ way = 3 by omega) with z | z | z
    · subst z
      refine fin sLet (by omega) (by omega) aL ?_
      simp only [dk]
      simp [sm__law_string_2, ad, i30]
    · subst z
      refine fin sLet (by omega) (by omega) aL ?_
      simp only [dk]
      simp [sm__law_string_2, ad, i31]
    · subst z
      refine fin (sSig ++ sLet) (by rw [Str.length_append]; omega) (by rw [Str.length_append]; omega) (aS.app aL) ?_
      simp only [dk]
      simp [sm__law_string_2, ad, i32]
abbrev sBent : Str := "azAZ0 ~\n_`{"
theorem sl01 {s : Str} {i : Int} (h : s.length ≤ 16777216) : oSlice false true [.val (.str s), .val (.int i)] = .ok (.val (.str (L2.cutS s none (some i)))) := by
  show (Rs.chk (fits s.length)).bind _ = _
  rw [show fits s.length = true from decide_eq_true h]; rfl
theorem sl10 {s : Str} {i : Int} (h : s.length ≤ 16777216) : oSlice true false [.val (.str s), .val (.int i)] = .ok (.val (.str (L2.cutS s (some i) none))) := by
  show (Rs.chk (fits s.length)).bind _ = _
  rw [show fits s.length = true from decide_eq_true h]; rfl
theorem cut_len {s : Str} {lo hi : Option Int} : (L2.cutS s lo hi).length ≤ s.length := L2.cutS_length s lo hi
theorem bent_ok {n : Int} {d : O} {w : Str} (h : Dk n d) (hn : n < 95000) (hw : w.length ≤ 9) (aw : Asc w) : ∃ d' w', Dk (n + 3) d' ∧ fn__law_bent [d, .val (.str w)] = .ok (.val (.str w'), [d', .val (.str w)]) ∧ (w'.length ≤ 20 ∧ Asc w') := by
  obtain ⟨d1, at_, g1, e1, a0, a1⟩ := drawD (m := (w.length : Int) + 1) h (by omega) (by omega) (by
    have := log_ok (n := w.length + 1) (by omega)
    simpa using this)
  have lB : sBent.length = 11 := by decide
  have aB : Asc sBent := by unfold Asc; decide
  obtain ⟨d2, c, g2, e2, hcc⟩ := pickD (s := sBent) g1 (by omega) (by omega) (by omega)
  obtain ⟨d3, way, g3, e3, w0, w1⟩ := drawD (m := 3) g2 (by omega) (by decide) (by decide)
  obtain ⟨x1, x2, x3, rfl, _⟩ := id h
  obtain ⟨y1, y2, y3, rfl, _⟩ := id g1
  obtain ⟨z1, z2, z3, rfl, _⟩ := id g2
  obtain ⟨u1, u2, u3, rfl, _⟩ := id g3
  have L := fun lo hi => @cut_len w lo hi
  have lo : (one c).length = 1 := rfl
  have ac : Asc (one c) := Asc.one (aB c hcc)
  have ap : ∀ a b : Str, a.length ≤ 9 → b.length ≤ 10 → (a ++ b).length ≤ 19 := fun a b h1 h2 => by rw [Str.length_append]; omega
  have k1 : ∀ x : Str, x.length ≤ 9 → oAdd [.val (.str x), .val (.str (one c))] = .ok (.val (.str (x ++ one c))) := fun x hx => v_addS (by omega)
  have k2 : ∀ x y : Str, x.length ≤ 9 → y.length ≤ 9 → oAdd [.val (.str (x ++ one c)), .val (.str y)] = .ok (.val (.str (x ++ one c ++ y))) := fun x y hx hy => v_addS (by rw [Str.length_append]; omega)
  have k3 : ∀ x y : Str, x.length ≤ 9 → y.length ≤ 9 → oAdd [.val (.str x), .val (.str y)] = .ok (.val (.str (x ++ y))) := fun x y hx hy => v_addS (by omega)
  have q1 := k1 _ (Nat.le_trans (L none (some at_)) hw)
  have q2 := k2 _ _ (Nat.le_trans (L none (some at_)) hw) (Nat.le_trans (L (some (at_ + 1)) none) hw)
  have q3 := k2 _ _ (Nat.le_trans (L none (some at_)) hw) (Nat.le_trans (L (some at_) none) hw)
  have q4 := k3 _ _ (Nat.le_trans (L none (some at_)) hw) (Nat.le_trans (L (some (at_ + 1)) none) hw)
  have s1 : ∀ i, oSlice false true [.val (.str w), .val (.int i)] = .ok (.val (.str (L2.cutS w none (some i)))) := fun i => sl01 (by omega)
  have s2 : ∀ i, oSlice true false [.val (.str w), .val (.int i)] = .ok (.val (.str (L2.cutS w (some i) none))) := fun i => sl10 (by omega)
  have vl : oLen [.val (.str w)] = .ok (.val (.int (w.length : Int))) := v_len (by omega)
  have g3' := g3.mono (m := n + 3) (by omega)
  simp only [dk, one] at e1 e2 e3 q1 q2 q3 q4 ⊢ g3'
  have l1 := L none (some at_)
  have l2 := L (some (at_ + 1)) none
  have l3 := L (some at_) none
  rcases (show way = 0 ∨ way = 1 ∨ way = 2 by omega) with z | z | z
  · subst z
    refine ⟨_, L2.cutS w none (some at_) ++ one c ++ L2.cutS w (some (at_ + 1)) none, g3', ?_, by rw [Str.length_append, Str.length_append]; omega, (aw.cut.app ac).app aw.cut⟩
    unfold fn__law_bent
    rw [v_fn]
    simp [sm__law_bent, sm__law_bent_1, vl, e1, e2, e3, s1, s2, q1, q2, q3, q4, i30, one]
  · subst z
    refine ⟨_, L2.cutS w none (some at_) ++ one c ++ L2.cutS w (some at_) none, g3', ?_, by rw [Str.length_append, Str.length_append]; omega, (aw.cut.app ac).app aw.cut⟩
    unfold fn__law_bent
    rw [v_fn]
    simp [sm__law_bent, sm__law_bent_1, vl, e1, e2, e3, s1, s2, q1, q2, q3, q4, i31, one]
  · subst z
    refine ⟨_, L2.cutS w none (some at_) ++ L2.cutS w (some (at_ + 1)) none, g3', ?_, by rw [Str.length_append]; omega, aw.cut.app aw.cut⟩
    unfold fn__law_bent
    rw [v_fn]
    simp [sm__law_bent, sm__law_bent_1, vl, e1, e2, e3, s1, s2, q1, q2, q3, q4, i32, one]
theorem stir {a b : O} : ∀ (cs : List Int) (st : Int) (y : O), 0 ≤ st → st < 2147483647 → ∃ st' y', forN [0] (.nm 3) sm__law_dealt_1 (cs.map .int) [a, b, .val (.int st), y] = .ok (.nx, [a, b, .val (.int st'), y'])
  | [], st, y, _, _ => ⟨st, y, rfl⟩
  | c :: cs, st, y, h0, h1 => by
    have b1 := fmB (st * 48271 + c.fmod 2147483629 + 41) (b := 2147483647) (by decide)
    obtain ⟨st', y', e⟩ := stir (a := a) (b := b) cs _ (.val (.int c)) b1.1 b1.2
    refine ⟨st', y', Eq.trans ?_ e⟩
    rw [List.map_cons, v_for]
    simp [sm__law_dealt_1, -v_mul]
    rw [mulE (by omega) (by decide)]
    simp
theorem dealt_ok (ns : List Int) (hn : ns.length ≤ 63) : ∃ d x, Dk 0 d ∧ fn__law_dealt [.val (.list (ns.map PyData.int))] = .ok (d, [x]) := by
  have c1 : cutL (ns.map PyData.int) none (some 63) = (cutL ns none (some 63)).map PyData.int := by
    unfold cutL
    rw [List.length_map, ← List.map_drop, ← List.map_take]
  generalize hc : cutL ns none (some 63) = cs at c1
  have hl : cs.length ≤ 63 := by
    rw [← hc]
    unfold cutL
    have : ((ns.drop (HT.sIx ns.length 0 none)).take (HT.sIx ns.length ns.length (some 63) - HT.sIx ns.length 0 none)).length ≤ ns.length := by
      rw [List.length_take, List.length_drop]; omega
    omega
  have s1 : oSlice false true [.val (.list (ns.map PyData.int)), .val (.int 63)] = .ok (mkL (cs.map PyData.int)) := by
    rw [← c1]; rfl
  have s2 : oList [mkL (cs.map PyData.int)] = .ok (mkL (cs.map PyData.int)) := by
    show (Rs.of (O.vals ((cs.map PyData.int).map O.val))).bind _ = _
    rw [O.vals_map]; rfl
  have s3 : (O.lst ((cs.map PyData.int).map O.val)).froz = some (.list (cs.map PyData.int)) := O.froz_lst_val _
  have s4 : oRevL [.val (.list (cs.map PyData.int))] = .ok (mkL (cs.map PyData.int).reverse) := rfl
  obtain ⟨st', y', e⟩ := stir (a := .val (.list (ns.map PyData.int))) (b := .val (.list (cs.map PyData.int))) cs 71011 .hole (by decide) (by decide)
  refine ⟨dk cs.reverse st' 0, .val (.list (ns.map PyData.int)), ⟨cs.reverse, st', 0, rfl, by decide, by decide, by simpa using hl⟩, ?_⟩
  unfold fn__law_dealt
  rw [v_fn]
  unfold mkL at s1 s2 s4
  have c0 : O.froz (.val (.list (ns.map PyData.int))) = some (.list (ns.map PyData.int)) := rfl
  have it : itemsD (.list (cs.map PyData.int)) = some (cs.map PyData.int) := rfl
  simp only [List.map_map] at s1 s2 s3 s4 e ⊢
  simp [sm__law_dealt, sm__law_dealt_2, sm__law_dealt_3, s1, s2, s3, s4, it, e]
  unfold dk
  rw [← List.map_reverse]
  rfl
theorem chain_val {F G : List O → Rs O} {l : LF} {p : Bool} {h : EF} {e : Ev.Env} {x y z : PyData} {b c : Bool} (h1 : l e = .ok ([.val x, .val y], e)) (h2 : F [.val x, .val y] = .ok (.val (.bool b))) (h3 : h e = .ok (.val z, e)) (h4 : G [.val y, .val z] = .ok (.val (.bool c))) :
    eChain F G l p h e = .ok (.val (.bool (b && c)), e) := by
  unfold eChain
  rw [h1, Rs.ok_bind]
  dsimp only
  rw [show contents e [W.val x, W.val y] = some [O.val x, O.val y] from rfl, Rs.of_some, Rs.ok_bind, h2, Rs.ok_bind]
  cases b with
  | false => rfl
  | true =>
    dsimp only
    rw [show (p || !(W.val y).nested) = true by cases p <;> rfl, Rs.chk_true, Rs.ok_bind, h3, Rs.ok_bind]
    dsimp only
    rw [show contents e [W.val y, W.val z] = some [O.val y, O.val z] from rfl, Rs.of_some, Rs.ok_bind, h4]
    rfl
theorem in_one (c : Nat) (b : Str) : oIn [.val (.str (one c)), .val (.str b)] = .ok (.val (.bool (decide (c ∈ b.cps.toList)))) := by
  show Rs.ok (vB (strIn (one c) b)) = _
  rw [show strIn (one c) b = decide (c ∈ b.cps.toList) from StrLaws.found_one b c]
  rfl
theorem find_one (c : Nat) (b : Str) : decide (PySem.Txt.find b (one c) < 0) = !decide (c ∈ b.cps.toList) := by
  rw [← StrLaws.found_one b c, Bool.not_not]
  show decide ((match Builtin.Str.occurrences b (one c) 0 b.length 1 with | i :: _ => (i : Int) | [] => -1) < 0) = (Builtin.Str.occurrences b (one c) 0 b.length 1).isEmpty
  cases Builtin.Str.occurrences b (one c) 0 b.length 1 with
  | nil => rfl
  | cons i r =>
    show decide ((i : Int) < 0) = false
    exact decide_eq_false (by omega)
theorem lc_in {v : O} : ∀ (cs : List Nat) (bs : List Bool), bs.length + cs.length < 1000 →
    lcN [1] (.nm 1) cYes (eOp oIn (lTwo (eVar 1) true (eCst (.str sLet)))) (cs.map fun c => .str (one c)) (bs.map fun b => .val (.bool b)) [v, .hole] = .ok ((bs ++ cs.map fun c => decide (c ∈ sLet.cps.toList)).map (fun b => .val (.bool b)), [v, .hole])
  | [], bs, _ => by simp
  | c :: cs, bs, hl => by
    simp at hl
    have ih := lc_in (v := v) cs (bs ++ [decide (c ∈ sLet.cps.toList)]) (by simp; omega)
    have ll : bs.length < 16777216 := by omega
    rw [List.map_cons, v_lcN]
    simp only [List.append_assoc, List.singleton_append] at ih
    have io := in_one c sLet
    simp only [one] at io ih ⊢
    simp [io, ll]
    simp at ih
    exact ih
theorem all_bools (bs : List Bool) : oAll [.lst (bs.map fun b => .val (.bool b))] = .ok (.val (.bool (bs.all id))) := by
  have h1 : (bs.map fun b => O.val (.bool b)) = (bs.map PyData.bool).map O.val := by rw [List.map_map]; rfl
  have h2 : ∀ bs : List Bool, allBools (bs.map PyData.bool) = some bs := by
    intro bs
    induction bs with
    | nil => rfl
    | cons b bs ih => rw [List.map_cons, allBools, ih]; rfl
  show (Rs.of (O.vals (bs.map fun b => O.val (.bool b)))).bind _ = _
  rw [h1, O.vals_map, Rs.of_some, Rs.ok_bind, h2]
  rfl
def nm (w : Str) : Bool := (decide (1 ≤ (w.length : Int)) && decide ((w.length : Int) ≤ 8)) && (w.cps.toList.map fun c => decide (c ∈ sLet.cps.toList)).all id
theorem name_str (w : Str) (hw : w.length ≤ 20) : ∃ x, fn_is_name [.val (.str w)] = .ok (.val (.bool (nm w)), [x]) := by
  refine ⟨.val (.str w), ?_⟩
  have vl : oLen [.val (.str w)] = .ok (.val (.int (w.length : Int))) := v_len (by omega)
  have ch : eChain oLe oLe (lTwo (eCst (.int 1)) true (eOp oLen (lCons (eVar 0) true lNil))) true (eCst (.int 8)) [.val (.str w), .hole] = .ok (.val (.bool (decide (1 ≤ (w.length : Int)) && decide ((w.length : Int) ≤ 8))), [.val (.str w), .hole]) :=
    chain_val (x := .int 1) (y := .int w.length) (z := .int 8) (by simp [vl]) (by simp) (by simp) (by simp)
  have it : itemsD (.str w) = some (w.cps.toList.map fun c => .str (one c)) := rfl
  have wl : w.cps.toList.length ≤ 20 := by
    have : w.length = w.cps.size := rfl
    simp; omega
  have lc := lc_in (v := .val (.str w)) w.cps.toList [] (by simp at wl ⊢; omega)
  have ab := all_bools (w.cps.toList.map fun c => decide (c ∈ sLet.cps.toList))
  have ty : isTy "str" (.str w) = true := rfl
  simp only [List.map_nil, List.nil_append] at lc
  unfold fn_is_name
  rw [v_fn]
  unfold nm
  generalize (w.cps.toList.map fun c => decide (c ∈ sLet.cps.toList)) = bs at lc ab ⊢
  generalize bs.all id = B at ab ⊢
  generalize (bs.map fun b => O.val (.bool b)) = os at lc ab ⊢
  cases hb : (decide (1 ≤ (w.length : Int)) && decide ((w.length : Int) ≤ 8)) with
  | false =>
    rw [hb] at ch
    simp [sm_is_name, ty, ch, truthO, truthD]
  | true =>
    rw [hb] at ch
    simp [sm_is_name, sm_is_name_1, ty, ch, truthO, truthD, it, lc, ab]
theorem eq_nil (fs : List Nat) : oEq [.lst (fs.map fun c => .val (.str (one c))), .lst []] = .ok (.val (.bool fs.isEmpty)) := by
  have pl : ∀ cs : List Nat, PyData.plainAll (cs.map fun c => .str (one c)) = true := by
    intro cs
    induction cs with
    | nil => rfl
    | cons c cs ih => rw [List.map_cons, PyData.plainAll, ih]; rfl
  have fz : O.froz (.lst (fs.map fun c => .val (.str (one c)))) = some (.list (fs.map fun c => .str (one c))) := by
    have : (fs.map fun c => O.val (.str (one c))) = (fs.map fun c => PyData.str (one c)).map O.val := by rw [List.map_map]; rfl
    rw [this, O.froz_lst_val]
  show (Rs.of (O.froz (.lst (fs.map fun c => .val (.str (one c)))))).bind _ = _
  rw [fz, Rs.of_some, Rs.ok_bind, O.froz_nil, Rs.of_some, Rs.ok_bind]
  have ok : eqOk (.list (fs.map fun c => .str (one c))) (.list []) = true := by
    unfold eqOk
    have h1 : PyData.plain (.list (fs.map fun c => .str (one c))) = true := by rw [PyData.plain]; exact pl _
    have h2 : (PyData.list []).depth = 1 := rfl
    rw [h1, h2]
    have h3 : min (PyData.list (fs.map fun c => .str (one c))).depth 1 ≤ 64 := Nat.le_trans (Nat.min_le_right _ _) (by decide)
    rw [decide_eq_true h3]
    rfl
  rw [ok]
  cases fs <;> rfl
theorem lc_due {v : O} : ∀ (cs fs : List Nat), fs.length + cs.length < 1000 →
    lcN [1] (.nm 1) (cB (eOp oLt (lTwo (eMeth "str" oFind (eCst (.str sLet)) true (lCons (eVar 1) true lNil)) true (eCst (.int 0))))) (eVar 1) (cs.map fun c => .str (one c)) (fs.map fun c => .val (.str (one c))) [v, .hole] =
      .ok ((fs ++ cs.filter fun c => !decide (c ∈ sLet.cps.toList)).map (fun c => .val (.str (one c))), [v, .hole])
  | [], fs, _ => by simp
  | c :: cs, fs, hl => by
    simp at hl
    have ll : fs.length < 16777216 := by omega
    have fo : oFind [.val (.str sLet), .val (.str (one c))] = .ok (.val (.int (PySem.Txt.find sLet (one c)))) := rfl
    have lt : oLt [.val (.int (PySem.Txt.find sLet (one c))), .val (.int 0)] = .ok (.val (.bool (!decide (c ∈ sLet.cps.toList)))) := by
      rw [← find_one c sLet]; rfl
    rw [List.map_cons, v_lcN]
    by_cases hc : c ∈ sLet.cps.toList
    · have ih := lc_due (v := v) cs fs (by omega)
      rw [decide_eq_true hc] at lt
      rw [List.filter_cons_of_neg (by simpa using hc)]
      simp [fo, lt, -v_lt, tyO, tyName]
      simp at ih
      exact ih
    · have ih := lc_due (v := v) cs (fs ++ [c]) (by simp; omega)
      rw [decide_eq_false hc] at lt
      rw [List.filter_cons_of_pos (by simpa using hc)]
      simp [fo, lt, -v_lt, tyO, tyName, ll]
      simp at ih
      exact ih
theorem str_nil (w : Str) : decide (w = Str.ofString "") = decide (w.length = 0) := by
  obtain ⟨a⟩ := w
  have : (⟨a⟩ : Str) = Str.ofString "" ↔ Str.length ⟨a⟩ = 0 := by
    constructor
    · intro h; rw [h]; decide
    · intro h
      have : a = #[] := Array.eq_empty_of_size_eq_zero h
      rw [this]; rfl
  exact decide_eq_decide.mpr this
theorem due_str (w : Str) (hw : w.length ≤ 20) : ∃ x, fn__law_due [.val (.str w)] = .ok (.val (.bool (nm w)), [x]) := by
  refine ⟨.val (.str w), ?_⟩
  have vl : oLen [.val (.str w)] = .ok (.val (.int (w.length : Int))) := v_len (by omega)
  have it : itemsD (.str w) = some (w.cps.toList.map fun c => .str (one c)) := rfl
  have wl : w.cps.toList.length ≤ 20 := by
    have : w.length = w.cps.size := rfl
    simp; omega
  have lc := lc_due (v := .val (.str w)) w.cps.toList [] (by simp at wl ⊢; omega)
  simp only [List.map_nil, List.nil_append] at lc
  have en := eq_nil (w.cps.toList.filter fun c => !decide (c ∈ sLet.cps.toList))
  have ty : isTy "str" (.str w) = true := rfl
  have es : oEq [.val (.str w), .val (.str (Str.ofString ""))] = .ok (.val (.bool (decide (w.length = 0)))) := by rw [v_eqS, str_nil]
  have eb : (w.cps.toList.filter fun c => !decide (c ∈ sLet.cps.toList)).isEmpty = (w.cps.toList.map fun c => decide (c ∈ sLet.cps.toList)).all id := by
    generalize w.cps.toList = cs
    induction cs with
    | nil => rfl
    | cons c cs ih =>
      by_cases hc : c ∈ sLet.cps.toList
      · rw [List.filter_cons_of_neg (by simpa using hc), ih, List.map_cons, decide_eq_true hc]; rfl
      · rw [List.filter_cons_of_pos (by simpa using hc), List.map_cons, decide_eq_false hc]; rfl
  unfold fn__law_due
  rw [v_fn]
  unfold nm
  rw [← eb]
  generalize (w.cps.toList.filter fun c => !decide (c ∈ sLet.cps.toList)) = fs at lc en ⊢
  generalize fs.isEmpty = B at en ⊢
  generalize (fs.map fun c => O.val (.str (one c))) = os at lc en ⊢
  by_cases h0 : w.length = 0
  · have e1 : decide (1 ≤ (w.length : Int)) = false := decide_eq_false (by omega)
    rw [decide_eq_true h0] at es
    rw [e1]
    simp [sm__law_due, ty, es, truthO, truthD]
  · have e1 : decide (1 ≤ (w.length : Int)) = true := decide_eq_true (by omega)
    rw [decide_eq_false h0] at es
    rw [e1]
    by_cases h8 : (w.length : Int) ≤ 8
    · have g8 : ¬ (8 : Int) < (w.length : Int) := by omega
      rw [decide_eq_true h8]
      simp [sm__law_due, sm__law_due_1, ty, es, vl, g8, truthO, truthD, it, lc, en]
    · have g8 : (8 : Int) < (w.length : Int) := by omega
      rw [decide_eq_false h8]
      simp [sm__law_due, ty, es, vl, g8, truthO, truthD]
structure Good (it : PyData) : Prop where
  ex : ∃ b x y, fn__law_due [.val it] = .ok (.val (.bool b), [x]) ∧ fn_is_name [.val it] = .ok (.val (.bool b), [y])
  rp : oRepr [.val it] = .ok (.val (.str it.shown))
theorem repr_ok {d : PyData} (h1 : PyData.showable d = true) (h2 : d.depth ≤ 64) (h3 : d.shown.length ≤ 16777216) : oRepr [.val d] = .ok (.val (.str d.shown)) := by
  unfold oRepr
  dsimp only
  rw [O.froz_val, Rs.of_some, Rs.ok_bind]
  have : (PyData.showable d && (decide (d.depth ≤ 64) && fits d.shown.length)) = true := by
    rw [h1, decide_eq_true h2, show fits d.shown.length = true from decide_eq_true h3]; rfl
  rw [this]; rfl
theorem good_str {w : Str} (hw : w.length ≤ 20) (aw : Asc w) : Good (.str w) := by
  obtain ⟨x, e1⟩ := due_str w hw
  obtain ⟨y, e2⟩ := name_str w hw
  refine ⟨⟨nm w, x, y, e1, e2⟩, repr_ok rfl (show 0 ≤ 64 by decide) ?_⟩
  have := StrLaws.reprText_len w fun c hc => Nat.lt_trans (aw c hc) (by decide)
  show (reprText w).length ≤ _
  omega
theorem good_other {d : PyData} (ty : isTy "str" d = false) (rp : oRepr [.val d] = .ok (.val (.str d.shown))) : Good d := by
  refine ⟨⟨false, .val d, .val d, ?_, ?_⟩, rp⟩
  · unfold fn__law_due
    rw [v_fn]
    simp [sm__law_due, ty, truthO, truthD]
  · unfold fn_is_name
    rw [v_fn]
    simp [sm_is_name, ty, truthO, truthD]
theorem callK_val {F : Fn} {l : LF} {e : Ev.Env} {d : PyData} {r : O} {x : List O} (h1 : l e = .ok ([.val d], e)) (h2 : F [.val d] = .ok (r, x)) : eCallK F [0] l e = .ok (mkW r, e) := by
  unfold eCallK
  rw [h1, Rs.ok_bind]
  dsimp only
  rw [show frozLW [W.val d] e = .ok ([d], e) from rfl, Rs.ok_bind]
  dsimp only
  rw [show Ev.pickD [d] [0] = some [O.val d] from rfl, Rs.of_some, Rs.ok_bind, h2]
  rfl
theorem rep3 (b : Bool) : ∃ t : Str, oRepr [.lst [.val (.bool b), .val (.bool b), .val (.bool b)]] = .ok (.val (.str t)) := by
  refine ⟨PyData.shown (.list [.bool b, .bool b, .bool b]), ?_⟩
  unfold oRepr
  dsimp only
  have fz : O.froz (.lst [.val (.bool b), .val (.bool b), .val (.bool b)]) = some (.list [.bool b, .bool b, .bool b]) := O.froz_lst_val [.bool b, .bool b, .bool b]
  rw [fz, Rs.of_some, Rs.ok_bind]
  have : (PyData.showable (.list [.bool b, .bool b, .bool b]) && (decide ((PyData.list [.bool b, .bool b, .bool b]).depth ≤ 64) && fits (PyData.shown (.list [.bool b, .bool b, .bool b])).length)) = true := by
    cases b <;> decide +kernel
  rw [this]; rfl
theorem mul3 (b : Bool) : oMul [.lst [.val (.bool b)], .val (.int 3)] = .ok (.lst [.val (.bool b), .val (.bool b), .val (.bool b)]) := by
  cases b <;> rfl
theorem turn_ok {it : PyData} (g : Good it) {a d c k w x6 x7 : O} : ∃ y6 y7, sm_law_4 [a, d, c, k, w, .val it, x6, x7] = .ok (.nx, [a, d, c, k, w, .val it, y6, y7]) := by
  obtain ⟨⟨b, x, y, e1, e2⟩, rp⟩ := g
  obtain ⟨t, r3⟩ := rep3 b
  have m3 := mul3 b
  refine ⟨.val (.str it.shown), .val (.bool b), ?_⟩
  have ck : eCallK fn_is_name [0] (lCons (eVar 5) true lNil) [a, d, c, k, w, .val it, .val (.str it.shown), .val (.bool b)] = .ok (W.val (.bool b), [a, d, c, k, w, .val it, .val (.str it.shown), .val (.bool b)]) :=
    callK_val (d := it) (by simp) e2
  simp [sm_law_4, sm_law_3, rp, e1, e2, ck, r3, m3, v_neS]
theorem turns_ok {a d c k w : O} : ∀ (its : List PyData) (x5 x6 x7 : O), (∀ it ∈ its, Good it) → ∃ e, forN [0] (.nm 5) sm_law_4 its [a, d, c, k, w, x5, x6, x7] = .ok (.nx, a :: e)
  | [], x5, x6, x7, _ => ⟨_, rfl⟩
  | it :: its, x5, x6, x7, h => by
    obtain ⟨y6, y7, e⟩ := turn_ok (h it (by simp)) (a := a) (d := d) (c := c) (k := k) (w := w) (x6 := x6) (x7 := x7)
    obtain ⟨e2, h2⟩ := turns_ok (a := a) (d := d) (c := c) (k := k) (w := w) its (.val it) y6 y7 fun j hj => h j (List.mem_cons_of_mem _ hj)
    refine ⟨e2, ?_⟩
    rw [v_for]
    simp [e, h2]
theorem add_lst {as bs : List PyData} (h : as.length + bs.length ≤ 16777216) : oAdd [.lst (as.map O.val), .lst (bs.map O.val)] = .ok (.lst ((as ++ bs).map O.val)) := by
  show (Rs.of (O.vals (as.map O.val))).bind _ = _
  rw [O.vals_map, Rs.of_some, Rs.ok_bind]
  show (Rs.of (O.vals (bs.map O.val))).bind _ = _
  rw [O.vals_map, Rs.of_some, Rs.ok_bind]
  unfold catL
  rw [show fits (as.length + bs.length) = true from decide_eq_true h]
  rfl
theorem words_ok {a h5 h6 h7 : O} : ∀ (ds : List PyData) (its : List PyData) (d : O) (n : Int) (x3 x4 : O), Dk n d → n + 30 * ds.length < 80000 → its.length + 2 * ds.length < 1000 → (∀ it ∈ its, Good it) →
    ∃ (d' : O) (its' : List PyData) (y3 y4 : O), its'.length = its.length + 2 * ds.length ∧ (∀ it ∈ its', Good it) ∧ forN [0] (.nm 3) sm_law_2 ds [a, d, .lst (its.map O.val), x3, x4, h5, h6, h7] = .ok (.nx, [a, d', .lst (its'.map O.val), y3, y4, h5, h6, h7])
  | [], its, d, n, x3, x4, _, _, _, g => ⟨d, its, x3, x4, by simp, g, rfl⟩
  | x :: ds, its, d, n, x3, x4, h, hn, hl, g => by
    simp at hn hl
    obtain ⟨d1, w, h1, e1, lw, aw⟩ := string_ok h (by omega)
    obtain ⟨d2, w2, h2, e2, lw2, aw2⟩ := bent_ok h1 (by omega) lw aw
    have gg : ∀ it ∈ its ++ [.str w, .str w2], Good it := fun it hi => by
      rcases List.mem_append.mp hi with z | z
      · exact g it z
      · rcases List.mem_cons.mp z with z | z
        · rw [z]; exact good_str (by omega) aw
        · have : it = .str w2 := by simpa using z
          rw [this]; exact good_str lw2 aw2
    obtain ⟨d', its', y3, y4, li, gi, e3⟩ := words_ok (a := a) (h5 := h5) (h6 := h6) (h7 := h7) ds (its ++ [.str w, .str w2]) d2 (n + 20 + 3) (.val x) (.val (.str w)) h2 (by omega) (by simp; omega) gg
    refine ⟨d', its', y3, y4, by simp at li ⊢; omega, gi, ?_⟩
    have ad := add_lst (as := its) (bs := [.str w, .str w2]) (by simp; omega)
    obtain ⟨p1, p2, p3, rfl, _⟩ := id h
    obtain ⟨q1, q2, q3, rfl, _⟩ := id h1
    obtain ⟨r1, r2, r3, rfl, _⟩ := id h2
    simp only [dk, List.map_cons, List.map_nil] at e1 e2 e3 ad ⊢
    rw [v_for]
    simp [sm_law_2, sm_law_1, e1, e2, ad]
    simp at e3
    exact e3
def C1 : List PyData := [.str "", .str "a", .str "z", .str "abcdefgh", .str "abcdefghi", .str "A", .str "a b", .str " a", .str "a ", .str "a\n", .str "main", .str "n", .str "`", .str "{"]
def C2 : List PyData := [.none, .bool true, .bool false, .int 0, .int 1, .int (-1), .int (10 ^ 39), .tuple [], .tuple [.str "a"], .list [], .list [.str "a"], .dict [], .dict [(.str "a", .str "b")], .tuple [.tuple [.str "a"]], .list [.tuple [.str "a", .int 1]]]
theorem c1_good : ∀ it ∈ C1, Good it := by
  intro it hi
  unfold C1 at hi
  simp only [List.mem_cons, List.not_mem_nil, or_false] at hi
  rcases hi with rfl | rfl | rfl | rfl | rfl | rfl | rfl | rfl | rfl | rfl | rfl | rfl | rfl | rfl <;> exact good_str (by decide) (by unfold Asc; decide)
theorem c2_good : ∀ it ∈ C2, Good it := by
  intro it hi
  unfold C2 at hi
  simp only [List.mem_cons, List.not_mem_nil, or_false] at hi
  rcases hi with rfl | rfl | rfl | rfl | rfl | rfl | rfl | rfl | rfl | rfl | rfl | rfl | rfl | rfl | rfl <;> exact good_other rfl (repr_ok (by decide +kernel) (by decide +kernel) (by decide +kernel))
theorem dct1 (e : Ev.Env) : eDct [((eCst (.str "a")), (eCst (.str "b")))] e = .ok (.own (.dct [(.str "a", .val (.str "b"))]), e) := rfl
theorem law8 {its : List PyData} (hl : its.length < 1000) {a d x3 x4 x5 x6 x7 : O} : sm_law_8 [a, d, .lst (its.map O.val), x3, x4, x5, x6, x7] = sm_law_7 [a, d, .lst ((its ++ C1).map O.val), x3, x4, x5, x6, x7] := by
  have ad := add_lst (as := its) (bs := C1) (by have : C1.length = 14 := rfl; omega)
  generalize (its ++ C1).map O.val = r at ad ⊢
  unfold C1 at ad
  simp only [List.map_cons, List.map_nil] at ad
  simp [sm_law_8, ad]
theorem law7 {its : List PyData} (hl : its.length < 1100) {a d x3 x4 x5 x6 x7 : O} : sm_law_7 [a, d, .lst (its.map O.val), x3, x4, x5, x6, x7] = sm_law_6 [a, d, .lst ((its ++ C2).map O.val), x3, x4, x5, x6, x7] := by
  have ad : oAdd [.lst (its.map O.val), .val (.list C2)] = .ok (.lst ((its ++ C2).map O.val)) := by
    show (Rs.of (O.vals (its.map O.val))).bind _ = _
    rw [O.vals_map, Rs.of_some, Rs.ok_bind]
    show (Rs.of (some C2)).bind _ = _
    rw [Rs.of_some, Rs.ok_bind]
    unfold catL
    rw [show fits (its.length + C2.length) = true from decide_eq_true (by have : C2.length = 15 := rfl; omega)]
    rfl
  generalize (its ++ C2).map O.val = r at ad ⊢
  unfold C2 at ad
  simp at ad
  simp [sm_law_7, dct1, O.froz, O.frozL, O.frozK, ad]
theorem law_true : ∀ ns : List Int, ns.length ≤ 63 → ∃ os', fn_law [.val (.list (ns.map PyData.int))] = .ok (.val (.bool true), os') := by
  intro ns hn
  obtain ⟨d, x, hd, e1⟩ := dealt_ok ns hn
  have l40 : (rangeD 0 40).length = 40 := rfl
  obtain ⟨d', its, y3, y4, li, gi, e2⟩ := words_ok (a := .val (.list (ns.map PyData.int))) (h5 := .hole) (h6 := .hole) (h7 := .hole) (rangeD 0 40) [] d 0 .hole .hole hd (by rw [l40]; decide) (by rw [l40]; decide) (fun it hi => by cases hi)
  have ll : its.length = 80 := by rw [li, l40]; rfl
  obtain ⟨e, e3⟩ := turns_ok (a := .val (.list (ns.map PyData.int))) (d := d') (c := .val (.list (its ++ C1 ++ C2))) (k := y3) (w := y4) (its ++ C1 ++ C2) .hole .hole .hole fun it hi => by
    rcases List.mem_append.mp hi with z | z
    · rcases List.mem_append.mp z with z | z
      · exact gi it z
      · exact c1_good it z
    · exact c2_good it z
  have g8 := law8 (its := its) (by omega) (a := .val (.list (ns.map PyData.int))) (d := d') (x3 := y3) (x4 := y4) (x5 := .hole) (x6 := .hole) (x7 := .hole)
  have g7 := law7 (its := its ++ C1) (by simp [ll, C1]) (a := .val (.list (ns.map PyData.int))) (d := d') (x3 := y3) (x4 := y4) (x5 := .hole) (x6 := .hole) (x7 := .hole)
  have fz : (O.lst ((its ++ C1 ++ C2).map O.val)).froz = some (.list (its ++ C1 ++ C2)) := O.froz_lst_val _
  have it : itemsD (.list (its ++ C1 ++ C2)) = some (its ++ C1 ++ C2) := rfl
  generalize its ++ C1 ++ C2 = all at *
  generalize its ++ C1 = some1 at *
  generalize hns : PyData.list (ns.map PyData.int) = S at *
  obtain ⟨cs, st, tn, rfl, _⟩ := id hd
  simp only [dk, List.map_nil] at e1 e2
  generalize all.map O.val = L at *
  refine ⟨[.val S], ?_⟩
  unfold fn_law
  rw [v_fn]
  simp [sm_law, sm_law_10, sm_law_9, e1, e2, g8, g7, sm_law_6, sm_law_5, fz, it, e3]
end K01

set_option Elab.async false
set_option linter.all false
set_option maxRecDepth 100000
set_option maxHeartbeats 4000000
namespace K01
open PySem PySem.Spec PyProof.Rows L2 Ev
theorem all_mk {l : PySem.W.OpenLaw} {w : World} {K : PySem.W.Frag} {h : Heap} {mg : Str → Option Value} {fa : Addr} (X : K.In h) (G : h.Ns mainGlobals mg) (hfa : mg "law" = some (.ref fa))
    {od0 an0 : Option Addr} {sl0 : Array (Option Value)} {f0 : Addr} {oc0 kV0 dc0 pm0 cd0 ct0 : Value}
    {od1 an1 : Option Addr} {sl1 : Array (Option Value)} {f1 : Addr} {oc1 kV1 dc1 pm1 cd1 ct1 : Value}
    {od2 an2 : Option Addr} {sl2 : Array (Option Value)} {f2 : Addr} {oc2 kV2 dc2 pm2 cd2 ct2 : Value}
    {od3 an3 : Option Addr} {sl3 : Array (Option Value)} {f3 : Addr} {oc3 kV3 dc3 pm3 cd3 ct3 : Value}
    {od4 an4 : Option Addr} {sl4 : Array (Option Value)} {f4 : Addr} {oc4 kV4 dc4 pm4 cd4 ct4 : Value}
    {od5 an5 : Option Addr} {sl5 : Array (Option Value)} {f5 : Addr} {oc5 kV5 dc5 pm5 cd5 ct5 : Value}
    {od6 an6 : Option Addr} {sl6 : Array (Option Value)} {f6 : Addr} {oc6 kV6 dc6 pm6 cd6 ct6 : Value}
    {od7 an7 : Option Addr} {sl7 : Array (Option Value)} {f7 : Addr} {oc7 kV7 dc7 pm7 cd7 ct7 : Value}
    (a0 : PySem.W.nsIn K mainGlobals "_law_draw" = some (some (.ref f0))) (l0 : K.lookup f0 = some ⟨oc0, od0, .func (PySem.W.fnOf "_law_draw" "_law_draw" (C8.fnArgs st__law_draw) (C8.fnBody st__law_draw) (C8.fnScope st__law_draw) .none kV0 dc0 pm0 an0 cd0 ct0), sl0⟩) (c0 : PySem.W.codeIn K cd0 "_law_draw" = true) (k0 : PySem.W.keepIn K (.ref f0) = true)
    (a1 : PySem.W.nsIn K mainGlobals "_law_pick" = some (some (.ref f1))) (l1 : K.lookup f1 = some ⟨oc1, od1, .func (PySem.W.fnOf "_law_pick" "_law_pick" (C8.fnArgs st__law_pick) (C8.fnBody st__law_pick) (C8.fnScope st__law_pick) .none kV1 dc1 pm1 an1 cd1 ct1), sl1⟩) (c1 : PySem.W.codeIn K cd1 "_law_pick" = true) (k1 : PySem.W.keepIn K (.ref f1) = true)
    (a2 : PySem.W.nsIn K mainGlobals "_law_bent" = some (some (.ref f2))) (l2 : K.lookup f2 = some ⟨oc2, od2, .func (PySem.W.fnOf "_law_bent" "_law_bent" (C8.fnArgs st__law_bent) (C8.fnBody st__law_bent) (C8.fnScope st__law_bent) .none kV2 dc2 pm2 an2 cd2 ct2), sl2⟩) (c2 : PySem.W.codeIn K cd2 "_law_bent" = true) (k2 : PySem.W.keepIn K (.ref f2) = true)
    (a3 : PySem.W.nsIn K mainGlobals "_law_dealt" = some (some (.ref f3))) (l3 : K.lookup f3 = some ⟨oc3, od3, .func (PySem.W.fnOf "_law_dealt" "_law_dealt" (C8.fnArgs st__law_dealt) (C8.fnBody st__law_dealt) (C8.fnScope st__law_dealt) .none kV3 dc3 pm3 an3 cd3 ct3), sl3⟩) (c3 : PySem.W.codeIn K cd3 "_law_dealt" = true) (k3 : PySem.W.keepIn K (.ref f3) = true)
    (a4 : PySem.W.nsIn K mainGlobals "_law_due" = some (some (.ref f4))) (l4 : K.lookup f4 = some ⟨oc4, od4, .func (PySem.W.fnOf "_law_due" "_law_due" (C8.fnArgs st__law_due) (C8.fnBody st__law_due) (C8.fnScope st__law_due) .none kV4 dc4 pm4 an4 cd4 ct4), sl4⟩) (c4 : PySem.W.codeIn K cd4 "_law_due" = true) (k4 : PySem.W.keepIn K (.ref f4) = true)
    (a5 : PySem.W.nsIn K mainGlobals "_law_string" = some (some (.ref f5))) (l5 : K.lookup f5 = some ⟨oc5, od5, .func (PySem.W.fnOf "_law_string" "_law_string" (C8.fnArgs st__law_string) (C8.fnBody st__law_string) (C8.fnScope st__law_string) .none kV5 dc5 pm5 an5 cd5 ct5), sl5⟩) (c5 : PySem.W.codeIn K cd5 "_law_string" = true) (k5 : PySem.W.keepIn K (.ref f5) = true)
    (a6 : PySem.W.nsIn K mainGlobals "is_name" = some (some (.ref f6))) (l6 : K.lookup f6 = some ⟨oc6, od6, .func (PySem.W.fnOf "is_name" "is_name" (C8.fnArgs st_is_name) (C8.fnBody st_is_name) (C8.fnScope st_is_name) .none kV6 dc6 pm6 an6 cd6 ct6), sl6⟩) (c6 : PySem.W.codeIn K cd6 "is_name" = true) (k6 : PySem.W.keepIn K (.ref f6) = true)
    (a7 : PySem.W.nsIn K mainGlobals "law" = some (some (.ref f7))) (l7 : K.lookup f7 = some ⟨oc7, od7, .func (PySem.W.fnOf "law" "law" (C8.fnArgs st_law) (C8.fnBody st_law) (C8.fnScope st_law) .none kV7 dc7 pm7 an7 cd7 ct7), sl7⟩) (c7 : PySem.W.codeIn K cd7 "law" = true) (k7 : PySem.W.keepIn K (.ref f7) = true)
    (z0 : PySem.W.nsIn K mainGlobals "all" = some none)
    (z1 : PySem.W.nsIn K mainGlobals "isinstance" = some none)
    (z2 : PySem.W.nsIn K mainGlobals "len" = some none)
    (z3 : PySem.W.nsIn K mainGlobals "list" = some none)
    (z4 : PySem.W.nsIn K mainGlobals "range" = some none)
    (z5 : PySem.W.nsIn K mainGlobals "repr" = some none)
    (z6 : PySem.W.nsIn K mainGlobals "str" = some none)
    {t0 : Tok} (v0 : PySem.W.nsIn K mainGlobals "LETTERS" = some (some (.str "abcdefghijklmnopqrstuvwxyz" t0)))
    {t1 : Tok} (v1 : PySem.W.nsIn K mainGlobals "LONGEST_NAME" = some (some (.int (8) t1))) :
    ∃ fd : FuncData, (∀ (s : Shared) (u : Value), BindsTo s fd ⟨[u], []⟩ [("_law_script", u)]) ∧ ∀ base : Heap, K.In base → base.Ns mainGlobals mg → (∃ mm, base.Ns sysModules mm) → FnG l.prog w K mg base 4 fa fd ["_law_script"] fn_law := by
  have T : Tb K mg := ⟨PySem.W.mg_none_of X G z0, PySem.W.mg_none_of X G z1, PySem.W.mg_none_of X G z2, PySem.W.mg_none_of X G z3, PySem.W.mg_none_of X G z4, PySem.W.mg_none_of X G z5, PySem.W.mg_none_of X G z6, ⟨t0, PySem.W.mg_of X G v0⟩, ⟨t1, PySem.W.mg_of X G v1⟩, ⟨f0, oc0, od0, kV0, dc0, pm0, an0, cd0, ct0, sl0, l0, c0, PySem.W.mg_of X G a0, k0⟩, ⟨f1, oc1, od1, kV1, dc1, pm1, an1, cd1, ct1, sl1, l1, c1, PySem.W.mg_of X G a1, k1⟩, ⟨f2, oc2, od2, kV2, dc2, pm2, an2, cd2, ct2, sl2, l2, c2, PySem.W.mg_of X G a2, k2⟩, ⟨f3, oc3, od3, kV3, dc3, pm3, an3, cd3, ct3, sl3, l3, c3, PySem.W.mg_of X G a3, k3⟩, ⟨f4, oc4, od4, kV4, dc4, pm4, an4, cd4, ct4, sl4, l4, c4, PySem.W.mg_of X G a4, k4⟩, ⟨f5, oc5, od5, kV5, dc5, pm5, an5, cd5, ct5, sl5, l5, c5, PySem.W.mg_of X G a5, k5⟩, ⟨f6, oc6, od6, kV6, dc6, pm6, an6, cd6, ct6, sl6, l6, c6, PySem.W.mg_of X G a6, k6⟩, ⟨f7, oc7, od7, kV7, dc7, pm7, an7, cd7, ct7, sl7, l7, c7, PySem.W.mg_of X G a7, k7⟩⟩
  refine law_fg T.d_law (fun base sy => ?_) hfa bd_law
  have o__law_draw := ok__law_draw (P := l.prog) (w := w) (base := base) T sy
  have o__law_pick := ok__law_pick (P := l.prog) (w := w) (base := base) T sy o__law_draw
  have o__law_bent := ok__law_bent (P := l.prog) (w := w) (base := base) T sy o__law_draw o__law_pick
  have o__law_dealt := ok__law_dealt (P := l.prog) (w := w) (base := base) T sy
  have o__law_due := ok__law_due (P := l.prog) (w := w) (base := base) T sy
  have o__law_string := ok__law_string (P := l.prog) (w := w) (base := base) T sy o__law_draw o__law_pick
  have o_is_name := ok_is_name (P := l.prog) (w := w) (base := base) T sy
  have o_law := ok_law (P := l.prog) (w := w) (base := base) T sy o__law_bent o__law_dealt o__law_due o__law_string o_is_name
  exact o_law
end K01
open PySem PySem.W PyProof.Rows
set_option maxHeartbeats 0 in
theorem PySem.Challenge.cw_farstride_k01_names_of_any_values_holds : PySem.Challenge.rw_farstride_k01_names_of_any_values.Holds := by
  w_on; o_law; k_head; (case hw => w_witness2)
  k_fill
  refine Ev.law_walk (l := PySem.Challenge.rw_farstride_k01_names_of_any_values) (n := 63) (k := 4) (x := "_law_script") (F := K01.fn_law) rfl (by decide) rfl ⟨rfl, by decide, by decide⟩ (fun w h Y => PySem.W.kIn_of Y) ?F (by decide +kernel) K01.law_true
  case F =>
    intro w mg fa h KX G hmg
    refine' K01.all_mk KX G hmg ?a0 ?l0 ?c0 ?k0 ?a1 ?l1 ?c1 ?k1 ?a2 ?l2 ?c2 ?k2 ?a3 ?l3 ?c3 ?k3 ?a4 ?l4 ?c4 ?k4 ?a5 ?l5 ?c5 ?k5 ?a6 ?l6 ?c6 ?k6 ?a7 ?l7 ?c7 ?k7 ?z0 ?z1 ?z2 ?z3 ?z4 ?z5 ?z6 ?v0 ?v1
    (case a0 => k_is); (case l0 => k_is); (case c0 => k_is); (case k0 => k_is); (case a1 => k_is); (case l1 => k_is); (case c1 => k_is); (case k1 => k_is); (case a2 => k_is); (case l2 => k_is); (case c2 => k_is); (case k2 => k_is); (case a3 => k_is); (case l3 => k_is); (case c3 => k_is); (case k3 => k_is); (case a4 => k_is); (case l4 => k_is); (case c4 => k_is); (case k4 => k_is); (case a5 => k_is); (case l5 => k_is); (case c5 => k_is); (case k5 => k_is); (case a6 => k_is); (case l6 => k_is); (case c6 => k_is); (case k6 => k_is); (case a7 => k_is); (case l7 => k_is); (case c7 => k_is); (case k7 => k_is); (case z0 => k_is); (case z1 => k_is); (case z2 => k_is); (case z3 => k_is); (case z4 => k_is); (case z5 => k_is); (case z6 => k_is); (case v0 => k_is); (case v1 => k_is)

