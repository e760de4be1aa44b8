import PyProof.Rows.All
import HandS.List
import Wide.All
import OpenK.AllK
import Wide.FinOn
import HandS.ForMost
import HandS.Exc
import HandS.TryOnly
import HandS.ExcOwn
import HandS.WordsExc
import HandS.HeadHook1
import HandS.Slots
import HandS.Wide
import HandS.IsInst
import HandS.RaiseMore
import HandS.TupAny
import HandS.Defaults
import HandS.Star
import HandS.Style
import HandS.Head0
import HandS.Head1
import HandS.Head2
import HandS.Head3
import HandS.HeadEnd
import HandS.HeadHook2
import HandS.Property
import HandS.ClsMeth
import HandS.CallRecv
import HandS.SlotsOwn
import HandS.Gcd
import HandS.MakeKwOnly
import KE.KMathG
import HandS.Iter
import KE.GoesEnum
import HandS.Conv
import KE.KRevSl
import HandS.SetKeys
import HandS.ExcInit
import HandS.ExcSuper
import HandS.Nested
import HandS.Lambda
import HandS.HeadWalk
import KE.KExcSuper
import HandS.More
import HandS.OwnIter
import HandS.Small
import HandS.Flow
import HandS.TryMany
import HandS.ExcField
import KE.KExcIs
import PyProof.StrBlock2
import HandS.ExcValue
import PySem.Challenge.RW_unlookedlists_k06_errors
set_option Elab.async false
set_option linter.all false
set_option maxRecDepth 100000
set_option maxHeartbeats 4000000

namespace DL
open PySem

abbrev Ky : Type := Int ⊕ Str
structure LamI where
  qual : Str
  params : Arguments
  body : Expr
  scope : Scope
  cap : Str
inductive D where
  | non | bl (b : Bool) | int (i : Int) | str (x : Str)
  | tup (xs : List D) | lst (xs : List D) | scr (xs : List D)
  | obj (c : Str) (xs : List D) | fn (f : Str) | dic (ks : List Ky) (xs : List D) | clo (L : LamI) (x : D)

inductive R (α : Type) where
  | ok (a : α) | exc (n : Str) (xs : List D) | bad
def R.bind {α β : Type} (r : R α) (f : α → R β) : R β := match r with
  | .ok a => f a
  | .exc n xs => .exc n xs
  | .bad => .bad
@[simp] theorem R.bind_ok {α β : Type} (a : α) (f : α → R β) : (R.ok a).bind f = f a := rfl
@[simp] theorem R.bind_exc {α β : Type} (n : Str) (xs : List D) (f : α → R β) : (R.exc n xs).bind f = .exc n xs := rfl
@[simp] theorem R.bind_bad {α β : Type} (f : α → R β) : (R.bad : R α).bind f = .bad := rfl

inductive DS where
  | un | fz (d : D) | ow (xs : List D) | ob (c : Str) (fs : List (Str × D)) | od (ks : List Ky) (xs : List D)
def DS.mutb : DS → Bool
  | .un => false
  | .fz _ => false
  | _ => true
abbrev DSt := List DS
abbrev FE := DSt → R D
abbrev FL := DSt → R (List D)
abbrev FB := DSt → R Bool

def fVar (i : Nat) : FE := fun δ => match δ[i]? with
  | some (.fz d) => .ok d
  | _ => .bad
def fC (d : D) : FE := fun _ => .ok d
def R.of {α : Type} (o : Option α) : R α := match o with
  | some a => .ok a
  | none => .bad
@[simp] theorem R.of_some {α : Type} (a : α) : R.of (some a) = .ok a := rfl
@[simp] theorem R.of_none {α : Type} : R.of (none : Option α) = .bad := rfl
def fU (F : D → Option D) (f : FE) : FE := fun δ => (f δ).bind fun x => R.of (F x)
def fB (F : D → D → Option D) (f g : FE) : FE := fun δ => (f δ).bind fun x => (g δ).bind fun y => R.of (F x y)
def fNil : FL := fun _ => .ok []
def fCons (f : FE) (fl : FL) : FL := fun δ => (f δ).bind fun x => (fl δ).bind fun xs => .ok (x :: xs)
def fL (F : List D → Option D) (fl : FL) : FE := fun δ => (fl δ).bind fun xs => R.of (F xs)
def fCall (F : List D → R D) (fl : FL) : FE := fun δ => (fl δ).bind F
def fTup (fl : FL) : FE := fL (fun xs => some (.tup xs)) fl
def fLst (fl : FL) : FE := fL (fun xs => some (.lst xs)) fl
def fIf (c : FB) (f g : FE) : FE := fun δ => (c δ).bind fun b => match b with
  | true => f δ
  | false => g δ
def fTest (f : FE) : FB := fun δ => (f δ).bind fun d => match d with
  | .bl b => .ok b
  | _ => .bad
def fTru (f : FE) : FB := fun δ => (f δ).bind fun d => match d with
  | .bl b => .ok b
  | .lst xs => .ok (!xs.isEmpty)
  | .tup xs => .ok (!xs.isEmpty)
  | _ => .bad
def fNotB (c : FB) : FB := fun δ => (c δ).bind fun b => .ok (!b)
def fAndB (c d : FB) : FB := fun δ => (c δ).bind fun b => match b with
  | true => d δ
  | false => .ok false
def fOrB (c d : FB) : FB := fun δ => (c δ).bind fun b => match b with
  | true => .ok true
  | false => d δ
def fVal (c : FB) : FE := fun δ => (c δ).bind fun b => .ok (.bl b)

def okLe (n : Nat) : Bool := decide (n ≤ sizeLine)
def okLt (n : Nat) : Bool := decide (n < sizeLine)
theorem okLe_of {n : Nat} (h : okLe n = true) : n ≤ sizeLine := of_decide_eq_true h
theorem okLt_of {n : Nat} (h : okLt n = true) : n < sizeLine := of_decide_eq_true h
theorem okLe_by {n : Nat} (h : n ≤ 16777216) : okLe n = true := decide_eq_true (by rw [sizeLine_eq]; exact h)
theorem okLt_by {n : Nat} (h : n < 16777216) : okLt n = true := decide_eq_true (by rw [sizeLine_eq]; exact h)
def lim (k : Nat) (i : Int) : Bool := Nat.blt i.natAbs (2 ^ k)
def mulOk (i j : Int) : Bool := lim 64 i || lim 64 j || (lim 400 i && lim 400 j)
def repOk (n : Nat) (k : Int) : Bool := lim 63 k && okLe (n * k.toNat)
def dAdd : D → D → Option D
  | .int i, .int j => some (.int (i + j))
  | .str x, .str y => if okLe (x.length + y.length) = true then some (.str (x ++ y)) else none
  | .lst xs, .lst ys => if okLe (xs.length + ys.length) = true then some (.lst (xs ++ ys)) else none
  | .tup [], .tup ys => some (.tup ys)
  | .tup (x :: xs), .tup ys => if okLe ((x :: xs).length + ys.length) = true then some (.tup (x :: xs ++ ys)) else none
  | _, _ => none
def dSub : D → D → Option D
  | .int i, .int j => some (.int (i - j))
  | _, _ => none
def dMul : D → D → Option D
  | .int i, .int j => if mulOk i j = true then some (.int (i * j)) else none
  | .lst xs, .int k => if repOk xs.length k = true then some (.lst (List.replicate k.toNat xs).flatten) else none
  | _, _ => none
def divOk (j : Int) : Bool := decide (0 < j) && lim 400 j
def dFdiv : D → D → Option D
  | .int i, .int j => if divOk j = true then some (.int (i / j)) else none
  | _, _ => none
def dMod : D → D → Option D
  | .int i, .int j => if 0 < j then some (.int (i % j)) else none
  | _, _ => none
def powOk (i j : Int) : Bool := decide (0 ≤ j ∧ j ≤ 1000000 ∧ i.natAbs < 2 ^ 64)
theorem powOk_of {i j : Int} (h : powOk i j = true) : 0 ≤ j ∧ j ≤ 1000000 ∧ i.natAbs < 2 ^ 64 := of_decide_eq_true h
def dPow : D → D → Option D
  | .int i, .int j => if powOk i j = true then some (.int (i ^ j.toNat)) else none
  | _, _ => none
def dNeg : D → Option D
  | .int i => some (.int (-i))
  | _ => none
def dLt : D → D → Option D
  | .int i, .int j => some (.bl (decide (i < j)))
  | _, _ => none
def dLe : D → D → Option D
  | .int i, .int j => some (.bl (decide (i ≤ j)))
  | _, _ => none
def dGt : D → D → Option D
  | .int i, .int j => some (.bl (decide (j < i)))
  | _, _ => none
def dGe : D → D → Option D
  | .int i, .int j => some (.bl (decide (j ≤ i)))
  | _, _ => none
def D.isNon : D → Bool
  | .non => true
  | _ => false
def dIsN : D → Option D := fun d => some (.bl d.isNon)
def dNotN : D → Option D := fun d => some (.bl (!d.isNon))

mutual
def D.py : D → Option PyData
  | .non => some .none
  | .bl b => some (.bool b)
  | .int i => some (.int i)
  | .str x => some (.str x)
  | .tup xs => (pyL xs).map .tuple
  | .lst xs => (pyL xs).map .list
  | _ => none
def pyL : List D → Option (List PyData)
  | [] => some []
  | d :: ds => match d.py, pyL ds with
    | some a, some as => some (a :: as)
    | _, _ => none
end
def dEqP (d e : D) : Option Bool := match d.py, e.py with
  | some a, some b => if (SeqAt.shaped a && SeqAt.shaped b) = true then some (PyData.eqv a b) else none
  | _, _ => none
def dEqB (d e : D) : Option Bool := match d, e with
  | .str x, .str y => some (x == y)
  | .int i, .int j => some (i == j)
  | d, e => dEqP d e
def dEq (d e : D) : Option D := (dEqB d e).map .bl
def dNe (d e : D) : Option D := (dEqB d e).map fun b => .bl (!b)
def D.flat : D → Bool
  | .non => true
  | .bl _ => true
  | .int _ => true
  | .str _ => true
  | _ => false
def flatEq : D → D → Bool
  | .non, .non => true
  | .bl a, .bl b => a == b
  | .bl a, .int b => (if a then 1 else 0) == b
  | .int a, .bl b => a == (if b then 1 else 0)
  | .int a, .int b => a == b
  | .str a, .str b => a == b
  | _, _ => false
def inB (x : D) (xs : List D) : Bool := xs.any fun y => flatEq y x
def kIn (k : Ky) : List Ky → Bool
  | [] => false
  | x :: ks => if x = k then true else kIn k ks
def kGet : List Ky → List D → Ky → Option D
  | x :: ks, d :: ds, k => if x = k then some d else kGet ks ds k
  | _, _, _ => none
def D.key : D → Option Ky
  | .int i => some (.inl i)
  | .str x => some (.inr x)
  | _ => none
def dInB : D → D → Option Bool
  | x, .tup xs => if (x.flat && xs.all D.flat) = true then some (inB x xs) else none
  | x, .lst xs => if (x.flat && xs.all D.flat) = true then some (inB x xs) else none
  | .str x, .str y => some (!(Builtin.Str.occurrences y x 0 y.length 1).isEmpty)
  | x, .dic ks _ => x.key.map fun k => kIn k ks
  | _, _ => none
def dIn (x y : D) : Option D := (dInB x y).map .bl
def dNotIn (x y : D) : Option D := (dInB x y).map fun b => .bl (!b)

def dIx : D → D → Option D
  | .lst xs, .int i => L2.atI xs i
  | .tup xs, .int i => L2.atI xs i
  | .scr xs, .int i => L2.atI xs i
  | .str z, .int i => if okLe z.length = true then (L2.atI z.cps.toList i).map fun c => .str ⟨#[c]⟩ else none
  | .dic ks xs, k => k.key.bind fun k => kGet ks xs k
  | _, _ => none
def cut {α : Type} (xs : List α) (lo hi : Option Int) : List α := (xs.drop (HT.sIx xs.length 0 lo)).take (HT.sIx xs.length xs.length hi - HT.sIx xs.length 0 lo)
def dLen : List D → Option D
  | [.lst xs] => some (.int xs.length)
  | [.tup xs] => some (.int xs.length)
  | [.scr xs] => some (.int xs.length)
  | [.str z] => if okLe z.length = true then some (.int z.length) else none
  | [.dic ks _] => some (.int ks.length)
  | _ => none
def dAbs : List D → Option D
  | [.int i] => some (.int (if i < 0 then -i else i))
  | _ => none
def dMax2 : List D → Option D
  | [.int i, .int j] => some (.int (if j > i then j else i))
  | _ => none
def dMin2 : List D → Option D
  | [.int i, .int j] => some (.int (if j < i then j else i))
  | _ => none
def dInt : List D → Option D
  | [.int i] => some (.int i)
  | _ => none
def dStr : List D → Option D
  | [.int i] => if i.natAbs.log2 < 1920 then some (.str (toString i)) else none
  | [.str x] => some (.str x)
  | _ => none
def dList : List D → Option D
  | [.lst xs] => some (.lst xs)
  | [.tup xs] => some (.lst xs)
  | _ => none
def dTuple : List D → Option D
  | [.lst xs] => some (.tup xs)
  | [.tup xs] => some (.tup xs)
  | _ => none
end DL

namespace DL
open PySem PySem.Spec PyProof.Rows L2

def flds : Str → List Str := fun c =>
  if c = "Program" then ["_numbers", "_parts", "_texts"]
  else if c = "Undoer" then ["program"]
  else if c = "Forms" then ["program", "start", "modulus", "period"]
  else if c = "Reader" then ["tokens", "at", "depth"]
  else []
def isXc (c : Str) : Bool := decide (c ∈ (["BadText", "TooLarge", "MixedName", "MissingName", "OutOfRange", "Confused", "NoSuchSize", "BadEntry", "ListError"] : List Str))
def slotted (c : Str) : Bool := decide (c = "Numbers") || (decide (c = "Piece") || isXc c)
def exF : Str → List Str := fun c =>
  if c = "BadText" then ["place"] else if c = "TooLarge" then ["what"] else if c = "MixedName" then ["name"] else if c = "MissingName" then ["name"]
  else if c = "OutOfRange" then ["number"] else if c = "Confused" then ["second", "first"] else if c = "NoSuchSize" then ["size"] else if c = "BadEntry" then ["entry"] else []
def ordS (c : Str) : List Nat := if c = "Numbers" then [6, 0, 5, 7, 3, 1, 2, 4] else [0, 1, 2, 3, 4, 5]
def stS : List Nat → List V → List (Option V) → List (Option V)
  | i :: is, v :: vs, ms => stS is vs (SlX.putS i v ms)
  | _, _, ms => ms
def LitL (K : PySem.W.Frag) (a : Addr) (xs : List V) : Prop :=
  ∃ (o : Obj) (its : Array Value) (n : Nat), K.lookup a = some o ∧ o.cls = .type "list" ∧ o.dict = none ∧ o.data = .seq its n ∧ its.size ≤ sizeLine ∧ Vals xs its.toList
def LitT (K : PySem.W.Frag) (a : Addr) (xs : List V) : Prop :=
  ∃ (o : Obj) (its : Array Value) (n : Nat), K.lookup a = some o ∧ o.cls = .type "tuple" ∧ o.data = .seq its n ∧ its.size ≤ sizeLine ∧ Vals xs its.toList
def ObjAt (K : PySem.W.Frag) (S : Addr → Prop) (H : Hp) (a : Addr) (c : Str) (xs : List V) : Prop :=
  ¬ S a ∧ ∃ dx, ((slotted c = true ∧ isXc c = false) ∧ ¬ S dx ∧ H a = some (SlX.SlO a (He.ga K c) dx (stS (ordS c) xs [])) ∧ H dx = some (.xd [])) ∨ (slotted c = false ∧ xs.length = (flds c).length ∧ H a = some (.ins (He.ga K c) dx ((flds c).zip xs))) ∨
    ((slotted c = true ∧ isXc c = true) ∧ ((¬ S dx ∧ H a = some (exo a (He.ga K c) (some dx)) ∧ H dx = some (exd dx ((exF c).zip xs))) ∨ (xs = [] ∧ H a = some (exo a (He.ga K c) none))))

abbrev FunO (a c' c : Addr) (L : LamI) : HO := .ext fun h => ∃ pm ctv : Value, h.get? a = some (PySem.W.kla_obj "<lambda>" L.qual L.params L.body L.scope [(L.cap, c)] pm c' ctv)
abbrev CelO (c : Addr) (v : V) : HO := .ext fun h => ∃ u, RelV v u ∧ h.IsCell c (some u)
structure CloAt (S : Addr → Prop) (H : Hp) (a c' c : Addr) (L : LamI) (v : V) : Prop where
  fn : H a = some (FunO a c' c L)
  co : H c' = some (LamX.CodeO c' L.qual)
  ce : H c = some (CelO c v)
  nf : ¬ S a
  no : ¬ S c'
  ne : ¬ S c
mutual
/-- v stands for d; S: the addresses that may change -/
inductive Rep (K : PySem.W.Frag) (S : Addr → Prop) (H : Hp) : V → D → Prop
  | non : Rep K S H .non .non
  | bl (b : Bool) : Rep K S H (.bl b) (.bl b)
  | int (i : Int) : Rep K S H (.int i) (.int i)
  | str (x : Str) : Rep K S H (.str x) (.str x)
  | lst {a : Addr} {xs : List V} {ds : List D} : H a = some (.lst xs) → ¬ S a → RepL K S H xs ds → Rep K S H (.ref a) (.lst ds)
  | tup {a : Addr} {xs : List V} {ds : List D} : H a = some (.tup xs) → ¬ S a → RepL K S H xs ds → Rep K S H (.ref a) (.tup ds)
  | ltp {a : Addr} {xs : List V} {ds : List D} : LitT K a xs → RepL K S H xs ds → Rep K S H (.ref a) (.tup ds)
  | scr {a : Addr} {o : Obj} {xs : List V} {ds : List D} : H a = some (.frz o (.lst xs)) → ¬ S a → RepL K S H xs ds → Rep K S H (.ref a) (.scr ds)
  | sco {a : Addr} {xs : List V} {ds : List D} : H a = some (.lst xs) → ¬ S a → RepL K S H xs ds → Rep K S H (.ref a) (.scr ds)
  | scl {a : Addr} {xs : List V} {ds : List D} : LitL K a xs → RepL K S H xs ds → Rep K S H (.ref a) (.scr ds)
  | obj {a : Addr} {c : Str} {xs : List V} {ds : List D} : ObjAt K S H a c xs → RepL K S H xs ds → Rep K S H (.ref a) (.obj c ds)
  | fn (f : Str) : Rep K S H (.ref (He.ga K f)) (.fn f)
  | clo {a c' c : Addr} {L : LamI} {v : V} {d : D} : CloAt S H a c' c L v → Rep K S H v d → Rep K S H (.ref a) (.clo L d)
  | dic {a : Addr} {ks : List Ky} {xs : List V} {ds : List D} : H a = some (.dK (ks.zip xs)) → ¬ S a → ks.length = xs.length → ks.Nodup → RepL K S H xs ds → Rep K S H (.ref a) (.dic ks ds)
inductive RepL (K : PySem.W.Frag) (S : Addr → Prop) (H : Hp) : List V → List D → Prop
  | nil : RepL K S H [] []
  | cons {v : V} {vs : List V} {d : D} {ds : List D} : Rep K S H v d → RepL K S H vs ds → RepL K S H (v :: vs) (d :: ds)
end

def codeTab (K : PySem.W.Frag) (f : Str) : Option (Addr × Addr) := match K.lookup (He.ga K f) with
  | some o => match o.data with
    | .func u => match u.code with
      | .ref c => match K.lookup c with
        | some oc => match oc.data with
          | .fields vs => match (vs.getD 11 Value.none) with
            | .ref P => some (c, P)
            | _ => none
          | _ => none
        | none => none
      | _ => none
    | _ => none
  | none => none
def lamQ : Str := "free_name.<locals>.<lambda>"
def tabsK (K : PySem.W.Frag) : List (Addr × Addr) := match codeTab K "free_name" with
  | some p => [p]
  | none => []
def TabsOk (K : PySem.W.Frag) (H : Hp) : Prop := ∀ p ∈ tabsK K, LamX.TabS H p.2 lamQ
def NT (o : HO) : Prop := ∀ ps, o ≠ .tbl ps
def Pl (o : HO) : Prop := NT o ∧ ∀ φ, o ≠ .ext φ
structure KeepM (M : Addr → Prop) (H H' : Hp) : Prop where
  keep : ∀ b o, H b = some o → NT o → ¬ M b → H' b = some o
  tab : ∀ P, LamX.TabS H P lamQ → LamX.TabS H' P lamQ
  dom : ∀ b o, H b = some o → ∃ o', H' b = some o'
  pl : ∀ b o, H b = some o → Pl o → ∃ o', H' b = some o' ∧ Pl o'
  tb : ∀ b ps, H b = some (.tbl ps) → ∃ qs, H' b = some (.tbl qs)
abbrev NoM : Addr → Prop := fun _ => False
def Same (H H' : Hp) : Prop := KeepM NoM H H'
theorem KeepM.refl {M : Addr → Prop} {H : Hp} : KeepM M H H := ⟨fun _ _ h _ _ => h, fun _ h => h, fun _ o h => ⟨o, h⟩, fun _ o h p => ⟨o, h, p⟩, fun _ ps h => ⟨ps, h⟩⟩
theorem Same.refl (H : Hp) : Same H H := KeepM.refl
theorem Same.at {H H' : Hp} (e : Same H H') : ∀ b o, H b = some o → (n : NT o := by first | assumption | (intro ps z; cases z)) → H' b = some o := fun b o h n => e.keep b o h n fun z => z
theorem Same.trans {H H1 H2 : Hp} (a : Same H H1) (b : Same H1 H2) : Same H H2 := ⟨fun c o h n _ => b.at c o (a.at c o h n) n, fun P h => b.tab P (a.tab P h), fun c o h => let ⟨u, h1⟩ := a.dom c o h; b.dom c u h1, fun c o h p => let ⟨u, h1, p1⟩ := a.pl c o h p; b.pl c u h1 p1, fun c ps h => let ⟨qs, h1⟩ := a.tb c ps h; b.tb c qs h1⟩
theorem Same.of {H H' : Hp} (e : ∀ b o, H b = some o → H' b = some o) : Same H H' := ⟨fun b o h _ _ => e b o h, fun _ t => t.ext e, fun b o h => ⟨o, e b o h⟩, fun b o h p => ⟨o, e b o h, p⟩, fun b ps h => ⟨ps, e b _ h⟩⟩
theorem KeepM.trans {M : Addr → Prop} {H0 H H' : Hp} (k : KeepM M H0 H) (e : Same H H') : KeepM M H0 H' := ⟨fun b o h n m => e.at b o (k.keep b o h n m) n, fun P h => e.tab P (k.tab P h), fun b o h => let ⟨u, h1⟩ := k.dom b o h; e.dom b u h1, fun b o h p => let ⟨u, h1, p1⟩ := k.pl b o h p; e.pl b u h1 p1, fun b ps h => let ⟨qs, h1⟩ := k.tb b ps h; e.tb b qs h1⟩
theorem KeepM.all {H0 H : Hp} (k : KeepM NoM H0 H) : Same H0 H := k
theorem tabS_upd {H : Hp} {a : Addr} {u0 u : HO} {P : Addr} {q : Str} (h : H a = some u0) (p : Pl u0) (t : LamX.TabS H P q) : LamX.TabS (upd H a u) P q := by
  obtain ⟨ps, h1, h2, h3⟩ := t
  refine ⟨ps, by rw [upd_ne (ne_of h1 h fun z => p.1 ps z.symm)]; exact h1, h2, fun pos cv hc => ?_⟩
  obtain ⟨c, e1, e2⟩ := h3 pos cv hc
  exact ⟨c, e1, by rw [upd_ne (ne_of e2 h fun z => p.2 _ z.symm)]; exact e2⟩
theorem keepM_upd {H : Hp} {a : Addr} {u0 u : HO} (h : H a = some u0) (p : Pl u0 := by first | assumption | exact ⟨fun ps z => (by cases z), fun ps z => (by cases z)⟩) (pu : Pl u := by first | assumption | exact ⟨fun ps z => (by cases z), fun ps z => (by cases z)⟩) : KeepM (· = a) H (upd H a u) :=
  ⟨fun b o q _ n => by rw [upd_ne n]; exact q, fun P t => tabS_upd h p t, fun b o q => by
    by_cases e : b = a
    · rw [e]; exact ⟨u, upd_same⟩
    · exact ⟨o, by rw [upd_ne e]; exact q⟩, fun b o q po => by
    by_cases e : b = a
    · rw [e]; exact ⟨u, upd_same, pu⟩
    · exact ⟨o, by rw [upd_ne e]; exact q, po⟩, fun b ps q => ⟨ps, by rw [upd_ne (ne_of q h fun z => p.1 ps z.symm)]; exact q⟩⟩
theorem TabsOk.mono {M : Addr → Prop} {K : PySem.W.Frag} {H H' : Hp} (e : KeepM M H H') (t : TabsOk K H) : TabsOk K H' := fun p hp => e.tab _ (t p hp)
structure Dom (K : PySem.W.Frag) (S : Addr → Prop) (H : Hp) : Prop where
  at_ : ∀ b, S b → ∃ o, H b = some o ∧ Pl o
  tabs : TabsOk K H
theorem Dom.new {K : PySem.W.Frag} {S : Addr → Prop} {H : Hp} (h : Dom K S H) {p : Addr} (hp : H p = none) : ¬ S p := fun z => by
  obtain ⟨o, q, _⟩ := h.at_ p z
  rw [hp] at q; cases q
theorem Dom.mono {M : Addr → Prop} {K : PySem.W.Frag} {S : Addr → Prop} {H H' : Hp} (e : KeepM M H H') (h : Dom K S H) : Dom K S H' := ⟨fun b z => let ⟨o, q, p⟩ := h.at_ b z; e.pl b o q p, h.tabs.mono e⟩
section
variable {K : PySem.W.Frag} {S S' : Addr → Prop} {H H' : Hp}
mutual
theorem Rep.to (k : ∀ b o, H b = some o → NT o → ¬ S b → H' b = some o) (g : ∀ b o, H b = some o → ¬ S b → ¬ S' b) : ∀ {v : V} {d : D}, Rep K S H v d → Rep K S' H' v d
  | _, _, .non => .non
  | _, _, .bl b => .bl b
  | _, _, .int i => .int i
  | _, _, .str x => .str x
  | _, _, .lst h n r => .lst (k _ _ h (by first | assumption | (intro ps z; cases z)) n) (g _ _ h n) (RepL.to k g r)
  | _, _, .tup h n r => .tup (k _ _ h (by first | assumption | (intro ps z; cases z)) n) (g _ _ h n) (RepL.to k g r)
  | _, _, .ltp h r => .ltp h (RepL.to k g r)
  | _, _, .scr h n r => .scr (k _ _ h (by first | assumption | (intro ps z; cases z)) n) (g _ _ h n) (RepL.to k g r)
  | _, _, .scl h r => .scl h (RepL.to k g r)
  | _, _, .sco h n r => .sco (k _ _ h (by first | assumption | (intro ps z; cases z)) n) (g _ _ h n) (RepL.to k g r)
  | _, _, .obj h r => .obj (by
      obtain ⟨n, dx, h⟩ := h
      rcases h with ⟨e, nd, h, q⟩ | ⟨e, l, h⟩ | ⟨e, ⟨nd, h, q⟩ | ⟨e0, h⟩⟩
      · exact ⟨g _ _ h n, dx, .inl ⟨e, g _ _ q nd, k _ _ h (by first | assumption | (intro ps z; cases z)) n, k _ _ q (by first | assumption | (intro ps z; cases z)) nd⟩⟩
      · exact ⟨g _ _ h n, dx, .inr (.inl ⟨e, l, k _ _ h (by first | assumption | (intro ps z; cases z)) n⟩)⟩
      · exact ⟨g _ _ h n, dx, .inr (.inr ⟨e, .inl ⟨g _ _ q nd, k _ _ h (by first | assumption | (intro ps z; cases z)) n, k _ _ q (by first | assumption | (intro ps z; cases z)) nd⟩⟩)⟩
      · exact ⟨g _ _ h n, dx, .inr (.inr ⟨e, .inr ⟨e0, k _ _ h (by first | assumption | (intro ps z; cases z)) n⟩⟩)⟩) (RepL.to k g r)
  | _, _, .fn f => .fn f
  | _, _, .clo h r => .clo ⟨k _ _ h.fn (by first | assumption | (intro ps z; cases z)) h.nf, k _ _ h.co (by first | assumption | (intro ps z; cases z)) h.no, k _ _ h.ce (by first | assumption | (intro ps z; cases z)) h.ne, g _ _ h.fn h.nf, g _ _ h.co h.no, g _ _ h.ce h.ne⟩ (Rep.to k g r)
  | _, _, .dic h n l nd r => .dic (k _ _ h (by first | assumption | (intro ps z; cases z)) n) (g _ _ h n) l nd (RepL.to k g r)
theorem RepL.to (k : ∀ b o, H b = some o → NT o → ¬ S b → H' b = some o) (g : ∀ b o, H b = some o → ¬ S b → ¬ S' b) : ∀ {vs : List V} {ds : List D}, RepL K S H vs ds → RepL K S' H' vs ds
  | _, _, .nil => .nil
  | _, _, .cons h r => .cons (Rep.to k g h) (RepL.to k g r)
end
theorem Rep.mono (e : Same H H') {v : V} {d : D} (h : Rep K S H v d) : Rep K S H' v d := h.to (fun b o q n _ => e.at b o q) fun _ _ _ n => n
theorem RepL.mono (e : Same H H') {vs : List V} {ds : List D} (h : RepL K S H vs ds) : RepL K S H' vs ds := h.to (fun b o q n _ => e.at b o q) fun _ _ _ n => n
theorem Rep.less (e : ∀ b, S' b → S b) {v : V} {d : D} (h : Rep K S H v d) : Rep K S' H v d := h.to (fun _ _ q _ _ => q) fun b _ _ n z => n (e b z)
theorem RepL.less (e : ∀ b, S' b → S b) {vs : List V} {ds : List D} (h : RepL K S H vs ds) : RepL K S' H vs ds := h.to (fun _ _ q _ _ => q) fun b _ _ n z => n (e b z)
theorem RepL.length : ∀ {vs : List V} {ds : List D}, RepL K S H vs ds → vs.length = ds.length
  | _, _, .nil => rfl
  | _, _, .cons _ r => congrArg Nat.succ r.length
theorem RepL.get : ∀ {vs : List V} {ds : List D} {i : Nat} {d : D}, RepL K S H vs ds → ds[i]? = some d → ∃ v, vs[i]? = some v ∧ Rep K S H v d
  | _, _, _, _, .nil, e => by simp at e
  | _, _, 0, _, .cons h _, e => by simp at e; subst e; exact ⟨_, rfl, h⟩
  | _, _, i + 1, d, .cons _ r, e => by
    obtain ⟨v, h1, h2⟩ := RepL.get (i := i) (d := d) r (by simpa using e)
    exact ⟨v, by simpa using h1, h2⟩
theorem RepL.append : ∀ {vs ws : List V} {ds es : List D}, RepL K S H vs ds → RepL K S H ws es → RepL K S H (vs ++ ws) (ds ++ es)
  | _, _, _, _, .nil, s => s
  | _, _, _, _, .cons h r, s => .cons h (r.append s)
theorem RepL.take : ∀ {vs : List V} {ds : List D} (n : Nat), RepL K S H vs ds → RepL K S H (vs.take n) (ds.take n)
  | _, _, 0, _ => .nil
  | _, _, _ + 1, .nil => .nil
  | _, _, n + 1, .cons h r => .cons h (r.take n)
theorem RepL.drop : ∀ {vs : List V} {ds : List D} (n : Nat), RepL K S H vs ds → RepL K S H (vs.drop n) (ds.drop n)
  | _, _, 0, r => r
  | _, _, _ + 1, .nil => .nil
  | _, _, n + 1, .cons _ r => r.drop n
theorem RepL.reverse {vs : List V} {ds : List D} (h : RepL K S H vs ds) : RepL K S H vs.reverse ds.reverse := by
  have go : ∀ {vs : List V} {ds : List D}, RepL K S H vs ds → RepL K S H vs.reverse ds.reverse := by
    intro vs
    induction vs with
    | nil => intro ds h; cases h; exact .nil
    | cons v vs ih =>
      intro ds h
      cases h with
      | cons h r => rw [List.reverse_cons, List.reverse_cons]; exact (ih r).append (.cons h .nil)
  exact go h
theorem RepL.flat {vs : List V} {ds : List D} (h : RepL K S H vs ds) : ∀ n : Nat, RepL K S H (List.replicate n vs).flatten (List.replicate n ds).flatten
  | 0 => .nil
  | n + 1 => by
    rw [List.replicate_succ, List.replicate_succ, List.flatten_cons, List.flatten_cons]
    exact h.append (h.flat n)
theorem RepL.cut {vs : List V} {ds : List D} (h : RepL K S H vs ds) (lo hi : Option Int) : RepL K S H (cutV vs lo hi) (DL.cut ds lo hi) := by
  unfold cutV DL.cut
  rw [h.length]
  exact (h.drop _).take _
theorem RepL.set {v : V} {d : D} (q : Rep K S H v d) : ∀ {vs : List V} {ds : List D} (i : Nat), RepL K S H vs ds → RepL K S H (vs.set i v) (ds.set i d)
  | _, _, _, .nil => .nil
  | _, _, 0, .cons _ r => .cons q r
  | _, _, i + 1, .cons h r => .cons h (RepL.set q i r)
theorem RepL.dropLast {vs : List V} {ds : List D} (h : RepL K S H vs ds) : RepL K S H vs.dropLast ds.dropLast := by
  rw [List.dropLast_eq_take, List.dropLast_eq_take, h.length]
  exact h.take _
end

mutual
theorem Rep.py {K : PySem.W.Frag} {S : Addr → Prop} {H : Hp} : ∀ {v : V} {d : D} {a : PyData}, Rep K S H v d → d.py = some a → Dp K H v a
  | _, _, _, .non, e => by cases e; exact .non
  | _, _, _, .bl b, e => by cases e; exact .bl b
  | _, _, _, .int i, e => by cases e; exact .int i
  | _, _, _, .str x, e => by cases e; exact .str x
  | _, _, _, .lst (ds := ds) h n r, e => by
    have e' : (pyL ds).map PyData.list = some _ := e
    obtain ⟨as, h1, h2⟩ := Option.map_eq_some_iff.mp e'
    subst h2
    exact .lst (SqL.of h) (RepL.py r h1)
  | _, _, _, .tup (ds := ds) h n r, e => by
    have e' : (pyL ds).map PyData.tuple = some _ := e
    obtain ⟨as, h1, h2⟩ := Option.map_eq_some_iff.mp e'
    subst h2
    exact .tup (SqT.of h) (RepL.py r h1)
  | _, _, _, .ltp (ds := ds) h r, e => by
    have e' : (pyL ds).map PyData.tuple = some _ := e
    obtain ⟨as, h1, h2⟩ := Option.map_eq_some_iff.mp e'
    subst h2
    exact .tup (.inr h) (RepL.py r h1)
  | _, _, _, .scr _ _ _, e => by cases e
  | _, _, _, .scl _ _, e => by cases e
  | _, _, _, .sco _ _ _, e => by cases e
  | _, _, _, .obj _ _, e => by cases e
  | _, _, _, .fn _, e => by cases e
  | _, _, _, .dic _ _ _ _ _, e => by cases e
theorem RepL.py {K : PySem.W.Frag} {S : Addr → Prop} {H : Hp} : ∀ {vs : List V} {ds : List D} {as : List PyData}, RepL K S H vs ds → pyL ds = some as → DpAll K H vs as
  | _, _, _, .nil, e => by cases e; exact .nil
  | _, _, _, .cons (d := d) (ds := ds) h r, e => by
    unfold pyL at e
    cases q1 : d.py with
    | none => rw [q1] at e; cases e
    | some a =>
      cases q2 : pyL ds with
      | none => rw [q1, q2] at e; cases e
      | some as =>
        rw [q1, q2] at e
        cases e
        exact .cons (Rep.py h q1) (RepL.py r q2)
end

def SlotOk (K : PySem.W.Frag) (S : Addr → Prop) (H : Hp) (o : Option V) : DS → Prop
  | .un => True
  | .fz d => ∃ v, o = some v ∧ Rep K S H v d
  | .ow ds => ∃ a xs, o = some (.ref a) ∧ H a = some (.lst xs) ∧ S a ∧ RepL K S H xs ds
  | .ob c fs => ∃ a dx vs, o = some (.ref a) ∧ H a = some (.ins (He.ga K c) dx vs) ∧ S a ∧ vs.map (·.1) = fs.map (·.1) ∧ RepL K S H (vs.map (·.2)) (fs.map (·.2))
  | .od ks ds => ∃ a xs, o = some (.ref a) ∧ H a = some (.dK (ks.zip xs)) ∧ S a ∧ ks.length = xs.length ∧ ks.Nodup ∧ RepL K S H xs ds
theorem SlotOk.addr {K : PySem.W.Frag} {S : Addr → Prop} {H : Hp} {o : Option V} : ∀ {t : DS}, SlotOk K S H o t → t.mutb = true → ∃ a u, o = some (.ref a) ∧ H a = some u ∧ S a
  | .ow _, ⟨a, _, q, h, z, _⟩, _ => ⟨a, _, q, h, z⟩
  | .ob _ _, ⟨a, _, _, q, h, z, _⟩, _ => ⟨a, _, q, h, z⟩
  | .od _ _, ⟨a, _, q, h, z, _⟩, _ => ⟨a, _, q, h, z⟩
  | .un, _, z => by cases z
  | .fz _, _, z => by cases z
theorem SlotOk.move {K : PySem.W.Frag} {S S' : Addr → Prop} {H H' : Hp} (k : ∀ b o, H b = some o → NT o → ¬ S b → H' b = some o) (g : ∀ b o, H b = some o → ¬ S b → ¬ S' b) {o : Option V} :
    ∀ {t : DS}, (∀ b, o = some (.ref b) → t.mutb = true → (∀ u, H b = some u → NT u → H' b = some u) ∧ S' b) → SlotOk K S H o t → SlotOk K S' H' o t
  | .un, _, _ => trivial
  | .fz d, _, ⟨v, q, r⟩ => ⟨v, q, r.to k g⟩
  | .ow ds, m, ⟨a, xs, q, h, z, r⟩ => ⟨a, xs, q, (m a q rfl).1 _ h (by first | assumption | (intro ps z; cases z)), (m a q rfl).2, r.to k g⟩
  | .ob c fs, m, ⟨a, dx, vs, q, h, z, n, r⟩ => ⟨a, dx, vs, q, (m a q rfl).1 _ h (by first | assumption | (intro ps z; cases z)), (m a q rfl).2, n, r.to k g⟩
  | .od ks ds, m, ⟨a, xs, q, h, z, n, d, r⟩ => ⟨a, xs, q, (m a q rfl).1 _ h (by first | assumption | (intro ps z; cases z)), (m a q rfl).2, n, d, r.to k g⟩
structure StE (K : PySem.W.Frag) (S : Addr → Prop) (σ : L2.St) (H : Hp) (δ : DSt) : Prop where
  len : σ.length = δ.length
  slot : ∀ (i : Nat) (s : DS), δ[i]? = some s → ∃ o, σ[i]? = some o ∧ SlotOk K S H o s
  sep : ∀ (i j : Nat) (a : Addr) (s t : DS), δ[i]? = some s → δ[j]? = some t → s.mutb = true → t.mutb = true → σ[i]? = some (some (.ref a)) → σ[j]? = some (some (.ref a)) → i = j
  here : Dom K S H
section
variable {K : PySem.W.Frag} {S S' : Addr → Prop} {H H' : Hp} {σ : L2.St} {δ : DSt}
theorem SlotOk.mono (e : Same H H') {o : Option V} {s : DS} (h : SlotOk K S H o s) : SlotOk K S H' o s := h.move (fun b o q n _ => e.at b o q) (fun _ _ _ n => n) fun b q m => by
  obtain ⟨a, u, h1, h2, h3⟩ := h.addr m
  rw [h1] at q
  cases q
  exact ⟨fun u q n => e.at _ _ q, h3⟩
theorem StE.mono (e : Same H H') (s : StE K S σ H δ) : StE K S σ H' δ :=
  ⟨s.len, fun i t h => let ⟨o, h1, h2⟩ := s.slot i t h; ⟨o, h1, h2.mono e⟩, s.sep, s.here.mono e⟩
end
end DL

namespace DL
open PySem PySem.Spec PyProof.Rows L2
def PsA (CX : CXT) (X : Cx) (E : L2.St → XK) : Prop := ∀ σ, PassesAt CX X σ (E σ)
theorem PsA.of {CX : CXT} {X : Cx} {E : XK} (h : Passes CX X E) : PsA CX X fun _ => E := fun σ pins H s e s' => h pins σ H s e s'
theorem PsA.all {CX : CXT} {X : Cx} {E : XK} (h : PsA CX X fun _ => E) : Passes CX X E := fun pins σ H s e s' => h σ pins H s e s'
section
variable {X : Cx} {CX : CXT} {pins : List (Addr × Obj)} {σ : L2.St} {H : Hp} {s : Shared} {k : Nat} {sp : Sp} {E : L2.St → XK} {E1 : XK} {Q : VK}
theorem run_at {fa : Addr} {us : List Value} {vs : List V} (Fn : FnR X.prog X.w X.K X.mg X.base CX k fa sp) (room : Room k X.A) (out : PassesAt CX X σ E1) (I : Inv X pins σ H s) (rel : Vals vs us) (hq : sp vs H Q E1) :
    codeAny (model X.prog X.w) X.A (.call (.ref fa) ⟨us, []⟩) (fun r s' => match r with | .ok (.ret v) => EP X pins σ Q v s' | .ok _ => False | .error e => X.xe e s') s :=
  codeAny_mono (Fn X.A X.stack s H us vs Q E1 room I.env0 rel hq) fun r s' a => match r, a with
    | .error e, a => out pins H s e s' I a
    | .ok (.ret u), a => I.after a
    | .ok .next, a => a.elim
    | .ok .brk, a => a.elim
    | .ok .cont, a => a.elim
variable {C fa g : Addr} {m x : Str} {o b fe : Expr} {bs : List Expr} {ta tf : TE} {t : TA} {p apos pos : Pos} {pl : Sem Bool}
abbrev MNode (X : Cx) (o : Expr) (m : Str) (apos : Pos) (es : List Expr) (pos : Pos) (pl : Sem Bool) : Sem Value := do
  let ov ← eval o X.env
  standAt apos.atName
  let (f, first) ← holding [ov] (getMethod ov m pl)
  callWith pos f first (backTo pos (starEach es X.env)) (backToKw pos (keywordEach [] X.env))
abbrev Plain1 (X : Cx) (b : Expr) (bs : List Expr) (pos : Pos) : Prop := starEach (b :: bs) X.env = (false, eval b X.env) :: starEach bs X.env ∧ (backTo pos (starEach bs X.env)).any (·.1) = false
variable {fI : Addr} {fd : FuncData} {ps : List Str}
end
end DL

namespace DL
open PySem PySem.Spec PyProof.Rows L2
abbrev Sg := L2.St

def ExR (K : PySem.W.Frag) (S : Addr → Prop) (H : Hp) (cls : Value) (dx : Option Addr) (n : Str) (xs : List D) : Prop :=
  cls = .ref (He.ga K n) ∧ ∃ a vs, dx = some a ∧ H a = some (.xd ((exF n).zip vs)) ∧ ¬ S a ∧ RepL K S H vs xs

def Res {α : Type} (K : PySem.W.Frag) (S : Addr → Prop) (H : Hp) (E : XK) (r : R α) (P : α → Prop) : Prop := match r with
  | .ok d => P d
  | .exc n xs => ∀ cls dx H', Same H H' → ExR K S H' cls dx n xs → E cls dx H'
  | .bad => False
abbrev E0s : Sg → XK := fun _ => E0
def tD (K : PySem.W.Frag) (E : Sg → XK) (f : FE) : TE := fun σ H Q => ∃ S δ, StE K S σ H δ ∧ Res K S H (E σ) (f δ) fun d => ∀ v H', Same H H' → Rep K S H' v d → Q v H'
def tDL (K : PySem.W.Frag) (E : Sg → XK) (f : FL) : TA := fun σ H Q => ∃ S δ, StE K S σ H δ ∧ Res K S H (E σ) (f δ) fun ds => ∀ vs H', Same H H' → RepL K S H' vs ds → Q vs H'
def tDB (K : PySem.W.Frag) (E : Sg → XK) (f : FB) : TT := fun σ H Q => ∃ S δ, StE K S σ H δ ∧ Res K S H (E σ) (f δ) fun b => ∀ H', Same H H' → Q b H'
def DE (X : Cx) (E : Sg → XK) (e : Expr) (f : FE) : Prop := PE X e (tD X.K E f)
structure DA (X : Cx) (E : Sg → XK) (es : List Expr) (f : FL) : Prop where
  pa : PA X es (tDL X.K E f)
  len : ∀ δ ds, f δ = .ok ds → ds.length = es.length
def DB (X : Cx) (E : Sg → XK) (e : Expr) (f : FB) : Prop := PT X e (tDB X.K E f)
def DW (X : Cx) (E : Sg → XK) (e : Expr) (f : FB) : Prop := PW X e (tDB X.K E f)

theorem PE.imp {X : Cx} {e : Expr} {t t' : TE} (h : PE X e t) (k : ∀ σ H Q, t' σ H Q → t σ H Q) : PE X e t' := ⟨fun pins s σ H Q I q => h.run pins s σ H Q I (k σ H Q q)⟩
theorem PA.imp {X : Cx} {es : List Expr} {t t' : TA} (h : PA X es t) (k : ∀ σ H Q, t' σ H Q → t σ H Q) : PA X es t' := ⟨fun pos pins s σ H Q I q => h.run pos pins s σ H Q I (k σ H Q q)⟩
theorem PT.imp {X : Cx} {e : Expr} {t t' : TT} (h : PT X e t) (k : ∀ σ H Q, t' σ H Q → t σ H Q) : PT X e t' := ⟨fun pins s σ H Q I q => h.run pins s σ H Q I (k σ H Q q)⟩
theorem PW.imp {X : Cx} {e : Expr} {t t' : TT} (h : PW X e t) (k : ∀ σ H Q, t' σ H Q → t σ H Q) : PW X e t' := ⟨fun wh pins s σ H Q I q => h.run wh pins s σ H Q I (k σ H Q q)⟩
theorem PS.imp {X : Cx} {st : Stmt} {t t' : TS} (h : PS X st t) (k : ∀ D σ H, t' D σ H → t D σ H) : PS X st t' := ⟨fun pins s σ H D I q => h.run pins s σ H D I (k D σ H q)⟩
theorem PSs.imp {X : Cx} {st : List Stmt} {t t' : TS} (h : PSs X st t) (k : ∀ D σ H, t' D σ H → t D σ H) : PSs X st t' := ⟨fun pins s σ H D I q => h.run pins s σ H D I (k D σ H q)⟩

section
variable {K : PySem.W.Frag} {S : Addr → Prop} {H H1 : Hp} {E : XK} {α β : Type}
theorem same_new {p : Addr} (h : H p = none) (o : HO) : Same H (upd H p o) := .of fun b u q => by rw [upd_ne (ne_of_none q h)]; exact q
theorem Res.imp {r : R α} {P P' : α → Prop} (h : Res K S H E r P) (k : ∀ a, P a → P' a) : Res K S H E r P' := by
  cases r with
  | ok a => exact k a h
  | exc n xs => exact h
  | bad => exact h
theorem Res.on {r : R α} {f : α → R β} {P : β → Prop} (h : Res K S H E (r.bind f) P) : Res K S H E r fun a => Res K S H E (f a) P := by
  cases r with
  | ok a => exact h
  | exc n xs => exact h
  | bad => exact h
theorem Res.mono {r : R α} {P : α → Prop} (e : Same H H1) (h : Res K S H E r P) : Res K S H1 E r P := by
  cases r with
  | ok a => exact h
  | exc n xs => exact fun cls dx H' e' x => h cls dx H' (e.trans e') x
  | bad => exact h
theorem Res.of {o : Option α} {P : α → Prop} (h : Res K S H E (R.of o) P) : ∃ a, o = some a ∧ P a := by
  cases o with
  | none => exact h.elim
  | some a => exact ⟨a, rfl, h⟩
end

section
variable {X : Cx} {E : Sg → XK} {pos : Pos} {a b c : Expr} {f g : FE} {es : List Expr} {fl : FL}
theorem de_var (i : Nat) {x : Str} (hN : X.N[i]? = some x := by rfl) (hv : Vis X.env.scope x := by first | exact Or.inl rfl | exact Or.inr (Or.inl rfl) | exact Or.inr (Or.inr rfl)) (hd : (x == ("__debug__" : Str)) = false := by decide)
    (hcd : (x == ("__classdict__" : Str)) = false := by decide) : DE X E (.Name x pos) (fVar i) := by
  refine PE.imp (pe_var hN hv hd hcd) fun σ H Q h => ?_
  obtain ⟨S, δ, st, r⟩ := h
  unfold fVar at r
  cases q : δ[i]? with
  | none => rw [q] at r; exact r.elim
  | some s =>
    rw [q] at r
    cases s with
    | un => exact r.elim
    | ow ds => exact r.elim
    | ob c fs => exact r.elim
    | od ks ds => exact r.elim
    | fz d =>
      obtain ⟨o, h1, v, h2, h3⟩ := st.slot i _ q
      subst h2
      exact ⟨v, h1, r v H (Same.refl _) h3⟩
theorem de_c {e : Expr} {v : V} {d : D} (h : PE X e (tC v)) (r : ∀ S H, Rep X.K S H v d) : DE X E e (fC d) := by
  refine PE.imp h fun σ H Q h => ?_
  obtain ⟨S, δ, st, q⟩ := h
  exact q v H (Same.refl _) (r S H)
theorem de_int {i j} : DE X E (.Constant (.int i) j pos) (fC (.int i)) := de_c pe_int fun _ _ => .int i
theorem de_bl {b j} : DE X E (.Constant (.bool b) j pos) (fC (.bl b)) := de_c pe_bl fun _ _ => .bl b
theorem de_str {x j} : DE X E (.Constant (.str x) j pos) (fC (.str x)) := de_c pe_str fun _ _ => .str _
theorem da_nil : DA X E [] fNil := by
  refine ⟨PA.imp pa_nil fun σ H Q h => ?_, fun δ ds h => by cases h; rfl⟩
  obtain ⟨S, δ, st, q⟩ := h
  exact q [] H (Same.refl _) .nil
theorem da_cons (ha : DE X E a f) (hr : DA X E es fl) (hs : starEach (a :: es) X.env = (false, eval a X.env) :: starEach es X.env := by rfl) : DA X E (a :: es) (fCons f fl) := by
  refine ⟨PA.imp (pa_cons ha hr.pa hs) fun σ H Q h => ?_, fun δ ds h => ?_⟩
  · obtain ⟨S, δ, st, q⟩ := h
    have q1 := Res.on q
    refine ⟨S, δ, st, q1.imp fun d q2 v H1 e1 r1 => ?_⟩
    refine ⟨S, δ, st.mono e1, (Res.on q2).mono e1 |>.imp fun ds q3 vs H2 e2 r2 => ?_⟩
    exact q3 (v :: vs) H2 (e1.trans e2) (.cons (r1.mono e2) r2)
  · unfold fCons at h
    cases q : f δ with
    | ok d =>
      rw [q, R.bind_ok] at h
      cases q2 : fl δ with
      | ok es' =>
        rw [q2, R.bind_ok] at h
        cases h
        exact congrArg Nat.succ (hr.len _ _ q2)
      | exc n xs => rw [q2] at h; cases h
      | bad => rw [q2] at h; cases h
    | exc n xs => rw [q] at h; cases h
    | bad => rw [q] at h; cases h

def Giv (K : PySem.W.Frag) (S : Addr → Prop) (H : Hp) (z : D) (Q : VK) : Prop := ∀ v H', Same H H' → Rep K S H' v z → Q v H'
theorem Giv.here {K : PySem.W.Frag} {S : Addr → Prop} {H : Hp} {z : D} {Q : VK} (q : Giv K S H z Q) {v : V} (r : Rep K S H v z) : Q v H := q v H (Same.refl _) r
theorem Giv.lst {K : PySem.W.Frag} {S : Addr → Prop} {H : Hp} {zs : List D} {Q : VK} (q : Giv K S H (.lst zs) Q) (dm : Dom K S H) {xs : List V} (r : RepL K S H xs zs) : ∀ p, H p = none → Q (.ref p) (upd H p (.lst xs)) := fun p hp =>
  q (.ref p) _ (same_new hp _) (.lst upd_same (dm.new hp) (r.mono (same_new hp _)))
theorem Giv.tup {K : PySem.W.Frag} {S : Addr → Prop} {H : Hp} {zs : List D} {Q : VK} (q : Giv K S H (.tup zs) Q) (dm : Dom K S H) {xs : List V} (r : RepL K S H xs zs) : ∀ p, H p = none → Q (.ref p) (upd H p (.tup xs)) := fun p hp =>
  q (.ref p) _ (same_new hp _) (.tup upd_same (dm.new hp) (r.mono (same_new hp _)))
def OpD (X : Cx) (f : Value → Value → Sem Value) (F : D → D → Option D) : Prop :=
  OpR X f fun x y H Q => ∃ S d e z, Dom X.K S H ∧ Rep X.K S H x d ∧ Rep X.K S H y e ∧ F d e = some z ∧ Giv X.K S H z Q
def UnD (X : Cx) (f : Value → Sem Value) (F : D → Option D) : Prop :=
  UnR X f fun x H Q => ∃ S d z, Dom X.K S H ∧ Rep X.K S H x d ∧ F d = some z ∧ Giv X.K S H z Q
def CallD (X : Cx) (f : Value) (F : List D → Option D) : Prop :=
  CallR X f fun xs H Q => ∃ S ds z, Dom X.K S H ∧ RepL X.K S H xs ds ∧ F ds = some z ∧ Giv X.K S H z Q
def IxD (X : Cx) (F : D → D → Option D) : Prop :=
  IxR X fun x y H Q => ∃ S d e z, Dom X.K S H ∧ Rep X.K S H x d ∧ Rep X.K S H y e ∧ F d e = some z ∧ Giv X.K S H z Q

theorem two_of {K : PySem.W.Frag} {f g : FE} {F : D → D → Option D} {r : R2} {σ : Sg} {H : Hp} {Q : VK} (h : tD K E (fB F f g) σ H Q)
    (hr : ∀ x y H Q, (∃ S d e z, Dom K S H ∧ Rep K S H x d ∧ Rep K S H y e ∧ F d e = some z ∧ Giv K S H z Q) → r x y H Q) : tOp r (tD K E f) (tD K E g) σ H Q := by
  obtain ⟨S, δ, st, q⟩ := h
  refine ⟨S, δ, st, (Res.on q).imp fun d q1 v H1 e1 r1 => ?_⟩
  refine ⟨S, δ, st.mono e1, ((Res.on q1).mono e1).imp fun e q2 u H2 e2 r2 => ?_⟩
  obtain ⟨z, hz, q3⟩ := Res.of q2
  exact hr v u H2 Q ⟨S, d, e, z, ((st.mono e1).mono e2).here, r1.mono e2, r2, hz, fun w H3 e3 r3 => q3 w H3 (e1.trans (e2.trans e3)) r3⟩
theorem de_op {op : Operator} {F : D → D → Option D} (ho : OpD X (binaryOp op) F) (ha : DE X E a f) (hb : DE X E b g) : DE X E (.BinOp a op b pos) (fB F f g) :=
  PE.imp (pe_op ho ha hb) fun σ H Q h => two_of h fun _ _ _ _ q => q
theorem de_cmp {op : CmpOp} {F : D → D → Option D} (ho : OpD X (compareOp op) F) (ha : DE X E a f) (hb : DE X E b g) (hm : behindInMarks op b = false) : DE X E (.Compare a [op] [b] pos) (fB F f g) :=
  PE.imp (pe_cmpR ho ha hb hm) fun σ H Q h => two_of h fun _ _ _ _ q => q
theorem de_ix {F : D → D → Option D} (ho : IxD X F) (ha : DE X E a f) (hb : DE X E b g) (hs : PlainIx b) : DE X E (.Subscript a b pos) (fB F f g) :=
  PE.imp (pe_ix ho ha hb hs) fun σ H Q h => two_of h fun _ _ _ _ q => q
theorem de_lst (h : DA X E es fl) (hl : es.length ≤ sizeLine := by exact Nat.le_of_ble_eq_true rfl) : DE X E (.List es pos) (fLst fl) := by
  refine PE.imp (pe_lst h.pa) fun σ H Q hq => ?_
  obtain ⟨S, δ, st, q⟩ := hq
  refine ⟨S, δ, st, ?_⟩
  have q1 := Res.on (show Res X.K S H (E σ) ((fl δ).bind fun xs => R.of (some (D.lst xs))) _ from q)
  cases e : fl δ with
  | bad => rw [e] at q1; exact q1.elim
  | exc n xs => rw [e] at q1; exact q1
  | ok ds =>
    rw [e] at q1
    intro vs H1 e1 r1
    have q2 : Giv X.K S H (.lst ds) Q := q1
    refine ⟨by rw [r1.length, h.len _ _ e]; exact hl, fun p hp => ?_⟩
    exact Giv.lst (fun w H2 e2 r2 => q2 w H2 (e1.trans e2) r2) (st.mono e1).here r1 p hp
theorem db_cmp {op : CmpOp} {F : D → D → Option D} (ho : OpD X (compareOp op) F) (ha : DE X E a f) (hb : DE X E b g) (hm : behindInMarks op b = false) : DB X E (.Compare a [op] [b] pos) (fTest (fB F f g)) := by
  refine PT.imp (pt_cmpR ho ha hb hm) fun σ H Q h => ?_
  obtain ⟨S, δ, st, q⟩ := h
  refine two_of (f := f) (g := g) (F := F) ⟨S, δ, st, (Res.on q).imp fun d q1 v H1 e1 r1 => ?_⟩ fun _ _ _ _ z => z
  cases r1 with
  | bl k => exact ⟨k, rfl, q1 H1 e1⟩
  | _ => exact q1.elim
theorem db_val (h : DE X E a f) (he : ∀ whole, isTrue a X.env whole = (do let v ← whole; standAt a.pos; holding [v] (truthy v)) := by intro _; rfl) : DB X E a (fTest f) := by
  refine PT.imp (pt_val h he) fun σ H Q hq => ?_
  obtain ⟨S, δ, st, q⟩ := hq
  refine ⟨S, δ, st, (Res.on q).imp fun d q1 v H1 e1 r1 => ?_⟩
  cases r1 with
  | bl k => exact ⟨k, rfl, q1 H1 e1⟩
  | _ => exact q1.elim
theorem db_not {c : FB} (h : DB X E a c) : DB X E (.UnaryOp .Not a pos) (fNotB c) := by
  refine PT.imp (pt_not h) fun σ H Q hq => ?_
  obtain ⟨S, δ, st, q⟩ := hq
  exact ⟨S, δ, st, (Res.on q).imp fun d q1 => q1⟩
variable {rest : List Expr} {p q : FB}
theorem dw_or1 (h : DB X E a p) : DW X E (.BoolOp .Or [a] pos) p := pw_or1 h
theorem dw_or (h : DB X E a p) (k : DW X E (.BoolOp .Or (b :: rest) pos) q) : DW X E (.BoolOp .Or (a :: b :: rest) pos) (fOrB p q) := by
  refine PW.imp (pw_or h k) fun σ H Q hq => ?_
  obtain ⟨S, δ, st, r⟩ := hq
  refine ⟨S, δ, st, (Res.on r).imp fun d q1 H1 e1 => ?_⟩
  cases d with
  | true => exact q1 H1 e1
  | false => exact ⟨S, δ, st.mono e1, (q1.mono e1).imp fun b q2 H2 e2 => q2 H2 (e1.trans e2)⟩
theorem db_of (h : DW X E a p) : DB X E a p := PW.pt h
theorem de_one {op} (h : DE X E a f) : DE X E (.BoolOp op [a] pos) f := pe_one h
def fAnd (f g : FE) : FE := fun δ => (f δ).bind fun d => match d with
  | .bl true => g δ
  | .bl false => .ok (.bl false)
  | _ => .bad
def fOr (f g : FE) : FE := fun δ => (f δ).bind fun d => match d with
  | .bl true => .ok (.bl true)
  | .bl false => g δ
  | _ => .bad
theorem de_and (h : DE X E a f) (k : DE X E (.BoolOp .And (b :: rest) pos) g) : DE X E (.BoolOp .And (a :: b :: rest) pos) (fAnd f g) := by
  refine PE.imp (pe_and h k) fun σ H Q hq => ?_
  obtain ⟨S, δ, st, r⟩ := hq
  refine ⟨S, δ, st, (Res.on r).imp fun d q1 v H1 e1 r1 => ?_⟩
  cases r1 with
  | bl k =>
    refine ⟨k, rfl, ?_⟩
    cases k with
    | true => exact ⟨S, δ, st.mono e1, (q1.mono e1).imp fun d q2 v H2 e2 r2 => q2 v H2 (e1.trans e2) r2⟩
    | false => exact q1 _ H1 e1 (.bl _)
  | _ => exact q1.elim
end
end DL

namespace DL
open PySem PySem.Spec PyProof.Rows L2
section
variable {X : Cx}
theorem Rep.seqT {K : PySem.W.Frag} {S : Addr → Prop} {H : Hp} {v : V} {ds : List D} (r : Rep K S H v (.tup ds)) : ∃ a xs, v = .ref a ∧ SqT K H a xs ∧ RepL K S H xs ds := by
  cases r with
  | tup h n r => exact ⟨_, _, rfl, SqT.of h, r⟩
  | ltp h r => exact ⟨_, _, rfl, .inr h, r⟩
theorem Rep.lstH {K : PySem.W.Frag} {S : Addr → Prop} {H : Hp} {v : V} {ds : List D} (r : Rep K S H v (.lst ds)) : ∃ a xs, v = .ref a ∧ H a = some (.lst xs) ∧ RepL K S H xs ds := by
  cases r with
  | lst h n r => exact ⟨_, _, rfl, h, r⟩
theorem Rep.scrH {K : PySem.W.Frag} {S : Addr → Prop} {H : Hp} {v : V} {ds : List D} (r : Rep K S H v (.scr ds)) : ∃ a xs, v = .ref a ∧ SqL K H a xs ∧ RepL K S H xs ds := by
  cases r with
  | scr h n r => exact ⟨_, _, rfl, .inl (.inr ⟨_, h⟩), r⟩
  | scl h r => exact ⟨_, _, rfl, .inr h, r⟩
  | sco h n r => exact ⟨_, _, rfl, SqL.of h, r⟩
theorem Rep.intE {K : PySem.W.Frag} {S : Addr → Prop} {H : Hp} {v : V} {i : Int} (r : Rep K S H v (.int i)) : v = .int i := by cases r; rfl
theorem Rep.strE {K : PySem.W.Frag} {S : Addr → Prop} {H : Hp} {v : V} {i : Str} (r : Rep K S H v (.str i)) : v = .str i := by cases r; rfl
theorem opd_int {f : Value → Value → Sem Value} {C : Int → Int → Prop} {g : Int → Int → V} {gD : Int → Int → D} {F : D → D → Option D} (h : OpR X f (rI C g)) (hg : ∀ S H i j, Rep X.K S H (g i j) (gD i j))
    (hF : ∀ d e z, F d e = some z → ∃ i j, d = .int i ∧ e = .int j ∧ C i j ∧ z = gD i j) : OpD X f F := by
  intro pins s σ H x y v u Q I rx ry q
  obtain ⟨S, d, e, z, dm, r1, r2, hz, q⟩ := q
  obtain ⟨i, j, rfl, rfl, hc, rfl⟩ := hF d e z hz
  exact h pins s σ H x y v u Q I rx ry ⟨i, j, r1.intE, r2.intE, hc, q.here (hg S H i j)⟩
theorem opd_int0 {f : Value → Value → Sem Value} {g : Int → Int → V} {gD : Int → Int → D} {F : D → D → Option D} (h : OpR X f (rI0 g)) (hg : ∀ S H i j, Rep X.K S H (g i j) (gD i j))
    (hF : ∀ d e z, F d e = some z → ∃ i j, d = .int i ∧ e = .int j ∧ z = gD i j) : OpD X f F := by
  intro pins s σ H x y v u Q I rx ry q
  obtain ⟨S, d, e, z, dm, r1, r2, hz, q⟩ := q
  obtain ⟨i, j, rfl, rfl, rfl⟩ := hF d e z hz
  exact h pins s σ H x y v u Q I rx ry ⟨i, j, r1.intE, r2.intE, q.here (hg S H i j)⟩
theorem opd_sub : OpD X (binaryOp .Sub) dSub := opd_int0 (gD := fun i j => .int (i - j)) op_sub (fun _ _ i j => .int _) fun d e z h => by
  cases d <;> cases e <;> simp [dSub] at h
  exact ⟨_, _, rfl, rfl, h.symm⟩
theorem opd_fdiv : OpD X (binaryOp .FloorDiv) dFdiv := opd_int (gD := fun i j => .int (i / j)) op_fdivW (fun _ _ i j => .int _) fun d e z h => by
  cases d <;> cases e <;> simp [dFdiv] at h
  obtain ⟨c1, c2⟩ := Bool.and_eq_true_iff.mp h.1
  exact ⟨_, _, rfl, rfl, wide_div (of_decide_eq_true c1) (Nat.blt_eq.mp c2) (by decide) (by decide), h.2.symm⟩
theorem opd_mod : OpD X (binaryOp .Mod) dMod := opd_int (gD := fun i j => .int (i % j)) op_mod (fun _ _ i j => .int _) fun d e z h => by
  cases d <;> cases e <;> simp [dMod] at h
  exact ⟨_, _, rfl, rfl, h.1, h.2.symm⟩
theorem opd_pow : OpD X (binaryOp .Pow) dPow := opd_int (gD := fun i j => .int (i ^ j.toNat)) op_pow (fun _ _ i j => .int _) fun d e z h => by
  cases d <;> cases e <;> simp only [dPow, Option.ite_none_right_eq_some, Option.some.injEq, reduceCtorEq] at h
  exact ⟨_, _, rfl, rfl, powOk_of h.1, h.2.symm⟩
theorem opd_gt : OpD X (compareOp .Gt) dGt := opd_int0 (gD := fun i j => .bl (decide (j < i))) op_gt (fun _ _ i j => .bl _) fun d e z h => by
  cases d <;> cases e <;> simp [dGt] at h
  exact ⟨_, _, rfl, rfl, h.symm⟩
theorem opd_ge : OpD X (compareOp .GtE) dGe := opd_int0 (gD := fun i j => .bl (decide (j ≤ i))) op_ge (fun _ _ i j => .bl _) fun d e z h => by
  cases d <;> cases e <;> simp [dGe] at h
  exact ⟨_, _, rfl, rfl, h.symm⟩
theorem lim_abs {k : Nat} {i : Int} (h : lim k i = true) : i.natAbs < 2 ^ k := Nat.blt_eq.mp h
theorem lim_of {k : Nat} {i : Int} (h : lim k i = true) : -(2 ^ k) < i ∧ i < 2 ^ k := by
  have h1 := lim_abs h
  have e : ((2 ^ k : Nat) : Int) = 2 ^ k := by simp
  omega
theorem opd_add : OpD X (binaryOp .Add) dAdd := by
  intro pins s σ H x y v u Q I rx ry q
  obtain ⟨S, d, e, z, dm, r1, r2, hz, q⟩ := q
  cases d with
  | int i =>
    cases e <;> simp [dAdd] at hz
    subst hz
    exact op_add pins s σ H x y v u Q I rx ry ⟨_, _, r1.intE, r2.intE, q.here (.int _)⟩
  | str i =>
    cases e <;> simp [dAdd] at hz
    obtain ⟨h1, h2⟩ := hz
    subst h2
    exact op_add_str pins s σ H x y v u Q I rx ry ⟨_, _, r1.strE, r2.strE, okLe_of h1, q.here (.str _)⟩
  | lst xs =>
    cases e <;> simp [dAdd] at hz
    obtain ⟨h1, h2⟩ := hz
    subst h2
    obtain ⟨a, vs, e1, e2, e3⟩ := r1.lstH
    obtain ⟨b, ws, e4, e5, e6⟩ := r2.lstH
    exact op_cat pins s σ H x y v u Q I rx ry ⟨a, b, vs, ws, e1, e4, e2, e5, by rw [e3.length, e6.length]; exact okLe_of h1, q.lst dm (e3.append e6)⟩
  | tup xs =>
    cases xs with
    | nil =>
      cases e <;> simp only [dAdd, Option.some.injEq, reduceCtorEq] at hz
      rename_i ys
      subst hz
      obtain ⟨a, vs, e1, e2, e3⟩ := r1.seqT
      obtain ⟨b, ws, e4, e5, e6⟩ := r2.seqT
      have l1 := e3.length
      obtain ⟨_, _, _, hz2⟩ := I.tuple e5
      cases vs with
      | cons _ _ => cases l1
      | nil =>
        refine op_catA pins s σ H x y v u Q I rx ry ⟨a, b, [], ws, e1, e4, e2, e5, by rw [List.length_nil, Nat.zero_add]; exact hz2, fun _ => ?_, fun z => (z rfl).elim, fun z => (z rfl).elim⟩
        subst e4
        exact q.here r2
    | cons x0 xs =>
      cases e <;> simp only [dAdd, Option.ite_none_right_eq_some, Option.some.injEq, reduceCtorEq] at hz
      rename_i ys
      obtain ⟨h1, h2⟩ := hz
      subst h2
      obtain ⟨a, vs, e1, e2, e3⟩ := r1.seqT
      obtain ⟨b, ws, e4, e5, e6⟩ := r2.seqT
      have l1 := e3.length
      have l2 := e6.length
      refine op_catT pins s σ H x y v u Q I rx ry ⟨a, b, vs, ws, e1, e4, e2, e5, ?_, by rw [l1, l2]; exact okLe_of h1, ?_, ?_⟩
      · intro z
        rw [z] at l1
        cases l1
      · intro z
        subst z
        cases e6
        rw [e1] at r1
        rw [List.append_nil] at q
        exact q.here r1
      · intro _ p hp
        exact q.tup dm (e3.append e6) p hp
  | _ => cases e <;> simp [dAdd] at hz
theorem opd_mul : OpD X (binaryOp .Mult) dMul := by
  intro pins s σ H x y v u Q I rx ry q
  obtain ⟨S, d, e, z, dm, r1, r2, hz, q⟩ := q
  cases d with
  | int i =>
    cases e <;> simp only [dMul, Option.ite_none_right_eq_some, Option.some.injEq, reduceCtorEq] at hz
    rename_i j
    obtain ⟨h1, h2⟩ := hz
    subst h2
    simp only [mulOk, Bool.or_eq_true, Bool.and_eq_true] at h1
    rcases h1 with (h1 | h1) | ⟨h1, h2⟩
    · exact op_mul pins s σ H x y v u Q I rx ry ⟨_, _, r1.intE, r2.intE, .inl (lim_of h1), q.here (.int _)⟩
    · exact op_mul pins s σ H x y v u Q I rx ry ⟨_, _, r1.intE, r2.intE, .inr (lim_of h1), q.here (.int _)⟩
    · exact op_mulW pins s σ H x y v u Q I rx ry ⟨_, _, r1.intE, r2.intE, wide_mul (lim_abs h1) (lim_abs h2) (by decide) (by decide) (by decide), q.here (.int _)⟩
  | lst xs =>
    cases e <;> simp only [dMul, Option.ite_none_right_eq_some, Option.some.injEq, reduceCtorEq] at hz
    obtain ⟨h5, h4⟩ := hz
    subst h4
    obtain ⟨h6, h3⟩ := Bool.and_eq_true_iff.mp (show (lim 63 _ && okLe _) = true from h5)
    obtain ⟨h1, h2⟩ := lim_of h6
    have h3 := okLe_of h3
    obtain ⟨a, vs, e1, e2, e3⟩ := r1.lstH
    exact op_rep pins s σ H x y v u Q I rx ry ⟨a, _, vs, e1, r2.intE, e2, Int.le_of_lt h1, h2, by rw [e3.length]; exact h3, q.lst dm (e3.flat _)⟩
  | _ => cases e <;> simp [dMul] at hz
theorem opd_eq (hu : X.A.units + 64 < cLine) : OpD X (compareOp .Eq) dEq := by
  intro pins s σ H x y v u Q I rx ry q
  obtain ⟨S, d, e, z, dm, r1, r2, hz, q⟩ := q
  unfold dEq dEqB at hz
  split at hz
  · simp only [Option.map_some, Option.some.injEq] at hz
    subst hz
    have e1 := r1.strE
    have e2 := r2.strE
    subst e1
    subst e2
    exact op_eq pins s σ H _ _ v u Q I rx ry ⟨rfl, by rw [dec_str]; exact q.here (.bl _)⟩
  · simp only [Option.map_some, Option.some.injEq] at hz
    subst hz
    have e1 := r1.intE
    have e2 := r2.intE
    subst e1
    subst e2
    exact op_eq pins s σ H _ _ v u Q I rx ry ⟨rfl, by rw [dec_int]; exact q.here (.bl _)⟩
  unfold dEqP at hz
  cases h1 : d.py with
  | none => rw [h1] at hz; cases hz
  | some a =>
    cases h2 : e.py with
    | none => rw [h1, h2] at hz; cases hz
    | some b =>
      rw [h1, h2] at hz
      by_cases c : (SeqAt.shaped a && SeqAt.shaped b) = true
      · simp only [c, if_true, Option.map_some, Option.some.injEq] at hz
        subst hz
        obtain ⟨c1, c2⟩ := Bool.and_eq_true_iff.mp c
        exact op_eqD hu pins s σ H x y v u Q I rx ry ⟨a, b, r1.py h1, r2.py h2, c1, c2, q.here (.bl _)⟩
      · simp only [c] at hz
        cases hz
theorem opd_ne (hu : X.A.units + 64 < cLine) : OpD X (compareOp .NotEq) dNe := by
  intro pins s σ H x y v u Q I rx ry q
  obtain ⟨S, d, e, z, dm, r1, r2, hz, q⟩ := q
  unfold dNe dEqB at hz
  split at hz
  · simp only [Option.map_some, Option.some.injEq] at hz
    subst hz
    have e1 := r1.strE
    have e2 := r2.strE
    subst e1
    subst e2
    exact op_ne pins s σ H _ _ v u Q I rx ry ⟨rfl, by rw [dec_str]; exact q.here (.bl _)⟩
  · simp only [Option.map_some, Option.some.injEq] at hz
    subst hz
    have e1 := r1.intE
    have e2 := r2.intE
    subst e1
    subst e2
    exact op_ne pins s σ H _ _ v u Q I rx ry ⟨rfl, by rw [dec_int]; exact q.here (.bl _)⟩
  unfold dEqP at hz
  cases h1 : d.py with
  | none => rw [h1] at hz; cases hz
  | some a =>
    cases h2 : e.py with
    | none => rw [h1, h2] at hz; cases hz
    | some b =>
      rw [h1, h2] at hz
      by_cases c : (SeqAt.shaped a && SeqAt.shaped b) = true
      · simp only [c, if_true, Option.map_some, Option.some.injEq] at hz
        subst hz
        obtain ⟨c1, c2⟩ := Bool.and_eq_true_iff.mp c
        exact op_neD hu pins s σ H x y v u Q I rx ry ⟨a, b, r1.py h1, r2.py h2, c1, c2, q.here (.bl _)⟩
      · simp only [c] at hz
        cases hz
theorem Rep.flatV {K : PySem.W.Frag} {S : Addr → Prop} {H : Hp} {v : V} {d : D} (r : Rep K S H v d) (h : d.flat = true) : flatV v = true := by
  cases r <;> first | rfl | cases h
theorem RepL.flatV {K : PySem.W.Frag} {S : Addr → Prop} {H : Hp} : ∀ {vs : List V} {ds : List D}, RepL K S H vs ds → ds.all D.flat = true → vs.all L2.flatV = true
  | _, _, .nil, _ => rfl
  | _, _, .cons h r, e => by
    rw [List.all_cons, Bool.and_eq_true] at e ⊢
    exact ⟨h.flatV e.1, r.flatV e.2⟩
abbrev kvsOf (ks : List Ky) (vs : List V) : List (Key × V) := ks.zip vs
theorem Rep.keyV {K : PySem.W.Frag} {S : Addr → Prop} {H : Hp} {v : V} {d : D} {k : Ky} (r : Rep K S H v d) (h : d.key = some k) : v = kV k := by
  cases r <;> simp only [D.key, Option.some.injEq, reduceCtorEq] at h
  · subst h; rfl
  · subst h; rfl
theorem valV_get : ∀ {K : PySem.W.Frag} {S : Addr → Prop} {H : Hp} {ks : List Ky} {vs : List V} {ds : List D} {k : Ky} {d : D}, ks.length = vs.length → RepL K S H vs ds → kGet ks ds k = some d → ∃ v, valV (kvsOf ks vs) k = some v ∧ Rep K S H v d
  | _, _, _, [], _, _, _, _, _, _, h => by unfold kGet at h; cases h
  | _, _, _, _ :: _, [], _, _, _, l, _, _ => by cases l
  | _, _, _, x :: ks, v :: vs, _, k, d, l, .cons (d := e) (ds := es) r rs, h => by
    have h' : (if x = k then some e else kGet ks es k) = some d := h
    show ∃ w, valV ((x, v) :: kvsOf ks vs) k = some w ∧ _
    by_cases q : x = k
    · rw [if_pos q] at h'
      cases h'
      subst q
      exact ⟨v, valV_pos (p := ((x : Key), v)) rfl, r⟩
    · rw [if_neg q] at h'
      obtain ⟨w, h1, h2⟩ := valV_get (Nat.succ.inj l) rs h'
      exact ⟨w, by rw [valV_neg (p := ((x : Key), v)) q]; exact h1, h2⟩
theorem repL_atI {K : PySem.W.Frag} {S : Addr → Prop} {H : Hp} {vs : List V} {ds : List D} {i : Int} {d : D} (r : RepL K S H vs ds) (h : L2.atI ds i = some d) : ∃ v, L2.atI vs i = some v ∧ Rep K S H v d := by
  unfold L2.atI at h ⊢
  rw [r.length]
  cases e : L2.ixN ds.length i with
  | none => rw [e] at h; cases h
  | some j =>
    rw [e] at h
    exact r.get (i := j) h
theorem ixd_all (hu : X.A.units + 1 < cLine) : IxD X dIx := by
  intro value slice pins s σ H x y v u Q I rx ry q hs
  obtain ⟨S, d, e, z, dm, r1, r2, hz, q⟩ := q
  cases d with
  | lst ds =>
    cases e <;> simp only [dIx, reduceCtorEq] at hz
    obtain ⟨a, xs, e1, e2, e3⟩ := r1.lstH
    obtain ⟨w, h1, h2⟩ := repL_atI e3 hz
    exact ix_list value slice pins s σ H x y v u Q I rx ry ⟨a, xs, _, w, e1, r2.intE, SqL.of e2, h1, q.here h2⟩ hs
  | tup ds =>
    cases e <;> simp only [dIx, reduceCtorEq] at hz
    obtain ⟨a, xs, e1, e2, e3⟩ := r1.seqT
    obtain ⟨w, h1, h2⟩ := repL_atI e3 hz
    exact ix_tup value slice pins s σ H x y v u Q I rx ry ⟨a, xs, _, w, e1, r2.intE, e2, h1, q.here h2⟩ hs
  | scr ds =>
    cases e <;> simp only [dIx, reduceCtorEq] at hz
    obtain ⟨a, xs, e1, e2, e3⟩ := r1.scrH
    obtain ⟨w, h1, h2⟩ := repL_atI e3 hz
    exact ix_list value slice pins s σ H x y v u Q I rx ry ⟨a, xs, _, w, e1, r2.intE, e2, h1, q.here h2⟩ hs
  | str i =>
    cases e <;> simp only [dIx, Option.ite_none_right_eq_some, reduceCtorEq] at hz
    obtain ⟨h1, h2⟩ := hz
    obtain ⟨c, h3, h4⟩ := Option.map_eq_some_iff.mp h2
    subst h4
    exact ix_str value slice pins s σ H x y v u Q I rx ry ⟨_, _, c, r1.strE, r2.intE, okLe_of h1, h3, q.here (.str _)⟩ hs
  | dic ks ds =>
    obtain ⟨k, hk, hz⟩ := Option.bind_eq_some_iff.mp (show (e.key.bind fun k => kGet ks ds k) = some z from hz)
    cases r1 with
    | dic h n l nd r =>
      rename_i a vs
      obtain ⟨w, h1, h2⟩ := valV_get l r hz
      obtain rfl : v = Value.ref a := rx
      have g : DGet H a y (some w) := by
        rw [r2.keyV hk, ← h1]
        exact DGet.k (k := k) h
      exact PyProof.Rows.tail_any (dict_typeIs I g) PySem.F.slot_dict_getitem.lookup (d_getItem hu I g ry fun w' s' I' r' => ⟨w, H, I', r', q.here h2⟩) hs
  | _ => cases e <;> simp [dIx] at hz
theorem vl1 {K : PySem.W.Frag} {S : Addr → Prop} {H : Hp} {xs : List V} {d : D} (r : RepL K S H xs [d]) : ∃ v, xs = [v] ∧ Rep K S H v d := by
  cases r with
  | cons h r => cases r; exact ⟨_, rfl, h⟩
theorem vl2 {K : PySem.W.Frag} {S : Addr → Prop} {H : Hp} {xs : List V} {d e : D} (r : RepL K S H xs [d, e]) : ∃ v w, xs = [v, w] ∧ Rep K S H v d ∧ Rep K S H w e := by
  cases r with
  | cons h r =>
    cases r with
    | cons h2 r => cases r; exact ⟨_, _, rfl, h, h2⟩
theorem cd_len : CallD X (.builtin "len") dLen := by
  intro pins s σ H xs us Q I r q
  obtain ⟨S, ds, z, dm, rl, hz, q⟩ := q
  match ds, hz with
  | [.lst ys], hz =>
    simp only [dLen, Option.some.injEq] at hz
    subst hz
    obtain ⟨v, rfl, r1⟩ := vl1 rl
    obtain ⟨a, ws, e1, e2, e3⟩ := r1.lstH
    exact call_len pins s σ H _ us Q I r ⟨v, ys.length, rfl, by rw [e1]; exact .inl ⟨ws, SqL.of e2, e3.length.symm⟩, q.here (.int _)⟩
  | [.tup ys], hz =>
    simp only [dLen, Option.some.injEq] at hz
    subst hz
    obtain ⟨v, rfl, r1⟩ := vl1 rl
    obtain ⟨a, ws, e1, e2, e3⟩ := r1.seqT
    exact call_len pins s σ H _ us Q I r ⟨v, ys.length, rfl, by rw [e1]; exact .inr ⟨ws, e2, e3.length.symm⟩, q.here (.int _)⟩
  | [.scr ys], hz =>
    simp only [dLen, Option.some.injEq] at hz
    subst hz
    obtain ⟨v, rfl, r1⟩ := vl1 rl
    obtain ⟨a, ws, e1, e2, e3⟩ := r1.scrH
    exact call_len pins s σ H _ us Q I r ⟨v, ys.length, rfl, by rw [e1]; exact .inl ⟨ws, e2, e3.length.symm⟩, q.here (.int _)⟩
  | [.str y], hz =>
    simp only [dLen, Option.ite_none_right_eq_some, Option.some.injEq] at hz
    obtain ⟨h1, h2⟩ := hz
    subst h2
    obtain ⟨v, rfl, r1⟩ := vl1 rl
    exact call_len pins s σ H _ us Q I r ⟨v, y.length, rfl, by rw [r1.strE]; exact ⟨okLe_of h1, rfl⟩, q.here (.int _)⟩
  | [.dic ks _], hz =>
    simp only [dLen, Option.some.injEq] at hz
    subst hz
    obtain ⟨v, rfl, r1⟩ := vl1 rl
    cases r1 with
    | dic h n l nd r' =>
      rename_i a vs
      refine call_lenD pins s σ H _ us Q I r ⟨a, _, rfl, h, ?_⟩
      have e : (kvsOf ks vs).length = ks.length := by
        show (ks.zip vs).length = _
        rw [List.length_zip, l, Nat.min_self]
      have e2 : Q (.int (kvsOf ks vs).length) H := by
        rw [e]
        exact q.here (.int _)
      exact e2
  | [], hz => cases hz
  | _ :: _ :: _, hz => simp [dLen] at hz
  | [.non], hz => simp [dLen] at hz
  | [.bl _], hz => simp [dLen] at hz
  | [.int _], hz => simp [dLen] at hz
  | [.obj _ _], hz => simp [dLen] at hz
  | [.fn _], hz => simp [dLen] at hz
theorem cd_abs : CallD X (.builtin "abs") dAbs := by
  intro pins s σ H xs us Q I r q
  obtain ⟨S, ds, z, dm, rl, hz, q⟩ := q
  unfold dAbs at hz
  split at hz
  · cases hz
    obtain ⟨v, rfl, r1⟩ := vl1 rl
    exact call_abs pins s σ H _ us Q I r ⟨_, by rw [r1.intE], q.here (.int _)⟩
  · cases hz
theorem cd_min2 (hc : X.calm = true) : CallD X (.builtin "min") dMin2 := by
  intro pins s σ H xs us Q I r q
  obtain ⟨S, ds, z, dm, rl, hz, q⟩ := q
  unfold dMin2 at hz
  split at hz
  · cases hz
    obtain ⟨v, w, rfl, r1, r2⟩ := vl2 rl
    exact call_min2 hc pins s σ H _ us Q I r ⟨_, _, by rw [r1.intE, r2.intE], q.here (.int _)⟩
  · cases hz
theorem cb_of {E : Sg → XK} {σ : Sg} {H : Hp} {Q : VK} {f : Value} {F : List D → Option D} {fl : FL} (h : tD X.K E (fL F fl) σ H Q) :
    tCB (fun xs H Q => ∃ S ds z, Dom X.K S H ∧ RepL X.K S H xs ds ∧ F ds = some z ∧ Giv X.K S H z Q) (tDL X.K E fl) σ H Q := by
  obtain ⟨S, δ, st, q⟩ := h
  refine ⟨S, δ, st, (Res.on q).imp fun ds q1 vs H1 e1 r1 => ?_⟩
  obtain ⟨z, hz, q2⟩ := Res.of q1
  exact ⟨S, ds, z, (st.mono e1).here, r1, hz, fun w H2 e2 r2 => q2 w H2 (e1.trans e2) r2⟩
theorem de_callB {E : Sg → XK} {x : Str} {p pos : Pos} {e : Expr} {es : List Expr} {fl : FL} {id : String} {F : List D → Option D} (hc : CallD X (.builtin id) F) (hg : Gl X x) (hm : X.mg x = none) (hv : bootBuiltins x = some (.builtin id)) (ha : DA X E (e :: es) fl)
    (hn : x ≠ "__name__" := by decide) (hdb : (x == ("__debug__" : Str)) = false := by decide) (he : starEach (e :: es) X.env = (false, eval e X.env) :: starEach es X.env := by rfl) (hpl : (backTo pos (starEach es X.env)).any (·.1) = false := by rfl) :
    DE X E (.Call (.Name x p) (e :: es) [] pos) (fL F fl) := PE.imp (pe_callB hc hg hm hv ha.pa hn hdb he hpl) fun σ H Q h => cb_of (f := .builtin id) h
theorem de_callTy {E : Sg → XK} {x : Str} {p pos : Pos} {e : Expr} {es : List Expr} {fl : FL} {T : String} {F : List D → Option D} (hc : CallD X (.type T) F) (hg : Gl X x) (hm : X.mg x = none) (hv : bootBuiltins x = some (.type T)) (ha : DA X E (e :: es) fl)
    (hn : x ≠ "__name__" := by decide) (hdb : (x == ("__debug__" : Str)) = false := by decide) (he : starEach (e :: es) X.env = (false, eval e X.env) :: starEach es X.env := by rfl) (hpl : (backTo pos (starEach es X.env)).any (·.1) = false := by rfl) :
    DE X E (.Call (.Name x p) (e :: es) [] pos) (fL F fl) := PE.imp (pe_callTy hc hg hm hv ha.pa hn hdb he hpl) fun σ H Q h => cb_of (f := .type T) h
end
end DL

namespace DL
open PySem PySem.Spec PyProof.Rows L2
def D.shp (d : D) : Bool := match d.py with
  | some a => SeqAt.shaped a
  | none => false
def D.isS : D → Bool
  | .str s => (PyData.str s).canLay0
  | _ => false
def dInX : D → D → Option D
  | .lst ys, .lst xs => if ((D.lst ys).shp && xs.all D.isS) = true then some (.bl false) else none
  | x, y => dIn x y
section
variable {X : Cx}
end
end DL

namespace DL
open PySem PySem.Spec PyProof.Rows L2
def dInP (x : D) (xs : List D) : Option D := match x.py, pyL xs with
    | some a, some l => if (SeqAt.shaped a && decide (a.depth ≤ 32) && PyData.canLayAll0 l) = true then some (.bl (l.any fun y => PyData.eqv y a)) else none
    | _, _ => none
def dInG : D → D → Option D
  | x, .lst xs => dInP x xs
  | x, y => dIn x y
section
variable {X : Cx}
end
end DL

namespace DL
open PySem PySem.Spec PyProof.Rows L2
def dIsB : D → D → Option D
  | .bl a, .bl b => some (.bl (a == b))
  | .non, .bl _ => some (.bl false)
  | .int _, .bl _ => some (.bl false)
  | .str _, .bl _ => some (.bl false)
  | _, _ => none
section
variable {X : Cx}
end
end DL

namespace DL
open PySem PySem.Spec PyProof.Rows L2
def smulOk (x : Str) (n : Int) : Bool := decide (0 ≤ n) && (decide (n ≤ 1000) && decide (x.length ≤ 1000))
def dMulS : D → D → Option D
  | .str x, .int n => if smulOk x n = true then some (.str (Txt.mul x n)) else none
  | x, y => dMul x y
section
variable {X : Cx}
end
end DL

namespace DL
open PySem PySem.Spec PyProof.Rows L2

inductive O where
  | nx (δ : DSt) | rt (d : D) (δ : DSt) | bk (δ : DSt) | ct (δ : DSt) | exc (n : Str) (xs : List D) | bad
abbrev FS := DSt → O
def O.on {α : Type} (r : R α) (f : α → O) : O := match r with
  | .ok a => f a
  | .exc n xs => .exc n xs
  | .bad => .bad
@[simp] theorem O.on_ok {α : Type} (a : α) (f : α → O) : O.on (R.ok a) f = f a := rfl
@[simp] theorem O.on_exc {α : Type} (n : Str) (xs : List D) (f : α → O) : O.on (R.exc n xs) f = .exc n xs := rfl
@[simp] theorem O.on_bad {α : Type} (f : α → O) : O.on (R.bad : R α) f = .bad := rfl
structure Ev (S : Addr → Prop) (H : Hp) (S' : Addr → Prop) (H' : Hp) : Prop where
  keep : ∀ b o, H b = some o → NT o → ¬ S b → H' b = some o
  off : ∀ b o, H b = some o → ¬ S b → ¬ S' b
  dom : ∀ b o, H b = some o → ¬ S b → ∃ o', H' b = some o'
theorem Ev.refl {S : Addr → Prop} {H : Hp} : Ev S H S H := ⟨fun _ _ h _ _ => h, fun _ _ _ n => n, fun _ o h _ => ⟨o, h⟩⟩
theorem Ev.trans {S S1 S2 : Addr → Prop} {H H1 H2 : Hp} (a : Ev S H S1 H1) (b : Ev S1 H1 S2 H2) : Ev S H S2 H2 :=
  ⟨fun c o h t n => b.keep c o (a.keep c o h t n) t (a.off c o h n), fun c o h n => let ⟨u, h1⟩ := a.dom c o h n; b.off c u h1 (a.off c o h n), fun c o h n => let ⟨u, h1⟩ := a.dom c o h n; b.dom c u h1 (a.off c o h n)⟩
theorem Ev.same {S : Addr → Prop} {H H' : Hp} (e : Same H H') : Ev S H S H' := ⟨fun b o h n _ => e.at b o h, fun _ _ _ n => n, fun b o h _ => e.dom b o h⟩
theorem Ev.new {S : Addr → Prop} {H H' : Hp} {p : Addr} (e : Same H H') (hp : H p = none) : Ev S H (fun b => S b ∨ b = p) H' :=
  ⟨fun b o h _ _ => e.at b o h, fun b o h n z => z.elim n fun z => (by rw [z, hp] at h; cases h), fun b o h _ => e.dom b o h⟩
theorem Ev.upd {S : Addr → Prop} {H : Hp} {a : Addr} {u0 u : HO} (h : H a = some u0) (hs : S a) (p : Pl u0 := by first | assumption | exact ⟨fun ps z => (by cases z), fun ps z => (by cases z)⟩) : Ev S H S (L2.upd H a u) :=
  ⟨fun b o q _ n => by rw [upd_ne (fun z => n (by rw [z]; exact hs))]; exact q, fun _ _ _ n => n, fun b o q _ => by
    by_cases e : b = a
    · rw [e]; exact ⟨u, upd_same⟩
    · exact ⟨o, by rw [upd_ne e]; exact q⟩⟩
theorem Same.updN {H H5 : Hp} {a : Addr} {u0 u : HO} (e : Same H H5) (hn : H a = none) (h : H5 a = some u0) (p : Pl u0 := by first | assumption | exact ⟨fun ps z => (by cases z), fun ps z => (by cases z)⟩) : Same H (L2.upd H5 a u) :=
  ⟨fun b o q nt _ => by rw [upd_ne (ne_of_none q hn)]; exact e.at b o q nt, fun P t => tabS_upd h p (e.tab P t), fun b o q => ⟨_, (upd_ne (ne_of_none q hn)).trans (e.dom b o q).choose_spec⟩, fun b o q po => let ⟨u, h1, p1⟩ := e.pl b o q po; ⟨u, (upd_ne (ne_of_none q hn)).trans h1, p1⟩, fun b ps q => let ⟨qs, h1⟩ := e.tb b ps q; ⟨qs, (upd_ne (ne_of_none q hn)).trans h1⟩⟩
theorem Rep.ev {K : PySem.W.Frag} {S S' : Addr → Prop} {H H' : Hp} (e : Ev S H S' H') {v : V} {d : D} (r : Rep K S H v d) : Rep K S' H' v d := r.to e.keep e.off
theorem RepL.ev {K : PySem.W.Frag} {S S' : Addr → Prop} {H H' : Hp} (e : Ev S H S' H') {v : List V} {d : List D} (r : RepL K S H v d) : RepL K S' H' v d := r.to e.keep e.off

structure StS (K : PySem.W.Frag) (M : Addr → Prop) (S0 : Addr → Prop) (H0 : Hp) (S : Addr → Prop) (σ : Sg) (H : Hp) (δ : DSt) : Prop where
  st : StE K S σ H δ
  same : KeepM M H0 H
  sub : ∀ b, S0 b → S b
  dom : Dom K S0 H0
  ms : ∀ b, M b → S0 b
  own : ∀ (i : Nat) (a : Addr) (t : DS), δ[i]? = some t → t.mutb = true → σ[i]? = some (some (.ref a)) → (H0 a = none ∧ ∀ c fs, t ≠ .ob c fs) ∨ (M a ∧ ∃ c fs, t = .ob c fs)
theorem StS.free {K : PySem.W.Frag} {M S0 S : Addr → Prop} {H0 H : Hp} {σ : Sg} {δ : DSt} (s : StS K M S0 H0 S σ H δ) {p : Addr} (hp : H p = none) : H0 p = none := by
  cases q : H0 p with
  | none => rfl
  | some o =>
    obtain ⟨o', h⟩ := s.same.dom p o q
    rw [hp] at h; cases h
def Fin (K : PySem.W.Frag) (M : Addr → Prop) (S0 : Addr → Prop) (H0 : Hp) (E : XK) (D : Ends) (S : Addr → Prop) (H : Hp) : O → Prop
  | .nx δ => ∀ S' σ' H', StS K M S0 H0 S' σ' H' δ → Ev S H S' H' → D.nx σ' H'
  | .rt d δ => ∀ S' σ' v H', StS K M S0 H0 S' σ' H' δ → Rep K S' H' v d → D.rt v H'
  | .bk δ => ∀ S' σ' H', StS K M S0 H0 S' σ' H' δ → Ev S H S' H' → D.bk σ' H'
  | .ct δ => ∀ S' σ' H', StS K M S0 H0 S' σ' H' δ → Ev S H S' H' → D.ct σ' H'
  | .exc n xs => ∀ cls dx H', KeepM M H0 H' → ExR K S0 H' cls dx n xs → E cls dx H'
  | .bad => False
def tS (K : PySem.W.Frag) (M : Addr → Prop) (S0 : Addr → Prop) (H0 : Hp) (E : XK) (F : FS) : TS := fun D σ H => ∃ S δ, StS K M S0 H0 S σ H δ ∧ Fin K M S0 H0 E D S H (F δ)
structure Ent where
  M : Addr → Prop
  S : Addr → Prop
  H : Hp
def DSt1 (X : Cx) (e : Ent) (E : XK) (st : Stmt) (F : FS) : Prop := PS X st (tS X.K e.M e.S e.H E F)
def DSts (X : Cx) (e : Ent) (E : XK) (st : List Stmt) (F : FS) : Prop := PSs X st (tS X.K e.M e.S e.H E F)

section
variable {K : PySem.W.Frag} {M S0 S S1 : Addr → Prop} {H0 H H1 : Hp} {E : XK} {Dn : Ends} {σ : Sg} {δ : DSt}
theorem ExR.to {cls : Value} {dx : Option Addr} {n : Str} {xs : List D} (h : ExR K S H cls dx n xs) (e : ∀ b, S0 b → S b) : ExR K S0 H cls dx n xs := by
  obtain ⟨h1, a, vs, h2, h3, h4, h5⟩ := h
  exact ⟨h1, a, vs, h2, h3, fun z => h4 (e a z), h5.less e⟩
theorem StS.mono (e : Same H H1) (s : StS K M S0 H0 S σ H δ) : StS K M S0 H0 S σ H1 δ := ⟨s.st.mono e, s.same.trans e, s.sub, s.dom, s.ms, s.own⟩
theorem Fin.ev {o : O} (e : Ev S H S1 H1) (h : Fin K M S0 H0 E Dn S H o) : Fin K M S0 H0 E Dn S1 H1 o := by
  cases o with
  | nx δ => exact fun S' σ' H' s e' => h S' σ' H' s (e.trans e')
  | rt d δ => exact h
  | bk δ => exact fun S' σ' H' s e' => h S' σ' H' s (e.trans e')
  | ct δ => exact fun S' σ' H' s e' => h S' σ' H' s (e.trans e')
  | exc n xs => exact h
  | bad => exact h
theorem Fin.on {α : Type} {r : R α} {f : α → O} (s : StS K M S0 H0 S σ H δ) (h : Fin K M S0 H0 E Dn S H (O.on r f)) {P : α → Prop} (k : ∀ a, Fin K M S0 H0 E Dn S H (f a) → P a) : Res K S H E r P := by
  cases r with
  | ok a => exact k a h
  | exc n xs => exact fun cls dx H' e x => h cls dx H' (s.same.trans e) (x.to s.sub)
  | bad => exact h
end

section
variable {X : Cx} {e0 : Ent} {E : XK} {pos : Pos} {st : Stmt} {rest : List Stmt} {F G : FS} {a b c : Expr} {f g : FE} {es : List Expr} {fl : FL}
def fSkip : FS := fun δ => .nx δ
def fSeq (F G : FS) : FS := fun δ => match F δ with
  | .nx δ' => G δ'
  | o => o
theorem dss_nil : DSts X e0 E [] fSkip := by
  refine PSs.imp pss_nil fun D σ H h => ?_
  obtain ⟨S, δ, s, q⟩ := h
  exact q S σ H s .refl
theorem dss_cons (h : DSt1 X e0 E st F) (k : DSts X e0 E rest G) : DSts X e0 E (st :: rest) (fSeq F G) := by
  refine PSs.imp (pss_cons h k) fun D σ H hq => ?_
  obtain ⟨S, δ, s, q⟩ := hq
  refine ⟨S, δ, s, ?_⟩
  unfold fSeq at q
  cases r : F δ with
  | nx δ' =>
    rw [r] at q
    exact fun S' σ' H' s' e' => ⟨S', δ', s', q.ev e'⟩
  | rt d δ => rw [r] at q; exact q
  | bk d => rw [r] at q; exact q
  | ct d => rw [r] at q; exact q
  | exc n xs => rw [r] at q; exact q
  | bad => rw [r] at q; exact q
theorem dss_one (h : DSt1 X e0 E st F) : DSts X e0 E [st] F := pss_one h
def fRet (f : FE) : FS := fun δ => O.on (f δ) fun d => .rt d δ
theorem ds_ret (h : DE X (fun _ => E) a f) : DSt1 X e0 E (.Return (some a) pos) (fRet f) := by
  refine PS.imp (ps_ret h) fun D σ H hq => ?_
  obtain ⟨S, δ, s, q⟩ := hq
  exact ⟨S, δ, s.st, Fin.on s q fun d q v H' e' r => q S σ v H' (s.mono e') r⟩
def fIfS (c : FB) (F G : FS) : FS := fun δ => O.on (c δ) fun b => match b with
  | true => F δ
  | false => G δ
theorem ds_if {t : FB} {A B : List Stmt} (hc : DB X (fun _ => E) c t) (ha : DSts X e0 E A F) (hb : DSts X e0 E B G) : DSt1 X e0 E (.If c A B pos) (fIfS t F G) := by
  refine PS.imp (ps_if hc ha hb) fun D σ H hq => ?_
  obtain ⟨S, δ, s, q⟩ := hq
  refine ⟨S, δ, s.st, Fin.on s q fun b q H' e' => ?_⟩
  cases b with
  | true => exact ⟨S, δ, s.mono e', q.ev (.same e')⟩
  | false => exact ⟨S, δ, s.mono e', q.ev (.same e')⟩
def fExp (f : FE) : FS := fun δ => O.on (f δ) fun _ => .nx δ
theorem set_get {α : Type} {xs : List α} {i j : Nat} {v w : α} (h : (xs.set i v)[j]? = some w) : (j = i ∧ w = v) ∨ (j ≠ i ∧ xs[j]? = some w) := by
  by_cases e : j = i
  · subst e
    rw [List.getElem?_set_self'] at h
    cases q : xs[j]? with
    | none => rw [q] at h; cases h
    | some z => rw [q] at h; exact .inl ⟨rfl, (Option.some.inj h).symm⟩
  · rw [List.getElem?_set_ne (Ne.symm e)] at h
    exact .inr ⟨e, h⟩
theorem StE.set {K : PySem.W.Frag} {S : Addr → Prop} {H : Hp} {σ : Sg} {δ : DSt} (s : StE K S σ H δ) (i : Nat) {v : V} {d : D} (r : Rep K S H v d) : StE K S (σ.set i (some v)) H (δ.set i (.fz d)) := by
  refine ⟨by rw [List.length_set, List.length_set, s.len], fun j t h => ?_, fun j k a t u h1 h2 m1 m2 h3 h4 => ?_, s.here⟩
  · rcases set_get h with ⟨rfl, rfl⟩ | ⟨hne, h⟩
    · have hl : j < δ.length := by
        have := (List.getElem?_eq_some_iff.mp h).1
        rwa [List.length_set] at this
      exact ⟨some v, List.getElem?_set_self (by rw [s.len]; exact hl), v, rfl, r⟩
    · obtain ⟨o, h1, h2⟩ := s.slot j t h
      exact ⟨o, by rw [List.getElem?_set_ne (Ne.symm hne)]; exact h1, h2⟩
  · rcases set_get h1 with ⟨_, e⟩ | ⟨n1, h1⟩
    · subst e; cases m1
    · rcases set_get h2 with ⟨_, e⟩ | ⟨n2, h2⟩
      · subst e; cases m2
      · rw [List.getElem?_set_ne (Ne.symm n1)] at h3
        rw [List.getElem?_set_ne (Ne.symm n2)] at h4
        exact s.sep j k a t u h1 h2 m1 m2 h3 h4
theorem StS.set {K : PySem.W.Frag} {M S0 S : Addr → Prop} {H0 H : Hp} {σ : Sg} {δ : DSt} (s : StS K M S0 H0 S σ H δ) (i : Nat) {v : V} {d : D} (r : Rep K S H v d) : StS K M S0 H0 S (σ.set i (some v)) H (δ.set i (.fz d)) := by
  refine ⟨s.st.set i r, s.same, s.sub, s.dom, s.ms, fun j a t h1 m h2 => ?_⟩
  rcases set_get h1 with ⟨_, e⟩ | ⟨n1, h1⟩
  · subst e; cases m
  · rw [List.getElem?_set_ne (Ne.symm n1)] at h2
    exact s.own j a t h1 m h2
theorem StS.newT {K : PySem.W.Frag} {M S0 S : Addr → Prop} {H0 H : Hp} {σ : Sg} {δ : DSt} (s : StS K M S0 H0 S σ H δ) (i : Nat) {p : Addr} {H' : Hp} {t0 : DS} {u0 : HO} (hp : H p = none) (e : Same H H') (hv : H' p = some u0) (hm : t0.mutb = true) (hno : ∀ c fs, t0 ≠ .ob c fs)
    (r : SlotOk K (fun b => S b ∨ b = p) H' (some (.ref p)) t0) (pu : Pl u0 := by first | assumption | exact ⟨fun ps z => (by cases z), fun ps z => (by cases z)⟩) :
    StS K M S0 H0 (fun b => S b ∨ b = p) (σ.set i (some (.ref p))) H' (δ.set i t0) ∧ Ev S H (fun b => S b ∨ b = p) H' := by
  have ev : Ev S H (fun b => S b ∨ b = p) H' := ⟨fun b o h t _ => e.at b o h, fun b o h n z => z.elim n fun z => (by rw [z, hp] at h; cases h), fun b o h _ => e.dom b o h⟩
  have h0 : H0 p = none := s.free hp
  refine ⟨⟨⟨by rw [List.length_set, List.length_set, s.st.len], fun j t h => ?_, fun j k a t u h1 h2 m1 m2 h3 h4 => ?_, ⟨fun b z => ?_, s.st.here.tabs.mono e⟩⟩, s.same.trans e, fun b z => .inl (s.sub b z), s.dom, s.ms, fun j a t h1 m h2 => ?_⟩, ev⟩
  · rcases set_get h with ⟨rfl, rfl⟩ | ⟨hne, h⟩
    · have hl : j < δ.length := by
        have := (List.getElem?_eq_some_iff.mp h).1
        rwa [List.length_set] at this
      exact ⟨_, List.getElem?_set_self (by rw [s.st.len]; exact hl), r⟩
    · obtain ⟨o, h1, h2⟩ := s.st.slot j t h
      refine ⟨o, by rw [List.getElem?_set_ne (Ne.symm hne)]; exact h1, h2.move ev.keep ev.off fun b q m => ?_⟩
      obtain ⟨a, u, w1, w2, w3⟩ := h2.addr m
      rw [w1] at q
      cases q
      exact ⟨fun u q n => e.at _ _ q, .inl w3⟩
  · have ne : ∀ (j : Nat) (t : DS), δ[j]? = some t → t.mutb = true → σ[j]? = some (some (V.ref p)) → False := fun j t q1 m q2 => by
      obtain ⟨o, w1, w2⟩ := s.st.slot j _ q1
      obtain ⟨a, u, w3, w4, _⟩ := w2.addr m
      rw [q2] at w1
      cases w1
      cases w3
      rw [hp] at w4; cases w4
    rcases set_get h1 with ⟨e1, _⟩ | ⟨n1, h1⟩
    · rcases set_get h2 with ⟨e2, _⟩ | ⟨n2, h2⟩
      · rw [e1, e2]
      · exfalso
        rw [List.getElem?_set_ne (Ne.symm n2)] at h4
        rcases set_get h3 with ⟨_, z⟩ | ⟨z, _⟩
        · cases z
          exact ne _ _ h2 m2 h4
        · exact z e1
    · rcases set_get h2 with ⟨e2, _⟩ | ⟨n2, h2⟩
      · exfalso
        rw [List.getElem?_set_ne (Ne.symm n1)] at h3
        rcases set_get h4 with ⟨_, z⟩ | ⟨z, _⟩
        · cases z
          exact ne _ _ h1 m1 h3
        · exact z e2
      · rw [List.getElem?_set_ne (Ne.symm n1)] at h3
        rw [List.getElem?_set_ne (Ne.symm n2)] at h4
        exact s.st.sep j k a t u h1 h2 m1 m2 h3 h4
  · rcases z with z | z
    · obtain ⟨o, h, p1⟩ := s.st.here.at_ b z
      exact e.pl _ _ h p1
    · exact ⟨_, by rw [z]; exact hv, pu⟩
  · rcases set_get h1 with ⟨e1, e2⟩ | ⟨n1, h1⟩
    · rcases set_get h2 with ⟨_, z⟩ | ⟨z, _⟩
      · cases z
        subst e2
        exact .inl ⟨h0, hno⟩
      · exact absurd e1 z
    · rw [List.getElem?_set_ne (Ne.symm n1)] at h2
      exact s.own j a t h1 m h2
theorem StS.newG {K : PySem.W.Frag} {M S0 S : Addr → Prop} {H0 H : Hp} {σ : Sg} {δ : DSt} (s : StS K M S0 H0 S σ H δ) (i : Nat) {p : Addr} {H' : Hp} {vs : List V} {ds : List D} (hp : H p = none) (e : Same H H') (hv : H' p = some (.lst vs)) (r : RepL K (fun b => S b ∨ b = p) H' vs ds) :
    StS K M S0 H0 (fun b => S b ∨ b = p) (σ.set i (some (.ref p))) H' (δ.set i (.ow ds)) ∧ Ev S H (fun b => S b ∨ b = p) H' := s.newT i hp e hv rfl (fun _ _ z => by cases z) ⟨p, vs, rfl, hv, .inr rfl, r⟩
theorem StS.new {K : PySem.W.Frag} {M S0 S : Addr → Prop} {H0 H : Hp} {σ : Sg} {δ : DSt} (s : StS K M S0 H0 S σ H δ) (i : Nat) {p : Addr} {vs : List V} {ds : List D} (hp : H p = none) (r : RepL K S H vs ds) :
    StS K M S0 H0 (fun b => S b ∨ b = p) (σ.set i (some (.ref p))) (upd H p (.lst vs)) (δ.set i (.ow ds)) ∧ Ev S H (fun b => S b ∨ b = p) (upd H p (.lst vs)) := by
  have e : Same H (upd H p (.lst vs)) := same_new hp _
  exact s.newG i hp e upd_same (r.ev ⟨fun b o h t _ => e.at b o h, fun b o h n z => z.elim n fun z => (by rw [z, hp] at h; cases h), fun b o h _ => e.dom b o h⟩)
theorem StS.chgT {K : PySem.W.Frag} {M S0 S : Addr → Prop} {H0 H H' : Hp} {σ : Sg} {δ : DSt} (s : StS K M S0 H0 S σ H δ) {i : Nat} {a : Addr} {t t0 : DS} {u0 : HO} (h : δ[i]? = some t) (hm : t.mutb = true) (hs : σ[i]? = some (some (.ref a)))
    (k : KeepM (· = a) H H') (hv : H' a = some u0) (hm0 : t0.mutb = true) (hob : (∃ c fs, t = .ob c fs) ↔ ∃ c fs, t0 = .ob c fs) (r : SlotOk K S H' (some (.ref a)) t0) : StS K M S0 H0 S σ H' (δ.set i t0) ∧ Ev S H S H' := by
  obtain ⟨o, w1, w2⟩ := s.st.slot i _ h
  obtain ⟨a', u, w3, w4, w5⟩ := w2.addr hm
  rw [hs] at w1
  cases w1
  cases w3
  have ev : Ev S H S H' := ⟨fun b o h t n => k.keep b o h t fun z => n (by rw [z]; exact w5), fun _ _ _ n => n, fun b o h _ => k.dom b o h⟩
  refine ⟨⟨⟨by rw [List.length_set, s.st.len], fun j t hj => ?_, fun j k b t u h1 h2 m1 m2 h3 h4 => ?_, s.st.here.mono k⟩, ⟨fun b o q nt n => ?_, fun P t => k.tab P (s.same.tab P t), fun b o q => let ⟨u, h1⟩ := s.same.dom b o q; k.dom b u h1, fun b o q p => let ⟨u, h1, p1⟩ := s.same.pl b o q p; k.pl b u h1 p1, fun b ps q => let ⟨qs, h1⟩ := s.same.tb b ps q; k.tb b qs h1⟩, s.sub, s.dom, s.ms, fun j b t h1 m h2 => ?_⟩, ev⟩
  · rcases set_get hj with ⟨rfl, rfl⟩ | ⟨hne, hj⟩
    · exact ⟨_, hs, r⟩
    · obtain ⟨o, h1, h2⟩ := s.st.slot j t hj
      refine ⟨o, h1, h2.move ev.keep ev.off fun b q m => ?_⟩
      obtain ⟨b', u, q1, q2, q3⟩ := h2.addr m
      rw [q1] at q
      cases q
      subst q1
      have nab : b ≠ a := fun z => hne (s.st.sep j i a t _ hj h m hm (by rw [← z]; exact h1) hs)
      exact ⟨fun u q nt => k.keep _ _ q nt nab, q3⟩
  · have back : ∀ {j : Nat} {t' : DS}, (δ.set i t0)[j]? = some t' → t'.mutb = true → ∃ t'' : DS, δ[j]? = some t'' ∧ t''.mutb = true := fun {j t'} q m => by
      rcases set_get q with ⟨rfl, _⟩ | ⟨_, q⟩
      · exact ⟨_, h, hm⟩
      · exact ⟨_, q, m⟩
    obtain ⟨_, q1, p1⟩ := back h1 m1
    obtain ⟨_, q2, p2⟩ := back h2 m2
    exact s.st.sep j k b _ _ q1 q2 p1 p2 h3 h4
  · have : b ≠ a := fun z => by
      rw [z] at q n
      rcases s.own i a t h hm hs with ⟨w, _⟩ | ⟨w, _⟩
      · rw [w] at q; cases q
      · exact n w
    exact k.keep b o (s.same.keep b o q nt n) nt this
  · rcases set_get h1 with ⟨rfl, e⟩ | ⟨_, h1⟩
    · rw [hs] at h2
      cases h2
      subst e
      rcases s.own _ a _ h hm hs with ⟨w, w2⟩ | ⟨w, w2⟩
      · exact .inl ⟨w, fun c fs z => let ⟨c, fs, z⟩ := hob.mpr ⟨c, fs, z⟩; w2 c fs z⟩
      · exact .inr ⟨w, hob.mp w2⟩
    · exact s.own j b t h1 m h2
theorem StS.chg {K : PySem.W.Frag} {M S0 S : Addr → Prop} {H0 H : Hp} {σ : Sg} {δ : DSt} (s : StS K M S0 H0 S σ H δ) {i : Nat} {a : Addr} {xs : List V} {ds : List D} (h : δ[i]? = some (.ow ds)) (hs : σ[i]? = some (some (.ref a))) {ys : List V} {es : List D}
    (r : RepL K S H ys es) : StS K M S0 H0 S σ (upd H a (.lst ys)) (δ.set i (.ow es)) ∧ Ev S H S (upd H a (.lst ys)) := by
  obtain ⟨o, w1, a', xs', w2, w3, w4, w5⟩ := s.st.slot i _ h
  rw [hs] at w1
  cases w1
  cases w2
  exact s.chgT h rfl hs (keepM_upd w3) upd_same rfl ⟨fun ⟨_, _, z⟩ => (by cases z), fun ⟨_, _, z⟩ => (by cases z)⟩ ⟨a, ys, rfl, upd_same, w4, r.ev ⟨fun b o h _ n => by rw [upd_ne (fun z => n (by rw [z]; exact w4))]; exact h, fun _ _ _ n => n, fun b o h _ => (keepM_upd w3).dom b o h⟩⟩
def frz (i : Nat) (δ : DSt) : DSt := match δ[i]? with
  | some (.ow ds) => δ.set i (.fz (.lst ds))
  | some (.od ks ds) => δ.set i (.fz (.dic ks ds))
  | _ => δ
theorem StS.frzT {K : PySem.W.Frag} {M S0 S : Addr → Prop} {H0 H : Hp} {σ : Sg} {δ : DSt} (s : StS K M S0 H0 S σ H δ) {i : Nat} {a : Addr} {t : DS} {d : D} (h : δ[i]? = some t) (hm : t.mutb = true) (hno : ∀ c fs, t ≠ .ob c fs) (w1 : σ[i]? = some (some (.ref a)))
    (r : Rep K (fun b => S b ∧ b ≠ a) H (.ref a) d) : StS K M S0 H0 (fun b => S b ∧ b ≠ a) σ H (δ.set i (.fz d)) ∧ Ev S H (fun b => S b ∧ b ≠ a) H := by
  have h0 : H0 a = none := (s.own i a t h hm w1).elim (fun z => z.1) fun ⟨_, c, fs, z⟩ => absurd z (hno c fs)
  have ev : Ev S H (fun b => S b ∧ b ≠ a) H := ⟨fun _ _ h _ _ => h, fun _ _ _ n z => n z.1, fun _ o h _ => ⟨o, h⟩⟩
  refine ⟨⟨⟨by rw [List.length_set, s.st.len], fun j t hj => ?_, fun j k b f g h1 h2 m1 m2 h3 h4 => ?_, ⟨fun b z => s.st.here.at_ b z.1, s.st.here.tabs⟩⟩, s.same, fun b z => ⟨s.sub b z, fun q => ?_⟩, s.dom, s.ms, fun j b f h1 m h2 => ?_⟩, ev⟩
  · rcases set_get hj with ⟨rfl, rfl⟩ | ⟨hne, hj⟩
    · exact ⟨_, w1, _, rfl, r⟩
    · obtain ⟨o, h1, h2⟩ := s.st.slot j t hj
      refine ⟨o, h1, h2.move ev.keep ev.off fun b q m => ?_⟩
      obtain ⟨b', u, q1, q2, q3⟩ := h2.addr m
      rw [q1] at q
      cases q
      subst q1
      have nab : b ≠ a := fun z => hne (s.st.sep j i a _ _ hj h m hm (by rw [← z]; exact h1) w1)
      exact ⟨fun _ q _ => q, q3, nab⟩
  · rcases set_get h1 with ⟨_, q⟩ | ⟨_, h1⟩
    · subst q; cases m1
    · rcases set_get h2 with ⟨_, q⟩ | ⟨_, h2⟩
      · subst q; cases m2
      · exact s.st.sep j k b f g h1 h2 m1 m2 h3 h4
  · obtain ⟨o, q', _⟩ := s.dom.at_ b z
    rw [q, h0] at q'
    cases q'
  · rcases set_get h1 with ⟨_, q⟩ | ⟨_, h1⟩
    · subst q; cases m
    · exact s.own j b f h1 m h2
theorem StS.frz {K : PySem.W.Frag} {M S0 S : Addr → Prop} {H0 H : Hp} {σ : Sg} {δ : DSt} (s : StS K M S0 H0 S σ H δ) (i : Nat) : ∃ S', StS K M S0 H0 S' σ H (DL.frz i δ) ∧ Ev S H S' H := by
  unfold DL.frz
  cases h : δ[i]? with
  | none => exact ⟨S, s, .refl⟩
  | some t =>
    cases t with
    | un => exact ⟨S, s, .refl⟩
    | fz d => exact ⟨S, s, .refl⟩
    | ob c fs => exact ⟨S, s, .refl⟩
    | ow ds =>
      obtain ⟨o, w1, a, xs, w2, w3, w4, w5⟩ := s.st.slot i _ h
      subst w2
      have ev : Ev S H (fun b => S b ∧ b ≠ a) H := ⟨fun _ _ h _ _ => h, fun _ _ _ n z => n z.1, fun _ o h _ => ⟨o, h⟩⟩
      exact ⟨_, s.frzT h rfl (fun _ _ z => by cases z) w1 (.lst w3 (fun z => z.2 rfl) (w5.ev ev))⟩
    | od ks ds =>
      obtain ⟨o, w1, a, xs, w2, w3, w4, w5, w6, w7⟩ := s.st.slot i _ h
      subst w2
      have ev : Ev S H (fun b => S b ∧ b ≠ a) H := ⟨fun _ _ h _ _ => h, fun _ _ _ n z => n z.1, fun _ o h _ => ⟨o, h⟩⟩
      exact ⟨_, s.frzT h rfl (fun _ _ z => by cases z) w1 (.dic w3 (fun z => z.2 rfl) w5 w6 (w7.ev ev))⟩
def fFrz (i : Nat) (F : FS) : FS := fun δ => F (frz i δ)
theorem dss_frz (i : Nat) (h : DSts X e0 E rest F) : DSts X e0 E rest (fFrz i F) := by
  refine PSs.imp h fun D σ H hq => ?_
  obtain ⟨S, δ, s, q⟩ := hq
  obtain ⟨S', s', e'⟩ := s.frz i
  exact ⟨S', frz i δ, s', q.ev e'⟩
def fSet (i : Nat) (f : FE) : FS := fun δ => O.on (f δ) fun d => .nx (δ.set i (.fz d))
theorem ds_set {i : Nat} {x : Str} {pos' : Pos} (hN : X.N.Nodup) (hi : X.N[i]? = some x) (hx : Loc X.env.scope x) (h : DE X (fun _ => E) a f) (hs : swapsWith a (some (.Name x pos')) pos.line X.env = pure false := by rfl)
    (hf : X.fn x = true ∨ X.env.scope.names.lookup x = some .local := by first | exact .inl rfl | exact .inr rfl | assumption) : DSt1 X e0 E (.Assign [.Name x pos'] a pos) (fSet i f) := by
  refine PS.imp (ps_set hN hi hx h hs hf) fun D σ H hq => ?_
  obtain ⟨S, δ, s, q⟩ := hq
  exact ⟨S, δ, s.st, Fin.on s q fun d q v H' e' r => q S _ H' ((s.mono e').set i r) (.same e')⟩
def fNew (i : Nat) (fl : FL) : FS := fun δ => O.on (fl δ) fun ds => .nx (δ.set i (.ow ds))
theorem ds_new {i : Nat} {x : Str} {pos' p : Pos} (hN : X.N.Nodup) (hi : X.N[i]? = some x) (hx : Loc X.env.scope x) (h : DA X (fun _ => E) es fl) (hs : swapsWith (.List es p) (some (.Name x pos')) pos.line X.env = pure false := by rfl)
    (hl : es.length ≤ sizeLine := by exact Nat.le_of_ble_eq_true rfl) (hf : X.fn x = true ∨ X.env.scope.names.lookup x = some .local := by first | exact .inl rfl | exact .inr rfl | assumption) : DSt1 X e0 E (.Assign [.Name x pos'] (.List es p) pos) (fNew i fl) := by
  refine PS.imp (ps_set hN hi hx (pe_lst h.pa) hs hf) fun D σ H hq => ?_
  obtain ⟨S, δ, s, q⟩ := hq
  refine ⟨S, δ, s.st, ?_⟩
  have len := h.len δ
  unfold fNew at q
  cases r : fl δ with
  | bad => rw [r] at q; exact q.elim
  | exc n xs =>
    rw [r] at q
    exact fun cls dx H' e x => q cls dx H' (s.same.trans e) (x.to s.sub)
  | ok ds =>
    rw [r] at q
    intro vs H1 e1 r1
    refine ⟨by rw [r1.length, len ds r]; exact hl, fun p hp => ?_⟩
    obtain ⟨s2, e2⟩ := (s.mono e1).new i hp r1
    exact q _ _ _ s2 ((Ev.same e1).trans e2)
def fOwn (i : Nat) (δ : DSt) : R (List D) := match δ[i]? with
  | some (.ow ds) => .ok ds
  | _ => .bad
theorem fOwn_ne {i : Nat} {δ : DSt} {n : Str} {xs : List D} (h : fOwn i δ = .exc n xs) : False := by
  unfold fOwn at h
  split at h <;> cases h
theorem fOwn_at {i : Nat} {δ : DSt} {ds : List D} (h : fOwn i δ = .ok ds) : δ[i]? = some (.ow ds) := by
  unfold fOwn at h
  cases q : δ[i]? with
  | none => rw [q] at h; cases h
  | some t =>
    rw [q] at h
    cases t with
    | ow es => cases h; rfl
    | _ => cases h
def fApp (i : Nat) (f : FE) : FS := fun δ => O.on (fOwn i δ) fun ds => O.on (f δ) fun d => if okLt ds.length = true then .nx (δ.set i (.ow (ds ++ [d]))) else .bad
theorem ds_app {i : Nat} {call : Expr} (hb : ∀ t, PA X [a] t → PE X call (tBM X.K "list" rAppend (tVar i) t)) (h : DE X (fun _ => E) a f) (hst : starEach (a :: []) X.env = (false, eval a X.env) :: starEach [] X.env := by rfl)
    (hs : swapsWith call none pos.line X.env = pure false := by rfl) : DSt1 X e0 E (.Expr call pos) (fApp i f) := by
  refine PS.imp (ps_expr (hb _ (pa_cons h pa_nil hst)) hs) fun D σ H hq => ?_
  obtain ⟨S, δ, s, q⟩ := hq
  unfold fApp at q
  cases r : fOwn i δ with
  | bad => rw [r] at q; exact q.elim
  | exc n xs => exact (fOwn_ne r).elim
  | ok ds =>
    rw [r] at q
    have hd := fOwn_at r
    obtain ⟨o, w1, b, xs, w2, w3, w4, w5⟩ := s.st.slot i _ hd
    subst w2
    refine ⟨.ref b, w1, .inl ⟨rfl, _, SqL.of w3⟩, S, δ, s.st, Fin.on (f := fun d => if okLt ds.length = true then .nx (δ.set i (.ow (ds ++ [d]))) else .bad) s q fun d q v H' e' r1 => ?_⟩
    by_cases c : okLt ds.length = true
    · simp only [c, if_true] at q
      refine ⟨b, xs, v, rfl, rfl, e'.at _ _ w3, by rw [w5.length]; exact okLt_of c, ?_⟩
      obtain ⟨s2, e2⟩ := (s.mono e').chg (xs := xs) hd w1 (ys := xs ++ [v]) (es := ds ++ [d]) ((w5.mono e').append (.cons r1 .nil))
      exact q S σ _ s2 ((Ev.same e').trans e2)
    · simp only [c, if_false] at q
      exact q.elim
end
end DL

namespace DL
open PySem PySem.Spec PyProof.Rows L2

abbrev FP := DSt → D → Option DSt
abbrev FPs := DSt → List D → Option DSt
def tG (K : PySem.W.Frag) (M S0 : Addr → Prop) (H0 : Hp) (put : FP) : TG := fun v σ H Q => ∃ S δ d δ', StS K M S0 H0 S σ H δ ∧ Rep K S H v d ∧ put δ d = some δ' ∧ ∀ σ', StS K M S0 H0 S σ' H δ' → Q σ' H
def tGs (K : PySem.W.Frag) (M S0 : Addr → Prop) (H0 : Hp) (put : FPs) : TGs := fun vs σ H Q => ∃ S δ ds δ', StS K M S0 H0 S σ H δ ∧ RepL K S H vs ds ∧ put δ ds = some δ' ∧ ∀ σ', StS K M S0 H0 S σ' H δ' → Q σ' H
def DG (X : Cx) (e0 : Ent) (tg : Expr) (put : FP) : Prop := PG X tg (tG X.K e0.M e0.S e0.H put)
def DGs (X : Cx) (e0 : Ent) (tgs : List Expr) (put : FPs) : Prop := PGs X tgs (tGs X.K e0.M e0.S e0.H put)
theorem PG.imp {X : Cx} {e : Expr} {t t' : TG} (h : PG X e t) (k : ∀ v σ H Q, t' v σ H Q → t v σ H Q) : PG X e t' := ⟨fun pins s σ H v u Q I r q => h.run pins s σ H v u Q I r (k v σ H Q q)⟩
theorem PGs.imp {X : Cx} {es : List Expr} {t t' : TGs} (h : PGs X es t) (k : ∀ v σ H Q, t' v σ H Q → t v σ H Q) : PGs X es t' := ⟨fun pins s σ H v u Q I r q => h.run pins s σ H v u Q I r (k v σ H Q q)⟩
def pName (i : Nat) : FP := fun δ d => some (δ.set i (.fz d))
def pNil : FPs := fun δ ds => match ds with
  | [] => some δ
  | _ => none
def pCons (p : FP) (ps : FPs) : FPs := fun δ ds => match ds with
  | d :: ds => (p δ d).bind fun δ' => ps δ' ds
  | [] => none
def pTup (n : Nat) (ps : FPs) : FP := fun δ d => match d with
  | .tup ds => if ds.length = n then ps δ ds else none
  | _ => none
section
variable {X : Cx} {e0 : Ent} {E : XK} {Eσ : Sg → XK} {pos : Pos} {st : Stmt} {rest : List Stmt} {F G : FS} {a b c tg : Expr} {f g : FE} {es : List Expr} {fl : FL}
theorem dg_name (i : Nat) {x : Str} (hN : X.N.Nodup) (hi : X.N[i]? = some x) (hx : Loc X.env.scope x) (hf : X.fn x = true ∨ X.env.scope.names.lookup x = some .local := by first | exact .inl rfl | exact .inr rfl | assumption) : DG X e0 (.Name x pos) (pName i) := by
  refine PG.imp (pg_name hN hi hx hf) fun v σ H Q h => ?_
  obtain ⟨S, δ, d, δ', s, r, e, q⟩ := h
  cases e
  exact q _ (s.set i r)
def fAsg (p : FP) (f : FE) : FS := fun δ => O.on (f δ) fun d => match p δ d with
  | some δ' => .nx δ'
  | none => .bad
def fAug (F : D → D → Option D) (i : Nat) (f : FE) : FS := fun δ => O.on (fVar i δ) fun x => O.on (f δ) fun y => O.on (R.of (F x y)) fun z => .nx (δ.set i (.fz z))
def ItOk (K : PySem.W.Frag) (S : Addr → Prop) (H : Hp) (J : It) (ds : List D) : Prop :=
  ∀ S' H', Ev S H S' H' → Dom K S' H' → ∀ i : Nat, (i < ds.length → J.go i H' ∧ ∀ x H2, J.yld i H' x H2 → Same H' H2 ∧ ∃ d, ds[i]? = some d ∧ Rep K S' H2 x d) ∧ (ds.length ≤ i → J.stop i H')
def tI (K : PySem.W.Frag) (E : Sg → XK) (f : FL) : TI := fun σ H R => ∃ S δ, StE K S σ H δ ∧ Res K S H (E σ) (f δ) fun ds => ∀ J H', Same H H' → ItOk K S H' J ds → R J H'
def DI (X : Cx) (E : Sg → XK) (tg iter : Expr) (f : FL) : Prop := PI X tg iter (tI X.K E f)
theorem PI.imp {X : Cx} {tg e : Expr} {t t' : TI} (h : PI X tg e t) (k : ∀ σ H R, t' σ H R → t σ H R) : PI X tg e t' := ⟨fun pins s σ H R I q => h.run pins s σ H R I (k σ H R q)⟩
def dItems : D → Option (List D)
  | .lst xs => some xs
  | .tup xs => some xs
  | .scr xs => some xs
  | .str z => some (z.cps.toList.map fun c => .str ⟨#[c]⟩)
  | _ => none
def fItems (f : FE) : FL := fun δ => (f δ).bind fun d => R.of (dItems d)
def dInts (lo : Int) (n : Nat) : List D := (List.range n).map fun i : Nat => .int (lo + i)
theorem itOk_r {K : PySem.W.Frag} {S : Addr → Prop} {H : Hp} {lo : Int} {n : Nat} : ItOk K S H (Itr lo n) (dInts lo n) := fun S' H' ev dm i => by
  have hl : (dInts lo n).length = n := by simp [dInts]
  rw [hl]
  refine ⟨fun hi => ⟨hi, fun x H2 y => ?_⟩, fun hi => hi⟩
  obtain ⟨rfl, rfl⟩ := y
  exact ⟨Same.refl _, .int (lo + i), by simp [dInts, hi], .int _⟩
def small62 (i : Int) : Bool := Nat.blt i.natAbs (2 ^ 62)
theorem small62_of {i : Int} (h : small62 i = true) : -(2 ^ 62) ≤ i ∧ i < 2 ^ 62 := by
  have h1 : i.natAbs < 2 ^ 62 := Nat.blt_eq.mp h
  omega
theorem small62_by {i : Int} (h : i.natAbs < 4611686018427387904) : small62 i = true := Nat.blt_eq.mpr h
def dRange : List D → Option (List D)
  | [.int j] => if small62 j = true then some (dInts 0 j.toNat) else none
  | [.int i, .int j] => if (small62 i && small62 j) = true then some (dInts i (j - i).toNat) else none
  | _ => none
def fRange (fl : FL) : FL := fun δ => (fl δ).bind fun ds => R.of (dRange ds)
theorem di_range1 {p : Pos} (hg : Gl X "range") (hm : X.mg "range" = none) (ha : DA X Eσ [a] fl) (hs : starEach [a] X.env = [(false, eval a X.env)] := by rfl) : DI X Eσ tg (.Call (.Name "range" p) [a] [] pos) (fRange fl) := by
  refine PI.imp (pi_range1 hg hm ha.pa hs) fun σ H R h => ?_
  obtain ⟨S, δ, st, q⟩ := h
  refine ⟨S, δ, st, ?_⟩
  have q' := Res.on q
  cases r : fl δ with
  | bad => rw [r] at q'; exact q'.elim
  | exc n xs => rw [r] at q'; exact q'
  | ok ds =>
    rw [r] at q'
    intro vs H' e' rl
    obtain ⟨es, h1, h2⟩ := Res.of q'
    have hl := ha.len δ ds r
    match ds, hl with
    | [d], _ =>
      cases d <;> simp only [dRange, Option.ite_none_right_eq_some, Option.some.injEq, reduceCtorEq] at h1
      obtain ⟨c, rfl⟩ := h1
      obtain ⟨v, rfl, r1⟩ := vl1 rl
      obtain ⟨c1, c2⟩ := small62_of c
      exact ⟨_, by rw [r1.intE], c1, c2, h2 _ H' e' itOk_r⟩
def loopF (put : FP) (body : FS) : List D → DSt → O
  | [], δ => .nx δ
  | d :: ds, δ => match put δ d with
    | none => .bad
    | some δ1 => match body δ1 with
      | .nx δ2 => loopF put body ds δ2
      | .ct δ2 => loopF put body ds δ2
      | .bk δ2 => .nx δ2
      | .rt d δ2 => .rt d δ2
      | .exc n xs => .exc n xs
      | .bad => .bad
def fFor (fi : FL) (put : FP) (body : FS) : FS := fun δ => O.on (fi δ) fun ds => loopF put body ds δ
theorem ds_for {iter : Expr} {body : List Stmt} {fi : FL} {put : FP} (hp : PassesOwn (model X.prog X.w) X.A X.env X.xe) (hc : X.calm = true) (hi : DI X (fun _ => E) tg iter fi) (hg : DG X e0 tg put) (hb : DSts X e0 E body F)
    (hs : ∀ x, foldedSetIterable iter X.env x = pure x := by intro _; rfl) : DSt1 X e0 E (.For tg iter body [] pos) (fFor fi put F) := by
  refine PS.imp (ps_for hp hc hi hg hb hs) fun D σ H hq => ?_
  obtain ⟨S, δ, s, q⟩ := hq
  refine ⟨S, δ, s.st, Fin.on (f := fun ds => loopF put F ds δ) s q fun ds q J H1 e1 io => ?_⟩
  refine ⟨fun i m σ' H' => ∃ S' δ', StS X.K e0.M e0.S e0.H S' σ' H' δ' ∧ Ev S H1 S' H' ∧ m = ds.length - i ∧ i ≤ ds.length ∧ Fin X.K e0.M e0.S e0.H E D S' H' (loopF put F (ds.drop i) δ'),
    ⟨ds.length, S, δ, s.mono e1, .refl, rfl, Nat.zero_le _, q.ev (.same e1)⟩, ?_⟩
  rintro i m σ' H' ⟨S', δ', s', ev, rfl, hi, q'⟩
  obtain ⟨go, stop⟩ := io S' H' ev s'.st.here i
  by_cases hlt : i < ds.length
  · obtain ⟨g1, g2⟩ := go hlt
    refine .inr ⟨g1, fun σ2 H2 => ∃ m', m' < ds.length - i ∧ ∃ S2 δ2, StS X.K e0.M e0.S e0.H S2 σ2 H2 δ2 ∧ Ev S H1 S2 H2 ∧ m' = ds.length - (i + 1) ∧ i + 1 ≤ ds.length ∧ Fin X.K e0.M e0.S e0.H E D S2 H2 (loopF put F (ds.drop (i + 1)) δ2), fun _ _ z => z, fun x H2 y => ?_⟩
    obtain ⟨e2, d, hd, rx⟩ := g2 x H2 y
    rw [List.drop_eq_getElem_cons hlt] at q'
    have ed : d = ds[i] := by
      rw [List.getElem?_eq_getElem hlt] at hd
      exact (Option.some.inj hd).symm
    subst ed
    unfold loopF at q'
    cases pd : put δ' ds[i] with
    | none => rw [pd] at q'; exact q'.elim
    | some δ1 =>
      rw [pd] at q'
      dsimp only at q'
      refine ⟨S', δ', _, δ1, s'.mono e2, rx, pd, fun σ2 s2 => ⟨S', δ1, s2, ?_⟩⟩
      have again : ∀ {S3 : Addr → Prop} {σ3 : Sg} {H3 : Hp} {δ2 : DSt}, Fin X.K e0.M e0.S e0.H E D S' H' (loopF put F (ds.drop (i + 1)) δ2) → StS X.K e0.M e0.S e0.H S3 σ3 H3 δ2 → Ev S' H2 S3 H3 →
          ∃ m', m' < ds.length - i ∧ ∃ S2 δ2, StS X.K e0.M e0.S e0.H S2 σ3 H3 δ2 ∧ Ev S H1 S2 H3 ∧ m' = ds.length - (i + 1) ∧ i + 1 ≤ ds.length ∧ Fin X.K e0.M e0.S e0.H E D S2 H3 (loopF put F (ds.drop (i + 1)) δ2) :=
        fun {S3 σ3 H3 δ2} z s3 e3 => ⟨ds.length - (i + 1), by omega, S3, δ2, s3, ev.trans ((Ev.same e2).trans e3), rfl, hlt, z.ev ((Ev.same e2).trans e3)⟩
      cases bd : F δ1 with
      | nx δ2 => rw [bd] at q'; exact fun S3 σ3 H3 s3 e3 => again q' s3 e3
      | ct δ2 => rw [bd] at q'; exact fun S3 σ3 H3 s3 e3 => again q' s3 e3
      | bk δ2 => rw [bd] at q'; exact fun S3 σ3 H3 s3 e3 => q' S3 σ3 H3 s3 ((Ev.same e2).trans e3)
      | rt d δ2 => rw [bd] at q'; exact q'
      | exc n xs => rw [bd] at q'; exact q'
      | bad => rw [bd] at q'; exact q'
  · have e : i = ds.length := by omega
    subst e
    rw [List.drop_length] at q'
    exact .inl ⟨stop (Nat.le_refl _), q' S' σ' H' s' .refl⟩
def whileF (c : FB) (body : FS) : Nat → DSt → O
  | 0, _ => .bad
  | n + 1, δ => O.on (c δ) fun b => match b with
    | false => .nx δ
    | true => match body δ with
      | .nx δ2 => whileF c body n δ2
      | .ct δ2 => whileF c body n δ2
      | .bk δ2 => .nx δ2
      | .rt d δ2 => .rt d δ2
      | .exc n xs => .exc n xs
      | .bad => .bad
def DM (X : Cx) (e0 : Ent) (E : XK) (cs : List MatchCase) (G : Str → FS) : Prop :=
  ∀ (pins : List (Addr × Obj)) (s : Shared) (σ : Sg) (H : Hp) (D : Ends) (z : Str) (t : Tok) (first : Bool), Inv X pins σ H s → tS X.K e0.M e0.S e0.H E (G z) D σ H → wpAny (model X.prog X.w) X.A (matchCases cs X.env (.str z t) first) (SP X pins D) X.xe s
def DOr (X : Cx) (ps : List Pattern) (ws : List Str) : Prop :=
  ∀ (pins : List (Addr × Obj)) (s : Shared) (σ : Sg) (H : Hp) (z : Str) (t : Tok) (Q : Option (List (Str × Value)) → Shared → Prop), Inv X pins σ H s → (∀ s', Inv X pins σ H s' → Q (if z ∈ ws then some [] else none) s') →
    wpAny (model X.prog X.w) X.A (matchFirst ps X.env (.str z t)) Q X.xe s
def fMatch (f : FE) (G : Str → FS) : FS := fun δ => O.on (f δ) fun d => match d with
  | .str z => G z δ
  | _ => .bad
end
end DL

namespace DL
open PySem PySem.Spec PyProof.Rows L2

def spD (K : PySem.W.Frag) (n : Nat) (G : List D → R D) : Sp := fun vs H Q E => ∃ S ds, Dom K S H ∧ RepL K S H vs ds ∧ ds.length = n ∧ Res K S H E (G ds) fun d => ∀ v H', Same H H' → Rep K S H' v d → Q v H'
def FnG (P : Program) (w : World) (K : PySem.W.Frag) (mg : Str → Option Value) (base : Heap) (k : Nat) (f : Addr) (n : Nat) (G : List D → R D) : Prop := FnR P w K mg base (L2.CX P w) k f (spD K n G)
structure Bd (X : Cx) (E : Sg → XK) (k : Nat) : Prop where
  room : Room k X.A
  pass : PsA (L2.CX X.prog X.w) X E
  calm : X.calm = true
  own : PassesOwn (model X.prog X.w) X.A X.env X.xe
theorem Bd.blk {X : Cx} {Eσ : Sg → XK} {k : Nat} (b : Bd X Eσ k) {s : Shared} {H : Hp} {scope : Scope} {cenv : Env} {fp : List Addr} : Bd (X.blk s H scope cenv fp) (fun _ => E0) k := ⟨b.room, PsA.of passL, b.calm, PassesOwn.never⟩
theorem Bd.hu {X : Cx} {Eσ : Sg → XK} {k : Nat} (b : Bd X Eσ k) : X.A.units + 1 < cLine := hu_of b.room
theorem Bd.hu64 {X : Cx} {Eσ : Sg → XK} {k : Nat} (b : Bd X Eσ k) : X.A.units + 64 < cLine := b.room.units
section
variable {P : Program} {w : World} {K : PySem.W.Frag} {mg : Str → Option Value} {base : Heap}
theorem FnG.mono {f : Addr} {n j k : Nat} {G : List D → R D} (F : FnG P w K mg base j f n G) (h : j ≤ k) : FnG P w K mg base k f n G := FnR.mono F h
def runD (m : Nat) (F : FS) (ds : List D) : R D := match F (ds.map DS.fz ++ List.replicate (m - ds.length) DS.un) with
  | .rt d _ => .ok d
  | .nx _ => .ok .non
  | .exc n xs => .exc n xs
  | _ => .bad
theorem start_st {S : Addr → Prop} {H : Hp} {N : List Str} {vs : List V} {ds : List D} (r : RepL K S H vs ds) (dm : Dom K S H) (hl : ds.length ≤ N.length) :
    StS K NoM S H S (L2.start N vs) H (ds.map DS.fz ++ List.replicate (N.length - ds.length) DS.un) := by
  have l := r.length
  have no : ∀ (i : Nat) (t : DS), (ds.map DS.fz ++ List.replicate (N.length - ds.length) DS.un)[i]? = some t → t.mutb = true → False := fun i t h z => by
    have m := List.mem_of_getElem? h
    rcases List.mem_append.mp m with m | m
    · obtain ⟨d, _, e⟩ := List.mem_map.mp m
      subst e
      cases z
    · rw [List.eq_of_mem_replicate m] at z
      cases z
  refine ⟨⟨?_, fun i s h => ?_, fun i j a t u h1 _ m _ _ _ => (no i t h1 m).elim, dm⟩, KeepM.refl, fun _ z => z, dm, fun _ z => z.elim, fun i a t h1 m _ => (no i t h1 m).elim⟩
  · unfold L2.start
    rw [List.length_append, List.length_append, List.length_map, List.length_map, List.length_replicate, List.length_replicate, l]
  · by_cases hi : i < ds.length
    · rw [List.getElem?_append_left (by simpa using hi), List.getElem?_map] at h
      cases e : ds[i]? with
      | none => rw [e] at h; cases h
      | some d =>
        rw [e] at h
        cases h
        obtain ⟨v, h1, h2⟩ := r.get e
        refine ⟨some v, ?_, v, rfl, h2⟩
        unfold L2.start
        rw [List.getElem?_append_left (by rw [List.length_map, l]; exact hi), List.getElem?_map, h1]
        rfl
    · rw [List.getElem?_append_right (by simpa using hi)] at h
      rw [List.getElem?_replicate] at h
      split at h
      · rename_i hlt
        cases h
        refine ⟨none, ?_, trivial⟩
        unfold L2.start
        rw [List.length_map] at hlt
        rw [List.getElem?_append_right (by rw [List.length_map, l]; omega), List.getElem?_replicate, List.length_map, l, if_pos hlt]
      · cases h
theorem fnok_of {x qual : Str} {params : Arguments} {body : List Stmt} {scope : Scope} {dvs : List V} {kws : List (Str × V)} {f : Addr} {fd : FuncData} {N ps : List Str} {k : Nat} {F : FS} (Fd : FunD K x qual params body scope dvs kws f fd) (Sc : FnScope N ps scope)
    (hbody : ∀ (cdv : Value) (A : Around) (outer : List Env) (s : Shared) (e0 : Ent) (H : Hp) (E : XK), Bd (cxOf (L2.CX P w) P w K mg base N qual scope f cdv A outer s H E) (fun _ => E) k →
      Takes (cxOf (L2.CX P w) P w K mg base N qual scope f cdv A outer s H E) (fun cls d _ H => E cls d H) → DSts (cxOf (L2.CX P w) P w K mg base N qual scope f cdv A outer s H E) e0 E body F) : FnOk P w K mg base (L2.CX P w) (k + 1) f fd ps (spD K ps.length (runD N.length F)) := by
  have hpl : ps.length ≤ N.length := by have := congrArg List.length Sc.pre; rw [List.length_take] at this; omega
  refine FunD.ok Fd Sc (fun vs H Q E h => ?_) (fun cdv A outer s H vs Q E hr h => ?_)
  · obtain ⟨S, ds, _, r, hl, _⟩ := h
    rw [r.length, hl]
  · obtain ⟨S, ds, dm, r, hl, q⟩ := h
    have tk : Takes (cxOf (L2.CX P w) P w K mg base N qual scope f cdv A outer s H E) (fun cls d _ H => E cls d H) := takes_of rfl rfl rfl rfl
    refine ⟨_, hbody cdv A outer s ⟨NoM, S, H⟩ H E ⟨hr, PsA.of (passes_call tk fun _ _ _ _ z => z), rfl, passes_of rfl⟩ tk, S, _, start_st r dm (by omega), ?_⟩
    unfold runD at q
    show Fin K NoM S H E _ S H (F _)
    cases e : F (ds.map DS.fz ++ List.replicate (N.length - ds.length) DS.un) with
    | rt d δ =>
      rw [e] at q
      exact fun S' σ' v H' s' r' => q v H' s'.same.all (r'.less s'.sub)
    | nx δ =>
      rw [e] at q
      exact fun S' σ' H' s' _ => q .non H' s'.same.all .non
    | exc n xs =>
      rw [e] at q
      exact fun cls dx H' k x => q cls dx H' k.all x
    | bk δ => rw [e] at q; exact q.elim
    | ct δ => rw [e] at q; exact q.elim
    | bad => rw [e] at q; exact q.elim
theorem fng_of {x qual : Str} {params : Arguments} {body : List Stmt} {scope : Scope} {dvs : List V} {kws : List (Str × V)} {f : Addr} {fd : FuncData} {N ps : List Str} {k : Nat} {F : FS} (Fd : FunD K x qual params body scope dvs kws f fd) (Sc : FnScope N ps scope)
    (hb : Binds K fd ps []) (hbody : ∀ (cdv : Value) (A : Around) (outer : List Env) (s : Shared) (e0 : Ent) (H : Hp) (E : XK), Bd (cxOf (L2.CX P w) P w K mg base N qual scope f cdv A outer s H E) (fun _ => E) k →
      Takes (cxOf (L2.CX P w) P w K mg base N qual scope f cdv A outer s H E) (fun cls d _ H => E cls d H) → DSts (cxOf (L2.CX P w) P w K mg base N qual scope f cdv A outer s H E) e0 E body F) : FnG P w K mg base (k + 1) f ps.length (runD N.length F) := by
  have G2 := (fnok_of (P := P) (w := w) (mg := mg) (base := base) Fd Sc hbody).raw hb (.nil : Vals [] [])
  exact FnR.imp G2 fun vs H Q E h => by rw [List.append_nil]; exact h
end
section
variable {X : Cx} {e0 : Ent} {E : XK} {Eσ : Sg → XK} {k : Nat} {pos p : Pos} {x : Str} {st : Stmt} {rest : List Stmt} {F : FS} {a b c tg : Expr} {f g : FE} {es : List Expr} {fl : FL}
theorem sp_of {n : Nat} {G : List D → R D} {σ : Sg} {H : Hp} {Q : VK} (ha : DA X Eσ es fl) (hn : es.length = n) (h : tD X.K Eσ (fCall G fl) σ H Q) : tDL X.K Eσ fl σ H fun vs H1 => spD X.K n G vs H1 Q (Eσ σ) := by
  obtain ⟨S, δ, st, q⟩ := h
  refine ⟨S, δ, st, ?_⟩
  have q' := Res.on q
  cases r : fl δ with
  | bad => rw [r] at q'; exact q'.elim
  | exc n xs => rw [r] at q'; exact q'
  | ok ds =>
    rw [r] at q'
    exact fun vs H1 e1 r1 => ⟨S, ds, (st.mono e1).here, r1, (ha.len δ ds r).trans hn, (Res.mono e1 (show Res X.K S H (Eσ σ) (G ds) (fun d => ∀ v H', Same H H' → Rep X.K S H' v d → Q v H') from q')).imp fun d q2 v H2 e2 r2 => q2 v H2 (e1.trans e2) r2⟩
theorem de_call {fa : Addr} {n : Nat} {G : List D → R D} (Fn : FnG X.prog X.w X.K X.mg X.base k fa n G) (B : Bd X Eσ k) (hg : Gl X x) (hm : X.mg x = some (.ref fa)) (hk : PySem.W.keepIn X.K (.ref fa) = true) (ha : DA X Eσ (a :: es) fl)
    (hn : (a :: es).length = n := by rfl) (hdb : (x == ("__debug__" : Str)) = false := by decide) (he : starEach (a :: es) X.env = (false, eval a X.env) :: starEach es X.env := by rfl) (hpl : (backTo pos (starEach es X.env)).any (·.1) = false := by rfl) :
    DE X Eσ (.Call (.Name x p) (a :: es) [] pos) (fCall G fl) := by
  refine ⟨fun pins s σ H Q I h => ?_⟩
  refine wpAny_Call_Name_kw (ld_glob I hg hm ?_ hdb)
  refine PySem.W.callWith_K (h₀ := X.base) I.ok.mod.kin hk (thn (ha.pa.run pos pins s σ H _ I (sp_of ha hn h)) fun us s1 ⟨vs, H1, I1, r, q⟩ => ⟨I1.kIn, ?_⟩) he hpl
  exact wpAny_call (run_at Fn B.room (B.pass σ) I1 r q)
abbrev FO := DSt → R (Option Int)
def tDO (K : PySem.W.Frag) (E : Sg → XK) (f : FO) : TO := fun σ H Q => ∃ S δ, StE K S σ H δ ∧ Res K S H (E σ) (f δ) fun o => ∀ H', Same H H' → Q o H'
def DO (X : Cx) (E : Sg → XK) (e : Option Expr) (f : FO) : Prop := PO X e (tDO X.K E f)
theorem PO.imp {X : Cx} {e : Option Expr} {t t' : TO} (h : PO X e t) (k : ∀ σ H Q, t' σ H Q → t σ H Q) : PO X e t' := ⟨fun pins s σ H Q I q => h.run pins s σ H Q I (k σ H Q q)⟩
def fNo : FO := fun _ => .ok none
def fSome (f : FE) : FO := fun δ => (f δ).bind fun d => match d with
  | .int i => .ok (some i)
  | _ => .bad
theorem do_no : DO X Eσ none fNo := by
  refine PO.imp po_none fun σ H Q h => ?_
  obtain ⟨S, δ, st, q⟩ := h
  exact q H (Same.refl _)
theorem do_some (h : DE X Eσ a f) : DO X Eσ (some a) (fSome f) := by
  refine PO.imp (po_some h) fun σ H Q h => ?_
  obtain ⟨S, δ, st, q⟩ := h
  refine ⟨S, δ, st, (Res.on q).imp fun d q1 v H1 e1 r1 => ?_⟩
  cases r1 with
  | int i => exact ⟨i, rfl, q1 H1 e1⟩
  | _ => exact q1.elim
def dCut : D → Option Int → Option Int → Option D
  | .lst xs, lo, hi => some (.lst (cut xs lo hi))
  | .tup xs, lo, hi => some (.tup (cut xs lo hi))
  | .str z, lo, hi => if okLe z.length = true then some (.str (cutS z lo hi)) else none
  | _, _, _ => none
def fSl (f : FE) (l h : FO) : FE := fun δ => (f δ).bind fun d => (l δ).bind fun lo => (h δ).bind fun hi => R.of (dCut d lo hi)
theorem cutV_all {vs : List V} {lo hi : Option Int} (h : HT.sIx vs.length 0 lo = 0 ∧ HT.sIx vs.length vs.length hi = vs.length) : cutV vs lo hi = vs := by
  unfold cutV
  rw [h.1, h.2, List.drop_zero, Nat.sub_zero, List.take_length]
theorem sl_all : SlR X fun x lo hi H Q => ∃ S d z, Dom X.K S H ∧ Rep X.K S H x d ∧ dCut d lo hi = some z ∧ Giv X.K S H z Q := by
  intro pins s σ H x v vl vu lo hi sl Q I rx hs pl pu q
  obtain ⟨S, d, z, dm, r, hz, q⟩ := q
  cases d with
  | lst ds =>
    simp only [dCut, Option.some.injEq] at hz
    subst hz
    obtain ⟨b, xs, e1, e2, e3⟩ := r.lstH
    exact sl_list pins s σ H x v vl vu lo hi sl Q I rx hs pl pu ⟨b, xs, e1, SqL.of e2, q.lst dm (e3.cut lo hi)⟩
  | tup ds =>
    simp only [dCut, Option.some.injEq] at hz
    subst hz
    obtain ⟨b, xs, e1, e2, e3⟩ := r.seqT
    refine sl_tupA pins s σ H x v vl vu lo hi sl Q I rx hs pl pu ⟨b, xs, e1, e2, fun hw => ?_, fun _ => q.tup dm (e3.cut lo hi)⟩
    have e4 := e3.cut lo hi
    rw [cutV_all hw] at e4
    have e5 : cut ds lo hi = ds := by
      unfold cut
      rw [← e3.length, hw.1, hw.2, List.drop_zero, Nat.sub_zero, e3.length, List.take_length]
    rw [e5] at q
    rw [← e1]
    exact q.here r
  | str y =>
    simp only [dCut, Option.ite_none_right_eq_some, Option.some.injEq] at hz
    obtain ⟨h1, rfl⟩ := hz
    exact sl_str pins s σ H x v vl vu lo hi sl Q I rx hs pl pu ⟨y, r.strE, okLe_of h1, q.here (.str _)⟩
  | _ => simp [dCut] at hz
theorem de_slice {lo hi : Option Expr} {p2 : Pos} {l h : FO} (ha : DE X Eσ a f) (hl : DO X Eσ lo l) (hh : DO X Eσ hi h) : DE X Eσ (.Subscript a (.Slice lo hi none p2) pos) (fSl f l h) := by
  refine PE.imp (pe_slice sl_all ha hl hh) fun σ H Q hq => ?_
  obtain ⟨S, δ, st, q⟩ := hq
  refine ⟨S, δ, st, (Res.on q).imp fun d q1 v H1 e1 r1 => ?_⟩
  refine ⟨S, δ, st.mono e1, ((Res.on q1).mono e1).imp fun lo' q2 H2 e2 => ?_⟩
  refine ⟨S, δ, (st.mono e1).mono e2, ((Res.on q2).mono (e1.trans e2)).imp fun hi' q3 H3 e3 => ?_⟩
  obtain ⟨z, hz, q4⟩ := Res.of q3
  have e := e1.trans (e2.trans e3)
  exact ⟨S, d, z, (st.mono e).here, (r1.mono e2).mono e3, hz, fun w H4 e4 r4 => q4 w H4 (e.trans e4) r4⟩
def fSlOw (i : Nat) (l h : FO) : FE := fun δ => (fOwn i δ).bind fun ds => (l δ).bind fun lo => (h δ).bind fun hi => .ok (.lst (cut ds lo hi))
def fLenOw (i : Nat) : FE := fun δ => (fOwn i δ).bind fun ds => .ok (.int ds.length)

def fExt (i : Nat) (f : FE) : FS := fun δ => O.on (fOwn i δ) fun ds => O.on (f δ) fun d => match d with
  | .lst es => if okLe (ds.length + es.length) = true then .nx (δ.set i (.ow (ds ++ es))) else .bad
  | _ => .bad
def fPop (j i : Nat) : FS := fun δ => O.on (fOwn i δ) fun ds => match ds.getLast? with
  | some d => .nx ((δ.set i (.ow ds.dropLast)).set j (.fz d))
  | none => .bad
def fPut (i : Nat) (fk fe : FE) : FS := fun δ => O.on (fe δ) fun d => O.on (fOwn i δ) fun ds => O.on (fk δ) fun k => match k with
  | .int n => match L2.ixN ds.length n with
    | some j => .nx (δ.set i (.ow (ds.set j d)))
    | none => .bad
  | _ => .bad
end
end DL

namespace DL
open PySem PySem.Spec PyProof.Rows L2

def D.tyN : D → Option String
  | .non => some "NoneType"
  | .bl _ => some "bool"
  | .int _ => some "int"
  | .str _ => some "str"
  | .lst _ => some "list"
  | .scr _ => some "list"
  | .tup _ => some "tuple"
  | _ => none
inductive IsTy : String → Prop
  | int : IsTy "int"
  | bool : IsTy "bool"
  | str : IsTy "str"
  | list : IsTy "list"
  | tuple : IsTy "tuple"
def isT (t T : String) : Bool := decide (t = T) || (decide (t = "bool") && decide (T = "int"))
def dIsi (T : String) (d : D) : Option D := d.tyN.map fun t => .bl (isT t T)
section
variable {X : Cx} {e0 : Ent} {E : XK} {Eσ : Sg → XK} {k : Nat} {pos p : Pos} {x : Str} {st : Stmt} {rest : List Stmt} {F : FS} {a b c tg : Expr} {f g : FE} {es : List Expr} {fl : FL}
def fInOw (neg : Bool) (f : FE) (i : Nat) : FE := fun δ => (f δ).bind fun d => (fOwn i δ).bind fun ds => if (d.flat && ds.all D.flat) = true then .ok (.bl (if neg then !inB d ds else inB d ds)) else .bad
def fIxOw (i : Nat) (f : FE) : FE := fun δ => (fOwn i δ).bind fun ds => (f δ).bind fun d => R.of (dIx (.lst ds) d)
def starD (n m : Nat) (F : FS) (ds : List D) : R D := if (decide (n ≤ ds.length) && okLe ds.length) = true then runD m F (ds.take n ++ [.tup (ds.drop n)]) else .bad
def spV (K : PySem.W.Frag) (G : List D → R D) : Sp := fun vs H Q E => ∃ S ds, Dom K S H ∧ RepL K S H vs ds ∧ Res K S H E (G ds) fun d => ∀ v H', Same H H' → Rep K S H' v d → Q v H'
def FnV (P : Program) (w : World) (K : PySem.W.Frag) (mg : Str → Option Value) (base : Heap) (k : Nat) (f : Addr) (G : List D → R D) : Prop := FnR P w K mg base (L2.CX P w) k f (spV K G)
theorem FnV.mono {P : Program} {w : World} {K : PySem.W.Frag} {mg : Str → Option Value} {base : Heap} {f : Addr} {j k : Nat} {G : List D → R D} (F : FnV P w K mg base j f G) (h : j ≤ k) : FnV P w K mg base k f G := FnR.mono F h
theorem FnV.at {P : Program} {w : World} {K : PySem.W.Frag} {mg : Str → Option Value} {base : Heap} {f : Addr} {k : Nat} {G : List D → R D} (F : FnV P w K mg base k f G) (n : Nat) : FnG P w K mg base k f n G := FnR.imp F fun vs H Q E ⟨S, ds, dm, r, _, q⟩ => ⟨S, ds, dm, r, q⟩
end
end DL

namespace DL
open PySem PySem.Spec PyProof.Rows L2

def R.quiet {α : Type} (r : R α) : R α := match r with
  | .ok a => .ok a
  | _ => .bad
def lcF (i : Nat) (t : FB) (f : FE) (δ : DSt) : List D → List D → R (List D)
  | [], acc => .ok acc
  | d :: ds, acc => (t (δ.set i (.fz d))).quiet.bind fun b => match b with
    | true => (f (δ.set i (.fz d))).quiet.bind fun y => if okLt acc.length = true then lcF i t f δ ds (acc ++ [y]) else .bad
    | false => lcF i t f δ ds acc
def fLcL (fi : FL) (i : Nat) (t : FB) (f : FE) : FL := fun δ => (fi δ).bind fun ds => lcF i t f δ ds []
def fLc (fi : FL) (i : Nat) (t : FB) (f : FE) : FE := fun δ => (fLcL fi i t f δ).bind fun ds => .ok (.lst ds)
theorem quiet_on {α β : Type} {r : R α} {f : α → R β} {b : β} (h : r.quiet.bind f = .ok b) : ∃ a, r = .ok a ∧ f a = .ok b := by
  cases r with
  | ok a => exact ⟨a, rfl, h⟩
  | exc n xs => cases h
  | bad => cases h
theorem lcF_noexc {i : Nat} {t : FB} {f : FE} {δ : DSt} : ∀ (ds acc : List D) (n : Str) (xs : List D), lcF i t f δ ds acc ≠ .exc n xs
  | [], acc, n, xs => by unfold lcF; exact fun z => by cases z
  | d :: ds, acc, n, xs => by
    unfold lcF
    intro z
    cases q : t (δ.set i (.fz d)) with
    | bad => rw [q] at z; cases z
    | exc n xs => rw [q] at z; cases z
    | ok b =>
      rw [q] at z
      cases b with
      | false => exact lcF_noexc ds acc n xs z
      | true =>
        have z' : ((f (δ.set i (.fz d))).quiet.bind fun y => if okLt acc.length = true then lcF i t f δ ds (acc ++ [y]) else .bad) = .exc n xs := z
        cases q2 : f (δ.set i (.fz d)) with
        | bad => rw [q2] at z'; cases z'
        | exc n xs => rw [q2] at z'; cases z'
        | ok y =>
          rw [q2] at z'
          have z2 : (if okLt acc.length = true then lcF i t f δ ds (acc ++ [y]) else .bad) = .exc n xs := z'
          by_cases c : okLt acc.length = true
          · rw [if_pos c] at z2; exact lcF_noexc ds _ n xs z2
          · rw [if_neg c] at z2; cases z2
def tDT (K : PySem.W.Frag) (f : FB) : TT := tDB K (fun _ _ _ _ => False) f
def DTs (X : Cx) (ifs : List Expr) (f : FB) : Prop := PTs X ifs (tDB X.K E0s f)
def fYes : FB := fun _ => .ok true
theorem dts_nil {X : Cx} : DTs X [] fYes := by
  refine ⟨fun pins s σ H Q I h => ?_⟩
  obtain ⟨S, δ, st, q⟩ := h
  exact pts_nil.run pins s σ H Q I (q H (Same.refl _))
section
variable {X : Cx} {e0 : Ent} {E : XK} {Eσ : Sg → XK} {pos p : Pos} {x y : Str} {a b c tg elt iter : Expr} {f g : FE} {fi : FL} {t : FB} {ifs : List Expr} {scope : Scope} {own : List (Str × Nat)} {i : Nat}
theorem lc_read {σ : Sg} {H : Hp} {Q : VK} {S : Addr → Prop} {δ : DSt} (st : StE X.K S σ H δ) {ds : List D} {J : It} {H1 : Hp} (e1 : Same H H1) (io : ItOk X.K S H1 J ds) {res : List D} (hr : lcF i t f δ ds [] = .ok res)
    (hq : ∀ D H', H1 D = none → Same H H' → (∃ vs, H' D = some (.lst vs) ∧ ¬ S D ∧ RepL X.K (fun b => S b ∨ b = D) H' vs res) → StE X.K (fun b => S b ∨ b = D) σ H' δ → Q (.ref D) H') :
    ∀ D, H1 D = none → ∃ W : Nat → Nat → Hp → Prop, (∃ m, W 0 m (upd H1 D (.lst []))) ∧ ∀ k m H, W k m H →
      (J.stop k H ∧ Q (.ref D) H) ∨ (J.go k H ∧ ∃ Nx : Hp → Prop, (∀ H', Nx H' → ∃ m', m' < m ∧ W (k + 1) m' H') ∧ ∀ x H', J.yld k H x H' → gName i x (wipe σ [i]) H' fun σ2 H2 => wipe σ2 [i] = wipe σ [i] ∧ tDB X.K E0s t σ2 H2 fun b H3 =>
        if b = true then tD X.K E0s f σ2 H3 fun y H4 => ∃ acc, H4 D = some (.lst acc) ∧ acc.length < sizeLine ∧ Nx (upd H4 D (.lst (acc ++ [y]))) else Nx H3) := by
  intro D hD
  have hDH : H D = none := by
    cases q : H D with
    | none => rfl
    | some o => obtain ⟨_, this⟩ := e1.dom D o q; rw [hD] at this; cases this
  have nSD : ¬ S D := fun z => by obtain ⟨o, q, _⟩ := st.here.at_ D z; rw [hDH] at q; cases q
  -- what holds between the turns
  let Good : Nat → List DL.D → Hp → Prop := fun k acc H' => Same H H' ∧ Ev S H1 (fun b => S b ∨ b = D) H' ∧ (∃ vs, H' D = some (.lst vs) ∧ RepL X.K (fun b => S b ∨ b = D) H' vs acc) ∧ StE X.K (fun b => S b ∨ b = D) σ H' δ ∧ lcF i t f δ (ds.drop k) acc = .ok res
  have grow : ∀ H', Same H H' → (∃ o, H' D = some o ∧ Pl o) → StE X.K (fun b => S b ∨ b = D) σ H' δ := fun H' e hd => by
    have s1 := st.mono e
    refine ⟨s1.len, fun j u h => ?_, s1.sep, ⟨fun b z => ?_, s1.here.tabs⟩⟩
    · obtain ⟨o, h1, h2⟩ := st.slot j u h
      refine ⟨o, h1, ?_⟩
      have ev : Ev S H (fun b => S b ∨ b = D) H' := .new e hDH
      refine h2.move ev.keep ev.off fun b q m => ?_
      obtain ⟨b', u, q1, q2, q3⟩ := h2.addr m
      rw [q1] at q
      cases q
      exact ⟨fun u q nt => e.at _ _ q, .inl q3⟩
    · rcases z with z | z
      · exact s1.here.at_ b z
      · rw [z]; exact hd
  refine ⟨fun k m H' => m = ds.length - k ∧ k ≤ ds.length ∧ ∃ acc, Good k acc H', ⟨ds.length, rfl, Nat.zero_le _, [], ?_⟩, ?_⟩
  · have e2 : Same H (upd H1 D (.lst [])) := e1.trans (same_new hD _)
    exact ⟨e2, .new (same_new hD _) hD, ⟨[], upd_same, .nil⟩, grow _ e2 ⟨_, upd_same, ⟨fun ps z => (by cases z), fun ps z => (by cases z)⟩⟩, by rw [List.drop_zero]; exact hr⟩
  · rintro k m H' ⟨rfl, hk, acc, e2, ev, ⟨vs, hv, rv⟩, s2, hl⟩
    obtain ⟨go, stop⟩ := io _ H' ev s2.here k
    by_cases hlt : k < ds.length
    · obtain ⟨g1, g2⟩ := go hlt
      refine .inr ⟨g1, fun H3 => ∃ acc', Good (k + 1) acc' H3, fun H3 z => ⟨ds.length - (k + 1), by omega, rfl, hlt, z⟩, fun z H3 yz => ?_⟩
      obtain ⟨e3, d, hd, rz⟩ := g2 z H3 yz
      rw [List.drop_eq_getElem_cons hlt] at hl
      have ed : d = ds[k] := by
        rw [List.getElem?_eq_getElem hlt] at hd
        exact (Option.some.inj hd).symm
      subst ed
      unfold lcF at hl
      obtain ⟨bb, ht, hl2⟩ := quiet_on hl
      have es : wipe σ [i] = σ.set i none := rfl
      have s3 : StE X.K (fun b => S b ∨ b = D) ((wipe σ [i]).set i (some z)) H3 (δ.set i (.fz ds[k])) := by
        rw [es, List.set_set]
        exact (s2.mono e3).set i rz
      refine ⟨?_, _, _, s3, ?_⟩
      · show ((σ.set i none).set i (some z)).set i none = σ.set i none
        rw [List.set_set, List.set_set]
      rw [ht]
      intro H4 e4
      cases bb with
      | true =>
        rw [if_pos rfl]
        obtain ⟨yv, hf, hl3⟩ := quiet_on (show ((f (δ.set i (.fz ds[k]))).quiet.bind fun y => if okLt acc.length = true then lcF i t f δ (ds.drop (k + 1)) (acc ++ [y]) else .bad) = .ok res from hl2)
        refine ⟨_, _, s3.mono e4, ?_⟩
        rw [hf]
        intro w H5 e5 rw5
        by_cases c : okLt acc.length = true
        · rw [if_pos c] at hl3
          have e35 := e3.trans (e4.trans e5)
          have hv5 := e35.at _ _ hv
          have evU : Ev (fun b => S b ∨ b = D) H5 (fun b => S b ∨ b = D) (upd H5 D (.lst (vs ++ [w]))) := .upd hv5 (.inr rfl)
          have eH : Same H (upd H5 D (.lst (vs ++ [w]))) := (e2.trans e35).updN hDH hv5
          refine ⟨vs, hv5, by rw [rv.length]; exact okLt_of c, acc ++ [yv], eH, ev.trans ((Ev.same e35).trans evU), ⟨vs ++ [w], upd_same, (((rv.mono e35).append (.cons rw5 .nil)).ev evU)⟩, grow _ eH ⟨_, upd_same, ⟨fun ps z => (by cases z), fun ps z => (by cases z)⟩⟩, hl3⟩
        · rw [if_neg c] at hl3; cases hl3
      | false =>
        rw [if_neg Bool.false_ne_true]
        have e34 := e3.trans e4
        exact ⟨acc, e2.trans e34, ev.trans (Ev.same e34), ⟨vs, e34.at _ _ hv, rv.mono e34⟩, s2.mono e34, hl2⟩
    · have e : k = ds.length := by omega
      subst e
      rw [List.drop_length] at hl
      unfold lcF at hl
      cases hl
      exact .inl ⟨stop (Nat.le_refl _), hq D H' hD e2 ⟨vs, hv, nSD, rv⟩ s2⟩
theorem lc_tl {σ : Sg} {H : Hp} {Q : VK} {S : Addr → Prop} {δ : DSt} (st : StE X.K S σ H δ) (h : Res X.K S H (Eσ σ) (fLcL fi i t f δ) fun res => ∀ D H', Same H H' → H D = none → (∃ vs, H' D = some (.lst vs) ∧ ¬ S D ∧ RepL X.K (fun b => S b ∨ b = D) H' vs res) → StE X.K (fun b => S b ∨ b = D) σ H' δ → Q (.ref D) H') :
    tLc (tI X.K Eσ fi) (gName i) (tDB X.K E0s t) (tD X.K E0s f) [i] σ H Q := by
  refine ⟨S, δ, st, (Res.on (show Res X.K S H (Eσ σ) ((fi δ).bind fun ds => lcF i t f δ ds []) _ from h)).imp fun ds q J H1 e1 io => ?_⟩
  cases r : lcF i t f δ ds [] with
  | bad => rw [r] at q; exact q.elim
  | exc n xs => exact absurd r (lcF_noexc _ _ _ _)
  | ok res =>
    rw [r] at q
    exact lc_read st e1 io r fun D H' hD e' h3 s' => q D H' e' (by
      cases z : H D with
      | none => rfl
      | some o => obtain ⟨_, this⟩ := e1.dom D o z; rw [hD] at this; cases this) h3 s'
theorem de_lc (hc : X.calm = true) (hN : X.N.Nodup) (hi : DI X Eσ tg iter fi) (ok : BlkOk X.N X.env.scope scope own) (ho : own.map (·.2) = [i])
    (hg : ∀ (s : Shared) (H : Hp) (C : Addr) (cl : List (Str × Addr)) (fp : List Addr), PG (X.blk s H scope (compEnvC scope cl C X.env) fp) tg (gName i))
    (ht : ∀ (s : Shared) (H : Hp) (C : Addr) (cl : List (Str × Addr)) (fp : List Addr), DTs (X.blk s H scope (compEnvC scope cl C X.env) fp) ifs t)
    (he : ∀ (s : Shared) (H : Hp) (C : Addr) (cl : List (Str × Addr)) (fp : List Addr), DE (X.blk s H scope (compEnvC scope cl C X.env) fp) E0s elt f) (hs : ∀ x, foldedSetIterable iter X.env x = pure x := by intro _; rfl) :
    DE X Eσ (.ListComp elt [⟨tg, iter, ifs, 0⟩] scope pos) (fLc fi i t f) := by
  refine PE.imp (pe_lc (tt := tDB X.K E0s t) (te := tD X.K E0s f) hc hN hi ok hg ht he hs) fun σ H Q h => ?_
  obtain ⟨S, δ, st, q⟩ := h
  rw [ho]
  refine lc_tl st ((Res.on (show Res X.K S H (Eσ σ) ((fLcL fi i t f δ).bind fun ds => R.ok (D.lst ds)) _ from q)).imp fun res q2 D H' e' hD h3 s' => ?_)
  obtain ⟨vs, h1, h2, h3⟩ := h3
  have q3 : ∀ v H', Same H H' → Rep X.K S H' v (.lst res) → Q v H' := q2
  exact q3 _ H' e' (.lst h1 h2 (h3.less fun b z => .inl z))
end
end DL

namespace DL
open PySem PySem.Spec PyProof.Rows L2
def strsOf : List D → Option (List Str)
  | [] => some []
  | .str x :: ds => (strsOf ds).map (x :: ·)
  | _ :: _ => none
def joinOk (a : Str) (ys : List Str) : Bool := Nat.ble ((ys.map (·.length)).sum + ys.length * a.length) 16777216
def dJoin (a : Str) : D → Option D
  | .lst ds => match strsOf ds with
    | some ys => if joinOk a ys = true then some (.str (Str.join a ys)) else none
    | none => none
  | .tup ds => match strsOf ds with
    | some ys => if joinOk a ys = true then some (.str (Str.join a ys)) else none
    | none => none
  | _ => none
def rJoin (g : FE) (δ : DSt) : D → R D
  | .str a => (g δ).bind fun e => R.of (dJoin a e)
  | _ => .bad
def fJoin (f g : FE) : FE := fun δ => (f δ).bind (rJoin g δ)
theorem strsOf_map : ∀ ys : List Str, strsOf (ys.map .str) = some ys
  | [] => rfl
  | y :: ys => by
    show (strsOf (ys.map .str)).map (y :: ·) = _
    rw [strsOf_map ys]
    rfl
section
variable {X : Cx} {e0 : Ent} {E : XK} {Eσ : Sg → XK} {pos apos : Pos} {a b : Expr} {f g : FE}
end
end DL

namespace DL
open PySem PySem.Spec PyProof.Rows L2

def putD (f : Str) (d : D) : List (Str × D) → List (Str × D)
  | [] => [(f, d)]
  | (g, x) :: r => if g = f then (g, d) :: r else (g, x) :: putD f d r
def RepF (K : PySem.W.Frag) (S : Addr → Prop) (H : Hp) (vs : List (Str × V)) (fs : List (Str × D)) : Prop := vs.map (·.1) = fs.map (·.1) ∧ RepL K S H (vs.map (·.2)) (fs.map (·.2))
section
variable {K : PySem.W.Frag} {S S' : Addr → Prop} {H H' : Hp}
theorem RepF.nil : RepF K S H [] [] := ⟨rfl, .nil⟩
theorem RepF.uncons {p : Str × V} {vs : List (Str × V)} {q : Str × D} {fs : List (Str × D)} (h : RepF K S H (p :: vs) (q :: fs)) : p.1 = q.1 ∧ Rep K S H p.2 q.2 ∧ RepF K S H vs fs := by
  obtain ⟨h1, h2⟩ := h
  rw [List.map_cons, List.map_cons] at h1 h2
  injection h1 with e1 e2
  cases h2 with
  | cons r rs => exact ⟨e1, r, e2, rs⟩
theorem RepF.cons {g : Str} {v : V} {d : D} {vs : List (Str × V)} {fs : List (Str × D)} (r : Rep K S H v d) (h : RepF K S H vs fs) : RepF K S H ((g, v) :: vs) ((g, d) :: fs) :=
  ⟨by rw [List.map_cons, List.map_cons, h.1], by rw [List.map_cons, List.map_cons]; exact .cons r h.2⟩
theorem RepF.len {vs : List (Str × V)} {fs : List (Str × D)} (h : RepF K S H vs fs) : vs.length = fs.length := by
  have := h.2.length
  rwa [List.length_map, List.length_map] at this
theorem RepF.ev {vs : List (Str × V)} {fs : List (Str × D)} (e : Ev S H S' H') (h : RepF K S H vs fs) : RepF K S' H' vs fs := ⟨h.1, h.2.ev e⟩
theorem RepF.get : ∀ {vs : List (Str × V)} {fs : List (Str × D)} {f : Str} {d : D}, RepF K S H vs fs → fs.lookup f = some d → ∃ v, vs.lookup f = some v ∧ Rep K S H v d
  | _, [], f, d, _, e => by cases e
  | [], _ :: _, f, d, h, _ => by have := h.1; cases this
  | (g, v) :: vs, (g2, x) :: fs, f, d, h, e => by
    obtain ⟨e1, r, h2⟩ := h.uncons
    cases e1
    by_cases c : f = g
    · subst c
      have : some x = some d := by rw [← e, List.lookup_cons_self]
      cases this
      exact ⟨v, List.lookup_cons_self, r⟩
    · have c2 : (f == g) = false := beq_eq_false_iff_ne.mpr c
      have e2 : fs.lookup f = some d := by rw [← e]; show _ = List.lookup f ((g, x) :: fs); rw [List.lookup_cons, c2]
      obtain ⟨w, w1, w2⟩ := RepF.get h2 e2
      exact ⟨w, by rw [List.lookup_cons, c2]; exact w1, w2⟩
theorem RepF.no : ∀ {vs : List (Str × V)} {fs : List (Str × D)} {f : Str}, RepF K S H vs fs → fs.lookup f = none → vs.lookup f = none
  | [], _, f, _, _ => rfl
  | _ :: _, [], f, h, _ => by have := h.1; cases this
  | (g, v) :: vs, (g2, x) :: fs, f, h, e => by
    obtain ⟨e1, r, h2⟩ := h.uncons
    cases e1
    by_cases c : f = g
    · subst c
      rw [List.lookup_cons_self] at e
      cases e
    · have c2 : (f == g) = false := beq_eq_false_iff_ne.mpr c
      have e2 : fs.lookup f = none := by rw [← e]; show _ = List.lookup f ((g, x) :: fs); rw [List.lookup_cons, c2]
      show List.lookup f ((g, v) :: vs) = none
      rw [List.lookup_cons, c2]
      exact RepF.no h2 e2
theorem RepF.put {f : Str} {v : V} {d : D} (r : Rep K S H v d) : ∀ {vs : List (Str × V)} {fs : List (Str × D)}, RepF K S H vs fs → RepF K S H (putF f v vs) (putD f d fs)
  | [], [], _ => .cons r .nil
  | [], _ :: _, h => by have := h.1; cases this
  | _ :: _, [], h => by have := h.1; cases this
  | (g, w) :: vs, (g2, x) :: fs, h => by
    obtain ⟨e1, r2, h2⟩ := h.uncons
    cases e1
    unfold putF putD
    by_cases c : g = f
    · rw [if_pos c, if_pos c]
      exact .cons r h2
    · rw [if_neg c, if_neg c]
      exact .cons r2 (RepF.put r h2)
theorem RepF.zip : ∀ {ns : List Str} {vs : List V} {ds : List D}, RepL K S H vs ds → RepF K S H (ns.zip vs) (ns.zip ds)
  | [], _, _, _ => .nil
  | _ :: _, _, _, .nil => .nil
  | _ :: _, _, _, .cons r h => .cons r (RepF.zip h)
theorem Rep.objX {v : V} {c : Str} {ds : List D} (h : Rep K S H v (.obj c ds)) (hx : isXc c = true) : ∃ a dx vs, v = .ref a ∧ ¬ S a ∧ RepL K S H vs ds ∧ ((¬ S dx ∧ H a = some (exo a (He.ga K c) (some dx)) ∧ H dx = some (exd dx ((exF c).zip vs))) ∨ (vs = [] ∧ H a = some (exo a (He.ga K c) none))) := by
  cases h with
  | obj o r =>
    obtain ⟨n, dx, h⟩ := o
    have hsl : slotted c = true := by unfold slotted; rw [hx]; simp
    rcases h with ⟨⟨_, e⟩, _⟩ | ⟨e, _⟩ | ⟨_, h⟩
    · rw [hx] at e; cases e
    · rw [hsl] at e; cases e
    · exact ⟨_, dx, _, rfl, n, r, h⟩
end

def fOb (c : Str) (i : Nat) (δ : DSt) : R (List (Str × D)) := match δ[i]? with
  | some (.ob c' fs) => if c' = c then .ok fs else .bad
  | _ => .bad
def fFld (c : Str) (i : Nat) (f : Str) : FE := fun δ => (fOb c i δ).bind fun fs => R.of (fs.lookup f)
def dFld (c f : Str) : D → Option D
  | .obj c' xs => if c' = c then ((flds c).zip xs).lookup f else none
  | _ => none
def dSlot (c : Str) (i : Nat) : D → Option D
  | .obj c' xs => if c' = c then xs[i]? else none
  | _ => none
section
variable {X : Cx} {e0 : Ent} {E : XK} {Eσ : Sg → XK} {k : Nat} {pos p : Pos} {x : Str} {st : Stmt} {rest : List Stmt} {F : FS} {a b : Expr} {f g : FE} {es : List Expr} {fl : FL} {c m : Str} {i : Nat}
def oFld (c : Str) (i : Nat) (fd : Str) (δ : DSt) (d : D) : O := O.on (fOb c i δ) fun fs => if fs.length < 900 then .nx (δ.set i (.ob c (putD fd d fs))) else .bad
def fPutF (c : Str) (i : Nat) (fd : Str) (g : FE) : FS := fun δ => O.on (g δ) fun d => oFld c i fd δ d
def fAugF (G : D → D → Option D) (c : Str) (i : Nat) (fd : Str) (g : FE) : FS := fun δ => O.on (fFld c i fd δ) fun d => O.on (g δ) fun e => O.on (R.of (G d e)) fun z => oFld c i fd δ z
end
end DL

namespace DL
open PySem PySem.Spec PyProof.Rows L2

abbrev FX := DSt → R (D × DSt)
abbrev FXL := DSt → R (List D × DSt)
def ResX {α : Type} (K : PySem.W.Frag) (M S0 : Addr → Prop) (H0 : Hp) (E : XK) (r : R (α × DSt)) (P : α → DSt → Prop) : Prop := match r with
  | .ok (d, δ) => P d δ
  | .exc n xs => ∀ cls dx H', KeepM M H0 H' → ExR K S0 H' cls dx n xs → E cls dx H'
  | .bad => False
def tDX (K : PySem.W.Frag) (M S0 : Addr → Prop) (H0 : Hp) (E : XK) (f : FX) : TE := fun σ H Q => ∃ S δ, StS K M S0 H0 S σ H δ ∧ ResX K M S0 H0 E (f δ) fun d δ' => ∀ v H', StS K M S0 H0 S σ H' δ' → Ev S H S H' → Rep K S H' v d → Q v H'
def tDXL (K : PySem.W.Frag) (M S0 : Addr → Prop) (H0 : Hp) (E : XK) (f : FXL) : TA := fun σ H Q => ∃ S δ, StS K M S0 H0 S σ H δ ∧ ResX K M S0 H0 E (f δ) fun ds δ' => ∀ vs H', StS K M S0 H0 S σ H' δ' → Ev S H S H' → RepL K S H' vs ds → Q vs H'
def DX (X : Cx) (e0 : Ent) (E : XK) (e : Expr) (f : FX) : Prop := PE X e (tDX X.K e0.M e0.S e0.H E f)
structure DXA (X : Cx) (e0 : Ent) (E : XK) (es : List Expr) (f : FXL) : Prop where
  pa : PA X es (tDXL X.K e0.M e0.S e0.H E f)
  len : ∀ δ ds δ', f δ = .ok (ds, δ') → ds.length = es.length
section
variable {K : PySem.W.Frag} {M S0 S : Addr → Prop} {H0 H : Hp} {E : XK} {Eσ : Sg → XK} {Dn : Ends} {σ : Sg} {δ : DSt} {α β : Type}
theorem ResX.imp {r : R (α × DSt)} {P P' : α → DSt → Prop} (h : ResX K M S0 H0 E r P) (k : ∀ a δ, P a δ → P' a δ) : ResX K M S0 H0 E r P' := by
  cases r with
  | ok a => exact k a.1 a.2 h
  | exc n xs => exact h
  | bad => exact h
theorem ResX.on {r : R (α × DSt)} {f : α × DSt → R (β × DSt)} {P : β → DSt → Prop} (h : ResX K M S0 H0 E (r.bind f) P) : ResX K M S0 H0 E r fun a δ => ResX K M S0 H0 E (f (a, δ)) P := by
  cases r with
  | ok a => exact h
  | exc n xs => exact h
  | bad => exact h
theorem ResX.of {r : R α} {f : α → R (β × DSt)} {P : β → DSt → Prop} (s : StS K M S0 H0 S σ H δ) (h : ResX K M S0 H0 E (r.bind f) P) : Res K S H E r fun a => ResX K M S0 H0 E (f a) P := by
  cases r with
  | ok a => exact h
  | exc n xs => exact fun cls dx H' e x => h cls dx H' (s.same.trans e) (x.to s.sub)
  | bad => exact h
end
section
variable {X : Cx} {e0 : Ent} {E : XK} {Eσ : Sg → XK} {k j : Nat} {pos p apos : Pos} {x : Str} {st : Stmt} {rest : List Stmt} {F : FS} {a b o : Expr} {f g : FE} {fx gx : FX} {es : List Expr} {fl : FL} {fxl : FXL} {c m : Str} {i : Nat}
def fPure (f : FE) : FX := fun δ => (f δ).bind fun d => .ok (d, δ)
def fNilX : FXL := fun δ => .ok ([], δ)
def fConsX (f : FX) (fl : FXL) : FXL := fun δ => (f δ).bind fun p => (fl p.2).bind fun q => .ok (p.1 :: q.1, q.2)
def fTupX (fl : FXL) : FX := fun δ => (fl δ).bind fun p => .ok (.tup p.1, p.2)
def fRetX (f : FX) : FS := fun δ => O.on (f δ) fun p => .rt p.1 p.2
def fExpX (f : FX) : FS := fun δ => O.on (f δ) fun p => .nx p.2
def fSetX (i : Nat) (f : FX) : FS := fun δ => O.on (f δ) fun p => .nx (p.2.set i (.fz p.1))
def fNewX (i : Nat) (fl : FXL) : FS := fun δ => O.on (fl δ) fun p => .nx (p.2.set i (.ow p.1))
def oAppX (i : Nat) (p : D × DSt) : O := O.on (fOwn i p.2) fun ds => if okLt ds.length = true then .nx (p.2.set i (.ow (ds ++ [p.1]))) else .bad
def fAppX (i : Nat) (f : FX) : FS := fun δ => O.on (fOwn i δ) fun _ => O.on (f δ) fun p => oAppX i p
abbrev MF := List (Str × D) → List D → R (D × List (Str × D))
def ResM (K : PySem.W.Frag) (a : Addr) (S : Addr → Prop) (H : Hp) (E : XK) (r : R (D × List (Str × D))) (P : D → List (Str × D) → Prop) : Prop := match r with
  | .ok (d, fs) => P d fs
  | .exc n xs => ∀ cls dx H', KeepM (· = a) H H' → ExR K S H' cls dx n xs → E cls dx H'
  | .bad => False
def spM (K : PySem.W.Frag) (c : Str) (n : Nat) (G : MF) : Sp := fun vs H Q E => ∃ S a dx fv fs ds ws, vs = .ref a :: ws ∧ Dom K S H ∧ S a ∧ H a = some (.ins (He.ga K c) dx fv) ∧ RepF K S H fv fs ∧ RepL K S H ws ds ∧ ds.length = n ∧
  ResM K a S H E (G fs ds) fun d fs' => ∀ v H' dx' fv', KeepM (· = a) H H' → H' a = some (.ins (He.ga K c) dx' fv') → RepF K S H' fv' fs' → Rep K S H' v d → Q v H'
def FnM (P : Program) (w : World) (K : PySem.W.Frag) (mg : Str → Option Value) (base : Heap) (k : Nat) (f : Addr) (c : Str) (n : Nat) (G : MF) : Prop := FnR P w K mg base (L2.CX P w) k f (spM K c n G)
def selfOf (c : Str) (d : D) (δ : DSt) : R (D × List (Str × D)) := (fOb c 0 δ).bind fun fs => .ok (d, fs)
def runM (c : Str) (m : Nat) (F : FS) : MF := fun fs ds => match F (.ob c fs :: (ds.map DS.fz ++ List.replicate (m - 1 - ds.length) DS.un)) with
  | .rt d δ => selfOf c d δ
  | .nx δ => selfOf c .non δ
  | .exc n xs => .exc n xs
  | _ => .bad
section
variable {P : Program} {w : World} {K : PySem.W.Frag} {mg : Str → Option Value} {base : Heap}
theorem FnM.mono {f : Addr} {c : Str} {n j k : Nat} {G : MF} (F : FnM P w K mg base j f c n G) (h : j ≤ k) : FnM P w K mg base k f c n G := FnR.mono F h
end
def noF (m : Str) (fs : List (Str × D)) : Bool := (fs.lookup m).isNone
def rMeth (c m : Str) (i : Nat) (G : MF) (δ : DSt) (fs : List (Str × D)) (ds : List D) : R (D × DSt) := (G fs ds).bind fun p => .ok (p.1, δ.set i (.ob c p.2))
def fMeth (c m : Str) (i : Nat) (G : MF) (fl : FL) : FX := fun δ => (fOb c i δ).bind fun fs => if noF m fs = true then (fl δ).bind fun ds => rMeth c m i G δ fs ds else .bad
def rFlat : R D → R D
  | .ok d => if d.flat = true then .ok d else .bad
  | _ => .bad
def fView (c m : Str) (i : Nat) (G : List D → R D) (fl : FL) : FE := fun δ => (fOb c i δ).bind fun fs => if (noF m fs && decide (fs.map (·.1) = flds c)) = true then (fl δ).bind fun ds => rFlat (G (.obj c (fs.map (·.2)) :: ds)) else .bad
def rMake (c : Str) (G : MF) (ds : List D) : R D := (G [] ds).bind fun p => match p.1 with
  | .non => if p.2.map (·.1) = flds c then .ok (.obj c (p.2.map (·.2))) else .bad
  | _ => .bad
def fMake (c : Str) (G : MF) (fl : FL) : FE := fun δ => (fl δ).bind fun ds => rMake c G ds
def rMakeM (m : Str) (G G2 : MF) (ds : List D) : R D := (G [] ds).bind fun p => match p.1 with
  | .non => if noF m p.2 = true then (G2 p.2 []).bind fun q => .ok q.1 else .bad
  | _ => .bad
def fMakeM (m : Str) (G G2 : MF) (fl : FL) : FE := fun δ => (fl δ).bind (rMakeM m G G2)
end
end DL

namespace DL
open PySem PySem.Spec PyProof.Rows L2
section
variable {X : Cx} {e0 : Ent} {E : XK} {Eσ : Sg → XK} {k j : Nat} {pos p p2 apos : Pos} {x : Str} {st : Stmt} {rest : List Stmt} {F : FS} {a b o : Expr} {f g fo : FE} {es : List Expr} {fl : FL} {c m : Str} {i : Nat}
def isOb (c : Str) : D → Bool
  | .obj c' _ => decide (c' = c)
  | _ => false
def fMethF (c : Str) (G : List D → R D) (fo : FE) (fl : FL) : FE := fun δ => (fo δ).bind fun o => if isOb c o = true then (fl δ).bind fun ds => G (o :: ds) else .bad
def fProp (c : Str) (G : List D → R D) (fo : FE) : FE := fun δ => (fo δ).bind fun o => if isOb c o = true then (G [o]).quiet else .bad
def fMakeL (c : Str) (i : Nat) (G : MF) (fl : FL) : FE := fun δ => (fVar i δ).bind fun d => match d with
  | .fn c' => if c' = c then fMake c G fl δ else .bad
  | _ => .bad
end
end DL

namespace DL
open PySem PySem.Spec PyProof.Rows L2
section
variable {X : Cx} {e0 : Ent} {E : XK} {Eσ : Sg → XK} {k j : Nat} {pos p p2 apos : Pos} {x : Str} {st : Stmt} {rest : List Stmt} {F : FS} {a b o : Expr} {f g fo : FE} {es : List Expr} {fl : FL} {c m : Str} {i : Nat}
def fBad : FS := fun _ => .bad
def eBad : FE := fun _ => .bad
def KTup (K : PySem.W.Frag) (a : Addr) (zs : List Str) : Prop := LitT K a (zs.map V.str)
def dGcd : List D → Option D
  | [.int a, .int b] => some (.int (Nat.gcd a.natAbs b.natAbs : Nat))
  | _ => none
def dLcm : List D → Option D
  | [.int a, .int b] => if (lim 64 a && lim 64 b) = true then some (.int (Nat.lcm a.natAbs b.natAbs : Nat)) else none
  | [.int a, .int b, .int c] => if (lim 64 a && (lim 64 b && lim 64 c)) = true then some (.int (Nat.lcm (Nat.lcm a.natAbs b.natAbs) c.natAbs : Nat)) else none
  | _ => none
def dIntS : List D → Option D
  | [.int i] => some (.int i)
  | [.str z] => match intText? z with
    | some n => if Nat.ble z.length 640 = true then some (.int n) else none
    | none => none
  | _ => none
theorem cd_intS : CallD X (.type "int") dIntS := by
  intro pins s σ H xs us Q I r q
  obtain ⟨S, ds, z, dm, rl, hz, q⟩ := q
  unfold dIntS at hz
  split at hz
  · cases hz
    obtain ⟨v, rfl, r1⟩ := vl1 rl
    exact call_int1 pins s σ H _ us Q I r (.inl ⟨_, by rw [r1.intE], q.here (.int _)⟩)
  · rename_i z'
    obtain ⟨v, rfl, r1⟩ := vl1 rl
    cases e : intText? z' with
    | none => rw [e] at hz; cases hz
    | some n =>
      rw [e] at hz
      by_cases cl : Nat.ble z'.length 640 = true
      · simp only [cl, if_true, Option.some.injEq] at hz
        subst hz
        exact call_int_str pins s σ H _ us Q I r ⟨z', n, by rw [r1.strE], e, Nat.le_of_ble_eq_true cl, q.here (.int _)⟩
      · simp only [cl] at hz
        cases hz
  · cases hz
def dAddS : D → D → Option D
  | .int i, .int j => some (.int (i + j))
  | .str x, .str y => if okLe (x.length + y.length) = true then some (.str (x ++ y)) else none
  | _, _ => none
end
end DL

namespace DL
open PySem PySem.Spec PyProof.Rows L2
def dIntB : List D → Option D
  | [.bl b] => some (.int (if b then 1 else 0))
  | _ => none
end DL

namespace DL
open PySem PySem.Spec PyProof.Rows L2
section
variable {X : Cx} {E : XK} {Eσ : Sg → XK} {pos pos' : Pos} {a o e : Expr} {rest : List Stmt} {c f : Str} {p : Addr}
def tRun (C : Addr) (is : List Nat) (k : Nat) : TS := fun D σ H => ∃ (a dx : Addr) (pre post : List V) (more : List (Option V)), σ = some (.ref a) :: ((pre ++ post).map some ++ more) ∧ pre.length = k ∧ (pre ++ post).length = is.length ∧ dx ≠ a ∧ SlX.Slt H a C dx (stS (is.take k) pre []) ∧ D.nx σ (SlX.slH H a C dx (stS is (pre ++ post) []))
end
def spSl (K : PySem.W.Frag) (c : Str) (n : Nat) : Sp := fun vs H Q _ => ∃ (a dx : Addr) (ws : List V), vs = .ref a :: ws ∧ ws.length = n ∧ dx ≠ a ∧ H a = some (.ins (He.ga K c) dx []) ∧ Q .non (SlX.slH H a (He.ga K c) dx (stS (ordS c) ws []))
section
variable {P : Program} {w : World} {K : PySem.W.Frag} {mg : Str → Option Value} {base : Heap}
end
section
variable {X : Cx} {E : XK} {Eσ : Sg → XK} {k : Nat} {pos p : Pos} {x : Str} {b : Expr} {es : List Expr} {fl : FL} {c : Str}
def fMakeS (c : Str) (n : Nat) (fl : FL) : FE := fun δ => (fl δ).bind fun ds => if ds.length = n then .ok (.obj c ds) else .bad
structure DK (X : Cx) (E : Sg → XK) (kws : List Keyword) (f : FL) : Prop where
  pk : PK X kws (tDL X.K E f)
  len : ∀ δ ds, f δ = .ok ds → ds.length = kws.length
theorem PK.imp {kws : List Keyword} {t t' : TA} (h : PK X kws t) (j : ∀ σ H Q, t' σ H Q → t σ H Q) : PK X kws t' := ⟨fun pos pins s σ H Q I q => h.run pos pins s σ H Q I (j σ H Q q)⟩
def rMakeSK (c : Str) (n : Nat) (gD : List D → List D) (ds : List D) : R D := if (gD ds).length = n then .ok (.obj c (gD ds)) else .bad
def fMakeSK (c : Str) (n : Nat) (gD : List D → List D) (fl : FL) : FE := fun δ => (fl δ).bind (rMakeSK c n gD)
def Puts (gV : List V → List V → List V) (gD : List D → List D) (m : Nat) : Prop := ∀ (K : PySem.W.Frag) (S : Addr → Prop) (H : Hp) (zs : List V) (ds : List D) (v : V), RepL K S H zs ds → ds.length = m → ∃ ws, gV [v] zs = v :: ws ∧ RepL K S H ws (gD ds)
def mrg {α : Type} : List Bool → List α → List α → List α
  | true :: m, ys, z :: zs => z :: mrg m ys zs
  | false :: m, y :: ys, zs => y :: mrg m ys zs
  | _, _, _ => []
def gMrg (m : List Bool) (is : List Int) : List D → List D := fun zs => mrg m (is.map .int) zs
end
end DL

namespace DL
open PySem PySem.Spec PyProof.Rows L2
def ClsAny (K : PySem.W.Frag) (c : Str) : Prop := (slotted c = false ∧ Cls K (He.ga K c)) ∨ (slotted c = true ∧ SlX.SCls K (He.ga K c))
theorem exo_inst {X : Cx} {pins : List (Addr × Obj)} {σ : L2.St} {H : Hp} {s : Shared} {S : Addr → Prop} {v : V} {c : Str} {xs : List D} (I : Inv X pins σ H s) (r : Rep X.K S H v (.obj c xs)) (hx : isXc c = true) :
    ∃ a, ∃ od : Option Obj, ∃ t1 : Addr × Option Addr, v = .ref a ∧ PySem.W.InstAt s.heap a ({ cls := .ref (He.ga X.K c), dict := t1.2, data := .fields #[.ref t1.1, .none, .none, .none, .bool false, .none] } : Obj) (He.ga X.K c) od := by
  obtain ⟨a, dx, vs, rfl, _, _, ⟨_, h, q⟩ | ⟨_, h⟩⟩ := r.objX hx
  · obtain ⟨t1, ho⟩ := exo_at I.hok h
    obtain ⟨mA, hns, _⟩ := exd_at I.hok q
    obtain ⟨od, hd, _⟩ := lookIn_ns hns
    exact ⟨a, some od, (t1, some dx), rfl, ho, rfl, by unfold PySem.W.notCls; rfl, hd⟩
  · obtain ⟨t1, ho⟩ := exo_at I.hok h
    exact ⟨a, none, (t1, none), rfl, ho, rfl, by unfold PySem.W.notCls; rfl, trivial⟩
def tyF (d : D) : Option D := if d.tyN.isSome = true then some (.bl false) else none
def dIsC (c : Str) (d : D) : Option D := match d with
  | .obj c' _ => if c' = c then some (.bl true) else none
  | d => tyF d
section
variable {X : Cx} {E : XK} {Eσ : Sg → XK} {k : Nat} {pos p p2 : Pos} {a b : Expr} {f g : FE} {c : Str}
def noneOf (K : PySem.W.Frag) (C : Addr) : Bool := (["NoneType", "bool", "int", "str", "list", "tuple"] : List String).all fun t => decide (PySem.W.kitOne K (.type t) (.ref C) = some false)
def rBin (c : Str) (G : List D → R D) (x y : D) : R D := if isOb c x && isOb c y then G [x, y] else .bad
def fBin (c : Str) (G : List D → R D) (f g : FE) : FE := fun δ => (f δ).bind fun x => (g δ).bind fun y => rBin c G x y
end
end DL

namespace DL
open PySem PySem.Spec PyProof.Rows L2
def stIx (n : Nat) (lo hi st : Option Int) : List Nat := sliceRange (PySem.sliceBounds lo hi st n).1 (PySem.sliceBounds lo hi st n).2.1 (PySem.sliceBounds lo hi st n).2.2
def pickG {α : Type} (xs : List α) (lo hi st : Option Int) : List α := (stIx xs.length lo hi st).filterMap (xs[·]?)
section
variable {X : Cx} {E : XK} {Eσ : Sg → XK} {pos p p2 : Pos} {a b c e : Expr} {f g : FE} {fl : FL} {tg : Expr}
def tSlS (K : PySem.W.Frag) (te : TE) (tl th ts : TO) : TE := fun σ H Q => te σ H fun x H1 => tl σ H1 fun lo H2 => th σ H2 fun hi H3 => ts σ H3 fun o H4 => ∃ a xs c, x = .ref a ∧ SqL K H4 a xs ∧ o = some c ∧ c ≠ 0 ∧ ∀ p, H4 p = none → Q (.ref p) (upd H4 p (.lst (pickG xs lo hi (some c))))
def dPick : D → Option Int → Option Int → D → Option D
  | .lst xs, lo, hi, .int c => if c = 0 then none else some (.lst (pickG xs lo hi (some c)))
  | _, _, _, _ => none
def fSlS (f : FE) (l h : FO) (g : FE) : FE := fun δ => (f δ).bind fun d => (l δ).bind fun lo => (h δ).bind fun hi => (g δ).bind fun c => R.of (dPick d lo hi c)
def dInt3 (lo c : Int) (n : Nat) : List D := (List.range n).map fun i : Nat => .int (lo + i * c)
def rg3Ok (i j c : Int) : Bool := decide (c ≠ 0) && (decide (c.natAbs < 1073741824) && Builtin.Range.small i j c)
def dRange3 : List D → Option (List D)
  | [.int i, .int j, .int c] => if rg3Ok i j c = true then some (dInt3 i c (Builtin.Range.rangeSize i j c).toNat) else none
  | _ => none
def fRange3 (fl : FL) : FL := fun δ => (fl δ).bind fun ds => R.of (dRange3 ds)
end
end DL

namespace DL
open PySem PySem.Spec PyProof.Rows L2
section
variable {X : Cx} {e0 : Ent} {E : XK} {Eσ : Sg → XK} {k j : Nat} {pos p p2 apos cpos : Pos} {x : Str} {st : Stmt} {rest : List Stmt} {F G : FS} {a b c o : Expr} {f g : FE} {fx fy : FX} {es : List Expr} {fl : FL} {i : Nat}
def fDic0 : FE := fun _ => .ok (.dic [] [])
def fNewD (i : Nat) : FS := fun δ => .nx (δ.set i (.od [] []))
def fOd (i : Nat) (δ : DSt) : R (List Ky × List D) := match δ[i]? with
  | some (.od ks xs) => .ok (ks, xs)
  | _ => .bad
theorem fOd_at {δ : DSt} {r : List Ky × List D} (h : fOd i δ = .ok r) : δ[i]? = some (.od r.1 r.2) := by
  unfold fOd at h
  split at h
  · rename_i ks xs e
    cases h
    exact e
  · cases h
def rSetk (i : Nat) (δ : DSt) (r : List Ky × List D) (v : D) (k : Ky) : R (D × DSt) := if okLt r.1.length = true then (match kGet r.1 r.2 k with
  | some d => .ok (d, δ)
  | none => .ok (v, δ.set i (.od (r.1 ++ [k]) (r.2 ++ [v])))) else .bad
def rSetd (i : Nat) (δ : DSt) (r : List Ky × List D) (kd v : D) : R (D × DSt) := (R.of kd.key).bind (rSetk i δ r v)
def fSetd (i : Nat) (f g : FE) : FX := fun δ => (fOd i δ).bind fun r => (f δ).bind fun kd => (g δ).bind fun v => rSetd i δ r kd v
def rPutk (i : Nat) (δ : DSt) (r : List Ky × List D) (v : D) (k : Ky) : O := if okLt r.1.length = true then (match kGet r.1 r.2 k with
  | some _ => .nx (δ.set i (.od r.1 ((r.1.zip r.2).map fun q => if q.1 = k then v else q.2)))
  | none => .nx (δ.set i (.od (r.1 ++ [k]) (r.2 ++ [v])))) else .bad
def fPutD (i : Nat) (f g : FE) : FS := fun δ => O.on (g δ) fun v => O.on (fOd i δ) fun r => O.on (f δ) fun kd => O.on (R.of kd.key) fun k => rPutk i δ r v k
abbrev FBX := DSt → R (Bool × DSt)
def tDBX (K : PySem.W.Frag) (M S0 : Addr → Prop) (H0 : Hp) (E : XK) (f : FBX) : TT := fun σ H Q => ∃ S δ, StS K M S0 H0 S σ H δ ∧ ResX K M S0 H0 E (f δ) fun b δ' => ∀ H', StS K M S0 H0 S σ H' δ' → Ev S H S H' → Q b H'
def DBX (X : Cx) (e0 : Ent) (E : XK) (e : Expr) (f : FBX) : Prop := PT X e (tDBX X.K e0.M e0.S e0.H E f)
def rBl (δ : DSt) (z : D) : R (Bool × DSt) := match z with
  | .bl b => .ok (b, δ)
  | _ => .bad
def fCmpX (F : D → D → Option D) (f : FX) (g : FE) : FBX := fun δ => (f δ).bind fun p => (g p.2).bind fun y => (R.of (F p.1 y)).bind (rBl p.2)
def oIfX (F G : FS) (p : Bool × DSt) : O := match p.1 with
  | true => F p.2
  | false => G p.2
def fIfX (c : FBX) (F G : FS) : FS := fun δ => O.on (c δ) (oIfX F G)
end
end DL

namespace DL
open PySem PySem.Spec PyProof.Rows L2
section
variable {P : Program} {w : World} {A : Around} {Ex : Value → Shared → Prop} {d : Addr}
end
def FnK (P : Program) (w : World) (K : PySem.W.Frag) (mg : Str → Option Value) (base : Heap) (k : Nat) (f : Addr) (ks : List Str) (n : Nat) (G : List D → R D) : Prop :=
  ∀ (A : Around) (outer : List Env) (s : Shared) (H : Hp) (us ws : List Value) (vs zs : List V) (Q : VK) (E : XK) (S : Addr → Prop) (ds es : List D), Room k A → Env0 P w K mg base A outer s H → Vals vs us → Vals zs ws → Dom K S H → RepL K S H vs ds → RepL K S H zs es → ds.length = n → es.length = ks.length →
    (Res K S H E (G (ds ++ [.dic (ks.map Sum.inr) es])) fun d => ∀ v H', Same H H' → Rep K S H' v d → Q v H') → codeAny (model P w) A (.call (.ref f) ⟨us, ks.zip ws⟩) (CR (L2.CX P w) outer P w H s Q E) s
theorem FnK.mono {P : Program} {w : World} {K : PySem.W.Frag} {mg : Str → Option Value} {base : Heap} {f : Addr} {j k n : Nat} {ks : List Str} {G : List D → R D} (F : FnK P w K mg base j f ks n G) (h : j ≤ k) : FnK P w K mg base k f ks n G :=
  fun A outer s H us ws vs zs Q E S ds es hr => F A outer s H us ws vs zs Q E S ds es (hr.mono h)
section
variable {X : Cx} {E : XK} {Eσ : Sg → XK} {k : Nat} {pos p : Pos} {x : Str} {a : Expr} {es : List Expr} {kws : List Keyword} {fl fk : FL}
def rCallK (ks : List Str) (G : List D → R D) (ds es : List D) : R D := G (ds ++ [.dic (ks.map Sum.inr) es])
def fCallK (ks : List Str) (G : List D → R D) (fl fk : FL) : FE := fun δ => (fl δ).bind fun ds => (fk δ).bind fun es => rCallK ks G ds es
end
end DL

namespace DL
open PySem PySem.Spec PyProof.Rows L2
section
variable {X : Cx} {E : XK} {Eσ : Sg → XK} {k : Nat} {pos p apos : Pos} {x c m : Str} {a b : Expr} {es : List Expr} {f g : FE} {fl : FL}
abbrev Tb : Type := List (Str × (List D → R D))
def TbOk (P : Program) (w : World) (K : PySem.W.Frag) (mg : Str → Option Value) (base : Heap) (k n : Nat) (tb : Tb) : Prop := ∀ q ∈ tb, FnG P w K mg base k (He.ga K q.1) n q.2 ∧ PySem.W.keepIn K (.ref (He.ga K q.1)) = true
def tbGet : Tb → Str → Option (List D → R D)
  | [], _ => none
  | q :: tb, f => if q.1 = f then some q.2 else tbGet tb f
def tbOf (tb : Tb) : D → Option (List D → R D)
  | .fn f => tbGet tb f
  | _ => none
def fCallV (tb : Tb) (i : Nat) (fl : FL) : FE := fun δ => (fVar i δ).bind fun d => (R.of (tbOf tb d)).bind fun G => (fl δ).bind G
structure SMet (K : PySem.W.Frag) (C : Addr) (mc : Value) (m : Str) (p g : Addr) : Prop where
  at_ : PySem.W.findCls K (.ref C) mc m = some (.get (.builtin "staticmethod.__get__") (.ref p) .none (.ref C))
  rc : ∃ rest, PySem.W.recIn K p "staticmethod" = some (.ref g :: rest)
  kp : PySem.W.keepIn K (.ref g) = true
def rCallO (c : Str) (G : List D → R D) (fl : FL) (δ : DSt) (o : D) : R D := if isOb c o = true then (fl δ).bind fun ds => G (o :: ds) else .bad
def fCallO (c : Str) (G : List D → R D) (fo : FE) (fl : FL) : FE := fun δ => (fo δ).bind (rCallO c G fl δ)
end
end DL

namespace DL
open PySem PySem.Spec PyProof.Rows L2
def lc2F (i : Nat) (t : FB) (fi1 : FL) (i1 : Nat) (t1 : FB) (f : FE) (δ : DSt) : List D → List D → R (List D)
  | [], acc => .ok acc
  | d :: ds, acc => (t (δ.set i (.fz d))).quiet.bind fun b => match b with
    | true => (fi1 (δ.set i (.fz d))).quiet.bind fun es => (lcF i1 t1 f (δ.set i (.fz d)) es acc).bind fun acc' => lc2F i t fi1 i1 t1 f δ ds acc'
    | false => lc2F i t fi1 i1 t1 f δ ds acc
def fLc2L (fi : FL) (i : Nat) (t : FB) (fi1 : FL) (i1 : Nat) (t1 : FB) (f : FE) : FL := fun δ => (fi δ).bind fun ds => lc2F i t fi1 i1 t1 f (δ.set i1 .un) ds []
def fLc2 (fi : FL) (i : Nat) (t : FB) (fi1 : FL) (i1 : Nat) (t1 : FB) (f : FE) : FE := fun δ => (fLc2L fi i t fi1 i1 t1 f δ).bind fun ds => .ok (.lst ds)
section
variable {X : Cx} {e0 : Ent} {E : XK} {Eσ : Sg → XK} {pos p : Pos} {x y : Str} {a b c tg elt iter tg1 iter1 : Expr} {f g : FE} {fi fi1 : FL} {t t1 : FB} {ifs ifs1 : List Expr} {scope : Scope} {own : List (Str × Nat)} {i i1 : Nat}
end
end DL

namespace DL
open PySem PySem.Spec PyProof.Rows L2
section
variable {X : Cx} {e0 : Ent} {E : XK} {Eσ : Sg → XK} {pos : Pos} {a b : Expr} {f : FE} {fl : FL}
def fPar (i j : Nat) (fl : FL) : FS := fun δ => O.on (fl δ) fun ds => match ds with
  | [d, e] => .nx ((δ.set i (.fz d)).set j (.fz e))
  | _ => .bad
def dItL : D → Option (List D)
  | .lst ds => some ds
  | .tup ds => some ds
  | _ => none
def fNewL (i : Nat) (f : FE) : FS := fun δ => O.on (f δ) fun d => O.on (R.of (dItL d)) fun ds => .nx (δ.set i (.ow ds))
end
end DL

namespace DL
open PySem PySem.Spec PyProof.Rows L2
def tDF (K : PySem.W.Frag) (E : Sg → XK) (f : FL) : TE := fun σ H Q => ∃ S δ, StE K S σ H δ ∧ Res K S H (E σ) (f δ) fun ds => ∀ p vs H', Same H H' → H' p = none → RepL K S H' vs ds → Q (.ref p) (upd H' p (.lst vs))
def DF (X : Cx) (E : Sg → XK) (e : Expr) (f : FL) : Prop := PE X e (tDF X.K E f)
section
variable {X : Cx} {e0 : Ent} {E : XK} {Eσ : Sg → XK} {pos : Pos} {a b e : Expr} {f g : FE} {fl : FL} {x : Str}
def fCutOw (i : Nat) (l h : FO) : FL := fun δ => (fOwn i δ).bind fun ds => (l δ).bind fun lo => (h δ).bind fun hi => .ok (cut ds lo hi)
theorem fCutOw_e {i : Nat} {l h : FO} {δ : DSt} {ds : List D} {lo hi : Option Int} (h1 : fOwn i δ = .ok ds) (h2 : l δ = .ok lo) (h3 : h δ = .ok hi) : fCutOw i l h δ = .ok (cut ds lo hi) := by
  unfold fCutOw
  rw [h1, R.bind_ok, h2, R.bind_ok, h3]
  rfl
def fCutE (f : FE) (l h : FO) : FL := fun δ => (f δ).bind fun d => match d with
  | .lst ds => (l δ).bind fun lo => (h δ).bind fun hi => .ok (cut ds lo hi)
  | _ => .bad
theorem fCutE_e {f : FE} {l h : FO} {δ : DSt} {ds : List D} {lo hi : Option Int} (h1 : f δ = .ok (.lst ds)) (h2 : l δ = .ok lo) (h3 : h δ = .ok hi) : fCutE f l h δ = .ok (cut ds lo hi) := by
  unfold fCutE
  rw [h1, R.bind_ok]
  show (l δ).bind _ = _
  rw [h2, R.bind_ok, h3]
  rfl
def rCatL (ds : List D) : D → R (List D)
  | .lst es => if okLe (ds.length + es.length) = true then .ok (ds ++ es) else .bad
  | _ => .bad
def fCatOw (i : Nat) (f : FE) : FL := fun δ => (fOwn i δ).bind fun ds => (f δ).bind fun d => rCatL ds d
theorem fCatOw_e {i : Nat} {δ : DSt} {ds es : List D} (h1 : fOwn i δ = .ok ds) (h2 : f δ = .ok (.lst es)) (h3 : okLe (ds.length + es.length) = true) : fCatOw i f δ = .ok (ds ++ es) := by
  unfold fCatOw
  rw [h1, R.bind_ok, h2, R.bind_ok]
  exact if_pos h3
end
end DL

namespace DL
open PySem PySem.Spec PyProof.Rows L2
section
variable {X : Cx} {E : XK} {Eσ : Sg → XK} {k : Nat} {pos p : Pos} {a : Expr} {f : FE} {c : Str}
def lenR (r : R D) : R D := match r with
  | .ok (.int n) => if (decide (0 ≤ n) && decide (n < 4611686018427387904)) = true then .ok (.int n) else .bad
  | _ => .bad
def rLenO (c : Str) (G : List D → R D) (x : D) : R D := if isOb c x = true then lenR (G [x]) else .bad
def fLenO (c : Str) (G : List D → R D) (f : FE) : FE := fun δ => (f δ).bind (rLenO c G)
end
end DL

namespace DL
open PySem PySem.Spec PyProof.Rows L2 Builtin
section
variable {prog : Program} {w : World} {A : Around} {E : Value → Shared → Prop} {s : Shared} {K : PySem.W.Frag} {x C L f g : Addr} {h₀ : Heap} {m : Str → Option Value} {ox : Obj} {od : Option Obj} {n : Int} {t : Tok}
end
def rMulO (c : Str) (G : List D → R D) (x y : D) : R D := match y with
  | .int i => if isOb c x then G [x, .int i] else .bad
  | _ => .bad
def fMulO (c : Str) (G : List D → R D) (f g : FE) : FE := fun δ => (f δ).bind fun x => (g δ).bind fun y => rMulO c G x y
def fRMulO (c : Str) (G : List D → R D) (f g : FE) : FE := fun δ => (f δ).bind fun x => (g δ).bind fun y => rMulO c G y x
section
variable {X : Cx} {Eσ : Sg → XK} {k : Nat} {pos : Pos} {a b : Expr} {f g : FE} {c : Str} {fa fb : Addr} {G : List D → R D}
end
end DL

namespace DL
open PySem PySem.Spec PyProof.Rows L2 Builtin
section
variable {prog : Program} {w : World} {A : Around} {E : Value → Shared → Prop} {s : Shared} {K : PySem.W.Frag} {x C f : Addr} {ox : Obj} {od : Option Obj} {b tb : Value}
end
def othB (c : Str) (e : D) : Bool := isOb c e || e.tyN.isSome
def dEqO (c : Str) (G : List D → R D) (x y : D) : Option D := if isOb c x && othB c y then (match G [x, y] with | .ok (.bl b) => some (.bl b) | _ => none) else none
def dNeO (c : Str) (G : List D → R D) (x y : D) : Option D := if isOb c x && othB c y then (match G [x, y] with | .ok (.bl b) => some (.bl (!b)) | _ => none) else none
section
variable {X : Cx} {Eσ : Sg → XK} {k : Nat} {c : Str} {fa : Addr} {G : List D → R D}
end
end DL

namespace DL
open PySem PySem.Spec PyProof.Rows L2 Builtin Builtin.Str
section
variable {prog : Program} {w : World} {A : Around} {E : Value → Shared → Prop} {s : Shared} {K : PySem.W.Frag} {x C f : Addr} {ox : Obj} {od : Option Obj}
end
def dStrO (c : Str) (G : List D → R D) : List D → Option D
  | [x] => if isOb c x = true then (match G [x] with | .ok (.str z) => some (.str z) | _ => none) else none
  | _ => none
section
variable {X : Cx} {k : Nat} {c : Str} {fa : Addr} {G : List D → R D}
end
end DL

namespace DL
open PySem PySem.Spec PyProof.Rows L2
def dWords : D → Option D
  | .str a => if okLe (a.length + 2) = true then some (.lst ((Txt.words a).map .str)) else none
  | _ => none
section
variable {X : Cx} {Eσ : Sg → XK} {pos apos : Pos} {a : Expr} {f : FE}
end
end DL

namespace DL
open PySem PySem.Spec PyProof.Rows L2
def intsD : List D → Option (List Int)
  | [] => some []
  | .int i :: ds => (intsD ds).map (i :: ·)
  | _ :: _ => none
def maxI (n : Int) : List Int → Int
  | [] => n
  | m :: ns => maxI (max n m) ns
def dMaxL : List D → Option D
  | [.lst ds] => match intsD ds with
    | some (n :: ns) => some (.int (maxI n ns))
    | _ => none
  | _ => none
def dSum : List D → Option D
  | [.lst ds] => match intsD ds with
    | some ns => some (.int ns.sum)
    | _ => none
  | _ => none
section
variable {X : Cx}
end
end DL

namespace DL
open PySem PySem.Spec PyProof.Rows L2
section
variable {X : Cx} {Eσ : Sg → XK} {k : Nat} {pos p sp_ : Pos} {a : Expr} {f : FE} {x : Str}
def tbN : List (Nat × Tb) → Nat → Tb
  | [], _ => []
  | (m, tb) :: r, n => if m = n then tb else tbN r n
def fCallVS (ts : List (Nat × Tb)) (i : Nat) (f : FE) : FE := fun δ => (fVar i δ).bind fun d => match f δ with
  | .ok e => (R.of (dItL e)).bind fun ds => (R.of (tbOf (tbN ts ds.length) d)).bind fun G => G ds
  | _ => .bad
end
end DL

namespace DL
open PySem PySem.Spec PyProof.Rows L2
def setK {α : Type} : List Ky → List α → Ky → α → List α
  | x :: ks, d :: ds, k, v => if x = k then v :: ds else d :: setK ks ds k v
  | _, ds, _, _ => ds
theorem map_none {ks : List Ky} {vs : List V} {k : Ky} {v : V} (h : k ∉ ks) : (ks.zip vs).map (fun kv => if kv.1 = k then (kv.1, v) else kv) = ks.zip vs := by
  have : ∀ q ∈ ks.zip vs, (fun kv : Ky × V => if kv.1 = k then (kv.1, v) else kv) q = q := fun q hq => if_neg fun e => h (by rw [← e]; exact (List.of_mem_zip hq).1)
  exact (List.map_congr_left this).trans (List.map_id' _)
theorem RepL.setK {K : PySem.W.Frag} {S : Addr → Prop} {H : Hp} {v : V} {d : D} {k : Ky} (q : Rep K S H v d) : ∀ {ks : List Ky} {vs : List V} {ds : List D}, RepL K S H vs ds → RepL K S H (DL.setK ks vs k v) (DL.setK ks ds k d)
  | [], _, _, r => by unfold DL.setK; exact r
  | x :: ks, _, _, .nil => by unfold DL.setK; exact .nil
  | x :: ks, _, _, .cons h r => by
    unfold DL.setK
    split
    · exact .cons q r
    · exact .cons h (RepL.setK q r)
def rPutC (i : Nat) (δ : DSt) (r : List Ky × List D) (v : D) (k : Ky) : O := if okLt r.1.length = true then (if kIn k r.1 = true then .nx (δ.set i (.od r.1 (setK r.1 r.2 k v))) else .nx (δ.set i (.od (r.1 ++ [k]) (r.2 ++ [v])))) else .bad
def fPutC (i : Nat) (f g : FE) : FS := fun δ => O.on (g δ) fun v => O.on (fOd i δ) fun r => O.on (f δ) fun kd => O.on (R.of kd.key) fun k => rPutC i δ r v k
section
variable {X : Cx} {e0 : Ent} {E : XK} {pos : Pos} {x : Str} {a b : Expr} {f g : FE}
end
end DL

namespace DL
open PySem PySem.Spec PyProof.Rows L2
def fInOd (neg : Bool) (f : FE) (i : Nat) : FE := fun δ => (f δ).bind fun d => (fOd i δ).bind fun r => (R.of d.key).bind fun k => .ok (.bl (if neg then !kIn k r.1 else kIn k r.1))
def fIxOd (i : Nat) (f : FE) : FE := fun δ => (fOd i δ).bind fun r => (f δ).bind fun d => (R.of d.key).bind fun k => R.of (kGet r.1 r.2 k)
section
variable {X : Cx} {Eσ : Sg → XK} {pos p1 : Pos} {x : Str} {a b : Expr} {f g : FE}
abbrev rInK (neg : Bool) : R2 := fun x y H Q => ∃ (a : Addr) (k : Ky) (ks : List Ky) (vs : List V), x = kV k ∧ y = .ref a ∧ H a = some (.dK (kvsOf ks vs)) ∧ ks.length = vs.length ∧ Q (.bl (if neg then !kIn k ks else kIn k ks)) H
abbrev rIxK : R2 := fun x y H Q => ∃ (a : Addr) (k : Ky) (ks : List Ky) (vs : List V) (w : V), x = .ref a ∧ y = kV k ∧ H a = some (.dK (kvsOf ks vs)) ∧ valV (kvsOf ks vs) k = some w ∧ Q w H
end
end DL

namespace DL
open PySem PySem.Spec PyProof.Rows L2
section
variable {X : Cx} {pins : List (Addr × Obj)} {σ : Sg} {H : Hp} {s : Shared} {cc P c : Addr} {L : LamI} {pos : Pos}
structure LamOk (sc : Scope) (L : LamI) : Prop where
  kind : L.scope.kind = .function
  co : L.scope.isCoroutine = false
  gen : L.scope.isGenerator = false
  free : ∀ y ∈ L.scope.names, y.2 = .free → y.1 = L.cap
  cap : sc.names.lookup L.cap = some .cell
  clo : ∀ cells : List (Str × Addr), cloFrom cells L.scope.names [] = [(L.cap, (cells.lookup L.cap).getD 0)]
end
def retE (s : Stmt) : Expr := match s with
  | .Return (some e) _ => e
  | _ => .Name "" ⟨0, 0, 0, 0⟩
def ifB (s : Stmt) : List Stmt := match s with
  | .If _ b _ _ => b
  | _ => []
def lamPs (e : Expr) : Arguments := match e with
  | .Lambda p _ _ _ => p
  | _ => { posonlyargs := [], args := [], vararg := none, kwonlyargs := [], kw_defaults := [], kwarg := none, defaults := [] }
def lamBd (e : Expr) : Expr := match e with
  | .Lambda _ b _ _ => b
  | e => e
def lamSc (e : Expr) : Scope := match e with
  | .Lambda _ _ sc _ => sc
  | _ => { kind := .function, names := [], isGenerator := false, isCoroutine := false }
def NoX {α : Type} (f : DSt → R α) : Prop := ∀ δ n xs, f δ ≠ .exc n xs
def RtB (F : FS) : Prop := ∀ δ, (∃ d δ', F δ = .rt d δ') ∨ F δ = .bad
def NewC (X : Cx) (S : Addr → Prop) (σ : Sg) (H : Hp) (v : V) (d : D) : Prop :=
  ∃ (f c' c : Addr) (L : LamI) (x : D) (i : Nat) (u : V), v = .ref f ∧ d = .clo L x ∧ L.qual = lamQ ∧ X.env.cells.lookup L.cap = some c ∧ H f = some (FunO f c' c L) ∧ ¬ S f ∧ H c' = some (LamX.CodeO c' lamQ) ∧ ¬ S c' ∧ X.N[i]? = some L.cap ∧ X.env.scope.names.lookup L.cap = some .cell ∧ σ[i]? = some (some u) ∧ Rep X.K S H u x
def LRes (X : Cx) (pins : List (Addr × Obj)) (S : Addr → Prop) (σ : Sg) (H : Hp) (R : Flow → Shared → Prop) : O → Prop
  | .rt d _ => ∀ u s' v H', Inv X pins σ H' s' → Same H H' → RelV v u → (Rep X.K S H' v d ∨ NewC X S σ H' v d) → R (.ret u) s'
  | _ => False
structure LSs (X : Cx) (st : List Stmt) (F : FS) : Prop where
  run : ∀ (pins : List (Addr × Obj)) (s : Shared) (σ : Sg) (H : Hp) (S : Addr → Prop) (δ : DSt) (R : Flow → Shared → Prop), Inv X pins σ H s → StE X.K S σ H δ → LRes X pins S σ H R (F δ) → wpAny (model X.prog X.w) X.A (execs st X.env) R X.xe s
def fClo (L : LamI) (i : Nat) : FE := fun δ => (fVar i δ).bind fun x => .ok (.clo L x)
section
variable {X : Cx} {E : XK} {pos p2 : Pos} {a b c : Expr} {f g : FE} {t : FB} {F G : FS} {st rest : List Stmt} {cc P : Addr} {L : LamI}
end
section
variable {P : Program} {w : World} {K : PySem.W.Frag} {mg : Str → Option Value} {base : Heap}
end
mutual
/-- no lambda, no instance is in it -/
def D.noC : D → Bool
  | .tup xs => noCL xs
  | .lst xs => noCL xs
  | .scr xs => noCL xs
  | .dic _ xs => noCL xs
  | .obj _ _ => false
  | .clo _ _ => false
  | .non => true
  | .bl _ => true
  | .int _ => true
  | .str _ => true
  | .fn _ => true
def noCL : List D → Bool
  | [] => true
  | d :: ds => d.noC && noCL ds
end
section
variable {K : PySem.W.Frag} {S : Addr → Prop} {H : Hp} {c : Addr} {φ : Heap → Prop}
end
structure LamB (ps : List Str) (L : LamI) : Prop where
  sc : NdefX.NScope (ps ++ [L.cap]) ps [L.cap] L.scope
  bind : ∀ (q : Str) (cl : List (Str × Addr)) (pm cv ctv : Value) (us : List Value), us.length = ps.length → bindArgs (PySem.W.kla_fn "<lambda>" q L.params L.body L.scope cl pm cv ctv) ⟨us, []⟩ = pure (ps.zip us)
abbrev nfL (L : LamI) (c' c : Addr) : NdefX.NF := ⟨"<lambda>", L.qual, L.params, [], L.scope, [(L.cap, c)], c'⟩
def lamG (n : Nat) (g : FE) (x : D) (ds : List D) : R D := if (noCL ds && x.noC && ds.length == n) = true then (match g ((ds ++ [x]).map .fz) with | .ok d => .ok d | _ => .bad) else .bad
def LamP (P : Program) (w : World) (K : PySem.W.Frag) (mg : Str → Option Value) (base : Heap) (ps : List Str) (L : LamI) (g : FE) : Prop :=
  ∀ (f c' c : Addr) (A : Around) (outer : List Env) (s : Shared) (H : Hp), DE (NdefX.ncx (L2.CX P w) P w K mg base (ps ++ [L.cap]) (nfL L c' c) f A outer s H E0) E0s L.body g
section
variable {P : Program} {w : World} {K : PySem.W.Frag} {mg : Str → Option Value} {base : Heap}
def spC (K : PySem.W.Frag) (n : Nat) (L : LamI) (f : Addr) (G : D → List D → R D) : Sp := fun vs H Q E => ∃ S ds c' c v x, CloAt S H f c' c L v ∧ Rep K S H v x ∧ Dom K S H ∧ RepL K S H vs ds ∧ ds.length = n ∧ Res K S H E (G x ds) fun d => ∀ v H', Same H H' → Rep K S H' v d → Q v H'
abbrev Ctb : Type := List (LamI × (D → List D → R D))
def CtOk (P : Program) (w : World) (K : PySem.W.Frag) (mg : Str → Option Value) (base : Heap) (k n : Nat) (ct : Ctb) : Prop := ∀ q ∈ ct, ∀ f : Addr, FnR P w K mg base (L2.CX P w) k f (spC K n q.1 f q.2)
open Classical in
noncomputable def ctGet : Ctb → LamI → Option (D → List D → R D)
  | [], _ => none
  | q :: ct, L => if q.1 = L then some q.2 else ctGet ct L
noncomputable def cbOf (tb : Tb) (ct : Ctb) : D → Option (List D → R D)
  | .fn f => tbGet tb f
  | .clo L x => (ctGet ct L).map fun G => G x
  | _ => none
noncomputable def fCallC (tb : Tb) (ct : Ctb) (i : Nat) (fl : FL) : FE := fun δ => (fVar i δ).bind fun d => (R.of (cbOf tb ct d)).bind fun G => (fl δ).bind G
end
section
variable {X : Cx} {Eσ : Sg → XK} {k : Nat} {pos p : Pos} {x : Str} {a : Expr} {es : List Expr} {fl : FL}
end
end DL

namespace DL
open PySem PySem.Spec PyProof.Rows L2
section
variable {X : Cx} {e0 : Ent} {E : XK} {Eσ : Sg → XK} {pos p tpos : Pos} {a b : Expr} {elts es : List Expr} {f g : FE} {fl : FL}
def enumD : Nat → List D → List D
  | _, [] => []
  | n, d :: ds => .tup [.int n, d] :: enumD (n + 1) ds
def IteT (K : PySem.W.Frag) (a : Addr) : It :=
  ⟨fun i H => ∃ (xs : List V) (x : V), SqT K H a xs ∧ xs[i]? = some x, fun i H v H' => ∃ T x, v = .ref T ∧ H T = none ∧ H' = upd H T (.tup [.int (i : Nat), x]) ∧ ∀ xs, SqT K H a xs → xs[i]? = some x, fun i H => ∃ xs : List V, SqT K H a xs ∧ xs.length ≤ i⟩
def iEnum2 (K : PySem.W.Frag) (ta : TA) : TI := fun σ H R => ta σ H fun vs H1 => ∃ a xs, vs = [.ref a] ∧ ((SqL K H1 a xs ∧ R (Ite K a) H1) ∨ (SqT K H1 a xs ∧ R (IteT K a) H1))
def rEnum : D → R (List D)
  | .lst ds => .ok (enumD 0 ds)
  | .tup ds => .ok (enumD 0 ds)
  | _ => .bad
def fEnum (f : FE) : FL := fun δ => (f δ).bind rEnum
def rRepL : D → D → R (List D)
  | .lst xs, .int k => if repOk xs.length k = true then .ok (List.replicate k.toNat xs).flatten else .bad
  | _, _ => .bad
def fRepL (f g : FE) : FL := fun δ => (f δ).bind fun x => (g δ).bind fun y => rRepL x y
end
end DL

namespace DL
open PySem PySem.Spec PyProof.Rows L2
section
variable {X : Cx} {e0 : Ent} {E : XK} {pos p1 p2 p3 p4 : Pos} {x : Str} {a : Expr} {f : FE} {F G : FS} {as bs : List Stmt}
def rWal (i : Nat) (δ : DSt) (F G : FS) (d : D) : O := match d.isNon with
  | true => G (δ.set i (.fz d))
  | false => F (δ.set i (.fz d))
def fIfW (i : Nat) (f : FE) (F G : FS) : FS := fun δ => O.on (f δ) (rWal i δ F G)
def whileWF (i : Nat) (f : FE) (F : FS) : Nat → DSt → O
  | 0, _ => .bad
  | n + 1, δ => O.on (f δ) fun d => match d.isNon with
    | true => .nx (δ.set i (.fz d))
    | false => match F (δ.set i (.fz d)) with
      | .nx δ2 => whileWF i f F n δ2
      | .ct δ2 => whileWF i f F n δ2
      | .bk δ2 => .nx δ2
      | .rt d δ2 => .rt d δ2
      | .exc n xs => .exc n xs
      | .bad => .bad
end
end DL

namespace DL
open PySem PySem.Spec PyProof.Rows L2 NdefX
section
open PySem.W
variable {prog : Program} {w : World} {A : Around} {E : Value → Shared → Prop} {h : Heap} {g : Array GenState} {d : Drawn} {t : Nat} {os : OsState}
variable {nm q : Str} {C N : Addr} {bs bm : List Value} {hdct : Bool} {sn : List Str} {sub : List Value} {ab : Bool} {col : Option Bool} {dd : Option Addr} {k0 k1 k2 k3 k5 : Option Value}
theorem call_mw {u e t0 : Addr} {rest : List Value} {Q : Value → Shared → Prop} (hT : HandSPX.refsVE bm = true)
    (hC : h.get? C = some (excClassObj nm q C N bs bm hdct sn sub ab col dd k0 k1 k2 k3 k5 "ValueError.__new__")) (he : h.get? e = some (HandSPX.excO C t0)) (hu : h.get? u = some (kxs_mw "ValueError.__init__" e)) (hr : rest.length ≤ sizeLine)
    (hq : ∀ h' t1, (∀ b o, b ≠ e → h.get? b = some o → h'.get? b = some o) → h'.get? e = some (HandSPX.excO C t1) → Q .none ⟨h', g, d, t, os⟩) :
    wpAny (model prog w) A (call (.ref u) rest) Q E ⟨h, g, d, t, os⟩ := by
  refine wpAny_call (codeAny_of_tree ?_)
  show wpAny _ A.in1 (callAny (.ref u) ⟨rest, []⟩) _ _ _
  simp only [callAny]
  refine wpAny_bind (wpAny_load hu ?_)
  simp only [kxs_mw, show (Value.type "method-wrapper" == Value.type "method" || Value.type "method-wrapper" == Value.type "builtin_function_or_method" || Value.type "method-wrapper" == Value.type "method-wrapper") = true by decide, if_true]
  refine W.KFB.if_so (by decide) ?_
  refine wpAny_bind (PySem.ESX.check_bound F.excBase_ValueError hC he rfl ?_)
  refine wpAny_bind (wpAny_pure (wpAny_pure ?_))
  refine ⟨Code.quiet_builtin _ (by decide +kernel), codeAny_builtin F.excBase_ValueError.initEntry ?_⟩
  rw [Around.under_plainId F.excBase_ValueError.init.plain _]
  wp_walk
  exact hq _ h.objs.size (fun b o hb ho => (Heap.get?_update_other _ _ (Ne.symm hb)).trans (Heap.get?_push_of_some _ ho)) ((Heap.get?_update_self _ (Heap.get?_push_of_some _ he) rfl).trans rfl)
end
structure InitK (P : Program) (K : PySem.W.Frag) (C fI cc : Addr) (F : NF) : Prop where
  oex : OexC K C
  lk : ∃ oc od doc pm ctv osl, K.lookup fI = some ⟨oc, od, .func (F.fd doc pm ctv), osl⟩
  cl : F.cl = [(("__class__" : Str), cc)]
  code : PySem.W.codeIn K (.ref F.c) F.qual = true
  file : ∃ oc od vs sl file tf, K.lookup F.c = some ⟨oc, od, .fields vs, sl⟩ ∧ vs[2]? = some (.str file tf) ∧ ((P.main.file : Str) == file) = true
  cell : ∃ oc od sl, K.lookup cc = some ⟨oc, od, .cell (some (.ref C)), sl⟩
  along : ∃ cd, PySem.W.clsIn K C = some cd ∧ PySem.W.alongIn K ("__init__" : Str) ((cd.mro.dropWhile (· != .ref C)).drop 1) = some (some (.builtin "ValueError.__init__"))
  sub : PySem.W.mroIn K C (.ref C) = some true
  isV : PySem.W.mroIn K C (.type "ValueError") = some true
  opq : PySem.W.nsIn K cStatics "thirdparty.any" = some none
  top : (P.main.scope.names.lookup ("super" : Str)).isSome = false
abbrev sInitE (p0 p1 p2 p3 p4 : Pos) (j : Nat) (msg : Str) : Expr := .Call (.Attribute (.Call (.Name "super" p0) [] [] p1) "__init__" p2) [.Constant (.str msg) j p3] [] p4
abbrev sInit (p0 p1 p2 p3 p4 p5 : Pos) (j : Nat) (msg : Str) : Stmt := .Expr (sInitE p0 p1 p2 p3 p4 j msg) p5
structure InitS (ps : List Str) (F : NF) (p0 p1 p2 p3 p4 p5 : Pos) (j : Nat) (msg : Str) : Prop where
  sc : NScope (ps ++ [("__class__" : Str)]) ps [("__class__" : Str)] F.scope
  sup : F.scope.names.lookup ("super" : Str) = some .globalImplicit
  par : ∃ ar, (F.params.posonlyargs ++ F.params.args).head? = some ar ∧ ps.head? = some ar.arg
  int : ∀ f L, interactive (envF F f L) = false
  swp : ∀ f L, swapsWith (sInitE p0 p1 p2 p3 p4 j msg) none p5.line (envF F f L) = pure false
  ev : ∀ f L, ∃ pl, eval (sInitE p0 p1 p2 p3 p4 j msg) (envF F f L) = (do
      let ov ← attributeBase (.Call (.Name "super" p0) [] [] p1) "__init__" (envF F f L) (eval (.Call (.Name "super" p0) [] [] p1) (envF F f L))
      standAt p2.atName
      let (f', first) ← holding [ov] (getMethod ov "__init__" pl)
      callWith p4 f' first (backTo p4 (starEach [.Constant (.str msg) j p3] (envF F f L))) [])
  args : ∀ f L, starEach [.Constant (.str msg) j p3] (envF F f L) = (false, eval (.Constant (.str msg) j p3) (envF F f L)) :: starEach [] (envF F f L)
section
variable {CX : CXT} {P : Program} {w : World} {K : PySem.W.Frag} {mg : Str → Option Value} {base : Heap} {ps : List Str} {F : NF} {fI C cc : Addr} {A : Around} {outer : List Env} {s : Shared} {H : Hp} {E : XK} {k : Nat}
theorem cells_init (T : InitK P K C fI cc F) (e0 : Env0 P w K mg base A outer s H) : CellsAt F.cl [("__class__" : Str)] [some (.ref C)] s.heap H := by
  obtain ⟨oc, od, sl, lc⟩ := T.cell
  have hb := e0.bs _ _ (e0.mod.kin _ _ lc)
  rw [T.cl]
  refine ⟨rfl, fun y c e => ?_, fun x y c e1 e2 => ?_, fun i y e => ?_⟩
  · have : c = cc := by
      by_cases hy : y = "__class__"
      · subst hy; simpa [List.lookup] using e.symm
      · have : (y == ("__class__" : Str)) = false := by simpa using hy
        simp [List.lookup, this] at e
    subst this
    exact ⟨hb.2, _, ⟨_, hb.1, rfl⟩⟩
  · have key : ∀ {z : Str}, List.lookup z [(("__class__" : Str), cc)] = some c → z = "__class__" := fun {z} e => by
      by_cases hz : z = "__class__"
      · exact hz
      · have : (z == ("__class__" : Str)) = false := by simpa using hz
        simp [List.lookup, this] at e
    rw [key e1, key e2]
  · have : i = 0 ∧ y = "__class__" := by
      cases i with
      | zero => exact ⟨rfl, by simpa using e.symm⟩
      | succ i => simp at e
    obtain ⟨rfl, rfl⟩ := this
    refine ⟨cc, by simp [List.lookup], fun v hv => ⟨.ref C, ?_, ⟨_, hb.1, rfl⟩⟩⟩
    simp at hv
    subst hv
    rfl
theorem run_super (T : InitK P K C fI cc F) {p0 p1 p2 p3 p4 p5 : Pos} {j : Nat} {msg : Str} (S : InitS ps F p0 p1 p2 p3 p4 p5 j msg) {a : Addr} {vs : List V} {body : List Stmt} {Q : Flow → Shared → Prop} {s1 : Shared}
    (hp : ∀ x, ps.head? = some x → (startF (ps ++ [("__class__" : Str)]) vs [some (.ref C)])[0]? = some (some (.ref a)))
    (I : Inv (ncx CX P w K mg base (ps ++ [("__class__" : Str)]) F fI A outer s H E) [] (startF (ps ++ [("__class__" : Str)]) vs [some (.ref C)]) H s1) (ea : H a = some (exo a C none)) (hm : mg "super" = none)
    (hq : ∀ s2, Inv (ncx CX P w K mg base (ps ++ [("__class__" : Str)]) F fI A outer s H E) [] (startF (ps ++ [("__class__" : Str)]) vs [some (.ref C)]) H s2 → Q .next s2) :
    _root_.PySem.wpAt (model P w) (A.deeper (envF F fI s.heap.objs.size)) (.func body (envF F fI s.heap.objs.size)) (exec (sInit p0 p1 p2 p3 p4 p5 j msg) (envF F fI s.heap.objs.size)) Q (ncx CX P w K mg base (ps ++ [("__class__" : Str)]) F fI A outer s H E).xe s1 := by
  obtain ⟨oc, od, doc, pm, ctv, osl, lk⟩ := T.lk
  obtain ⟨oc2, od2, fv, sl2, file, tf, lf, hv2, hfile⟩ := T.file
  obtain ⟨oc3, od3, sl3, lc⟩ := T.cell
  obtain ⟨ar, har, hp0⟩ := S.par
  have KX : K.In s1.heap := I.kIn
  have hk : F.scope.kind = .function := S.sc.kind
  have hx0 : (ps ++ [("__class__" : Str)])[0]? = some ar.arg := by
    cases ps with
    | nil => cases hp0
    | cons x r => simpa using hp0
  have hself := hp _ hp0
  have hks : (envF F fI s.heap.objs.size).kindOf "super" = some .globalImplicit := S.sup
  have hkc : (envF F fI s.heap.objs.size).kindOf "__class__" = some .free := S.sc.frk _ (by simp)
  obtain ⟨pl, hev⟩ := S.ev fI s.heap.objs.size
  refine ks_wpAt_Expr_any (ks_wpAt_MethodCall ?_ hev) (S.int _ _) (S.swp _ _)
  refine ks_wpAt_super_base hks hkc rfl rfl (KX _ _ lk) rfl har rfl (KX _ _ lf) rfl hv2 hfile T.top ?_
  obtain ⟨mb, b1, b2⟩ := I.mod.blt
  refine W.ks_loadName_global (env := envF F fI s.heap.objs.size) hk hks (Calls.loadGlobal_builtin (env := envF F fI s.heap.objs.size) (I.mod.glob.keeps I.bk) hm (b1.keeps I.bk) ((b2 "super" (by decide)).trans (by kernel_rfl)) ⟨rfl, ?_⟩)
  refine wpAny_loadName_free (env := envF F fI s.heap.objs.size) hk hkc (by show List.lookup _ F.cl = some cc; rw [T.cl]; rfl) ⟨_, KX _ _ lc, rfl⟩ ?_
  obtain ⟨m, hns, hlk⟩ := id I.loc
  have hloc : F.scope.names.lookup ar.arg = some .local := S.sc.par _ (by
    cases ps with
    | nil => cases hp0
    | cons x r => simp at hp0; rw [← hp0]; exact List.mem_cons_self)
  obtain ⟨uu, ru, lk0⟩ := hlk 0 ar.arg (.ref a) hx0 hself (.inl hloc)
  cases (show uu = Value.ref a from ru)
  have hma : m ar.arg = some (.ref a) := by
    rcases lk0 with ⟨_, e⟩ | ⟨k, _⟩
    · exact e
    · have k : F.scope.names.lookup ar.arg = some .cell ∨ F.scope.names.lookup ar.arg = some .free := k
      rw [hloc] at k
      rcases k with k | k <;> cases k
  refine wpAny_loadName_local (env := envF F fI s.heap.objs.size) hk hloc hns hma ?_
  obtain ⟨nm, q, N, bs, bm, sn, sub, ab, col, dd, k0, k1, k2, k3, k5, hC, hbm⟩ := T.oex.cls
  have hcl : PySem.W.clsIn K C = some { name := nm, bases := bs, mro := .ref C :: bm, ns := N, qualname := q, hasDict := true, slotNames := sn, subclasses := sub, abstract := ab, collection := col, hasDel := false } := by unfold PySem.W.clsIn; rw [hC] <;> rfl
  obtain ⟨t1, hea⟩ := exo_at I.hok ea
  have hCs := KX _ _ hC
  refine ks_wpAny_isType_cls (cd := _) hCs rfl ⟨rfl, ?_⟩
  obtain ⟨cd, hcd, hal⟩ := T.along
  have hcde := hcd.symm.trans hcl
  obtain ⟨hp, gs, dr, tk, os⟩ := s1
  have hInst : ∀ {M : Model} {h' : Heap}, (∀ b o, hp.get? b = some o → h'.get? b = some o) → ∀ {B : Value} {r : Bool}, PySem.W.mroIn K C B = some r → PySem.W.Looks M h' (isInstance (.ref a) B) r := fun {M h'} kp {B r} e =>
    have J : PySem.W.InstAt h' a (HandSPX.excO C t1) C none := ⟨kp _ _ hea, rfl, rfl, trivial⟩
    J.type.andThen (PySem.W.looks_mroIn (KX.keeps kp) e)
  have hne : a ≠ C := fun z => by
    have := (I.bk _ _ (I.mod.kin _ _ hC)).symm.trans (z ▸ hea)
    cases this
  refine ks_wpAny_call_super (cdD := _) hCs rfl hea rfl (fun c e => by cases e) (PySem.W.looks_mroIn KX T.sub) (fun h1 hso kp1 => ?_)
  have I1 := I.kept (h' := h1) (t' := tk + 1) kp1
  have KX1 : K.In h1 := KX.keeps kp1
  refine PySem.W.kxs_getMethod PySem.W.kxs_ValueError hso (PySem.W.looks_opaque KX1 T.opq) (l₀ := cd.mro) ((PySem.W.looks_clsIn KX1 hcd).andThen .now) rfl KX1 hal (hInst kp1 T.isV) hne (by decide) ?_
  have kp2 : ∀ b o, hp.get? b = some o → (h1.push (PySem.W.kxs_mw "ValueError.__init__" a)).get? b = some o := fun b o e => Heap.get?_push_of_some _ (kp1 b o e)
  have I2 := ClX.pin_new (t' := tk + 1) (o := PySem.W.kxs_mw "ValueError.__init__" a) (h' := h1.push (PySem.W.kxs_mw "ValueError.__init__" a)) I1 (fun _ _ z => Heap.get?_push_of_some _ z) (Nat.le_refl _) (Heap.get?_push_size h1 rfl) (fun v z => nomatch z)
  have ha : PA (ncx CX P w K mg base (ps ++ [("__class__" : Str)]) F fI A outer s H E) [.Constant (.str msg) j p3] (tCons (tC (.str msg)) tNil) := pa_cons pe_str pa_nil (S.args _ _)
  have run := ha.run p4 [(h1.objs.size, PySem.W.kxs_mw "ValueError.__init__" a)] _ _ H (fun vs' H' => vs' = [V.str msg] ∧ H = H') I2 ⟨rfl, rfl⟩
  have hsa := S.args fI s.heap.objs.size
  have run : wpAny (model P w) (A.deeper (envF F fI s.heap.objs.size)) (spliced (backTo p4 (starEach [.Constant (.str msg) j p3] (envF F fI s.heap.objs.size)))) _ _ _ := run
  rw [hsa] at run ⊢
  refine PySem.W.kxs_callWith (i := "ValueError.__init__") (x := a) (by rfl) (Calls.evalArgs_plain (wpAny_mono run (fun us s3 hh => ?_) fun _ _ z => z))
  obtain ⟨vs', H', I3, r3, ev, eH⟩ := hh
  subst ev eH
  obtain ⟨hp3, gs3, dr3, tk3, os3⟩ := s3
  obtain ⟨t3, he3⟩ := exo_at I3.hok ea
  refine ⟨ClX.pin_at I3, call_mw hbm (I3.kIn _ _ hC) he3 (ClX.pin_at I3) (by rw [show ([] ++ us : List Value) = us from rfl, ← Paired.length r3, sizeLine_eq]; show 1 ≤ 16777216; decide) fun h' t4 k x => ?_⟩
  have J := I3.write (t' := tk3) (x := a) (e := a) (o := exo a C none) (h' := h') (by rw [ea]; exact True.intro) (.inl rfl) k ⟨_, x⟩ (exo_ok x)
  have eu : upd H a (exo a C none) = H := funext fun b => by
    by_cases hb : b = a
    · rw [hb, upd_same, ea]
    · exact upd_ne hb
  rw [eu] at J
  exact hq _ ⟨J.ok, J.os, J.bare, J.base, J.loc, J.cell, J.free, J.freeC, fun p hp => J.pin p (List.mem_append_left _ (by simpa using hp)), J.hok, J.len⟩
def spI (C : Addr) (fs : List Str) : Sp := fun vs H Q _ => ∃ a ws, vs = .ref a :: ws ∧ ws.length = fs.length ∧ H a = some (exo a C none) ∧ ∀ dx, H dx = none → dx ≠ a → Q .non (upd (upd H dx (exd dx ((fs.zip ws).reverse))) a (exo a C (some dx)))
theorem init_of {fs : List Str} {self : Str} {p0 p1 p2 p3 p4 p5 : Pos} {j : Nat} {msg : Str} {rest : List Stmt} (T : InitK P K C fI cc F) (S : InitS (self :: fs) F p0 p1 p2 p3 p4 p5 j msg) (hm : mg "super" = none) (hbody : F.body = sInit p0 p1 p2 p3 p4 p5 j msg :: rest)
    (hrest : ∀ (A : Around) (outer : List Env) (s : Shared) (H : Hp) (E : XK) (a : Addr) (ws : List V) (Q : VK), ws.length = fs.length → H a = some (exo a C none) → (∀ dx, H dx = none → dx ≠ a → Q .non (upd (upd H dx (exd dx ((fs.zip ws).reverse))) a (exo a C (some dx)))) →
      ∃ t, PSs (ncx CX P w K mg base (self :: fs ++ [("__class__" : Str)]) F fI A outer s H E) rest t ∧ t { nx := fun _ H' => Q .non H', rt := Q } (startF (self :: fs ++ [("__class__" : Str)]) (.ref a :: ws) [some (.ref C)]) H) :
    ∃ fd, FnOk P w K mg base CX (k + 1) fI fd (self :: fs) (spI C fs) ∧ ∃ oc od osl doc pm ctv, fd = F.fd doc pm ctv ∧ K.lookup fI = some ⟨oc, od, .func fd, osl⟩ := by
  obtain ⟨oc, od, doc, pm, ctv, osl, lk⟩ := T.lk
  refine ⟨F.fd doc pm ctv, ⟨fun vs H Q E ⟨a, ws, e, l, _⟩ => by rw [e, List.length_cons, List.length_cons, l], fun A outer s H args us vs Q E hr e0 hb r hsp => ?_⟩, oc, od, osl, doc, pm, ctv, rfl, lk⟩
  obtain ⟨a, ws, ev, hl, ea, hq⟩ := hsp
  subst ev
  have lim : s.heap.NoLimit := e0.mod.nolimit.keeps fun b o e => (e0.bs b o e).1
  have KX : K.In s.heap := e0.mod.kin.keeps fun b o e => (e0.bs b o e).1
  refine codeAny_call_function hr.depth (KX _ _ lk) rfl S.sc.co S.sc.gen rfl (PySem.W.codeRec_of KX T.code) (hb _ _ _ _ ?_)
  refine wpAny_newFunctionEnv S.sc.nocell (fun ⟨n, _⟩ hy => S.sc.par n (List.of_mem_zip hy).1) (fun h1 hns hsb => ⟨lim.fresh _ hsb, ?_⟩) S.sc.kind
  show codeAny _ _ (.func F.body (envF F fI s.heap.objs.size)) _ _
  have kp : ∀ b o, s.heap.get? b = some o → h1.get? b = some o := fun b o e => hsb.extBut b o (Nat.ne_of_lt (Heap.lt_size e)) (Heap.get?_push_of_some _ e)
  have I := inv_startN (CX := CX) (f := fI) (tk := s.toks + ((self :: fs).zip us).length) (E := E) S.sc hr.hd e0 (by rw [List.length_cons, List.length_cons, hl]) r (cells_init T e0) hns kp
  obtain ⟨t, ht, hqt⟩ := hrest A outer s H E a ws Q hl ea hq
  rw [hbody]
  refine ks_codeAny_funcAt (ks_wpAt_execs_cons (run_super T S (fun x _ => rfl) I ea hm fun s2 I2 => wpAt_of_wpAny ?_))
  refine wpAny_mono (ht.run [] s2 _ H _ I2 hqt) (fun fl s' hs => ?_) fun e s' hs => hs
  cases fl with
  | ret u =>
    obtain ⟨v, σ', H', J, rv, q⟩ := hs
    exact ⟨v, H', J.os, J.bare, J.base, J.hok, rv, q⟩
  | next =>
    obtain ⟨σ', H', J, q⟩ := hs
    exact ⟨.non, H', J.os, J.bare, J.base, J.hok, rfl, q⟩
  | brk => exact hs.choose_spec.choose_spec.2.elim
  | cont => exact hs.choose_spec.choose_spec.2.elim
theorem init_one {f self : Str} {p0 p1 p2 p3 p4 p5 q0 q1 q2 q3 : Pos} {j : Nat} {msg : Str} (hbody : F.body = [sInit p0 p1 p2 p3 p4 p5 j msg, .Assign [.Attribute (.Name self q0) f q1] (.Name f q2) q3]) (T : InitK P K C fI cc F) (S : InitS [self, f] F p0 p1 p2 p3 p4 p5 j msg) (hm : mg "super" = none)
    (hno : PySem.W.findIn K (.ref C) f = some none)
    (hsw : ∀ g L, swapsWith (.Name f q2) (some (.Attribute (.Name self q0) f q1)) q3.line (envF F g L) = pure false) (n1 : (self == ("__debug__" : Str)) = false) (n2 : (self == ("__classdict__" : Str)) = false) (n3 : (f == ("__debug__" : Str)) = false) (n4 : (f == ("__classdict__" : Str)) = false) :
    ∃ fd, FnOk P w K mg base CX (k + 1) fI fd [self, f] (spI C [f]) ∧ ∃ oc od osl doc pm ctv, fd = F.fd doc pm ctv ∧ K.lookup fI = some ⟨oc, od, .func fd, osl⟩ := by
  refine init_of T S hm hbody fun A outer s H E a ws Q hl ea hq => ?_
  match ws, hl with
  | [y], _ =>
    refine ⟨_, pss_one (ps_ost (pe_var (i := 0) rfl (.inl (S.sc.par self (by simp))) n1 n2) (pe_var (i := 1) rfl (.inl (S.sc.par f (by simp))) n3 n4) (hsw _ _)), ?_⟩
    exact ⟨y, rfl, .ref a, rfl, a, C, rfl, T.oex, hno, .inl ⟨ea, fun dx h1 h2 => hq dx h1 h2⟩⟩
theorem init_two {f g self : Str} {p0 p1 p2 p3 p4 p5 q0 q1 q2 q3 r0 r1 r2 r3 : Pos} {j : Nat} {msg : Str} (hbody : F.body = [sInit p0 p1 p2 p3 p4 p5 j msg, .Assign [.Attribute (.Name self q0) f q1] (.Name f q2) q3, .Assign [.Attribute (.Name self r0) g r1] (.Name g r2) r3]) (T : InitK P K C fI cc F) (S : InitS [self, f, g] F p0 p1 p2 p3 p4 p5 j msg) (hm : mg "super" = none)
    (hno : PySem.W.findIn K (.ref C) f = some none) (hno2 : PySem.W.findIn K (.ref C) g = some none)
    (hsw : ∀ g' L, swapsWith (.Name f q2) (some (.Attribute (.Name self q0) f q1)) q3.line (envF F g' L) = pure false) (hsw2 : ∀ g' L, swapsWith (.Name g r2) (some (.Attribute (.Name self r0) g r1)) r3.line (envF F g' L) = pure false)
    (n1 : (self == ("__debug__" : Str)) = false) (n2 : (self == ("__classdict__" : Str)) = false) (n3 : (f == ("__debug__" : Str)) = false) (n4 : (f == ("__classdict__" : Str)) = false) (n5 : (g == ("__debug__" : Str)) = false) (n6 : (g == ("__classdict__" : Str)) = false) :
    ∃ fd, FnOk P w K mg base CX (k + 1) fI fd [self, f, g] (spI C [f, g]) ∧ ∃ oc od osl doc pm ctv, fd = F.fd doc pm ctv ∧ K.lookup fI = some ⟨oc, od, .func fd, osl⟩ := by
  refine init_of T S hm hbody fun A outer s H E a ws Q hl ea hq => ?_
  match ws, hl with
  | [y, z], _ =>
    refine ⟨_, pss_cons (ps_ost (pe_var (i := 0) rfl (.inl (S.sc.par self (by simp))) n1 n2) (pe_var (i := 1) rfl (.inl (S.sc.par f (by simp))) n3 n4) (hsw _ _)) (pss_one (ps_ost (pe_var (i := 0) rfl (.inl (S.sc.par self (by simp))) n1 n2) (pe_var (i := 2) rfl (.inl (S.sc.par g (by simp))) n5 n6) (hsw2 _ _))), ?_⟩
    refine ⟨y, rfl, .ref a, rfl, a, C, rfl, T.oex, hno, .inl ⟨ea, fun dx h1 h2 => ?_⟩⟩
    refine ⟨z, rfl, .ref a, rfl, a, C, rfl, T.oex, hno2, .inr ⟨dx, [(f, y)], upd_same, (upd_ne h2).trans upd_same, by simp, ?_⟩⟩
    have e : upd (upd (upd H dx (exd dx [(f, y)])) a (exo a C (some dx))) dx (exd dx [(g, z), (f, y)]) = upd (upd H dx (exd dx [(g, z), (f, y)])) a (exo a C (some dx)) := funext fun b => by
      by_cases hd : b = dx
      · subst hd
        rw [upd_same, upd_ne h2, upd_same]
      · rw [upd_ne hd]
        by_cases ha : b = a
        · subst ha
          rw [upd_same, upd_same]
        · rw [upd_ne ha, upd_ne ha, upd_ne hd, upd_ne hd]
    show Q .non (upd (upd (upd H dx (exd dx [(f, y)])) a (exo a C (some dx))) dx (exd dx [(g, z), (f, y)]))
    rw [e]
    exact hq dx h1 h2
end
structure ExOk (P : Program) (w : World) (K : PySem.W.Frag) (mg : Str → Option Value) (base : Heap) (n self : Str) (fs : List Str) : Prop where
  fn : ∃ fd, FnOk P w K mg base (L2.CX P w) 1 (He.ma K (He.ga K n) "__init__") fd (self :: fs) (spI (He.ga K n) fs) ∧ Binds K fd (self :: fs) []
  oex : OexC K (He.ga K n)
  at_ : PySem.W.findIn K (.ref (He.ga K n)) "__init__" = some (some (.ref (He.ma K (He.ga K n) "__init__")))
  ty : PySem.W.typeIn K (.ref (He.ma K (He.ga K n) "__init__")) = some (.type "function")
def fRaise (n : Str) (fl : FL) : FS := fun δ => O.on (fl δ) fun ds => .exc n ds.reverse
section
variable {X : Cx} {e0 : Ent} {E : XK} {k : Nat} {b : Expr} {es : List Expr} {fl : FL} {p p1 pos : Pos} {n : Str}
theorem zr : ∀ (l : List Str) (m : List V), l.length = m.length → (l.zip m).reverse = l.reverse.zip m.reverse
  | [], [], _ => rfl
  | a :: l, b :: m, h => by
    have h' : l.length = m.length := Nat.succ.inj h
    rw [List.zip_cons_cons, List.reverse_cons, List.reverse_cons, List.reverse_cons, zr l m h', List.zip_append (by rw [List.length_reverse, List.length_reverse, h'])]
    rfl
  | [], _ :: _, h => by cases h
  | _ :: _, [], h => by cases h
end
end DL

namespace DL
open PySem PySem.Spec PyProof.Rows L2
abbrev HdL : Type := List (Value × Option Nat × (Addr → Value → Option Addr → TS))
def endG : Option Nat → Ends → Ends
  | none, D => D
  | some i, D => { nx := fun σ1 H1 => D.nx (σ1.set i none) H1, rt := D.rt, bk := fun σ1 H1 => D.bk (σ1.set i none) H1, ct := fun σ1 H1 => D.ct (σ1.set i none) H1 }
def setG : Option Nat → Addr → Sg → Sg
  | none, _, σ => σ
  | some i, a, σ => σ.set i (some (.ref a))
def wG (K : PySem.W.Frag) (W0 : WX) (D : Ends) : HdL → WX
  | [] => W0
  | q :: r => fun cls d σ H => ∃ b, PySem.W.exmOne K cls q.1 = some b ∧ (b = true → ∀ a, H a = none → q.2.2 a cls d (endG q.2.1 D) (setG q.2.1 a σ) H) ∧ (b = false → wG K W0 D r cls d σ H)
inductive HdG (X : Cx) : List ExceptHandler → HdL → Prop
  | nil : HdG X [] []
  | only {x : Str} {c : Value} {ts : Addr → Value → Option Addr → TS} {b1 : Stmt} {bs : List Stmt} {np hp : Pos} {hds : List ExceptHandler} {l : HdL} (nm : Names X x c)
      (su : ∀ (a : Addr) (oe : Obj) (cls : Value) (d : Option Addr) (pn : List (Addr × Obj)), Zc cls d oe → (∃ vs, oe.data = .fields vs) → PSs (X.suite a ((a, oe) :: pn)) (b1 :: bs) (ts a cls d)) (r : HdG X hds l) :
      HdG X (.ExceptHandler (some (.Name x np)) none (b1 :: bs) hp :: hds) ((c, none, ts) :: l)
  | as_ {x n : Str} {i : Nat} {c : Value} {ts : Addr → Value → Option Addr → TS} {b1 : Stmt} {bs : List Stmt} {np hp : Pos} {hds : List ExceptHandler} {l : HdL} (nm : Names X x c) (nd : X.N.Nodup) (hi : X.N[i]? = some n) (hl : X.env.kindOf n = some .local)
      (su : ∀ (a : Addr) (oe : Obj) (cls : Value) (d : Option Addr) (pn : List (Addr × Obj)), Zc cls d oe → (∃ vs, oe.data = .fields vs) → PSs (X.suite a ((a, oe) :: pn)) (b1 :: bs) (ts a cls d)) (r : HdG X hds l) :
      HdG X (.ExceptHandler (some (.Name x np)) (some n) (b1 :: bs) hp :: hds) ((c, some i, ts) :: l)
section
variable {X : Cx} {body : List Stmt} {hd1 : ExceptHandler} {hds : List ExceptHandler} {l : HdL} {pos : Pos} {tb : WX → TS} {W0 : WX}
end
def FinW (K : PySem.W.Frag) (e0 : Ent) (W : WX) (σ : Sg) (D : Ends) (S : Addr → Prop) (H : Hp) : O → Prop
  | .nx δ => ∀ S' σ' H', StS K e0.M e0.S e0.H S' σ' H' δ → Ev S H S' H' → D.nx σ' H'
  | .rt d δ => ∀ S' σ' v H', StS K e0.M e0.S e0.H S' σ' H' δ → Rep K S' H' v d → D.rt v H'
  | .bk δ => ∀ S' σ' H', StS K e0.M e0.S e0.H S' σ' H' δ → Ev S H S' H' → D.bk σ' H'
  | .ct δ => ∀ S' σ' H', StS K e0.M e0.S e0.H S' σ' H' δ → Ev S H S' H' → D.ct σ' H'
  | .exc n xs => ∀ cls dx H', Same H H' → ExR K S H' cls dx n xs → W cls dx σ H'
  | .bad => False
def tW (K : PySem.W.Frag) (e0 : Ent) (W : WX) (F : FS) : TS := fun D σ H => ∃ S δ, StS K e0.M e0.S e0.H S σ H δ ∧ FinW K e0 W σ D S H (F δ)
theorem FinW.same {K : PySem.W.Frag} {e0 : Ent} {W : WX} {σ : Sg} {D : Ends} {S : Addr → Prop} {H H1 : Hp} {o : O} (e : Same H H1) (h : FinW K e0 W σ D S H o) : FinW K e0 W σ D S H1 o := by
  cases o with
  | nx δ => exact fun S' σ' H' s e' => h S' σ' H' s ((Ev.same e).trans e')
  | rt d δ => exact h
  | bk δ => exact fun S' σ' H' s e' => h S' σ' H' s ((Ev.same e).trans e')
  | ct δ => exact fun S' σ' H' s e' => h S' σ' H' s ((Ev.same e).trans e')
  | exc n xs => exact fun cls dx H' e' x => h cls dx H' (e.trans e') x
  | bad => exact h
section
variable {X : Cx} {e0 : Ent} {W : WX} {a c : Expr} {f : FE} {pos : Pos} {F G : FS}
theorem FinW.on {α : Type} {K : PySem.W.Frag} {σ : Sg} {D : Ends} {S : Addr → Prop} {H : Hp} {r : R α} {g : α → O} (h : FinW K e0 W σ D S H (O.on r g)) {P : α → Prop} (k : ∀ x, FinW K e0 W σ D S H (g x) → P x) : Res K S H (WE W σ) r P := by
  cases r with
  | ok x => exact k x h
  | exc n xs => exact h
  | bad => exact h
end
abbrev HM : Type := (Str → Option Bool) × (Str → List D → FS)
def fHs : List HM → Str → List D → FS
  | [] => fun n xs _ => .exc n xs
  | q :: r => fun n xs δ => match q.1 n with
    | some true => q.2 n xs δ
    | some false => fHs r n xs δ
    | none => .bad
def tryO (hs : List HM) (δ : DSt) : O → O
  | .exc n xs => fHs hs n xs δ
  | o => o
def fTry (F : FS) (hs : List HM) : FS := fun δ => tryO hs δ (F δ)
structure HdD (X : Cx) (e0 : Ent) (E : XK) (hds : List ExceptHandler) (hs : List HM) : Prop where
  x : ∃ l, HdG X hds l ∧ ∀ (De : Ends) (σ : Sg) (H : Hp) (S : Addr → Prop) (δ : DSt) (n : Str) (xs : List D) (cls : Value) (d : Option Addr), StS X.K e0.M e0.S e0.H S σ H δ → ExR X.K S H cls d n xs → Fin X.K e0.M e0.S e0.H E De S H (fHs hs n xs δ) →
    wG X.K (fun cls d _ H => E cls d H) De l cls d σ H
abbrev XT : Type := List (Str × Bool)
def XTok (K : PySem.W.Frag) (c : Value) (t : XT) : Prop := ∀ q ∈ t, PySem.W.exmOne K (.ref (He.ga K q.1)) c = some q.2
section
variable {X : Cx} {e0 : Ent} {E : XK} {x : Str} {c : Value} {b1 : Stmt} {bs : List Stmt} {np hp : Pos} {hds : List ExceptHandler} {hs : List HM} {t : XT} {pos : Pos} {G : FS}
end
structure ExI (K : PySem.W.Frag) (n m : Str) : Prop where
  x : XfC K (He.ga K n)
  cl : (PySem.W.clsIn K (He.ga K n)).isSome = true
  ha : PySem.W.findIn K (.ref (He.ga K n)) "__class__" = some (some (.builtin "object.__class__"))
  hn : PySem.W.specialIn K (.builtin "object.__class__") "__get__" = some (some (.builtin "getset_descriptor.__get__"))
  tk : PySem.W.takesIn K (.builtin "object.__class__") = some true
  hm : PySem.W.mroIn K (He.ga K n) (.type "object") = some true
  kit : PySem.W.kitOne K (.ref (He.ga K n)) (.ref (He.ga K m)) = some true
structure XiC (K : PySem.W.Frag) (n : Str) (cv : Value) (b : Bool) : Prop where
  x : XfC K (He.ga K n)
  cl : (PySem.W.clsIn K (He.ga K n)).isSome = true
  ha : PySem.W.findIn K (.ref (He.ga K n)) "__class__" = some (some (.builtin "object.__class__"))
  hn : PySem.W.specialIn K (.builtin "object.__class__") "__get__" = some (some (.builtin "getset_descriptor.__get__"))
  tk : PySem.W.takesIn K (.builtin "object.__class__") = some true
  hm : PySem.W.mroIn K (He.ga K n) (.type "object") = some true
  kit : PySem.W.kitOne K (.ref (He.ga K n)) cv = some b
def fldOf (m fld : Str) (xs : List D) : R D := R.of (((exF m).zip xs).lookup fld)
def tZ (K : PySem.W.Frag) (i : Nat) (a : Addr) (cls : Value) (d : Option Addr) (m : Str) (f : List D → FE) : TE := fun σ H Q => ∃ xs S δ, StE K S σ H δ ∧ σ[i]? = some (some (.ref a)) ∧ ExR K S H cls d m xs ∧ ∃ r, f xs δ = .ok r ∧ ∀ v H', Same H H' → Rep K S H' v r → Q v H'
def tZL (K : PySem.W.Frag) (i : Nat) (a : Addr) (cls : Value) (d : Option Addr) (m : Str) (f : List D → FL) : TA := fun σ H Q => ∃ xs S δ, StE K S σ H δ ∧ σ[i]? = some (some (.ref a)) ∧ ExR K S H cls d m xs ∧ ∃ r, f xs δ = .ok r ∧ ∀ v H', Same H H' → RepL K S H' v r → Q v H'
def DZ (X : Cx) (i : Nat) (m : Str) (e : Expr) (f : List D → FE) : Prop := ∀ (a : Addr) (oe : Obj) (cls : Value) (d : Option Addr) (pn : List (Addr × Obj)), Zc cls d oe → (∃ vs, oe.data = .fields vs) → PE (X.suite a ((a, oe) :: pn)) e (tZ X.K i a cls d m f)
structure DZA (X : Cx) (i : Nat) (m : Str) (es : List Expr) (f : List D → FL) : Prop where
  pa : ∀ (a : Addr) (oe : Obj) (cls : Value) (d : Option Addr) (pn : List (Addr × Obj)), Zc cls d oe → (∃ vs, oe.data = .fields vs) → PA (X.suite a ((a, oe) :: pn)) es (tZL X.K i a cls d m f)
  len : ∀ xs δ ds, f xs δ = .ok ds → ds.length = es.length
section
variable {X : Cx} {i : Nat} {m n : Str} {e : Expr} {es : List Expr} {f : List D → FE} {fl : List D → FL} {pos p p2 : Pos}
theorem ExR.mono {K : PySem.W.Frag} {S : Addr → Prop} {H H1 : Hp} {cls : Value} {d : Option Addr} {xs : List D} (h : ExR K S H cls d n xs) (k : Same H H1) : ExR K S H1 cls d n xs := by
  obtain ⟨h1, a, vs, h2, h3, h4, h5⟩ := h
  exact ⟨h1, a, vs, h2, k.at _ _ h3, h4, h5.mono k⟩
end
def tZs (K : PySem.W.Frag) (e0 : Ent) (i : Nat) (a : Addr) (cls : Value) (d : Option Addr) (m : Str) (G : List D → FS) : TS := fun De σ H => ∃ xs S δ, StS K e0.M e0.S e0.H S σ H δ ∧ σ[i]? = some (some (.ref a)) ∧ ExR K S H cls d m xs ∧ ∃ δ1, G xs δ = .nx δ1 ∧
  ∀ S' σ' H', StS K e0.M e0.S e0.H S' σ' H' δ1 → Ev S H S' H' → De.nx σ' H'
def DZs (X : Cx) (e0 : Ent) (i : Nat) (m : Str) (st : List Stmt) (G : List D → FS) : Prop := ∀ (a : Addr) (oe : Obj) (cls : Value) (d : Option Addr) (pn : List (Addr × Obj)), Zc cls d oe → (∃ vs, oe.data = .fields vs) → PSs (X.suite a ((a, oe) :: pn)) st (tZs X.K e0 i a cls d m G)
theorem StS.gone {K : PySem.W.Frag} {M S0 S : Addr → Prop} {H0 H : Hp} {σ : Sg} {δ : DSt} (s : StS K M S0 H0 S σ H δ) (i : Nat) (o : Option V) : StS K M S0 H0 S (σ.set i o) H (δ.set i .un) := by
  refine ⟨⟨by rw [List.length_set, List.length_set, s.st.len], fun j t h => ?_, fun j k a t u h1 h2 m1 m2 h3 h4 => ?_, s.st.here⟩, s.same, s.sub, s.dom, s.ms, fun j a t h1 m1 h2 => ?_⟩
  · rcases set_get h with ⟨rfl, rfl⟩ | ⟨hne, h⟩
    · have hl : j < δ.length := by
        have := (List.getElem?_eq_some_iff.mp h).1
        rwa [List.length_set] at this
      exact ⟨o, List.getElem?_set_self (by rw [s.st.len]; exact hl), True.intro⟩
    · obtain ⟨o', w1, w2⟩ := s.st.slot j t h
      exact ⟨o', by rw [List.getElem?_set_ne (Ne.symm hne)]; exact w1, w2⟩
  · rcases set_get h1 with ⟨_, e⟩ | ⟨n1, h1⟩
    · subst e; cases m1
    · rcases set_get h2 with ⟨_, e⟩ | ⟨n2, h2⟩
      · subst e; cases m2
      · rw [List.getElem?_set_ne (Ne.symm n1)] at h3
        rw [List.getElem?_set_ne (Ne.symm n2)] at h4
        exact s.st.sep j k a t u h1 h2 m1 m2 h3 h4
  · rcases set_get h1 with ⟨_, e⟩ | ⟨n1, h1⟩
    · subst e; cases m1
    · rw [List.getElem?_set_ne (Ne.symm n1)] at h2
      exact s.own j a t h1 m1 h2
section
variable {X : Cx} {e0 : Ent} {E : XK} {i j : Nat} {m x y : Str} {e : Expr} {f : List D → FE} {G : List D → FS} {c : Value} {b1 : Stmt} {bs st : List Stmt} {np hp pos : Pos} {hds : List ExceptHandler} {hs : List HM} {t : XT}
def fAs (i : Nat) (F : FS) : FS := fun δ => match δ[i]? with
  | none => .bad
  | some _ => match F (δ.set i .un) with
    | .nx δ' => .nx (δ'.set i .un)
    | _ => .bad
end
end DL

namespace DL
open PySem PySem.Spec PyProof.Rows L2
def tMkP (C : Addr) (sp : Sp) (dvs : List V) (ta : TA) : TE := fun σ H Q => ta σ H fun vs H1 => vs.length ≤ 1000 ∧ ∀ a, H1 a = none → sp (.ref a :: (vs ++ dvs)) (upd H1 a (exo a C none)) (fun v H2 => v = .non ∧ Q (.ref a) H2) (fun _ _ _ => False)
section
variable {X : Cx} {e : Expr} {es : List Expr} {ta : TA} {p pos : Pos}
theorem pe_mkO {CX : CXT} {x : Str} {C fI : Addr} {k : Nat} {fd : FuncData} {ps : List Str} {sp : Sp} {ds : List Value} {dvs : List V} (T : OexC X.K C) (iC : PySem.W.findIn X.K (.ref C) "__init__" = some (some (.ref fI))) (tI : PySem.W.typeIn X.K (.ref fI) = some (.type "function"))
    (F1 : FnOk X.prog X.w X.K X.mg X.base CX k fI fd ps sp) (hr : Room (k + 1) X.A) (hb : Binds X.K fd ps ds) (hd : Vals dvs ds) (hx : Passes CX X (fun _ _ _ => False)) (hg : Gl X x) (hm : X.mg x = some (.ref C)) (ha : PA X (e :: es) ta)
    (hdb : (x == ("__debug__" : Str)) = false := by decide) (he : starEach (e :: es) X.env = (false, eval e X.env) :: starEach es X.env := by rfl) (hpl : (backTo pos (starEach es X.env)).any (·.1) = false := by rfl) :
    PE X (.Call (.Name x p) (e :: es) [] pos) (tMkP C sp dvs ta) := by
  refine ⟨fun pins s σ H Q I h => ?_⟩
  obtain ⟨nm, q, N, bs, bm, sn, sub, ab, col, dd, k0, k1, k2, k3, k5, hC, hbm⟩ := T.cls
  refine wpAny_Call_Name_kw (ld_glob I hg hm ?_ hdb)
  refine PySem.W.callWith_K (h₀ := X.base) I.ok.mod.kin T.kC (thn (ha.run pos pins s σ H _ I h) fun us s1 ⟨vs, H1, I1, r1, hz, q1⟩ => ⟨I1.kIn, ?_⟩) he hpl
  show wpAny _ _ (call (.ref C) us) _ _ _
  obtain ⟨hp, g, dr, tk, os⟩ := s1
  have hsz : hp.objs.size ≤ hp.objs.size + 1 := Nat.le_succ _
  have hn : H1 (hp.objs.size + 1) = none := I1.hok.fresh hsz
  have hq := q1 (hp.objs.size + 1) hn
  have kk : ∀ b o, hp.get? b = some o → ((hp.push (PySem.W.kdv_tup us)).push (PySem.HandSPX.excO C hp.objs.size)).get? b = some o := fun b o e => Heap.get?_push_of_some _ (Heap.get?_push_of_some _ e)
  have hget : ((hp.push (PySem.W.kdv_tup us)).push (PySem.HandSPX.excO C hp.objs.size)).get? (hp.objs.size + 1) = some (PySem.HandSPX.excO C hp.objs.size) := by heap_get
  have I2 : Inv X pins σ (upd H1 (hp.objs.size + 1) (exo (hp.objs.size + 1) C none)) ⟨(hp.push (PySem.W.kdv_tup us)).push (PySem.HandSPX.excO C hp.objs.size), g, dr, tk, os⟩ :=
    I1.laid (t' := tk) (a := hp.objs.size + 1) (o := exo (hp.objs.size + 1) C none) (h' := (hp.push (PySem.W.kdv_tup us)).push (PySem.HandSPX.excO C hp.objs.size)) kk hsz (exo_ok hget)
  have r2 : Vals (V.ref (hp.objs.size + 1) :: (vs ++ dvs)) (Value.ref (hp.objs.size + 1) :: (us ++ ds)) := .cons rfl (r1.append hd)
  have hl : (Value.ref (hp.objs.size + 1) :: us ++ ds).length = ps.length := by
    have e := r2.length
    rw [F1.len _ _ _ _ hq] at e
    exact e.symm
  have hus : us.length ≤ sizeLine := by
    rw [← Paired.length r1, sizeLine_eq]
    omega
  refine wpAny_call (PySem.HandSPX.call_own F.excBase_ValueError (fun Y => PySem.HandSPX.refsVE_contains Y bm hbm) (I1.kIn _ _ hC) (PySem.W.looks_findIn I1.kIn iC) (fun self => PySem.W.bind_fn I1.kIn self tI) hus
    (codeAny_mono (F1.run _ X.stack _ _ ⟨Value.ref (hp.objs.size + 1) :: us, []⟩ (Value.ref (hp.objs.size + 1) :: (us ++ ds)) _ _ (fun _ _ _ => False) (hr.make C us []) (I2.env0.make C us []) (hb _ (Value.ref (hp.objs.size + 1) :: us) I2.kIn hl) r2 hq) fun r s' hq' => ?_))
  cases r with
  | error er => exact hx pins σ _ _ er s' I2 hq'
  | ok fl =>
    cases fl with
    | ret u =>
      obtain ⟨v, H', I', rv, ev, q2⟩ := I2.after hq'
      subst ev
      exact ⟨rv, .ref (hp.objs.size + 1), H', I', rfl, q2⟩
    | next => exact False.elim hq'
    | brk => exact False.elim hq'
    | cont => exact False.elim hq'
end
section
variable {X : Cx} {Eσ : Sg → XK} {k : Nat} {b a : Expr} {es : List Expr} {fl : FL} {f : FE} {p p1 p2 pos : Pos} {n : Str}
def fMakeX (n : Str) (fl : FL) : FE := fun δ => (fl δ).bind fun ds => .ok (.obj n ds.reverse)
theorem v_MakeX {δ : DSt} {ds : List D} (h : fl δ = .ok ds) : fMakeX n fl δ = .ok (.obj n ds.reverse) := by
  unfold fMakeX
  rw [h]
  rfl
theorem de_makeX {fs : List Str} {self : Str} (hfs : fs.reverse = exF n) (hxn : isXc n = true) (hlf : fs.length ≤ 900) (x : ExOk X.prog X.w X.K X.mg X.base n self fs) (hr : Room 2 X.A) (hg : Gl X n) (hm : X.mg n = some (.ref (He.ga X.K n)))
    (ha : DA X Eσ (b :: es) fl) (hn : (b :: es).length = fs.length := by rfl) (hdb : (n == ("__debug__" : Str)) = false := by decide) (he : starEach (b :: es) X.env = (false, eval b X.env) :: starEach es X.env := by rfl) (hpl : (backTo p1 (starEach es X.env)).any (·.1) = false := by rfl) :
    DE X Eσ (.Call (.Name n p) (b :: es) [] p1) (fMakeX n fl) := by
  obtain ⟨⟨fd, Fn, hb⟩, T, iC, tI⟩ := x
  refine PE.imp (pe_mkO T iC tI Fn hr hb (.nil : Vals [] []) passL hg hm ha.pa hdb he hpl) fun σ H Q h => ?_
  obtain ⟨S, δ, st, q⟩ := h
  refine ⟨S, δ, st, ?_⟩
  unfold fMakeX at q
  cases r : fl δ with
  | bad => rw [r] at q; exact q.elim
  | exc m xs => rw [r] at q; exact q
  | ok ds =>
    rw [r] at q
    have q1 : ∀ v H', Same H H' → Rep X.K S H' v (.obj n ds.reverse) → Q v H' := q
    intro vs H1 e1 r1
    have lv : vs.length = fs.length := r1.length.trans ((ha.len δ ds r).trans hn)
    refine ⟨by rw [lv]; omega, fun a na => ?_⟩
    rw [List.append_nil]
    refine ⟨a, vs, rfl, lv, upd_same, fun dx hd ne => ⟨rfl, ?_⟩⟩
    have hd1 : H1 dx = none := by rwa [upd_ne ne] at hd
    have sm : Same H1 (upd (upd (upd H1 a (exo a (He.ga X.K n) none)) dx (exd dx (fs.zip vs).reverse)) a (exo a (He.ga X.K n) (some dx))) := .of fun c o hc => by
      have ca : c ≠ a := ne_of_none hc na
      have cd : c ≠ dx := ne_of_none hc hd1
      rw [upd_ne ca, upd_ne cd, upd_ne ca]
      exact hc
    have nS : ∀ y, H1 y = none → ¬ S y := fun y hy z => by
      obtain ⟨o, ho, _⟩ := (st.mono e1).here.at_ y z
      rw [hy] at ho
      cases ho
    have hsl : slotted n = true := by unfold slotted; rw [hxn]; simp
    refine q1 _ _ (e1.trans sm) (.obj ⟨nS a na, dx, .inr (.inr ⟨⟨hsl, hxn⟩, .inl ⟨nS dx hd1, upd_same, ?_⟩⟩)⟩ ((r1.mono sm).reverse))
    rw [upd_ne ne, upd_same, zr _ _ lv.symm, hfs]
def fMakeX0 (n : Str) (f : FE) : FE := fun δ => (f δ).bind fun _ => .ok (.obj n [])
theorem v_MakeX0 {δ : DSt} {d : D} (h : f δ = .ok d) : fMakeX0 n f δ = .ok (.obj n []) := by
  unfold fMakeX0
  rw [h]
  rfl
theorem de_makeX0 (hxn : isXc n = true) (q : PySem.W.excIn X.K (He.ga X.K n) [.type "ValueError", .type "Exception", .type "BaseException", .type "object"] "ValueError.__new__" = true) (kC : PySem.W.keepIn X.K (.ref (He.ga X.K n)) = true) (hg : Gl X n) (hm : X.mg n = some (.ref (He.ga X.K n))) (ha : DE X Eσ a f)
    (hs : starEach [a] X.env = (false, eval a X.env) :: starEach [] X.env := by rfl) (hdb : (n == ("__debug__" : Str)) = false := by decide) : DE X Eσ (.Call (.Name n p) [a] [] p1) (fMakeX0 n f) := by
  refine ⟨fun pins s σ H Q I h => ?_⟩
  obtain ⟨S, δ, st, q0⟩ := h
  refine wpAny_Call_Name_kw (ld_glob I hg hm ?_ hdb)
  refine PySem.W.callWith_K (h₀ := X.base) I.ok.mod.kin kC ?_ hs (by rfl)
  rw [hs]
  show wpAny _ _ (spliced ((false, eval a X.env) :: backTo p1 (starEach [] X.env))) _ _ s
  refine Calls.spliced_cons (thn (ha.run pins s σ H (fun _ H1 => Same H H1 ∧ ∀ v H', Same H H' → Rep X.K S H' v (.obj n []) → Q v H') I ⟨S, δ, st, (Res.on (show Res X.K S H (Eσ σ) ((f δ).bind fun _ => R.ok (D.obj n [])) _ from q0)).imp fun d q1 v H' e' r => ⟨e', q1⟩⟩) fun u s1 ⟨v, H1, I1, r1, e1, q1⟩ => ?_)
  refine Calls.spliced_nil ⟨I1.kIn, ?_⟩
  show wpAny _ _ (call (.ref (He.ga X.K n)) [u]) _ _ _
  obtain ⟨bm, N, nm, qn, bs, hdct, sn, sub, ab, col, dd, k0, k1, k2, k3, k5, mN, hC, hN, hni, T⟩ := exc_obj I1.kIn q
  refine wpAny_call_exc_subT F.excBase_ValueError T hC hN hni (fun h' a hm => ?_) (by show 1 ≤ sizeLine; rw [sizeLine_eq]; omega)
  have hn : H1 a = none := I1.hok.gone hm.new
  obtain ⟨t, ht, _, _⟩ := hm.there
  have hsl : slotted n = true := by unfold slotted; rw [hxn]; simp
  have sm : Same H1 (upd H1 a (exo a (He.ga X.K n) none)) := same_new hn _
  refine ⟨.ref a, upd H1 a (exo a (He.ga X.K n) none), I1.laidN hm.keeps hm.new hn (exo_ok ht), rfl, q1 _ _ (e1.trans sm) (.obj ⟨fun z => ?_, 0, .inr (.inr ⟨⟨hsl, hxn⟩, .inr ⟨rfl, upd_same⟩⟩)⟩ .nil)⟩
  obtain ⟨o, ho, _⟩ := (st.mono e1).here.at_ a z
  rw [hn] at ho
  cases ho
def dXf (n fd : Str) : D → Option D
  | .obj m xs => if m = n then ((exF n).zip xs).lookup fd else none
  | _ => none
theorem de_xf {fd : Str} (hxn : isXc n = true) (T : XfC X.K (He.ga X.K n) ∧ PySem.W.findIn X.K (.ref (He.ga X.K n)) fd = some none) (h : DE X Eσ a f) (hb : attributeBase a fd X.env (eval a X.env) = eval a X.env := by rfl) : DE X Eσ (.Attribute a fd pos) (fU (dXf n fd) f) := by
  refine ⟨fun pins s σ H Q I hq => ?_⟩
  obtain ⟨S, δ, st, q⟩ := hq
  have ans := h.run pins s σ H (fun v H1 => Same H H1 ∧ ∃ xs d, Rep X.K S H1 v (.obj n xs) ∧ ((exF n).zip xs).lookup fd = some d ∧ ∀ v H', Same H H' → Rep X.K S H' v d → Q v H') I ⟨S, δ, st, (Res.on q).imp fun d q1 v H1 e1 r1 => by
    obtain ⟨z, hz, q2⟩ := Res.of q1
    cases d <;> simp only [dXf, reduceCtorEq] at hz
    rename_i m xs
    by_cases e : m = n
    · subst e
      rw [if_pos rfl] at hz
      exact ⟨e1, xs, z, r1, hz, q2⟩
    · rw [if_neg e] at hz; cases hz⟩
  refine attr_of hb (thn ans fun u s1 ⟨x, H1, I1, rx, e1, xs, d, r1, hl, q2⟩ => ?_)
  obtain ⟨⟨ga, gg, exC, hdC⟩, hno⟩ := T
  obtain ⟨a1, dx, vs, rfl, _, rl, ⟨_, h1, h2⟩ | ⟨e0, _⟩⟩ := r1.objX hxn
  · cases (show u = Value.ref a1 from rx)
    obtain ⟨t1, ho⟩ := exo_at I1.hok h1
    obtain ⟨mA, hns, hr⟩ := exd_at I1.hok h2
    obtain ⟨od, hod, hlk⟩ := lookIn_ns hns
    obtain ⟨v, hv, rv⟩ := (RepF.zip (ns := exF n) rl).get hl
    obtain ⟨u, hu, ru⟩ := RelO.some_of (v := v) (o := mA fd) (by rw [← hv]; exact hr fd)
    have J : PySem.W.InstAt s1.heap a1 _ (He.ga X.K n) (some od) := ⟨ho, rfl, by unfold PySem.W.notCls; rfl, hod⟩
    exact HandSPX.exc_get I1.kIn J ga gg exC (PySem.W.findObj_own hdC hno rfl (by rw [hlk, hu])) (handed_of ru) ⟨v, H1, I1.tok _, ru, q2 v H1 e1 rv⟩
  · exfalso
    subst e0
    cases rl
    rw [List.zip_nil_right] at hl
    cases hl
def XTab (K : PySem.W.Frag) (cv : Value) (tab : XT) : Prop := ∀ n b, tab.lookup n = some b → XiC K n cv b
theorem xk_nil {K : PySem.W.Frag} {cv : Value} : XTab K cv [] := fun n b h => by cases h
theorem xk_cons {K : PySem.W.Frag} {cv : Value} {n : Str} {b : Bool} {tab : XT} (h : XiC K n cv b) (t : XTab K cv tab) : XTab K cv ((n, b) :: tab) := fun m c e => by
  by_cases z : m = n
  · subst z
    rw [List.lookup_cons_self] at e
    cases e
    exact h
  · rw [List.lookup_cons, beq_false_of_ne z] at e
    exact t m c e
def dIsX (tab : XT) : D → Option D
  | .obj n _ => if isXc n = true then (tab.lookup n).map .bl else none
  | _ => none
theorem cd_isX {tab : XT} {cv : Value} {c : V} (T : XTab X.K cv tab) (hcv : ∀ u, RelV c u → u = cv) : CallR X (.builtin "isinstance") fun xs H Q => ∃ S v d z, xs = [v, c] ∧ Rep X.K S H v d ∧ dIsX tab d = some z ∧ ∀ b, z = .bl b → Q (.bl b) H := by
  intro pins s σ H xs us Q I r h
  obtain ⟨S, v, d, z, rfl, rv, hz, q⟩ := h
  obtain ⟨u1, u2, rfl, r1, r2⟩ := vals2 r
  have ec := hcv _ r2
  subst ec
  cases d <;> simp only [dIsX, reduceCtorEq] at hz
  rename_i n ds
  by_cases hx : isXc n = true
  · rw [if_pos hx] at hz
    obtain ⟨b, hb, ez⟩ := Option.map_eq_some_iff.mp hz
    subst ez
    have t := T n b hb
    obtain ⟨a, od, t1, rfl, J⟩ := exo_inst I rv hx
    cases (show u1 = Value.ref a from r1)
    exact PySem.W.kia_one (PySem.W.kitx_exc t.cl t.x.ga t.x.gg t.x.exC t.ha t.hn t.tk t.hm) I.kIn J t.kit (fun z => nomatch z) fun tk => ⟨.bl b, H, I.tok tk, rfl, q b rfl⟩
  · rw [if_neg hx] at hz; cases hz
theorem de_isX {c : Str} {tab : XT} (T : XTab X.K (.ref (He.ga X.K c)) tab) (hg : Gl X "isinstance") (hm : X.mg "isinstance" = none) (hgT : Gl X c) (hmT : X.mg c = some (.ref (He.ga X.K c))) (ha : DE X Eσ a f) (hd : (c == ("__debug__" : Str)) = false := by decide)
    (hs2 : starEach [.Name c p2] X.env = (false, eval (.Name c p2) X.env) :: starEach [] X.env := by rfl) (hs1 : starEach [a, .Name c p2] X.env = (false, eval a X.env) :: starEach [.Name c p2] X.env := by rfl)
    (hpl : (backTo pos (starEach [.Name c p2] X.env)).any (·.1) = false := by rfl) : DE X Eσ (.Call (.Name "isinstance" p) [a, .Name c p2] [] pos) (fU (dIsX tab) f) := by
  refine PE.imp (pe_callB (cd_isX (c := .ref (He.ga X.K c)) T fun u e => e) hg hm PyProof.Rows.boot_isinstance (pa_cons ha (pa_cons (pe_glob (v := .ref (He.ga X.K c)) hgT hmT rfl hd) pa_nil hs2) hs1) (by decide) (by decide) hs1 hpl) fun σ H Q h => ?_
  obtain ⟨S, δ, st, q⟩ := h
  refine ⟨S, δ, st, (Res.on q).imp fun d q1 v H1 e1 r1 => ?_⟩
  obtain ⟨z, hz, q2⟩ := Res.of q1
  exact ⟨S, v, d, z, rfl, r1, hz, fun b e => q2 _ H1 e1 (by rw [e]; exact .bl b)⟩
theorem de_isXT {T : String} {xT : Str} {tab : XT} (Tb : XTab X.K (.type T) tab) (hg : Gl X "isinstance") (hm : X.mg "isinstance" = none) (hgT : Gl X xT) (hmT : X.mg xT = none) (hvT : bootBuiltins xT = some (.type T)) (ha : DE X Eσ a f)
    (hn : xT ≠ "__name__" := by decide) (hd : (xT == ("__debug__" : Str)) = false := by decide)
    (hs2 : starEach [.Name xT p2] X.env = (false, eval (.Name xT p2) X.env) :: starEach [] X.env := by rfl) (hs1 : starEach [a, .Name xT p2] X.env = (false, eval a X.env) :: starEach [.Name xT p2] X.env := by rfl)
    (hpl : (backTo pos (starEach [.Name xT p2] X.env)).any (·.1) = false := by rfl) : DE X Eσ (.Call (.Name "isinstance" p) [a, .Name xT p2] [] pos) (fU (dIsX tab) f) := by
  refine PE.imp (pe_callB (cd_isX (c := .ty T) Tb fun u e => e) hg hm PyProof.Rows.boot_isinstance (pa_cons ha (pa_cons (pe_bltn (v := .ty T) hgT hmT hvT rfl hn hd) pa_nil hs2) hs1) (by decide) (by decide) hs1 hpl) fun σ H Q h => ?_
  obtain ⟨S, δ, st, q⟩ := h
  refine ⟨S, δ, st, (Res.on q).imp fun d q1 v H1 e1 r1 => ?_⟩
  obtain ⟨z, hz, q2⟩ := Res.of q1
  exact ⟨S, v, d, z, rfl, r1, hz, fun b e => q2 _ H1 e1 (by rw [e]; exact .bl b)⟩
end
end DL

namespace DL
open PySem PySem.Spec PyProof.Rows L2

def inCls (s : Stmt) (j : Nat) : Stmt := match s with
  | .ClassDef _ _ _ body _ _ _ _ _ _ _ => body.getD j (.Pass ⟨0, 0, 0, 0⟩)
  | _ => .Pass ⟨0, 0, 0, 0⟩
def recA (K : PySem.W.Frag) (p : Addr) (t : String) : Addr := match PySem.W.recIn K p t with
  | some (.ref g :: _) => g
  | _ => 0
theorem recA_ok {K : PySem.W.Frag} {p : Addr} {t : String} (h : (match PySem.W.recIn K p t with | some (.ref _ :: _) => true | _ => false) = true) : ∃ rest, PySem.W.recIn K p t = some (.ref (recA K p t) :: rest) := by
  unfold recA
  split at h
  · rename_i g rest e
    exact ⟨rest, by rw [e]⟩
  · cases h
inductive Fx where
  | scls (c : Str)
  | slot (c f : Str) (i : Nat)
  | prop (c f : Str)
  | cmet (c m : Str)
  | blt (x : Str) (id : String)
  | ktup (x : Str) (zs : List Str)
  | isi (c : Str)
  | selff (c : Str)
  | notint (c : Str)
  | nefct (c : Str)
  | smet (c m : Str)
  | callo (c : Str)
  | exm (n m : Str) (b : Bool)
  | exb (n : Str) (t : String) (b : Bool)
  | xfa (n f : Str)
  | exi (n m : Str)
  | cval (c f : Str) (n : Int)
  | tabs
  | nst (n : Str)
  | exk (n m : Str) (b : Bool)
  | exv (n : Str) (t : String) (b : Bool)
  | exz (n : Str)
abbrev typ : Value := .type "type"
def sclsB (K : PySem.W.Frag) (C : Addr) : Bool := PySem.W.isClsIn K C && (PySem.W.plainOver K C && (PySem.W.plainGet K C Str.empty && decide (PySem.W.findIn K (.ref C) "__setattr__" = some (some (Value.builtin "object.__setattr__")))))
def slotB (K : PySem.W.Frag) (C p : Addr) (f : Str) (i : Nat) : Bool := decide (PySem.W.slotIn K p C = some i) && (decide (i < 1000) && (decide (PySem.W.findIn K (.ref C) f = some (some (.ref p))) &&
  (decide (PySem.W.specialIn K (.ref p) "__get__" = some (some (Value.builtin "member_descriptor.__get__"))) && (decide (PySem.W.takesIn K (.ref p) = some true) && decide (PySem.W.typeIn K (.ref p) = some (Value.type "member_descriptor"))))))
def propB (K : PySem.W.Frag) (C p : Addr) (f : Str) : Bool := decide (PySem.W.findIn K (.ref C) f = some (some (.ref p))) && (decide (PySem.W.specialIn K (.ref p) "__get__" = some (some (Value.builtin "property.__get__"))) && (decide (PySem.W.takesIn K (.ref p) = some true) &&
  (match PySem.W.recIn K p "property" with | some (.ref _ :: _) => true | _ => false)))
def isGet (r : Option PySem.W.CFound) (p C : Addr) : Bool := match r with
  | some (.get (.builtin g) (.ref q) .none (.ref D)) => decide (g = "classmethod.__get__") && (decide (q = p) && decide (D = C))
  | _ => false
theorem isGet_ok {r : Option PySem.W.CFound} {p C : Addr} (h : isGet r p C = true) : r = some (.get (.builtin "classmethod.__get__") (.ref p) .none (.ref C)) := by
  unfold isGet at h
  split at h
  · obtain ⟨h1, h2⟩ := Bool.and_eq_true_iff.mp h
    obtain ⟨h2, h3⟩ := Bool.and_eq_true_iff.mp h2
    rw [of_decide_eq_true h1, of_decide_eq_true h2, of_decide_eq_true h3]
  · cases h
def cmetB (K : PySem.W.Frag) (C p : Addr) (m : Str) : Bool := isGet (PySem.W.findCls K (.ref C) typ m) p C && ((match PySem.W.recIn K p "classmethod" with | some (.ref _ :: _) => true | _ => false) && (PySem.W.fnIn K (recA K p "classmethod") &&
  (PySem.W.readsIn K C typ && decide (PySem.W.specialIn K (.ref C) "__getattribute__" = some (some (Value.builtin "type.__getattribute__"))))))
def txtIs : List Str → List Value → Bool
  | [], [] => true
  | z :: zs, .str y _ :: us => decide (y = z) && txtIs zs us
  | _, _ => false
def ktupB (zs : List Str) : Option Obj → Bool
  | some ⟨.type t, _, .seq its _, _⟩ => decide (t = "tuple") && (Nat.ble its.size 1000 && txtIs zs its.toList)
  | _ => false
def isiB (K : PySem.W.Frag) (C : Addr) : Bool := decide (PySem.W.findIn K (.ref C) "__class__" = some (some (Value.builtin "object.__class__"))) && (decide (PySem.W.specialIn K (Value.builtin "object.__class__") "__get__" = some (some (Value.builtin "getset_descriptor.__get__"))) &&
  (decide (PySem.W.takesIn K (Value.builtin "object.__class__") = some true) && (decide (PySem.W.mroIn K C (.type "object") = some true) && noneOf K C)))
def isGetS (r : Option PySem.W.CFound) (p C : Addr) : Bool := match r with
  | some (.get (.builtin g) (.ref q) .none (.ref D)) => decide (g = "staticmethod.__get__") && (decide (q = p) && decide (D = C))
  | _ => false
theorem isGetS_ok {r : Option PySem.W.CFound} {p C : Addr} (h : isGetS r p C = true) : r = some (.get (.builtin "staticmethod.__get__") (.ref p) .none (.ref C)) := by
  unfold isGetS at h
  split at h
  · obtain ⟨h1, h2⟩ := Bool.and_eq_true_iff.mp h
    obtain ⟨h2, h3⟩ := Bool.and_eq_true_iff.mp h2
    rw [of_decide_eq_true h1, of_decide_eq_true h2, of_decide_eq_true h3]
  · cases h
def smetB (K : PySem.W.Frag) (C p : Addr) (m : Str) : Bool := isGetS (PySem.W.findCls K (.ref C) typ m) p C && ((match PySem.W.recIn K p "staticmethod" with | some (.ref _ :: _) => true | _ => false) && (PySem.W.keepIn K (.ref (recA K p "staticmethod")) &&
  (PySem.W.readsIn K C typ && decide (PySem.W.specialIn K (.ref C) "__getattribute__" = some (some (Value.builtin "type.__getattribute__"))))))
def calloB (K : PySem.W.Frag) (C g : Addr) : Bool := decide (PySem.W.findIn K (.ref C) "__call__" = some (some (.ref g))) && (PySem.W.isFn K (.ref g) && PySem.W.fnIn K g)
def xfaB (K : PySem.W.Frag) (C : Addr) (f : Str) : Bool := xfB K C && decide (PySem.W.findIn K (.ref C) f = some none)
def exiB (K : PySem.W.Frag) (C L : Addr) : Bool := xfB K C && ((PySem.W.clsIn K C).isSome && (decide (PySem.W.findIn K (.ref C) "__class__" = some (some (Value.builtin "object.__class__"))) && (decide (PySem.W.specialIn K (.builtin "object.__class__") "__get__" = some (some (Value.builtin "getset_descriptor.__get__"))) &&
  (decide (PySem.W.takesIn K (.builtin "object.__class__") = some true) && (decide (PySem.W.mroIn K C (.type "object") = some true) && decide (PySem.W.kitOne K (.ref C) (.ref L) = some true))))))
def exkB (K : PySem.W.Frag) (C : Addr) (cv : Value) (b : Bool) : Bool := xfB K C && ((PySem.W.clsIn K C).isSome && (decide (PySem.W.findIn K (.ref C) "__class__" = some (some (Value.builtin "object.__class__"))) && (decide (PySem.W.specialIn K (.builtin "object.__class__") "__get__" = some (some (Value.builtin "getset_descriptor.__get__"))) &&
  (decide (PySem.W.takesIn K (.builtin "object.__class__") = some true) && (decide (PySem.W.mroIn K C (.type "object") = some true) && decide (PySem.W.kitOne K (.ref C) cv = some b))))))
def exzB (K : PySem.W.Frag) (C : Addr) : Bool := PySem.W.excIn K C [.type "ValueError", .type "Exception", .type "BaseException", .type "object"] "ValueError.__new__" && PySem.W.keepIn K (.ref C)
def isVal (r : Option PySem.W.CFound) (n : Int) : Bool := match r with
  | some (.val (.int i _)) => decide (i = n)
  | _ => false
theorem isVal_ok {r : Option PySem.W.CFound} {n : Int} (h : isVal r n = true) : ∃ t, r = some (.val (.int n t)) := by
  unfold isVal at h
  split at h
  · rename_i i t
    have e : i = n := of_decide_eq_true h
    exact ⟨t, by rw [e]⟩
  · cases h
def cvalB (K : PySem.W.Frag) (C : Addr) (f : Str) (n : Int) : Bool := isVal (PySem.W.findCls K (.ref C) typ f) n && (PySem.W.readsIn K C typ && decide (PySem.W.specialIn K (.ref C) "__getattribute__" = some (some (Value.builtin "type.__getattribute__"))))
def Fx.ok (K : PySem.W.Frag) : Fx → Bool
  | .scls c => sclsB K (He.ga K c)
  | .slot c f i => slotB K (He.ga K c) (He.ma K (He.ga K c) f) f i
  | .prop c f => propB K (He.ga K c) (He.ma K (He.ga K c) f) f
  | .cmet c m => cmetB K (He.ga K c) (He.ma K (He.ga K c) m) m
  | .cval c f n => cvalB K (He.ga K c) f n
  | .blt x id => decide (PySem.W.nsIn K mainGlobals x = some (some (Value.builtin id)))
  | .ktup x zs => ktupB zs (K.lookup (He.ga K x))
  | .isi c => isiB K (He.ga K c)
  | .selff c => PySem.W.selfFirst K (He.ga K c)
  | .notint c => decide (PySem.W.mroIn K (He.ga K c) (.type "int") = some false)
  | .nefct c => decide (PySem.W.findIn K (.ref (He.ga K c)) "__ne__" = some (some (.builtin "object.__ne__")))
  | .smet c m => smetB K (He.ga K c) (He.ma K (He.ga K c) m) m
  | .callo c => calloB K (He.ga K c) (He.ma K (He.ga K c) "__call__")
  | .exm n m b => decide (PySem.W.exmOne K (.ref (He.ga K n)) (.ref (He.ga K m)) = some b)
  | .exb n t b => decide (PySem.W.exmOne K (.ref (He.ga K n)) (.type t) = some b)
  | .xfa n f => xfaB K (He.ga K n) f
  | .exi n m => exiB K (He.ga K n) (He.ga K m)
  | .exk n m b => exkB K (He.ga K n) (.ref (He.ga K m)) b
  | .exv n t b => exkB K (He.ga K n) (.type t) b
  | .exz n => exzB K (He.ga K n)
  | .tabs => (codeTab K "free_name").isSome
  | .nst n => decide (PySem.W.subIn K (.ref (He.ga K n)) (.type "StopIteration") = some false)
theorem two {a b : Bool} (h : (a && b) = true) : a = true ∧ b = true := Bool.and_eq_true_iff.mp h
theorem scls_ok {K : PySem.W.Frag} {C : Addr} (h : sclsB K C = true) : SlX.SCls K C := by
  obtain ⟨h1, h⟩ := two h
  obtain ⟨h2, h⟩ := two h
  obtain ⟨h3, h4⟩ := two h
  exact ⟨h3, h1, h2, of_decide_eq_true h4⟩
theorem slot_ok {K : PySem.W.Frag} {C p : Addr} {f : Str} {i : Nat} (h : slotB K C p f i = true) : SlX.Slot1 K C f p i := by
  obtain ⟨h1, h⟩ := two h
  obtain ⟨h2, h⟩ := two h
  obtain ⟨h3, h⟩ := two h
  obtain ⟨h4, h⟩ := two h
  obtain ⟨h5, h6⟩ := two h
  exact ⟨of_decide_eq_true h3, of_decide_eq_true h4, of_decide_eq_true h5, of_decide_eq_true h6, of_decide_eq_true h1, of_decide_eq_true h2⟩
theorem prop_ok {K : PySem.W.Frag} {C p : Addr} {f : Str} (h : propB K C p f = true) : PropOf K C f p (recA K p "property") := by
  obtain ⟨h1, h⟩ := two h
  obtain ⟨h2, h⟩ := two h
  obtain ⟨h3, h4⟩ := two h
  exact ⟨of_decide_eq_true h1, of_decide_eq_true h2, of_decide_eq_true h3, recA_ok h4⟩
theorem cmet_ok {K : PySem.W.Frag} {C p : Addr} {m : Str} (h : cmetB K C p m = true) : ClX.CRead K C typ ∧ ClX.CMet K C typ m p (recA K p "classmethod") := by
  obtain ⟨h1, h⟩ := two h
  obtain ⟨h2, h⟩ := two h
  obtain ⟨h3, h⟩ := two h
  obtain ⟨h4, h5⟩ := two h
  exact ⟨⟨h4, of_decide_eq_true h5⟩, isGet_ok h1, recA_ok h2, h3⟩
theorem txtIs_ok : ∀ {zs : List Str} {us : List Value}, txtIs zs us = true → Vals (zs.map V.str) us
  | [], [], _ => .nil
  | z :: zs, .str y t :: us, h => by
    obtain ⟨h1, h2⟩ := two h
    have e : y = z := of_decide_eq_true h1
    subst e
    exact .cons ⟨t, rfl⟩ (txtIs_ok h2)
  | [], _ :: _, h => by cases h
theorem ktup_ok {K : PySem.W.Frag} {a : Addr} {zs : List Str} (h : ktupB zs (K.lookup a) = true) : KTup K a zs := by
  generalize hq : K.lookup a = q at h
  unfold ktupB at h
  split at h
  · rename_i t d its n sl
    obtain ⟨h1, h2⟩ := two h
    obtain ⟨h2, h3⟩ := two h2
    have e : t = "tuple" := of_decide_eq_true h1
    subst e
    exact ⟨_, its, n, hq, rfl, rfl, Nat.le_trans (Nat.le_of_ble_eq_true h2) (by rw [sizeLine_eq]; decide), txtIs_ok h3⟩
  · cases h
structure DefY where
  cls : Str
  at_ : Str
  kind : String
  name : Str
  qual : Str
  params : Arguments
  body : List Stmt
  scope : Scope
  flds : List Str
  file : Str
  ini : Bool
def DefY.adr (K : PySem.W.Frag) (d : DefY) : Addr := match d.ini with
  | true => He.ma K (He.ga K d.cls) "__init__"
  | false => recA K (He.ma K (He.ga K d.cls) d.at_) d.kind
abbrev FnY : Type := Option (Scope × FuncBody × Arguments × List (Str × Addr) × Addr × Addr × Str × Str)
def tellF (u : FuncData) : FnY := some (u.scope, u.body, u.params, u.closure, u.builtins, u.globals, u.name, u.qualname)
def tellO : Option Obj → FnY
  | some ⟨_, _, .func u, _⟩ => tellF u
  | _ => none
def plainO (K : PySem.W.Frag) (q : Str) : Option Obj → Bool
  | some ⟨_, _, .func u, _⟩ => He.dflB K u.defaults [] && (He.kwdB K u.kwdefaults [] && PySem.W.codeIn K u.code q)
  | _ => false
def tellE : Option Obj → FnY
  | some ⟨_, _, .func u, _⟩ => some (u.scope, u.body, u.params, [], u.builtins, u.globals, u.name, u.qualname)
  | _ => none
def DefY.tell (K : PySem.W.Frag) (d : DefY) : FnY := match d.ini with
  | true => tellE (K.lookup (d.adr K))
  | false => tellO (K.lookup (d.adr K))
def oexO (C : Addr) : Option Obj → Bool
  | some ⟨.type t, _, .cls cd, sl⟩ => decide (t = "type") && (match cd.mro, sl.toList with
    | .ref C' :: bm, [_, _, _, _, some (.builtin n), _] => decide (C' = C) && (decide (n = "ValueError.__new__") && (cd.hasDict && (!cd.hasDel && HandSPX.refsVE bm)))
    | _, _ => false)
  | _ => false
def cellO (C : Addr) : Option Obj → Bool
  | some ⟨_, _, .cell (some (.ref D)), _⟩ => decide (D = C)
  | _ => false
def fileO (file : Str) : Option Obj → Bool
  | some ⟨_, _, .fields vs, _⟩ => (match (vs[2]? : Option Value) with
    | some (Value.str f _) => file == f
    | _ => false)
  | _ => false
def iniO (K : PySem.W.Frag) (C : Addr) (q file : Str) : Option Obj → Bool
  | some ⟨_, _, .func u, _⟩ => (match u.closure, u.code, u.defaults, u.kwdefaults, u.annotations with
    | [(x, cc)], .ref c, .none, .none, none => decide (x = "__class__") && (PySem.W.codeIn K (.ref c) q && (cellO C (K.lookup cc) && fileO file (K.lookup c)))
    | _, _, _, _, _ => false)
  | _ => false
def iniB (K : PySem.W.Frag) (d : DefY) (C fI : Addr) : Bool := oexO C (K.lookup C) && (decide (PySem.W.findIn K (.ref C) "__setattr__" = some (some (Value.builtin "object.__setattr__"))) && (decide (PySem.W.subIn K (.ref C) (.type "BaseException") = some true) && (decide (PySem.W.typeIn K (.ref C) = some (.type "type")) &&
  (PySem.W.keepIn K (.ref C) && (decide (PySem.W.findIn K (.ref C) "__init__" = some (some (.ref fI))) && (decide (PySem.W.typeIn K (.ref fI) = some (.type "function")) && (d.flds.all (fun f => decide (PySem.W.findIn K (.ref C) f = some none)) &&
  (iniO K C d.qual d.file (K.lookup fI) && (decide (((PySem.W.clsIn K C).bind fun cd => PySem.W.alongIn K ("__init__" : Str) ((cd.mro.dropWhile (· != .ref C)).drop 1)) = some (some (Value.builtin "ValueError.__init__"))) &&
  (decide (PySem.W.mroIn K C (.ref C) = some true) && (decide (PySem.W.mroIn K C (.type "ValueError") = some true) && decide (PySem.W.nsIn K cStatics "thirdparty.any" = some none))))))))))))
def DefY.val (d : DefY) : FnY := some (d.scope, .stmts d.body, d.params, [], builtinsNs, mainGlobals, d.name, d.qual)
def DefY.ok (K : PySem.W.Frag) (d : DefY) : Bool := match d.ini with
  | true => iniB K d (He.ga K d.cls) (d.adr K)
  | false => plainO K d.qual (K.lookup (d.adr K)) && PySem.W.keepIn K (.ref (d.adr K))
abbrev AlX : Type := Bool × He.AlD × List FnY
def obsX (fa : List He.Fa) (fx : List Fx) (fn : List He.DefD) (fy : List DefY) (K : PySem.W.Frag) : AlX := ((fx.all fun f => f.ok K) && (fy.all fun d => d.ok K), He.obsD fa fn K, fy.map fun d => d.tell K)
def valX (fn : List He.DefD) (fy : List DefY) : AlX := (true, He.valD fn, fy.map DefY.val)
def newB : Nat → List Addr → List Addr
  | _, [] => []
  | m, a :: r => match Nat.testBit m a with
    | true => newB m r
    | false => a :: newB (m ||| 1 <<< a) r
def refsB (g : Addr → Option Obj) (a : Addr) : List Addr := match g a with
  | some o => He.refsD o
  | none => []
def bitsB : Nat → List Addr → Nat
  | m, [] => m
  | m, a :: r => bitsB (m ||| 1 <<< a) r
def growB (g : Addr → Option Obj) : Nat → Nat → List Addr → List Addr → List Addr
  | 0, _, all, _ => all
  | n + 1, m, all, last => (fun new => growB g n (bitsB m new) (all ++ new) new) (newB m (last.flatMap (refsB g)))
def asB (g : Addr → Option Obj) (n : Nat) : List Addr := cStatics :: growB g n (1 <<< mainGlobals) [mainGlobals] [mainGlobals]
def isTabB : Option Obj → Bool
  | some ⟨.none, none, .fields vs, sl⟩ => vs.size == 0 && sl.size == 0
  | _ => false
theorem isTab_ok {o : Option Obj} (h : isTabB o = true) : o = some { cls := .none, data := .fields #[] } := by
  unfold isTabB at h
  split at h
  · rename_i vs sl
    obtain ⟨h1, h2⟩ := Bool.and_eq_true_iff.mp h
    have e1 : vs = #[] := Array.eq_empty_of_size_eq_zero (eq_of_beq h1)
    have e2 : sl = #[] := Array.eq_empty_of_size_eq_zero (eq_of_beq h2)
    rw [e1, e2]
  · cases h
def codeHdB (o : Option Obj) (c P : Addr) : Bool := match o with
  | some oc => decide (oc.cls = .type "code") && (match oc.data with
    | .fields vs => decide (vs[11]? = some (.ref P)) && (decide (vs.getD 11 .none = .ref P) && ((match vs.getD 18 .none with | .str _ _ => true | _ => false) && ((match vs.getD 7 .none with | .int _ _ => true | _ => false) && ((match vs.getD 9 .none with | .bool _ => true | _ => false) && ((match vs.getD 10 .none with | .int _ _ => true | _ => false) && decide (c ≠ P))))))
    | _ => false)
  | none => false
theorem codeHd_ok {h : Heap} {c P : Addr} (z : codeHdB (h.get? c) c P = true) : PySem.W.CodeHd h c P := by
  unfold codeHdB at z
  split at z
  · rename_i oc e
    obtain ⟨z1, z2⟩ := Bool.and_eq_true_iff.mp z
    split at z2
    · rename_i vs ed
      simp only [Bool.and_eq_true, decide_eq_true_eq] at z2
      obtain ⟨y1, y2, y3, y4, y5, y6, y7⟩ := z2
      split at y3
      · rename_i file tf e3
        split at y4
        · rename_i fl tg e4
          split at y5
          · rename_i inF e5
            split at y6
            · rename_i text tt e6
              exact ⟨oc, vs, file, tf, fl, tg, inF, text, tt, e, of_decide_eq_true z1, ed, y1, y2, e3, e4, e5, e6, y7⟩
            · cases y6
          · cases y5
        · cases y4
      · cases y3
    · cases z2
  · cases z
def asT (g : Addr → Option Obj) (n : Nat) : List Addr := (asB g n).filter fun a => !(isTabB (g a))
def tabB (K : PySem.W.Frag) (g : Addr → Option Obj) : Bool := (tabsK K).all fun p => isTabB (g p.2) && (codeHdB (g p.1) p.1 p.2 && (K.lookup p.2).isNone)
def TabF (K : PySem.W.Frag) (h : Heap) : Prop := ∀ p ∈ tabsK K, h.get? p.2 = some { cls := .none, data := .fields #[] } ∧ PySem.W.CodeHd h p.1 p.2 ∧ K.lookup p.2 = none
theorem tabF_of {K : PySem.W.Frag} {h : Heap} (z : tabB K h.get? = true) : TabF K h := fun p hp => by
  have z1 := List.all_eq_true.mp z p hp
  obtain ⟨z2, z3⟩ := Bool.and_eq_true_iff.mp z1
  obtain ⟨z4, z5⟩ := Bool.and_eq_true_iff.mp z3
  exact ⟨isTab_ok z2, codeHd_ok z4, Option.isNone_iff_eq_none.mp z5⟩
def obsXT (fa : List He.Fa) (fx : List Fx) (fn : List He.DefD) (fy : List DefY) (K : PySem.W.Frag) (g : Addr → Option Obj) : AlX := ((fx.all fun f => f.ok K) && (fy.all fun d => d.ok K) && tabB K g, He.obsD fa fn K, fy.map fun d => d.tell K)
theorem obsXT_of {fa : List He.Fa} {fx : List Fx} {fn : List He.DefD} {fy : List DefY} {K : PySem.W.Frag} {h : Heap} (e : obsXT fa fx fn fy K h.get? = valX fn fy) : obsX fa fx fn fy K = valX fn fy ∧ TabF K h := by
  have e1 : ((fx.all fun f => f.ok K) && (fy.all fun d => d.ok K) && tabB K h.get?) = true := congrArg Prod.fst e
  obtain ⟨e2, e3⟩ := Bool.and_eq_true_iff.mp e1
  exact ⟨Prod.ext e2 (show (He.obsD fa fn K, fy.map fun d => d.tell K) = (valX fn fy).2 from congrArg (fun z : AlX => z.2) e), tabF_of e3⟩
def obsXG (n : Nat) (fa : List He.Fa) (fx : List Fx) (fn : List He.DefD) (fy : List DefY) (g : Addr → Option Obj) : AlX := obsXT fa fx fn fy (He.frG g (asT g n)) g
def hookX (n : Nat) (fa : List He.Fa) (fx : List Fx) (fn : List He.DefD) (fy : List DefY) : PySem.W.Hook where
  α := AlX
  obs := fun s => obsXG n fa fx fn fy s.heap.get?
  val := fun _ => valX fn fy
  says := fun _ h => ∃ K : PySem.W.Frag, K.In h ∧ obsX fa fx fn fy K = valX fn fy ∧ TabF K h
  of := fun _ _ e => ⟨_, He.frG_in, obsXT_of e⟩
  keeps := fun _ _ _ ⟨K, hK, c, t⟩ k => ⟨K, PySem.W.Frag.In.keeps hK k, c, fun p hp => ⟨k _ _ (t p hp).1, (t p hp).2.1.keeps k, (t p hp).2.2⟩⟩
theorem obsXG_eq {n : Nat} {fa : List He.Fa} {fx : List Fx} {fn : List He.DefD} {fy : List DefY} {g : Addr → Option Obj} {s : Shared} (h : ∀ a, g a = s.heap.get? a) : obsXG n fa fx fn fy g = (hookX n fa fx fn fy).obs s := by
  have e : g = s.heap.get? := funext h
  rw [e] <;> rfl
def obs1 (fx : List Fx) (fy : List DefY) (K : PySem.W.Frag) (g : Addr → Option Obj) : Bool × List FnY := ((fx.all fun f => f.ok K) && (fy.all fun d => d.ok K) && tabB K g, fy.map fun d => d.tell K)
def obs1G (n : Nat) (fx : List Fx) (fy : List DefY) (g : Addr → Option Obj) : Bool × List FnY := obs1 fx fy (He.frG g (asT g n)) g
def obs2G (n : Nat) (fa : List He.Fa) (fn : List He.DefD) (g : Addr → Option Obj) : He.AlD := He.obsD fa fn (He.frG g (asT g n))
structure Tx (fa : List He.Fa) (fx : List Fx) (fn : List He.DefD) (fy : List DefY) (K : PySem.W.Frag) (mg : Str → Option Value) (base : Heap) : Prop where
  c : obsX fa fx fn fy K = valX fn fy
  tb : ∀ p ∈ tabsK K, LamX.TabB base mg p.1 p.2
  at_ : ∃ h : Heap, K.In h ∧ h.Ns mainGlobals mg
section
variable {fa : List He.Fa} {fx : List Fx} {fn : List He.DefD} {fy : List DefY} {K : PySem.W.Frag} {mg : Str → Option Value} {base : Heap}
theorem Tx.says (T : Tx fa fx fn fy K mg base) : He.SaysD fa fn K := congrArg (fun z : AlX => z.2.1) T.c
theorem Tx.extra (T : Tx fa fx fn fy K mg base) (i : Nat) {f : Fx} (h : fx[i]? = some f) : f.ok K = true := by
  have e : ((fx.all fun f => f.ok K) && (fy.all fun d => d.ok K)) = true := congrArg (fun z : AlX => z.1) T.c
  exact List.all_eq_true.mp (two e).1 f (List.mem_of_getElem? h)
theorem Tx.exm (T : Tx fa fx fn fy K mg base) (i : Nat) {n m : Str} {b : Bool} (h : fx[i]? = some (.exm n m b) := by rfl) : PySem.W.exmOne K (.ref (He.ga K n)) (.ref (He.ga K m)) = some b := of_decide_eq_true (T.extra i h)
theorem Tx.exb (T : Tx fa fx fn fy K mg base) (i : Nat) {n : Str} {t : String} {b : Bool} (h : fx[i]? = some (.exb n t b) := by rfl) : PySem.W.exmOne K (.ref (He.ga K n)) (.type t) = some b := of_decide_eq_true (T.extra i h)
theorem Tx.nst (T : Tx fa fx fn fy K mg base) (i : Nat) {n : Str} (h : fx[i]? = some (.nst n) := by rfl) : PySem.W.subIn K (.ref (He.ga K n)) (.type "StopIteration") = some false := of_decide_eq_true (T.extra i h)
theorem Tx.xfa (T : Tx fa fx fn fy K mg base) (i : Nat) {n f : Str} (h : fx[i]? = some (.xfa n f) := by rfl) : XfC K (He.ga K n) ∧ PySem.W.findIn K (.ref (He.ga K n)) f = some none := by
  obtain ⟨h1, h2⟩ := two (show xfaB K (He.ga K n) f = true from T.extra i h)
  exact ⟨xfB_ok h1, of_decide_eq_true h2⟩
theorem xk_of {n : Str} {cv : Value} {b : Bool} (h : exkB K (He.ga K n) cv b = true) : XiC K n cv b := by
  obtain ⟨h1, q⟩ := two h
  obtain ⟨h2, q⟩ := two q
  obtain ⟨h3, q⟩ := two q
  obtain ⟨h4, q⟩ := two q
  obtain ⟨h5, q⟩ := two q
  obtain ⟨h6, h7⟩ := two q
  exact ⟨xfB_ok h1, h2, of_decide_eq_true h3, of_decide_eq_true h4, of_decide_eq_true h5, of_decide_eq_true h6, of_decide_eq_true h7⟩
theorem Tx.exk (T : Tx fa fx fn fy K mg base) (i : Nat) {n m : Str} {b : Bool} (h : fx[i]? = some (.exk n m b) := by rfl) : XiC K n (.ref (He.ga K m)) b := xk_of (T.extra i h)
theorem Tx.exv (T : Tx fa fx fn fy K mg base) (i : Nat) {n : Str} {t : String} {b : Bool} (h : fx[i]? = some (.exv n t b) := by rfl) : XiC K n (.type t) b := xk_of (T.extra i h)
theorem Tx.exz (T : Tx fa fx fn fy K mg base) (i : Nat) {n : Str} (h : fx[i]? = some (.exz n) := by rfl) : PySem.W.excIn K (He.ga K n) [.type "ValueError", .type "Exception", .type "BaseException", .type "object"] "ValueError.__new__" = true ∧ PySem.W.keepIn K (.ref (He.ga K n)) = true := two (show exzB K (He.ga K n) = true from T.extra i h)
theorem Tx.exi (T : Tx fa fx fn fy K mg base) (i : Nat) {n m : Str} (h : fx[i]? = some (.exi n m) := by rfl) : ExI K n m := by
  obtain ⟨h1, q⟩ := two (show exiB K (He.ga K n) (He.ga K m) = true from T.extra i h)
  obtain ⟨h2, q⟩ := two q
  obtain ⟨h3, q⟩ := two q
  obtain ⟨h4, q⟩ := two q
  obtain ⟨h5, q⟩ := two q
  obtain ⟨h6, h7⟩ := two q
  exact ⟨xfB_ok h1, h2, of_decide_eq_true h3, of_decide_eq_true h4, of_decide_eq_true h5, of_decide_eq_true h6, of_decide_eq_true h7⟩
theorem oexO_ok {C : Addr} {o : Option Obj} (h : oexO C o = true) : ∃ nm q N bs bm sn sub ab col dd k0 k1 k2 k3 k5, o = some (excClassObj nm q C N bs bm true sn sub ab col dd k0 k1 k2 k3 k5 "ValueError.__new__") ∧ HandSPX.refsVE bm = true := by
  unfold oexO at h
  split at h
  · rename_i t dd cd sl
    obtain ⟨h1, h2⟩ := two h
    have e1 : t = "type" := of_decide_eq_true h1
    subst e1
    split at h2
    · rename_i C' bm k0 k1 k2 k3 n k5 em es
      obtain ⟨a1, h2⟩ := two h2
      obtain ⟨a2, h2⟩ := two h2
      obtain ⟨a3, h2⟩ := two h2
      obtain ⟨a4, a5⟩ := two h2
      have e1 : C' = C := of_decide_eq_true a1
      have e2 : n = "ValueError.__new__" := of_decide_eq_true a2
      subst e1 e2
      obtain ⟨c1, c2, c3, c4, c5, c6, c7, c8, c9, c10, c11⟩ := cd
      obtain ⟨l⟩ := sl
      dsimp only at em es a3 a4
      subst em es a3
      have a4 : c11 = false := by simpa using a4
      subst a4
      exact ⟨_, _, _, _, bm, _, _, _, _, dd, k0, k1, k2, k3, k5, rfl, a5⟩
    · cases h2
  · cases h
theorem iniO_ok {K : PySem.W.Frag} {C : Addr} {q file : Str} {o : Option Obj} (h : iniO K C q file o = true) : ∃ oc od u sl cc c, o = some ⟨oc, od, .func u, sl⟩ ∧ u.closure = [(("__class__" : Str), cc)] ∧ u.code = .ref c ∧ u.defaults = .none ∧ u.kwdefaults = .none ∧ u.annotations = none ∧
    PySem.W.codeIn K (.ref c) q = true ∧ cellO C (K.lookup cc) = true ∧ fileO file (K.lookup c) = true := by
  unfold iniO at h
  split at h
  · rename_i oc od u sl
    split at h
    · rename_i x cc c e1 e2 e3 e4 e5
      obtain ⟨a1, h⟩ := two h
      obtain ⟨a2, h⟩ := two h
      obtain ⟨a3, a4⟩ := two h
      have e : x = "__class__" := of_decide_eq_true a1
      subst e
      exact ⟨oc, od, u, sl, cc, c, rfl, e1, e2, e3, e4, e5, a2, a3, a4⟩
    · cases h
  · cases h
theorem cellO_ok {C : Addr} {o : Option Obj} (h : cellO C o = true) : ∃ oc od sl, o = some ⟨oc, od, .cell (some (.ref C)), sl⟩ := by
  unfold cellO at h
  split at h
  · rename_i oc od D sl
    have e : D = C := of_decide_eq_true h
    subst e
    exact ⟨_, _, _, rfl⟩
  · cases h
theorem fileO_ok {file : Str} {o : Option Obj} (h : fileO file o = true) : ∃ oc od vs sl f tf, o = some ⟨oc, od, .fields vs, sl⟩ ∧ vs[2]? = some (Value.str f tf) ∧ (file == f) = true := by
  unfold fileO at h
  split at h
  · rename_i oc od vs sl
    split at h
    · rename_i f tf e
      exact ⟨_, _, vs, _, f, tf, rfl, e, h⟩
    · cases h
  · cases h
theorem Tx.exc (T : Tx fa fx fn fy K mg base) (P : Program) (i : Nat) {d : DefY} (h : fy[i]? = some d := by rfl) (hk : d.ini = true := by rfl) (hf : d.file = P.main.file := by rfl) (ht : (P.main.scope.names.lookup ("super" : Str)).isSome = false := by kernel_rfl) :
    ∃ cc c, InitK P K (He.ga K d.cls) (He.ma K (He.ga K d.cls) "__init__") cc ⟨d.name, d.qual, d.params, d.body, d.scope, [(("__class__" : Str), cc)], c⟩ ∧ PySem.W.findIn K (.ref (He.ga K d.cls)) "__init__" = some (some (.ref (He.ma K (He.ga K d.cls) "__init__"))) ∧
      PySem.W.typeIn K (.ref (He.ma K (He.ga K d.cls) "__init__")) = some (.type "function") ∧ ∀ f ∈ d.flds, PySem.W.findIn K (.ref (He.ga K d.cls)) f = some none := by
  have e : ((fx.all fun f => f.ok K) && (fy.all fun d => d.ok K)) = true := congrArg (fun z : AlX => z.1) T.c
  have c := List.all_eq_true.mp (two e).2 d (List.mem_of_getElem? h)
  have e2 : (fy.map fun d => d.tell K) = fy.map DefY.val := congrArg (fun z : AlX => z.2.2) T.c
  have e3 := congrArg (fun l => l[i]?) e2
  simp only [List.getElem?_map, h, Option.map_some, Option.some.injEq] at e3
  unfold DefY.tell DefY.adr at e3
  unfold DefY.ok DefY.adr at c
  simp only [hk] at c e3
  generalize He.ma K (He.ga K d.cls) "__init__" = fI at *
  generalize He.ga K d.cls = C at *
  obtain ⟨a1, c⟩ := two c
  obtain ⟨a2, c⟩ := two c
  obtain ⟨a3, c⟩ := two c
  obtain ⟨a4, c⟩ := two c
  obtain ⟨a5, c⟩ := two c
  obtain ⟨a6, c⟩ := two c
  obtain ⟨a7, c⟩ := two c
  obtain ⟨a8, c⟩ := two c
  obtain ⟨a9, c⟩ := two c
  obtain ⟨a10, c⟩ := two c
  obtain ⟨a11, c⟩ := two c
  obtain ⟨a12, a13⟩ := two c
  obtain ⟨oc, od, u, sl, cc, cd, hl, u1, u2, u3, u4, u5, u6, u7, u8⟩ := iniO_ok a9
  refine ⟨cc, cd, ⟨⟨oexO_ok a1, of_decide_eq_true a2, of_decide_eq_true a3, of_decide_eq_true a4, a5⟩, ?_, rfl, u6, ?_, cellO_ok u7, ?_, of_decide_eq_true a11, of_decide_eq_true a12, of_decide_eq_true a13, ht⟩, of_decide_eq_true a6, of_decide_eq_true a7, fun f hf => of_decide_eq_true (List.all_eq_true.mp a8 f hf)⟩
  · rw [hl] at e3
    obtain ⟨v1, v2, v3, v4, v5, v6, v7, v8, v9, v10, v11, v12, v13, v14, v15⟩ := u
    dsimp only at u1 u2 u3 u4 u5
    subst u1 u2 u3 u4 u5
    unfold tellE DefY.val at e3
    simp only [Option.some.injEq, Prod.mk.injEq] at e3
    obtain ⟨r1, r2, r3, _, r5, r6, r7, r8⟩ := e3
    subst r1 r2 r3 r5 r6 r7 r8
    exact ⟨oc, od, _, _, _, sl, hl⟩
  · obtain ⟨o1, o2, vs, s2, f, tf, w1, w2, w3⟩ := fileO_ok u8
    exact ⟨o1, o2, vs, s2, f, tf, w1, w2, hf ▸ w3⟩
  · have := of_decide_eq_true a10
    cases hc : PySem.W.clsIn K C with
    | none => rw [hc] at this; cases this
    | some cd2 =>
      rw [hc] at this
      exact ⟨cd2, rfl, this⟩
theorem Tx.scls (T : Tx fa fx fn fy K mg base) (i : Nat) {c : Str} (h : fx[i]? = some (.scls c) := by rfl) : SlX.SCls K (He.ga K c) := scls_ok (T.extra i h)
theorem Tx.slot (T : Tx fa fx fn fy K mg base) (i : Nat) {c f : Str} {j : Nat} (h : fx[i]? = some (.slot c f j) := by rfl) : SlX.Slot1 K (He.ga K c) f (He.ma K (He.ga K c) f) j := slot_ok (T.extra i h)
theorem Tx.prop (T : Tx fa fx fn fy K mg base) (i : Nat) {c f : Str} (h : fx[i]? = some (.prop c f) := by rfl) : PropOf K (He.ga K c) f (He.ma K (He.ga K c) f) (recA K (He.ma K (He.ga K c) f) "property") := prop_ok (T.extra i h)
theorem Tx.cmet (T : Tx fa fx fn fy K mg base) (i : Nat) {c m : Str} (h : fx[i]? = some (.cmet c m) := by rfl) : ClX.CRead K (He.ga K c) typ ∧ ClX.CMet K (He.ga K c) typ m (He.ma K (He.ga K c) m) (recA K (He.ma K (He.ga K c) m) "classmethod") := cmet_ok (T.extra i h)
theorem isi_ok {K : PySem.W.Frag} {C : Addr} (h : isiB K C = true) : SlX.SIsi K C ∧ noneOf K C = true := by
  obtain ⟨h1, h⟩ := two h
  obtain ⟨h2, h⟩ := two h
  obtain ⟨h3, h⟩ := two h
  obtain ⟨h4, h5⟩ := two h
  exact ⟨⟨of_decide_eq_true h1, of_decide_eq_true h2, of_decide_eq_true h3, of_decide_eq_true h4⟩, h5⟩
theorem smet_ok {K : PySem.W.Frag} {C p : Addr} {m : Str} (h : smetB K C p m = true) : ClX.CRead K C typ ∧ SMet K C typ m p (recA K p "staticmethod") := by
  obtain ⟨h1, h⟩ := two h
  obtain ⟨h2, h⟩ := two h
  obtain ⟨h3, h⟩ := two h
  obtain ⟨h4, h5⟩ := two h
  exact ⟨⟨h4, of_decide_eq_true h5⟩, isGetS_ok h1, recA_ok h2, h3⟩
theorem callo_ok {K : PySem.W.Frag} {C g : Addr} (h : calloB K C g = true) : StX.CallO K C g := by
  obtain ⟨h1, h⟩ := two h
  obtain ⟨h2, h3⟩ := two h
  exact ⟨of_decide_eq_true h1, h2, h3⟩
theorem cval_ok {K : PySem.W.Frag} {C : Addr} {f : Str} {n : Int} (h : cvalB K C f n = true) : ClX.CRead K C typ ∧ ∃ u, ClX.CVal K C typ f (.int n) u := by
  obtain ⟨h1, h⟩ := two h
  obtain ⟨h2, h3⟩ := two h
  obtain ⟨t, e⟩ := isVal_ok h1
  exact ⟨⟨h2, of_decide_eq_true h3⟩, _, e, ⟨t, rfl⟩⟩
theorem Tx.cval (T : Tx fa fx fn fy K mg base) (i : Nat) {c f : Str} {n : Int} (h : fx[i]? = some (.cval c f n) := by rfl) : ClX.CRead K (He.ga K c) typ ∧ ∃ u, ClX.CVal K (He.ga K c) typ f (.int n) u := cval_ok (T.extra i h)
theorem Tx.isi (T : Tx fa fx fn fy K mg base) (i : Nat) {c : Str} (h : fx[i]? = some (.isi c) := by rfl) : SlX.SIsi K (He.ga K c) ∧ noneOf K (He.ga K c) = true := isi_ok (T.extra i h)
theorem Tx.selff (T : Tx fa fx fn fy K mg base) (i : Nat) {c : Str} (h : fx[i]? = some (.selff c) := by rfl) : PySem.W.selfFirst K (He.ga K c) = true := T.extra i h
theorem Tx.notint (T : Tx fa fx fn fy K mg base) (i : Nat) {c : Str} (h : fx[i]? = some (.notint c) := by rfl) : PySem.W.mroIn K (He.ga K c) (.type "int") = some false := of_decide_eq_true (T.extra i h)
theorem Tx.nefct (T : Tx fa fx fn fy K mg base) (i : Nat) {c : Str} (h : fx[i]? = some (.nefct c) := by rfl) : PySem.W.findIn K (.ref (He.ga K c)) "__ne__" = some (some (.builtin "object.__ne__")) := of_decide_eq_true (T.extra i h)
theorem Tx.smet (T : Tx fa fx fn fy K mg base) (i : Nat) {c m : Str} (h : fx[i]? = some (.smet c m) := by rfl) : ClX.CRead K (He.ga K c) typ ∧ SMet K (He.ga K c) typ m (He.ma K (He.ga K c) m) (recA K (He.ma K (He.ga K c) m) "staticmethod") := smet_ok (T.extra i h)
theorem Tx.callo (T : Tx fa fx fn fy K mg base) (i : Nat) {c : Str} (h : fx[i]? = some (.callo c) := by rfl) : StX.CallO K (He.ga K c) (He.ma K (He.ga K c) "__call__") := callo_ok (T.extra i h)
theorem Tx.blt (T : Tx fa fx fn fy K mg base) (i : Nat) {x : Str} {id : String} (h : fx[i]? = some (.blt x id) := by rfl) : mg x = some (.builtin id) := by
  obtain ⟨hp, X, G⟩ := T.at_
  exact PySem.W.mg_of X G (of_decide_eq_true (T.extra i h))
theorem Tx.ktup (T : Tx fa fx fn fy K mg base) (i : Nat) {x : Str} {zs : List Str} (h : fx[i]? = some (.ktup x zs) := by rfl) : KTup K (He.ga K x) zs := ktup_ok (T.extra i h)
theorem Tx.cls (T : Tx fa fx fn fy K mg base) (i : Nat) {c : Str} (h : fa[i]? = some (.cls c) := by rfl) : Cls K (He.ga K c) := He.cls_ok (T.says.fact i h)
theorem def_of (c : obsX fa fx fn fy K = valX fn fy) (i : Nat) {d : He.DefD} (h : fn[i]? = some d := by rfl) : ∃ fd, FunD K d.name d.qual d.params d.body d.scope (d.dvs K) (d.kws K) (He.fAd K d.at_) fd :=
  (show He.SaysD fa fn K from congrArg (fun z : AlX => z.2.1) c).def_ i h
theorem glo_of (c : obsX fa fx fn fy K = valX fn fy) (at_ : ∃ h : Heap, K.In h ∧ h.Ns mainGlobals mg) (i : Nat) {x : Str} (h : fa[i]? = some (.glo x) := by rfl) : mg x = some (.ref (He.ga K x)) := by
  obtain ⟨hp, X, G⟩ := at_
  exact He.glo_ok X G ((show He.SaysD fa fn K from congrArg (fun z : AlX => z.2.1) c).fact i h)
theorem Tx.glo (T : Tx fa fx fn fy K mg base) (i : Nat) {x : Str} (h : fa[i]? = some (.glo x) := by rfl) : mg x = some (.ref (He.ga K x)) := by
  obtain ⟨hp, X, G⟩ := T.at_
  exact He.glo_ok X G (T.says.fact i h)
theorem Tx.free (T : Tx fa fx fn fy K mg base) (i : Nat) {x : Str} (h : fa[i]? = some (.free x) := by rfl) : mg x = none := by
  obtain ⟨hp, X, G⟩ := T.at_
  exact He.free_ok X G (T.says.fact i h)
theorem Tx.def_ (T : Tx fa fx fn fy K mg base) (i : Nat) {d : He.DefD} (h : fn[i]? = some d := by rfl) : ∃ fd, FunD K d.name d.qual d.params d.body d.scope (d.dvs K) (d.kws K) (He.fAd K d.at_) fd := T.says.def_ i h
theorem Tx.kp (T : Tx fa fx fn fy K mg base) (i : Nat) {d : He.DefD} (h : fn[i]? = some d := by rfl) : PySem.W.keepIn K (.ref (He.fAd K d.at_)) = true := by
  obtain ⟨fd, F⟩ := T.says.def_ i h
  exact F.kp
end
theorem cx_no {P : Program} {w : World} {l : List Env} {H : Hp} {s : Shared} {e : Value} {s' : Shared} (h : L2.CX P w l H s (fun _ _ _ => False) e s') : False := by
  obtain ⟨_, _, _, _, _, _, _, _, _, _, _, _, z⟩ := h
  exact z.elim
theorem rep_ints {K : PySem.W.Frag} {S : Addr → Prop} {H : Hp} : ∀ ns : List Int, RepL K S H (ns.map V.int) (ns.map D.int)
  | [] => .nil
  | n :: ns => .cons (.int n) (rep_ints ns)
theorem law_sp {K : PySem.W.Frag} {G : List D → R D} {m : Nat} (h : ∀ ns : List Int, ns.length ≤ m → G [.scr (ns.map .int)] = .ok (.bl true)) (H : Hp) (hT : ∀ p ∈ tabsK K, H p.2 = some (.tbl #[])) (a : Addr) (ns : List Int) (hl : ns.length ≤ m) (hS : SqL K H a (ns.map V.int)) :
    spD K 1 G [.ref a] H (fun v _ => v = .bl true) (fun _ _ _ => False) := by
  have fin : ∀ d, G [d] = .ok (.bl true) → Rep K (fun _ => False) H (.ref a) d → spD K 1 G [.ref a] H (fun v _ => v = .bl true) (fun _ _ _ => False) := fun d e r => by
    refine ⟨fun _ => False, [d], ⟨fun _ z => z.elim, fun p hp => LamX.TabS.nil (hT p hp)⟩, .cons r .nil, rfl, ?_⟩
    rw [e]
    intro v H' _ r'
    cases r' with
    | bl b => rfl
  rcases hS with (h1 | ⟨o, h1⟩) | h1
  · exact fin _ (h ns hl) (.sco h1 (fun z => z) (rep_ints ns))
  · exact fin _ (h ns hl) (.scr h1 (fun z => z) (rep_ints ns))
  · exact fin _ (h ns hl) (.scl h1 (rep_ints ns))
theorem walk_ofX {l : PySem.W.OpenLaw} {n k : Nat} {q : Program} {loose : List Str} {XP : (Str → Option Value) → Heap → Prop} {YP : World → Heap → Prop} {d : DefRec} {x : Str}
    (hn : l.most = some n) (hn2 : n ≤ sizeLine) (hdf : d.params.defaults = []) (hr : Room k callerA)
    (F : ∀ (w : World) (mg : Str → Option Value) (fa : Addr) (h : Heap), YP w h → h.Ns mainGlobals mg → mg d.name = some (.ref fa) →
      ∃ (K : PySem.W.Frag) (fd : FuncData) (sp : Sp), K.In h ∧ TabF K h ∧ (∀ (s : Shared) (u : Value), BindsTo s fd ⟨[u], []⟩ [(x, u)]) ∧
        (∀ (H : Hp) (a : Addr) (ns : List Int), ns.length ≤ n → (∀ p ∈ tabsK K, H p.2 = some (.tbl #[])) → SqL K H a (ns.map V.int) → sp [.ref a] H (fun v _ => v = .bl true) fun _ _ _ => False) ∧
        ∀ base : Heap, K.In base → base.Ns mainGlobals mg → (∀ p ∈ tabsK K, LamX.TabB base mg p.1 p.2) → FnOk l.prog w K mg base (L2.CX l.prog w) k fa fd [x] sp) :
    PySem.W.WalkO q loose XP YP l.row.toRowW d [] (fun f vs => PySem.call f vs) := by
  refine LamX.walk_ofTsE (x := x) (CX := fun w => L2.CX l.prog w) hn hn2 hdf hr (fun w mg fa h Y G hmg => ?_) fun w H s e s' z => cx_no z
  obtain ⟨K, fd, sp, KX, ht, hb, hsp, hF⟩ := F w mg fa h Y G hmg
  exact ⟨K, KX, fd, tabsK K, sp, fun p hp => (ht p hp).1, fun p hp => (ht p hp).2.2, fun p hp => (ht p hp).2.1, hb, fun H a ns hl _ hT hS => hsp H a ns hl hT hS, hF⟩
end DL

namespace LW
open PySem PySem.Spec PyProof.Rows L2 DL
def topS (i : Nat) : Stmt := PySem.Challenge.pw_unlookedlists_k06_errors.main.body.getD i (.Pass ⟨0, 0, 0, 0⟩)
abbrev s__law_draws : Stmt := topS 11
abbrev N__law_draws : List Str := ["_law_script", "_law_many", "_law_draws_here", "_law_k", "_law_cell", "_law_step", "_law_mixed"]
abbrev P__law_draws : List Str := ["_law_script", "_law_many"]
def dd__law_draws : He.DefD := ⟨("_law_draws", none), "_law_draws", "_law_draws", defArgs s__law_draws, defBody s__law_draws, defScope s__law_draws, [], []⟩
abbrev s__law_classes : Stmt := topS 12
abbrev N__law_classes : List Str := ["_law_error"]
abbrev P__law_classes : List Str := ["_law_error"]
def dd__law_classes : He.DefD := ⟨("_law_classes", none), "_law_classes", "_law_classes", defArgs s__law_classes, defBody s__law_classes, defScope s__law_classes, [], []⟩
abbrev s_law : Stmt := topS 13
abbrev N_law : List Str := ["_law_script", "_law_draws_here", "_law_number", "_law_letters", "_law_text", "_law_first", "_law_second", "_law_bad_text", "_law_too_large", "_law_mixed_name", "_law_missing_name", "_law_out_of_range", "_law_confused", "_law_no_such_size", "_law_bad_entry", "_law_errors", "_law_k", "_law_at", "_law_base"]
abbrev P_law : List Str := ["_law_script"]
def dd_law : He.DefD := ⟨("law", none), "law", "law", defArgs s_law, defBody s_law, defScope s_law, [], []⟩
def P : Program := PySem.Challenge.pw_unlookedlists_k06_errors
abbrev s_ex_BadText : Stmt := inCls (topS 2) 0
def dy_ex_BadText : DefY := ⟨"BadText", "__init__", "init", "__init__", "BadText.__init__", defArgs s_ex_BadText, defBody s_ex_BadText, defScope s_ex_BadText, ["place"], P.main.file, true⟩
abbrev s_ex_TooLarge : Stmt := inCls (topS 3) 0
def dy_ex_TooLarge : DefY := ⟨"TooLarge", "__init__", "init", "__init__", "TooLarge.__init__", defArgs s_ex_TooLarge, defBody s_ex_TooLarge, defScope s_ex_TooLarge, ["what"], P.main.file, true⟩
abbrev s_ex_MixedName : Stmt := inCls (topS 4) 0
def dy_ex_MixedName : DefY := ⟨"MixedName", "__init__", "init", "__init__", "MixedName.__init__", defArgs s_ex_MixedName, defBody s_ex_MixedName, defScope s_ex_MixedName, ["name"], P.main.file, true⟩
abbrev s_ex_MissingName : Stmt := inCls (topS 5) 0
def dy_ex_MissingName : DefY := ⟨"MissingName", "__init__", "init", "__init__", "MissingName.__init__", defArgs s_ex_MissingName, defBody s_ex_MissingName, defScope s_ex_MissingName, ["name"], P.main.file, true⟩
abbrev s_ex_OutOfRange : Stmt := inCls (topS 6) 0
def dy_ex_OutOfRange : DefY := ⟨"OutOfRange", "__init__", "init", "__init__", "OutOfRange.__init__", defArgs s_ex_OutOfRange, defBody s_ex_OutOfRange, defScope s_ex_OutOfRange, ["number"], P.main.file, true⟩
abbrev s_ex_Confused : Stmt := inCls (topS 7) 0
def dy_ex_Confused : DefY := ⟨"Confused", "__init__", "init", "__init__", "Confused.__init__", defArgs s_ex_Confused, defBody s_ex_Confused, defScope s_ex_Confused, ["first", "second"], P.main.file, true⟩
abbrev s_ex_NoSuchSize : Stmt := inCls (topS 8) 0
def dy_ex_NoSuchSize : DefY := ⟨"NoSuchSize", "__init__", "init", "__init__", "NoSuchSize.__init__", defArgs s_ex_NoSuchSize, defBody s_ex_NoSuchSize, defScope s_ex_NoSuchSize, ["size"], P.main.file, true⟩
abbrev s_ex_BadEntry : Stmt := inCls (topS 9) 0
def dy_ex_BadEntry : DefY := ⟨"BadEntry", "__init__", "init", "__init__", "BadEntry.__init__", defArgs s_ex_BadEntry, defBody s_ex_BadEntry, defScope s_ex_BadEntry, ["entry"], P.main.file, true⟩
def fa : List He.Fa := [.glo "law", .free "len", .free "min", .free "range", .free "abs", .free "int", .free "isinstance", .glo "BadEntry", .glo "NoSuchSize", .glo "Confused", .glo "OutOfRange", .glo "MissingName", .glo "MixedName", .glo "TooLarge", .glo "BadText", .glo "_law_draws", .free "super", .glo "ListError", .free "ValueError", .glo "_law_classes"]
def fx : List Fx := [.exk "TooLarge" "BadEntry" false, .exk "OutOfRange" "BadEntry" false, .exk "NoSuchSize" "BadEntry" false, .exk "MixedName" "BadEntry" false, .exk "MissingName" "BadEntry" false, .exk "ListError" "BadEntry" false, .exk "Confused" "BadEntry" false, .exk "BadText" "BadEntry" false, .exk "BadEntry" "BadEntry" true, .exk "TooLarge" "NoSuchSize" false, .exk "OutOfRange" "NoSuchSize" false, .exk "NoSuchSize" "NoSuchSize" true, .exk "MixedName" "NoSuchSize" false, .exk "MissingName" "NoSuchSize" false, .exk "ListError" "NoSuchSize" false, .exk "Confused" "NoSuchSize" false, .exk "BadText" "NoSuchSize" false, .exk "BadEntry" "NoSuchSize" false, .exk "TooLarge" "Confused" false, .exk "OutOfRange" "Confused" false, .exk "NoSuchSize" "Confused" false, .exk "MixedName" "Confused" false, .exk "MissingName" "Confused" false, .exk "ListError" "Confused" false, .exk "Confused" "Confused" true, .exk "BadText" "Confused" false, .exk "BadEntry" "Confused" false, .exk "TooLarge" "OutOfRange" false, .exk "OutOfRange" "OutOfRange" true, .exk "NoSuchSize" "OutOfRange" false, .exk "MixedName" "OutOfRange" false, .exk "MissingName" "OutOfRange" false, .exk "ListError" "OutOfRange" false, .exk "Confused" "OutOfRange" false, .exk "BadText" "OutOfRange" false, .exk "BadEntry" "OutOfRange" false, .exk "TooLarge" "MissingName" false, .exk "OutOfRange" "MissingName" false, .exk "NoSuchSize" "MissingName" false, .exk "MixedName" "MissingName" false, .exk "MissingName" "MissingName" true, .exk "ListError" "MissingName" false, .exk "Confused" "MissingName" false, .exk "BadText" "MissingName" false, .exk "BadEntry" "MissingName" false, .exk "TooLarge" "MixedName" false, .exk "OutOfRange" "MixedName" false, .exk "NoSuchSize" "MixedName" false, .exk "MixedName" "MixedName" true, .exk "MissingName" "MixedName" false, .exk "ListError" "MixedName" false, .exk "Confused" "MixedName" false, .exk "BadText" "MixedName" false, .exk "BadEntry" "MixedName" false, .exk "TooLarge" "TooLarge" true, .exk "OutOfRange" "TooLarge" false, .exk "NoSuchSize" "TooLarge" false, .exk "MixedName" "TooLarge" false, .exk "MissingName" "TooLarge" false, .exk "ListError" "TooLarge" false, .exk "Confused" "TooLarge" false, .exk "BadText" "TooLarge" false, .exk "BadEntry" "TooLarge" false, .exk "TooLarge" "BadText" false, .exk "OutOfRange" "BadText" false, .exk "NoSuchSize" "BadText" false, .exk "MixedName" "BadText" false, .exk "MissingName" "BadText" false, .exk "ListError" "BadText" false, .exk "Confused" "BadText" false, .exk "BadText" "BadText" true, .exk "BadEntry" "BadText" false, .xfa "BadText" "place", .xfa "TooLarge" "what", .xfa "MixedName" "name", .xfa "MissingName" "name", .xfa "OutOfRange" "number", .xfa "NoSuchSize" "size", .xfa "BadEntry" "entry", .xfa "Confused" "first", .xfa "Confused" "second", .exk "TooLarge" "ListError" true, .exk "OutOfRange" "ListError" true, .exk "NoSuchSize" "ListError" true, .exk "MixedName" "ListError" true, .exk "MissingName" "ListError" true, .exk "ListError" "ListError" true, .exk "Confused" "ListError" true, .exk "BadText" "ListError" true, .exk "BadEntry" "ListError" true, .exv "TooLarge" "ValueError" true, .exv "OutOfRange" "ValueError" true, .exv "NoSuchSize" "ValueError" true, .exv "MixedName" "ValueError" true, .exv "MissingName" "ValueError" true, .exv "ListError" "ValueError" true, .exv "Confused" "ValueError" true, .exv "BadText" "ValueError" true, .exv "BadEntry" "ValueError" true, .exz "ListError"]
def fn : List He.DefD := [dd__law_draws, dd__law_classes, dd_law]
def fy : List DefY := [dy_ex_BadText, dy_ex_TooLarge, dy_ex_MixedName, dy_ex_MissingName, dy_ex_OutOfRange, dy_ex_Confused, dy_ex_NoSuchSize, dy_ex_BadEntry]
abbrev TT (K : PySem.W.Frag) (mg : Str → Option Value) (base : Heap) : Prop := Tx fa fx fn fy K mg base
abbrev RR : PySem.W.OpenRow := PySem.W.OpenLaw.row PySem.Challenge.rw_unlookedlists_k06_errors
abbrev qv : Program := PySem.W.view RR.prog [13]
def loose : List PySem.Str := ([PySem.Str.ofString "__name__", PySem.Str.ofString "ListError", PySem.Str.ofString "BadText", PySem.Str.ofString "TooLarge", PySem.Str.ofString "MixedName", PySem.Str.ofString "MissingName", PySem.Str.ofString "OutOfRange", PySem.Str.ofString "Confused", PySem.Str.ofString "NoSuchSize", PySem.Str.ofString "BadEntry", PySem.Str.ofString "_law_draws", PySem.Str.ofString "_law_classes"] : List PySem.Str)
abbrev hk : PySem.W.Hook := hookX 5 fa fx fn fy
def ob (s : PySem.W.SharedT) : AlX := obsXG 5 fa fx fn fy (HandSHeadRun.getT s)
theorem ob_eq (s : PySem.W.SharedT) : ob s = hk.obs s.abs := obsXG_eq (HandSHeadRun.getT_eq s)
theorem run (w : World) : HandSHeadRun.RunEq RR qv hk ob 20000 loose w := by
  intro os
  kernel_rfl
def FactsT : Prop := ∀ {w : World} {K : PySem.W.Frag} {h : Heap} {mg : Str → Option Value} {f : Addr}, K.In h → TabF K h → h.Ns mainGlobals mg → mg ("law" : Str) = some (.ref f) → obsX fa fx fn fy K = valX fn fy →
    ∃ (K : PySem.W.Frag) (fd : FuncData) (sp : Sp), K.In h ∧ TabF K h ∧ (∀ (s : Shared) (u : Value), BindsTo s fd ⟨[u], []⟩ [(("_law_script" : Str), u)]) ∧
      (∀ (H : Hp) (a : Addr) (ns : List Int), ns.length ≤ 63 → (∀ p ∈ tabsK K, H p.2 = some (.tbl #[])) → SqL K H a (ns.map V.int) → sp [.ref a] H (fun v _ => v = .bl true) fun _ _ _ => False) ∧
      ∀ base : Heap, K.In base → base.Ns mainGlobals mg → (∀ p ∈ tabsK K, LamX.TabB base mg p.1 p.2) → FnOk PySem.Challenge.pw_unlookedlists_k06_errors w K mg base (L2.CX PySem.Challenge.pw_unlookedlists_k06_errors w) 3 f fd ["_law_script"] sp
end LW
section
open PySem PySem.W PySem.Calls PyProof.Rows
set_option maxRecDepth 100000 in
set_option maxHeartbeats 0 in
theorem LW.early (LWF : LW.FactsT) : PySem.Challenge.rw_unlookedlists_k06_errors.Holds := by
  w_on; o_law
  refine HandSHeadRun.head_any (r := OpenLaw.row PySem.Challenge.rw_unlookedlists_k06_errors) (q := LW.qv) (H := LW.hk) (ob := LW.ob) (M := 20000) (loose := LW.loose) (d := HandSHeadRun.topDef (OpenLaw.row PySem.Challenge.rw_unlookedlists_k06_errors).prog 13) (kwd := []) LW.ob_eq
    (by kernel_rfl) (fun s => by kernel_rfl) LW.run (by kernel_rfl) (by kernel_rfl) (by kernel_rfl) (by rfl) (by first | assumption | decide +kernel) (by decide +kernel) ⟨rfl, rfl, rfl, rfl, rfl, by decide +kernel⟩ ?hw ?hc
  case hw => w_witness2
  case hc =>
    refine DL.walk_ofX (l := PySem.Challenge.rw_unlookedlists_k06_errors) (n := 63) (k := 3) (x := "_law_script") rfl (by decide) (by kernel_rfl) ⟨rfl, by decide, by decide⟩ ?F
    intro w mg fa h Y G hmg0
    obtain ⟨K, KX, c, TF⟩ := Y
    have hmg : mg ("law" : PySem.Str) = some (.ref fa) := by
      have e : (HandSHeadRun.topDef (OpenLaw.row PySem.Challenge.rw_unlookedlists_k06_errors).prog 13).name = ("law" : PySem.Str) := by kernel_rfl
      rw [← e]
      exact hmg0
    exact LWF KX TF G hmg c
end
namespace LW
open PySem PySem.Spec PyProof.Rows L2 DL
theorem sc__law_draws : FnScope N__law_draws P__law_draws (defScope s__law_draws) := ⟨rfl, rfl, rfl, by decide +kernel, rfl, by decide +kernel, by decide +kernel⟩
theorem sc__law_classes : FnScope N__law_classes P__law_classes (defScope s__law_classes) := ⟨rfl, rfl, rfl, by decide +kernel, rfl, by decide +kernel, by decide +kernel⟩
theorem sc_law : FnScope N_law P_law (defScope s_law) := ⟨rfl, rfl, rfl, by decide +kernel, rfl, by decide +kernel, by decide +kernel⟩
noncomputable section
variable {w : World} {K : PySem.W.Frag} {mg : Str → Option Value} {base : Heap}
theorem ex_BadText (T : TT K mg base) : ExOk P w K mg base "BadText" "self" ["place"] := by
  obtain ⟨cc, c, I, h1, h2, h3⟩ := T.exc P 0 (d := dy_ex_BadText) rfl rfl rfl (by kernel_rfl)
  obtain ⟨fd, Fo, oc, od, osl, doc, pm, ctv, rfl, lk⟩ := init_one (k := 0) (w := w) (mg := mg) (base := base) (CX := L2.CX P w) rfl I ⟨(show NdefX.NScope _ _ _ dy_ex_BadText.scope from NdefX.nscope_by (by decide +kernel)), (show List.lookup _ dy_ex_BadText.scope.names = _ from by decide +kernel), ⟨_, rfl, rfl⟩, fun _ _ => rfl, fun _ _ => rfl, fun _ _ => ⟨_, rfl⟩, fun _ _ => rfl⟩ (T.free 16) (h3 "place" (by simp [dy_ex_BadText])) (fun _ _ => rfl) (by decide) (by decide) (by decide) (by decide)
  exact ⟨⟨_, Fo, Binds.all fun us hl => match us, hl with | [_, _], _ => rfl⟩, I.oex, h1, h2⟩
theorem ex_TooLarge (T : TT K mg base) : ExOk P w K mg base "TooLarge" "self" ["what"] := by
  obtain ⟨cc, c, I, h1, h2, h3⟩ := T.exc P 1 (d := dy_ex_TooLarge) rfl rfl rfl (by kernel_rfl)
  obtain ⟨fd, Fo, oc, od, osl, doc, pm, ctv, rfl, lk⟩ := init_one (k := 0) (w := w) (mg := mg) (base := base) (CX := L2.CX P w) rfl I ⟨(show NdefX.NScope _ _ _ dy_ex_TooLarge.scope from NdefX.nscope_by (by decide +kernel)), (show List.lookup _ dy_ex_TooLarge.scope.names = _ from by decide +kernel), ⟨_, rfl, rfl⟩, fun _ _ => rfl, fun _ _ => rfl, fun _ _ => ⟨_, rfl⟩, fun _ _ => rfl⟩ (T.free 16) (h3 "what" (by simp [dy_ex_TooLarge])) (fun _ _ => rfl) (by decide) (by decide) (by decide) (by decide)
  exact ⟨⟨_, Fo, Binds.all fun us hl => match us, hl with | [_, _], _ => rfl⟩, I.oex, h1, h2⟩
theorem ex_MixedName (T : TT K mg base) : ExOk P w K mg base "MixedName" "self" ["name"] := by
  obtain ⟨cc, c, I, h1, h2, h3⟩ := T.exc P 2 (d := dy_ex_MixedName) rfl rfl rfl (by kernel_rfl)
  obtain ⟨fd, Fo, oc, od, osl, doc, pm, ctv, rfl, lk⟩ := init_one (k := 0) (w := w) (mg := mg) (base := base) (CX := L2.CX P w) rfl I ⟨(show NdefX.NScope _ _ _ dy_ex_MixedName.scope from NdefX.nscope_by (by decide +kernel)), (show List.lookup _ dy_ex_MixedName.scope.names = _ from by decide +kernel), ⟨_, rfl, rfl⟩, fun _ _ => rfl, fun _ _ => rfl, fun _ _ => ⟨_, rfl⟩, fun _ _ => rfl⟩ (T.free 16) (h3 "name" (by simp [dy_ex_MixedName])) (fun _ _ => rfl) (by decide) (by decide) (by decide) (by decide)
  exact ⟨⟨_, Fo, Binds.all fun us hl => match us, hl with | [_, _], _ => rfl⟩, I.oex, h1, h2⟩
theorem ex_MissingName (T : TT K mg base) : ExOk P w K mg base "MissingName" "self" ["name"] := by
  obtain ⟨cc, c, I, h1, h2, h3⟩ := T.exc P 3 (d := dy_ex_MissingName) rfl rfl rfl (by kernel_rfl)
  obtain ⟨fd, Fo, oc, od, osl, doc, pm, ctv, rfl, lk⟩ := init_one (k := 0) (w := w) (mg := mg) (base := base) (CX := L2.CX P w) rfl I ⟨(show NdefX.NScope _ _ _ dy_ex_MissingName.scope from NdefX.nscope_by (by decide +kernel)), (show List.lookup _ dy_ex_MissingName.scope.names = _ from by decide +kernel), ⟨_, rfl, rfl⟩, fun _ _ => rfl, fun _ _ => rfl, fun _ _ => ⟨_, rfl⟩, fun _ _ => rfl⟩ (T.free 16) (h3 "name" (by simp [dy_ex_MissingName])) (fun _ _ => rfl) (by decide) (by decide) (by decide) (by decide)
  exact ⟨⟨_, Fo, Binds.all fun us hl => match us, hl with | [_, _], _ => rfl⟩, I.oex, h1, h2⟩
theorem ex_OutOfRange (T : TT K mg base) : ExOk P w K mg base "OutOfRange" "self" ["number"] := by
  obtain ⟨cc, c, I, h1, h2, h3⟩ := T.exc P 4 (d := dy_ex_OutOfRange) rfl rfl rfl (by kernel_rfl)
  obtain ⟨fd, Fo, oc, od, osl, doc, pm, ctv, rfl, lk⟩ := init_one (k := 0) (w := w) (mg := mg) (base := base) (CX := L2.CX P w) rfl I ⟨(show NdefX.NScope _ _ _ dy_ex_OutOfRange.scope from NdefX.nscope_by (by decide +kernel)), (show List.lookup _ dy_ex_OutOfRange.scope.names = _ from by decide +kernel), ⟨_, rfl, rfl⟩, fun _ _ => rfl, fun _ _ => rfl, fun _ _ => ⟨_, rfl⟩, fun _ _ => rfl⟩ (T.free 16) (h3 "number" (by simp [dy_ex_OutOfRange])) (fun _ _ => rfl) (by decide) (by decide) (by decide) (by decide)
  exact ⟨⟨_, Fo, Binds.all fun us hl => match us, hl with | [_, _], _ => rfl⟩, I.oex, h1, h2⟩
theorem ex_Confused (T : TT K mg base) : ExOk P w K mg base "Confused" "self" ["first", "second"] := by
  obtain ⟨cc, c, I, h1, h2, h3⟩ := T.exc P 5 (d := dy_ex_Confused) rfl rfl rfl (by kernel_rfl)
  obtain ⟨fd, Fo, oc, od, osl, doc, pm, ctv, rfl, lk⟩ := init_two (k := 0) (w := w) (mg := mg) (base := base) (CX := L2.CX P w) rfl I ⟨(show NdefX.NScope _ _ _ dy_ex_Confused.scope from NdefX.nscope_by (by decide +kernel)), (show List.lookup _ dy_ex_Confused.scope.names = _ from by decide +kernel), ⟨_, rfl, rfl⟩, fun _ _ => rfl, fun _ _ => rfl, fun _ _ => ⟨_, rfl⟩, fun _ _ => rfl⟩ (T.free 16) (h3 "first" (by simp [dy_ex_Confused])) (h3 "second" (by simp [dy_ex_Confused])) (fun _ _ => rfl) (fun _ _ => rfl) (by decide) (by decide) (by decide) (by decide) (by decide) (by decide)
  exact ⟨⟨_, Fo, Binds.all fun us hl => match us, hl with | [_, _, _], _ => rfl⟩, I.oex, h1, h2⟩
theorem ex_NoSuchSize (T : TT K mg base) : ExOk P w K mg base "NoSuchSize" "self" ["size"] := by
  obtain ⟨cc, c, I, h1, h2, h3⟩ := T.exc P 6 (d := dy_ex_NoSuchSize) rfl rfl rfl (by kernel_rfl)
  obtain ⟨fd, Fo, oc, od, osl, doc, pm, ctv, rfl, lk⟩ := init_one (k := 0) (w := w) (mg := mg) (base := base) (CX := L2.CX P w) rfl I ⟨(show NdefX.NScope _ _ _ dy_ex_NoSuchSize.scope from NdefX.nscope_by (by decide +kernel)), (show List.lookup _ dy_ex_NoSuchSize.scope.names = _ from by decide +kernel), ⟨_, rfl, rfl⟩, fun _ _ => rfl, fun _ _ => rfl, fun _ _ => ⟨_, rfl⟩, fun _ _ => rfl⟩ (T.free 16) (h3 "size" (by simp [dy_ex_NoSuchSize])) (fun _ _ => rfl) (by decide) (by decide) (by decide) (by decide)
  exact ⟨⟨_, Fo, Binds.all fun us hl => match us, hl with | [_, _], _ => rfl⟩, I.oex, h1, h2⟩
theorem ex_BadEntry (T : TT K mg base) : ExOk P w K mg base "BadEntry" "self" ["entry"] := by
  obtain ⟨cc, c, I, h1, h2, h3⟩ := T.exc P 7 (d := dy_ex_BadEntry) rfl rfl rfl (by kernel_rfl)
  obtain ⟨fd, Fo, oc, od, osl, doc, pm, ctv, rfl, lk⟩ := init_one (k := 0) (w := w) (mg := mg) (base := base) (CX := L2.CX P w) rfl I ⟨(show NdefX.NScope _ _ _ dy_ex_BadEntry.scope from NdefX.nscope_by (by decide +kernel)), (show List.lookup _ dy_ex_BadEntry.scope.names = _ from by decide +kernel), ⟨_, rfl, rfl⟩, fun _ _ => rfl, fun _ _ => rfl, fun _ _ => ⟨_, rfl⟩, fun _ _ => rfl⟩ (T.free 16) (h3 "entry" (by simp [dy_ex_BadEntry])) (fun _ _ => rfl) (by decide) (by decide) (by decide) (by decide)
  exact ⟨⟨_, Fo, Binds.all fun us hl => match us, hl with | [_, _], _ => rfl⟩, I.oex, h1, h2⟩
def l1__law_draws : FS := (fSeq (fIfS (fTest (fB dGt (fVar 4) (fC (.int 0)))) (fApp 2 (fB dMod (fL dIntS (fCons (fVar 4) fNil)) (fC (.int 1000000)))) fSkip) (fSet 4 (fB dFdiv (fVar 4) (fC (.int 1000000)))))
def l2__law_draws : FS := (fSeq (fSet 4 (fL dAbs (fCons (fB dIx (fVar 0) (fVar 3)) fNil))) (fIfS (fTest (fB dGe (fVar 4) (fB dPow (fC (.int 10)) (fC (.int 18))))) (fFor (fRange (fCons (fC (.int 20)) fNil)) (pName 5) l1__law_draws) (fSeq (fSet 6 (fB dMod (fL dIntS (fCons (fB dAdd (fB dAdd (fB dMul (fVar 4) (fC (.int 48271))) (fB dMul (fVar 3) (fC (.int 7919)))) (fC (.int 1))) fNil)) (fC (.int 2147483647)))) (fApp 2 (fB dMod (fL dIntS (fCons (fB dMod (fL dIntS (fCons (fB dMul (fVar 6) (fVar 6)) fNil)) (fC (.int 2147483629))) fNil)) (fC (.int 1000000)))))))
def b__law_draws : FS := (fSeq (fNew 2 fNil) (fSeq (fFor (fRange (fCons (fL dMin2 (fCons (fL dLen (fCons (fVar 0) fNil)) (fCons (fC (.int 63)) fNil))) fNil)) (pName 3) l2__law_draws) (fFrz 2 (fRet (fSl (fB dAdd (fVar 2) (fB dMul (fLst (fCons (fC (.int 0)) fNil)) (fVar 1))) fNo (fSome (fVar 1)))))))
def m__law_draws : List D → R D := runD 7 b__law_draws
theorem ok__law_draws (T : TT K mg base) : FnG P w K mg base 1 (He.ga K "_law_draws") 2 m__law_draws := by
  obtain ⟨fd, Fd⟩ := T.def_ 0 (d := dd__law_draws) rfl
  exact fng_of (N := N__law_draws) Fd sc__law_draws (FunD.bindsN Fd fun _ _ _ _ _ _ us hl => match us, hl with | [_, _], _ => rfl) (fun cdv A outer s e0 H E B tk => (dss_cons (ds_new (i := 2) sc__law_draws.nd rfl (by first | exact .inl rfl | exact .inr rfl) da_nil) (dss_cons (ds_for B.own B.calm (di_range1 rfl (T.free 3) (da_cons (de_callB (cd_min2 B.calm) rfl (T.free 2) (by decide +kernel) (da_cons (de_callB cd_len rfl (T.free 1) (by decide +kernel) (da_cons (de_var 0) da_nil)) (da_cons de_int da_nil))) da_nil)) (dg_name 3 sc__law_draws.nd rfl (by first | exact .inl rfl | exact .inr rfl)) (dss_cons (ds_set (i := 4) sc__law_draws.nd rfl (by first | exact .inl rfl | exact .inr rfl) (de_callB cd_abs rfl (T.free 4) (by decide +kernel) (da_cons (de_ix (ixd_all B.hu) (de_var 0) (de_var 3) (fun _ _ => rfl)) da_nil))) (dss_one (ds_if (db_cmp opd_ge (de_var 4) (de_op opd_pow de_int de_int) (nomark _)) (dss_one (ds_for B.own B.calm (di_range1 rfl (T.free 3) (da_cons de_int da_nil)) (dg_name 5 sc__law_draws.nd rfl (by first | exact .inl rfl | exact .inr rfl)) (dss_cons (ds_if (db_cmp opd_gt (de_var 4) de_int (nomark _)) (dss_one (ds_app (i := 2) (fun _ h => pe_bm PySem.F.plainAttrs_list PySem.F.slot_list_append PySem.F.type_list_append mt_append (pv 2) h) (de_op opd_mod (de_callTy cd_intS rfl (T.free 5) (by decide +kernel) (da_cons (de_var 4) da_nil)) de_int))) dss_nil) (dss_one (ds_set (i := 4) sc__law_draws.nd rfl (by first | exact .inl rfl | exact .inr rfl) (de_op opd_fdiv (de_var 4) de_int)))))) (dss_cons (ds_set (i := 6) sc__law_draws.nd rfl (by first | exact .inl rfl | exact .inr rfl) (de_op opd_mod (de_callTy cd_intS rfl (T.free 5) (by decide +kernel) (da_cons (de_op opd_add (de_op opd_add (de_op opd_mul (de_var 4) de_int) (de_op opd_mul (de_var 3) de_int)) de_int) da_nil)) de_int)) (dss_one (ds_app (i := 2) (fun _ h => pe_bm PySem.F.plainAttrs_list PySem.F.slot_list_append PySem.F.type_list_append mt_append (pv 2) h) (de_op opd_mod (de_callTy cd_intS rfl (T.free 5) (by decide +kernel) (da_cons (de_op opd_mod (de_callTy cd_intS rfl (T.free 5) (by decide +kernel) (da_cons (de_op opd_mul (de_var 6) (de_var 6)) da_nil)) de_int) da_nil)) de_int)))))))) (dss_frz 2 (dss_one (ds_ret (de_slice (de_op opd_add (de_var 2) (de_op opd_mul (de_lst (da_cons de_int da_nil)) (de_var 1))) do_no (do_some (de_var 1)))))))))
def b__law_classes : FS := (fRet (fLst (fCons (fU (dIsX ([("BadEntry", false), ("BadText", true), ("Confused", false), ("ListError", false), ("MissingName", false), ("MixedName", false), ("NoSuchSize", false), ("OutOfRange", false), ("TooLarge", false)] : XT)) (fVar 0)) (fCons (fU (dIsX ([("BadEntry", false), ("BadText", false), ("Confused", false), ("ListError", false), ("MissingName", false), ("MixedName", false), ("NoSuchSize", false), ("OutOfRange", false), ("TooLarge", true)] : XT)) (fVar 0)) (fCons (fU (dIsX ([("BadEntry", false), ("BadText", false), ("Confused", false), ("ListError", false), ("MissingName", false), ("MixedName", true), ("NoSuchSize", false), ("OutOfRange", false), ("TooLarge", false)] : XT)) (fVar 0)) (fCons (fU (dIsX ([("BadEntry", false), ("BadText", false), ("Confused", false), ("ListError", false), ("MissingName", true), ("MixedName", false), ("NoSuchSize", false), ("OutOfRange", false), ("TooLarge", false)] : XT)) (fVar 0)) (fCons (fU (dIsX ([("BadEntry", false), ("BadText", false), ("Confused", false), ("ListError", false), ("MissingName", false), ("MixedName", false), ("NoSuchSize", false), ("OutOfRange", true), ("TooLarge", false)] : XT)) (fVar 0)) (fCons (fU (dIsX ([("BadEntry", false), ("BadText", false), ("Confused", true), ("ListError", false), ("MissingName", false), ("MixedName", false), ("NoSuchSize", false), ("OutOfRange", false), ("TooLarge", false)] : XT)) (fVar 0)) (fCons (fU (dIsX ([("BadEntry", false), ("BadText", false), ("Confused", false), ("ListError", false), ("MissingName", false), ("MixedName", false), ("NoSuchSize", true), ("OutOfRange", false), ("TooLarge", false)] : XT)) (fVar 0)) (fCons (fU (dIsX ([("BadEntry", true), ("BadText", false), ("Confused", false), ("ListError", false), ("MissingName", false), ("MixedName", false), ("NoSuchSize", false), ("OutOfRange", false), ("TooLarge", false)] : XT)) (fVar 0)) fNil))))))))))
def m__law_classes : List D → R D := runD 1 b__law_classes
theorem ok__law_classes (T : TT K mg base) : FnG P w K mg base 1 (He.ga K "_law_classes") 1 m__law_classes := by
  obtain ⟨fd, Fd⟩ := T.def_ 1 (d := dd__law_classes) rfl
  exact fng_of (N := N__law_classes) Fd sc__law_classes (FunD.bindsN Fd fun _ _ _ _ _ _ us hl => match us, hl with | [_], _ => rfl) (fun cdv A outer s e0 H E B tk => (dss_one (ds_ret (de_lst (da_cons (de_isX (c := "BadText") (xk_cons (T.exk 71) (xk_cons (T.exk 70) (xk_cons (T.exk 69) (xk_cons (T.exk 68) (xk_cons (T.exk 67) (xk_cons (T.exk 66) (xk_cons (T.exk 65) (xk_cons (T.exk 64) (xk_cons (T.exk 63) xk_nil))))))))) rfl (T.free 6) rfl (T.glo 14) (de_var 0)) (da_cons (de_isX (c := "TooLarge") (xk_cons (T.exk 62) (xk_cons (T.exk 61) (xk_cons (T.exk 60) (xk_cons (T.exk 59) (xk_cons (T.exk 58) (xk_cons (T.exk 57) (xk_cons (T.exk 56) (xk_cons (T.exk 55) (xk_cons (T.exk 54) xk_nil))))))))) rfl (T.free 6) rfl (T.glo 13) (de_var 0)) (da_cons (de_isX (c := "MixedName") (xk_cons (T.exk 53) (xk_cons (T.exk 52) (xk_cons (T.exk 51) (xk_cons (T.exk 50) (xk_cons (T.exk 49) (xk_cons (T.exk 48) (xk_cons (T.exk 47) (xk_cons (T.exk 46) (xk_cons (T.exk 45) xk_nil))))))))) rfl (T.free 6) rfl (T.glo 12) (de_var 0)) (da_cons (de_isX (c := "MissingName") (xk_cons (T.exk 44) (xk_cons (T.exk 43) (xk_cons (T.exk 42) (xk_cons (T.exk 41) (xk_cons (T.exk 40) (xk_cons (T.exk 39) (xk_cons (T.exk 38) (xk_cons (T.exk 37) (xk_cons (T.exk 36) xk_nil))))))))) rfl (T.free 6) rfl (T.glo 11) (de_var 0)) (da_cons (de_isX (c := "OutOfRange") (xk_cons (T.exk 35) (xk_cons (T.exk 34) (xk_cons (T.exk 33) (xk_cons (T.exk 32) (xk_cons (T.exk 31) (xk_cons (T.exk 30) (xk_cons (T.exk 29) (xk_cons (T.exk 28) (xk_cons (T.exk 27) xk_nil))))))))) rfl (T.free 6) rfl (T.glo 10) (de_var 0)) (da_cons (de_isX (c := "Confused") (xk_cons (T.exk 26) (xk_cons (T.exk 25) (xk_cons (T.exk 24) (xk_cons (T.exk 23) (xk_cons (T.exk 22) (xk_cons (T.exk 21) (xk_cons (T.exk 20) (xk_cons (T.exk 19) (xk_cons (T.exk 18) xk_nil))))))))) rfl (T.free 6) rfl (T.glo 9) (de_var 0)) (da_cons (de_isX (c := "NoSuchSize") (xk_cons (T.exk 17) (xk_cons (T.exk 16) (xk_cons (T.exk 15) (xk_cons (T.exk 14) (xk_cons (T.exk 13) (xk_cons (T.exk 12) (xk_cons (T.exk 11) (xk_cons (T.exk 10) (xk_cons (T.exk 9) xk_nil))))))))) rfl (T.free 6) rfl (T.glo 8) (de_var 0)) (da_cons (de_isX (c := "BadEntry") (xk_cons (T.exk 8) (xk_cons (T.exk 7) (xk_cons (T.exk 6) (xk_cons (T.exk 5) (xk_cons (T.exk 4) (xk_cons (T.exk 3) (xk_cons (T.exk 2) (xk_cons (T.exk 1) (xk_cons (T.exk 0) xk_nil))))))))) rfl (T.free 6) rfl (T.glo 7) (de_var 0)) da_nil))))))))))))
def l1_law : FS := (fSeq (fIfS (fOrB (fNotB (fTest (fU (dIsX ([("BadEntry", true), ("BadText", true), ("Confused", true), ("ListError", true), ("MissingName", true), ("MixedName", true), ("NoSuchSize", true), ("OutOfRange", true), ("TooLarge", true)] : XT)) (fB dIx (fVar 15) (fVar 16))))) (fNotB (fTest (fU (dIsX ([("BadEntry", true), ("BadText", true), ("Confused", true), ("ListError", true), ("MissingName", true), ("MixedName", true), ("NoSuchSize", true), ("OutOfRange", true), ("TooLarge", true)] : XT)) (fB dIx (fVar 15) (fVar 16)))))) (fRet (fC (.bl false))) fSkip) (fIfS (fTest (fB dNe (fCall m__law_classes (fCons (fB dIx (fVar 15) (fVar 16)) fNil)) (fLc (fRange (fCons (fC (.int 8)) fNil)) 17 fYes (fB dEq (fVar 17) (fVar 16))))) (fRet (fC (.bl false))) fSkip))
def b_law : FS := (fSeq (fSet 1 (fCall m__law_draws (fCons (fVar 0) (fCons (fC (.int 4)) fNil)))) (fSeq (fSet 2 (fB dAdd (fB dMul (fB dAdd (fB dMul (fB dIx (fVar 1) (fC (.int 0))) (fC (.int 1000000))) (fB dIx (fVar 1) (fC (.int 1)))) (fC (.int 1000000))) (fB dIx (fVar 1) (fC (.int 2))))) (fSeq (fSet 3 (fC (.str "abcdefghijklmnopqrstuvwxyz"))) (fSeq (fSet 4 (fB dAdd (fB dIx (fVar 3) (fB dMod (fL dIntS (fCons (fB dIx (fVar 1) (fC (.int 3))) fNil)) (fC (.int 26)))) (fB dIx (fVar 3) (fB dMod (fL dIntS (fCons (fB dFdiv (fB dIx (fVar 1) (fC (.int 3))) (fC (.int 26))) fNil)) (fC (.int 26)))))) (fSeq (fSet 5 (fLst (fCons (fVar 2) fNil))) (fSeq (fSet 6 (fLst (fCons (fVar 2) (fCons (fB dIx (fVar 1) (fC (.int 3))) fNil)))) (fSeq (fSet 7 (fMakeX "BadText" (fCons (fVar 2) fNil))) (fSeq (fSet 8 (fMakeX "TooLarge" (fCons (fVar 4) fNil))) (fSeq (fSet 9 (fMakeX "MixedName" (fCons (fVar 4) fNil))) (fSeq (fSet 10 (fMakeX "MissingName" (fCons (fVar 4) fNil))) (fSeq (fSet 11 (fMakeX "OutOfRange" (fCons (fB dSub (fC (.int 0)) (fVar 2)) fNil))) (fSeq (fSet 12 (fMakeX "Confused" (fCons (fVar 5) (fCons (fVar 6) fNil)))) (fSeq (fSet 13 (fMakeX "NoSuchSize" (fCons (fVar 2) fNil))) (fSeq (fSet 14 (fMakeX "BadEntry" (fCons (fVar 6) fNil))) (fSeq (fIfS (fOrB (fTest (fB dNe (fU (dXf "BadText" "place") (fVar 7)) (fVar 2))) (fOrB (fTest (fB dNe (fU (dXf "TooLarge" "what") (fVar 8)) (fVar 4))) (fOrB (fTest (fB dNe (fU (dXf "MixedName" "name") (fVar 9)) (fVar 4))) (fTest (fB dNe (fU (dXf "MissingName" "name") (fVar 10)) (fVar 4)))))) (fRet (fC (.bl false))) fSkip) (fSeq (fIfS (fOrB (fTest (fB dNe (fU (dXf "OutOfRange" "number") (fVar 11)) (fB dSub (fC (.int 0)) (fVar 2)))) (fOrB (fTest (fB dNe (fU (dXf "NoSuchSize" "size") (fVar 13)) (fVar 2))) (fTest (fB dNe (fU (dXf "BadEntry" "entry") (fVar 14)) (fVar 6))))) (fRet (fC (.bl false))) fSkip) (fSeq (fIfS (fOrB (fTest (fB dNe (fU (dXf "Confused" "first") (fVar 12)) (fVar 5))) (fTest (fB dNe (fU (dXf "Confused" "second") (fVar 12)) (fVar 6)))) (fRet (fC (.bl false))) fSkip) (fSeq (fSet 15 (fLst (fCons (fVar 7) (fCons (fVar 8) (fCons (fVar 9) (fCons (fVar 10) (fCons (fVar 11) (fCons (fVar 12) (fCons (fVar 13) (fCons (fVar 14) fNil)))))))))) (fSeq (fFor (fRange (fCons (fC (.int 8)) fNil)) (pName 16) l1_law) (fSeq (fSet 18 (fMakeX0 "ListError" (fC (.str "base")))) (fRet (fAnd (fU (dIsX ([("BadEntry", true), ("BadText", true), ("Confused", true), ("ListError", true), ("MissingName", true), ("MixedName", true), ("NoSuchSize", true), ("OutOfRange", true), ("TooLarge", true)] : XT)) (fVar 18)) (fB dEq (fCall m__law_classes (fCons (fVar 18) fNil)) (fLc (fRange (fCons (fC (.int 8)) fNil)) 17 fYes (fC (.bl false))))))))))))))))))))))))))
def m_law : List D → R D := runD 19 b_law
theorem ok_law (T0 : obsX fa fx fn fy K = valX fn fy) (T1 : ∃ h : Heap, K.In h ∧ h.Ns mainGlobals mg) : ∃ fd : FuncData, (∀ (s : Shared) (v : Value), BindsTo s fd ⟨[v], []⟩ [("_law_script", v)]) ∧ ∀ base : Heap, (∀ p ∈ tabsK K, LamX.TabB base mg p.1 p.2) → FnOk P w K mg base (L2.CX P w) 3 (He.ga K "law") fd P_law (spD K 1 m_law) := by
  obtain ⟨fd, Fd⟩ := def_of T0 2 (d := dd_law) rfl
  have b := FunD.bindsA (ps := P_law) Fd fun _ _ _ _ _ _ us hl => match us, hl with | [_], _ => rfl
  refine ⟨fd, fun s v => b s [v] rfl, fun base tb => ?_⟩
  have T : TT K mg base := ⟨T0, tb, T1⟩
  exact fnok_of (N := N_law) Fd sc_law (fun cdv A outer s e0 H E B tk => (dss_cons (ds_set (i := 1) sc_law.nd rfl (by first | exact .inl rfl | exact .inr rfl) (de_call ((ok__law_draws T).mono (by decide)) B rfl (T.glo 15) (T.kp 0 (d := dd__law_draws)) (da_cons (de_var 0) (da_cons de_int da_nil)))) (dss_cons (ds_set (i := 2) sc_law.nd rfl (by first | exact .inl rfl | exact .inr rfl) (de_op opd_add (de_op opd_mul (de_op opd_add (de_op opd_mul (de_ix (ixd_all B.hu) (de_var 1) de_int (fun _ _ => rfl)) de_int) (de_ix (ixd_all B.hu) (de_var 1) de_int (fun _ _ => rfl))) de_int) (de_ix (ixd_all B.hu) (de_var 1) de_int (fun _ _ => rfl)))) (dss_cons (ds_set (i := 3) sc_law.nd rfl (by first | exact .inl rfl | exact .inr rfl) de_str) (dss_cons (ds_set (i := 4) sc_law.nd rfl (by first | exact .inl rfl | exact .inr rfl) (de_op opd_add (de_ix (ixd_all B.hu) (de_var 3) (de_op opd_mod (de_callTy cd_intS rfl (T.free 5) (by decide +kernel) (da_cons (de_ix (ixd_all B.hu) (de_var 1) de_int (fun _ _ => rfl)) da_nil)) de_int) (fun _ _ => rfl)) (de_ix (ixd_all B.hu) (de_var 3) (de_op opd_mod (de_callTy cd_intS rfl (T.free 5) (by decide +kernel) (da_cons (de_op opd_fdiv (de_ix (ixd_all B.hu) (de_var 1) de_int (fun _ _ => rfl)) de_int) da_nil)) de_int) (fun _ _ => rfl)))) (dss_cons (ds_set (i := 5) sc_law.nd rfl (by first | exact .inl rfl | exact .inr rfl) (de_lst (da_cons (de_var 2) da_nil))) (dss_cons (ds_set (i := 6) sc_law.nd rfl (by first | exact .inl rfl | exact .inr rfl) (de_lst (da_cons (de_var 2) (da_cons (de_ix (ixd_all B.hu) (de_var 1) de_int (fun _ _ => rfl)) da_nil)))) (dss_cons (ds_set (i := 7) sc_law.nd rfl (by first | exact .inl rfl | exact .inr rfl) (de_makeX (fs := ["place"]) rfl (by decide +kernel) (by decide) (ex_BadText T) (B.room.mono (by decide)) rfl (T.glo 14) (da_cons (de_var 2) da_nil))) (dss_cons (ds_set (i := 8) sc_law.nd rfl (by first | exact .inl rfl | exact .inr rfl) (de_makeX (fs := ["what"]) rfl (by decide +kernel) (by decide) (ex_TooLarge T) (B.room.mono (by decide)) rfl (T.glo 13) (da_cons (de_var 4) da_nil))) (dss_cons (ds_set (i := 9) sc_law.nd rfl (by first | exact .inl rfl | exact .inr rfl) (de_makeX (fs := ["name"]) rfl (by decide +kernel) (by decide) (ex_MixedName T) (B.room.mono (by decide)) rfl (T.glo 12) (da_cons (de_var 4) da_nil))) (dss_cons (ds_set (i := 10) sc_law.nd rfl (by first | exact .inl rfl | exact .inr rfl) (de_makeX (fs := ["name"]) rfl (by decide +kernel) (by decide) (ex_MissingName T) (B.room.mono (by decide)) rfl (T.glo 11) (da_cons (de_var 4) da_nil))) (dss_cons (ds_set (i := 11) sc_law.nd rfl (by first | exact .inl rfl | exact .inr rfl) (de_makeX (fs := ["number"]) rfl (by decide +kernel) (by decide) (ex_OutOfRange T) (B.room.mono (by decide)) rfl (T.glo 10) (da_cons (de_op opd_sub de_int (de_var 2)) da_nil))) (dss_cons (ds_set (i := 12) sc_law.nd rfl (by first | exact .inl rfl | exact .inr rfl) (de_makeX (fs := ["first", "second"]) rfl (by decide +kernel) (by decide) (ex_Confused T) (B.room.mono (by decide)) rfl (T.glo 9) (da_cons (de_var 5) (da_cons (de_var 6) da_nil)))) (dss_cons (ds_set (i := 13) sc_law.nd rfl (by first | exact .inl rfl | exact .inr rfl) (de_makeX (fs := ["size"]) rfl (by decide +kernel) (by decide) (ex_NoSuchSize T) (B.room.mono (by decide)) rfl (T.glo 8) (da_cons (de_var 2) da_nil))) (dss_cons (ds_set (i := 14) sc_law.nd rfl (by first | exact .inl rfl | exact .inr rfl) (de_makeX (fs := ["entry"]) rfl (by decide +kernel) (by decide) (ex_BadEntry T) (B.room.mono (by decide)) rfl (T.glo 7) (da_cons (de_var 6) da_nil))) (dss_cons (ds_if (db_of (dw_or (db_cmp (opd_ne B.hu64) (de_xf (n := "BadText") (by decide +kernel) (T.xfa 72) (de_var 7)) (de_var 2) (nomark _)) (dw_or (db_cmp (opd_ne B.hu64) (de_xf (n := "TooLarge") (by decide +kernel) (T.xfa 73) (de_var 8)) (de_var 4) (nomark _)) (dw_or (db_cmp (opd_ne B.hu64) (de_xf (n := "MixedName") (by decide +kernel) (T.xfa 74) (de_var 9)) (de_var 4) (nomark _)) (dw_or1 (db_cmp (opd_ne B.hu64) (de_xf (n := "MissingName") (by decide +kernel) (T.xfa 75) (de_var 10)) (de_var 4) (nomark _))))))) (dss_one (ds_ret de_bl)) dss_nil) (dss_cons (ds_if (db_of (dw_or (db_cmp (opd_ne B.hu64) (de_xf (n := "OutOfRange") (by decide +kernel) (T.xfa 76) (de_var 11)) (de_op opd_sub de_int (de_var 2)) (nomark _)) (dw_or (db_cmp (opd_ne B.hu64) (de_xf (n := "NoSuchSize") (by decide +kernel) (T.xfa 77) (de_var 13)) (de_var 2) (nomark _)) (dw_or1 (db_cmp (opd_ne B.hu64) (de_xf (n := "BadEntry") (by decide +kernel) (T.xfa 78) (de_var 14)) (de_var 6) (nomark _)))))) (dss_one (ds_ret de_bl)) dss_nil) (dss_cons (ds_if (db_of (dw_or (db_cmp (opd_ne B.hu64) (de_xf (n := "Confused") (by decide +kernel) (T.xfa 79) (de_var 12)) (de_var 5) (nomark _)) (dw_or1 (db_cmp (opd_ne B.hu64) (de_xf (n := "Confused") (by decide +kernel) (T.xfa 80) (de_var 12)) (de_var 6) (nomark _))))) (dss_one (ds_ret de_bl)) dss_nil) (dss_cons (ds_set (i := 15) sc_law.nd rfl (by first | exact .inl rfl | exact .inr rfl) (de_lst (da_cons (de_var 7) (da_cons (de_var 8) (da_cons (de_var 9) (da_cons (de_var 10) (da_cons (de_var 11) (da_cons (de_var 12) (da_cons (de_var 13) (da_cons (de_var 14) da_nil)))))))))) (dss_cons (ds_for B.own B.calm (di_range1 rfl (T.free 3) (da_cons de_int da_nil)) (dg_name 16 sc_law.nd rfl (by first | exact .inl rfl | exact .inr rfl)) (dss_cons (ds_if (db_of (dw_or (db_not (db_val (de_isX (c := "ListError") (xk_cons (T.exk 89) (xk_cons (T.exk 88) (xk_cons (T.exk 87) (xk_cons (T.exk 86) (xk_cons (T.exk 85) (xk_cons (T.exk 84) (xk_cons (T.exk 83) (xk_cons (T.exk 82) (xk_cons (T.exk 81) xk_nil))))))))) rfl (T.free 6) rfl (T.glo 17) (de_ix (ixd_all B.hu) (de_var 15) (de_var 16) (fun _ _ => rfl))))) (dw_or1 (db_not (db_val (de_isXT (T := "ValueError") (xk_cons (T.exv 98) (xk_cons (T.exv 97) (xk_cons (T.exv 96) (xk_cons (T.exv 95) (xk_cons (T.exv 94) (xk_cons (T.exv 93) (xk_cons (T.exv 92) (xk_cons (T.exv 91) (xk_cons (T.exv 90) xk_nil))))))))) rfl (T.free 6) rfl (T.free 18) (by decide +kernel) (de_ix (ixd_all B.hu) (de_var 15) (de_var 16) (fun _ _ => rfl)))))))) (dss_one (ds_ret de_bl)) dss_nil) (dss_one (ds_if (db_cmp (opd_ne B.hu64) (de_call ((ok__law_classes T).mono (by decide)) B rfl (T.glo 19) (T.kp 1 (d := dd__law_classes)) (da_cons (de_ix (ixd_all B.hu) (de_var 15) (de_var 16) (fun _ _ => rfl)) da_nil)) (de_lc B.calm sc_law.nd (di_range1 rfl (T.free 3) (da_cons de_int da_nil)) (own := [("_law_at", 17)]) (blkOk_by (N := N_law) (sc := defScope s_law) (by decide +kernel)) rfl (fun _ _ _ _ _ => pg_name (i := 17) sc_law.nd rfl (Or.inl rfl)) (fun _ _ _ _ _ => dts_nil) (fun _ _ _ _ _ => (de_cmp (opd_eq (B.blk).hu64) (de_var 17) (de_var 16) (nomark _)))) (nomark _)) (dss_one (ds_ret de_bl)) dss_nil)))) (dss_cons (ds_set (i := 18) sc_law.nd rfl (by first | exact .inl rfl | exact .inr rfl) (de_makeX0 (by decide +kernel) (T.exz 99).1 (T.exz 99).2 rfl (T.glo 17) de_str)) (dss_one (ds_ret (de_and (de_isXT (T := "ValueError") (xk_cons (T.exv 98) (xk_cons (T.exv 97) (xk_cons (T.exv 96) (xk_cons (T.exv 95) (xk_cons (T.exv 94) (xk_cons (T.exv 93) (xk_cons (T.exv 92) (xk_cons (T.exv 91) (xk_cons (T.exv 90) xk_nil))))))))) rfl (T.free 6) rfl (T.free 18) (by decide +kernel) (de_var 18)) (de_one (de_cmp (opd_eq B.hu64) (de_call ((ok__law_classes T).mono (by decide)) B rfl (T.glo 19) (T.kp 1 (d := dd__law_classes)) (da_cons (de_var 18) da_nil)) (de_lc B.calm sc_law.nd (di_range1 rfl (T.free 3) (da_cons de_int da_nil)) (own := [("_law_at", 17)]) (blkOk_by (N := N_law) (sc := defScope s_law) (by decide +kernel)) rfl (fun _ _ _ _ _ => pg_name (i := 17) sc_law.nd rfl (Or.inl rfl)) (fun _ _ _ _ _ => dts_nil) (fun _ _ _ _ _ => de_bl)) (nomark _)))))))))))))))))))))))))))
end
end LW
namespace DL
open PySem PySem.Spec PyProof.Rows

theorem fVar_0 {d : D} {r : DSt} : fVar 0 (.fz d :: r) = .ok d := rfl
theorem fVar_s {i : Nat} {s : DS} {r : DSt} : fVar (i + 1) (s :: r) = fVar i r := rfl
theorem fOwn_0 {ds : List D} {r : DSt} : fOwn 0 (.ow ds :: r) = .ok ds := rfl
theorem fOwn_s {i : Nat} {s : DS} {r : DSt} : fOwn (i + 1) (s :: r) = fOwn i r := rfl
theorem fC_e {d : D} {δ : DSt} : fC d δ = .ok d := rfl
theorem fU_e {F : D → Option D} {f : FE} {δ : DSt} : fU F f δ = (f δ).bind fun x => R.of (F x) := rfl
theorem fB_e {F : D → D → Option D} {f g : FE} {δ : DSt} : fB F f g δ = (f δ).bind fun x => (g δ).bind fun y => R.of (F x y) := rfl
theorem fNil_e {δ : DSt} : fNil δ = .ok [] := rfl
theorem fCons_e {f : FE} {fl : FL} {δ : DSt} : fCons f fl δ = (f δ).bind fun x => (fl δ).bind fun xs => .ok (x :: xs) := rfl
theorem fL_e {F : List D → Option D} {fl : FL} {δ : DSt} : fL F fl δ = (fl δ).bind fun xs => R.of (F xs) := rfl
theorem fCall_e {F : List D → R D} {fl : FL} {δ : DSt} : fCall F fl δ = (fl δ).bind F := rfl
theorem fTup_e {fl : FL} {δ : DSt} : fTup fl δ = (fl δ).bind fun xs => .ok (.tup xs) := rfl
theorem fLst_e {fl : FL} {δ : DSt} : fLst fl δ = (fl δ).bind fun xs => .ok (.lst xs) := rfl
def rIf {α β : Type} (r : R Bool) (f g : α → R β) (a : α) : R β := r.bind fun b => match b with
  | true => f a
  | false => g a
theorem rIf_t {α β : Type} {f g : α → R β} {a : α} : rIf (.ok true) f g a = f a := rfl
theorem rIf_f {α β : Type} {f g : α → R β} {a : α} : rIf (.ok false) f g a = g a := rfl
theorem fIf_e {c : FB} {f g : FE} {δ : DSt} : fIf c f g δ = rIf (c δ) f g δ := rfl
def tBl : D → R Bool
  | .bl b => .ok b
  | _ => .bad
theorem tBl_e {b : Bool} : tBl (.bl b) = .ok b := rfl
theorem fTest_e {f : FE} {δ : DSt} : fTest f δ = (f δ).bind tBl := by
  unfold fTest tBl
  cases f δ <;> rfl
def tTr : D → R Bool
  | .bl b => .ok b
  | .lst xs => .ok (!xs.isEmpty)
  | .tup xs => .ok (!xs.isEmpty)
  | _ => .bad
theorem fTru_e {f : FE} {δ : DSt} : fTru f δ = (f δ).bind tTr := by
  unfold fTru tTr
  cases f δ <;> rfl
theorem fNotB_e {c : FB} {δ : DSt} : fNotB c δ = (c δ).bind fun b => .ok (!b) := rfl
theorem fAndB_e {c d : FB} {δ : DSt} : fAndB c d δ = rIf (c δ) d (fun _ => .ok false) δ := rfl
theorem fOrB_e {c d : FB} {δ : DSt} : fOrB c d δ = rIf (c δ) (fun _ => .ok true) d δ := rfl
theorem fVal_e {c : FB} {δ : DSt} : fVal c δ = (c δ).bind fun b => .ok (.bl b) := rfl
theorem fAnd_e {f g : FE} {δ : DSt} : fAnd f g δ = rIf ((f δ).bind tBl) g (fun _ => .ok (.bl false)) δ := by
  unfold fAnd rIf tBl
  cases f δ with
  | ok d => cases d <;> first | rfl | (rename_i b; cases b <;> rfl)
  | exc n xs => rfl
  | bad => rfl
theorem fOr_e {f g : FE} {δ : DSt} : fOr f g δ = rIf ((f δ).bind tBl) (fun _ => .ok (.bl true)) g δ := by
  unfold fOr rIf tBl
  cases f δ with
  | ok d => cases d <;> first | rfl | (rename_i b; cases b <;> rfl)
  | exc n xs => rfl
  | bad => rfl
theorem fNo_e {δ : DSt} : fNo δ = .ok none := rfl
def tInt : D → R (Option Int)
  | .int i => .ok (some i)
  | _ => .bad
theorem tInt_e {i : Int} : tInt (.int i) = .ok (some i) := rfl
theorem fSome_e {f : FE} {δ : DSt} : fSome f δ = (f δ).bind tInt := by
  unfold fSome tInt
  cases f δ <;> rfl
theorem fSl_e {f : FE} {l h : FO} {δ : DSt} : fSl f l h δ = (f δ).bind fun d => (l δ).bind fun lo => (h δ).bind fun hi => R.of (dCut d lo hi) := rfl
theorem fSlOw_e {i : Nat} {l h : FO} {δ : DSt} : fSlOw i l h δ = (fOwn i δ).bind fun ds => (l δ).bind fun lo => (h δ).bind fun hi => .ok (.lst (cut ds lo hi)) := rfl
theorem fLenOw_e {i : Nat} {δ : DSt} : fLenOw i δ = (fOwn i δ).bind fun ds => .ok (.int ds.length) := rfl
theorem fIxOw_e {i : Nat} {f : FE} {δ : DSt} : fIxOw i f δ = (fOwn i δ).bind fun ds => (f δ).bind fun d => R.of (dIx (.lst ds) d) := rfl
theorem fInOw_e {neg : Bool} {i : Nat} {f : FE} {δ : DSt} : fInOw neg f i δ = (f δ).bind fun d => (fOwn i δ).bind fun ds => R.of ((dInB d (.lst ds)).map fun b => .bl (if neg then !b else b)) := by
  unfold fInOw
  cases f δ with
  | ok d =>
    cases fOwn i δ with
    | ok ds =>
      have e : dInB d (.lst ds) = if (d.flat && ds.all D.flat) = true then some (inB d ds) else none := by cases d <;> rfl
      show (if (d.flat && ds.all D.flat) = true then R.ok (D.bl (if neg then !inB d ds else inB d ds)) else .bad) = R.of ((dInB d (.lst ds)).map _)
      rw [e]
      by_cases c : (d.flat && ds.all D.flat) = true
      · rw [if_pos c, if_pos c]; rfl
      · rw [if_neg c, if_neg c]; rfl
    | exc n xs => rfl
    | bad => rfl
  | exc n xs => rfl
  | bad => rfl
def O.thn (o : O) (G : FS) : O := match o with
  | .nx δ => G δ
  | o => o
theorem thn_nx {δ : DSt} {G : FS} : (O.nx δ).thn G = G δ := rfl
theorem thn_rt {d : D} {δ : DSt} {G : FS} : (O.rt d δ).thn G = .rt d δ := rfl
theorem thn_bk {δ : DSt} {G : FS} : (O.bk δ).thn G = .bk δ := rfl
theorem thn_ct {δ : DSt} {G : FS} : (O.ct δ).thn G = .ct δ := rfl
theorem thn_exc {n : Str} {xs : List D} {G : FS} : (O.exc n xs).thn G = .exc n xs := rfl
theorem thn_bad {G : FS} : O.bad.thn G = .bad := rfl
theorem fSeq_e {F G : FS} {δ : DSt} : fSeq F G δ = (F δ).thn G := by
  unfold fSeq O.thn
  cases F δ <;> rfl
def oIf (r : R Bool) (F G : FS) (δ : DSt) : O := O.on r fun b => match b with
  | true => F δ
  | false => G δ
theorem oIf_t {F G : FS} {δ : DSt} : oIf (.ok true) F G δ = F δ := rfl
theorem oIf_f {F G : FS} {δ : DSt} : oIf (.ok false) F G δ = G δ := rfl
theorem oIf_exc {n : Str} {xs : List D} {F G : FS} {δ : DSt} : oIf (.exc n xs) F G δ = .exc n xs := rfl
theorem fIfS_e {c : FB} {F G : FS} {δ : DSt} : fIfS c F G δ = oIf (c δ) F G δ := rfl
theorem fSkip_e {δ : DSt} : fSkip δ = .nx δ := rfl
theorem fRet_e {f : FE} {δ : DSt} : fRet f δ = O.on (f δ) fun d => .rt d δ := rfl
theorem fExp_e {f : FE} {δ : DSt} : fExp f δ = O.on (f δ) fun _ => .nx δ := rfl
theorem fSet_e {i : Nat} {f : FE} {δ : DSt} : fSet i f δ = O.on (f δ) fun d => .nx (δ.set i (.fz d)) := rfl
theorem fNew_e {i : Nat} {fl : FL} {δ : DSt} : fNew i fl δ = O.on (fl δ) fun ds => .nx (δ.set i (.ow ds)) := rfl
def oApp (i : Nat) (δ : DSt) (ds : List D) (d : D) : O := if okLt ds.length = true then .nx (δ.set i (.ow (ds ++ [d]))) else .bad
theorem oApp_ok {i : Nat} {δ : DSt} {ds : List D} {d : D} (h : okLt ds.length = true) : oApp i δ ds d = .nx (δ.set i (.ow (ds ++ [d]))) := if_pos h
theorem fApp_e {i : Nat} {f : FE} {δ : DSt} : fApp i f δ = O.on (fOwn i δ) fun ds => O.on (f δ) fun d => oApp i δ ds d := rfl
def oExt (i : Nat) (δ : DSt) (ds : List D) (d : D) : O := match d with
  | .lst es => if okLe (ds.length + es.length) = true then .nx (δ.set i (.ow (ds ++ es))) else .bad
  | _ => .bad
theorem oExt_ok {i : Nat} {δ : DSt} {ds es : List D} (h : okLe (ds.length + es.length) = true) : oExt i δ ds (.lst es) = .nx (δ.set i (.ow (ds ++ es))) := if_pos h
theorem fExt_e {i : Nat} {f : FE} {δ : DSt} : fExt i f δ = O.on (fOwn i δ) fun ds => O.on (f δ) fun d => oExt i δ ds d := rfl
def oPop (j i : Nat) (δ : DSt) (ds : List D) : O := match ds.getLast? with
  | some d => .nx ((δ.set i (.ow ds.dropLast)).set j (.fz d))
  | none => .bad
theorem oPop_ok {j i : Nat} {δ : DSt} {ds : List D} {d : D} : oPop j i δ (ds ++ [d]) = .nx ((δ.set i (.ow ds)).set j (.fz d)) := by
  unfold oPop
  rw [List.getLast?_concat, List.dropLast_concat]
theorem fPop_e {j i : Nat} {δ : DSt} : fPop j i δ = O.on (fOwn i δ) fun ds => oPop j i δ ds := rfl
def oPut (i : Nat) (δ : DSt) (ds : List D) (d k : D) : O := match k with
  | .int n => match L2.ixN ds.length n with
    | some j => .nx (δ.set i (.ow (ds.set j d)))
    | none => .bad
  | _ => .bad
theorem fPut_e {i : Nat} {fk fe : FE} {δ : DSt} : fPut i fk fe δ = O.on (fe δ) fun d => O.on (fOwn i δ) fun ds => O.on (fk δ) fun k => oPut i δ ds d k := rfl
theorem fFrz_e {i : Nat} {F : FS} {δ : DSt} : fFrz i F δ = F (frz i δ) := rfl
theorem frz_0o {ds : List D} {r : DSt} : frz 0 (.ow ds :: r) = .fz (.lst ds) :: r := rfl
theorem frz_s {i : Nat} {s : DS} {r : DSt} : frz (i + 1) (s :: r) = s :: frz i r := by
  unfold frz
  rw [List.getElem?_cons_succ]
  cases r[i]? with
  | none => rfl
  | some t => cases t <;> rfl
theorem fFor_e {fi : FL} {put : FP} {body : FS} {δ : DSt} : fFor fi put body δ = O.on (fi δ) fun ds => loopF put body ds δ := rfl
theorem fItems_e {f : FE} {δ : DSt} : fItems f δ = (f δ).bind fun d => R.of (dItems d) := rfl
theorem fRange_e {fl : FL} {δ : DSt} : fRange fl δ = (fl δ).bind fun ds => R.of (dRange ds) := rfl
def oAsg (p : FP) (δ : DSt) (d : D) : O := match p δ d with
  | some δ' => .nx δ'
  | none => .bad
theorem fAsg_e {p : FP} {f : FE} {δ : DSt} : fAsg p f δ = O.on (f δ) fun d => oAsg p δ d := rfl
def oMat (G : Str → FS) (δ : DSt) (d : D) : O := match d with
  | .str z => G z δ
  | _ => .bad
theorem oMat_e {G : Str → FS} {δ : DSt} {z : Str} : oMat G δ (.str z) = G z δ := rfl
theorem fMatch_e {f : FE} {G : Str → FS} {δ : DSt} : fMatch f G δ = O.on (f δ) fun d => oMat G δ d := by
  unfold fMatch oMat
  cases f δ <;> rfl
theorem fAug_e {F : D → D → Option D} {i : Nat} {f : FE} {δ : DSt} : fAug F i f δ = O.on (fVar i δ) fun x => O.on (f δ) fun y => O.on (R.of (F x y)) fun z => .nx (δ.set i (.fz z)) := rfl
def O.fin (o : O) : R D := match o with
  | .rt d _ => .ok d
  | .nx _ => .ok .non
  | .exc n xs => .exc n xs
  | _ => .bad
theorem fin_rt {d : D} {δ : DSt} : (O.rt d δ).fin = .ok d := rfl
theorem fin_nx {δ : DSt} : (O.nx δ).fin = .ok .non := rfl
theorem fin_exc {n : Str} {xs : List D} : (O.exc n xs).fin = .exc n xs := rfl
theorem runD_e {m : Nat} {F : FS} {ds : List D} : runD m F ds = (F (ds.map DS.fz ++ List.replicate (m - ds.length) DS.un)).fin := rfl
theorem pName_e {i : Nat} {δ : DSt} {d : D} : pName i δ d = some (δ.set i (.fz d)) := rfl
theorem pNil_e {δ : DSt} : pNil δ [] = some δ := rfl
theorem pCons_e {p : FP} {ps : FPs} {δ : DSt} {d : D} {ds : List D} : pCons p ps δ (d :: ds) = (p δ d).bind fun δ' => ps δ' ds := rfl
theorem pTup_e {n : Nat} {ps : FPs} {δ : DSt} {ds : List D} : pTup n ps δ (.tup ds) = if ds.length = n then ps δ ds else none := rfl
theorem dAdd_ii {i j : Int} : dAdd (.int i) (.int j) = some (.int (i + j)) := rfl
theorem dAdd_ss {x y : Str} (h : okLe (x.length + y.length) = true) : dAdd (.str x) (.str y) = some (.str (x ++ y)) := if_pos h
theorem dAdd_ll {xs ys : List D} (h : okLe (xs.length + ys.length) = true) : dAdd (.lst xs) (.lst ys) = some (.lst (xs ++ ys)) := if_pos h
theorem dAdd_tt {x : D} {xs ys : List D} (h : okLe ((x :: xs).length + ys.length) = true) : dAdd (.tup (x :: xs)) (.tup ys) = some (.tup (x :: xs ++ ys)) := if_pos h
theorem dSub_ii {i j : Int} : dSub (.int i) (.int j) = some (.int (i - j)) := rfl
theorem dMul_ii {i j : Int} (h : mulOk i j = true) : dMul (.int i) (.int j) = some (.int (i * j)) := if_pos h
theorem lim_by {k : Nat} {i : Int} (h : i.natAbs < 2 ^ k) : lim k i = true := Nat.blt_eq.mpr h
theorem mulOk_l {i j : Int} (h : lim 64 i = true) : mulOk i j = true := by unfold mulOk; rw [h]; rfl
theorem mulOk_r {i j : Int} (h : lim 64 j = true) : mulOk i j = true := by unfold mulOk; rw [h]; cases lim 64 i <;> rfl
theorem dMul_li {xs : List D} {k : Int} (h : repOk xs.length k = true) : dMul (.lst xs) (.int k) = some (.lst (List.replicate k.toNat xs).flatten) := if_pos h
theorem repOk_by {n : Nat} {k : Int} (h : lim 63 k = true) (g : n * k.toNat ≤ 16777216) : repOk n k = true := by unfold repOk; rw [h, okLe_by g]; rfl
theorem dFdiv_ii {i j : Int} (h : 0 < j) (g : j < 1073741824) : dFdiv (.int i) (.int j) = some (.int (i / j)) := if_pos (by
  unfold divOk
  rw [decide_eq_true h]
  have : i.natAbs = i.natAbs := rfl
  show Nat.blt j.natAbs (2 ^ 400) = true
  refine Nat.blt_eq.mpr (Nat.lt_of_lt_of_le (show j.natAbs < 2 ^ 30 by omega) (Nat.pow_le_pow_right (by decide) (by decide))))
theorem dFdiv_w {i j : Int} (h : 0 < j) (g : lim 400 j = true) : dFdiv (.int i) (.int j) = some (.int (i / j)) := if_pos (by
  unfold divOk
  rw [decide_eq_true h, g]
  rfl)
theorem dMod_ii {i j : Int} (h : 0 < j) : dMod (.int i) (.int j) = some (.int (i % j)) := if_pos h
theorem dNeg_i {i : Int} : dNeg (.int i) = some (.int (-i)) := rfl
theorem dLt_ii {i j : Int} : dLt (.int i) (.int j) = some (.bl (decide (i < j))) := rfl
theorem dLe_ii {i j : Int} : dLe (.int i) (.int j) = some (.bl (decide (i ≤ j))) := rfl
theorem dGt_ii {i j : Int} : dGt (.int i) (.int j) = some (.bl (decide (j < i))) := rfl
theorem dGe_ii {i j : Int} : dGe (.int i) (.int j) = some (.bl (decide (j ≤ i))) := rfl
theorem dIx_l {xs : List D} {i : Int} : dIx (.lst xs) (.int i) = L2.atI xs i := rfl
theorem dIx_t {xs : List D} {i : Int} : dIx (.tup xs) (.int i) = L2.atI xs i := rfl
theorem dIx_c {xs : List D} {i : Int} : dIx (.scr xs) (.int i) = L2.atI xs i := rfl
theorem dIx_s {z : Str} {i : Int} (h : okLe z.length = true) : dIx (.str z) (.int i) = (L2.atI z.cps.toList i).map (fun c => .str ⟨#[c]⟩) := if_pos h
theorem dLen_l {xs : List D} : dLen [.lst xs] = some (.int xs.length) := rfl
theorem dLen_t {xs : List D} : dLen [.tup xs] = some (.int xs.length) := rfl
theorem dLen_c {xs : List D} : dLen [.scr xs] = some (.int xs.length) := rfl
theorem dLen_s {z : Str} (h : okLe z.length = true) : dLen [.str z] = some (.int z.length) := if_pos h
theorem dAbs_i {i : Int} : dAbs [.int i] = some (.int (if i < 0 then -i else i)) := rfl
theorem dMax2_ii {i j : Int} : dMax2 [.int i, .int j] = some (.int (if j > i then j else i)) := rfl
theorem dMin2_ii {i j : Int} : dMin2 [.int i, .int j] = some (.int (if j < i then j else i)) := rfl
theorem dInt_i {i : Int} : dInt [.int i] = some (.int i) := rfl
theorem dStr_i {i : Int} (h : i.natAbs.log2 < 1920) : dStr [.int i] = some (.str (toString i)) := if_pos h
theorem dStr_s {x : Str} : dStr [.str x] = some (.str x) := rfl
theorem dList_l {xs : List D} : dList [.lst xs] = some (.lst xs) := rfl
theorem dList_t {xs : List D} : dList [.tup xs] = some (.lst xs) := rfl
theorem dTuple_l {xs : List D} : dTuple [.lst xs] = some (.tup xs) := rfl
theorem dTuple_t {xs : List D} : dTuple [.tup xs] = some (.tup xs) := rfl
theorem dCut_l {xs : List D} {lo hi : Option Int} : dCut (.lst xs) lo hi = some (.lst (cut xs lo hi)) := rfl
theorem dCut_t {xs : List D} {lo hi : Option Int} : dCut (.tup xs) lo hi = some (.tup (cut xs lo hi)) := rfl
theorem dItems_l {xs : List D} : dItems (.lst xs) = some xs := rfl
theorem dItems_t {xs : List D} : dItems (.tup xs) = some xs := rfl
theorem dItems_s {z : Str} : dItems (.str z) = some (z.cps.toList.map fun c => .str ⟨#[c]⟩) := rfl
theorem dRange_1 {j : Int} (h : small62 j = true) : dRange [.int j] = some (dInts 0 j.toNat) := if_pos h
theorem dRange_2 {i j : Int} (h : small62 i = true) (g : small62 j = true) : dRange [.int i, .int j] = some (dInts i (j - i).toNat) := if_pos (by rw [h, g]; rfl)
theorem dIsN_e {d : D} : dIsN d = some (.bl d.isNon) := rfl
theorem dNotN_e {d : D} : dNotN d = some (.bl (!d.isNon)) := rfl
theorem isNon_n  : D.isNon .non = true := rfl
theorem isNon_b {b : Bool} : D.isNon (.bl b) = false := rfl
theorem isNon_i {i : Int} : D.isNon (.int i) = false := rfl
theorem isNon_s {x : Str} : D.isNon (.str x) = false := rfl
theorem isNon_t {xs : List D} : D.isNon (.tup xs) = false := rfl
theorem isNon_l {xs : List D} : D.isNon (.lst xs) = false := rfl
theorem isNon_o {c : Str} {xs : List D} : D.isNon (.obj c xs) = false := rfl
theorem dIsi_n {T : String} : dIsi T .non = some (.bl (isT "NoneType" T)) := rfl
theorem dIsi_b {T : String} {b : Bool} : dIsi T (.bl b) = some (.bl (isT "bool" T)) := rfl
theorem dIsi_i {T : String} {i : Int} : dIsi T (.int i) = some (.bl (isT "int" T)) := rfl
theorem dIsi_s {T : String} {x : Str} : dIsi T (.str x) = some (.bl (isT "str" T)) := rfl
theorem dIsi_t {T : String} {xs : List D} : dIsi T (.tup xs) = some (.bl (isT "tuple" T)) := rfl
theorem dIsi_l {T : String} {xs : List D} : dIsi T (.lst xs) = some (.bl (isT "list" T)) := rfl
theorem dIn_e {x y : D} : dIn x y = (dInB x y).map D.bl := rfl
theorem dNotIn_e {x y : D} : dNotIn x y = (dInB x y).map fun b => D.bl (!b) := rfl
theorem dEq_e {x y : D} : dEq x y = (dEqB x y).map D.bl := rfl
theorem dNe_e {x y : D} : dNe x y = (dEqB x y).map fun b => D.bl (!b) := rfl
theorem oPop_2 {j i : Nat} {δ : DSt} {ds : List D} {c d : D} : oPop j i δ (ds ++ [c, d]) = .nx ((δ.set i (.ow (ds ++ [c]))).set j (.fz d)) := by
  rw [show ds ++ [c, d] = (ds ++ [c]) ++ [d] from by rw [List.append_assoc]; rfl]
  exact oPop_ok
theorem oPop_1 {j i : Nat} {δ : DSt} {d : D} : oPop j i δ [d] = .nx ((δ.set i (.ow [])).set j (.fz d)) := rfl
theorem cast_0 : ((0 : Nat) : Int) = 0 := rfl
theorem cast_1 : ((1 : Nat) : Int) = 1 := rfl
theorem cast_2 : ((2 : Nat) : Int) = 2 := rfl
theorem cast_3 : ((3 : Nat) : Int) = 3 := rfl
theorem at_0 {a : D} {r : List D} : L2.atI (a :: r) 0 = some a := L2.atI_nat (j := 0) rfl
theorem at_1 {a b : D} {r : List D} : L2.atI (a :: b :: r) 1 = some b := L2.atI_nat (j := 1) rfl
theorem at_2 {a b c : D} {r : List D} : L2.atI (a :: b :: c :: r) 2 = some c := L2.atI_nat (j := 2) rfl
theorem at_3 {a b c d : D} {r : List D} : L2.atI (a :: b :: c :: d :: r) 3 = some d := L2.atI_nat (j := 3) rfl
theorem at_4 {a b c d e : D} {r : List D} : L2.atI (a :: b :: c :: d :: e :: r) 4 = some e := L2.atI_nat (j := 4) rfl
theorem at_5 {a b c d e f : D} {r : List D} : L2.atI (a :: b :: c :: d :: e :: f :: r) 5 = some f := L2.atI_nat (j := 5) rfl
theorem at_6 {a b c d e f g : D} {r : List D} : L2.atI (a :: b :: c :: d :: e :: f :: g :: r) 6 = some g := L2.atI_nat (j := 6) rfl
theorem lcF_nil {i : Nat} {t : FB} {f : FE} {δ : DSt} {acc : List D} : lcF i t f δ [] acc = .ok acc := rfl
theorem lcF_yes {i : Nat} {t : FB} {f : FE} {δ : DSt} {d e : D} {ds acc : List D} (ht : t (δ.set i (.fz d)) = .ok true) (hf : f (δ.set i (.fz d)) = .ok e) (hl : okLt acc.length = true) : lcF i t f δ (d :: ds) acc = lcF i t f δ ds (acc ++ [e]) := by
  show ((t (δ.set i (.fz d))).quiet.bind _) = _
  rw [ht]
  show ((f (δ.set i (.fz d))).quiet.bind _) = _
  rw [hf]
  exact if_pos hl
theorem lcF_no {i : Nat} {t : FB} {f : FE} {δ : DSt} {d : D} {ds acc : List D} (ht : t (δ.set i (.fz d)) = .ok false) : lcF i t f δ (d :: ds) acc = lcF i t f δ ds acc := by
  show ((t (δ.set i (.fz d))).quiet.bind _) = _
  rw [ht]
  rfl
theorem lcF_all {α : Type} {i : Nat} {f : FE} {δ : DSt} {g h : α → D} : ∀ {xs : List α} {acc : List D}, (∀ x ∈ xs, f (δ.set i (.fz (g x))) = .ok (h x)) → acc.length + xs.length ≤ 16777215 → lcF i fYes f δ (xs.map g) acc = .ok (acc ++ xs.map h)
  | [], acc, _, _ => by rw [List.map_nil, List.map_nil, List.append_nil]; rfl
  | x :: xs, acc, hx, hl => by
    rw [List.length_cons] at hl
    rw [List.map_cons, lcF_yes (e := h x) rfl (hx x List.mem_cons_self) (okLt_by (by omega)), lcF_all (h := h) (fun y hy => hx y (List.mem_cons_of_mem _ hy)) (by rw [List.length_append, List.length_singleton]; omega), List.append_assoc]
    rfl
theorem fLc_e {fi : FL} {i : Nat} {t : FB} {f : FE} {δ : DSt} : fLc fi i t f δ = (fi δ).bind fun ds => (lcF i t f δ ds []).bind fun es => .ok (.lst es) := by
  unfold fLc fLcL
  cases fi δ <;> rfl
theorem fLcL_e {fi : FL} {i : Nat} {t : FB} {f : FE} {δ : DSt} : fLcL fi i t f δ = (fi δ).bind fun ds => lcF i t f δ ds [] := rfl
theorem fJoin_e {f g : FE} {δ : DSt} : fJoin f g δ = (f δ).bind (rJoin g δ) := rfl
theorem rJoin_e {a : Str} {g : FE} {δ : DSt} : rJoin g δ (.str a) = (g δ).bind fun e => R.of (dJoin a e) := rfl
theorem dJoin_l {a : Str} {ys : List Str} (h : joinOk a ys = true) : dJoin a (.lst (ys.map .str)) = some (.str (Str.join a ys)) := by
  show (match strsOf (ys.map .str) with | some ys => if joinOk a ys = true then some (D.str (Str.join a ys)) else none | none => none) = _
  rw [strsOf_map]
  exact if_pos h
end DL

namespace DL
open PySem PySem.Spec PyProof.Rows
theorem loopF_ind {put : FP} {body : FS} {items : List D} {δ : DSt} (I : List D → DSt → Prop) (h0 : I [] δ)
    (step : ∀ pre d post δ, items = pre ++ d :: post → I pre δ → ∃ δ1, put δ d = some δ1 ∧ ∃ δ2, (body δ1 = .nx δ2 ∨ body δ1 = .ct δ2) ∧ I (pre ++ [d]) δ2) : ∃ δ', loopF put body items δ = .nx δ' ∧ I items δ' := by
  have go : ∀ (post pre : List D) (δ : DSt), items = pre ++ post → I pre δ → ∃ δ', loopF put body post δ = .nx δ' ∧ I items δ' := by
    intro post
    induction post with
    | nil => intro pre δ e h; rw [List.append_nil] at e; subst e; exact ⟨δ, rfl, h⟩
    | cons d post ih =>
      intro pre δ e h
      obtain ⟨δ1, h1, δ2, h2, h3⟩ := step pre d post δ e h
      obtain ⟨δ', h4, h5⟩ := ih (pre ++ [d]) δ2 (by rw [e, List.append_assoc]; rfl) h3
      refine ⟨δ', ?_, h5⟩
      unfold loopF
      rw [h1]
      rcases h2 with h2 | h2 <;> (simp only [h2]; exact h4)
  exact go items [] δ rfl h0
theorem loopF_range {put : FP} {body : FS} {lo : Int} {n : Nat} {δ : DSt} (I : Nat → DSt → Prop) (h0 : I 0 δ)
    (step : ∀ (k : Nat) δ, k < n → I k δ → ∃ δ1, put δ (.int (lo + k)) = some δ1 ∧ ∃ δ2, (body δ1 = .nx δ2 ∨ body δ1 = .ct δ2) ∧ I (k + 1) δ2) : ∃ δ', loopF put body (dInts lo n) δ = .nx δ' ∧ I n δ' := by
  have hl : (dInts lo n).length = n := by simp [dInts]
  obtain ⟨δ', h1, h2⟩ := loopF_ind (put := put) (body := body) (items := dInts lo n) (δ := δ) (fun pre δ => I pre.length δ) h0 (fun pre d post δ e h => by
    have hk : pre.length < n := by
      have := congrArg List.length e
      rw [hl] at this
      simp only [List.length_append, List.length_cons] at this
      omega
    have hd : d = .int (lo + (pre.length : Nat)) := by
      have e1 : (dInts lo n)[pre.length]? = some d := by rw [e]; simp
      simp [dInts, hk] at e1
      exact e1.symm
    obtain ⟨δ1, h1, δ2, h2, h3⟩ := step pre.length δ hk h
    exact ⟨δ1, by rw [hd]; exact h1, δ2, h2, by simpa using h3⟩)
  rw [hl] at h2
  exact ⟨δ', h1, h2⟩
theorem cut_to {α : Type} (xs : List α) (k : Nat) : cut xs none (some (k : Int)) = xs.take k := by
  unfold cut
  rw [HT.sIx_none, HT.sIx_nat, List.drop_zero, Nat.sub_zero]
  by_cases h : k ≤ xs.length
  · rw [Nat.min_eq_left h]
  · rw [Nat.min_eq_right (by omega), List.take_of_length_le (Nat.le_refl _), List.take_of_length_le (by omega)]
theorem cut_from {α : Type} (xs : List α) (k : Nat) : cut xs (some (k : Int)) none = xs.drop k := by
  unfold cut
  rw [HT.sIx_none, HT.sIx_nat, List.take_of_length_le (by rw [List.length_drop]; exact Nat.le_refl _)]
  by_cases h : k ≤ xs.length
  · rw [Nat.min_eq_left h]
  · rw [Nat.min_eq_right (by omega), List.drop_of_length_le (Nat.le_refl _), List.drop_of_length_le (by omega)]
theorem cut_all {α : Type} (xs : List α) : cut xs none none = xs := by
  unfold cut
  rw [HT.sIx_none, HT.sIx_none, List.drop_zero, Nat.sub_zero, List.take_length]
theorem cut_tl {α : Type} (x : α) (xs : List α) : cut (x :: xs) (some 1) none = xs := cut_from (x :: xs) 1
theorem map_rep {α β : Type} (f : α → β) (n : Nat) (a : α) : List.replicate n (f a) = (List.replicate n a).map f := List.map_replicate.symm
theorem flat_one {α : Type} (n : Nat) (a : α) : (List.replicate n [a]).flatten = List.replicate n a := by
  induction n with
  | zero => rfl
  | succ n ih => rw [List.replicate_succ, List.flatten_cons, ih]; rfl
theorem loopF_nx {put : FP} {body : FS} {d : D} {ds : List D} {δ δ1 δ2 : DSt} (h1 : put δ d = some δ1) (h2 : body δ1 = .nx δ2) : loopF put body (d :: ds) δ = loopF put body ds δ2 := by
  show (match put δ d with | none => O.bad | some δ1 => _) = _
  rw [h1]
  simp only [h2]
theorem dEqB_ss {x y : Str} : dEqB (.str x) (.str y) = some (x == y) := rfl
theorem dEqB_ii {i j : Int} : dEqB (.int i) (.int j) = some (i == j) := rfl
def Eqb (n : Nat) (d : D) : Prop := ∃ p, d.py = some p ∧ p.canLay0 = true ∧ p.depth ≤ n
def EqbL (n : Nat) (ds : List D) : Prop := ∃ ps, pyL ds = some ps ∧ PyData.canLayAll0 ps = true ∧ PyData.depthAll ps ≤ n
theorem Eqb.int (n : Nat) (i : Int) : Eqb n (.int i) := ⟨_, by unfold D.py; rfl, by simp [PyData.canLay0], by simp [PyData.depth]⟩
theorem Eqb.non (n : Nat) : Eqb n .non := ⟨_, by unfold D.py; rfl, by simp [PyData.canLay0], by simp [PyData.depth]⟩
theorem Eqb.bl (n : Nat) (b : Bool) : Eqb n (.bl b) := ⟨_, by unfold D.py; rfl, by simp [PyData.canLay0], by simp [PyData.depth]⟩
abbrev Sok (x : Str) : Prop := PyData.strOk x = true
theorem Sok.app {x y : Str} (h : Sok x) (k : Sok y) : Sok (x ++ y) := by
  show (x.cps ++ y.cps).all _ = true
  rw [Array.all_append]
  exact Bool.and_eq_true_iff.mpr ⟨h, k⟩
theorem Eqb.str {n : Nat} {x : Str} (h : Sok x) : Eqb n (.str x) := ⟨_, by unfold D.py; rfl, by unfold PyData.canLay0; exact h, by simp [PyData.depth]⟩
theorem EqbL.nil (n : Nat) : EqbL n [] := ⟨[], by unfold pyL; rfl, by simp [PyData.canLayAll0], by simp [PyData.depthAll]⟩
theorem EqbL.cons {n : Nat} {d : D} {ds : List D} (h : Eqb n d) (k : EqbL n ds) : EqbL n (d :: ds) := by
  obtain ⟨p, h1, h2, h3⟩ := h
  obtain ⟨ps, k1, k2, k3⟩ := k
  refine ⟨p :: ps, by unfold pyL; rw [h1, k1], by unfold PyData.canLayAll0; rw [h2, k2]; rfl, ?_⟩
  unfold PyData.depthAll
  omega
theorem EqbL.of {n : Nat} {ds : List D} (h : ∀ d ∈ ds, Eqb n d) : EqbL n ds := by
  induction ds with
  | nil => exact .nil n
  | cons d ds ih => exact .cons (h d (List.mem_cons_self)) (ih fun e he => h e (List.mem_cons_of_mem _ he))
theorem Eqb.tup {n : Nat} {ds : List D} (h : EqbL n ds) : Eqb (n + 1) (.tup ds) := by
  obtain ⟨ps, k1, k2, k3⟩ := h
  refine ⟨.tuple ps, by unfold D.py; rw [k1]; rfl, by unfold PyData.canLay0; exact k2, ?_⟩
  unfold PyData.depth
  omega
theorem Eqb.lst {n : Nat} {ds : List D} (h : EqbL n ds) : Eqb (n + 1) (.lst ds) := by
  obtain ⟨ps, k1, k2, k3⟩ := h
  refine ⟨.list ps, by unfold D.py; rw [k1]; rfl, by unfold PyData.canLay0; exact k2, ?_⟩
  unfold PyData.depth
  omega
theorem Eqb.mono {n m : Nat} {d : D} (h : Eqb n d) (l : n ≤ m) : Eqb m d := by
  obtain ⟨p, h1, h2, h3⟩ := h
  exact ⟨p, h1, h2, by omega⟩
theorem dEqB_refl {d : D} (h : Eqb 64 d) : dEqB d d = some true := by
  obtain ⟨p, h1, h2, h3⟩ := h
  have key : dEqP d d = some true := by
    unfold dEqP
    rw [h1]
    have s : SeqAt.shaped p = true := Bool.and_eq_true_iff.mpr ⟨h2, decide_eq_true h3⟩
    show (if (SeqAt.shaped p && SeqAt.shaped p) = true then _ else _) = _
    rw [s, SeqAt.eqv_refl p h2]
    rfl
  cases d with
  | str x => exact congrArg some (beq_self_eq_true x)
  | int i => exact congrArg some (beq_self_eq_true i)
  | _ => exact key
theorem dNe_refl {d : D} (h : Eqb 64 d) : dNe d d = some (.bl false) := by
  unfold dNe
  rw [dEqB_refl h]
  rfl
theorem dEq_refl {d : D} (h : Eqb 64 d) : dEq d d = some (.bl true) := by
  unfold dEq
  rw [dEqB_refl h]
  rfl
theorem flat_strs (xs : List Str) : (xs.map D.str).all D.flat = true := by
  rw [List.all_map]
  exact List.all_eq_true.mpr fun _ _ => rfl
theorem inB_strs (x : Str) (xs : List Str) : inB (.str x) (xs.map .str) = decide (x ∈ xs) := by
  unfold inB
  rw [List.any_map]
  induction xs with
  | nil => rfl
  | cons y ys ih =>
    rw [List.any_cons, ih]
    show ((y == x) || _) = _
    by_cases h : y = x
    · subst h; simp
    · have h2 : x ≠ y := fun e => h e.symm
      simp [h, h2]
theorem dInB_strs {x : Str} {xs : List Str} : dInB (.str x) (.lst (xs.map .str)) = some (decide (x ∈ xs)) := by
  show (if (true && (xs.map D.str).all D.flat) = true then some (inB (.str x) (xs.map .str)) else none) = _
  rw [flat_strs, inB_strs]
  rfl
theorem dInB_strsT {x : Str} {xs : List Str} : dInB (.str x) (.tup (xs.map .str)) = some (decide (x ∈ xs)) := by
  show (if (true && (xs.map D.str).all D.flat) = true then some (inB (.str x) (xs.map .str)) else none) = _
  rw [flat_strs, inB_strs]
  rfl
end DL

namespace DL
open PySem PySem.Spec PyProof.Rows
def rProp (c : Str) (G : List D → R D) (o : D) : R D := if isOb c o = true then (G [o]).quiet else .bad
theorem fProp_e {c : Str} {G : List D → R D} {fo : FE} {δ : DSt} : fProp c G fo δ = (fo δ).bind (rProp c G) := rfl
theorem rProp_e {c : Str} {G : List D → R D} {xs : List D} : rProp c G (.obj c xs) = (G [.obj c xs]).quiet := if_pos (decide_eq_true rfl)
theorem quiet_ok {α : Type} {a : α} : (R.ok a).quiet = .ok a := rfl
theorem dSlot_e {c : Str} {i : Nat} {xs : List D} : dSlot c i (.obj c xs) = xs[i]? := if_pos rfl
theorem fMakeSK_e {c : Str} {n : Nat} {gD : List D → List D} {fl : FL} {δ : DSt} : fMakeSK c n gD fl δ = (fl δ).bind (rMakeSK c n gD) := rfl
theorem gMrg_e {m : List Bool} {is : List Int} {zs : List D} : gMrg m is zs = mrg m (is.map .int) zs := rfl
theorem mrg_t {α : Type} {m : List Bool} {ys zs : List α} {z : α} : mrg (true :: m) ys (z :: zs) = z :: mrg m ys zs := by cases ys <;> rfl
theorem mrg_f {α : Type} {m : List Bool} {ys zs : List α} {y : α} : mrg (false :: m) (y :: ys) zs = y :: mrg m ys zs := by cases zs <;> rfl
theorem mrg_n {α : Type} {ys zs : List α} : mrg [] ys zs = [] := by cases ys <;> cases zs <;> rfl
def rNum (ds : List D) : R D := if ds.length = 8 then .ok (.obj "Numbers" ds) else .bad
theorem rMakeN_e {m : List Bool} {is : List Int} {zs : List D} : rMakeSK "Numbers" 8 (gMrg m is) zs = rNum (mrg m (is.map .int) zs) := rfl
theorem rNum_e {a0 a1 a2 a3 a4 a5 a6 a7 : D} : rNum [a0, a1, a2, a3, a4, a5, a6, a7] = .ok (.obj "Numbers" [a0, a1, a2, a3, a4, a5, a6, a7]) := rfl
def rMethF (c : Str) (G : List D → R D) (fl : FL) (δ : DSt) (o : D) : R D := if isOb c o = true then (fl δ).bind fun ds => G (o :: ds) else .bad
theorem fMethF_e {c : Str} {G : List D → R D} {fo : FE} {fl : FL} {δ : DSt} : fMethF c G fo fl δ = (fo δ).bind (rMethF c G fl δ) := rfl
theorem rMethF_e {c : Str} {G : List D → R D} {fl : FL} {δ : DSt} {xs : List D} : rMethF c G fl δ (.obj c xs) = (fl δ).bind fun ds => G (.obj c xs :: ds) := if_pos (decide_eq_true rfl)
theorem dIntS_i {i : Int} : dIntS [.int i] = some (.int i) := rfl
theorem dAddS_ii {i j : Int} : dAddS (.int i) (.int j) = some (.int (i + j)) := rfl
theorem dAddS_ss {x y : Str} (h : okLe (x.length + y.length) = true) : dAddS (.str x) (.str y) = some (.str (x ++ y)) := if_pos h
theorem dGcd_ii {a b : Int} : dGcd [.int a, .int b] = some (.int (Nat.gcd a.natAbs b.natAbs : Nat)) := rfl
theorem dLcm_ii {a b : Int} (h : lim 64 a = true) (k : lim 64 b = true) : dLcm [.int a, .int b] = some (.int (Nat.lcm a.natAbs b.natAbs : Nat)) := if_pos (by rw [h, k]; rfl)
theorem dLcm_iii {a b c : Int} (h : lim 64 a = true) (k : lim 64 b = true) (l : lim 64 c = true) : dLcm [.int a, .int b, .int c] = some (.int (Nat.lcm (Nat.lcm a.natAbs b.natAbs) c.natAbs : Nat)) := if_pos (by rw [h, k, l]; rfl)
theorem at_7 {a0 a1 a2 a3 a4 a5 a6 a7 : D} {r : List D} : L2.atI (a0 :: a1 :: a2 :: a3 :: a4 :: a5 :: a6 :: a7 :: r) 7 = some a7 := L2.atI_nat (j := 7) rfl
theorem at_8 {a0 a1 a2 a3 a4 a5 a6 a7 a8 : D} {r : List D} : L2.atI (a0 :: a1 :: a2 :: a3 :: a4 :: a5 :: a6 :: a7 :: a8 :: r) 8 = some a8 := L2.atI_nat (j := 8) rfl
theorem at_9 {a0 a1 a2 a3 a4 a5 a6 a7 a8 a9 : D} {r : List D} : L2.atI (a0 :: a1 :: a2 :: a3 :: a4 :: a5 :: a6 :: a7 :: a8 :: a9 :: r) 9 = some a9 := L2.atI_nat (j := 9) rfl
theorem at_10 {a0 a1 a2 a3 a4 a5 a6 a7 a8 a9 a10 : D} {r : List D} : L2.atI (a0 :: a1 :: a2 :: a3 :: a4 :: a5 :: a6 :: a7 :: a8 :: a9 :: a10 :: r) 10 = some a10 := L2.atI_nat (j := 10) rfl
theorem at_11 {a0 a1 a2 a3 a4 a5 a6 a7 a8 a9 a10 a11 : D} {r : List D} : L2.atI (a0 :: a1 :: a2 :: a3 :: a4 :: a5 :: a6 :: a7 :: a8 :: a9 :: a10 :: a11 :: r) 11 = some a11 := L2.atI_nat (j := 11) rfl
theorem at_12 {a0 a1 a2 a3 a4 a5 a6 a7 a8 a9 a10 a11 a12 : D} {r : List D} : L2.atI (a0 :: a1 :: a2 :: a3 :: a4 :: a5 :: a6 :: a7 :: a8 :: a9 :: a10 :: a11 :: a12 :: r) 12 = some a12 := L2.atI_nat (j := 12) rfl
theorem at_13 {a0 a1 a2 a3 a4 a5 a6 a7 a8 a9 a10 a11 a12 a13 : D} {r : List D} : L2.atI (a0 :: a1 :: a2 :: a3 :: a4 :: a5 :: a6 :: a7 :: a8 :: a9 :: a10 :: a11 :: a12 :: a13 :: r) 13 = some a13 := L2.atI_nat (j := 13) rfl
theorem at_14 {a0 a1 a2 a3 a4 a5 a6 a7 a8 a9 a10 a11 a12 a13 a14 : D} {r : List D} : L2.atI (a0 :: a1 :: a2 :: a3 :: a4 :: a5 :: a6 :: a7 :: a8 :: a9 :: a10 :: a11 :: a12 :: a13 :: a14 :: r) 14 = some a14 := L2.atI_nat (j := 14) rfl
theorem at_15 {a0 a1 a2 a3 a4 a5 a6 a7 a8 a9 a10 a11 a12 a13 a14 a15 : D} {r : List D} : L2.atI (a0 :: a1 :: a2 :: a3 :: a4 :: a5 :: a6 :: a7 :: a8 :: a9 :: a10 :: a11 :: a12 :: a13 :: a14 :: a15 :: r) 15 = some a15 := L2.atI_nat (j := 15) rfl
theorem at_m1 {α : Type} {xs : List α} {a : α} : L2.atI (xs ++ [a]) (-1) = some a := by
  have e : L2.ixN (xs.length + 1) (-1) = some xs.length := by
    unfold L2.ixN
    simp
    omega
  unfold L2.atI
  simp [e]
theorem cut_toL {α : Type} {xs : List α} {i : Int} (h : 0 ≤ i) : cut xs none (some i) = xs.take i.toNat := by
  obtain ⟨k, rfl⟩ := Int.eq_ofNat_of_zero_le h
  exact cut_to xs k
theorem cut_fromL {α : Type} {xs : List α} {i : Int} (h : 0 ≤ i) : cut xs (some i) none = xs.drop i.toNat := by
  obtain ⟨k, rfl⟩ := Int.eq_ofNat_of_zero_le h
  exact cut_from xs k
theorem cut_btw {α : Type} {xs : List α} {i j : Int} (h : 0 ≤ i) (g : 0 ≤ j) : cut xs (some i) (some j) = (xs.take j.toNat).drop i.toNat := by
  obtain ⟨k, rfl⟩ := Int.eq_ofNat_of_zero_le h
  obtain ⟨m, rfl⟩ := Int.eq_ofNat_of_zero_le g
  unfold cut
  rw [HT.sIx_nat, HT.sIx_nat, List.drop_take]
  by_cases c : k ≤ xs.length
  · rw [Nat.min_eq_left c]
    by_cases e : m ≤ xs.length
    · rw [Nat.min_eq_left e]
      rfl
    · rw [Nat.min_eq_right (by omega), List.take_of_length_le (by simp)]
      exact (List.take_of_length_le (by simp; omega)).symm
  · rw [Nat.min_eq_right (by omega : xs.length ≤ k), List.drop_of_length_le (Nat.le_refl _), List.take_nil]
    show [] = List.take (m - k) (List.drop k xs)
    rw [List.drop_of_length_le (by omega), List.take_nil]
theorem fSlS_e {f : FE} {l h : FO} {g : FE} {δ : DSt} : fSlS f l h g δ = (f δ).bind fun d => (l δ).bind fun lo => (h δ).bind fun hi => (g δ).bind fun c => R.of (dPick d lo hi c) := rfl
theorem dPick_l {xs : List D} {lo hi : Option Int} {c : Int} (h : c ≠ 0) : dPick (.lst xs) lo hi (.int c) = some (.lst (pickG xs lo hi (some c))) := if_neg h
theorem fRange3_e {fl : FL} {δ : DSt} : fRange3 fl δ = (fl δ).bind fun ds => R.of (dRange3 ds) := rfl
theorem dRange3_e {i j c : Int} (h : rg3Ok i j c = true) : dRange3 [.int i, .int j, .int c] = some (dInt3 i c (Builtin.Range.rangeSize i j c).toNat) := if_pos h
theorem fLc2_e {fi : FL} {i : Nat} {t : FB} {fi1 : FL} {i1 : Nat} {t1 : FB} {f : FE} {δ : DSt} : fLc2 fi i t fi1 i1 t1 f δ = (fi δ).bind fun ds => (lc2F i t fi1 i1 t1 f (δ.set i1 .un) ds []).bind fun es => .ok (.lst es) := by
  unfold fLc2 fLc2L
  cases fi δ <;> rfl
theorem fCallK_e {ks : List Str} {G : List D → R D} {fl fk : FL} {δ : DSt} : fCallK ks G fl fk δ = (fl δ).bind fun ds => (fk δ).bind fun es => rCallK ks G ds es := rfl
theorem fCallO_e {c : Str} {G : List D → R D} {fo : FE} {fl : FL} {δ : DSt} : fCallO c G fo fl δ = (fo δ).bind (rCallO c G fl δ) := rfl
theorem rCallO_e {c : Str} {G : List D → R D} {fl : FL} {δ : DSt} {xs : List D} : rCallO c G fl δ (.obj c xs) = (fl δ).bind fun ds => G (.obj c xs :: ds) := if_pos (decide_eq_true rfl)
theorem fBin_e {c : Str} {G : List D → R D} {f g : FE} {δ : DSt} : fBin c G f g δ = (f δ).bind fun x => (g δ).bind fun y => rBin c G x y := rfl
theorem rBin_e {c : Str} {G : List D → R D} {xs ys : List D} : rBin c G (.obj c xs) (.obj c ys) = G [.obj c xs, .obj c ys] := by
  unfold rBin isOb
  simp
theorem fDic0_e {δ : DSt} : fDic0 δ = .ok (.dic [] []) := rfl
theorem fCallV_e {tb : Tb} {i : Nat} {fl : FL} {δ : DSt} : fCallV tb i fl δ = (fVar i δ).bind fun d => (R.of (tbOf tb d)).bind fun G => (fl δ).bind G := rfl
def oStore : Option DSt → O
  | some δ => .nx δ
  | none => .bad
theorem oStore_s {δ : DSt} : oStore (some δ) = .nx δ := rfl
theorem oAsg_e2 {p : FP} {δ : DSt} {d : D} : oAsg p δ d = oStore (p δ d) := by
  unfold oAsg oStore
  cases p δ d <;> rfl
theorem isT_NoneType_bool : isT "NoneType" "bool" = false := by decide
theorem isT_NoneType_int : isT "NoneType" "int" = false := by decide
theorem isT_NoneType_str : isT "NoneType" "str" = false := by decide
theorem isT_NoneType_list : isT "NoneType" "list" = false := by decide
theorem isT_NoneType_tuple : isT "NoneType" "tuple" = false := by decide
theorem isT_bool_bool : isT "bool" "bool" = true := by decide
theorem isT_bool_int : isT "bool" "int" = true := by decide
theorem isT_bool_str : isT "bool" "str" = false := by decide
theorem isT_bool_list : isT "bool" "list" = false := by decide
theorem isT_bool_tuple : isT "bool" "tuple" = false := by decide
theorem isT_int_bool : isT "int" "bool" = false := by decide
theorem isT_int_int : isT "int" "int" = true := by decide
theorem isT_int_str : isT "int" "str" = false := by decide
theorem isT_int_list : isT "int" "list" = false := by decide
theorem isT_int_tuple : isT "int" "tuple" = false := by decide
theorem isT_str_bool : isT "str" "bool" = false := by decide
theorem isT_str_int : isT "str" "int" = false := by decide
theorem isT_str_str : isT "str" "str" = true := by decide
theorem isT_str_list : isT "str" "list" = false := by decide
theorem isT_str_tuple : isT "str" "tuple" = false := by decide
theorem isT_list_bool : isT "list" "bool" = false := by decide
theorem isT_list_int : isT "list" "int" = false := by decide
theorem isT_list_str : isT "list" "str" = false := by decide
theorem isT_list_list : isT "list" "list" = true := by decide
theorem isT_list_tuple : isT "list" "tuple" = false := by decide
theorem isT_tuple_bool : isT "tuple" "bool" = false := by decide
theorem isT_tuple_int : isT "tuple" "int" = false := by decide
theorem isT_tuple_str : isT "tuple" "str" = false := by decide
theorem isT_tuple_list : isT "tuple" "list" = false := by decide
theorem isT_tuple_tuple : isT "tuple" "tuple" = true := by decide
theorem lim64_by {i : Int} (h : i.natAbs < 18446744073709551616) : lim 64 i = true := lim_by h
theorem fdiv_by {j : Int} (h : 0 < j) (k : j < 1073741824) : 0 < j ∧ j < 1073741824 := ⟨h, k⟩
theorem log_by {i : Int} (h : i.natAbs < 18446744073709551616) : i.natAbs.log2 < 1920 := by
  by_cases z : i.natAbs = 0
  · rw [z]; decide
  · have := (Nat.log2_lt (k := 64) z).mpr h
    omega
theorem dEqB_self {d : D} (h : Eqb 64 d) : dEqB d d = some true := dEqB_refl h
end DL

namespace LW
open PySem PySem.Spec PyProof.Rows DL
local macro_rules | `(tactic| walk_at "sz") => `(tactic| first | assumption | exact fdiv_by (by omega) (by omega) | omega | exact lim64_by (by omega) | exact okLe_by (by simp only [List.length_append, List.length_cons, List.length_nil, List.length_map]; omega) | exact okLt_by (by simp only [List.length_append, List.length_cons, List.length_nil, List.length_map]; omega) | exact mulOk_l (by assumption) | exact mulOk_r (by assumption) | exact mulOk_l (lim64_by (by omega)) | exact mulOk_r (lim64_by (by omega)) | exact log_by (by omega) | (refine Eqb.lst ?_; repeat (first | exact EqbL.nil _ | refine EqbL.cons (Eqb.int _ _) ?_)) | (refine Eqb.tup ?_; repeat (first | exact EqbL.nil _ | refine EqbL.cons (Eqb.int _ _) ?_)))
local macro_rules | `(tactic| walk_at "e2") => `(tactic| simp (disch := walk_at "sz") only [R.bind_ok, R.bind_bad, R.bind_exc, R.of_some, R.of_none, O.on_ok, O.on_bad, O.on_exc, fVar_0, fVar_s, fOwn_0, fOwn_s, fC_e, fU_e, fB_e, fNil_e, fCons_e, fL_e, fCall_e, fTup_e, fLst_e, rIf_t, rIf_f, fIf_e, tBl_e, fTest_e, fTru_e, fNotB_e, fAndB_e, fOrB_e, fVal_e, fAnd_e, fOr_e, fNo_e, tInt_e, fSome_e, fSl_e, fSlOw_e, fLenOw_e, fIxOw_e, fInOw_e, thn_nx, thn_rt, thn_bk, thn_ct, thn_exc, thn_bad, fSeq_e, oIf_t, oIf_f, oIf_exc, fIfS_e, fSkip_e, fRet_e, fExp_e, fSet_e, fNew_e, fApp_e, fExt_e, fPop_e, fPut_e, fFrz_e, frz_0o, frz_s, fFor_e, fItems_e, fRange_e, fAsg_e, oMat_e, fMatch_e, fAug_e, fin_rt, fin_nx, fin_exc, runD_e, pName_e, pNil_e, pCons_e, pTup_e, dAdd_ii, dAdd_ss, dAdd_ll, dAdd_tt, dSub_ii, dMul_ii, dMul_li, dFdiv_ii, dMod_ii, dNeg_i, dLt_ii, dLe_ii, dGt_ii, dGe_ii, dIx_l, dIx_t, dIx_c, dIx_s, dLen_l, dLen_t, dLen_c, dLen_s, dAbs_i, dMax2_ii, dMin2_ii, dInt_i, dStr_i, dStr_s, dList_l, dList_t, dTuple_l, dTuple_t, dCut_l, dCut_t, dItems_l, dItems_t, dItems_s, dRange_1, dRange_2, dIsN_e, dNotN_e, isNon_n, isNon_b, isNon_i, isNon_s, isNon_t, isNon_l, isNon_o, dIsi_n, dIsi_b, dIsi_i, dIsi_s, dIsi_t, dIsi_l, dIn_e, dNotIn_e, dEqB_ss, dEqB_ii, dInB_strs, dInB_strsT, dEq_e, dNe_e, beq_self_eq_true, List.set_cons_zero, List.set_cons_succ, List.length_cons, List.length_nil, List.length_map, List.length_append, Option.map_some, Option.map_none, Option.bind_some, Option.bind_none, if_true, if_false, ite_true, ite_false, decide_true, decide_false, and_self, true_and, and_true, Int.zero_add, Int.toNat_natCast, cut_tl, cut_all, List.map_append, List.map_cons, List.map_nil, List.nil_append, List.cons_append, List.append_nil, List.replicate, Int.reduceLT, Int.reduceLE, Int.reduceAdd, Int.reduceSub, Int.reduceMul, Int.reduceNeg, Int.reduceToNat, Nat.reduceAdd, Nat.reduceSub, Nat.reduceLT, Nat.reduceLeDiff, Nat.reduceMul, Int.reduceEq, Nat.reduceEqDiff, Bool.not_true, Bool.not_false, Bool.and_true, Bool.true_and, Bool.and_false, Bool.false_and, Bool.or_true, Bool.true_or, Bool.or_false, Bool.false_or, Bool.and_self, Bool.or_self, reduceCtorEq, decide_eq_true_eq, Bool.false_eq_true, fLc_e, fLcL_e, lcF_nil, fJoin_e, rJoin_e, dJoin_l, oPop_ok, oPop_2, oPop_1, cast_0, cast_1, cast_2, cast_3, at_0, at_1, at_2, at_3, at_4, at_5, at_6, Int.reduceBEq, Nat.reduceBEq, oApp_ok, oExt_ok, fProp_e, rProp_e, quiet_ok, dSlot_e, fMakeSK_e, rMakeN_e, rNum_e, gMrg_e, mrg_t, mrg_f, mrg_n, fMethF_e, rMethF_e, dIntS_i, dAddS_ii, dAddS_ss, dGcd_ii, dLcm_ii, dLcm_iii, dEqB_self, at_7, at_8, at_9, at_10, at_11, at_12, at_13, at_14, at_15, at_m1, cut_toL, cut_fromL, cut_btw, List.take_succ_cons, List.take_zero, List.drop_succ_cons, List.drop_zero, List.take_nil, List.drop_nil, isT_NoneType_bool, isT_NoneType_int, isT_NoneType_str, isT_NoneType_list, isT_NoneType_tuple, isT_bool_bool, isT_bool_int, isT_bool_str, isT_bool_list, isT_bool_tuple, isT_int_bool, isT_int_int, isT_int_str, isT_int_list, isT_int_tuple, isT_str_bool, isT_str_int, isT_str_str, isT_str_list, isT_str_tuple, isT_list_bool, isT_list_int, isT_list_str, isT_list_list, isT_list_tuple, isT_tuple_bool, isT_tuple_int, isT_tuple_str, isT_tuple_list, isT_tuple_tuple, fSlS_e, dPick_l, fRange3_e, dRange3_e, fLc2_e, fCallK_e, fCallO_e, rCallO_e, fBin_e, rBin_e, oStore_s, oAsg_e2, fDic0_e, fCallV_e, List.getElem?_cons_zero, List.getElem?_cons_succ, *])
local macro_rules | `(tactic| walk_at "ev") => `(tactic| simp only [R.bind_ok, R.bind_bad, R.bind_exc, R.of_some, R.of_none, O.on_ok, O.on_bad, O.on_exc, fVar_0, fVar_s, fOwn_0, fOwn_s, fC_e, fU_e, fB_e, fNil_e, fCons_e, fL_e, fCall_e, fTup_e, fLst_e, rIf_t, rIf_f, fIf_e, tBl_e, fTest_e, fTru_e, fNotB_e, fAndB_e, fOrB_e, fVal_e, fAnd_e, fOr_e, fNo_e, tInt_e, fSome_e, fSl_e, fSlOw_e, fLenOw_e, fIxOw_e, fInOw_e, thn_nx, thn_rt, thn_bk, thn_ct, thn_exc, thn_bad, fSeq_e, oIf_t, oIf_f, oIf_exc, fIfS_e, fSkip_e, fRet_e, fExp_e, fSet_e, fNew_e, fApp_e, fExt_e, fPop_e, fPut_e, fFrz_e, frz_0o, frz_s, fFor_e, fItems_e, fRange_e, fAsg_e, oMat_e, fMatch_e, fAug_e, fin_rt, fin_nx, fin_exc, runD_e, pName_e, pNil_e, pCons_e, pTup_e, dAdd_ii, dAdd_ss, dAdd_ll, dAdd_tt, dSub_ii, dMul_ii, dMul_li, dFdiv_ii, dMod_ii, dNeg_i, dLt_ii, dLe_ii, dGt_ii, dGe_ii, dIx_l, dIx_t, dIx_c, dIx_s, dLen_l, dLen_t, dLen_c, dLen_s, dAbs_i, dMax2_ii, dMin2_ii, dInt_i, dStr_i, dStr_s, dList_l, dList_t, dTuple_l, dTuple_t, dCut_l, dCut_t, dItems_l, dItems_t, dItems_s, dRange_1, dRange_2, dIsN_e, dNotN_e, isNon_n, isNon_b, isNon_i, isNon_s, isNon_t, isNon_l, isNon_o, dIsi_n, dIsi_b, dIsi_i, dIsi_s, dIsi_t, dIsi_l, dIn_e, dNotIn_e, dEqB_ss, dEqB_ii, dInB_strs, dInB_strsT, dEq_e, dNe_e, beq_self_eq_true, List.set_cons_zero, List.set_cons_succ, List.length_cons, List.length_nil, List.length_map, List.length_append, Option.map_some, Option.map_none, Option.bind_some, Option.bind_none, if_true, if_false, ite_true, ite_false, decide_true, decide_false, and_self, true_and, and_true, Int.zero_add, Int.toNat_natCast, cut_tl, cut_all, List.map_append, List.map_cons, List.map_nil, List.nil_append, List.cons_append, List.append_nil, List.replicate, Int.reduceLT, Int.reduceLE, Int.reduceAdd, Int.reduceSub, Int.reduceMul, Int.reduceNeg, Int.reduceToNat, Nat.reduceAdd, Nat.reduceSub, Nat.reduceLT, Nat.reduceLeDiff, Nat.reduceMul, Int.reduceEq, Nat.reduceEqDiff, Bool.not_true, Bool.not_false, Bool.and_true, Bool.true_and, Bool.and_false, Bool.false_and, Bool.or_true, Bool.true_or, Bool.or_false, Bool.false_or, Bool.and_self, Bool.or_self, reduceCtorEq, decide_eq_true_eq, Bool.false_eq_true, fLc_e, fLcL_e, lcF_nil, fJoin_e, rJoin_e, dJoin_l, oPop_ok, oPop_2, oPop_1, cast_0, cast_1, cast_2, cast_3, at_0, at_1, at_2, at_3, at_4, at_5, at_6, Int.reduceBEq, Nat.reduceBEq, oApp_ok, oExt_ok, fProp_e, rProp_e, quiet_ok, dSlot_e, fMakeSK_e, rMakeN_e, rNum_e, gMrg_e, mrg_t, mrg_f, mrg_n, fMethF_e, rMethF_e, dIntS_i, dAddS_ii, dAddS_ss, dGcd_ii, dLcm_ii, dLcm_iii, at_7, at_8, at_9, at_10, at_11, at_12, at_13, at_14, at_15, isT_NoneType_bool, isT_NoneType_int, isT_NoneType_str, isT_NoneType_list, isT_NoneType_tuple, isT_bool_bool, isT_bool_int, isT_bool_str, isT_bool_list, isT_bool_tuple, isT_int_bool, isT_int_int, isT_int_str, isT_int_list, isT_int_tuple, isT_str_bool, isT_str_int, isT_str_str, isT_str_list, isT_str_tuple, isT_list_bool, isT_list_int, isT_list_str, isT_list_list, isT_list_tuple, isT_tuple_bool, isT_tuple_int, isT_tuple_str, isT_tuple_list, isT_tuple_tuple, fSlS_e, dPick_l, fRange3_e, dRange3_e, fLc2_e, fCallK_e, fCallO_e, rCallO_e, fBin_e, rBin_e, oStore_s, oAsg_e2, fDic0_e, fCallV_e, List.getElem?_cons_zero, List.getElem?_cons_succ, *])
local macro_rules | `(tactic| walk_at "rd") => `(tactic| simp (disch := walk_at "sz") only [R.bind_ok, R.bind_bad, R.bind_exc, R.of_some, R.of_none, O.on_ok, O.on_bad, O.on_exc, fVar_0, fVar_s, fOwn_0, fOwn_s, fC_e, fU_e, fB_e, fNil_e, fCons_e, fL_e, fCall_e, fTup_e, fLst_e, rIf_t, rIf_f, fIf_e, tBl_e, fTest_e, fTru_e, fNotB_e, fAndB_e, fOrB_e, fVal_e, fAnd_e, fOr_e, fNo_e, tInt_e, fSome_e, fSl_e, fSlOw_e, fLenOw_e, fIxOw_e, fInOw_e, thn_nx, thn_rt, thn_bk, thn_ct, thn_exc, thn_bad, fSeq_e, oIf_t, oIf_f, oIf_exc, fIfS_e, fSkip_e, fRet_e, fExp_e, fSet_e, fNew_e, fApp_e, fExt_e, fPop_e, fPut_e, fFrz_e, frz_0o, frz_s, fFor_e, fItems_e, fRange_e, fAsg_e, oMat_e, fMatch_e, fAug_e, fin_rt, fin_nx, fin_exc, runD_e, pName_e, pNil_e, pCons_e, pTup_e, dAdd_ii, dAdd_ss, dAdd_ll, dAdd_tt, dSub_ii, dMul_ii, dMul_li, dFdiv_ii, dMod_ii, dNeg_i, dLt_ii, dLe_ii, dGt_ii, dGe_ii, dIx_l, dIx_t, dIx_c, dIx_s, dLen_l, dLen_t, dLen_c, dLen_s, dAbs_i, dMax2_ii, dMin2_ii, dInt_i, dStr_i, dStr_s, dList_l, dList_t, dTuple_l, dTuple_t, dCut_l, dCut_t, dItems_l, dItems_t, dItems_s, dRange_1, dRange_2, dIsN_e, dNotN_e, isNon_n, isNon_b, isNon_i, isNon_s, isNon_t, isNon_l, isNon_o, dIsi_n, dIsi_b, dIsi_i, dIsi_s, dIsi_t, dIsi_l, dIn_e, dNotIn_e, dEqB_ss, dEqB_ii, dInB_strs, dInB_strsT, dEq_e, dNe_e, beq_self_eq_true, List.set_cons_zero, List.set_cons_succ, List.length_cons, List.length_nil, List.length_map, List.length_append, Option.map_some, Option.map_none, Option.bind_some, Option.bind_none, if_true, if_false, ite_true, ite_false, decide_true, decide_false, and_self, true_and, and_true, Int.zero_add, Int.toNat_natCast, cut_tl, cut_all, List.map_append, List.map_cons, List.map_nil, List.nil_append, List.cons_append, List.append_nil, List.replicate, Int.reduceLT, Int.reduceLE, Int.reduceAdd, Int.reduceSub, Int.reduceMul, Int.reduceNeg, Int.reduceToNat, Nat.reduceAdd, Nat.reduceSub, Nat.reduceLT, Nat.reduceLeDiff, Nat.reduceMul, Int.reduceEq, Nat.reduceEqDiff, Bool.not_true, Bool.not_false, Bool.and_true, Bool.true_and, Bool.and_false, Bool.false_and, Bool.or_true, Bool.true_or, Bool.or_false, Bool.false_or, Bool.and_self, Bool.or_self, reduceCtorEq, decide_eq_true_eq, Bool.false_eq_true, fLc_e, fLcL_e, lcF_nil, fJoin_e, rJoin_e, dJoin_l, oPop_ok, oPop_2, oPop_1, cast_0, cast_1, cast_2, cast_3, at_0, at_1, at_2, at_3, at_4, at_5, at_6, Int.reduceBEq, Nat.reduceBEq, oApp_ok, oExt_ok, fProp_e, rProp_e, quiet_ok, dSlot_e, fMakeSK_e, rMakeN_e, rNum_e, gMrg_e, mrg_t, mrg_f, mrg_n, fMethF_e, rMethF_e, dIntS_i, dAddS_ii, dAddS_ss, dGcd_ii, dLcm_ii, dLcm_iii, dEqB_self, at_7, at_8, at_9, at_10, at_11, at_12, at_13, at_14, at_15, at_m1, cut_toL, cut_fromL, cut_btw, List.take_succ_cons, List.take_zero, List.drop_succ_cons, List.drop_zero, List.take_nil, List.drop_nil, isT_NoneType_bool, isT_NoneType_int, isT_NoneType_str, isT_NoneType_list, isT_NoneType_tuple, isT_bool_bool, isT_bool_int, isT_bool_str, isT_bool_list, isT_bool_tuple, isT_int_bool, isT_int_int, isT_int_str, isT_int_list, isT_int_tuple, isT_str_bool, isT_str_int, isT_str_str, isT_str_list, isT_str_tuple, isT_list_bool, isT_list_int, isT_list_str, isT_list_list, isT_list_tuple, isT_tuple_bool, isT_tuple_int, isT_tuple_str, isT_tuple_list, isT_tuple_tuple, fSlS_e, dPick_l, fRange3_e, dRange3_e, fLc2_e, fCallK_e, fCallO_e, rCallO_e, fBin_e, rBin_e, oStore_s, oAsg_e2, fDic0_e, fCallV_e, List.getElem?_cons_zero, List.getElem?_cons_succ, runM_e, finM_rt, finM_nx, self_r, fld_at, fld_depth, fld_toks, step_at, step_in, step_out, meth_number, meth_name, meth_name_list, meth_sign, meth_row, meth_arm, meth_part, meth_cut, meth_other, rmeth_r, fPure_e, fNilX_e, fConsX_e, fTupX_e, fRetX_e, fExpX_e, fSetX_e, fNewX_e, oAppX_e, fAppX_e, view_tok, *])
theorem pow18 : dPow (.int 10) (.int 18) = some (.int 1000000000000000000) := by
  have h : powOk 10 18 = true := by decide
  show (if powOk 10 18 = true then some (D.int (10 ^ Int.toNat 18)) else none) = _
  rw [if_pos h]
  rfl
theorem small20 : small62 20 = true := by decide
def Dr (ds : List Int) : Prop := ∀ d ∈ ds, 0 ≤ d ∧ d < 1000000
theorem Dr.nil : Dr [] := fun _ h => by cases h
theorem Dr.app {ds : List Int} {d : Int} (h : Dr ds) (h0 : 0 ≤ d) (h1 : d < 1000000) : Dr (ds ++ [d]) := fun e he => by
  rcases List.mem_append.mp he with q | q
  · exact h e q
  · cases List.mem_singleton.mp q; exact ⟨h0, h1⟩
theorem draws_in (a b : DS) (c0 : Int) (ds : List Int) (s3 s5 s6 : DS) (hc : 0 ≤ c0) (hd : Dr ds) (hl : ds.length ≤ 10000) : ∃ ds' c' s5', Dr ds' ∧ ds'.length ≤ ds.length + 20 ∧
    loopF (pName 5) l1__law_draws (dInts 0 20) [a, b, .ow (ds.map .int), s3, .fz (.int c0), s5, s6] = .nx [a, b, .ow (ds'.map .int), s3, .fz (.int c'), s5', s6] := by
  obtain ⟨δ', h1, ds', c', s5', h2, h3, h4, h5⟩ := loopF_range (put := pName 5) (body := l1__law_draws) (lo := 0) (n := 20) (δ := [a, b, .ow (ds.map .int), s3, .fz (.int c0), s5, s6])
    (fun k δ => ∃ (ds' : List Int) (c' : Int) (s5' : DS), Dr ds' ∧ ds'.length ≤ ds.length + k ∧ 0 ≤ c' ∧ δ = [a, b, .ow (ds'.map .int), s3, .fz (.int c'), s5', s6])
    ⟨ds, c0, s5, hd, Nat.le_refl _, hc, rfl⟩ (fun k δ hk h => by
      obtain ⟨ds', c', s5', h1, h2, h3, rfl⟩ := h
      have hlt : okLt ds'.length = true := okLt_by (by omega)
      refine ⟨_, rfl, ?_⟩
      by_cases z : (0 : Int) < c'
      · refine ⟨[a, b, .ow ((ds' ++ [c' % 1000000]).map .int), s3, .fz (.int (c' / 1000000)), .fz (.int (0 + (k : Nat))), s6], .inl ?_, _, _, _, h1.app (by omega) (by omega), by simp; omega, by omega, rfl⟩
        unfold l1__law_draws
        walk_at "ev"
      · refine ⟨[a, b, .ow (ds'.map .int), s3, .fz (.int (c' / 1000000)), .fz (.int (0 + (k : Nat))), s6], .inl ?_, _, _, _, h1, by omega, by omega, rfl⟩
        unfold l1__law_draws
        walk_at "ev")
  exact ⟨ds', c', s5', h2, h3, by rw [h1, h5]⟩
theorem draws_ok (ns : List Int) (hn : ns.length ≤ 63) (m : Nat) (hm : m ≤ 1000) : ∃ ds : List Int, ds.length = m ∧ Dr ds ∧ m__law_draws [.scr (ns.map .int), .int m] = .ok (.lst (ds.map .int)) := by
  obtain ⟨δ', h1, ds', s3, s4, s5, s6, h2, h3, h4⟩ := loopF_range (put := pName 3) (body := l2__law_draws) (lo := 0) (n := ns.length) (δ := [.fz (.scr (ns.map .int)), .fz (.int m), .ow (([] : List Int).map .int), .un, .un, .un, .un])
    (fun k δ => ∃ (ds' : List Int) (s3 s4 s5 s6 : DS), Dr ds' ∧ ds'.length ≤ 20 * k ∧ δ = [.fz (.scr (ns.map .int)), .fz (.int m), .ow (ds'.map .int), s3, s4, s5, s6])
    ⟨[], _, _, _, _, Dr.nil, Nat.le_refl _, rfl⟩ (fun k δ hk h => by
      obtain ⟨ds', s3, s4, s5, s6, h1, h2, rfl⟩ := h
      refine ⟨_, rfl, ?_⟩
      have hat : L2.atI (ns.map D.int) (k : Nat) = some (.int ns[k]) := L2.atI_nat (by rw [List.getElem?_map, List.getElem?_eq_getElem hk]; rfl)
      generalize hc : (if ns[k] < 0 then -ns[k] else ns[k]) = c
      have hc0 : 0 ≤ c := by rw [← hc]; split <;> omega
      have p18 := pow18
      by_cases z : (1000000000000000000 : Int) ≤ c
      · obtain ⟨ds2, c', s5', g1, g2, g3⟩ := draws_in (.fz (.scr (ns.map .int))) (.fz (.int m)) c ds' (.fz (.int (k : Nat))) s5 s6 hc0 h1 (by omega)
        refine ⟨[.fz (.scr (ns.map .int)), .fz (.int m), .ow (ds2.map .int), .fz (.int (k : Nat)), .fz (.int c'), s5', s6], .inl ?_, ds2, _, _, _, _, g1, by omega, rfl⟩
        have s20 := small20
        unfold l2__law_draws
        walk_at "ev"
      · have hlt : okLt ds'.length = true := okLt_by (by omega)
        have l1 : mulOk c 48271 = true := mulOk_r (by decide)
        have l2 : mulOk (k : Nat) 7919 = true := mulOk_r (by decide)
        have m1 : 0 ≤ (c * 48271 + (k : Nat) * 7919 + 1) % 2147483647 := by omega
        have m2 : (c * 48271 + (k : Nat) * 7919 + 1) % 2147483647 < 2147483647 := by omega
        generalize hx : (c * 48271 + (k : Nat) * 7919 + 1) % 2147483647 = x at m1 m2
        have l3 : mulOk x x = true := mulOk_l (lim_by (by show x.natAbs < 18446744073709551616; omega))
        refine ⟨[.fz (.scr (ns.map .int)), .fz (.int m), .ow ((ds' ++ [x * x % 2147483629 % 1000000]).map .int), .fz (.int (k : Nat)), .fz (.int c), s5, .fz (.int x)], .inl ?_, _, _, _, _, _, h1.app (by omega) (by omega), by simp; omega, rfl⟩
        unfold l2__law_draws
        walk_at "ev")
  refine ⟨(ds' ++ List.replicate m 0).take m, by simp, fun d hd => ?_, ?_⟩
  · rcases List.mem_append.mp (List.mem_of_mem_take hd) with q | q
    · exact h2 d q
    · rw [List.eq_of_mem_replicate q]; decide
  · have lt : (if (63 : Int) < (ns.length : Nat) then (63 : Int) else (ns.length : Nat)) = (ns.length : Nat) := by split <;> omega
    have sm : small62 (ns.length : Nat) = true := small62_by (by omega)
    have ro : repOk 1 m = true := repOk_by (lim_by (by show Int.natAbs _ < 9223372036854775808; omega)) (by omega)
    have ro2 : okLe (ds'.length + (List.replicate m [D.int 0]).flatten.length) = true := okLe_by (by rw [flat_one, List.length_replicate]; omega)
    subst h4
    rw [List.map_nil] at h1
    unfold m__law_draws b__law_draws
    walk_at "ev"
    rw [cut_to, flat_one, map_rep, List.map_take, List.map_append]
def drl (dr : Nat → Int) (a n : Nat) : List D := (List.range n).map fun k => D.int (dr (a + k))
def DrF (dr : Nat → Int) : Prop := ∀ k, 0 ≤ dr k ∧ dr k < 1000000
theorem drl_at {dr : Nat → Int} {a n : Nat} {i : Int} (h0 : 0 ≤ i) (h : i < n) : L2.atI (drl dr a n) i = some (.int (dr (a + i.toNat))) := by
  obtain ⟨k, rfl⟩ := Int.eq_ofNat_of_zero_le h0
  have hk : k < n := by omega
  refine L2.atI_nat (j := k) ?_
  unfold drl
  simp [hk]
theorem draws_fn (ns : List Int) (hn : ns.length ≤ 63) (m : Nat) (hm : m ≤ 1000) : ∃ dr : Nat → Int, DrF dr ∧ m__law_draws [.scr (ns.map .int), .int m] = .ok (.lst (drl dr 0 m)) := by
  obtain ⟨ds, hl, hd, e⟩ := draws_ok ns hn m hm
  refine ⟨fun k => ds.getD k 0, fun k => ?_, ?_⟩
  · by_cases h : k < ds.length
    · have := hd ds[k] (List.getElem_mem h)
      simp only [List.getD_eq_getElem?_getD, List.getElem?_eq_getElem h, Option.getD_some]
      exact this
    · simp only [List.getD_eq_getElem?_getD, List.getElem?_eq_none (Nat.le_of_not_lt h), Option.getD_none]
      omega
  · rw [e]
    refine congrArg (fun l => R.ok (D.lst l)) ?_
    refine List.ext_getElem? fun k => ?_
    unfold drl
    rw [List.getElem?_map, List.getElem?_map]
    by_cases h : k < m
    · rw [List.getElem?_range h]
      simp [List.getElem?_eq_getElem (hl ▸ h)]
    · rw [List.getElem?_eq_none (by omega), List.getElem?_eq_none (by simp; omega)]
      rfl
end LW
namespace DL
open PySem PySem.Spec PyProof.Rows
theorem sok_of (s : String) : Sok (Str.ofString s) := by
  rw [PySem.Str.ofString_eq_toList]
  show Array.all _ _ = true
  rw [← Array.all_toList]
  refine List.all_eq_true.mpr fun n hn => ?_
  obtain ⟨c, _, rfl⟩ := List.mem_map.mp hn
  refine decide_eq_true ?_
  have := c.valid
  show c.val.toNat < 0x110000
  rcases this with h | h
  · have : c.val.toNat < 0xd800 := h
    omega
  · exact h.2
theorem log_lt' {n k : Nat} (h : n < 2 ^ (k + 1)) : n.log2 < k + 1 := by
  by_cases z : n = 0
  · subst z; simp
  · exact (Nat.log2_lt z).mpr h
theorem len_int {i : Int} (h : i.natAbs < 18446744073709551616) : (Str.ofString (toString i)).length ≤ 65 := by
  rw [PySem.ofString_length]
  exact Nat.le_trans (PySem.int_text_length_le (k := 64) (by decide) (log_lt' (k := 63) h)) (by decide)
theorem lc_range {i : Nat} {f : FE} {δ : DSt} {n : Nat} {h : Nat → D} (hf : ∀ k, k < n → f (δ.set i (.fz (.int (0 + (k : Nat))))) = .ok (h k)) (hn : n ≤ 16777215) : lcF i fYes f δ (dInts 0 n) [] = .ok ((List.range n).map h) := by
  have := lcF_all (i := i) (f := f) (δ := δ) (g := fun k : Nat => D.int (0 + (k : Int))) (h := h) (xs := List.range n) (acc := []) (fun k hk => hf k (List.mem_range.mp hk)) (by rw [List.length_range]; simpa using hn)
  simpa [dInts] using this
theorem lc_rangeL {i : Nat} {f : FE} {δ : DSt} {lo : Int} {n : Nat} {h : Nat → D} (hf : ∀ k, k < n → f (δ.set i (.fz (.int (lo + (k : Nat))))) = .ok (h k)) (hn : n ≤ 16777215) : lcF i fYes f δ (dInts lo n) [] = .ok ((List.range n).map h) := by
  have := lcF_all (i := i) (f := f) (δ := δ) (g := fun k : Nat => D.int (lo + (k : Int))) (h := h) (xs := List.range n) (acc := []) (fun k hk => hf k (List.mem_range.mp hk)) (by rw [List.length_range]; simpa using hn)
  simpa [dInts] using this
end DL

namespace DL
open PySem PySem.Spec PyProof.Rows
def Is {α : Type} (r : R α) (v : α) : Prop := r = .ok v
theorem Is.mk {α : Type} {r : R α} {d v : α} (h : r = .ok d) (k : d = v) : Is r v := k ▸ h
theorem Is.get {α : Type} {r : R α} {v : α} (h : Is r v) : r = .ok v := h
def SetA (δ : DSt) (i : Nat) (s : DS) (δ' : DSt) : Prop := δ.set i s = δ'
theorem set_0 {a s : DS} {r : DSt} : SetA (a :: r) 0 s (s :: r) := rfl
theorem set_s {a s : DS} {r r' : DSt} {i : Nat} (h : SetA r i s r') : SetA (a :: r) (i + 1) s (a :: r') := by
  unfold SetA at *
  rw [List.set_cons_succ, h]
structure IsAt (f : FE) (δ : DSt) (i : Nat) (s : DS) (v : D) : Prop where
  get : f (δ.set i s) = .ok v
theorem IsAt.mk' {f : FE} {δ δ' : DSt} {i : Nat} {s : DS} {d v : D} (h1 : SetA δ i s δ') (h2 : f δ' = .ok d) (h3 : d = v) : IsAt f δ i s v := ⟨by
  unfold SetA at h1
  rw [h1, h2, h3]⟩
structure TsAt (f : FB) (δ : DSt) (i : Nat) (s : DS) (v : Bool) : Prop where
  get : f (δ.set i s) = .ok v
theorem TsAt.mk' {f : FB} {δ δ' : DSt} {i : Nat} {s : DS} {d v : Bool} (h1 : SetA δ i s δ') (h2 : f δ' = .ok d) (h3 : d = v) : TsAt f δ i s v := ⟨by
  unfold SetA at h1
  rw [h1, h2, h3]⟩
theorem isR {α : Type} {r s : R α} (h : r = s) : r = s := h
theorem isS {α : Type} {r s : Option α} (h : r = s) : r = s := h
theorem isO {r s : O} (h : r = s) : r = s := h
theorem hyp_T {b : Bool} (h : b = true) : b = true := h
theorem hyp_F {b : Bool} (h : b = false) : b = false := h
theorem hyp_ok {α : Type} {r : R α} {v : α} (h : r = .ok v) : r = .ok v := h
theorem hyp_exc {α : Type} {r : R α} {n : Str} {xs : List D} (h : r = .exc n xs) : r = .exc n xs := h
theorem hyp_so {α : Type} {r : Option α} {v : α} (h : r = some v) : r = some v := h
theorem hyp_e {n : Nat} {d : D} (h : Eqb n d) : Eqb n d := h
theorem hyp_o {r v : O} (h : r = v) : r = v := h
section
variable {f g : FE} {fl : FL} {δ δ' : DSt} {x y z d : D} {ds xs es : List D} {b c : Bool} {s : DS} {i : Nat} {t u : FB}
theorem v_C : fC d δ = .ok d := rfl
theorem v_var0 {r : DSt} : fVar 0 (.fz d :: r) = .ok d := rfl
theorem v_varS {r : DSt} (h : fVar i r = .ok d) : fVar (i + 1) (s :: r) = .ok d := h
theorem v_own0 {r : DSt} : fOwn 0 (.ow ds :: r) = .ok ds := rfl
theorem v_ownS {r : DSt} (h : fOwn i r = .ok ds) : fOwn (i + 1) (s :: r) = .ok ds := h
theorem v_U {F : D → Option D} (h : f δ = .ok x) (k : F x = some y) : fU F f δ = .ok y := by rw [fU_e, h, R.bind_ok, k]; rfl
theorem v_B {F : D → D → Option D} (h : f δ = .ok x) (k : g δ = .ok y) (l : F x y = some z) : fB F f g δ = .ok z := by rw [fB_e, h, R.bind_ok, k, R.bind_ok, l]; rfl
theorem v_Nil : fNil δ = .ok [] := rfl
theorem v_Cons (h : f δ = .ok x) (k : fl δ = .ok xs) : fCons f fl δ = .ok (x :: xs) := by rw [fCons_e, h, R.bind_ok, k]; rfl
theorem v_L {F : List D → Option D} (h : fl δ = .ok xs) (k : F xs = some y) : fL F fl δ = .ok y := by rw [fL_e, h, R.bind_ok, k]; rfl
theorem v_Call {F : List D → R D} (h : fl δ = .ok xs) (k : F xs = .ok y) : fCall F fl δ = .ok y := by rw [fCall_e, h]; exact k
theorem v_Tup (h : fl δ = .ok xs) : fTup fl δ = .ok (.tup xs) := by rw [fTup_e, h]; rfl
theorem v_Lst (h : fl δ = .ok xs) : fLst fl δ = .ok (.lst xs) := by rw [fLst_e, h]; rfl
theorem v_IfT (h : t δ = .ok b) (hb : b = true) (k : f δ = .ok x) : fIf t f g δ = .ok x := by subst hb; rw [fIf_e, h]; exact k
theorem v_IfF (h : t δ = .ok b) (hb : b = false) (k : g δ = .ok x) : fIf t f g δ = .ok x := by subst hb; rw [fIf_e, h]; exact k
def mrgD (b : Bool) (x y z : D) : Prop := (if b = true then x else y) = z
theorem mrg_i {i j : Int} : mrgD b (.int i) (.int j) (.int (if b = true then i else j)) := by unfold mrgD; split <;> rfl
theorem mrg_l : mrgD b (.lst xs) (.lst es) (.lst (if b = true then xs else es)) := by unfold mrgD; split <;> rfl
theorem mrg_d : mrgD b x y (if b = true then x else y) := rfl
theorem v_IfB (h : t δ = .ok b) (k : b = true → f δ = .ok x) (l : b = false → g δ = .ok y) (m : mrgD b x y z) : fIf t f g δ = .ok z := by
  unfold mrgD at m
  subst m
  rw [fIf_e, h]
  cases b with
  | true => exact k rfl
  | false => exact l rfl
theorem v_Test (h : f δ = .ok (.bl b)) : fTest f δ = .ok b := by rw [fTest_e, h]; rfl
theorem v_TruB (h : f δ = .ok (.bl b)) : fTru f δ = .ok b := by rw [fTru_e, h]; rfl
theorem v_TruL (h : f δ = .ok (.lst xs)) : fTru f δ = .ok (!xs.isEmpty) := by rw [fTru_e, h]; rfl
theorem v_TruT (h : f δ = .ok (.tup xs)) : fTru f δ = .ok (!xs.isEmpty) := by rw [fTru_e, h]; rfl
theorem v_NotB (h : t δ = .ok b) : fNotB t δ = .ok (!b) := by rw [fNotB_e, h]; rfl
theorem v_AndF (h : t δ = .ok b) (hb : b = false) : fAndB t u δ = .ok false := by subst hb; rw [fAndB_e, h]; rfl
theorem v_And (h : t δ = .ok b) (k : b = true → u δ = .ok c) : fAndB t u δ = .ok (b && c) := by
  rw [fAndB_e, h]
  cases b with
  | true => exact k rfl
  | false => rfl
theorem v_OrT (h : t δ = .ok b) (hb : b = true) : fOrB t u δ = .ok true := by subst hb; rw [fOrB_e, h]; rfl
theorem v_Or (h : t δ = .ok b) (k : b = false → u δ = .ok c) : fOrB t u δ = .ok (b || c) := by
  rw [fOrB_e, h]
  cases b with
  | true => rfl
  | false => exact k rfl
theorem v_Val (h : t δ = .ok b) : fVal t δ = .ok (.bl b) := by rw [fVal_e, h]; rfl
theorem v_AndE (h : f δ = .ok (.bl b)) (k : b = true → g δ = .ok (.bl c)) : fAnd f g δ = .ok (.bl (b && c)) := by
  rw [fAnd_e, h]
  cases b with
  | true => exact k rfl
  | false => rfl
theorem v_OrE (h : f δ = .ok (.bl b)) (k : b = false → g δ = .ok (.bl c)) : fOr f g δ = .ok (.bl (b || c)) := by
  rw [fOr_e, h]
  cases b with
  | true => rfl
  | false => exact k rfl
theorem v_No : fNo δ = .ok none := rfl
theorem v_Some {n : Int} (h : f δ = .ok (.int n)) : fSome f δ = .ok (some n) := by rw [fSome_e, h]; rfl
theorem v_Sl {l h : FO} {lo hi : Option Int} (h1 : f δ = .ok x) (h2 : l δ = .ok lo) (h3 : h δ = .ok hi) (k : dCut x lo hi = some y) : fSl f l h δ = .ok y := by rw [fSl_e, h1, R.bind_ok, h2, R.bind_ok, h3, R.bind_ok, k]; rfl
theorem v_SlOw {l h : FO} {lo hi : Option Int} (h1 : fOwn i δ = .ok ds) (h2 : l δ = .ok lo) (h3 : h δ = .ok hi) : fSlOw i l h δ = .ok (.lst (cut ds lo hi)) := by rw [fSlOw_e, h1, R.bind_ok, h2, R.bind_ok, h3]; rfl
theorem v_LenOw (h1 : fOwn i δ = .ok ds) : fLenOw i δ = .ok (.int ds.length) := by rw [fLenOw_e, h1]; rfl
theorem v_IxOw (h1 : fOwn i δ = .ok ds) (h2 : f δ = .ok d) (k : dIx (.lst ds) d = some y) : fIxOw i f δ = .ok y := by rw [fIxOw_e, h1, R.bind_ok, h2, R.bind_ok, k]; rfl
theorem v_InOwT (h1 : f δ = .ok d) (h2 : fOwn i δ = .ok ds) (k : dInB d (.lst ds) = some b) : fInOw true f i δ = .ok (.bl (!b)) := by rw [fInOw_e, h1, R.bind_ok, h2, R.bind_ok, k]; rfl
theorem v_InOwF (h1 : f δ = .ok d) (h2 : fOwn i δ = .ok ds) (k : dInB d (.lst ds) = some b) : fInOw false f i δ = .ok (.bl b) := by rw [fInOw_e, h1, R.bind_ok, h2, R.bind_ok, k]; rfl
theorem v_Items (h : f δ = .ok d) (k : dItems d = some xs) : fItems f δ = .ok xs := by rw [fItems_e, h, R.bind_ok, k]; rfl
theorem v_Range (h : fl δ = .ok ds) (k : dRange ds = some xs) : fRange fl δ = .ok xs := by rw [fRange_e, h, R.bind_ok, k]; rfl
theorem v_Range3 (h : fl δ = .ok ds) (k : dRange3 ds = some xs) : fRange3 fl δ = .ok xs := by rw [fRange3_e, h, R.bind_ok, k]; rfl
theorem v_Lc {fi : FL} (h : fi δ = .ok ds) (k : lcF i t f δ ds [] = .ok es) : fLc fi i t f δ = .ok (.lst es) := by rw [fLc_e, h, R.bind_ok, k]; rfl
theorem v_LcL {fi : FL} (h : fi δ = .ok ds) (k : lcF i t f δ ds [] = .ok es) : fLcL fi i t f δ = .ok es := by rw [fLcL_e, h, R.bind_ok, k]
theorem v_Lc2 {fi fi1 : FL} {i1 : Nat} {t1 : FB} (h : fi δ = .ok ds) (l : SetA δ i1 .un δ') (k : lc2F i t fi1 i1 t1 f δ' ds [] = .ok es) : fLc2 fi i t fi1 i1 t1 f δ = .ok (.lst es) := by
  unfold SetA at l
  subst l
  rw [fLc2_e, h, R.bind_ok, k]; rfl
theorem v_Join {a : Str} (h : f δ = .ok (.str a)) (k : g δ = .ok y) (l : dJoin a y = some z) : fJoin f g δ = .ok z := by rw [fJoin_e, h, R.bind_ok, rJoin_e, k, R.bind_ok, l]; rfl
theorem v_Prop {cl : Str} {G : List D → R D} (h : f δ = .ok (.obj cl xs)) (k : G [.obj cl xs] = .ok y) : fProp cl G f δ = .ok y := by rw [fProp_e, h, R.bind_ok, rProp_e, k]; rfl
theorem v_MethF {cl : Str} {G : List D → R D} (h : f δ = .ok (.obj cl xs)) (l : fl δ = .ok ds) (k : G (.obj cl xs :: ds) = .ok y) : fMethF cl G f fl δ = .ok y := by rw [fMethF_e, h, R.bind_ok, rMethF_e, l, R.bind_ok, k]
theorem v_CallO {cl : Str} {G : List D → R D} (h : f δ = .ok (.obj cl xs)) (l : fl δ = .ok ds) (k : G (.obj cl xs :: ds) = .ok y) : fCallO cl G f fl δ = .ok y := by rw [fCallO_e, h, R.bind_ok, rCallO_e, l, R.bind_ok, k]
theorem v_MakeSK {cl : Str} {n : Nat} {gD : List D → List D} (h : fl δ = .ok xs) (k : rMakeSK cl n gD xs = .ok y) : fMakeSK cl n gD fl δ = .ok y := by rw [fMakeSK_e, h, R.bind_ok, k]
theorem v_Bin {cl : Str} {G : List D → R D} (h : f δ = .ok (.obj cl xs)) (l : g δ = .ok (.obj cl ds)) (k : G [.obj cl xs, .obj cl ds] = .ok y) : fBin cl G f g δ = .ok y := by rw [fBin_e, h, R.bind_ok, l, R.bind_ok, rBin_e, k]
theorem v_CallK {ks : List Str} {G : List D → R D} {fk : FL} (h : fl δ = .ok ds) (l : fk δ = .ok es) (k : G (ds ++ [.dic (ks.map Sum.inr) es]) = .ok y) : fCallK ks G fl fk δ = .ok y := by
  rw [fCallK_e, h, R.bind_ok, l, R.bind_ok]; exact k
theorem v_CallK2 {G : List D → R D} {fk : FL} {a e : D} (h : fl δ = .ok [a, e]) (l : fk δ = .ok []) (k : G [a, e, .dic [] []] = .ok y) : fCallK [] G fl fk δ = .ok y := v_CallK h l k
theorem v_Dic0 : fDic0 δ = .ok (.dic [] []) := rfl
theorem v_CallV {tb : Tb} {G : List D → R D} (h : fVar i δ = .ok d) (k : tbOf tb d = some G) (l : fl δ = .ok ds) (m : G ds = .ok y) : fCallV tb i fl δ = .ok y := by
  rw [fCallV_e, h, R.bind_ok, k, R.of_some, R.bind_ok, l, R.bind_ok, m]
theorem v_CallC {tb : Tb} {ct : Ctb} {G : List D → R D} (h : fVar i δ = .ok d) (k : cbOf tb ct d = some G) (l : fl δ = .ok ds) (m : G ds = .ok y) : fCallC tb ct i fl δ = .ok y := by
  unfold fCallC
  rw [h, R.bind_ok, k, R.of_some, R.bind_ok, l, R.bind_ok, m]
theorem cb_c0 {tb : Tb} {ct : Ctb} {L : LamI} {G : D → List D → R D} {x : D} : cbOf tb ((L, G) :: ct) (.clo L x) = some (G x) := by
  show (ctGet ((L, G) :: ct) L).map (fun G => G x) = some (G x)
  unfold ctGet
  rw [if_pos rfl]
  rfl
theorem v_SlS {l h : FO} {lo hi : Option Int} (h1 : f δ = .ok x) (h2 : l δ = .ok lo) (h3 : h δ = .ok hi) (h4 : g δ = .ok y) (k : dPick x lo hi y = some z) : fSlS f l h g δ = .ok z := by rw [fSlS_e, h1, R.bind_ok, h2, R.bind_ok, h3, R.bind_ok, h4, R.bind_ok, k]; rfl
end
section
variable {f : FE} {δ : DSt} {i : Nat} {t : FB}
theorem v_lc_nil {acc : List D} : lcF i t f δ [] acc = .ok acc := rfl
theorem v_lc_rangeN {n : Nat} {h : Nat → D} (hf : ∀ k, k < n → IsAt f δ i (.fz (.int (k : Nat))) (h k)) (hn : n ≤ 16777215) : lcF i fYes f δ (dInts 0 n) [] = .ok ((List.range n).map h) := lc_range (fun k hk => by
  have := (hf k hk).get
  rw [Int.zero_add]
  exact this) hn
theorem v_lc_range {lo : Int} {n : Nat} {h : Nat → D} (hf : ∀ k, k < n → IsAt f δ i (.fz (.int (lo + (k : Nat)))) (h k)) (hn : n ≤ 16777215) : lcF i fYes f δ (dInts lo n) [] = .ok ((List.range n).map h) := lc_rangeL (fun k hk => (hf k hk).get) hn
theorem v_lc_map {α : Type} {xs : List α} {g h : α → D} (hf : ∀ x, x ∈ xs → IsAt f δ i (.fz (g x)) (h x)) (hn : xs.length ≤ 16777215) : lcF i fYes f δ (xs.map g) [] = .ok (xs.map h) := by
  have := lcF_all (i := i) (f := f) (δ := δ) (g := g) (h := h) (xs := xs) (acc := []) (fun x hx => (hf x hx).get) (by simpa using hn)
  simpa using this
theorem v_lc_all {xs : List D} {h : D → D} (hf : ∀ x, x ∈ xs → IsAt f δ i (.fz x) (h x)) (hn : xs.length ≤ 16777215) : lcF i fYes f δ xs [] = .ok (xs.map h) := by
  have := v_lc_map (i := i) (f := f) (δ := δ) (g := fun x : D => x) (h := h) (xs := xs) hf hn
  simpa using this
theorem v_lc_c1 {a y : D} (h : IsAt f δ i (.fz a) y) : lcF i fYes f δ [a] [] = .ok [y] := by
  rw [lcF_yes (e := y) rfl h.get (okLt_by (by decide))]; rfl
theorem v_lc_c2 {a b y z : D} (h : IsAt f δ i (.fz a) y) (k : IsAt f δ i (.fz b) z) : lcF i fYes f δ [a, b] [] = .ok [y, z] := by
  rw [lcF_yes (e := y) rfl h.get (okLt_by (by decide)), lcF_yes (e := z) rfl k.get (okLt_by (by simp))]; rfl
theorem v_lc_c3 {a b c x y z : D} (h : IsAt f δ i (.fz a) x) (k : IsAt f δ i (.fz b) y) (l : IsAt f δ i (.fz c) z) : lcF i fYes f δ [a, b, c] [] = .ok [x, y, z] := by
  rw [lcF_yes (e := x) rfl h.get (okLt_by (by decide)), lcF_yes (e := y) rfl k.get (okLt_by (by simp)), lcF_yes (e := z) rfl l.get (okLt_by (by simp))]; rfl
theorem lc_flt {α : Type} {g h : α → D} {p : α → Bool} : ∀ {xs : List α} {acc : List D}, (∀ x ∈ xs, t (δ.set i (.fz (g x))) = .ok (p x)) → (∀ x ∈ xs, p x = true → f (δ.set i (.fz (g x))) = .ok (h x)) → acc.length + xs.length ≤ 16777215 → lcF i t f δ (xs.map g) acc = .ok (acc ++ (xs.filter p).map h)
  | [], acc, _, _, _ => by simp [lcF]
  | x :: xs, acc, ht, hf, hl => by
    rw [List.length_cons] at hl
    cases e : p x with
    | true =>
      have := lc_flt (g := g) (h := h) (p := p) (xs := xs) (acc := acc ++ [h x]) (fun y hy => ht y (List.mem_cons_of_mem _ hy)) (fun y hy => hf y (List.mem_cons_of_mem _ hy)) (by rw [List.length_append, List.length_singleton]; omega)
      rw [List.map_cons, lcF_yes (by rw [ht x List.mem_cons_self, e]) (hf x List.mem_cons_self e) (okLt_by (by omega)), this]
      simp [e]
    | false =>
      have := lc_flt (g := g) (h := h) (p := p) (xs := xs) (acc := acc) (fun y hy => ht y (List.mem_cons_of_mem _ hy)) (fun y hy => hf y (List.mem_cons_of_mem _ hy)) (by omega)
      rw [List.map_cons, lcF_no (by rw [ht x List.mem_cons_self, e]), this]
      simp [e]
theorem v_lc_fltN {n : Nat} {h : Nat → D} {p : Nat → Bool} (ht : ∀ k, k < n → TsAt t δ i (.fz (.int (k : Nat))) (p k)) (hf : ∀ k, k < n → p k = true → IsAt f δ i (.fz (.int (k : Nat))) (h k)) (hn : n ≤ 16777215) : lcF i t f δ (dInts 0 n) [] = .ok (((List.range n).filter p).map h) := by
  have := lc_flt (i := i) (f := f) (t := t) (δ := δ) (g := fun k : Nat => D.int (0 + (k : Int))) (h := h) (p := p) (xs := List.range n) (acc := []) (fun k hk => by rw [Int.zero_add]; exact (ht k (List.mem_range.mp hk)).get) (fun k hk e => by rw [Int.zero_add]; exact (hf k (List.mem_range.mp hk) e).get) (by rw [List.length_range]; simpa using hn)
  simpa [dInts] using this
theorem v_lc_fltM {α : Type} {xs : List α} {g h : α → D} {p : α → Bool} (ht : ∀ x, x ∈ xs → TsAt t δ i (.fz (g x)) (p x)) (hf : ∀ x, x ∈ xs → p x = true → IsAt f δ i (.fz (g x)) (h x)) (hn : xs.length ≤ 16777215) : lcF i t f δ (xs.map g) [] = .ok ((xs.filter p).map h) := by
  have := lc_flt (i := i) (f := f) (t := t) (δ := δ) (g := g) (h := h) (p := p) (xs := xs) (acc := []) (fun k hk => (ht k hk).get) (fun k hk e => (hf k hk e).get) (by simpa using hn)
  simpa using this
end
section
variable {F G : FS} {f g : FE} {fl : FL} {δ δ' δ'' : DSt} {x y z d : D} {ds xs es : List D} {b c : Bool} {i j m : Nat} {t : FB} {o o' : O}
theorem v_Seq (h : F δ = o) (k : o.thn G = o') : fSeq F G δ = o' := by rw [fSeq_e, h, k]
theorem v_thn_nx (h : G δ = o) : (O.nx δ).thn G = o := h
theorem v_thn_rt : (O.rt d δ).thn G = .rt d δ := rfl
theorem v_thn_bk : (O.bk δ).thn G = .bk δ := rfl
theorem v_thn_ct : (O.ct δ).thn G = .ct δ := rfl
theorem v_thn_exc {n : Str} : (O.exc n xs).thn G = .exc n xs := rfl
def oIfB (b : Bool) (F G : FS) (δ : DSt) : O := match b with
  | true => F δ
  | false => G δ
theorem v_IfS (h : t δ = .ok b) (k : oIfB b F G δ = o) : fIfS t F G δ = o := by
  rw [fIfS_e, h]
  cases b <;> exact k
theorem v_ifT (h : b = true) (k : F δ = o) : oIfB b F G δ = o := by subst h; exact k
theorem v_ifF (h : b = false) (k : G δ = o) : oIfB b F G δ = o := by subst h; exact k
theorem v_Skip : fSkip δ = .nx δ := rfl
theorem v_Ret (h : f δ = .ok d) : fRet f δ = .rt d δ := by rw [fRet_e, h]; rfl
theorem v_Exp (h : f δ = .ok d) : fExp f δ = .nx δ := by rw [fExp_e, h]; rfl
theorem v_Set (h : f δ = .ok d) (k : SetA δ i (.fz d) δ') : fSet i f δ = .nx δ' := by
  unfold SetA at k
  rw [fSet_e, h, O.on_ok, k]
theorem v_New (h : fl δ = .ok ds) (k : SetA δ i (.ow ds) δ') : fNew i fl δ = .nx δ' := by
  unfold SetA at k
  rw [fNew_e, h, O.on_ok, k]
theorem v_App (h : fOwn i δ = .ok ds) (k : f δ = .ok d) (l : okLt ds.length = true) (q : SetA δ i (.ow (ds ++ [d])) δ') : fApp i f δ = .nx δ' := by
  unfold SetA at q
  rw [fApp_e, h, O.on_ok, k, O.on_ok, oApp_ok l, q]
theorem v_Ext (h : fOwn i δ = .ok ds) (k : f δ = .ok (.lst es)) (l : okLe (ds.length + es.length) = true) (q : SetA δ i (.ow (ds ++ es)) δ') : fExt i f δ = .nx δ' := by
  unfold SetA at q
  rw [fExt_e, h, O.on_ok, k, O.on_ok, oExt_ok l, q]
theorem v_Put {fk fe : FE} {n : Int} {j : Nat} (h : fe δ = .ok d) (k : fOwn i δ = .ok ds) (l : fk δ = .ok (.int n)) (m : L2.ixN ds.length n = some j) (q : SetA δ i (.ow (ds.set j d)) δ') : fPut i fk fe δ = .nx δ' := by
  unfold SetA at q
  rw [fPut_e, h, O.on_ok, k, O.on_ok, l, O.on_ok]
  show (match L2.ixN ds.length n with | some j => O.nx (δ.set i (.ow (ds.set j d))) | none => .bad) = _
  rw [m]
  dsimp only
  rw [q]
theorem v_NewD (k : SetA δ i (.od [] []) δ') : fNewD i δ = .nx δ' := by
  unfold SetA at k
  subst k
  rfl
theorem v_od0 {r : DSt} {ks : List Ky} : fOd 0 (.od ks ds :: r) = .ok (ks, ds) := rfl
theorem v_odS {r : DSt} {ks : List Ky} (h : fOd i r = .ok (ks, ds)) : fOd (i + 1) (s :: r) = .ok (ks, ds) := h
theorem v_FrzD {F : FS} {o : O} {ks : List Ky} (h : fOd i δ = .ok (ks, ds)) (k : SetA δ i (.fz (.dic ks ds)) δ') (l : F δ' = o) : fFrz i F δ = o := by
  have e := fOd_at h
  unfold SetA at k
  unfold fFrz frz
  rw [e]
  dsimp only
  rw [k]
  exact l
theorem v_Frz (k : fOwn i δ = .ok ds) (q : SetA δ i (.fz (.lst ds)) δ') (l : F δ' = o) : fFrz i F δ = o := by
  unfold SetA at q
  rw [fFrz_e]
  have : frz i δ = δ' := by
    unfold fOwn at k
    unfold frz
    split at k
    · rename_i e
      cases k
      rw [e]
      exact q
    · cases k
  rw [this, l]
theorem v_For {fi : FL} {put : FP} (h : fi δ = .ok ds) (k : loopF put F ds δ = o) : fFor fi put F δ = o := by rw [fFor_e, h, O.on_ok, k]
theorem v_loop_nil {put : FP} : loopF put F [] δ = .nx δ := rfl
def lnx (put : FP) (F : FS) (ds : List D) : O → O
  | .nx δ => loopF put F ds δ
  | .ct δ => loopF put F ds δ
  | .bk δ => .nx δ
  | .rt d δ => .rt d δ
  | .exc n xs => .exc n xs
  | .bad => .bad
theorem v_loop_cons {put : FP} {o2 : O} (h1 : put δ d = some δ') (h2 : F δ' = o) (h3 : lnx put F ds o = o2) : loopF put F (d :: ds) δ = o2 := by
  unfold loopF
  rw [h1]
  dsimp only
  rw [h2]
  cases o <;> exact h3
theorem v_lnx_nx {put : FP} (h : loopF put F ds δ = o) : lnx put F ds (.nx δ) = o := h
theorem v_lnx_ct {put : FP} (h : loopF put F ds δ = o) : lnx put F ds (.ct δ) = o := h
theorem v_lnx_bk {put : FP} : lnx put F ds (.bk δ) = .nx δ := rfl
theorem v_lnx_rt {put : FP} : lnx put F ds (.rt d δ) = .rt d δ := rfl
theorem v_lnx_exc {put : FP} {n : Str} : lnx put F ds (.exc n xs) = .exc n xs := rfl
theorem v_Raise1 {n : Str} (h : fl δ = .ok [d]) : fRaise n fl δ = .exc n [d] := by unfold fRaise; rw [h]; rfl
theorem v_Raise2 {n : Str} {a b : D} (h : fl δ = .ok [a, b]) : fRaise n fl δ = .exc n [b, a] := by unfold fRaise; rw [h]; rfl
theorem v_Asg {p : FP} (h : f δ = .ok d) (k : p δ d = some δ') : fAsg p f δ = .nx δ' := by rw [fAsg_e, h, O.on_ok]; unfold oAsg; rw [k]
theorem v_Match {M : Str → FS} {w : Str} (h : f δ = .ok (.str w)) (k : M w δ = o) : fMatch f M δ = o := by rw [fMatch_e, h, O.on_ok, oMat_e, k]
theorem v_iteFz {p : Prop} [Decidable p] {w : Str} {M : Str → FS} (h : ¬ p) (k : M w δ = o) : (if p then F else M w) δ = o := by rw [if_neg h, k]
theorem v_iteT {p : Prop} [Decidable p] (h : p) (k : F δ = o) : (if p then F else G) δ = o := by rw [if_pos h, k]
theorem v_iteF {p : Prop} [Decidable p] (h : ¬ p) (k : G δ = o) : (if p then F else G) δ = o := by rw [if_neg h, k]
theorem v_Aug {P : D → D → Option D} (h : fVar i δ = .ok x) (k : f δ = .ok y) (l : P x y = some z) (q : SetA δ i (.fz z) δ') : fAug P i f δ = .nx δ' := by
  unfold SetA at q
  rw [fAug_e, h, O.on_ok, k, O.on_ok, l, R.of_some, O.on_ok, q]
theorem v_pName (q : SetA δ i (.fz d) δ') : pName i δ d = some δ' := by
  unfold SetA at q
  rw [pName_e, q]
theorem v_pNil : pNil δ [] = some δ := rfl
theorem v_pCons {p : FP} {ps : FPs} (h : p δ d = some δ') (k : ps δ' ds = some δ'') : pCons p ps δ (d :: ds) = some δ'' := by rw [pCons_e, h]; exact k
theorem v_pTup {ps : FPs} {n : Nat} (h : ds.length = n) (k : ps δ ds = some δ') : pTup n ps δ (.tup ds) = some δ' := by rw [pTup_e, if_pos h, k]
theorem v_pTup2 {ps : FPs} {a b : D} (k : ps δ [a, b] = some δ') : pTup 2 ps δ (.tup [a, b]) = some δ' := v_pTup rfl k
theorem v_pTup3 {ps : FPs} {a b c : D} (k : ps δ [a, b, c] = some δ') : pTup 3 ps δ (.tup [a, b, c]) = some δ' := v_pTup rfl k
theorem v_pTup4 {ps : FPs} {a b c d : D} (k : ps δ [a, b, c, d] = some δ') : pTup 4 ps δ (.tup [a, b, c, d]) = some δ' := v_pTup rfl k
def Ini (m : Nat) (ds : List D) (δ : DSt) : Prop := ds.map DS.fz ++ List.replicate (m - ds.length) DS.un = δ
theorem ini_0 : Ini 0 [] [] := rfl
theorem ini_u (h : Ini m [] δ) : Ini (m + 1) [] (.un :: δ) := by
  unfold Ini at *
  rw [← h]
  simp [List.replicate]
theorem ini_c (h : Ini m ds δ) : Ini (m + 1) (d :: ds) (.fz d :: δ) := by
  unfold Ini at *
  rw [← h]
  simp
theorem v_run {r : R D} (h : Ini m ds δ) (k : F δ = o) (l : o.fin = r) : runD m F ds = r := by
  unfold Ini at h
  rw [runD_e, h, k, l]
theorem v_fin_rt : (O.rt d δ).fin = .ok d := rfl
theorem v_fin_rt2 {d' : D} (h : d = d') : (O.rt d δ).fin = .ok d' := by rw [h]; rfl
theorem bl_eqT (h : b = true) : D.bl b = D.bl true := by rw [h]
theorem bl_eqF (h : b = false) : D.bl b = D.bl false := by rw [h]
inductive MrgS (b : Bool) : DSt → DSt → DSt → Prop
  | nil : MrgS b [] [] []
  | same {s : DS} {r1 r2 r3 : DSt} : MrgS b r1 r2 r3 → MrgS b (s :: r1) (s :: r2) (s :: r3)
  | fz {x y z : D} {r1 r2 r3 : DSt} : mrgD b x y z → MrgS b r1 r2 r3 → MrgS b (.fz x :: r1) (.fz y :: r2) (.fz z :: r3)
  | un {x y : DS} {r1 r2 r3 : DSt} : MrgS b r1 r2 r3 → MrgS b (x :: r1) (y :: r2) ((if b = true then x else y) :: r3)
theorem v_ifSet (h : b = true → f δ = .ok x) (k : fVar i δ = .ok y) (m : mrgD b x y z) (q : SetA δ i (.fz z) δ') : oIfB b (fSet i f) fSkip δ = .nx δ' := by
  cases b with
  | true => exact v_Set (h rfl) (by unfold mrgD at m; rw [if_pos rfl] at m; rw [m]; exact q)
  | false =>
    unfold mrgD at m
    rw [if_neg (by decide)] at m
    subst m
    refine congrArg O.nx ?_
    have : ∀ {i : Nat} {δ δ' : DSt}, fVar i δ = .ok y → SetA δ i (.fz y) δ' → δ = δ' := by
      intro i
      induction i with
      | zero =>
        intro δ δ' h1 h2
        cases δ with
        | nil => cases h1
        | cons s r =>
          cases s <;> first | (cases h1; exact h2) | cases h1
      | succ i ih =>
        intro δ δ' h1 h2
        cases δ with
        | nil => cases h1
        | cons s r =>
          unfold SetA at h2
          rw [List.set_cons_succ] at h2
          rw [← h2]
          exact congrArg _ (ih h1 rfl)
    exact this k q
theorem v_ifSet2 (h : b = true → f δ = .ok x) (k : b = false → g δ = .ok y) (m : mrgD b x y z) (q : SetA δ i (.fz z) δ') : oIfB b (fSet i f) (fSet i g) δ = .nx δ' := by
  unfold mrgD at m
  subst m
  cases b with
  | true => exact v_Set (h rfl) q
  | false => exact v_Set (k rfl) q
def Sh (n : Nat) (s : Str) : Prop := s.length ≤ n
theorem sh_app {n m : Nat} {s t : Str} (h : Sh n s) (k : Sh m t) : Sh (n + m) (s ++ t) := by
  unfold Sh at *
  rw [PySem.Str.length_append]
  omega
theorem sh_num {i : Int} (h : i.natAbs < 18446744073709551616) : Sh 65 (Str.ofString (toString i)) := len_int h
theorem sh_lit {s : String} : Sh s.length (Str.ofString s) := by
  unfold Sh
  rw [PySem.ofString_length]
  exact Nat.le_refl _
theorem sh_hyp {n : Nat} {s : Str} (h : s.length ≤ n) : Sh n s := h
theorem sh_hyp2 {n : Nat} {s : Str} (h : Sh n s) : Sh n s := h
theorem okS {n m : Nat} {s t : Str} (h : Sh n s) (k : Sh m t) (l : n + m ≤ 16777216) : okLe (s.length + t.length) = true := okLe_by (by unfold Sh at *; omega)
theorem okS1 {n : Nat} {s : Str} (h : Sh n s) (l : n ≤ 16777216) : okLe s.length = true := okLe_by (by unfold Sh at *; omega)
theorem v_fin_nx : (O.nx δ).fin = .ok .non := rfl
theorem v_fin_exc {n : Str} : (O.exc n xs).fin = .exc n xs := rfl
end
theorem eqD_refl {d : D} : d = d := rfl
theorem eqB_refl {d : Bool} : d = d := rfl
theorem eqO_refl {α : Type} {d : Option α} : d = d := rfl
section
variable {d e x y : D} {xs ys : List D} {b : Bool} {i j k : Int}
theorem w_dEq (h : dEqB x y = some b) : dEq x y = some (.bl b) := by rw [dEq_e, h]; rfl
theorem w_dNe (h : dEqB x y = some b) : dNe x y = some (.bl (!b)) := by rw [dNe_e, h]; rfl
theorem w_dIn (h : dInB x y = some b) : dIn x y = some (.bl b) := by rw [dIn_e, h]; rfl
theorem w_dNotIn (h : dInB x y = some b) : dNotIn x y = some (.bl (!b)) := by rw [dNotIn_e, h]; rfl
theorem w_selfL (h : Eqb 64 (.lst ys)) (e : xs = ys) : dEqB (.lst xs) (.lst ys) = some true := by subst e; exact dEqB_refl h
theorem w_selfT (h : Eqb 64 (.tup ys)) (e : xs = ys) : dEqB (.tup xs) (.tup ys) = some true := by subst e; exact dEqB_refl h
theorem eqL_refl {l : List D} : l = l := rfl
theorem w_ixl (h : L2.atI xs i = some d) : dIx (.lst xs) (.int i) = some d := h
theorem w_ixt (h : L2.atI xs i = some d) : dIx (.tup xs) (.int i) = some d := h
theorem w_ixc (h : L2.atI xs i = some d) : dIx (.scr xs) (.int i) = some d := h
theorem w_max : dMax2 [.int i, .int j] = some (.int (max i j)) := by
  rw [dMax2_ii, Int.max_def]
  congr 2
  split <;> split <;> omega
theorem w_min : dMin2 [.int i, .int j] = some (.int (min i j)) := by
  rw [dMin2_ii, Int.min_def]
  congr 2
  split <;> split <;> omega
theorem w_range1 {n : Nat} (h : small62 n = true) : dRange [.int (n : Nat)] = some (dInts 0 n) := by rw [dRange_1 h, Int.toNat_natCast]
theorem w_rangeL {n : Nat} (h : Nat.blt n 4611686018427387904 = true) : dRange [.int (@OfNat.ofNat Int n (@instOfNat n))] = some (dInts 0 n) := by
  have : (@OfNat.ofNat Int n (@instOfNat n)) = (n : Int) := rfl
  rw [this, dRange_1 (small62_by (by have := Nat.blt_eq.mp h; omega)), Int.toNat_natCast]
theorem w_fdiv (h : 0 < j) (g : lim 64 j = true) : dFdiv (.int i) (.int j) = some (.int (i / j)) := dFdiv_w h (lim_by (Nat.lt_of_lt_of_le (Nat.blt_eq.mp g) (Nat.pow_le_pow_right (by decide) (by decide))))
theorem mk_8 {cl : Str} {a0 a1 a2 a3 a4 a5 a6 a7 : D} : rMakeSK cl 8 (gMrg [true, true, true, true, true, true, true, true] []) [a0, a1, a2, a3, a4, a5, a6, a7] = .ok (.obj cl [a0, a1, a2, a3, a4, a5, a6, a7]) := rfl
theorem mk_0 {cl : Str} : rMakeSK cl 8 (gMrg [false, false, false, false, false, false, false, false] [1, 1, 1, 0, 1, 1, 1, 1]) [] = .ok (.obj cl [.int 1, .int 1, .int 1, .int 0, .int 1, .int 1, .int 1, .int 1]) := rfl
theorem mk_1 {cl : Str} {a : D} : rMakeSK cl 8 (gMrg [false, false, false, true, false, false, false, false] [1, 1, 1, 1, 1, 1, 1]) [a] = .ok (.obj cl [.int 1, .int 1, .int 1, a, .int 1, .int 1, .int 1, .int 1]) := rfl
theorem mk_2 {cl : Str} {a b : D} : rMakeSK cl 8 (gMrg [false, false, false, true, false, true, false, false] [1, 1, 1, 1, 1, 1]) [a, b] = .ok (.obj cl [.int 1, .int 1, .int 1, a, .int 1, b, .int 1, .int 1]) := rfl
theorem w_isC {cl : Str} {xs : List D} : dIsC cl (.obj cl xs) = some (.bl true) := if_pos rfl
theorem w_slot {cl : Str} {n : Nat} {xs : List D} {d : D} (h : xs[n]? = some d) : dSlot cl n (.obj cl xs) = some d := by rw [dSlot_e, h]
theorem get_0 {a : D} {r : List D} : (a :: r)[0]? = some a := rfl
theorem get_s {a d : D} {r : List D} {n : Nat} (h : r[n]? = some d) : (a :: r)[n + 1]? = some d := by rw [List.getElem?_cons_succ, h]
theorem fld_P0 {x y z : D} : dFld "Program" "_numbers" (.obj "Program" [x, y, z]) = some x := by kernel_rfl
theorem fld_P1 {x y z : D} : dFld "Program" "_parts" (.obj "Program" [x, y, z]) = some y := by kernel_rfl
theorem fld_P2 {x y z : D} : dFld "Program" "_texts" (.obj "Program" [x, y, z]) = some z := by kernel_rfl
theorem fld_U {x : D} : dFld "Undoer" "program" (.obj "Undoer" [x]) = some x := by kernel_rfl
theorem fld_F0 {x y z w : D} : dFld "Forms" "program" (.obj "Forms" [x, y, z, w]) = some x := by kernel_rfl
theorem fld_F1 {x y z w : D} : dFld "Forms" "start" (.obj "Forms" [x, y, z, w]) = some y := by kernel_rfl
theorem fld_F2 {x y z w : D} : dFld "Forms" "modulus" (.obj "Forms" [x, y, z, w]) = some z := by kernel_rfl
theorem fld_F3 {x y z w : D} : dFld "Forms" "period" (.obj "Forms" [x, y, z, w]) = some w := by kernel_rfl
theorem small_by {i : Int} (h : i.natAbs < 4611686018427387904) : small62 i = true := Nat.blt_eq.mpr h
theorem EqbL.map {α : Type} {n : Nat} {xs : List α} {h : α → D} (k : ∀ x, x ∈ xs → Eqb n (h x)) : EqbL n (xs.map h) := .of fun d hd => by
  obtain ⟨x, hx, rfl⟩ := List.mem_map.mp hd
  exact k x hx
end
end DL

section
open PySem PySem.Spec PyProof.Rows DL
local macro_rules | `(tactic| walk_at "yes") => `(tactic| first | (with_reducible assumption) | (with_reducible rfl) | ((with_reducible refine decide_eq_true ?_); omega) | ((with_reducible refine beq_iff_eq.mpr ?_); omega) | ((with_reducible refine decide_eq_true ?_); with_reducible assumption) | ((with_reducible refine Bool.not_eq_true'.mpr ?_); walk_at "no") | ((with_reducible refine Bool.and_eq_true_iff.mpr ⟨?_, ?_⟩) <;> walk_at "yes") | ((with_reducible refine Bool.or_eq_true_iff.mpr ?_); first | (left; walk_at "yes") | (right; walk_at "yes")) | decide +kernel)
local macro_rules | `(tactic| walk_at "no") => `(tactic| first | (with_reducible assumption) | (with_reducible rfl) | ((with_reducible refine decide_eq_false ?_); omega) | ((with_reducible refine beq_false_of_ne ?_); omega) | ((with_reducible refine decide_eq_false ?_); with_reducible assumption) | ((with_reducible refine Bool.not_eq_false'.mpr ?_); walk_at "yes") | ((with_reducible refine Bool.or_eq_false_iff.mpr ⟨?_, ?_⟩) <;> walk_at "no") | ((with_reducible refine Bool.and_eq_false_iff.mpr ?_); first | (left; walk_at "no") | (right; walk_at "no")) | decide +kernel)
local macro_rules | `(tactic| walk_at "sh") => `(tactic| first | (with_reducible first | (apply sh_hyp2; assumption) | (apply sh_hyp; assumption)) | (with_reducible apply sh_num; first | omega | assumption) | (with_reducible exact sh_lit) | ((with_reducible apply sh_app) <;> walk_at "sh") | decide +kernel)
local macro_rules | `(tactic| walk_at "tf") => `(tactic| first | (refine hyp_T ?_; walk_at "yes") | (refine hyp_F ?_; walk_at "no"))
local macro_rules | `(tactic| walk_at "szg") => `(tactic| first | (with_reducible assumption) | omega | exact lim64_by (by omega) | exact okLe_by (by simp only [List.length_append, List.length_cons, List.length_nil, List.length_map, List.length_range]; omega) | exact okLt_by (by simp only [List.length_append, List.length_cons, List.length_nil, List.length_map, List.length_range]; omega) | exact mulOk_l (by assumption) | exact mulOk_r (by assumption) | exact mulOk_l (lim64_by (by omega)) | exact mulOk_r (lim64_by (by omega)) | exact log_by (by omega) | exact small_by (by omega) | ((with_reducible first | apply okS | apply okS1) <;> walk_at "sh"))
local macro_rules | `(tactic| walk_at "st") => `(tactic| first | (with_reducible first | (apply isR; first | (apply hyp_ok; assumption) | (apply hyp_exc; assumption) | apply v_varS | exact v_var0 | apply v_Cons | exact v_Nil | exact v_C | apply v_B | apply v_L | apply v_U | apply v_Call | apply v_Test | apply v_Tup | apply v_Lst | apply v_Range | apply v_Items | apply v_Lc | apply v_Some | exact v_No | apply v_Sl | apply v_SlS | apply v_ownS | exact v_own0 | apply v_NotB | apply v_Val | apply v_SlOw | apply v_LenOw | apply v_IxOw | apply v_InOwT | apply v_InOwF | apply v_Range3 | apply v_LcL | apply v_Lc2 | apply v_Join | apply v_Prop | apply v_MethF | apply v_CallO | apply v_MakeSK | apply v_Bin | apply v_CallK2 | apply v_CallK | apply v_CallV | apply v_CallC | apply v_TruB | apply v_TruL | apply v_TruT | exact v_Dic0 | exact v_fin_rt | exact v_fin_nx | exact v_fin_exc | apply v_fin_rt2 | exact mk_8 | exact mk_0 | exact mk_1 | exact mk_2 | exact v_lc_nil | apply v_run | apply fCutOw_e | apply fCatOw_e | apply fCutE_e | walk_at "call") | (apply isS; first | (apply hyp_so; assumption) | apply w_ixl | apply w_ixt | apply w_ixc | exact dAdd_ii | apply dMod_ii | exact dIntS_i | apply w_dEq | apply w_dNe | exact dSub_ii | apply dMul_ii | exact dEqB_ii | exact dEqB_ss | apply w_rangeL | apply w_range1 | apply dRange_1 | apply dRange_2 | apply dAdd_ss | exact dLt_ii | exact dLe_ii | exact dGt_ii | exact dGe_ii | exact dLen_l | exact dLen_t | exact dLen_c | exact dItems_l | exact dItems_t | exact dItems_s | exact cb_c0 | apply w_fdiv | apply w_dIn | apply w_dNotIn | exact at_0 | exact at_1 | exact at_2 | exact at_3 | exact at_4 | exact at_5 | exact at_6 | exact at_7 | exact at_8 | exact at_9 | exact at_10 | exact at_11 | exact at_12 | exact at_13 | exact at_14 | exact at_15 | exact at_m1 | exact dNeg_i | exact dAbs_i | exact w_max | exact w_min | exact dInt_i | exact dStr_s | exact dList_l | exact dList_t | exact dTuple_l | exact dTuple_t | exact dCut_l | exact dCut_t | exact dIsN_e | exact dNotN_e | exact dIsi_n | exact dIsi_b | exact dIsi_i | exact dIsi_s | exact dIsi_t | exact dIsi_l | exact dAddS_ii | exact dGcd_ii | apply w_slot | exact get_0 | apply get_s | exact w_isC | exact fld_P1 | exact fld_P0 | exact fld_P2 | exact fld_U | exact fld_F0 | exact fld_F1 | exact fld_F2 | exact fld_F3 | apply dAdd_ll | apply dAdd_tt | apply dMul_li | apply dStr_i | apply dLen_s | apply dAddS_ss | apply dLcm_ii | apply dLcm_iii | apply dJoin_l | apply dPick_l | apply dRange3_e | apply w_selfL | apply w_selfT | apply v_pName | apply v_pCons | exact v_pNil | apply v_pTup2 | apply v_pTup3 | apply v_pTup4 | walk_at "call") | (apply isO; first | (apply hyp_o; assumption) | apply v_Seq | apply v_thn_nx | apply v_Set | apply v_IfS | exact v_Skip | exact v_thn_rt | apply v_Ret | apply v_For | apply v_App | apply v_New | apply v_NewD | apply v_Put | apply v_Ext | apply v_Asg | apply v_Match | apply v_Aug | apply v_Exp | exact v_thn_bk | exact v_thn_ct | exact v_thn_exc | exact v_loop_nil | apply v_loop_cons | apply v_lnx_nx | apply v_lnx_ct | exact v_lnx_bk | exact v_lnx_rt | exact v_lnx_exc | apply v_Raise1 | apply v_Raise2 | walk_at "call") | (apply hyp_e; assumption) | apply set_s | exact set_0 | exact ini_0 | apply ini_u | apply ini_c | exact mrg_i | exact mrg_l | exact mrg_d | apply IsAt.mk' | apply TsAt.mk' | apply Is.mk | exact (Eqb.int _ _) | exact (Eqb.non _) | exact (Eqb.bl _ _) | exact (EqbL.nil _) | apply Eqb.lst | apply Eqb.tup | apply EqbL.cons | apply EqbL.map | apply bl_eqT | apply bl_eqF | walk_at "call") | walk_at "br" | walk_at "cm")
local macro_rules | `(tactic| walk_at "br") => `(tactic| first | ((with_reducible apply v_Frz); (focus ((repeat with_reducible apply v_ownS); with_reducible exact v_own0))) | ((with_reducible apply v_FrzD); (focus ((repeat with_reducible apply v_odS); with_reducible exact v_od0))) | ((with_reducible apply v_ifT); (focus walk_at "yes")) | ((with_reducible apply v_ifF); (focus walk_at "no")) | ((with_reducible apply v_iteT); (focus (first | (with_reducible assumption) | omega | decide +kernel))) | ((with_reducible apply v_iteFz); (focus (first | (with_reducible assumption) | omega | decide +kernel))) | ((with_reducible apply v_iteF); (focus (first | (with_reducible assumption) | omega | decide +kernel))) | ((with_reducible apply v_IfT); (focus walk_at "go"); (focus walk_at "yes")) | ((with_reducible apply v_IfF); (focus walk_at "go"); (focus walk_at "no")) | ((with_reducible apply v_AndF); (focus walk_at "go"); (focus walk_at "no")) | ((with_reducible apply v_OrT); (focus walk_at "go"); (focus walk_at "yes")) | (with_reducible first | apply v_ifSet | apply v_ifSet2) | (with_reducible first | apply v_And | apply v_Or | apply v_AndE | apply v_OrE | apply v_IfB))
local macro_rules | `(tactic| walk_at "cm") => `(tactic| with_reducible first | apply v_lc_rangeN | apply v_lc_range | apply v_lc_c1 | apply v_lc_c2 | apply v_lc_c3 | apply v_lc_map | apply v_lc_fltN | apply v_lc_fltM | apply v_lc_all)
local macro_rules | `(tactic| walk_at "go") => `(tactic| first | (walk_at "st" <;> walk_at "go") | (intro; walk_at "go") | (with_reducible first | exact eqD_refl | exact eqL_refl | exact eqB_refl | exact eqO_refl) | walk_at "szg" | walk_at "tf" | skip)
namespace LW
open PySem PySem.Spec PyProof.Rows DL
theorem DrF.mod {dr : Nat → Int} (h : DrF dr) (k : Nat) : 0 ≤ dr k ∧ dr k < 1000000 := h k
end LW
namespace LW
open PySem PySem.Spec PyProof.Rows DL
theorem ix06 : ∀ k : Nat, k < 26 → ∃ c : Str, c.length ≤ 1 ∧ Sok c ∧ dIx (.str "abcdefghijklmnopqrstuvwxyz") (.int (k : Nat)) = some (.str c)
  | 0, _ => ⟨"a", by decide +kernel, sok_of _, by kernel_rfl⟩
  | 1, _ => ⟨"b", by decide +kernel, sok_of _, by kernel_rfl⟩
  | 2, _ => ⟨"c", by decide +kernel, sok_of _, by kernel_rfl⟩
  | 3, _ => ⟨"d", by decide +kernel, sok_of _, by kernel_rfl⟩
  | 4, _ => ⟨"e", by decide +kernel, sok_of _, by kernel_rfl⟩
  | 5, _ => ⟨"f", by decide +kernel, sok_of _, by kernel_rfl⟩
  | 6, _ => ⟨"g", by decide +kernel, sok_of _, by kernel_rfl⟩
  | 7, _ => ⟨"h", by decide +kernel, sok_of _, by kernel_rfl⟩
  | 8, _ => ⟨"i", by decide +kernel, sok_of _, by kernel_rfl⟩
  | 9, _ => ⟨"j", by decide +kernel, sok_of _, by kernel_rfl⟩
  | 10, _ => ⟨"k", by decide +kernel, sok_of _, by kernel_rfl⟩
  | 11, _ => ⟨"l", by decide +kernel, sok_of _, by kernel_rfl⟩
  | 12, _ => ⟨"m", by decide +kernel, sok_of _, by kernel_rfl⟩
  | 13, _ => ⟨"n", by decide +kernel, sok_of _, by kernel_rfl⟩
  | 14, _ => ⟨"o", by decide +kernel, sok_of _, by kernel_rfl⟩
  | 15, _ => ⟨"p", by decide +kernel, sok_of _, by kernel_rfl⟩
  | 16, _ => ⟨"q", by decide +kernel, sok_of _, by kernel_rfl⟩
  | 17, _ => ⟨"r", by decide +kernel, sok_of _, by kernel_rfl⟩
  | 18, _ => ⟨"s", by decide +kernel, sok_of _, by kernel_rfl⟩
  | 19, _ => ⟨"t", by decide +kernel, sok_of _, by kernel_rfl⟩
  | 20, _ => ⟨"u", by decide +kernel, sok_of _, by kernel_rfl⟩
  | 21, _ => ⟨"v", by decide +kernel, sok_of _, by kernel_rfl⟩
  | 22, _ => ⟨"w", by decide +kernel, sok_of _, by kernel_rfl⟩
  | 23, _ => ⟨"x", by decide +kernel, sok_of _, by kernel_rfl⟩
  | 24, _ => ⟨"y", by decide +kernel, sok_of _, by kernel_rfl⟩
  | 25, _ => ⟨"z", by decide +kernel, sok_of _, by kernel_rfl⟩
  | n + 26, h => absurd h (by omega)
theorem ixZ {d : Int} (h : 0 ≤ d) : ∃ c : Str, c.length ≤ 1 ∧ Sok c ∧ dIx (.str "abcdefghijklmnopqrstuvwxyz") (.int (d % 26)) = some (.str c) := by
  obtain ⟨i, hi⟩ := Int.eq_ofNat_of_zero_le (show 0 ≤ d % 26 by omega)
  rw [hi]
  exact ix06 i (by omega)
def L9 : List Str := ["BadText", "TooLarge", "MixedName", "MissingName", "OutOfRange", "Confused", "NoSuchSize", "BadEntry", "ListError"]
def nm8 : Nat → Str
  | 0 => "BadText" | 1 => "TooLarge" | 2 => "MixedName" | 3 => "MissingName" | 4 => "OutOfRange" | 5 => "Confused" | 6 => "NoSuchSize" | _ => "BadEntry"
def row9 (n : Str) : List Bool := (List.range 8).map fun k => decide (n = nm8 k)
theorem isx {n : Str} {tab : XT} {b : Bool} {xs : List D} (h : isXc n = true) (k : tab.lookup n = some b) : dIsX tab (.obj n xs) = some (.bl b) := by
  unfold dIsX
  dsimp only
  rw [if_pos h, k]
  rfl
theorem xc9 : ∀ n ∈ L9, isXc n = true := by decide +kernel
theorem t9 : ∀ n ∈ L9, (([("BadEntry", true), ("BadText", true), ("Confused", true), ("ListError", true), ("MissingName", true), ("MixedName", true), ("NoSuchSize", true), ("OutOfRange", true), ("TooLarge", true)] : XT) : XT).lookup n = some true := by decide +kernel
theorem c9 : ∀ n ∈ L9, (([("BadEntry", false), ("BadText", true), ("Confused", false), ("ListError", false), ("MissingName", false), ("MixedName", false), ("NoSuchSize", false), ("OutOfRange", false), ("TooLarge", false)] : XT) : XT).lookup n = some (decide (n = nm8 0)) ∧ (([("BadEntry", false), ("BadText", false), ("Confused", false), ("ListError", false), ("MissingName", false), ("MixedName", false), ("NoSuchSize", false), ("OutOfRange", false), ("TooLarge", true)] : XT) : XT).lookup n = some (decide (n = nm8 1)) ∧ (([("BadEntry", false), ("BadText", false), ("Confused", false), ("ListError", false), ("MissingName", false), ("MixedName", true), ("NoSuchSize", false), ("OutOfRange", false), ("TooLarge", false)] : XT) : XT).lookup n = some (decide (n = nm8 2)) ∧ (([("BadEntry", false), ("BadText", false), ("Confused", false), ("ListError", false), ("MissingName", true), ("MixedName", false), ("NoSuchSize", false), ("OutOfRange", false), ("TooLarge", false)] : XT) : XT).lookup n = some (decide (n = nm8 3)) ∧
    (([("BadEntry", false), ("BadText", false), ("Confused", false), ("ListError", false), ("MissingName", false), ("MixedName", false), ("NoSuchSize", false), ("OutOfRange", true), ("TooLarge", false)] : XT) : XT).lookup n = some (decide (n = nm8 4)) ∧ (([("BadEntry", false), ("BadText", false), ("Confused", true), ("ListError", false), ("MissingName", false), ("MixedName", false), ("NoSuchSize", false), ("OutOfRange", false), ("TooLarge", false)] : XT) : XT).lookup n = some (decide (n = nm8 5)) ∧ (([("BadEntry", false), ("BadText", false), ("Confused", false), ("ListError", false), ("MissingName", false), ("MixedName", false), ("NoSuchSize", true), ("OutOfRange", false), ("TooLarge", false)] : XT) : XT).lookup n = some (decide (n = nm8 6)) ∧ (([("BadEntry", true), ("BadText", false), ("Confused", false), ("ListError", false), ("MissingName", false), ("MixedName", false), ("NoSuchSize", false), ("OutOfRange", false), ("TooLarge", false)] : XT) : XT).lookup n = some (decide (n = nm8 7)) := by decide +kernel
theorem cls9 {n : Str} {xs : List D} (h : n ∈ L9) : m__law_classes [.obj n xs] = .ok (.lst ((row9 n).map .bl)) := by
  have x := xc9 n h
  obtain ⟨h0, h1, h2, h3, h4, h5, h6, h7⟩ := c9 n h
  exact (congrArg O.fin (show b__law_classes [.fz (.obj n xs)] = .rt (.lst ((row9 n).map .bl)) [.fz (.obj n xs)] from
    v_Ret (v_Lst (v_Cons (v_U rfl (isx x h0)) (v_Cons (v_U rfl (isx x h1)) (v_Cons (v_U rfl (isx x h2)) (v_Cons (v_U rfl (isx x h3)) (v_Cons (v_U rfl (isx x h4)) (v_Cons (v_U rfl (isx x h5)) (v_Cons (v_U rfl (isx x h6)) (v_Cons (v_U rfl (isx x h7)) v_Nil))))))))))).trans rfl
theorem row_k : ∀ k, k < 8 → nm8 k ∈ L9 ∧ row9 (nm8 k) = (List.range 8).map fun a : Nat => ((a : Int) == (k : Int)) := by decide +kernel
theorem row_b : ("ListError" : Str) ∈ L9 ∧ row9 "ListError" = (List.range 8).map fun _ => false := by decide +kernel
theorem eqbB {bs : List Bool} : Eqb 62 (.lst (bs.map .bl)) := Eqb.lst (n := 61) (EqbL.map fun b _ => Eqb.bl _ _)
theorem xf1 {n fd : Str} {x : D} (h : exF n = [fd]) : dXf n fd (.obj n [x]) = some x := by
  unfold dXf
  dsimp only
  rw [if_pos rfl, h]
  exact List.lookup_cons_self
theorem xf2 {x y : D} : dXf "Confused" "first" (.obj "Confused" [y, x]) = some x ∧ dXf "Confused" "second" (.obj "Confused" [y, x]) = some y := by
  have h : exF "Confused" = [("second" : Str), ("first" : Str)] := by decide +kernel
  have n1 : (("first" : Str) == "second") = false := by decide +kernel
  unfold dXf
  dsimp only
  rw [if_pos rfl, if_pos rfl, h]
  refine ⟨?_, List.lookup_cons_self⟩
  show List.lookup _ [(("second" : Str), y), (("first" : Str), x)] = _
  rw [List.lookup_cons, n1]
  exact List.lookup_cons_self
section
variable {s0 s1 : DS} {n d : Int} {t : Str}
def xs8 (n d : Int) (t : Str) : Nat → List D
  | 0 => [.int n] | 1 => [.str t] | 2 => [.str t] | 3 => [.str t] | 4 => [.int (0 - n)] | 5 => [.lst [.int n, .int d], .lst [.int n]] | 6 => [.int n] | _ => [.lst [.int n, .int d]]
abbrev e8 (n d : Int) (t : Str) (k : Nat) : D := .obj (nm8 k) (xs8 n d t k)
abbrev V6 (s0 s1 : DS) (n d : Int) (t : Str) (s15 s16 s17 s18 : DS) : DSt := [s0, s1, .fz (.int n), .fz (.str "abcdefghijklmnopqrstuvwxyz"), .fz (.str t), .fz (.lst [.int n]), .fz (.lst [.int n, .int d]), .fz (e8 n d t 0), .fz (e8 n d t 1), .fz (e8 n d t 2), .fz (e8 n d t 3), .fz (e8 n d t 4), .fz (e8 n d t 5), .fz (e8 n d t 6), .fz (e8 n d t 7), s15, s16, s17, s18]
theorem k14 : (fIfS (fOrB (fTest (fB dNe (fU (dXf "BadText" "place") (fVar 7)) (fVar 2))) (fOrB (fTest (fB dNe (fU (dXf "TooLarge" "what") (fVar 8)) (fVar 4))) (fOrB (fTest (fB dNe (fU (dXf "MixedName" "name") (fVar 9)) (fVar 4))) (fTest (fB dNe (fU (dXf "MissingName" "name") (fVar 10)) (fVar 4)))))) (fRet (fC (.bl false))) fSkip) (V6 s0 s1 n d t .un .un .un .un) = .nx (V6 s0 s1 n d t .un .un .un .un) := by
  have qs : dNe (.str t) (.str t) = some (.bl false) := w_dNe (b := true) (by rw [dEqB_ss, beq_self_eq_true])
  have f1 : (fTest (fB dNe (fU (dXf "BadText" "place") (fVar 7)) (fVar 2))) (V6 s0 s1 n d t .un .un .un .un) = .ok false := v_Test (v_B (v_U rfl (xf1 (n := "BadText") (fd := "place") (by decide +kernel))) rfl (dNe_refl (Eqb.int _ _)))
  have f2 : (fTest (fB dNe (fU (dXf "TooLarge" "what") (fVar 8)) (fVar 4))) (V6 s0 s1 n d t .un .un .un .un) = .ok false := v_Test (v_B (v_U rfl (xf1 (n := "TooLarge") (fd := "what") (by decide +kernel))) rfl qs)
  have f3 : (fTest (fB dNe (fU (dXf "MixedName" "name") (fVar 9)) (fVar 4))) (V6 s0 s1 n d t .un .un .un .un) = .ok false := v_Test (v_B (v_U rfl (xf1 (n := "MixedName") (fd := "name") (by decide +kernel))) rfl qs)
  have f4 : (fTest (fB dNe (fU (dXf "MissingName" "name") (fVar 10)) (fVar 4))) (V6 s0 s1 n d t .un .un .un .un) = .ok false := v_Test (v_B (v_U rfl (xf1 (n := "MissingName") (fd := "name") (by decide +kernel))) rfl qs)
  exact v_IfS (b := false) (v_Or f1 fun _ => v_Or f2 fun _ => v_Or f3 fun _ => f4) v_Skip
theorem eqI (l : List Int) : dNe (.lst (l.map .int)) (.lst (l.map .int)) = some (.bl false) := dNe_refl ((Eqb.lst (n := 61) (EqbL.map fun b _ => Eqb.int _ _)).mono (by decide))
theorem k15 : (fIfS (fOrB (fTest (fB dNe (fU (dXf "OutOfRange" "number") (fVar 11)) (fB dSub (fC (.int 0)) (fVar 2)))) (fOrB (fTest (fB dNe (fU (dXf "NoSuchSize" "size") (fVar 13)) (fVar 2))) (fTest (fB dNe (fU (dXf "BadEntry" "entry") (fVar 14)) (fVar 6))))) (fRet (fC (.bl false))) fSkip) (V6 s0 s1 n d t .un .un .un .un) = .nx (V6 s0 s1 n d t .un .un .un .un) := by
  have f1 : (fTest (fB dNe (fU (dXf "OutOfRange" "number") (fVar 11)) (fB dSub (fC (.int 0)) (fVar 2)))) (V6 s0 s1 n d t .un .un .un .un) = .ok false := v_Test (v_B (v_U rfl (xf1 (n := "OutOfRange") (fd := "number") (by decide +kernel))) (v_B rfl rfl dSub_ii) (dNe_refl (Eqb.int _ _)))
  have f2 : (fTest (fB dNe (fU (dXf "NoSuchSize" "size") (fVar 13)) (fVar 2))) (V6 s0 s1 n d t .un .un .un .un) = .ok false := v_Test (v_B (v_U rfl (xf1 (n := "NoSuchSize") (fd := "size") (by decide +kernel))) rfl (dNe_refl (Eqb.int _ _)))
  have f3 : (fTest (fB dNe (fU (dXf "BadEntry" "entry") (fVar 14)) (fVar 6))) (V6 s0 s1 n d t .un .un .un .un) = .ok false := v_Test (v_B (v_U rfl (xf1 (n := "BadEntry") (fd := "entry") (by decide +kernel))) rfl (eqI [n, d]))
  exact v_IfS (b := false) (v_Or f1 fun _ => v_Or f2 fun _ => f3) v_Skip
theorem k16 : (fIfS (fOrB (fTest (fB dNe (fU (dXf "Confused" "first") (fVar 12)) (fVar 5))) (fTest (fB dNe (fU (dXf "Confused" "second") (fVar 12)) (fVar 6)))) (fRet (fC (.bl false))) fSkip) (V6 s0 s1 n d t .un .un .un .un) = .nx (V6 s0 s1 n d t .un .un .un .un) := by
  have f1 : (fTest (fB dNe (fU (dXf "Confused" "first") (fVar 12)) (fVar 5))) (V6 s0 s1 n d t .un .un .un .un) = .ok false := v_Test (v_B (v_U rfl xf2.1) rfl (eqI [n]))
  have f2 : (fTest (fB dNe (fU (dXf "Confused" "second") (fVar 12)) (fVar 6))) (V6 s0 s1 n d t .un .un .un .un) = .ok false := v_Test (v_B (v_U rfl xf2.2) rfl (eqI [n, d]))
  exact v_IfS (b := false) (v_Or f1 fun _ => f2) v_Skip
abbrev er8 (n d : Int) (t : Str) : List D := [e8 n d t 0, e8 n d t 1, e8 n d t 2, e8 n d t 3, e8 n d t 4, e8 n d t 5, e8 n d t 6, e8 n d t 7]
theorem at8 : ∀ k : Nat, k < 8 → L2.atI (er8 n d t) (k : Nat) = some (e8 n d t k)
  | 0, _ => rfl
  | 1, _ => rfl
  | 2, _ => rfl
  | 3, _ => rfl
  | 4, _ => rfl
  | 5, _ => rfl
  | 6, _ => rfl
  | 7, _ => rfl
  | k + 8, h => absurd h (by omega)
theorem st6 {k : Nat} (hk : k < 8) : l1_law (V6 s0 s1 n d t (.fz (.lst (er8 n d t))) (.fz (.int k)) .un .un) = .nx (V6 s0 s1 n d t (.fz (.lst (er8 n d t))) (.fz (.int k)) .un .un) := by
  obtain ⟨hn, hr⟩ := row_k k hk
  have x := xc9 _ hn
  have tt := t9 _ hn
  have a := @at8 n d t k hk
  have ei : (fB dIx (fVar 15) (fVar 16)) (V6 s0 s1 n d t (.fz (.lst (er8 n d t))) (.fz (.int k)) .un .un) = .ok (e8 n d t k) := v_B rfl rfl (w_ixl a)
  have f1 : (fNotB (fTest (fU (dIsX ([("BadEntry", true), ("BadText", true), ("Confused", true), ("ListError", true), ("MissingName", true), ("MixedName", true), ("NoSuchSize", true), ("OutOfRange", true), ("TooLarge", true)] : XT)) (fB dIx (fVar 15) (fVar 16))))) (V6 s0 s1 n d t (.fz (.lst (er8 n d t))) (.fz (.int k)) .un .un) = .ok false := v_NotB (v_Test (v_U ei (isx x tt)))
  have f2 : (fNotB (fTest (fU (dIsX ([("BadEntry", true), ("BadText", true), ("Confused", true), ("ListError", true), ("MissingName", true), ("MixedName", true), ("NoSuchSize", true), ("OutOfRange", true), ("TooLarge", true)] : XT)) (fB dIx (fVar 15) (fVar 16))))) (V6 s0 s1 n d t (.fz (.lst (er8 n d t))) (.fz (.int k)) .un .un) = .ok false := v_NotB (v_Test (v_U ei (isx x tt)))
  have c := cls9 (xs := xs8 n d t k) hn
  rw [hr, List.map_map] at c
  have lc : (fLc (fRange (fCons (fC (.int 8)) fNil)) 17 fYes (fB dEq (fVar 17) (fVar 16))) (V6 s0 s1 n d t (.fz (.lst (er8 n d t))) (.fz (.int k)) .un .un) = .ok (.lst ((List.range 8).map (D.bl ∘ fun a : Nat => ((a : Int) == (k : Int))))) :=
    v_Lc (v_Range (v_Cons rfl v_Nil) (w_range1 (by decide))) (v_lc_rangeN (h := fun a => D.bl (((a : Int) == (k : Int)))) (fun a ha => IsAt.mk' (δ' := V6 s0 s1 n d t (.fz (.lst (er8 n d t))) (.fz (.int k)) (.fz (.int (a : Nat))) .un) rfl (v_B rfl rfl (w_dEq dEqB_ii)) rfl) (by decide))
  have q : dNe (.lst ((List.range 8).map (D.bl ∘ fun a : Nat => ((a : Int) == (k : Int))))) (.lst ((List.range 8).map (D.bl ∘ fun a : Nat => ((a : Int) == (k : Int))))) = some (.bl false) := by
    rw [← List.map_map]
    exact dNe_refl (eqbB.mono (by decide))
  exact v_Seq (v_IfS (b := false) (v_Or f1 fun _ => f2) v_Skip) (v_thn_nx (v_IfS (b := false) (v_Test (v_B (v_Call (v_Cons ei v_Nil) c) lc q)) v_Skip))
theorem dI_c6 {j m : Nat} : dInts j (m + 1) = .int j :: dInts ((j + 1 : Nat) : Int) m := by
  unfold dInts
  rw [List.range_succ_eq_map, List.map_cons, List.map_map]
  refine congr (congrArg _ (by simp)) (List.map_congr_left fun k _ => ?_)
  show D.int _ = D.int _
  congr 1
  simp only [Function.comp, Nat.succ_eq_add_one]
  omega
theorem lp6 : ∀ (m k : Nat) (s16 : DS), k + m ≤ 8 → ∃ z, loopF (pName 16) l1_law (dInts k m) (V6 s0 s1 n d t (.fz (.lst (er8 n d t))) s16 .un .un) = .nx (V6 s0 s1 n d t (.fz (.lst (er8 n d t))) z .un .un)
  | 0, k, s16, _ => ⟨s16, rfl⟩
  | m + 1, k, s16, h => by
    obtain ⟨z, ih⟩ := lp6 m (k + 1) (.fz (.int k)) (by omega)
    refine ⟨z, ?_⟩
    rw [dI_c6, loopF_nx rfl (st6 (by omega))]
    exact ih
end
theorem law_true (ns : List Int) (hn : ns.length ≤ 63) : m_law [.scr (ns.map .int)] = .ok (.bl true) := by
  obtain ⟨dr, hd, dw⟩ := draws_fn ns hn 4 (by omega)
  have dw : m__law_draws [.scr (ns.map .int), .int 4] = .ok (.lst (drl dr 0 4)) := dw
  have d0 := hd 0
  have d1 := hd 1
  have d2 := hd 2
  have d3 := hd 3
  have a0 : L2.atI (drl dr 0 4) 0 = some (.int (dr 0)) := drl_at (a := 0) (by omega) (by omega)
  have a1 : L2.atI (drl dr 0 4) 1 = some (.int (dr 1)) := drl_at (a := 0) (by omega) (by omega)
  have a2 : L2.atI (drl dr 0 4) 2 = some (.int (dr 2)) := drl_at (a := 0) (by omega) (by omega)
  have a3 : L2.atI (drl dr 0 4) 3 = some (.int (dr 3)) := drl_at (a := 0) (by omega) (by omega)
  obtain ⟨x, lx, sx, ex⟩ := ixZ d3.1
  obtain ⟨y, ly, sy, ey⟩ := ixZ (show 0 ≤ dr 3 / 26 by omega)
  obtain ⟨n, hN⟩ : ∃ n, n = (dr 0 * 1000000 + dr 1) * 1000000 + dr 2 := ⟨_, rfl⟩
  have i0 : L2.atI (drl dr 0 4) 0 = some (.int (dr 0)) := a0
  have nn : n.natAbs < 18446744073709551616 := by omega
  have lx1 : (x ++ y).length ≤ 2 := by rw [Str.length_append]; omega
  obtain ⟨z, lp⟩ := lp6 (s0 := .fz (.scr (ns.map .int))) (s1 := .fz (.lst (drl dr 0 4))) (n := n) (d := dr 3) (t := x ++ y) 8 0 .un (by omega)
  have c0 := cls9 (xs := []) row_b.1
  rw [row_b.2, List.map_map] at c0
  have xb := xc9 _ row_b.1
  have tb := t9 _ row_b.1
  have W2 : (fB dAdd (fB dMul (fB dAdd (fB dMul (fB dIx (fVar 1) (fC (.int 0))) (fC (.int 1000000))) (fB dIx (fVar 1) (fC (.int 1)))) (fC (.int 1000000))) (fB dIx (fVar 1) (fC (.int 2)))) [.fz (.scr (ns.map .int)), .fz (.lst (drl dr 0 4)), .un, .un, .un, .un, .un, .un, .un, .un, .un, .un, .un, .un, .un, .un, .un, .un, .un] = .ok (.int n) := by
    rw [hN]
    exact v_B (v_B (v_B (v_B (v_B rfl rfl (w_ixl a0)) rfl (dMul_ii (mulOk_r (lim64_by (by decide))))) (v_B rfl rfl (w_ixl a1)) dAdd_ii) rfl (dMul_ii (mulOk_r (lim64_by (by decide))))) (v_B rfl rfl (w_ixl a2)) dAdd_ii
  have W4 : (fB dAdd (fB dIx (fVar 3) (fB dMod (fL dIntS (fCons (fB dIx (fVar 1) (fC (.int 3))) fNil)) (fC (.int 26)))) (fB dIx (fVar 3) (fB dMod (fL dIntS (fCons (fB dFdiv (fB dIx (fVar 1) (fC (.int 3))) (fC (.int 26))) fNil)) (fC (.int 26))))) [.fz (.scr (ns.map .int)), .fz (.lst (drl dr 0 4)), .fz (.int n), .fz (.str "abcdefghijklmnopqrstuvwxyz"), .un, .un, .un, .un, .un, .un, .un, .un, .un, .un, .un, .un, .un, .un, .un] = .ok (.str (x ++ y)) :=
    v_B (v_B rfl (v_B (v_L (v_Cons (v_B rfl rfl (w_ixl a3)) v_Nil) dIntS_i) rfl (dMod_ii (by decide))) ex) (v_B rfl (v_B (v_L (v_Cons (v_B (v_B rfl rfl (w_ixl a3)) rfl (dFdiv_ii (by decide) (by decide))) v_Nil) dIntS_i) rfl (dMod_ii (by decide))) ey) (dAdd_ss (okLe_by (by omega)))
  have lc : (fLc (fRange (fCons (fC (.int 8)) fNil)) 17 fYes (fC (.bl false))) (V6 (.fz (.scr (ns.map .int))) (.fz (.lst (drl dr 0 4))) n (dr 3) (x ++ y) (.fz (.lst (er8 n (dr 3) (x ++ y)))) z .un (.fz (.obj "ListError" []))) = .ok (.lst ((List.range 8).map (D.bl ∘ fun _ => false))) :=
    v_Lc (v_Range (v_Cons rfl v_Nil) (w_range1 (by decide))) (v_lc_rangeN (h := fun _ => D.bl false) (fun a ha => IsAt.mk' (δ' := V6 (.fz (.scr (ns.map .int))) (.fz (.lst (drl dr 0 4))) n (dr 3) (x ++ y) (.fz (.lst (er8 n (dr 3) (x ++ y)))) z (.fz (.int (a : Nat))) (.fz (.obj "ListError" []))) rfl rfl rfl) (by decide))
  have q : dEq (.lst ((List.range 8).map (D.bl ∘ fun _ => false))) (.lst ((List.range 8).map (D.bl ∘ fun _ => false))) = some (.bl true) := by
    rw [← List.map_map]
    exact dEq_refl (eqbB.mono (by decide))
  have fin : (fRet (fAnd (fU (dIsX ([("BadEntry", true), ("BadText", true), ("Confused", true), ("ListError", true), ("MissingName", true), ("MixedName", true), ("NoSuchSize", true), ("OutOfRange", true), ("TooLarge", true)] : XT)) (fVar 18)) (fB dEq (fCall m__law_classes (fCons (fVar 18) fNil)) (fLc (fRange (fCons (fC (.int 8)) fNil)) 17 fYes (fC (.bl false)))))) (V6 (.fz (.scr (ns.map .int))) (.fz (.lst (drl dr 0 4))) n (dr 3) (x ++ y) (.fz (.lst (er8 n (dr 3) (x ++ y)))) z .un (.fz (.obj "ListError" []))) = .rt (.bl true) (V6 (.fz (.scr (ns.map .int))) (.fz (.lst (drl dr 0 4))) n (dr 3) (x ++ y) (.fz (.lst (er8 n (dr 3) (x ++ y)))) z .un (.fz (.obj "ListError" []))) :=
    v_Ret (v_AndE (b := true) (c := true) (v_U rfl (isx xb tb)) fun _ => v_B (v_Call (v_Cons rfl v_Nil) c0) lc q)
  have run : b_law [.fz (.scr (ns.map .int)), .un, .un, .un, .un, .un, .un, .un, .un, .un, .un, .un, .un, .un, .un, .un, .un, .un, .un] = .rt (.bl true) (V6 (.fz (.scr (ns.map .int))) (.fz (.lst (drl dr 0 4))) n (dr 3) (x ++ y) (.fz (.lst (er8 n (dr 3) (x ++ y)))) z .un (.fz (.obj "ListError" []))) :=
    v_Seq (v_Set (v_Call (v_Cons rfl (v_Cons rfl v_Nil)) dw) rfl) (v_thn_nx (v_Seq (v_Set W2 rfl) (v_thn_nx (v_Seq (v_Set rfl rfl) (v_thn_nx (v_Seq (v_Set W4 rfl) (v_thn_nx (v_Seq (v_Set (v_Lst (v_Cons rfl v_Nil)) rfl) (v_thn_nx (v_Seq (v_Set (v_Lst (v_Cons rfl (v_Cons (v_B rfl rfl (w_ixl a3)) v_Nil))) rfl) (v_thn_nx
    (v_Seq (v_Set (v_MakeX (v_Cons rfl v_Nil)) rfl) (v_thn_nx (v_Seq (v_Set (v_MakeX (v_Cons rfl v_Nil)) rfl) (v_thn_nx (v_Seq (v_Set (v_MakeX (v_Cons rfl v_Nil)) rfl) (v_thn_nx (v_Seq (v_Set (v_MakeX (v_Cons rfl v_Nil)) rfl) (v_thn_nx
    (v_Seq (v_Set (v_MakeX (v_Cons (v_B rfl rfl dSub_ii) v_Nil)) rfl) (v_thn_nx (v_Seq (v_Set (v_MakeX (v_Cons rfl (v_Cons rfl v_Nil))) rfl) (v_thn_nx (v_Seq (v_Set (v_MakeX (v_Cons rfl v_Nil)) rfl) (v_thn_nx (v_Seq (v_Set (v_MakeX (v_Cons rfl v_Nil)) rfl) (v_thn_nx
    (v_Seq k14 (v_thn_nx (v_Seq k15 (v_thn_nx (v_Seq k16 (v_thn_nx (v_Seq (v_Set (v_Lst (v_Cons rfl (v_Cons rfl (v_Cons rfl (v_Cons rfl (v_Cons rfl (v_Cons rfl (v_Cons rfl (v_Cons rfl v_Nil))))))))) rfl) (v_thn_nx (v_Seq (v_For (v_Range (v_Cons rfl v_Nil) (w_range1 (by decide))) lp) (v_thn_nx (v_Seq (v_Set (v_MakeX0 rfl) rfl) (v_thn_nx fin)))))))))))))))))))))))))))))))))))))))
  exact (congrArg O.fin run).trans rfl
end LW
end
namespace LW
open PySem PySem.Spec PyProof.Rows L2 DL
theorem facts {w : World} {K : PySem.W.Frag} {h : Heap} {mg : Str → Option Value} {f : Addr} (X : K.In h) (TF : TabF K h) (G : h.Ns mainGlobals mg) (hfa : mg ("law" : Str) = some (.ref f)) (c : obsX fa fx fn fy K = valX fn fy) :
    ∃ (K : PySem.W.Frag) (fd : FuncData) (sp : Sp), K.In h ∧ TabF K h ∧ (∀ (s : Shared) (u : Value), BindsTo s fd ⟨[u], []⟩ [(("_law_script" : Str), u)]) ∧
      (∀ (H : Hp) (a : Addr) (ns : List Int), ns.length ≤ 63 → (∀ p ∈ tabsK K, H p.2 = some (.tbl #[])) → SqL K H a (ns.map V.int) → sp [.ref a] H (fun v _ => v = .bl true) fun _ _ _ => False) ∧
      ∀ base : Heap, K.In base → base.Ns mainGlobals mg → (∀ p ∈ tabsK K, LamX.TabB base mg p.1 p.2) → FnOk PySem.Challenge.pw_unlookedlists_k06_errors w K mg base (L2.CX PySem.Challenge.pw_unlookedlists_k06_errors w) 3 f fd ["_law_script"] sp := by
  obtain ⟨fd, hb, hF⟩ := ok_law (w := w) c ⟨h, X, G⟩
  have e := hfa.symm.trans (glo_of c ⟨h, X, G⟩ 0)
  cases e
  exact ⟨K, fd, _, X, TF, hb, fun H a ns hl hO hS => law_sp (m := 63) law_true H hO a ns hl hS, fun base _ _ tb => hF base tb⟩
end LW
theorem PySem.Challenge.cw_unlookedlists_k06_errors_holds : PySem.Challenge.rw_unlookedlists_k06_errors.Holds :=
  LW.early LW.facts
