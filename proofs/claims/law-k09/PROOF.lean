import PyProof.Rows.All
import HandS.List
import Wide.All
import OpenK.AllK
import Wide.FinOn
import HandS.ForMost
import HandS.Exc
import HandS.TryOnly
import HandS.ExcOwn
import HandS.WordsExc
import HandS.HeadHook1
import HandS.Slots
import HandS.Wide
import HandS.IsInst
import HandS.RaiseMore
import HandS.TupAny
import HandS.Defaults
import HandS.Star
import HandS.Style
import HandS.Head0
import HandS.Head1
import HandS.Head2
import HandS.Head3
import HandS.HeadEnd
import HandS.HeadHook2
import HandS.Property
import HandS.ClsMeth
import HandS.CallRecv
import HandS.SlotsOwn
import HandS.Gcd
import HandS.MakeKwOnly
import KE.KMathG
import HandS.Iter
import KE.GoesEnum
import HandS.Conv
import KE.KRevSl
import HandS.SetKeys
import HandS.ExcInit
import HandS.ExcSuper
import HandS.Nested
import HandS.Lambda
import HandS.HeadWalk
import KE.KExcSuper
import HandS.More
import HandS.OwnIter
import HandS.Small
import HandS.Flow
import HandS.TryMany
import HandS.ExcField
import KE.KExcIs
import PyProof.StrBlock2
import HandS.IterVal
import PySem.Challenge.RW_unlookedlists_k09_rows_and_names
set_option Elab.async false
set_option linter.all false
set_option maxRecDepth 100000
set_option maxHeartbeats 4000000

namespace DL
open PySem

abbrev Ky : Type := Int ⊕ Str
structure LamI where
  qual : Str
  params : Arguments
  body : Expr
  scope : Scope
  cap : Str
inductive D where
  | non | bl (b : Bool) | int (i : Int) | str (x : Str)
  | tup (xs : List D) | lst (xs : List D) | scr (xs : List D)
  | obj (c : Str) (xs : List D) | fn (f : Str) | dic (ks : List Ky) (xs : List D) | clo (L : LamI) (x : D)

inductive R (α : Type) where
  | ok (a : α) | exc (n : Str) (xs : List D) | bad
def R.bind {α β : Type} (r : R α) (f : α → R β) : R β := match r with
  | .ok a => f a
  | .exc n xs => .exc n xs
  | .bad => .bad
@[simp] theorem R.bind_ok {α β : Type} (a : α) (f : α → R β) : (R.ok a).bind f = f a := rfl
@[simp] theorem R.bind_exc {α β : Type} (n : Str) (xs : List D) (f : α → R β) : (R.exc n xs).bind f = .exc n xs := rfl
@[simp] theorem R.bind_bad {α β : Type} (f : α → R β) : (R.bad : R α).bind f = .bad := rfl

inductive DS where
  | un | fz (d : D) | ow (xs : List D) | ob (c : Str) (fs : List (Str × D)) | od (ks : List Ky) (xs : List D)
def DS.mutb : DS → Bool
  | .un => false
  | .fz _ => false
  | _ => true
abbrev DSt := List DS
abbrev FE := DSt → R D
abbrev FL := DSt → R (List D)
abbrev FB := DSt → R Bool

def fVar (i : Nat) : FE := fun δ => match δ[i]? with
  | some (.fz d) => .ok d
  | _ => .bad
def fC (d : D) : FE := fun _ => .ok d
def R.of {α : Type} (o : Option α) : R α := match o with
  | some a => .ok a
  | none => .bad
@[simp] theorem R.of_some {α : Type} (a : α) : R.of (some a) = .ok a := rfl
@[simp] theorem R.of_none {α : Type} : R.of (none : Option α) = .bad := rfl
def fU (F : D → Option D) (f : FE) : FE := fun δ => (f δ).bind fun x => R.of (F x)
def fB (F : D → D → Option D) (f g : FE) : FE := fun δ => (f δ).bind fun x => (g δ).bind fun y => R.of (F x y)
def fNil : FL := fun _ => .ok []
def fCons (f : FE) (fl : FL) : FL := fun δ => (f δ).bind fun x => (fl δ).bind fun xs => .ok (x :: xs)
def fL (F : List D → Option D) (fl : FL) : FE := fun δ => (fl δ).bind fun xs => R.of (F xs)
def fCall (F : List D → R D) (fl : FL) : FE := fun δ => (fl δ).bind F
def fTup (fl : FL) : FE := fL (fun xs => some (.tup xs)) fl
def fLst (fl : FL) : FE := fL (fun xs => some (.lst xs)) fl
def fIf (c : FB) (f g : FE) : FE := fun δ => (c δ).bind fun b => match b with
  | true => f δ
  | false => g δ
def fTest (f : FE) : FB := fun δ => (f δ).bind fun d => match d with
  | .bl b => .ok b
  | _ => .bad
def fTru (f : FE) : FB := fun δ => (f δ).bind fun d => match d with
  | .bl b => .ok b
  | .lst xs => .ok (!xs.isEmpty)
  | .tup xs => .ok (!xs.isEmpty)
  | _ => .bad
def fNotB (c : FB) : FB := fun δ => (c δ).bind fun b => .ok (!b)
def fAndB (c d : FB) : FB := fun δ => (c δ).bind fun b => match b with
  | true => d δ
  | false => .ok false
def fOrB (c d : FB) : FB := fun δ => (c δ).bind fun b => match b with
  | true => .ok true
  | false => d δ
def fVal (c : FB) : FE := fun δ => (c δ).bind fun b => .ok (.bl b)

def okLe (n : Nat) : Bool := decide (n ≤ sizeLine)
def okLt (n : Nat) : Bool := decide (n < sizeLine)
theorem okLe_of {n : Nat} (h : okLe n = true) : n ≤ sizeLine := of_decide_eq_true h
theorem okLt_of {n : Nat} (h : okLt n = true) : n < sizeLine := of_decide_eq_true h
theorem okLe_by {n : Nat} (h : n ≤ 16777216) : okLe n = true := decide_eq_true (by rw [sizeLine_eq]; exact h)
theorem okLt_by {n : Nat} (h : n < 16777216) : okLt n = true := decide_eq_true (by rw [sizeLine_eq]; exact h)
def lim (k : Nat) (i : Int) : Bool := Nat.blt i.natAbs (2 ^ k)
def mulOk (i j : Int) : Bool := lim 64 i || lim 64 j || (lim 400 i && lim 400 j)
def repOk (n : Nat) (k : Int) : Bool := lim 63 k && okLe (n * k.toNat)
def dAdd : D → D → Option D
  | .int i, .int j => some (.int (i + j))
  | .str x, .str y => if okLe (x.length + y.length) = true then some (.str (x ++ y)) else none
  | .lst xs, .lst ys => if okLe (xs.length + ys.length) = true then some (.lst (xs ++ ys)) else none
  | .tup [], .tup ys => some (.tup ys)
  | .tup (x :: xs), .tup ys => if okLe ((x :: xs).length + ys.length) = true then some (.tup (x :: xs ++ ys)) else none
  | _, _ => none
def dSub : D → D → Option D
  | .int i, .int j => some (.int (i - j))
  | _, _ => none
def dMul : D → D → Option D
  | .int i, .int j => if mulOk i j = true then some (.int (i * j)) else none
  | .lst xs, .int k => if repOk xs.length k = true then some (.lst (List.replicate k.toNat xs).flatten) else none
  | _, _ => none
def divOk (j : Int) : Bool := decide (0 < j) && lim 400 j
def dFdiv : D → D → Option D
  | .int i, .int j => if divOk j = true then some (.int (i / j)) else none
  | _, _ => none
def dMod : D → D → Option D
  | .int i, .int j => if 0 < j then some (.int (i % j)) else none
  | _, _ => none
def powOk (i j : Int) : Bool := decide (0 ≤ j ∧ j ≤ 1000000 ∧ i.natAbs < 2 ^ 64)
theorem powOk_of {i j : Int} (h : powOk i j = true) : 0 ≤ j ∧ j ≤ 1000000 ∧ i.natAbs < 2 ^ 64 := of_decide_eq_true h
def dPow : D → D → Option D
  | .int i, .int j => if powOk i j = true then some (.int (i ^ j.toNat)) else none
  | _, _ => none
def dNeg : D → Option D
  | .int i => some (.int (-i))
  | _ => none
def dLt : D → D → Option D
  | .int i, .int j => some (.bl (decide (i < j)))
  | _, _ => none
def dLe : D → D → Option D
  | .int i, .int j => some (.bl (decide (i ≤ j)))
  | _, _ => none
def dGt : D → D → Option D
  | .int i, .int j => some (.bl (decide (j < i)))
  | _, _ => none
def dGe : D → D → Option D
  | .int i, .int j => some (.bl (decide (j ≤ i)))
  | _, _ => none
def D.isNon : D → Bool
  | .non => true
  | _ => false
def dIsN : D → Option D := fun d => some (.bl d.isNon)
def dNotN : D → Option D := fun d => some (.bl (!d.isNon))

mutual
def D.py : D → Option PyData
  | .non => some .none
  | .bl b => some (.bool b)
  | .int i => some (.int i)
  | .str x => some (.str x)
  | .tup xs => (pyL xs).map .tuple
  | .lst xs => (pyL xs).map .list
  | _ => none
def pyL : List D → Option (List PyData)
  | [] => some []
  | d :: ds => match d.py, pyL ds with
    | some a, some as => some (a :: as)
    | _, _ => none
end
def dEqP (d e : D) : Option Bool := match d.py, e.py with
  | some a, some b => if (SeqAt.shaped a && SeqAt.shaped b) = true then some (PyData.eqv a b) else none
  | _, _ => none
def dEqB (d e : D) : Option Bool := match d, e with
  | .str x, .str y => some (x == y)
  | .int i, .int j => some (i == j)
  | d, e => dEqP d e
def dEq (d e : D) : Option D := (dEqB d e).map .bl
def dNe (d e : D) : Option D := (dEqB d e).map fun b => .bl (!b)
def D.flat : D → Bool
  | .non => true
  | .bl _ => true
  | .int _ => true
  | .str _ => true
  | _ => false
def flatEq : D → D → Bool
  | .non, .non => true
  | .bl a, .bl b => a == b
  | .bl a, .int b => (if a then 1 else 0) == b
  | .int a, .bl b => a == (if b then 1 else 0)
  | .int a, .int b => a == b
  | .str a, .str b => a == b
  | _, _ => false
def inB (x : D) (xs : List D) : Bool := xs.any fun y => flatEq y x
def kIn (k : Ky) : List Ky → Bool
  | [] => false
  | x :: ks => if x = k then true else kIn k ks
def kGet : List Ky → List D → Ky → Option D
  | x :: ks, d :: ds, k => if x = k then some d else kGet ks ds k
  | _, _, _ => none
def D.key : D → Option Ky
  | .int i => some (.inl i)
  | .str x => some (.inr x)
  | _ => none
def dInB : D → D → Option Bool
  | x, .tup xs => if (x.flat && xs.all D.flat) = true then some (inB x xs) else none
  | x, .lst xs => if (x.flat && xs.all D.flat) = true then some (inB x xs) else none
  | .str x, .str y => some (!(Builtin.Str.occurrences y x 0 y.length 1).isEmpty)
  | x, .dic ks _ => x.key.map fun k => kIn k ks
  | _, _ => none
def dIn (x y : D) : Option D := (dInB x y).map .bl
def dNotIn (x y : D) : Option D := (dInB x y).map fun b => .bl (!b)

def dIx : D → D → Option D
  | .lst xs, .int i => L2.atI xs i
  | .tup xs, .int i => L2.atI xs i
  | .scr xs, .int i => L2.atI xs i
  | .str z, .int i => if okLe z.length = true then (L2.atI z.cps.toList i).map fun c => .str ⟨#[c]⟩ else none
  | .dic ks xs, k => k.key.bind fun k => kGet ks xs k
  | _, _ => none
def cut {α : Type} (xs : List α) (lo hi : Option Int) : List α := (xs.drop (HT.sIx xs.length 0 lo)).take (HT.sIx xs.length xs.length hi - HT.sIx xs.length 0 lo)
def dLen : List D → Option D
  | [.lst xs] => some (.int xs.length)
  | [.tup xs] => some (.int xs.length)
  | [.scr xs] => some (.int xs.length)
  | [.str z] => if okLe z.length = true then some (.int z.length) else none
  | [.dic ks _] => some (.int ks.length)
  | _ => none
def dAbs : List D → Option D
  | [.int i] => some (.int (if i < 0 then -i else i))
  | _ => none
def dMax2 : List D → Option D
  | [.int i, .int j] => some (.int (if j > i then j else i))
  | _ => none
def dMin2 : List D → Option D
  | [.int i, .int j] => some (.int (if j < i then j else i))
  | _ => none
def dInt : List D → Option D
  | [.int i] => some (.int i)
  | _ => none
def dStr : List D → Option D
  | [.int i] => if i.natAbs.log2 < 1920 then some (.str (toString i)) else none
  | [.str x] => some (.str x)
  | _ => none
def dList : List D → Option D
  | [.lst xs] => some (.lst xs)
  | [.tup xs] => some (.lst xs)
  | _ => none
def dTuple : List D → Option D
  | [.lst xs] => some (.tup xs)
  | [.tup xs] => some (.tup xs)
  | _ => none
end DL

namespace DL
open PySem PySem.Spec PyProof.Rows L2

def flds : Str → List Str := fun c =>
  if c = "Program" then ["_numbers", "_parts", "_texts"]
  else if c = "Undoer" then ["program"]
  else if c = "Forms" then ["program", "start", "modulus", "period"]
  else if c = "Reader" then ["tokens", "at", "depth"]
  else []
def slotted (c : Str) : Bool := decide (c = "Numbers") || decide (c = "Piece")
def ordS (c : Str) : List Nat := if c = "Numbers" then [6, 0, 5, 7, 3, 1, 2, 4] else [0, 1, 2, 3, 4, 5]
def stS : List Nat → List V → List (Option V) → List (Option V)
  | i :: is, v :: vs, ms => stS is vs (SlX.putS i v ms)
  | _, _, ms => ms
theorem ordS_nd (c : Str) : (ordS c).Nodup := by
  unfold ordS
  split <;> decide
theorem stS_keep : ∀ {is : List Nat} {vs : List V} {ms : List (Option V)} {i : Nat} {v : V}, i ∉ is → ms[i]? = some (some v) → (stS is vs ms)[i]? = some (some v)
  | [], _, _, _, _, _, h => by unfold stS; exact h
  | _ :: _, [], _, _, _, _, h => by unfold stS; exact h
  | j :: is, w :: vs, ms, i, v, n, h => by
    unfold stS
    exact stS_keep (fun z => n (List.mem_cons_of_mem _ z)) ((SlX.putS_ne (fun z => n (by rw [z]; exact List.mem_cons_self))).mpr h)
theorem stS_get : ∀ {is : List Nat} {vs : List V} {ms : List (Option V)} {j i : Nat} {v : V}, is.Nodup → is[j]? = some i → vs[j]? = some v → (stS is vs ms)[i]? = some (some v)
  | [], _, _, _, _, _, _, h, _ => by simp at h
  | _ :: _, [], _, _, _, _, _, _, h => by simp at h
  | i' :: is, w :: vs, ms, 0, i, v, n, h, q => by
    simp at h q
    subst h q
    unfold stS
    exact stS_keep (List.nodup_cons.mp n).1 (SlX.putS_get i' w ms)
  | i' :: is, w :: vs, ms, j + 1, i, v, n, h, q => by
    unfold stS
    exact stS_get (List.nodup_cons.mp n).2 (by simpa using h) (by simpa using q)
theorem stS_snoc : ∀ {is : List Nat} {vs : List V} {ms : List (Option V)} {i : Nat} {v : V}, is.length = vs.length → stS (is ++ [i]) (vs ++ [v]) ms = SlX.putS i v (stS is vs ms)
  | [], [], _, _, _, _ => rfl
  | [], _ :: _, _, _, _, h => by cases h
  | _ :: _, [], _, _, _, h => by cases h
  | j :: is, w :: vs, ms, i, v, h => by
    show stS (is ++ [i]) (vs ++ [v]) (SlX.putS j w ms) = _
    rw [stS_snoc (Nat.succ.inj h)]
    rfl

def LitL (K : PySem.W.Frag) (a : Addr) (xs : List V) : Prop :=
  ∃ (o : Obj) (its : Array Value) (n : Nat), K.lookup a = some o ∧ o.cls = .type "list" ∧ o.dict = none ∧ o.data = .seq its n ∧ its.size ≤ sizeLine ∧ Vals xs its.toList
def LitT (K : PySem.W.Frag) (a : Addr) (xs : List V) : Prop :=
  ∃ (o : Obj) (its : Array Value) (n : Nat), K.lookup a = some o ∧ o.cls = .type "tuple" ∧ o.data = .seq its n ∧ its.size ≤ sizeLine ∧ Vals xs its.toList
def ObjAt (K : PySem.W.Frag) (S : Addr → Prop) (H : Hp) (a : Addr) (c : Str) (xs : List V) : Prop :=
  ¬ S a ∧ ∃ dx, (slotted c = true ∧ ¬ S dx ∧ H a = some (SlX.SlO a (He.ga K c) dx (stS (ordS c) xs [])) ∧ H dx = some (.xd [])) ∨ (slotted c = false ∧ xs.length = (flds c).length ∧ H a = some (.ins (He.ga K c) dx ((flds c).zip xs)))

abbrev FunO (a c' c : Addr) (L : LamI) : HO := .ext fun h => ∃ pm ctv : Value, h.get? a = some (PySem.W.kla_obj "<lambda>" L.qual L.params L.body L.scope [(L.cap, c)] pm c' ctv)
abbrev CelO (c : Addr) (v : V) : HO := .ext fun h => ∃ u, RelV v u ∧ h.IsCell c (some u)
structure CloAt (S : Addr → Prop) (H : Hp) (a c' c : Addr) (L : LamI) (v : V) : Prop where
  fn : H a = some (FunO a c' c L)
  co : H c' = some (LamX.CodeO c' L.qual)
  ce : H c = some (CelO c v)
  nf : ¬ S a
  no : ¬ S c'
  ne : ¬ S c
mutual
/-- v stands for d; S: the addresses that may change -/
inductive Rep (K : PySem.W.Frag) (S : Addr → Prop) (H : Hp) : V → D → Prop
  | non : Rep K S H .non .non
  | bl (b : Bool) : Rep K S H (.bl b) (.bl b)
  | int (i : Int) : Rep K S H (.int i) (.int i)
  | str (x : Str) : Rep K S H (.str x) (.str x)
  | lst {a : Addr} {xs : List V} {ds : List D} : H a = some (.lst xs) → ¬ S a → RepL K S H xs ds → Rep K S H (.ref a) (.lst ds)
  | tup {a : Addr} {xs : List V} {ds : List D} : H a = some (.tup xs) → ¬ S a → RepL K S H xs ds → Rep K S H (.ref a) (.tup ds)
  | ltp {a : Addr} {xs : List V} {ds : List D} : LitT K a xs → RepL K S H xs ds → Rep K S H (.ref a) (.tup ds)
  | scr {a : Addr} {o : Obj} {xs : List V} {ds : List D} : H a = some (.frz o (.lst xs)) → ¬ S a → RepL K S H xs ds → Rep K S H (.ref a) (.scr ds)
  | sco {a : Addr} {xs : List V} {ds : List D} : H a = some (.lst xs) → ¬ S a → RepL K S H xs ds → Rep K S H (.ref a) (.scr ds)
  | scl {a : Addr} {xs : List V} {ds : List D} : LitL K a xs → RepL K S H xs ds → Rep K S H (.ref a) (.scr ds)
  | obj {a : Addr} {c : Str} {xs : List V} {ds : List D} : ObjAt K S H a c xs → RepL K S H xs ds → Rep K S H (.ref a) (.obj c ds)
  | fn (f : Str) : Rep K S H (.ref (He.ga K f)) (.fn f)
  | clo {a c' c : Addr} {L : LamI} {v : V} {d : D} : CloAt S H a c' c L v → Rep K S H v d → Rep K S H (.ref a) (.clo L d)
  | dic {a : Addr} {ks : List Ky} {xs : List V} {ds : List D} : H a = some (.dK (ks.zip xs)) → ¬ S a → ks.length = xs.length → ks.Nodup → RepL K S H xs ds → Rep K S H (.ref a) (.dic ks ds)
inductive RepL (K : PySem.W.Frag) (S : Addr → Prop) (H : Hp) : List V → List D → Prop
  | nil : RepL K S H [] []
  | cons {v : V} {vs : List V} {d : D} {ds : List D} : Rep K S H v d → RepL K S H vs ds → RepL K S H (v :: vs) (d :: ds)
end

def codeTab (K : PySem.W.Frag) (f : Str) : Option (Addr × Addr) := match K.lookup (He.ga K f) with
  | some o => match o.data with
    | .func u => match u.code with
      | .ref c => match K.lookup c with
        | some oc => match oc.data with
          | .fields vs => match (vs.getD 11 Value.none) with
            | .ref P => some (c, P)
            | _ => none
          | _ => none
        | none => none
      | _ => none
    | _ => none
  | none => none
def lamQ : Str := "free_name.<locals>.<lambda>"
def tabsK (K : PySem.W.Frag) : List (Addr × Addr) := match codeTab K "free_name" with
  | some p => [p]
  | none => []
def TabsOk (K : PySem.W.Frag) (H : Hp) : Prop := ∀ p ∈ tabsK K, LamX.TabS H p.2 lamQ
def NT (o : HO) : Prop := ∀ ps, o ≠ .tbl ps
def Pl (o : HO) : Prop := NT o ∧ ∀ φ, o ≠ .ext φ
structure KeepM (M : Addr → Prop) (H H' : Hp) : Prop where
  keep : ∀ b o, H b = some o → NT o → ¬ M b → H' b = some o
  tab : ∀ P, LamX.TabS H P lamQ → LamX.TabS H' P lamQ
  dom : ∀ b o, H b = some o → ∃ o', H' b = some o'
  pl : ∀ b o, H b = some o → Pl o → ∃ o', H' b = some o' ∧ Pl o'
  tb : ∀ b ps, H b = some (.tbl ps) → ∃ qs, H' b = some (.tbl qs)
abbrev NoM : Addr → Prop := fun _ => False
def Same (H H' : Hp) : Prop := KeepM NoM H H'
theorem KeepM.refl {M : Addr → Prop} {H : Hp} : KeepM M H H := ⟨fun _ _ h _ _ => h, fun _ h => h, fun _ o h => ⟨o, h⟩, fun _ o h p => ⟨o, h, p⟩, fun _ ps h => ⟨ps, h⟩⟩
theorem Same.refl (H : Hp) : Same H H := KeepM.refl
theorem Same.at {H H' : Hp} (e : Same H H') : ∀ b o, H b = some o → (n : NT o := by first | assumption | (intro ps z; cases z)) → H' b = some o := fun b o h n => e.keep b o h n fun z => z
theorem Same.trans {H H1 H2 : Hp} (a : Same H H1) (b : Same H1 H2) : Same H H2 := ⟨fun c o h n _ => b.at c o (a.at c o h n) n, fun P h => b.tab P (a.tab P h), fun c o h => let ⟨u, h1⟩ := a.dom c o h; b.dom c u h1, fun c o h p => let ⟨u, h1, p1⟩ := a.pl c o h p; b.pl c u h1 p1, fun c ps h => let ⟨qs, h1⟩ := a.tb c ps h; b.tb c qs h1⟩
theorem Same.of {H H' : Hp} (e : ∀ b o, H b = some o → H' b = some o) : Same H H' := ⟨fun b o h _ _ => e b o h, fun _ t => t.ext e, fun b o h => ⟨o, e b o h⟩, fun b o h p => ⟨o, e b o h, p⟩, fun b ps h => ⟨ps, e b _ h⟩⟩
theorem KeepM.trans {M : Addr → Prop} {H0 H H' : Hp} (k : KeepM M H0 H) (e : Same H H') : KeepM M H0 H' := ⟨fun b o h n m => e.at b o (k.keep b o h n m) n, fun P h => e.tab P (k.tab P h), fun b o h => let ⟨u, h1⟩ := k.dom b o h; e.dom b u h1, fun b o h p => let ⟨u, h1, p1⟩ := k.pl b o h p; e.pl b u h1 p1, fun b ps h => let ⟨qs, h1⟩ := k.tb b ps h; e.tb b qs h1⟩
theorem KeepM.all {H0 H : Hp} (k : KeepM NoM H0 H) : Same H0 H := k
theorem tabS_upd {H : Hp} {a : Addr} {u0 u : HO} {P : Addr} {q : Str} (h : H a = some u0) (p : Pl u0) (t : LamX.TabS H P q) : LamX.TabS (upd H a u) P q := by
  obtain ⟨ps, h1, h2, h3⟩ := t
  refine ⟨ps, by rw [upd_ne (ne_of h1 h fun z => p.1 ps z.symm)]; exact h1, h2, fun pos cv hc => ?_⟩
  obtain ⟨c, e1, e2⟩ := h3 pos cv hc
  exact ⟨c, e1, by rw [upd_ne (ne_of e2 h fun z => p.2 _ z.symm)]; exact e2⟩
theorem keepM_upd {H : Hp} {a : Addr} {u0 u : HO} (h : H a = some u0) (p : Pl u0 := by first | assumption | exact ⟨fun ps z => (by cases z), fun ps z => (by cases z)⟩) (pu : Pl u := by first | assumption | exact ⟨fun ps z => (by cases z), fun ps z => (by cases z)⟩) : KeepM (· = a) H (upd H a u) :=
  ⟨fun b o q _ n => by rw [upd_ne n]; exact q, fun P t => tabS_upd h p t, fun b o q => by
    by_cases e : b = a
    · rw [e]; exact ⟨u, upd_same⟩
    · exact ⟨o, by rw [upd_ne e]; exact q⟩, fun b o q po => by
    by_cases e : b = a
    · rw [e]; exact ⟨u, upd_same, pu⟩
    · exact ⟨o, by rw [upd_ne e]; exact q, po⟩, fun b ps q => ⟨ps, by rw [upd_ne (ne_of q h fun z => p.1 ps z.symm)]; exact q⟩⟩
theorem TabsOk.mono {M : Addr → Prop} {K : PySem.W.Frag} {H H' : Hp} (e : KeepM M H H') (t : TabsOk K H) : TabsOk K H' := fun p hp => e.tab _ (t p hp)
structure Dom (K : PySem.W.Frag) (S : Addr → Prop) (H : Hp) : Prop where
  at_ : ∀ b, S b → ∃ o, H b = some o ∧ Pl o
  tabs : TabsOk K H
theorem Dom.new {K : PySem.W.Frag} {S : Addr → Prop} {H : Hp} (h : Dom K S H) {p : Addr} (hp : H p = none) : ¬ S p := fun z => by
  obtain ⟨o, q, _⟩ := h.at_ p z
  rw [hp] at q; cases q
theorem Dom.mono {M : Addr → Prop} {K : PySem.W.Frag} {S : Addr → Prop} {H H' : Hp} (e : KeepM M H H') (h : Dom K S H) : Dom K S H' := ⟨fun b z => let ⟨o, q, p⟩ := h.at_ b z; e.pl b o q p, h.tabs.mono e⟩
section
variable {K : PySem.W.Frag} {S S' : Addr → Prop} {H H' : Hp}
mutual
theorem Rep.to (k : ∀ b o, H b = some o → NT o → ¬ S b → H' b = some o) (g : ∀ b o, H b = some o → ¬ S b → ¬ S' b) : ∀ {v : V} {d : D}, Rep K S H v d → Rep K S' H' v d
  | _, _, .non => .non
  | _, _, .bl b => .bl b
  | _, _, .int i => .int i
  | _, _, .str x => .str x
  | _, _, .lst h n r => .lst (k _ _ h (by first | assumption | (intro ps z; cases z)) n) (g _ _ h n) (RepL.to k g r)
  | _, _, .tup h n r => .tup (k _ _ h (by first | assumption | (intro ps z; cases z)) n) (g _ _ h n) (RepL.to k g r)
  | _, _, .ltp h r => .ltp h (RepL.to k g r)
  | _, _, .scr h n r => .scr (k _ _ h (by first | assumption | (intro ps z; cases z)) n) (g _ _ h n) (RepL.to k g r)
  | _, _, .scl h r => .scl h (RepL.to k g r)
  | _, _, .sco h n r => .sco (k _ _ h (by first | assumption | (intro ps z; cases z)) n) (g _ _ h n) (RepL.to k g r)
  | _, _, .obj h r => .obj (by
      obtain ⟨n, dx, h⟩ := h
      rcases h with ⟨e, nd, h, q⟩ | ⟨e, l, h⟩
      · exact ⟨g _ _ h n, dx, .inl ⟨e, g _ _ q nd, k _ _ h (by first | assumption | (intro ps z; cases z)) n, k _ _ q (by first | assumption | (intro ps z; cases z)) nd⟩⟩
      · exact ⟨g _ _ h n, dx, .inr ⟨e, l, k _ _ h (by first | assumption | (intro ps z; cases z)) n⟩⟩) (RepL.to k g r)
  | _, _, .fn f => .fn f
  | _, _, .clo h r => .clo ⟨k _ _ h.fn (by first | assumption | (intro ps z; cases z)) h.nf, k _ _ h.co (by first | assumption | (intro ps z; cases z)) h.no, k _ _ h.ce (by first | assumption | (intro ps z; cases z)) h.ne, g _ _ h.fn h.nf, g _ _ h.co h.no, g _ _ h.ce h.ne⟩ (Rep.to k g r)
  | _, _, .dic h n l nd r => .dic (k _ _ h (by first | assumption | (intro ps z; cases z)) n) (g _ _ h n) l nd (RepL.to k g r)
theorem RepL.to (k : ∀ b o, H b = some o → NT o → ¬ S b → H' b = some o) (g : ∀ b o, H b = some o → ¬ S b → ¬ S' b) : ∀ {vs : List V} {ds : List D}, RepL K S H vs ds → RepL K S' H' vs ds
  | _, _, .nil => .nil
  | _, _, .cons h r => .cons (Rep.to k g h) (RepL.to k g r)
end
theorem Rep.mono (e : Same H H') {v : V} {d : D} (h : Rep K S H v d) : Rep K S H' v d := h.to (fun b o q n _ => e.at b o q) fun _ _ _ n => n
theorem RepL.mono (e : Same H H') {vs : List V} {ds : List D} (h : RepL K S H vs ds) : RepL K S H' vs ds := h.to (fun b o q n _ => e.at b o q) fun _ _ _ n => n
theorem Rep.less (e : ∀ b, S' b → S b) {v : V} {d : D} (h : Rep K S H v d) : Rep K S' H v d := h.to (fun _ _ q _ _ => q) fun b _ _ n z => n (e b z)
theorem RepL.less (e : ∀ b, S' b → S b) {vs : List V} {ds : List D} (h : RepL K S H vs ds) : RepL K S' H vs ds := h.to (fun _ _ q _ _ => q) fun b _ _ n z => n (e b z)
theorem RepL.length : ∀ {vs : List V} {ds : List D}, RepL K S H vs ds → vs.length = ds.length
  | _, _, .nil => rfl
  | _, _, .cons _ r => congrArg Nat.succ r.length
theorem RepL.get : ∀ {vs : List V} {ds : List D} {i : Nat} {d : D}, RepL K S H vs ds → ds[i]? = some d → ∃ v, vs[i]? = some v ∧ Rep K S H v d
  | _, _, _, _, .nil, e => by simp at e
  | _, _, 0, _, .cons h _, e => by simp at e; subst e; exact ⟨_, rfl, h⟩
  | _, _, i + 1, d, .cons _ r, e => by
    obtain ⟨v, h1, h2⟩ := RepL.get (i := i) (d := d) r (by simpa using e)
    exact ⟨v, by simpa using h1, h2⟩
theorem RepL.append : ∀ {vs ws : List V} {ds es : List D}, RepL K S H vs ds → RepL K S H ws es → RepL K S H (vs ++ ws) (ds ++ es)
  | _, _, _, _, .nil, s => s
  | _, _, _, _, .cons h r, s => .cons h (r.append s)
theorem RepL.take : ∀ {vs : List V} {ds : List D} (n : Nat), RepL K S H vs ds → RepL K S H (vs.take n) (ds.take n)
  | _, _, 0, _ => .nil
  | _, _, _ + 1, .nil => .nil
  | _, _, n + 1, .cons h r => .cons h (r.take n)
theorem RepL.drop : ∀ {vs : List V} {ds : List D} (n : Nat), RepL K S H vs ds → RepL K S H (vs.drop n) (ds.drop n)
  | _, _, 0, r => r
  | _, _, _ + 1, .nil => .nil
  | _, _, n + 1, .cons _ r => r.drop n
theorem RepL.reverse {vs : List V} {ds : List D} (h : RepL K S H vs ds) : RepL K S H vs.reverse ds.reverse := by
  have go : ∀ {vs : List V} {ds : List D}, RepL K S H vs ds → RepL K S H vs.reverse ds.reverse := by
    intro vs
    induction vs with
    | nil => intro ds h; cases h; exact .nil
    | cons v vs ih =>
      intro ds h
      cases h with
      | cons h r => rw [List.reverse_cons, List.reverse_cons]; exact (ih r).append (.cons h .nil)
  exact go h
theorem RepL.flat {vs : List V} {ds : List D} (h : RepL K S H vs ds) : ∀ n : Nat, RepL K S H (List.replicate n vs).flatten (List.replicate n ds).flatten
  | 0 => .nil
  | n + 1 => by
    rw [List.replicate_succ, List.replicate_succ, List.flatten_cons, List.flatten_cons]
    exact h.append (h.flat n)
theorem RepL.cut {vs : List V} {ds : List D} (h : RepL K S H vs ds) (lo hi : Option Int) : RepL K S H (cutV vs lo hi) (DL.cut ds lo hi) := by
  unfold cutV DL.cut
  rw [h.length]
  exact (h.drop _).take _
theorem RepL.set {v : V} {d : D} (q : Rep K S H v d) : ∀ {vs : List V} {ds : List D} (i : Nat), RepL K S H vs ds → RepL K S H (vs.set i v) (ds.set i d)
  | _, _, _, .nil => .nil
  | _, _, 0, .cons _ r => .cons q r
  | _, _, i + 1, .cons h r => .cons h (RepL.set q i r)
theorem RepL.dropLast {vs : List V} {ds : List D} (h : RepL K S H vs ds) : RepL K S H vs.dropLast ds.dropLast := by
  rw [List.dropLast_eq_take, List.dropLast_eq_take, h.length]
  exact h.take _
end

mutual
theorem Rep.py {K : PySem.W.Frag} {S : Addr → Prop} {H : Hp} : ∀ {v : V} {d : D} {a : PyData}, Rep K S H v d → d.py = some a → Dp K H v a
  | _, _, _, .non, e => by cases e; exact .non
  | _, _, _, .bl b, e => by cases e; exact .bl b
  | _, _, _, .int i, e => by cases e; exact .int i
  | _, _, _, .str x, e => by cases e; exact .str x
  | _, _, _, .lst (ds := ds) h n r, e => by
    have e' : (pyL ds).map PyData.list = some _ := e
    obtain ⟨as, h1, h2⟩ := Option.map_eq_some_iff.mp e'
    subst h2
    exact .lst (SqL.of h) (RepL.py r h1)
  | _, _, _, .tup (ds := ds) h n r, e => by
    have e' : (pyL ds).map PyData.tuple = some _ := e
    obtain ⟨as, h1, h2⟩ := Option.map_eq_some_iff.mp e'
    subst h2
    exact .tup (SqT.of h) (RepL.py r h1)
  | _, _, _, .ltp (ds := ds) h r, e => by
    have e' : (pyL ds).map PyData.tuple = some _ := e
    obtain ⟨as, h1, h2⟩ := Option.map_eq_some_iff.mp e'
    subst h2
    exact .tup (.inr h) (RepL.py r h1)
  | _, _, _, .scr _ _ _, e => by cases e
  | _, _, _, .scl _ _, e => by cases e
  | _, _, _, .sco _ _ _, e => by cases e
  | _, _, _, .obj _ _, e => by cases e
  | _, _, _, .fn _, e => by cases e
  | _, _, _, .dic _ _ _ _ _, e => by cases e
theorem RepL.py {K : PySem.W.Frag} {S : Addr → Prop} {H : Hp} : ∀ {vs : List V} {ds : List D} {as : List PyData}, RepL K S H vs ds → pyL ds = some as → DpAll K H vs as
  | _, _, _, .nil, e => by cases e; exact .nil
  | _, _, _, .cons (d := d) (ds := ds) h r, e => by
    unfold pyL at e
    cases q1 : d.py with
    | none => rw [q1] at e; cases e
    | some a =>
      cases q2 : pyL ds with
      | none => rw [q1, q2] at e; cases e
      | some as =>
        rw [q1, q2] at e
        cases e
        exact .cons (Rep.py h q1) (RepL.py r q2)
end

def SlotOk (K : PySem.W.Frag) (S : Addr → Prop) (H : Hp) (o : Option V) : DS → Prop
  | .un => True
  | .fz d => ∃ v, o = some v ∧ Rep K S H v d
  | .ow ds => ∃ a xs, o = some (.ref a) ∧ H a = some (.lst xs) ∧ S a ∧ RepL K S H xs ds
  | .ob c fs => ∃ a dx vs, o = some (.ref a) ∧ H a = some (.ins (He.ga K c) dx vs) ∧ S a ∧ vs.map (·.1) = fs.map (·.1) ∧ RepL K S H (vs.map (·.2)) (fs.map (·.2))
  | .od ks ds => ∃ a xs, o = some (.ref a) ∧ H a = some (.dK (ks.zip xs)) ∧ S a ∧ ks.length = xs.length ∧ ks.Nodup ∧ RepL K S H xs ds
theorem SlotOk.addr {K : PySem.W.Frag} {S : Addr → Prop} {H : Hp} {o : Option V} : ∀ {t : DS}, SlotOk K S H o t → t.mutb = true → ∃ a u, o = some (.ref a) ∧ H a = some u ∧ S a
  | .ow _, ⟨a, _, q, h, z, _⟩, _ => ⟨a, _, q, h, z⟩
  | .ob _ _, ⟨a, _, _, q, h, z, _⟩, _ => ⟨a, _, q, h, z⟩
  | .od _ _, ⟨a, _, q, h, z, _⟩, _ => ⟨a, _, q, h, z⟩
  | .un, _, z => by cases z
  | .fz _, _, z => by cases z
theorem SlotOk.move {K : PySem.W.Frag} {S S' : Addr → Prop} {H H' : Hp} (k : ∀ b o, H b = some o → NT o → ¬ S b → H' b = some o) (g : ∀ b o, H b = some o → ¬ S b → ¬ S' b) {o : Option V} :
    ∀ {t : DS}, (∀ b, o = some (.ref b) → t.mutb = true → (∀ u, H b = some u → NT u → H' b = some u) ∧ S' b) → SlotOk K S H o t → SlotOk K S' H' o t
  | .un, _, _ => trivial
  | .fz d, _, ⟨v, q, r⟩ => ⟨v, q, r.to k g⟩
  | .ow ds, m, ⟨a, xs, q, h, z, r⟩ => ⟨a, xs, q, (m a q rfl).1 _ h (by first | assumption | (intro ps z; cases z)), (m a q rfl).2, r.to k g⟩
  | .ob c fs, m, ⟨a, dx, vs, q, h, z, n, r⟩ => ⟨a, dx, vs, q, (m a q rfl).1 _ h (by first | assumption | (intro ps z; cases z)), (m a q rfl).2, n, r.to k g⟩
  | .od ks ds, m, ⟨a, xs, q, h, z, n, d, r⟩ => ⟨a, xs, q, (m a q rfl).1 _ h (by first | assumption | (intro ps z; cases z)), (m a q rfl).2, n, d, r.to k g⟩
structure StE (K : PySem.W.Frag) (S : Addr → Prop) (σ : L2.St) (H : Hp) (δ : DSt) : Prop where
  len : σ.length = δ.length
  slot : ∀ (i : Nat) (s : DS), δ[i]? = some s → ∃ o, σ[i]? = some o ∧ SlotOk K S H o s
  sep : ∀ (i j : Nat) (a : Addr) (s t : DS), δ[i]? = some s → δ[j]? = some t → s.mutb = true → t.mutb = true → σ[i]? = some (some (.ref a)) → σ[j]? = some (some (.ref a)) → i = j
  here : Dom K S H
section
variable {K : PySem.W.Frag} {S S' : Addr → Prop} {H H' : Hp} {σ : L2.St} {δ : DSt}
theorem SlotOk.mono (e : Same H H') {o : Option V} {s : DS} (h : SlotOk K S H o s) : SlotOk K S H' o s := h.move (fun b o q n _ => e.at b o q) (fun _ _ _ n => n) fun b q m => by
  obtain ⟨a, u, h1, h2, h3⟩ := h.addr m
  rw [h1] at q
  cases q
  exact ⟨fun u q n => e.at _ _ q, h3⟩
theorem StE.mono (e : Same H H') (s : StE K S σ H δ) : StE K S σ H' δ :=
  ⟨s.len, fun i t h => let ⟨o, h1, h2⟩ := s.slot i t h; ⟨o, h1, h2.mono e⟩, s.sep, s.here.mono e⟩
end
end DL

namespace DL
open PySem PySem.Spec PyProof.Rows L2
def PsA (CX : CXT) (X : Cx) (E : L2.St → XK) : Prop := ∀ σ, PassesAt CX X σ (E σ)
theorem PsA.of {CX : CXT} {X : Cx} {E : XK} (h : Passes CX X E) : PsA CX X fun _ => E := fun σ pins H s e s' => h pins σ H s e s'
theorem PsA.all {CX : CXT} {X : Cx} {E : XK} (h : PsA CX X fun _ => E) : Passes CX X E := fun pins σ H s e s' => h σ pins H s e s'
section
variable {X : Cx} {CX : CXT} {pins : List (Addr × Obj)} {σ : L2.St} {H : Hp} {s : Shared} {k : Nat} {sp : Sp} {E : L2.St → XK} {E1 : XK} {Q : VK}
theorem run_at {fa : Addr} {us : List Value} {vs : List V} (Fn : FnR X.prog X.w X.K X.mg X.base CX k fa sp) (room : Room k X.A) (out : PassesAt CX X σ E1) (I : Inv X pins σ H s) (rel : Vals vs us) (hq : sp vs H Q E1) :
    codeAny (model X.prog X.w) X.A (.call (.ref fa) ⟨us, []⟩) (fun r s' => match r with | .ok (.ret v) => EP X pins σ Q v s' | .ok _ => False | .error e => X.xe e s') s :=
  codeAny_mono (Fn X.A X.stack s H us vs Q E1 room I.env0 rel hq) fun r s' a => match r, a with
    | .error e, a => out pins H s e s' I a
    | .ok (.ret u), a => I.after a
    | .ok .next, a => a.elim
    | .ok .brk, a => a.elim
    | .ok .cont, a => a.elim
variable {C fa g : Addr} {m x : Str} {o b fe : Expr} {bs : List Expr} {ta tf : TE} {t : TA} {p apos pos : Pos} {pl : Sem Bool}
abbrev MNode (X : Cx) (o : Expr) (m : Str) (apos : Pos) (es : List Expr) (pos : Pos) (pl : Sem Bool) : Sem Value := do
  let ov ← eval o X.env
  standAt apos.atName
  let (f, first) ← holding [ov] (getMethod ov m pl)
  callWith pos f first (backTo pos (starEach es X.env)) (backToKw pos (keywordEach [] X.env))
abbrev Plain1 (X : Cx) (b : Expr) (bs : List Expr) (pos : Pos) : Prop := starEach (b :: bs) X.env = (false, eval b X.env) :: starEach bs X.env ∧ (backTo pos (starEach bs X.env)).any (·.1) = false
theorem pa_methR (he : PE X o ta) (c : Cls X.K C) (hm : Meth X.K C m fa) (Fn : FnR X.prog X.w X.K X.mg X.base CX k fa sp) (room : Room k X.A) (out : PsA CX X E) (ha : PA X (b :: bs) t) (h1 : Plain1 X b bs pos)
    (ht : eval (.Call (.Attribute o m apos) (b :: bs) [] pos) X.env = MNode X o m apos (b :: bs) pos pl) : PE X (.Call (.Attribute o m apos) (b :: bs) [] pos) fun σ H Q => tMethR C m sp (E σ) ta t σ H Q :=
  ⟨fun pins s σ H Q I hq => PySem.W.methodCall_KW (pl := pl) (thn (he.run pins s σ H _ I hq) fun u s1 ⟨y, H1, I1, ry, a, dx, fs, ey, ea, l, q⟩ => by
    subst ey
    cases (show u = Value.ref a from ry)
    exact getmeth_ok I1 ea c hm l (PySem.W.callWith_K (first := [.ref a]) (h₀ := X.base) I.ok.mod.kin hm.kp (thn (ha.run pos pins s1 σ H1 _ I1 q) fun us s2 ⟨ws, H2, I2, rw', q2⟩ =>
      ⟨I2.kIn, wpAny_call (run_at (us := .ref a :: us) (vs := .ref a :: ws) Fn room (out σ) I2 (.cons rfl rw') q2)⟩) h1.1 h1.2)) ht⟩
theorem pa_methR0 (he : PE X o ta) (c : Cls X.K C) (hm : Meth X.K C m fa) (Fn : FnR X.prog X.w X.K X.mg X.base CX k fa sp) (room : Room k X.A) (out : PsA CX X E)
    (ht : eval (.Call (.Attribute o m apos) [] [] pos) X.env = MNode X o m apos [] pos pl) : PE X (.Call (.Attribute o m apos) [] [] pos) fun σ H Q => tMethR C m sp (E σ) ta tNil σ H Q :=
  ⟨fun pins s σ H Q I hq => PySem.W.methodCall_KW (pl := pl) (thn (he.run pins s σ H _ I hq) fun u s1 ⟨y, H1, I1, ry, a, dx, fs, ey, ea, l, q⟩ => by
    subst ey
    cases (show u = Value.ref a from ry)
    exact getmeth_ok I1 ea c hm l (PySem.W.callWith_K0 (first := [.ref a]) I1.kIn hm.kp (wpAny_call (run_at (us := [.ref a]) (vs := [.ref a]) Fn room (out σ) I1 (.cons rfl .nil) q)))) ht⟩
theorem pa_cmeth {pm : Addr} {mc : Value} (he : PE X o ta) (r : ClX.CRead X.K C mc) (c : ClX.CMet X.K C mc m pm g) (Fn : FnR X.prog X.w X.K X.mg X.base CX k g sp) (room : Room k X.A) (out : PsA CX X E) (ha : PA X (b :: bs) t) (h1 : Plain1 X b bs pos)
    (ht : eval (.Call (.Attribute o m apos) (b :: bs) [] pos) X.env = MNode X o m apos (b :: bs) pos pl) : PE X (.Call (.Attribute o m apos) (b :: bs) [] pos) fun σ H Q => ClX.tCMeth C sp (E σ) ta t σ H Q :=
  ⟨fun pins s σ H Q I hq => PySem.W.methodCall_KW (pl := pl) (thn (he.run pins s σ H _ I hq) fun u s1 ⟨y, H1, I1, ry, ey, q⟩ => by
    subst ey
    cases (show u = Value.ref C from ry)
    exact ClX.getmethcm_ok I1 r c fun s2 I2 => ClX.callwith_cm I2 (ClX.base_none I1 (Nat.le_refl _)) c.fi (thn (ha.run pos _ s2 σ H1 _ I2 q) fun us s3 ⟨ws, H2, I3, rw', q2⟩ => ⟨⟨ClX.pin_at I3, I3.kIn⟩,
      thn (wpAny_call (PySem.W.method_call (ClX.pin_at I3) (run_at (us := .ref C :: us) (vs := .ref C :: ws) Fn room (out σ) I3 (.cons rfl rw') q2))) fun _ _ y => ClX.unpinE y⟩) h1.1 h1.2) ht⟩
variable {fI : Addr} {fd : FuncData} {ps : List Str}
theorem made_at {us : List Value} {vs : List V} (M : Mk X.K C fI) (Fn : FnOk X.prog X.w X.K X.mg X.base CX k fI fd ps sp) (room : Room (k + 1) X.A) (hb : Binds X.K fd ps []) (out : PassesAt CX X σ E1) (I : Inv X pins σ H s) (rel : Vals vs us)
    (hq : ∀ y dy, H y = none → H dy = none → dy ≠ y → sp (.ref y :: vs) (upd (upd H dy (.own y)) y (.ins C dy [])) (fun v H2 => v = .non ∧ Q (.ref y) H2) E1) : wpAny (model X.prog X.w) X.A (call (.ref C) us) (EP X pins σ Q) X.xe s := by
  have q1 := hq _ _ (I.hok.fresh (Nat.le_succ s.heap.objs.size)) (I.hok.fresh (Nat.le_refl _)) (Nat.ne_of_lt (Nat.lt_succ_self _))
  have I2 := Inv.made (C := C) I
  have rel2 : Vals (V.ref (s.heap.objs.size + 1) :: vs) (Value.ref (s.heap.objs.size + 1) :: us) := .cons rfl rel
  have len : (Value.ref (s.heap.objs.size + 1) :: us).length = ps.length := rel2.length.symm.trans (Fn.len _ _ _ _ q1)
  have bd := hb _ (Value.ref (s.heap.objs.size + 1) :: us) I2.kIn (by rw [List.append_nil]; exact len)
  rw [List.append_nil] at bd
  refine wpAny_call (make_map (f := fI) I.kIn M.makes M.init (beq_iff_eq.mp M.fn) (codeAny_mono (Fn.run _ X.stack _ _ ⟨Value.ref (s.heap.objs.size + 1) :: us, []⟩ _ _ _ E1 (room.make C us []) (I2.env0.make C us []) bd rel2 q1) fun r s' a => ?_))
  match r, a with
  | .error e, a => exact out pins _ _ e s' I2 a
  | .ok (.ret u), a =>
    obtain ⟨v, H', I3, rv, ev, q3⟩ := I2.after a
    subst ev
    exact ⟨rv, V.ref (s.heap.objs.size + 1), H', I3, rfl, q3⟩
  | .ok .next, a => exact a.elim
  | .ok .brk, a => exact a.elim
  | .ok .cont, a => exact a.elim
theorem pa_make (M : Mk X.K C fI) (Fn : FnOk X.prog X.w X.K X.mg X.base CX k fI fd ps sp) (room : Room (k + 1) X.A) (hg : Gl X x) (hm : X.mg x = some (.ref C)) (hb : Binds X.K fd ps []) (out : PsA CX X E) (ha : PA X (b :: bs) t)
    (hdb : (x == ("__debug__" : Str)) = false) (h1 : Plain1 X b bs pos) : PE X (.Call (.Name x p) (b :: bs) [] pos) fun σ H Q => tMake C sp [] (E σ) t σ H Q :=
  ⟨fun pins s σ H Q I hq => wpAny_Call_Name_kw (ld_glob I hg hm (PySem.W.callWith_K (h₀ := X.base) I.ok.mod.kin M.kp (thn (ha.run pos pins s σ H _ I hq) fun us s1 ⟨vs, H1, I1, rw', q⟩ => ⟨I1.kIn,
    made_at M Fn room hb (out σ) I1 rw' fun y dy a b c => by
      have := q y dy a b c
      rw [List.append_nil] at this
      exact this⟩) h1.1 h1.2) hdb)⟩
end
end DL

namespace DL
open PySem PySem.Spec PyProof.Rows L2
abbrev Sg := L2.St

def exF : Str → List Str := fun c =>
  if c = "BadText" then ["place"] else if c = "TooLarge" then ["what"] else if c = "MixedName" then ["name"] else if c = "MissingName" then ["name"]
  else if c = "OutOfRange" then ["number"] else if c = "Confused" then ["second", "first"] else if c = "NoSuchSize" then ["size"] else if c = "BadEntry" then ["entry"] else []
def ExR (K : PySem.W.Frag) (S : Addr → Prop) (H : Hp) (cls : Value) (dx : Option Addr) (n : Str) (xs : List D) : Prop :=
  cls = .ref (He.ga K n) ∧ ∃ a vs, dx = some a ∧ H a = some (.xd ((exF n).zip vs)) ∧ ¬ S a ∧ RepL K S H vs xs

def Res {α : Type} (K : PySem.W.Frag) (S : Addr → Prop) (H : Hp) (E : XK) (r : R α) (P : α → Prop) : Prop := match r with
  | .ok d => P d
  | .exc n xs => ∀ cls dx H', Same H H' → ExR K S H' cls dx n xs → E cls dx H'
  | .bad => False
abbrev E0s : Sg → XK := fun _ => E0
def tD (K : PySem.W.Frag) (E : Sg → XK) (f : FE) : TE := fun σ H Q => ∃ S δ, StE K S σ H δ ∧ Res K S H (E σ) (f δ) fun d => ∀ v H', Same H H' → Rep K S H' v d → Q v H'
def tDL (K : PySem.W.Frag) (E : Sg → XK) (f : FL) : TA := fun σ H Q => ∃ S δ, StE K S σ H δ ∧ Res K S H (E σ) (f δ) fun ds => ∀ vs H', Same H H' → RepL K S H' vs ds → Q vs H'
def tDB (K : PySem.W.Frag) (E : Sg → XK) (f : FB) : TT := fun σ H Q => ∃ S δ, StE K S σ H δ ∧ Res K S H (E σ) (f δ) fun b => ∀ H', Same H H' → Q b H'
def DE (X : Cx) (E : Sg → XK) (e : Expr) (f : FE) : Prop := PE X e (tD X.K E f)
structure DA (X : Cx) (E : Sg → XK) (es : List Expr) (f : FL) : Prop where
  pa : PA X es (tDL X.K E f)
  len : ∀ δ ds, f δ = .ok ds → ds.length = es.length
def DB (X : Cx) (E : Sg → XK) (e : Expr) (f : FB) : Prop := PT X e (tDB X.K E f)
def DW (X : Cx) (E : Sg → XK) (e : Expr) (f : FB) : Prop := PW X e (tDB X.K E f)

theorem PE.imp {X : Cx} {e : Expr} {t t' : TE} (h : PE X e t) (k : ∀ σ H Q, t' σ H Q → t σ H Q) : PE X e t' := ⟨fun pins s σ H Q I q => h.run pins s σ H Q I (k σ H Q q)⟩
theorem PA.imp {X : Cx} {es : List Expr} {t t' : TA} (h : PA X es t) (k : ∀ σ H Q, t' σ H Q → t σ H Q) : PA X es t' := ⟨fun pos pins s σ H Q I q => h.run pos pins s σ H Q I (k σ H Q q)⟩
theorem PT.imp {X : Cx} {e : Expr} {t t' : TT} (h : PT X e t) (k : ∀ σ H Q, t' σ H Q → t σ H Q) : PT X e t' := ⟨fun pins s σ H Q I q => h.run pins s σ H Q I (k σ H Q q)⟩
theorem PW.imp {X : Cx} {e : Expr} {t t' : TT} (h : PW X e t) (k : ∀ σ H Q, t' σ H Q → t σ H Q) : PW X e t' := ⟨fun wh pins s σ H Q I q => h.run wh pins s σ H Q I (k σ H Q q)⟩
theorem PS.imp {X : Cx} {st : Stmt} {t t' : TS} (h : PS X st t) (k : ∀ D σ H, t' D σ H → t D σ H) : PS X st t' := ⟨fun pins s σ H D I q => h.run pins s σ H D I (k D σ H q)⟩
theorem PSs.imp {X : Cx} {st : List Stmt} {t t' : TS} (h : PSs X st t) (k : ∀ D σ H, t' D σ H → t D σ H) : PSs X st t' := ⟨fun pins s σ H D I q => h.run pins s σ H D I (k D σ H q)⟩

section
variable {K : PySem.W.Frag} {S : Addr → Prop} {H H1 : Hp} {E : XK} {α β : Type}
theorem same_new {p : Addr} (h : H p = none) (o : HO) : Same H (upd H p o) := .of fun b u q => by rw [upd_ne (ne_of_none q h)]; exact q
theorem Res.imp {r : R α} {P P' : α → Prop} (h : Res K S H E r P) (k : ∀ a, P a → P' a) : Res K S H E r P' := by
  cases r with
  | ok a => exact k a h
  | exc n xs => exact h
  | bad => exact h
theorem Res.on {r : R α} {f : α → R β} {P : β → Prop} (h : Res K S H E (r.bind f) P) : Res K S H E r fun a => Res K S H E (f a) P := by
  cases r with
  | ok a => exact h
  | exc n xs => exact h
  | bad => exact h
theorem Res.mono {r : R α} {P : α → Prop} (e : Same H H1) (h : Res K S H E r P) : Res K S H1 E r P := by
  cases r with
  | ok a => exact h
  | exc n xs => exact fun cls dx H' e' x => h cls dx H' (e.trans e') x
  | bad => exact h
theorem Res.of {o : Option α} {P : α → Prop} (h : Res K S H E (R.of o) P) : ∃ a, o = some a ∧ P a := by
  cases o with
  | none => exact h.elim
  | some a => exact ⟨a, rfl, h⟩
end

section
variable {X : Cx} {E : Sg → XK} {pos : Pos} {a b c : Expr} {f g : FE} {es : List Expr} {fl : FL}
theorem de_var (i : Nat) {x : Str} (hN : X.N[i]? = some x := by rfl) (hv : Vis X.env.scope x := by first | exact Or.inl rfl | exact Or.inr (Or.inl rfl) | exact Or.inr (Or.inr rfl)) (hd : (x == ("__debug__" : Str)) = false := by decide)
    (hcd : (x == ("__classdict__" : Str)) = false := by decide) : DE X E (.Name x pos) (fVar i) := by
  refine PE.imp (pe_var hN hv hd hcd) fun σ H Q h => ?_
  obtain ⟨S, δ, st, r⟩ := h
  unfold fVar at r
  cases q : δ[i]? with
  | none => rw [q] at r; exact r.elim
  | some s =>
    rw [q] at r
    cases s with
    | un => exact r.elim
    | ow ds => exact r.elim
    | ob c fs => exact r.elim
    | od ks ds => exact r.elim
    | fz d =>
      obtain ⟨o, h1, v, h2, h3⟩ := st.slot i _ q
      subst h2
      exact ⟨v, h1, r v H (Same.refl _) h3⟩
theorem de_c {e : Expr} {v : V} {d : D} (h : PE X e (tC v)) (r : ∀ S H, Rep X.K S H v d) : DE X E e (fC d) := by
  refine PE.imp h fun σ H Q h => ?_
  obtain ⟨S, δ, st, q⟩ := h
  exact q v H (Same.refl _) (r S H)
theorem de_int {i j} : DE X E (.Constant (.int i) j pos) (fC (.int i)) := de_c pe_int fun _ _ => .int i
theorem de_bl {b j} : DE X E (.Constant (.bool b) j pos) (fC (.bl b)) := de_c pe_bl fun _ _ => .bl b
theorem de_non {j} : DE X E (.Constant .none j pos) (fC .non) := de_c pe_non fun _ _ => .non
theorem de_str {x j} : DE X E (.Constant (.str x) j pos) (fC (.str x)) := de_c pe_str fun _ _ => .str _
theorem de_glob {x : Str} {v : V} {d : D} {u : Value} (hg : Gl X x) (hm : X.mg x = some u) (r : RelV v u) (h : ∀ S H, Rep X.K S H v d) (hd : (x == ("__debug__" : Str)) = false := by decide) : DE X E (.Name x pos) (fC d) := de_c (pe_glob hg hm r hd) h

theorem da_nil : DA X E [] fNil := by
  refine ⟨PA.imp pa_nil fun σ H Q h => ?_, fun δ ds h => by cases h; rfl⟩
  obtain ⟨S, δ, st, q⟩ := h
  exact q [] H (Same.refl _) .nil
theorem da_cons (ha : DE X E a f) (hr : DA X E es fl) (hs : starEach (a :: es) X.env = (false, eval a X.env) :: starEach es X.env := by rfl) : DA X E (a :: es) (fCons f fl) := by
  refine ⟨PA.imp (pa_cons ha hr.pa hs) fun σ H Q h => ?_, fun δ ds h => ?_⟩
  · obtain ⟨S, δ, st, q⟩ := h
    have q1 := Res.on q
    refine ⟨S, δ, st, q1.imp fun d q2 v H1 e1 r1 => ?_⟩
    refine ⟨S, δ, st.mono e1, (Res.on q2).mono e1 |>.imp fun ds q3 vs H2 e2 r2 => ?_⟩
    exact q3 (v :: vs) H2 (e1.trans e2) (.cons (r1.mono e2) r2)
  · unfold fCons at h
    cases q : f δ with
    | ok d =>
      rw [q, R.bind_ok] at h
      cases q2 : fl δ with
      | ok es' =>
        rw [q2, R.bind_ok] at h
        cases h
        exact congrArg Nat.succ (hr.len _ _ q2)
      | exc n xs => rw [q2] at h; cases h
      | bad => rw [q2] at h; cases h
    | exc n xs => rw [q] at h; cases h
    | bad => rw [q] at h; cases h

def Giv (K : PySem.W.Frag) (S : Addr → Prop) (H : Hp) (z : D) (Q : VK) : Prop := ∀ v H', Same H H' → Rep K S H' v z → Q v H'
theorem Giv.here {K : PySem.W.Frag} {S : Addr → Prop} {H : Hp} {z : D} {Q : VK} (q : Giv K S H z Q) {v : V} (r : Rep K S H v z) : Q v H := q v H (Same.refl _) r
theorem Giv.lst {K : PySem.W.Frag} {S : Addr → Prop} {H : Hp} {zs : List D} {Q : VK} (q : Giv K S H (.lst zs) Q) (dm : Dom K S H) {xs : List V} (r : RepL K S H xs zs) : ∀ p, H p = none → Q (.ref p) (upd H p (.lst xs)) := fun p hp =>
  q (.ref p) _ (same_new hp _) (.lst upd_same (dm.new hp) (r.mono (same_new hp _)))
theorem Giv.tup {K : PySem.W.Frag} {S : Addr → Prop} {H : Hp} {zs : List D} {Q : VK} (q : Giv K S H (.tup zs) Q) (dm : Dom K S H) {xs : List V} (r : RepL K S H xs zs) : ∀ p, H p = none → Q (.ref p) (upd H p (.tup xs)) := fun p hp =>
  q (.ref p) _ (same_new hp _) (.tup upd_same (dm.new hp) (r.mono (same_new hp _)))
def OpD (X : Cx) (f : Value → Value → Sem Value) (F : D → D → Option D) : Prop :=
  OpR X f fun x y H Q => ∃ S d e z, Dom X.K S H ∧ Rep X.K S H x d ∧ Rep X.K S H y e ∧ F d e = some z ∧ Giv X.K S H z Q
def UnD (X : Cx) (f : Value → Sem Value) (F : D → Option D) : Prop :=
  UnR X f fun x H Q => ∃ S d z, Dom X.K S H ∧ Rep X.K S H x d ∧ F d = some z ∧ Giv X.K S H z Q
def CallD (X : Cx) (f : Value) (F : List D → Option D) : Prop :=
  CallR X f fun xs H Q => ∃ S ds z, Dom X.K S H ∧ RepL X.K S H xs ds ∧ F ds = some z ∧ Giv X.K S H z Q
def IxD (X : Cx) (F : D → D → Option D) : Prop :=
  IxR X fun x y H Q => ∃ S d e z, Dom X.K S H ∧ Rep X.K S H x d ∧ Rep X.K S H y e ∧ F d e = some z ∧ Giv X.K S H z Q

theorem two_of {K : PySem.W.Frag} {f g : FE} {F : D → D → Option D} {r : R2} {σ : Sg} {H : Hp} {Q : VK} (h : tD K E (fB F f g) σ H Q)
    (hr : ∀ x y H Q, (∃ S d e z, Dom K S H ∧ Rep K S H x d ∧ Rep K S H y e ∧ F d e = some z ∧ Giv K S H z Q) → r x y H Q) : tOp r (tD K E f) (tD K E g) σ H Q := by
  obtain ⟨S, δ, st, q⟩ := h
  refine ⟨S, δ, st, (Res.on q).imp fun d q1 v H1 e1 r1 => ?_⟩
  refine ⟨S, δ, st.mono e1, ((Res.on q1).mono e1).imp fun e q2 u H2 e2 r2 => ?_⟩
  obtain ⟨z, hz, q3⟩ := Res.of q2
  exact hr v u H2 Q ⟨S, d, e, z, ((st.mono e1).mono e2).here, r1.mono e2, r2, hz, fun w H3 e3 r3 => q3 w H3 (e1.trans (e2.trans e3)) r3⟩
theorem de_op {op : Operator} {F : D → D → Option D} (ho : OpD X (binaryOp op) F) (ha : DE X E a f) (hb : DE X E b g) : DE X E (.BinOp a op b pos) (fB F f g) :=
  PE.imp (pe_op ho ha hb) fun σ H Q h => two_of h fun _ _ _ _ q => q
theorem de_cmp {op : CmpOp} {F : D → D → Option D} (ho : OpD X (compareOp op) F) (ha : DE X E a f) (hb : DE X E b g) (hm : behindInMarks op b = false) : DE X E (.Compare a [op] [b] pos) (fB F f g) :=
  PE.imp (pe_cmpR ho ha hb hm) fun σ H Q h => two_of h fun _ _ _ _ q => q
theorem de_ix {F : D → D → Option D} (ho : IxD X F) (ha : DE X E a f) (hb : DE X E b g) (hs : PlainIx b) : DE X E (.Subscript a b pos) (fB F f g) :=
  PE.imp (pe_ix ho ha hb hs) fun σ H Q h => two_of h fun _ _ _ _ q => q
theorem de_un {op : UnaryOp} {F : D → Option D} (ho : UnD X (unaryOp op) F) (ha : DE X E a f) : DE X E (.UnaryOp op a pos) (fU F f) := by
  refine PE.imp (pe_un ho ha) fun σ H Q h => ?_
  obtain ⟨S, δ, st, q⟩ := h
  refine ⟨S, δ, st, (Res.on q).imp fun d q1 v H1 e1 r1 => ?_⟩
  obtain ⟨z, hz, q2⟩ := Res.of q1
  exact ⟨S, d, z, (st.mono e1).here, r1, hz, fun w H2 e2 r2 => q2 w H2 (e1.trans e2) r2⟩
theorem de_tup {k} (h : DA X E es fl) (hl : es.length ≤ sizeLine := by exact Nat.le_of_ble_eq_true rfl) : DE X E (.Tuple es k pos) (fTup fl) := by
  refine PE.imp (pe_tup h.pa) fun σ H Q hq => ?_
  obtain ⟨S, δ, st, q⟩ := hq
  refine ⟨S, δ, st, ?_⟩
  have q1 := Res.on (show Res X.K S H (E σ) ((fl δ).bind fun xs => R.of (some (D.tup xs))) _ from q)
  cases e : fl δ with
  | bad => rw [e] at q1; exact q1.elim
  | exc n xs => rw [e] at q1; exact q1
  | ok ds =>
    rw [e] at q1
    intro vs H1 e1 r1
    have q2 : Giv X.K S H (.tup ds) Q := q1
    refine ⟨by rw [r1.length, h.len _ _ e]; exact hl, fun p hp => ?_⟩
    exact Giv.tup (fun w H2 e2 r2 => q2 w H2 (e1.trans e2) r2) (st.mono e1).here r1 p hp
theorem de_lst (h : DA X E es fl) (hl : es.length ≤ sizeLine := by exact Nat.le_of_ble_eq_true rfl) : DE X E (.List es pos) (fLst fl) := by
  refine PE.imp (pe_lst h.pa) fun σ H Q hq => ?_
  obtain ⟨S, δ, st, q⟩ := hq
  refine ⟨S, δ, st, ?_⟩
  have q1 := Res.on (show Res X.K S H (E σ) ((fl δ).bind fun xs => R.of (some (D.lst xs))) _ from q)
  cases e : fl δ with
  | bad => rw [e] at q1; exact q1.elim
  | exc n xs => rw [e] at q1; exact q1
  | ok ds =>
    rw [e] at q1
    intro vs H1 e1 r1
    have q2 : Giv X.K S H (.lst ds) Q := q1
    refine ⟨by rw [r1.length, h.len _ _ e]; exact hl, fun p hp => ?_⟩
    exact Giv.lst (fun w H2 e2 r2 => q2 w H2 (e1.trans e2) r2) (st.mono e1).here r1 p hp
theorem db_cmp {op : CmpOp} {F : D → D → Option D} (ho : OpD X (compareOp op) F) (ha : DE X E a f) (hb : DE X E b g) (hm : behindInMarks op b = false) : DB X E (.Compare a [op] [b] pos) (fTest (fB F f g)) := by
  refine PT.imp (pt_cmpR ho ha hb hm) fun σ H Q h => ?_
  obtain ⟨S, δ, st, q⟩ := h
  refine two_of (f := f) (g := g) (F := F) ⟨S, δ, st, (Res.on q).imp fun d q1 v H1 e1 r1 => ?_⟩ fun _ _ _ _ z => z
  cases r1 with
  | bl k => exact ⟨k, rfl, q1 H1 e1⟩
  | _ => exact q1.elim
theorem db_val (h : DE X E a f) (he : ∀ whole, isTrue a X.env whole = (do let v ← whole; standAt a.pos; holding [v] (truthy v)) := by intro _; rfl) : DB X E a (fTest f) := by
  refine PT.imp (pt_val h he) fun σ H Q hq => ?_
  obtain ⟨S, δ, st, q⟩ := hq
  refine ⟨S, δ, st, (Res.on q).imp fun d q1 v H1 e1 r1 => ?_⟩
  cases r1 with
  | bl k => exact ⟨k, rfl, q1 H1 e1⟩
  | _ => exact q1.elim
theorem db_not {c : FB} (h : DB X E a c) : DB X E (.UnaryOp .Not a pos) (fNotB c) := by
  refine PT.imp (pt_not h) fun σ H Q hq => ?_
  obtain ⟨S, δ, st, q⟩ := hq
  exact ⟨S, δ, st, (Res.on q).imp fun d q1 => q1⟩
variable {rest : List Expr} {p q : FB}
theorem dw_and1 (h : DB X E a p) : DW X E (.BoolOp .And [a] pos) p := pw_and1 h
theorem dw_or1 (h : DB X E a p) : DW X E (.BoolOp .Or [a] pos) p := pw_or1 h
theorem dw_and (h : DB X E a p) (k : DW X E (.BoolOp .And (b :: rest) pos) q) : DW X E (.BoolOp .And (a :: b :: rest) pos) (fAndB p q) := by
  refine PW.imp (pw_and h k) fun σ H Q hq => ?_
  obtain ⟨S, δ, st, r⟩ := hq
  refine ⟨S, δ, st, (Res.on r).imp fun d q1 H1 e1 => ?_⟩
  cases d with
  | true => exact ⟨S, δ, st.mono e1, (q1.mono e1).imp fun b q2 H2 e2 => q2 H2 (e1.trans e2)⟩
  | false => exact q1 H1 e1
theorem dw_or (h : DB X E a p) (k : DW X E (.BoolOp .Or (b :: rest) pos) q) : DW X E (.BoolOp .Or (a :: b :: rest) pos) (fOrB p q) := by
  refine PW.imp (pw_or h k) fun σ H Q hq => ?_
  obtain ⟨S, δ, st, r⟩ := hq
  refine ⟨S, δ, st, (Res.on r).imp fun d q1 H1 e1 => ?_⟩
  cases d with
  | true => exact q1 H1 e1
  | false => exact ⟨S, δ, st.mono e1, (q1.mono e1).imp fun b q2 H2 e2 => q2 H2 (e1.trans e2)⟩
theorem db_of (h : DW X E a p) : DB X E a p := PW.pt h
def fAnd (f g : FE) : FE := fun δ => (f δ).bind fun d => match d with
  | .bl true => g δ
  | .bl false => .ok (.bl false)
  | _ => .bad
def fOr (f g : FE) : FE := fun δ => (f δ).bind fun d => match d with
  | .bl true => .ok (.bl true)
  | .bl false => g δ
  | _ => .bad
theorem de_if {t : FB} (ht : DB X E c t) (ha : DE X E a f) (hb : DE X E b g) : DE X E (.IfExp c a b pos) (fIf t f g) := by
  refine PE.imp (pe_ifExp ht ha hb) fun σ H Q hq => ?_
  obtain ⟨S, δ, st, r⟩ := hq
  refine ⟨S, δ, st, (Res.on r).imp fun d q1 H1 e1 => ?_⟩
  cases d with
  | true => exact ⟨S, δ, st.mono e1, (q1.mono e1).imp fun d q2 v H2 e2 r2 => q2 v H2 (e1.trans e2) r2⟩
  | false => exact ⟨S, δ, st.mono e1, (q1.mono e1).imp fun d q2 v H2 e2 r2 => q2 v H2 (e1.trans e2) r2⟩
end
end DL

namespace DL
open PySem PySem.Spec PyProof.Rows L2
section
variable {X : Cx}
theorem Rep.seqT {K : PySem.W.Frag} {S : Addr → Prop} {H : Hp} {v : V} {ds : List D} (r : Rep K S H v (.tup ds)) : ∃ a xs, v = .ref a ∧ SqT K H a xs ∧ RepL K S H xs ds := by
  cases r with
  | tup h n r => exact ⟨_, _, rfl, SqT.of h, r⟩
  | ltp h r => exact ⟨_, _, rfl, .inr h, r⟩
theorem Rep.lstH {K : PySem.W.Frag} {S : Addr → Prop} {H : Hp} {v : V} {ds : List D} (r : Rep K S H v (.lst ds)) : ∃ a xs, v = .ref a ∧ H a = some (.lst xs) ∧ RepL K S H xs ds := by
  cases r with
  | lst h n r => exact ⟨_, _, rfl, h, r⟩
theorem Rep.scrH {K : PySem.W.Frag} {S : Addr → Prop} {H : Hp} {v : V} {ds : List D} (r : Rep K S H v (.scr ds)) : ∃ a xs, v = .ref a ∧ SqL K H a xs ∧ RepL K S H xs ds := by
  cases r with
  | scr h n r => exact ⟨_, _, rfl, .inl (.inr ⟨_, h⟩), r⟩
  | scl h r => exact ⟨_, _, rfl, .inr h, r⟩
  | sco h n r => exact ⟨_, _, rfl, SqL.of h, r⟩
theorem Rep.intE {K : PySem.W.Frag} {S : Addr → Prop} {H : Hp} {v : V} {i : Int} (r : Rep K S H v (.int i)) : v = .int i := by cases r; rfl
theorem Rep.strE {K : PySem.W.Frag} {S : Addr → Prop} {H : Hp} {v : V} {i : Str} (r : Rep K S H v (.str i)) : v = .str i := by cases r; rfl
theorem Rep.blE {K : PySem.W.Frag} {S : Addr → Prop} {H : Hp} {v : V} {i : Bool} (r : Rep K S H v (.bl i)) : v = .bl i := by cases r; rfl
theorem Rep.non_iff {K : PySem.W.Frag} {S : Addr → Prop} {H : Hp} {v : V} {d : D} (r : Rep K S H v d) : decide (v = .non) = d.isNon := by
  cases r <;> simp [D.isNon]

theorem opd_int {f : Value → Value → Sem Value} {C : Int → Int → Prop} {g : Int → Int → V} {gD : Int → Int → D} {F : D → D → Option D} (h : OpR X f (rI C g)) (hg : ∀ S H i j, Rep X.K S H (g i j) (gD i j))
    (hF : ∀ d e z, F d e = some z → ∃ i j, d = .int i ∧ e = .int j ∧ C i j ∧ z = gD i j) : OpD X f F := by
  intro pins s σ H x y v u Q I rx ry q
  obtain ⟨S, d, e, z, dm, r1, r2, hz, q⟩ := q
  obtain ⟨i, j, rfl, rfl, hc, rfl⟩ := hF d e z hz
  exact h pins s σ H x y v u Q I rx ry ⟨i, j, r1.intE, r2.intE, hc, q.here (hg S H i j)⟩
theorem opd_int0 {f : Value → Value → Sem Value} {g : Int → Int → V} {gD : Int → Int → D} {F : D → D → Option D} (h : OpR X f (rI0 g)) (hg : ∀ S H i j, Rep X.K S H (g i j) (gD i j))
    (hF : ∀ d e z, F d e = some z → ∃ i j, d = .int i ∧ e = .int j ∧ z = gD i j) : OpD X f F := by
  intro pins s σ H x y v u Q I rx ry q
  obtain ⟨S, d, e, z, dm, r1, r2, hz, q⟩ := q
  obtain ⟨i, j, rfl, rfl, rfl⟩ := hF d e z hz
  exact h pins s σ H x y v u Q I rx ry ⟨i, j, r1.intE, r2.intE, q.here (hg S H i j)⟩
theorem opd_sub : OpD X (binaryOp .Sub) dSub := opd_int0 (gD := fun i j => .int (i - j)) op_sub (fun _ _ i j => .int _) fun d e z h => by
  cases d <;> cases e <;> simp [dSub] at h
  exact ⟨_, _, rfl, rfl, h.symm⟩
theorem opd_fdiv : OpD X (binaryOp .FloorDiv) dFdiv := opd_int (gD := fun i j => .int (i / j)) op_fdivW (fun _ _ i j => .int _) fun d e z h => by
  cases d <;> cases e <;> simp [dFdiv] at h
  obtain ⟨c1, c2⟩ := Bool.and_eq_true_iff.mp h.1
  exact ⟨_, _, rfl, rfl, wide_div (of_decide_eq_true c1) (Nat.blt_eq.mp c2) (by decide) (by decide), h.2.symm⟩
theorem opd_mod : OpD X (binaryOp .Mod) dMod := opd_int (gD := fun i j => .int (i % j)) op_mod (fun _ _ i j => .int _) fun d e z h => by
  cases d <;> cases e <;> simp [dMod] at h
  exact ⟨_, _, rfl, rfl, h.1, h.2.symm⟩
theorem opd_pow : OpD X (binaryOp .Pow) dPow := opd_int (gD := fun i j => .int (i ^ j.toNat)) op_pow (fun _ _ i j => .int _) fun d e z h => by
  cases d <;> cases e <;> simp only [dPow, Option.ite_none_right_eq_some, Option.some.injEq, reduceCtorEq] at h
  exact ⟨_, _, rfl, rfl, powOk_of h.1, h.2.symm⟩
theorem opd_lt : OpD X (compareOp .Lt) dLt := opd_int0 (gD := fun i j => .bl (decide (i < j))) op_lt (fun _ _ i j => .bl _) fun d e z h => by
  cases d <;> cases e <;> simp [dLt] at h
  exact ⟨_, _, rfl, rfl, h.symm⟩
theorem opd_le : OpD X (compareOp .LtE) dLe := opd_int0 (gD := fun i j => .bl (decide (i ≤ j))) op_le (fun _ _ i j => .bl _) fun d e z h => by
  cases d <;> cases e <;> simp [dLe] at h
  exact ⟨_, _, rfl, rfl, h.symm⟩
theorem opd_gt : OpD X (compareOp .Gt) dGt := opd_int0 (gD := fun i j => .bl (decide (j < i))) op_gt (fun _ _ i j => .bl _) fun d e z h => by
  cases d <;> cases e <;> simp [dGt] at h
  exact ⟨_, _, rfl, rfl, h.symm⟩
theorem opd_ge : OpD X (compareOp .GtE) dGe := opd_int0 (gD := fun i j => .bl (decide (j ≤ i))) op_ge (fun _ _ i j => .bl _) fun d e z h => by
  cases d <;> cases e <;> simp [dGe] at h
  exact ⟨_, _, rfl, rfl, h.symm⟩
theorem und_neg : UnD X (unaryOp .USub) dNeg := by
  intro pins s σ H x v Q I rx q
  obtain ⟨S, d, z, dm, r1, hz, q⟩ := q
  cases d <;> simp [dNeg] at hz
  subst hz
  exact un_neg pins s σ H x v Q I rx ⟨_, r1.intE, q.here (.int _)⟩
theorem lim_abs {k : Nat} {i : Int} (h : lim k i = true) : i.natAbs < 2 ^ k := Nat.blt_eq.mp h
theorem lim_of {k : Nat} {i : Int} (h : lim k i = true) : -(2 ^ k) < i ∧ i < 2 ^ k := by
  have h1 := lim_abs h
  have e : ((2 ^ k : Nat) : Int) = 2 ^ k := by simp
  omega
theorem opd_add : OpD X (binaryOp .Add) dAdd := by
  intro pins s σ H x y v u Q I rx ry q
  obtain ⟨S, d, e, z, dm, r1, r2, hz, q⟩ := q
  cases d with
  | int i =>
    cases e <;> simp [dAdd] at hz
    subst hz
    exact op_add pins s σ H x y v u Q I rx ry ⟨_, _, r1.intE, r2.intE, q.here (.int _)⟩
  | str i =>
    cases e <;> simp [dAdd] at hz
    obtain ⟨h1, h2⟩ := hz
    subst h2
    exact op_add_str pins s σ H x y v u Q I rx ry ⟨_, _, r1.strE, r2.strE, okLe_of h1, q.here (.str _)⟩
  | lst xs =>
    cases e <;> simp [dAdd] at hz
    obtain ⟨h1, h2⟩ := hz
    subst h2
    obtain ⟨a, vs, e1, e2, e3⟩ := r1.lstH
    obtain ⟨b, ws, e4, e5, e6⟩ := r2.lstH
    exact op_cat pins s σ H x y v u Q I rx ry ⟨a, b, vs, ws, e1, e4, e2, e5, by rw [e3.length, e6.length]; exact okLe_of h1, q.lst dm (e3.append e6)⟩
  | tup xs =>
    cases xs with
    | nil =>
      cases e <;> simp only [dAdd, Option.some.injEq, reduceCtorEq] at hz
      rename_i ys
      subst hz
      obtain ⟨a, vs, e1, e2, e3⟩ := r1.seqT
      obtain ⟨b, ws, e4, e5, e6⟩ := r2.seqT
      have l1 := e3.length
      obtain ⟨_, _, _, hz2⟩ := I.tuple e5
      cases vs with
      | cons _ _ => cases l1
      | nil =>
        refine op_catA pins s σ H x y v u Q I rx ry ⟨a, b, [], ws, e1, e4, e2, e5, by rw [List.length_nil, Nat.zero_add]; exact hz2, fun _ => ?_, fun z => (z rfl).elim, fun z => (z rfl).elim⟩
        subst e4
        exact q.here r2
    | cons x0 xs =>
      cases e <;> simp only [dAdd, Option.ite_none_right_eq_some, Option.some.injEq, reduceCtorEq] at hz
      rename_i ys
      obtain ⟨h1, h2⟩ := hz
      subst h2
      obtain ⟨a, vs, e1, e2, e3⟩ := r1.seqT
      obtain ⟨b, ws, e4, e5, e6⟩ := r2.seqT
      have l1 := e3.length
      have l2 := e6.length
      refine op_catT pins s σ H x y v u Q I rx ry ⟨a, b, vs, ws, e1, e4, e2, e5, ?_, by rw [l1, l2]; exact okLe_of h1, ?_, ?_⟩
      · intro z
        rw [z] at l1
        cases l1
      · intro z
        subst z
        cases e6
        rw [e1] at r1
        rw [List.append_nil] at q
        exact q.here r1
      · intro _ p hp
        exact q.tup dm (e3.append e6) p hp
  | _ => cases e <;> simp [dAdd] at hz
theorem opd_mul : OpD X (binaryOp .Mult) dMul := by
  intro pins s σ H x y v u Q I rx ry q
  obtain ⟨S, d, e, z, dm, r1, r2, hz, q⟩ := q
  cases d with
  | int i =>
    cases e <;> simp only [dMul, Option.ite_none_right_eq_some, Option.some.injEq, reduceCtorEq] at hz
    rename_i j
    obtain ⟨h1, h2⟩ := hz
    subst h2
    simp only [mulOk, Bool.or_eq_true, Bool.and_eq_true] at h1
    rcases h1 with (h1 | h1) | ⟨h1, h2⟩
    · exact op_mul pins s σ H x y v u Q I rx ry ⟨_, _, r1.intE, r2.intE, .inl (lim_of h1), q.here (.int _)⟩
    · exact op_mul pins s σ H x y v u Q I rx ry ⟨_, _, r1.intE, r2.intE, .inr (lim_of h1), q.here (.int _)⟩
    · exact op_mulW pins s σ H x y v u Q I rx ry ⟨_, _, r1.intE, r2.intE, wide_mul (lim_abs h1) (lim_abs h2) (by decide) (by decide) (by decide), q.here (.int _)⟩
  | lst xs =>
    cases e <;> simp only [dMul, Option.ite_none_right_eq_some, Option.some.injEq, reduceCtorEq] at hz
    obtain ⟨h5, h4⟩ := hz
    subst h4
    obtain ⟨h6, h3⟩ := Bool.and_eq_true_iff.mp (show (lim 63 _ && okLe _) = true from h5)
    obtain ⟨h1, h2⟩ := lim_of h6
    have h3 := okLe_of h3
    obtain ⟨a, vs, e1, e2, e3⟩ := r1.lstH
    exact op_rep pins s σ H x y v u Q I rx ry ⟨a, _, vs, e1, r2.intE, e2, Int.le_of_lt h1, h2, by rw [e3.length]; exact h3, q.lst dm (e3.flat _)⟩
  | _ => cases e <;> simp [dMul] at hz
theorem opd_eq (hu : X.A.units + 64 < cLine) : OpD X (compareOp .Eq) dEq := by
  intro pins s σ H x y v u Q I rx ry q
  obtain ⟨S, d, e, z, dm, r1, r2, hz, q⟩ := q
  unfold dEq dEqB at hz
  split at hz
  · simp only [Option.map_some, Option.some.injEq] at hz
    subst hz
    have e1 := r1.strE
    have e2 := r2.strE
    subst e1
    subst e2
    exact op_eq pins s σ H _ _ v u Q I rx ry ⟨rfl, by rw [dec_str]; exact q.here (.bl _)⟩
  · simp only [Option.map_some, Option.some.injEq] at hz
    subst hz
    have e1 := r1.intE
    have e2 := r2.intE
    subst e1
    subst e2
    exact op_eq pins s σ H _ _ v u Q I rx ry ⟨rfl, by rw [dec_int]; exact q.here (.bl _)⟩
  unfold dEqP at hz
  cases h1 : d.py with
  | none => rw [h1] at hz; cases hz
  | some a =>
    cases h2 : e.py with
    | none => rw [h1, h2] at hz; cases hz
    | some b =>
      rw [h1, h2] at hz
      by_cases c : (SeqAt.shaped a && SeqAt.shaped b) = true
      · simp only [c, if_true, Option.map_some, Option.some.injEq] at hz
        subst hz
        obtain ⟨c1, c2⟩ := Bool.and_eq_true_iff.mp c
        exact op_eqD hu pins s σ H x y v u Q I rx ry ⟨a, b, r1.py h1, r2.py h2, c1, c2, q.here (.bl _)⟩
      · simp only [c] at hz
        cases hz
theorem opd_ne (hu : X.A.units + 64 < cLine) : OpD X (compareOp .NotEq) dNe := by
  intro pins s σ H x y v u Q I rx ry q
  obtain ⟨S, d, e, z, dm, r1, r2, hz, q⟩ := q
  unfold dNe dEqB at hz
  split at hz
  · simp only [Option.map_some, Option.some.injEq] at hz
    subst hz
    have e1 := r1.strE
    have e2 := r2.strE
    subst e1
    subst e2
    exact op_ne pins s σ H _ _ v u Q I rx ry ⟨rfl, by rw [dec_str]; exact q.here (.bl _)⟩
  · simp only [Option.map_some, Option.some.injEq] at hz
    subst hz
    have e1 := r1.intE
    have e2 := r2.intE
    subst e1
    subst e2
    exact op_ne pins s σ H _ _ v u Q I rx ry ⟨rfl, by rw [dec_int]; exact q.here (.bl _)⟩
  unfold dEqP at hz
  cases h1 : d.py with
  | none => rw [h1] at hz; cases hz
  | some a =>
    cases h2 : e.py with
    | none => rw [h1, h2] at hz; cases hz
    | some b =>
      rw [h1, h2] at hz
      by_cases c : (SeqAt.shaped a && SeqAt.shaped b) = true
      · simp only [c, if_true, Option.map_some, Option.some.injEq] at hz
        subst hz
        obtain ⟨c1, c2⟩ := Bool.and_eq_true_iff.mp c
        exact op_neD hu pins s σ H x y v u Q I rx ry ⟨a, b, r1.py h1, r2.py h2, c1, c2, q.here (.bl _)⟩
      · simp only [c] at hz
        cases hz
theorem Rep.flatV {K : PySem.W.Frag} {S : Addr → Prop} {H : Hp} {v : V} {d : D} (r : Rep K S H v d) (h : d.flat = true) : flatV v = true := by
  cases r <;> first | rfl | cases h
theorem Rep.eqV {K : PySem.W.Frag} {S : Addr → Prop} {H : Hp} {v w : V} {d e : D} (r : Rep K S H v d) (r2 : Rep K S H w e) (h : d.flat = true) (h2 : e.flat = true) : eqV v w = flatEq d e := by
  cases r <;> first | (cases r2 <;> first | rfl | cases h2) | cases h
theorem RepL.flatV {K : PySem.W.Frag} {S : Addr → Prop} {H : Hp} : ∀ {vs : List V} {ds : List D}, RepL K S H vs ds → ds.all D.flat = true → vs.all L2.flatV = true
  | _, _, .nil, _ => rfl
  | _, _, .cons h r, e => by
    rw [List.all_cons, Bool.and_eq_true] at e ⊢
    exact ⟨h.flatV e.1, r.flatV e.2⟩
theorem RepL.inV {K : PySem.W.Frag} {S : Addr → Prop} {H : Hp} {v : V} {d : D} (q : Rep K S H v d) (hd : d.flat = true) : ∀ {vs : List V} {ds : List D}, RepL K S H vs ds → ds.all D.flat = true → L2.inV v vs = inB d ds
  | _, _, .nil, _ => rfl
  | _, _, .cons h r, e => by
    rw [List.all_cons, Bool.and_eq_true] at e
    have e1 := RepL.inV q hd r e.2
    unfold L2.inV inB at e1 ⊢
    rw [List.any_cons, List.any_cons, e1, h.eqV q e.1 hd]
abbrev kvsOf (ks : List Ky) (vs : List V) : List (Key × V) := ks.zip vs
theorem Rep.keyV {K : PySem.W.Frag} {S : Addr → Prop} {H : Hp} {v : V} {d : D} {k : Ky} (r : Rep K S H v d) (h : d.key = some k) : v = kV k := by
  cases r <;> simp only [D.key, Option.some.injEq, reduceCtorEq] at h
  · subst h; rfl
  · subst h; rfl
theorem valV_of : ∀ {ks : List Ky} {vs : List V} {k : Ky}, ks.length = vs.length → (valV (kvsOf ks vs) k).isSome = kIn k ks
  | [], [], k, _ => by simp [valV, kIn]
  | [], _ :: _, _, h => by cases h
  | _ :: _, [], _, h => by cases h
  | x :: ks, v :: vs, k, h => by
    have ih := valV_of (k := k) (Nat.succ.inj h)
    show (valV ((x, v) :: kvsOf ks vs) k).isSome = if x = k then true else kIn k ks
    by_cases e : x = k
    · subst e
      rw [valV_pos (p := ((x : Key), v)) rfl, if_pos rfl]
      rfl
    · rw [valV_neg (p := ((x : Key), v)) e, ih, if_neg e]
theorem valV_get : ∀ {K : PySem.W.Frag} {S : Addr → Prop} {H : Hp} {ks : List Ky} {vs : List V} {ds : List D} {k : Ky} {d : D}, ks.length = vs.length → RepL K S H vs ds → kGet ks ds k = some d → ∃ v, valV (kvsOf ks vs) k = some v ∧ Rep K S H v d
  | _, _, _, [], _, _, _, _, _, _, h => by unfold kGet at h; cases h
  | _, _, _, _ :: _, [], _, _, _, l, _, _ => by cases l
  | _, _, _, x :: ks, v :: vs, _, k, d, l, .cons (d := e) (ds := es) r rs, h => by
    have h' : (if x = k then some e else kGet ks es k) = some d := h
    show ∃ w, valV ((x, v) :: kvsOf ks vs) k = some w ∧ _
    by_cases q : x = k
    · rw [if_pos q] at h'
      cases h'
      subst q
      exact ⟨v, valV_pos (p := ((x : Key), v)) rfl, r⟩
    · rw [if_neg q] at h'
      obtain ⟨w, h1, h2⟩ := valV_get (Nat.succ.inj l) rs h'
      exact ⟨w, by rw [valV_neg (p := ((x : Key), v)) q]; exact h1, h2⟩
theorem valV_no : ∀ {ks : List Ky} {vs : List V} {ds : List D} {k : Ky}, ks.length = vs.length → vs.length = ds.length → kGet ks ds k = none → valV (kvsOf ks vs) k = none
  | [], _, _, _, _, _, _ => by simp [valV]
  | _ :: _, [], _, _, l, _, _ => by cases l
  | _ :: _, _ :: _, [], _, _, l, _ => by cases l
  | x :: ks, v :: vs, e :: es, k, l, l2, h => by
    have h' : (if x = k then some e else kGet ks es k) = none := h
    show valV ((x, v) :: kvsOf ks vs) k = none
    by_cases q : x = k
    · rw [if_pos q] at h'; cases h'
    · rw [if_neg q] at h'
      rw [valV_neg (p := ((x : Key), v)) q]
      exact valV_no (Nat.succ.inj l) (Nat.succ.inj l2) h'
theorem op_inD (hu : X.A.units + 1 < cLine) : OpR X (compareOp .In) fun x y H Q => ∃ (a : Addr) (k : Ky) (ks : List Ky) (vs : List V), x = kV k ∧ y = .ref a ∧ H a = some (.dK (kvsOf ks vs)) ∧ ks.length = vs.length ∧ Q (.bl (kIn k ks)) H := by
  intro pins s σ H x y v u Q I rx ry h
  obtain ⟨a, k, ks, vs, rfl, rfl, h, l, q⟩ := h
  obtain rfl : u = Value.ref a := ry
  refine d_in hu I (DGet.k (k := k) h) rx fun s' I' => ?_
  rw [valV_of l]
  exact ⟨.bl _, H, I', rfl, q⟩
theorem op_notInD (hu : X.A.units + 1 < cLine) : OpR X (compareOp .NotIn) fun x y H Q => ∃ (a : Addr) (k : Ky) (ks : List Ky) (vs : List V), x = kV k ∧ y = .ref a ∧ H a = some (.dK (kvsOf ks vs)) ∧ ks.length = vs.length ∧ Q (.bl (!kIn k ks)) H := by
  intro pins s σ H x y v u Q I rx ry h
  obtain ⟨a, k, ks, vs, rfl, rfl, h, l, q⟩ := h
  obtain rfl : u = Value.ref a := ry
  refine d_notIn hu I (DGet.k (k := k) h) rx fun s' I' => ?_
  rw [valV_of l]
  exact ⟨.bl _, H, I', rfl, q⟩
theorem opd_inG {op : CmpOp} {neg : Bool} (h1 : OpR X (compareOp op) (rIn X.K neg)) (h2 : OpR X (compareOp op) fun x y H Q => ∃ i j, x = .str i ∧ y = .str j ∧ Q (.bl (if neg then !(!(Builtin.Str.occurrences j i 0 j.length 1).isEmpty) else !(Builtin.Str.occurrences j i 0 j.length 1).isEmpty)) H)
    (h3 : OpR X (compareOp op) fun x y H Q => ∃ (a : Addr) (k : Ky) (ks : List Ky) (vs : List V), x = kV k ∧ y = .ref a ∧ H a = some (.dK (kvsOf ks vs)) ∧ ks.length = vs.length ∧ Q (.bl (if neg then !kIn k ks else kIn k ks)) H) :
    OpD X (compareOp op) fun x y => (dInB x y).map fun b => .bl (if neg then !b else b) := by
  intro pins s σ H x y v u Q I rx ry q
  obtain ⟨S, d, e, z, dm, r1, r2, hz, q⟩ := q
  obtain ⟨b, hb, ez⟩ := Option.map_eq_some_iff.mp hz
  subst ez
  have tl : ∀ a xs ds, y = .ref a → (SqL X.K H a xs ∨ SqT X.K H a xs) → RepL X.K S H xs ds → (d.flat && ds.all D.flat) = true → inB d ds = b → wpAny (model X.prog X.w) X.A (compareOp op v u) (EP X pins σ Q) X.xe s := by
    intro a xs ds e1 e2 e3 e4 e5
    obtain ⟨f1, f2⟩ := Bool.and_eq_true_iff.mp e4
    refine h1 pins s σ H x y v u Q I rx ry ⟨a, xs, e1, e2, r1.flatV f1, e3.flatV f2, ?_⟩
    rw [RepL.inV r1 f1 e3 f2, e5]
    exact q.here (.bl _)
  cases e with
  | tup ds =>
    obtain ⟨a, xs, e1, e2, e3⟩ := r2.seqT
    cases d <;> (simp only [dInB, Option.ite_none_right_eq_some, Option.some.injEq] at hb; exact tl a xs ds e1 (.inr e2) e3 hb.1 hb.2)
  | lst ds =>
    obtain ⟨a, xs, e1, e2, e3⟩ := r2.lstH
    cases d <;> (simp only [dInB, Option.ite_none_right_eq_some, Option.some.injEq] at hb; exact tl a xs ds e1 (.inl (SqL.of e2)) e3 hb.1 hb.2)
  | str j =>
    cases d <;> simp only [dInB, Option.some.injEq, reduceCtorEq] at hb
    subst hb
    exact h2 pins s σ H x y v u Q I rx ry ⟨_, _, r1.strE, r2.strE, q.here (.bl _)⟩
  | dic ks ds =>
    obtain ⟨k, hk, eb⟩ : ∃ k, d.key = some k ∧ kIn k ks = b := by
      cases d <;> simp [dInB, D.key] at hb
      all_goals exact ⟨_, rfl, by simpa using hb⟩
    subst eb
    cases r2 with
    | dic h n l nd r => exact h3 pins s σ H _ _ v u Q I rx ry ⟨_, k, ks, _, r1.keyV hk, rfl, h, l, q.here (.bl _)⟩
  | _ => cases d <;> simp [dInB] at hb
theorem opd_in (hu : X.A.units + 1 < cLine) : OpD X (compareOp .In) dIn := opd_inG (neg := false) op_in_seq op_in_str (op_inD hu)
theorem opd_notIn (hu : X.A.units + 1 < cLine) : OpD X (compareOp .NotIn) dNotIn := opd_inG (neg := true) op_notIn_seq op_notin_str (op_notInD hu)
theorem repL_atI {K : PySem.W.Frag} {S : Addr → Prop} {H : Hp} {vs : List V} {ds : List D} {i : Int} {d : D} (r : RepL K S H vs ds) (h : L2.atI ds i = some d) : ∃ v, L2.atI vs i = some v ∧ Rep K S H v d := by
  unfold L2.atI at h ⊢
  rw [r.length]
  cases e : L2.ixN ds.length i with
  | none => rw [e] at h; cases h
  | some j =>
    rw [e] at h
    exact r.get (i := j) h
theorem ixd_all (hu : X.A.units + 1 < cLine) : IxD X dIx := by
  intro value slice pins s σ H x y v u Q I rx ry q hs
  obtain ⟨S, d, e, z, dm, r1, r2, hz, q⟩ := q
  cases d with
  | lst ds =>
    cases e <;> simp only [dIx, reduceCtorEq] at hz
    obtain ⟨a, xs, e1, e2, e3⟩ := r1.lstH
    obtain ⟨w, h1, h2⟩ := repL_atI e3 hz
    exact ix_list value slice pins s σ H x y v u Q I rx ry ⟨a, xs, _, w, e1, r2.intE, SqL.of e2, h1, q.here h2⟩ hs
  | tup ds =>
    cases e <;> simp only [dIx, reduceCtorEq] at hz
    obtain ⟨a, xs, e1, e2, e3⟩ := r1.seqT
    obtain ⟨w, h1, h2⟩ := repL_atI e3 hz
    exact ix_tup value slice pins s σ H x y v u Q I rx ry ⟨a, xs, _, w, e1, r2.intE, e2, h1, q.here h2⟩ hs
  | scr ds =>
    cases e <;> simp only [dIx, reduceCtorEq] at hz
    obtain ⟨a, xs, e1, e2, e3⟩ := r1.scrH
    obtain ⟨w, h1, h2⟩ := repL_atI e3 hz
    exact ix_list value slice pins s σ H x y v u Q I rx ry ⟨a, xs, _, w, e1, r2.intE, e2, h1, q.here h2⟩ hs
  | str i =>
    cases e <;> simp only [dIx, Option.ite_none_right_eq_some, reduceCtorEq] at hz
    obtain ⟨h1, h2⟩ := hz
    obtain ⟨c, h3, h4⟩ := Option.map_eq_some_iff.mp h2
    subst h4
    exact ix_str value slice pins s σ H x y v u Q I rx ry ⟨_, _, c, r1.strE, r2.intE, okLe_of h1, h3, q.here (.str _)⟩ hs
  | dic ks ds =>
    obtain ⟨k, hk, hz⟩ := Option.bind_eq_some_iff.mp (show (e.key.bind fun k => kGet ks ds k) = some z from hz)
    cases r1 with
    | dic h n l nd r =>
      rename_i a vs
      obtain ⟨w, h1, h2⟩ := valV_get l r hz
      obtain rfl : v = Value.ref a := rx
      have g : DGet H a y (some w) := by
        rw [r2.keyV hk, ← h1]
        exact DGet.k (k := k) h
      exact PyProof.Rows.tail_any (dict_typeIs I g) PySem.F.slot_dict_getitem.lookup (d_getItem hu I g ry fun w' s' I' r' => ⟨w, H, I', r', q.here h2⟩) hs
  | _ => cases e <;> simp [dIx] at hz
theorem vl1 {K : PySem.W.Frag} {S : Addr → Prop} {H : Hp} {xs : List V} {d : D} (r : RepL K S H xs [d]) : ∃ v, xs = [v] ∧ Rep K S H v d := by
  cases r with
  | cons h r => cases r; exact ⟨_, rfl, h⟩
theorem vl2 {K : PySem.W.Frag} {S : Addr → Prop} {H : Hp} {xs : List V} {d e : D} (r : RepL K S H xs [d, e]) : ∃ v w, xs = [v, w] ∧ Rep K S H v d ∧ Rep K S H w e := by
  cases r with
  | cons h r =>
    cases r with
    | cons h2 r => cases r; exact ⟨_, _, rfl, h, h2⟩
theorem cd_len : CallD X (.builtin "len") dLen := by
  intro pins s σ H xs us Q I r q
  obtain ⟨S, ds, z, dm, rl, hz, q⟩ := q
  match ds, hz with
  | [.lst ys], hz =>
    simp only [dLen, Option.some.injEq] at hz
    subst hz
    obtain ⟨v, rfl, r1⟩ := vl1 rl
    obtain ⟨a, ws, e1, e2, e3⟩ := r1.lstH
    exact call_len pins s σ H _ us Q I r ⟨v, ys.length, rfl, by rw [e1]; exact .inl ⟨ws, SqL.of e2, e3.length.symm⟩, q.here (.int _)⟩
  | [.tup ys], hz =>
    simp only [dLen, Option.some.injEq] at hz
    subst hz
    obtain ⟨v, rfl, r1⟩ := vl1 rl
    obtain ⟨a, ws, e1, e2, e3⟩ := r1.seqT
    exact call_len pins s σ H _ us Q I r ⟨v, ys.length, rfl, by rw [e1]; exact .inr ⟨ws, e2, e3.length.symm⟩, q.here (.int _)⟩
  | [.scr ys], hz =>
    simp only [dLen, Option.some.injEq] at hz
    subst hz
    obtain ⟨v, rfl, r1⟩ := vl1 rl
    obtain ⟨a, ws, e1, e2, e3⟩ := r1.scrH
    exact call_len pins s σ H _ us Q I r ⟨v, ys.length, rfl, by rw [e1]; exact .inl ⟨ws, e2, e3.length.symm⟩, q.here (.int _)⟩
  | [.str y], hz =>
    simp only [dLen, Option.ite_none_right_eq_some, Option.some.injEq] at hz
    obtain ⟨h1, h2⟩ := hz
    subst h2
    obtain ⟨v, rfl, r1⟩ := vl1 rl
    exact call_len pins s σ H _ us Q I r ⟨v, y.length, rfl, by rw [r1.strE]; exact ⟨okLe_of h1, rfl⟩, q.here (.int _)⟩
  | [.dic ks _], hz =>
    simp only [dLen, Option.some.injEq] at hz
    subst hz
    obtain ⟨v, rfl, r1⟩ := vl1 rl
    cases r1 with
    | dic h n l nd r' =>
      rename_i a vs
      refine call_lenD pins s σ H _ us Q I r ⟨a, _, rfl, h, ?_⟩
      have e : (kvsOf ks vs).length = ks.length := by
        show (ks.zip vs).length = _
        rw [List.length_zip, l, Nat.min_self]
      have e2 : Q (.int (kvsOf ks vs).length) H := by
        rw [e]
        exact q.here (.int _)
      exact e2
  | [], hz => cases hz
  | _ :: _ :: _, hz => simp [dLen] at hz
  | [.non], hz => simp [dLen] at hz
  | [.bl _], hz => simp [dLen] at hz
  | [.int _], hz => simp [dLen] at hz
  | [.obj _ _], hz => simp [dLen] at hz
  | [.fn _], hz => simp [dLen] at hz
theorem cd_abs : CallD X (.builtin "abs") dAbs := by
  intro pins s σ H xs us Q I r q
  obtain ⟨S, ds, z, dm, rl, hz, q⟩ := q
  unfold dAbs at hz
  split at hz
  · cases hz
    obtain ⟨v, rfl, r1⟩ := vl1 rl
    exact call_abs pins s σ H _ us Q I r ⟨_, by rw [r1.intE], q.here (.int _)⟩
  · cases hz
theorem cd_max2 (hc : X.calm = true) : CallD X (.builtin "max") dMax2 := by
  intro pins s σ H xs us Q I r q
  obtain ⟨S, ds, z, dm, rl, hz, q⟩ := q
  unfold dMax2 at hz
  split at hz
  · cases hz
    obtain ⟨v, w, rfl, r1, r2⟩ := vl2 rl
    exact call_max2 hc pins s σ H _ us Q I r ⟨_, _, by rw [r1.intE, r2.intE], q.here (.int _)⟩
  · cases hz
theorem cd_min2 (hc : X.calm = true) : CallD X (.builtin "min") dMin2 := by
  intro pins s σ H xs us Q I r q
  obtain ⟨S, ds, z, dm, rl, hz, q⟩ := q
  unfold dMin2 at hz
  split at hz
  · cases hz
    obtain ⟨v, w, rfl, r1, r2⟩ := vl2 rl
    exact call_min2 hc pins s σ H _ us Q I r ⟨_, _, by rw [r1.intE, r2.intE], q.here (.int _)⟩
  · cases hz
theorem cd_str : CallD X (.type "str") dStr := by
  intro pins s σ H xs us Q I r q
  obtain ⟨S, ds, z, dm, rl, hz, q⟩ := q
  unfold dStr at hz
  split at hz
  · simp only [Option.ite_none_right_eq_some, Option.some.injEq] at hz
    obtain ⟨h1, h2⟩ := hz
    subst h2
    obtain ⟨v, rfl, r1⟩ := vl1 rl
    exact call_str_int pins s σ H _ us Q I r ⟨_, by rw [r1.intE], h1, q.here (.str _)⟩
  · cases hz
    obtain ⟨v, rfl, r1⟩ := vl1 rl
    exact SkE.call_str_str pins s σ H _ us Q I r ⟨_, by rw [r1.strE], q.here (.str _)⟩
  · cases hz
theorem cd_list : CallD X (.type "list") dList := by
  intro pins s σ H xs us Q I r q
  obtain ⟨S, ds, z, dm, rl, hz, q⟩ := q
  unfold dList at hz
  split at hz
  · cases hz
    obtain ⟨v, rfl, r1⟩ := vl1 rl
    obtain ⟨a, ws, e1, e2, e3⟩ := r1.lstH
    exact call_list_of pins s σ H _ us Q I r ⟨a, ws, by rw [e1], .inl (SqL.of e2), q.lst dm e3⟩
  · cases hz
    obtain ⟨v, rfl, r1⟩ := vl1 rl
    obtain ⟨a, ws, e1, e2, e3⟩ := r1.seqT
    exact call_list_of pins s σ H _ us Q I r ⟨a, ws, by rw [e1], .inr e2, q.lst dm e3⟩
  · cases hz
theorem cd_tuple : CallD X (.type "tuple") dTuple := by
  intro pins s σ H xs us Q I r q
  obtain ⟨S, ds, z, dm, rl, hz, q⟩ := q
  unfold dTuple at hz
  split at hz
  · cases hz
    obtain ⟨v, rfl, r1⟩ := vl1 rl
    obtain ⟨a, ws, e1, e2, e3⟩ := r1.lstH
    exact call_tuple_of pins s σ H _ us Q I r ⟨a, ws, by rw [e1], .inl ⟨SqL.of e2, q.tup dm e3⟩⟩
  · cases hz
    obtain ⟨v, rfl, r1⟩ := vl1 rl
    obtain ⟨a, ws, e1, e2, e3⟩ := r1.seqT
    exact call_tuple_of pins s σ H _ us Q I r ⟨a, ws, by rw [e1], .inr ⟨e2, by rw [← e1]; exact q.here r1⟩⟩
  · cases hz
theorem cb_of {E : Sg → XK} {σ : Sg} {H : Hp} {Q : VK} {f : Value} {F : List D → Option D} {fl : FL} (h : tD X.K E (fL F fl) σ H Q) :
    tCB (fun xs H Q => ∃ S ds z, Dom X.K S H ∧ RepL X.K S H xs ds ∧ F ds = some z ∧ Giv X.K S H z Q) (tDL X.K E fl) σ H Q := by
  obtain ⟨S, δ, st, q⟩ := h
  refine ⟨S, δ, st, (Res.on q).imp fun ds q1 vs H1 e1 r1 => ?_⟩
  obtain ⟨z, hz, q2⟩ := Res.of q1
  exact ⟨S, ds, z, (st.mono e1).here, r1, hz, fun w H2 e2 r2 => q2 w H2 (e1.trans e2) r2⟩
theorem de_callB {E : Sg → XK} {x : Str} {p pos : Pos} {e : Expr} {es : List Expr} {fl : FL} {id : String} {F : List D → Option D} (hc : CallD X (.builtin id) F) (hg : Gl X x) (hm : X.mg x = none) (hv : bootBuiltins x = some (.builtin id)) (ha : DA X E (e :: es) fl)
    (hn : x ≠ "__name__" := by decide) (hdb : (x == ("__debug__" : Str)) = false := by decide) (he : starEach (e :: es) X.env = (false, eval e X.env) :: starEach es X.env := by rfl) (hpl : (backTo pos (starEach es X.env)).any (·.1) = false := by rfl) :
    DE X E (.Call (.Name x p) (e :: es) [] pos) (fL F fl) := PE.imp (pe_callB hc hg hm hv ha.pa hn hdb he hpl) fun σ H Q h => cb_of (f := .builtin id) h
theorem de_callTy {E : Sg → XK} {x : Str} {p pos : Pos} {e : Expr} {es : List Expr} {fl : FL} {T : String} {F : List D → Option D} (hc : CallD X (.type T) F) (hg : Gl X x) (hm : X.mg x = none) (hv : bootBuiltins x = some (.type T)) (ha : DA X E (e :: es) fl)
    (hn : x ≠ "__name__" := by decide) (hdb : (x == ("__debug__" : Str)) = false := by decide) (he : starEach (e :: es) X.env = (false, eval e X.env) :: starEach es X.env := by rfl) (hpl : (backTo pos (starEach es X.env)).any (·.1) = false := by rfl) :
    DE X E (.Call (.Name x p) (e :: es) [] pos) (fL F fl) := PE.imp (pe_callTy hc hg hm hv ha.pa hn hdb he hpl) fun σ H Q h => cb_of (f := .type T) h
end
end DL

namespace DL
open PySem PySem.Spec PyProof.Rows L2
def D.shp (d : D) : Bool := match d.py with
  | some a => SeqAt.shaped a
  | none => false
def D.isS : D → Bool
  | .str s => (PyData.str s).canLay0
  | _ => false
def dInX : D → D → Option D
  | .lst ys, .lst xs => if ((D.lst ys).shp && xs.all D.isS) = true then some (.bl false) else none
  | x, y => dIn x y
section
variable {X : Cx}
end
end DL

namespace DL
open PySem PySem.Spec PyProof.Rows L2
def dInP (x : D) (xs : List D) : Option D := match x.py, pyL xs with
    | some a, some l => if (SeqAt.shaped a && decide (a.depth ≤ 32) && PyData.canLayAll0 l) = true then some (.bl (l.any fun y => PyData.eqv y a)) else none
    | _, _ => none
def dInG : D → D → Option D
  | x, .lst xs => dInP x xs
  | x, y => dIn x y
section
variable {X : Cx}
end
end DL

namespace DL
open PySem PySem.Spec PyProof.Rows L2
def dIsB : D → D → Option D
  | .bl a, .bl b => some (.bl (a == b))
  | .non, .bl _ => some (.bl false)
  | .int _, .bl _ => some (.bl false)
  | .str _, .bl _ => some (.bl false)
  | _, _ => none
section
variable {X : Cx}
end
end DL

namespace DL
open PySem PySem.Spec PyProof.Rows L2
def smulOk (x : Str) (n : Int) : Bool := decide (0 ≤ n) && (decide (n ≤ 1000) && decide (x.length ≤ 1000))
def dMulS : D → D → Option D
  | .str x, .int n => if smulOk x n = true then some (.str (Txt.mul x n)) else none
  | x, y => dMul x y
section
variable {X : Cx}
end
end DL

namespace DL
open PySem PySem.Spec PyProof.Rows L2

inductive O where
  | nx (δ : DSt) | rt (d : D) (δ : DSt) | bk (δ : DSt) | ct (δ : DSt) | exc (n : Str) (xs : List D) | bad
abbrev FS := DSt → O
def O.on {α : Type} (r : R α) (f : α → O) : O := match r with
  | .ok a => f a
  | .exc n xs => .exc n xs
  | .bad => .bad
@[simp] theorem O.on_ok {α : Type} (a : α) (f : α → O) : O.on (R.ok a) f = f a := rfl
@[simp] theorem O.on_exc {α : Type} (n : Str) (xs : List D) (f : α → O) : O.on (R.exc n xs) f = .exc n xs := rfl
@[simp] theorem O.on_bad {α : Type} (f : α → O) : O.on (R.bad : R α) f = .bad := rfl
structure Ev (S : Addr → Prop) (H : Hp) (S' : Addr → Prop) (H' : Hp) : Prop where
  keep : ∀ b o, H b = some o → NT o → ¬ S b → H' b = some o
  off : ∀ b o, H b = some o → ¬ S b → ¬ S' b
  dom : ∀ b o, H b = some o → ¬ S b → ∃ o', H' b = some o'
theorem Ev.refl {S : Addr → Prop} {H : Hp} : Ev S H S H := ⟨fun _ _ h _ _ => h, fun _ _ _ n => n, fun _ o h _ => ⟨o, h⟩⟩
theorem Ev.trans {S S1 S2 : Addr → Prop} {H H1 H2 : Hp} (a : Ev S H S1 H1) (b : Ev S1 H1 S2 H2) : Ev S H S2 H2 :=
  ⟨fun c o h t n => b.keep c o (a.keep c o h t n) t (a.off c o h n), fun c o h n => let ⟨u, h1⟩ := a.dom c o h n; b.off c u h1 (a.off c o h n), fun c o h n => let ⟨u, h1⟩ := a.dom c o h n; b.dom c u h1 (a.off c o h n)⟩
theorem Ev.same {S : Addr → Prop} {H H' : Hp} (e : Same H H') : Ev S H S H' := ⟨fun b o h n _ => e.at b o h, fun _ _ _ n => n, fun b o h _ => e.dom b o h⟩
theorem Ev.new {S : Addr → Prop} {H H' : Hp} {p : Addr} (e : Same H H') (hp : H p = none) : Ev S H (fun b => S b ∨ b = p) H' :=
  ⟨fun b o h _ _ => e.at b o h, fun b o h n z => z.elim n fun z => (by rw [z, hp] at h; cases h), fun b o h _ => e.dom b o h⟩
theorem Ev.upd {S : Addr → Prop} {H : Hp} {a : Addr} {u0 u : HO} (h : H a = some u0) (hs : S a) (p : Pl u0 := by first | assumption | exact ⟨fun ps z => (by cases z), fun ps z => (by cases z)⟩) : Ev S H S (L2.upd H a u) :=
  ⟨fun b o q _ n => by rw [upd_ne (fun z => n (by rw [z]; exact hs))]; exact q, fun _ _ _ n => n, fun b o q _ => by
    by_cases e : b = a
    · rw [e]; exact ⟨u, upd_same⟩
    · exact ⟨o, by rw [upd_ne e]; exact q⟩⟩
theorem Same.updN {H H5 : Hp} {a : Addr} {u0 u : HO} (e : Same H H5) (hn : H a = none) (h : H5 a = some u0) (p : Pl u0 := by first | assumption | exact ⟨fun ps z => (by cases z), fun ps z => (by cases z)⟩) : Same H (L2.upd H5 a u) :=
  ⟨fun b o q nt _ => by rw [upd_ne (ne_of_none q hn)]; exact e.at b o q nt, fun P t => tabS_upd h p (e.tab P t), fun b o q => ⟨_, (upd_ne (ne_of_none q hn)).trans (e.dom b o q).choose_spec⟩, fun b o q po => let ⟨u, h1, p1⟩ := e.pl b o q po; ⟨u, (upd_ne (ne_of_none q hn)).trans h1, p1⟩, fun b ps q => let ⟨qs, h1⟩ := e.tb b ps q; ⟨qs, (upd_ne (ne_of_none q hn)).trans h1⟩⟩
theorem Rep.ev {K : PySem.W.Frag} {S S' : Addr → Prop} {H H' : Hp} (e : Ev S H S' H') {v : V} {d : D} (r : Rep K S H v d) : Rep K S' H' v d := r.to e.keep e.off
theorem RepL.ev {K : PySem.W.Frag} {S S' : Addr → Prop} {H H' : Hp} (e : Ev S H S' H') {v : List V} {d : List D} (r : RepL K S H v d) : RepL K S' H' v d := r.to e.keep e.off

structure StS (K : PySem.W.Frag) (M : Addr → Prop) (S0 : Addr → Prop) (H0 : Hp) (S : Addr → Prop) (σ : Sg) (H : Hp) (δ : DSt) : Prop where
  st : StE K S σ H δ
  same : KeepM M H0 H
  sub : ∀ b, S0 b → S b
  dom : Dom K S0 H0
  ms : ∀ b, M b → S0 b
  own : ∀ (i : Nat) (a : Addr) (t : DS), δ[i]? = some t → t.mutb = true → σ[i]? = some (some (.ref a)) → (H0 a = none ∧ ∀ c fs, t ≠ .ob c fs) ∨ (M a ∧ ∃ c fs, t = .ob c fs)
theorem StS.free {K : PySem.W.Frag} {M S0 S : Addr → Prop} {H0 H : Hp} {σ : Sg} {δ : DSt} (s : StS K M S0 H0 S σ H δ) {p : Addr} (hp : H p = none) : H0 p = none := by
  cases q : H0 p with
  | none => rfl
  | some o =>
    obtain ⟨o', h⟩ := s.same.dom p o q
    rw [hp] at h; cases h
def Fin (K : PySem.W.Frag) (M : Addr → Prop) (S0 : Addr → Prop) (H0 : Hp) (E : XK) (D : Ends) (S : Addr → Prop) (H : Hp) : O → Prop
  | .nx δ => ∀ S' σ' H', StS K M S0 H0 S' σ' H' δ → Ev S H S' H' → D.nx σ' H'
  | .rt d δ => ∀ S' σ' v H', StS K M S0 H0 S' σ' H' δ → Rep K S' H' v d → D.rt v H'
  | .bk δ => ∀ S' σ' H', StS K M S0 H0 S' σ' H' δ → Ev S H S' H' → D.bk σ' H'
  | .ct δ => ∀ S' σ' H', StS K M S0 H0 S' σ' H' δ → Ev S H S' H' → D.ct σ' H'
  | .exc n xs => ∀ cls dx H', KeepM M H0 H' → ExR K S0 H' cls dx n xs → E cls dx H'
  | .bad => False
def tS (K : PySem.W.Frag) (M : Addr → Prop) (S0 : Addr → Prop) (H0 : Hp) (E : XK) (F : FS) : TS := fun D σ H => ∃ S δ, StS K M S0 H0 S σ H δ ∧ Fin K M S0 H0 E D S H (F δ)
structure Ent where
  M : Addr → Prop
  S : Addr → Prop
  H : Hp
def DSt1 (X : Cx) (e : Ent) (E : XK) (st : Stmt) (F : FS) : Prop := PS X st (tS X.K e.M e.S e.H E F)
def DSts (X : Cx) (e : Ent) (E : XK) (st : List Stmt) (F : FS) : Prop := PSs X st (tS X.K e.M e.S e.H E F)

section
variable {K : PySem.W.Frag} {M S0 S S1 : Addr → Prop} {H0 H H1 : Hp} {E : XK} {Dn : Ends} {σ : Sg} {δ : DSt}
theorem ExR.to {cls : Value} {dx : Option Addr} {n : Str} {xs : List D} (h : ExR K S H cls dx n xs) (e : ∀ b, S0 b → S b) : ExR K S0 H cls dx n xs := by
  obtain ⟨h1, a, vs, h2, h3, h4, h5⟩ := h
  exact ⟨h1, a, vs, h2, h3, fun z => h4 (e a z), h5.less e⟩
theorem StS.mono (e : Same H H1) (s : StS K M S0 H0 S σ H δ) : StS K M S0 H0 S σ H1 δ := ⟨s.st.mono e, s.same.trans e, s.sub, s.dom, s.ms, s.own⟩
theorem Fin.ev {o : O} (e : Ev S H S1 H1) (h : Fin K M S0 H0 E Dn S H o) : Fin K M S0 H0 E Dn S1 H1 o := by
  cases o with
  | nx δ => exact fun S' σ' H' s e' => h S' σ' H' s (e.trans e')
  | rt d δ => exact h
  | bk δ => exact fun S' σ' H' s e' => h S' σ' H' s (e.trans e')
  | ct δ => exact fun S' σ' H' s e' => h S' σ' H' s (e.trans e')
  | exc n xs => exact h
  | bad => exact h
theorem Fin.on {α : Type} {r : R α} {f : α → O} (s : StS K M S0 H0 S σ H δ) (h : Fin K M S0 H0 E Dn S H (O.on r f)) {P : α → Prop} (k : ∀ a, Fin K M S0 H0 E Dn S H (f a) → P a) : Res K S H E r P := by
  cases r with
  | ok a => exact k a h
  | exc n xs => exact fun cls dx H' e x => h cls dx H' (s.same.trans e) (x.to s.sub)
  | bad => exact h
end

section
variable {X : Cx} {e0 : Ent} {E : XK} {pos : Pos} {st : Stmt} {rest : List Stmt} {F G : FS} {a b c : Expr} {f g : FE} {es : List Expr} {fl : FL}
def fSkip : FS := fun δ => .nx δ
def fSeq (F G : FS) : FS := fun δ => match F δ with
  | .nx δ' => G δ'
  | o => o
theorem dss_nil : DSts X e0 E [] fSkip := by
  refine PSs.imp pss_nil fun D σ H h => ?_
  obtain ⟨S, δ, s, q⟩ := h
  exact q S σ H s .refl
theorem dss_cons (h : DSt1 X e0 E st F) (k : DSts X e0 E rest G) : DSts X e0 E (st :: rest) (fSeq F G) := by
  refine PSs.imp (pss_cons h k) fun D σ H hq => ?_
  obtain ⟨S, δ, s, q⟩ := hq
  refine ⟨S, δ, s, ?_⟩
  unfold fSeq at q
  cases r : F δ with
  | nx δ' =>
    rw [r] at q
    exact fun S' σ' H' s' e' => ⟨S', δ', s', q.ev e'⟩
  | rt d δ => rw [r] at q; exact q
  | bk d => rw [r] at q; exact q
  | ct d => rw [r] at q; exact q
  | exc n xs => rw [r] at q; exact q
  | bad => rw [r] at q; exact q
theorem dss_one (h : DSt1 X e0 E st F) : DSts X e0 E [st] F := pss_one h
theorem ds_cont : DSt1 X e0 E (.Continue pos) (fun δ => .ct δ) := by
  refine PS.imp ps_continue fun D σ H h => ?_
  obtain ⟨S, δ, s, q⟩ := h
  exact q S σ H s .refl
def fRet (f : FE) : FS := fun δ => O.on (f δ) fun d => .rt d δ
theorem ds_ret (h : DE X (fun _ => E) a f) : DSt1 X e0 E (.Return (some a) pos) (fRet f) := by
  refine PS.imp (ps_ret h) fun D σ H hq => ?_
  obtain ⟨S, δ, s, q⟩ := hq
  exact ⟨S, δ, s.st, Fin.on s q fun d q v H' e' r => q S σ v H' (s.mono e') r⟩
def fIfS (c : FB) (F G : FS) : FS := fun δ => O.on (c δ) fun b => match b with
  | true => F δ
  | false => G δ
theorem ds_if {t : FB} {A B : List Stmt} (hc : DB X (fun _ => E) c t) (ha : DSts X e0 E A F) (hb : DSts X e0 E B G) : DSt1 X e0 E (.If c A B pos) (fIfS t F G) := by
  refine PS.imp (ps_if hc ha hb) fun D σ H hq => ?_
  obtain ⟨S, δ, s, q⟩ := hq
  refine ⟨S, δ, s.st, Fin.on s q fun b q H' e' => ?_⟩
  cases b with
  | true => exact ⟨S, δ, s.mono e', q.ev (.same e')⟩
  | false => exact ⟨S, δ, s.mono e', q.ev (.same e')⟩
def fExp (f : FE) : FS := fun δ => O.on (f δ) fun _ => .nx δ
theorem set_get {α : Type} {xs : List α} {i j : Nat} {v w : α} (h : (xs.set i v)[j]? = some w) : (j = i ∧ w = v) ∨ (j ≠ i ∧ xs[j]? = some w) := by
  by_cases e : j = i
  · subst e
    rw [List.getElem?_set_self'] at h
    cases q : xs[j]? with
    | none => rw [q] at h; cases h
    | some z => rw [q] at h; exact .inl ⟨rfl, (Option.some.inj h).symm⟩
  · rw [List.getElem?_set_ne (Ne.symm e)] at h
    exact .inr ⟨e, h⟩
theorem StE.set {K : PySem.W.Frag} {S : Addr → Prop} {H : Hp} {σ : Sg} {δ : DSt} (s : StE K S σ H δ) (i : Nat) {v : V} {d : D} (r : Rep K S H v d) : StE K S (σ.set i (some v)) H (δ.set i (.fz d)) := by
  refine ⟨by rw [List.length_set, List.length_set, s.len], fun j t h => ?_, fun j k a t u h1 h2 m1 m2 h3 h4 => ?_, s.here⟩
  · rcases set_get h with ⟨rfl, rfl⟩ | ⟨hne, h⟩
    · have hl : j < δ.length := by
        have := (List.getElem?_eq_some_iff.mp h).1
        rwa [List.length_set] at this
      exact ⟨some v, List.getElem?_set_self (by rw [s.len]; exact hl), v, rfl, r⟩
    · obtain ⟨o, h1, h2⟩ := s.slot j t h
      exact ⟨o, by rw [List.getElem?_set_ne (Ne.symm hne)]; exact h1, h2⟩
  · rcases set_get h1 with ⟨_, e⟩ | ⟨n1, h1⟩
    · subst e; cases m1
    · rcases set_get h2 with ⟨_, e⟩ | ⟨n2, h2⟩
      · subst e; cases m2
      · rw [List.getElem?_set_ne (Ne.symm n1)] at h3
        rw [List.getElem?_set_ne (Ne.symm n2)] at h4
        exact s.sep j k a t u h1 h2 m1 m2 h3 h4
theorem StS.set {K : PySem.W.Frag} {M S0 S : Addr → Prop} {H0 H : Hp} {σ : Sg} {δ : DSt} (s : StS K M S0 H0 S σ H δ) (i : Nat) {v : V} {d : D} (r : Rep K S H v d) : StS K M S0 H0 S (σ.set i (some v)) H (δ.set i (.fz d)) := by
  refine ⟨s.st.set i r, s.same, s.sub, s.dom, s.ms, fun j a t h1 m h2 => ?_⟩
  rcases set_get h1 with ⟨_, e⟩ | ⟨n1, h1⟩
  · subst e; cases m
  · rw [List.getElem?_set_ne (Ne.symm n1)] at h2
    exact s.own j a t h1 m h2
theorem StS.newT {K : PySem.W.Frag} {M S0 S : Addr → Prop} {H0 H : Hp} {σ : Sg} {δ : DSt} (s : StS K M S0 H0 S σ H δ) (i : Nat) {p : Addr} {H' : Hp} {t0 : DS} {u0 : HO} (hp : H p = none) (e : Same H H') (hv : H' p = some u0) (hm : t0.mutb = true) (hno : ∀ c fs, t0 ≠ .ob c fs)
    (r : SlotOk K (fun b => S b ∨ b = p) H' (some (.ref p)) t0) (pu : Pl u0 := by first | assumption | exact ⟨fun ps z => (by cases z), fun ps z => (by cases z)⟩) :
    StS K M S0 H0 (fun b => S b ∨ b = p) (σ.set i (some (.ref p))) H' (δ.set i t0) ∧ Ev S H (fun b => S b ∨ b = p) H' := by
  have ev : Ev S H (fun b => S b ∨ b = p) H' := ⟨fun b o h t _ => e.at b o h, fun b o h n z => z.elim n fun z => (by rw [z, hp] at h; cases h), fun b o h _ => e.dom b o h⟩
  have h0 : H0 p = none := s.free hp
  refine ⟨⟨⟨by rw [List.length_set, List.length_set, s.st.len], fun j t h => ?_, fun j k a t u h1 h2 m1 m2 h3 h4 => ?_, ⟨fun b z => ?_, s.st.here.tabs.mono e⟩⟩, s.same.trans e, fun b z => .inl (s.sub b z), s.dom, s.ms, fun j a t h1 m h2 => ?_⟩, ev⟩
  · rcases set_get h with ⟨rfl, rfl⟩ | ⟨hne, h⟩
    · have hl : j < δ.length := by
        have := (List.getElem?_eq_some_iff.mp h).1
        rwa [List.length_set] at this
      exact ⟨_, List.getElem?_set_self (by rw [s.st.len]; exact hl), r⟩
    · obtain ⟨o, h1, h2⟩ := s.st.slot j t h
      refine ⟨o, by rw [List.getElem?_set_ne (Ne.symm hne)]; exact h1, h2.move ev.keep ev.off fun b q m => ?_⟩
      obtain ⟨a, u, w1, w2, w3⟩ := h2.addr m
      rw [w1] at q
      cases q
      exact ⟨fun u q n => e.at _ _ q, .inl w3⟩
  · have ne : ∀ (j : Nat) (t : DS), δ[j]? = some t → t.mutb = true → σ[j]? = some (some (V.ref p)) → False := fun j t q1 m q2 => by
      obtain ⟨o, w1, w2⟩ := s.st.slot j _ q1
      obtain ⟨a, u, w3, w4, _⟩ := w2.addr m
      rw [q2] at w1
      cases w1
      cases w3
      rw [hp] at w4; cases w4
    rcases set_get h1 with ⟨e1, _⟩ | ⟨n1, h1⟩
    · rcases set_get h2 with ⟨e2, _⟩ | ⟨n2, h2⟩
      · rw [e1, e2]
      · exfalso
        rw [List.getElem?_set_ne (Ne.symm n2)] at h4
        rcases set_get h3 with ⟨_, z⟩ | ⟨z, _⟩
        · cases z
          exact ne _ _ h2 m2 h4
        · exact z e1
    · rcases set_get h2 with ⟨e2, _⟩ | ⟨n2, h2⟩
      · exfalso
        rw [List.getElem?_set_ne (Ne.symm n1)] at h3
        rcases set_get h4 with ⟨_, z⟩ | ⟨z, _⟩
        · cases z
          exact ne _ _ h1 m1 h3
        · exact z e2
      · rw [List.getElem?_set_ne (Ne.symm n1)] at h3
        rw [List.getElem?_set_ne (Ne.symm n2)] at h4
        exact s.st.sep j k a t u h1 h2 m1 m2 h3 h4
  · rcases z with z | z
    · obtain ⟨o, h, p1⟩ := s.st.here.at_ b z
      exact e.pl _ _ h p1
    · exact ⟨_, by rw [z]; exact hv, pu⟩
  · rcases set_get h1 with ⟨e1, e2⟩ | ⟨n1, h1⟩
    · rcases set_get h2 with ⟨_, z⟩ | ⟨z, _⟩
      · cases z
        subst e2
        exact .inl ⟨h0, hno⟩
      · exact absurd e1 z
    · rw [List.getElem?_set_ne (Ne.symm n1)] at h2
      exact s.own j a t h1 m h2
theorem StS.newG {K : PySem.W.Frag} {M S0 S : Addr → Prop} {H0 H : Hp} {σ : Sg} {δ : DSt} (s : StS K M S0 H0 S σ H δ) (i : Nat) {p : Addr} {H' : Hp} {vs : List V} {ds : List D} (hp : H p = none) (e : Same H H') (hv : H' p = some (.lst vs)) (r : RepL K (fun b => S b ∨ b = p) H' vs ds) :
    StS K M S0 H0 (fun b => S b ∨ b = p) (σ.set i (some (.ref p))) H' (δ.set i (.ow ds)) ∧ Ev S H (fun b => S b ∨ b = p) H' := s.newT i hp e hv rfl (fun _ _ z => by cases z) ⟨p, vs, rfl, hv, .inr rfl, r⟩
theorem StS.new {K : PySem.W.Frag} {M S0 S : Addr → Prop} {H0 H : Hp} {σ : Sg} {δ : DSt} (s : StS K M S0 H0 S σ H δ) (i : Nat) {p : Addr} {vs : List V} {ds : List D} (hp : H p = none) (r : RepL K S H vs ds) :
    StS K M S0 H0 (fun b => S b ∨ b = p) (σ.set i (some (.ref p))) (upd H p (.lst vs)) (δ.set i (.ow ds)) ∧ Ev S H (fun b => S b ∨ b = p) (upd H p (.lst vs)) := by
  have e : Same H (upd H p (.lst vs)) := same_new hp _
  exact s.newG i hp e upd_same (r.ev ⟨fun b o h t _ => e.at b o h, fun b o h n z => z.elim n fun z => (by rw [z, hp] at h; cases h), fun b o h _ => e.dom b o h⟩)
theorem StS.chgT {K : PySem.W.Frag} {M S0 S : Addr → Prop} {H0 H H' : Hp} {σ : Sg} {δ : DSt} (s : StS K M S0 H0 S σ H δ) {i : Nat} {a : Addr} {t t0 : DS} {u0 : HO} (h : δ[i]? = some t) (hm : t.mutb = true) (hs : σ[i]? = some (some (.ref a)))
    (k : KeepM (· = a) H H') (hv : H' a = some u0) (hm0 : t0.mutb = true) (hob : (∃ c fs, t = .ob c fs) ↔ ∃ c fs, t0 = .ob c fs) (r : SlotOk K S H' (some (.ref a)) t0) : StS K M S0 H0 S σ H' (δ.set i t0) ∧ Ev S H S H' := by
  obtain ⟨o, w1, w2⟩ := s.st.slot i _ h
  obtain ⟨a', u, w3, w4, w5⟩ := w2.addr hm
  rw [hs] at w1
  cases w1
  cases w3
  have ev : Ev S H S H' := ⟨fun b o h t n => k.keep b o h t fun z => n (by rw [z]; exact w5), fun _ _ _ n => n, fun b o h _ => k.dom b o h⟩
  refine ⟨⟨⟨by rw [List.length_set, s.st.len], fun j t hj => ?_, fun j k b t u h1 h2 m1 m2 h3 h4 => ?_, s.st.here.mono k⟩, ⟨fun b o q nt n => ?_, fun P t => k.tab P (s.same.tab P t), fun b o q => let ⟨u, h1⟩ := s.same.dom b o q; k.dom b u h1, fun b o q p => let ⟨u, h1, p1⟩ := s.same.pl b o q p; k.pl b u h1 p1, fun b ps q => let ⟨qs, h1⟩ := s.same.tb b ps q; k.tb b qs h1⟩, s.sub, s.dom, s.ms, fun j b t h1 m h2 => ?_⟩, ev⟩
  · rcases set_get hj with ⟨rfl, rfl⟩ | ⟨hne, hj⟩
    · exact ⟨_, hs, r⟩
    · obtain ⟨o, h1, h2⟩ := s.st.slot j t hj
      refine ⟨o, h1, h2.move ev.keep ev.off fun b q m => ?_⟩
      obtain ⟨b', u, q1, q2, q3⟩ := h2.addr m
      rw [q1] at q
      cases q
      subst q1
      have nab : b ≠ a := fun z => hne (s.st.sep j i a t _ hj h m hm (by rw [← z]; exact h1) hs)
      exact ⟨fun u q nt => k.keep _ _ q nt nab, q3⟩
  · have back : ∀ {j : Nat} {t' : DS}, (δ.set i t0)[j]? = some t' → t'.mutb = true → ∃ t'' : DS, δ[j]? = some t'' ∧ t''.mutb = true := fun {j t'} q m => by
      rcases set_get q with ⟨rfl, _⟩ | ⟨_, q⟩
      · exact ⟨_, h, hm⟩
      · exact ⟨_, q, m⟩
    obtain ⟨_, q1, p1⟩ := back h1 m1
    obtain ⟨_, q2, p2⟩ := back h2 m2
    exact s.st.sep j k b _ _ q1 q2 p1 p2 h3 h4
  · have : b ≠ a := fun z => by
      rw [z] at q n
      rcases s.own i a t h hm hs with ⟨w, _⟩ | ⟨w, _⟩
      · rw [w] at q; cases q
      · exact n w
    exact k.keep b o (s.same.keep b o q nt n) nt this
  · rcases set_get h1 with ⟨rfl, e⟩ | ⟨_, h1⟩
    · rw [hs] at h2
      cases h2
      subst e
      rcases s.own _ a _ h hm hs with ⟨w, w2⟩ | ⟨w, w2⟩
      · exact .inl ⟨w, fun c fs z => let ⟨c, fs, z⟩ := hob.mpr ⟨c, fs, z⟩; w2 c fs z⟩
      · exact .inr ⟨w, hob.mp w2⟩
    · exact s.own j b t h1 m h2
theorem StS.chg {K : PySem.W.Frag} {M S0 S : Addr → Prop} {H0 H : Hp} {σ : Sg} {δ : DSt} (s : StS K M S0 H0 S σ H δ) {i : Nat} {a : Addr} {xs : List V} {ds : List D} (h : δ[i]? = some (.ow ds)) (hs : σ[i]? = some (some (.ref a))) {ys : List V} {es : List D}
    (r : RepL K S H ys es) : StS K M S0 H0 S σ (upd H a (.lst ys)) (δ.set i (.ow es)) ∧ Ev S H S (upd H a (.lst ys)) := by
  obtain ⟨o, w1, a', xs', w2, w3, w4, w5⟩ := s.st.slot i _ h
  rw [hs] at w1
  cases w1
  cases w2
  exact s.chgT h rfl hs (keepM_upd w3) upd_same rfl ⟨fun ⟨_, _, z⟩ => (by cases z), fun ⟨_, _, z⟩ => (by cases z)⟩ ⟨a, ys, rfl, upd_same, w4, r.ev ⟨fun b o h _ n => by rw [upd_ne (fun z => n (by rw [z]; exact w4))]; exact h, fun _ _ _ n => n, fun b o h _ => (keepM_upd w3).dom b o h⟩⟩
def frz (i : Nat) (δ : DSt) : DSt := match δ[i]? with
  | some (.ow ds) => δ.set i (.fz (.lst ds))
  | some (.od ks ds) => δ.set i (.fz (.dic ks ds))
  | _ => δ
theorem StS.frzT {K : PySem.W.Frag} {M S0 S : Addr → Prop} {H0 H : Hp} {σ : Sg} {δ : DSt} (s : StS K M S0 H0 S σ H δ) {i : Nat} {a : Addr} {t : DS} {d : D} (h : δ[i]? = some t) (hm : t.mutb = true) (hno : ∀ c fs, t ≠ .ob c fs) (w1 : σ[i]? = some (some (.ref a)))
    (r : Rep K (fun b => S b ∧ b ≠ a) H (.ref a) d) : StS K M S0 H0 (fun b => S b ∧ b ≠ a) σ H (δ.set i (.fz d)) ∧ Ev S H (fun b => S b ∧ b ≠ a) H := by
  have h0 : H0 a = none := (s.own i a t h hm w1).elim (fun z => z.1) fun ⟨_, c, fs, z⟩ => absurd z (hno c fs)
  have ev : Ev S H (fun b => S b ∧ b ≠ a) H := ⟨fun _ _ h _ _ => h, fun _ _ _ n z => n z.1, fun _ o h _ => ⟨o, h⟩⟩
  refine ⟨⟨⟨by rw [List.length_set, s.st.len], fun j t hj => ?_, fun j k b f g h1 h2 m1 m2 h3 h4 => ?_, ⟨fun b z => s.st.here.at_ b z.1, s.st.here.tabs⟩⟩, s.same, fun b z => ⟨s.sub b z, fun q => ?_⟩, s.dom, s.ms, fun j b f h1 m h2 => ?_⟩, ev⟩
  · rcases set_get hj with ⟨rfl, rfl⟩ | ⟨hne, hj⟩
    · exact ⟨_, w1, _, rfl, r⟩
    · obtain ⟨o, h1, h2⟩ := s.st.slot j t hj
      refine ⟨o, h1, h2.move ev.keep ev.off fun b q m => ?_⟩
      obtain ⟨b', u, q1, q2, q3⟩ := h2.addr m
      rw [q1] at q
      cases q
      subst q1
      have nab : b ≠ a := fun z => hne (s.st.sep j i a _ _ hj h m hm (by rw [← z]; exact h1) w1)
      exact ⟨fun _ q _ => q, q3, nab⟩
  · rcases set_get h1 with ⟨_, q⟩ | ⟨_, h1⟩
    · subst q; cases m1
    · rcases set_get h2 with ⟨_, q⟩ | ⟨_, h2⟩
      · subst q; cases m2
      · exact s.st.sep j k b f g h1 h2 m1 m2 h3 h4
  · obtain ⟨o, q', _⟩ := s.dom.at_ b z
    rw [q, h0] at q'
    cases q'
  · rcases set_get h1 with ⟨_, q⟩ | ⟨_, h1⟩
    · subst q; cases m
    · exact s.own j b f h1 m h2
theorem StS.frz {K : PySem.W.Frag} {M S0 S : Addr → Prop} {H0 H : Hp} {σ : Sg} {δ : DSt} (s : StS K M S0 H0 S σ H δ) (i : Nat) : ∃ S', StS K M S0 H0 S' σ H (DL.frz i δ) ∧ Ev S H S' H := by
  unfold DL.frz
  cases h : δ[i]? with
  | none => exact ⟨S, s, .refl⟩
  | some t =>
    cases t with
    | un => exact ⟨S, s, .refl⟩
    | fz d => exact ⟨S, s, .refl⟩
    | ob c fs => exact ⟨S, s, .refl⟩
    | ow ds =>
      obtain ⟨o, w1, a, xs, w2, w3, w4, w5⟩ := s.st.slot i _ h
      subst w2
      have ev : Ev S H (fun b => S b ∧ b ≠ a) H := ⟨fun _ _ h _ _ => h, fun _ _ _ n z => n z.1, fun _ o h _ => ⟨o, h⟩⟩
      exact ⟨_, s.frzT h rfl (fun _ _ z => by cases z) w1 (.lst w3 (fun z => z.2 rfl) (w5.ev ev))⟩
    | od ks ds =>
      obtain ⟨o, w1, a, xs, w2, w3, w4, w5, w6, w7⟩ := s.st.slot i _ h
      subst w2
      have ev : Ev S H (fun b => S b ∧ b ≠ a) H := ⟨fun _ _ h _ _ => h, fun _ _ _ n z => n z.1, fun _ o h _ => ⟨o, h⟩⟩
      exact ⟨_, s.frzT h rfl (fun _ _ z => by cases z) w1 (.dic w3 (fun z => z.2 rfl) w5 w6 (w7.ev ev))⟩
def fFrz (i : Nat) (F : FS) : FS := fun δ => F (frz i δ)
theorem dss_frz (i : Nat) (h : DSts X e0 E rest F) : DSts X e0 E rest (fFrz i F) := by
  refine PSs.imp h fun D σ H hq => ?_
  obtain ⟨S, δ, s, q⟩ := hq
  obtain ⟨S', s', e'⟩ := s.frz i
  exact ⟨S', frz i δ, s', q.ev e'⟩
def fSet (i : Nat) (f : FE) : FS := fun δ => O.on (f δ) fun d => .nx (δ.set i (.fz d))
theorem ds_set {i : Nat} {x : Str} {pos' : Pos} (hN : X.N.Nodup) (hi : X.N[i]? = some x) (hx : Loc X.env.scope x) (h : DE X (fun _ => E) a f) (hs : swapsWith a (some (.Name x pos')) pos.line X.env = pure false := by rfl)
    (hf : X.fn x = true ∨ X.env.scope.names.lookup x = some .local := by first | exact .inl rfl | exact .inr rfl | assumption) : DSt1 X e0 E (.Assign [.Name x pos'] a pos) (fSet i f) := by
  refine PS.imp (ps_set hN hi hx h hs hf) fun D σ H hq => ?_
  obtain ⟨S, δ, s, q⟩ := hq
  exact ⟨S, δ, s.st, Fin.on s q fun d q v H' e' r => q S _ H' ((s.mono e').set i r) (.same e')⟩
def fNew (i : Nat) (fl : FL) : FS := fun δ => O.on (fl δ) fun ds => .nx (δ.set i (.ow ds))
theorem ds_new {i : Nat} {x : Str} {pos' p : Pos} (hN : X.N.Nodup) (hi : X.N[i]? = some x) (hx : Loc X.env.scope x) (h : DA X (fun _ => E) es fl) (hs : swapsWith (.List es p) (some (.Name x pos')) pos.line X.env = pure false := by rfl)
    (hl : es.length ≤ sizeLine := by exact Nat.le_of_ble_eq_true rfl) (hf : X.fn x = true ∨ X.env.scope.names.lookup x = some .local := by first | exact .inl rfl | exact .inr rfl | assumption) : DSt1 X e0 E (.Assign [.Name x pos'] (.List es p) pos) (fNew i fl) := by
  refine PS.imp (ps_set hN hi hx (pe_lst h.pa) hs hf) fun D σ H hq => ?_
  obtain ⟨S, δ, s, q⟩ := hq
  refine ⟨S, δ, s.st, ?_⟩
  have len := h.len δ
  unfold fNew at q
  cases r : fl δ with
  | bad => rw [r] at q; exact q.elim
  | exc n xs =>
    rw [r] at q
    exact fun cls dx H' e x => q cls dx H' (s.same.trans e) (x.to s.sub)
  | ok ds =>
    rw [r] at q
    intro vs H1 e1 r1
    refine ⟨by rw [r1.length, len ds r]; exact hl, fun p hp => ?_⟩
    obtain ⟨s2, e2⟩ := (s.mono e1).new i hp r1
    exact q _ _ _ s2 ((Ev.same e1).trans e2)
def fOwn (i : Nat) (δ : DSt) : R (List D) := match δ[i]? with
  | some (.ow ds) => .ok ds
  | _ => .bad
theorem fOwn_ne {i : Nat} {δ : DSt} {n : Str} {xs : List D} (h : fOwn i δ = .exc n xs) : False := by
  unfold fOwn at h
  split at h <;> cases h
theorem fOwn_at {i : Nat} {δ : DSt} {ds : List D} (h : fOwn i δ = .ok ds) : δ[i]? = some (.ow ds) := by
  unfold fOwn at h
  cases q : δ[i]? with
  | none => rw [q] at h; cases h
  | some t =>
    rw [q] at h
    cases t with
    | ow es => cases h; rfl
    | _ => cases h
def fApp (i : Nat) (f : FE) : FS := fun δ => O.on (fOwn i δ) fun ds => O.on (f δ) fun d => if okLt ds.length = true then .nx (δ.set i (.ow (ds ++ [d]))) else .bad
theorem ds_app {i : Nat} {call : Expr} (hb : ∀ t, PA X [a] t → PE X call (tBM X.K "list" rAppend (tVar i) t)) (h : DE X (fun _ => E) a f) (hst : starEach (a :: []) X.env = (false, eval a X.env) :: starEach [] X.env := by rfl)
    (hs : swapsWith call none pos.line X.env = pure false := by rfl) : DSt1 X e0 E (.Expr call pos) (fApp i f) := by
  refine PS.imp (ps_expr (hb _ (pa_cons h pa_nil hst)) hs) fun D σ H hq => ?_
  obtain ⟨S, δ, s, q⟩ := hq
  unfold fApp at q
  cases r : fOwn i δ with
  | bad => rw [r] at q; exact q.elim
  | exc n xs => exact (fOwn_ne r).elim
  | ok ds =>
    rw [r] at q
    have hd := fOwn_at r
    obtain ⟨o, w1, b, xs, w2, w3, w4, w5⟩ := s.st.slot i _ hd
    subst w2
    refine ⟨.ref b, w1, .inl ⟨rfl, _, SqL.of w3⟩, S, δ, s.st, Fin.on (f := fun d => if okLt ds.length = true then .nx (δ.set i (.ow (ds ++ [d]))) else .bad) s q fun d q v H' e' r1 => ?_⟩
    by_cases c : okLt ds.length = true
    · simp only [c, if_true] at q
      refine ⟨b, xs, v, rfl, rfl, e'.at _ _ w3, by rw [w5.length]; exact okLt_of c, ?_⟩
      obtain ⟨s2, e2⟩ := (s.mono e').chg (xs := xs) hd w1 (ys := xs ++ [v]) (es := ds ++ [d]) ((w5.mono e').append (.cons r1 .nil))
      exact q S σ _ s2 ((Ev.same e').trans e2)
    · simp only [c, if_false] at q
      exact q.elim
end
end DL

namespace DL
open PySem PySem.Spec PyProof.Rows L2

abbrev FP := DSt → D → Option DSt
abbrev FPs := DSt → List D → Option DSt
def tG (K : PySem.W.Frag) (M S0 : Addr → Prop) (H0 : Hp) (put : FP) : TG := fun v σ H Q => ∃ S δ d δ', StS K M S0 H0 S σ H δ ∧ Rep K S H v d ∧ put δ d = some δ' ∧ ∀ σ', StS K M S0 H0 S σ' H δ' → Q σ' H
def tGs (K : PySem.W.Frag) (M S0 : Addr → Prop) (H0 : Hp) (put : FPs) : TGs := fun vs σ H Q => ∃ S δ ds δ', StS K M S0 H0 S σ H δ ∧ RepL K S H vs ds ∧ put δ ds = some δ' ∧ ∀ σ', StS K M S0 H0 S σ' H δ' → Q σ' H
def DG (X : Cx) (e0 : Ent) (tg : Expr) (put : FP) : Prop := PG X tg (tG X.K e0.M e0.S e0.H put)
def DGs (X : Cx) (e0 : Ent) (tgs : List Expr) (put : FPs) : Prop := PGs X tgs (tGs X.K e0.M e0.S e0.H put)
theorem PG.imp {X : Cx} {e : Expr} {t t' : TG} (h : PG X e t) (k : ∀ v σ H Q, t' v σ H Q → t v σ H Q) : PG X e t' := ⟨fun pins s σ H v u Q I r q => h.run pins s σ H v u Q I r (k v σ H Q q)⟩
theorem PGs.imp {X : Cx} {es : List Expr} {t t' : TGs} (h : PGs X es t) (k : ∀ v σ H Q, t' v σ H Q → t v σ H Q) : PGs X es t' := ⟨fun pins s σ H v u Q I r q => h.run pins s σ H v u Q I r (k v σ H Q q)⟩
def pName (i : Nat) : FP := fun δ d => some (δ.set i (.fz d))
def pNil : FPs := fun δ ds => match ds with
  | [] => some δ
  | _ => none
def pCons (p : FP) (ps : FPs) : FPs := fun δ ds => match ds with
  | d :: ds => (p δ d).bind fun δ' => ps δ' ds
  | [] => none
def pTup (n : Nat) (ps : FPs) : FP := fun δ d => match d with
  | .tup ds => if ds.length = n then ps δ ds else none
  | _ => none
section
variable {X : Cx} {e0 : Ent} {E : XK} {Eσ : Sg → XK} {pos : Pos} {st : Stmt} {rest : List Stmt} {F G : FS} {a b c tg : Expr} {f g : FE} {es : List Expr} {fl : FL}
theorem dg_name (i : Nat) {x : Str} (hN : X.N.Nodup) (hi : X.N[i]? = some x) (hx : Loc X.env.scope x) (hf : X.fn x = true ∨ X.env.scope.names.lookup x = some .local := by first | exact .inl rfl | exact .inr rfl | assumption) : DG X e0 (.Name x pos) (pName i) := by
  refine PG.imp (pg_name hN hi hx hf) fun v σ H Q h => ?_
  obtain ⟨S, δ, d, δ', s, r, e, q⟩ := h
  cases e
  exact q _ (s.set i r)
theorem dgs_nil : DGs X e0 [] pNil := by
  refine PGs.imp pgs_nil fun vs σ H Q h => ?_
  obtain ⟨S, δ, ds, δ', s, r, e, q⟩ := h
  cases r with
  | nil => cases e; exact ⟨rfl, q _ s⟩
  | cons _ _ => cases e
theorem dgs_cons {p : FP} {ps : FPs} (h : DG X e0 a p) (k : DGs X e0 es ps) (hs : (assignEach (a :: es) X.env).map (·.2) = assign a X.env :: (assignEach es X.env).map (·.2) := by rfl) : DGs X e0 (a :: es) (pCons p ps) := by
  refine PGs.imp (pgs_cons h k hs) fun vs σ H Q h => ?_
  obtain ⟨S, δ, ds, δ', s, r, e, q⟩ := h
  cases r with
  | nil => cases e
  | cons r0 r1 =>
    obtain ⟨δ1, e1, e2⟩ := Option.bind_eq_some_iff.mp e
    exact ⟨_, _, rfl, S, δ, _, δ1, s, r0, e1, fun σ' s' => ⟨S, δ1, _, δ', s', r1, e2, q⟩⟩
theorem dg_tup {k n : Nat} {ps : FPs} (hc : X.calm = true) (h : DGs X e0 es ps) (hn : (assignEach es X.env).length = n := by rfl) (hst : (assignEach es X.env).findIdx? (·.1) = none := by rfl) : DG X e0 (.Tuple es k pos) (pTup n ps) := by
  refine PG.imp (pg_tup hc h hn hst) fun v σ H Q h => ?_
  obtain ⟨S, δ, d, δ', s, r, e, q⟩ := h
  unfold pTup at e
  split at e
  · rename_i ds
    by_cases c : ds.length = n
    · rw [if_pos c] at e
      obtain ⟨b, xs, e1, e2, e3⟩ := r.seqT
      exact ⟨b, xs, e1, e2, by rw [e3.length]; exact c, S, δ, ds, δ', s, e3, e, q⟩
    · rw [if_neg c] at e; cases e
  · cases e
def fAsg (p : FP) (f : FE) : FS := fun δ => O.on (f δ) fun d => match p δ d with
  | some δ' => .nx δ'
  | none => .bad
theorem ds_asg {p : FP} (h : DE X (fun _ => E) a f) (hg : DG X e0 tg p) (hs : swapsWithSole [tg] a pos.line X.env = pure false := by rfl) (hw : swappedStores [tg] a X.env = pure none := by rfl)
    (h1 : (assignEach [tg] X.env).map (·.2) = [assign tg X.env] := by rfl) : DSt1 X e0 E (.Assign [tg] a pos) (fAsg p f) := by
  refine PS.imp (ps_asg h hg hs hw h1) fun D σ H hq => ?_
  obtain ⟨S, δ, s, q⟩ := hq
  refine ⟨S, δ, s.st, Fin.on (f := fun d => match p δ d with
    | some δ' => .nx δ'
    | none => .bad) s q fun d q v H' e' r => ?_⟩
  cases e : p δ d with
  | none => rw [e] at q; exact q.elim
  | some δ' =>
    rw [e] at q
    exact ⟨S, δ, d, δ', s.mono e', r, e, fun σ' s' => q S σ' H' s' (.same e')⟩
def fAug (F : D → D → Option D) (i : Nat) (f : FE) : FS := fun δ => O.on (fVar i δ) fun x => O.on (f δ) fun y => O.on (R.of (F x y)) fun z => .nx (δ.set i (.fz z))
theorem ds_aug {i : Nat} {x : Str} {op : Operator} {F : D → D → Option D} {pos' : Pos} (hN : X.N.Nodup) (hi : X.N[i]? = some x) (hx : Loc X.env.scope x) (h : DE X (fun _ => E) a f) (ho : OpD X (inplaceOp op) F)
    (hf : X.fn x = true ∨ X.env.scope.names.lookup x = some .local := by first | exact .inl rfl | exact .inr rfl | assumption) : DSt1 X e0 E (.AugAssign (.Name x pos') op a pos) (fAug F i f) := by
  refine PS.imp (ps_aug hN hi hx h ho hf) fun D σ H hq => ?_
  obtain ⟨S, δ, s, q⟩ := hq
  unfold fAug at q
  cases r : fVar i δ with
  | bad => rw [r] at q; exact q.elim
  | exc n xs =>
    unfold fVar at r
    split at r <;> cases r
  | ok d =>
    rw [r] at q
    unfold fVar at r
    split at r
    · rename_i d' hd
      cases r
      obtain ⟨o, w1, v, w2, w3⟩ := s.st.slot i _ hd
      subst w2
      refine ⟨v, w1, S, δ, s.st, Fin.on (f := fun y => O.on (R.of (F d y)) fun z => .nx (δ.set i (.fz z))) s q fun e q w H' e' r1 => ?_⟩
      cases z : F d e with
      | none => rw [z] at q; exact q.elim
      | some k =>
        rw [z] at q
        exact ⟨S, d, e, k, (s.mono e').st.here, w3.mono e', r1, z, fun u H2 e2 r2 => q S _ H2 (((s.mono e').mono e2).set i r2) (.same (e'.trans e2))⟩
    · cases r

def ItOk (K : PySem.W.Frag) (S : Addr → Prop) (H : Hp) (J : It) (ds : List D) : Prop :=
  ∀ S' H', Ev S H S' H' → Dom K S' H' → ∀ i : Nat, (i < ds.length → J.go i H' ∧ ∀ x H2, J.yld i H' x H2 → Same H' H2 ∧ ∃ d, ds[i]? = some d ∧ Rep K S' H2 x d) ∧ (ds.length ≤ i → J.stop i H')
def tI (K : PySem.W.Frag) (E : Sg → XK) (f : FL) : TI := fun σ H R => ∃ S δ, StE K S σ H δ ∧ Res K S H (E σ) (f δ) fun ds => ∀ J H', Same H H' → ItOk K S H' J ds → R J H'
def DI (X : Cx) (E : Sg → XK) (tg iter : Expr) (f : FL) : Prop := PI X tg iter (tI X.K E f)
theorem PI.imp {X : Cx} {tg e : Expr} {t t' : TI} (h : PI X tg e t) (k : ∀ σ H R, t' σ H R → t σ H R) : PI X tg e t' := ⟨fun pins s σ H R I q => h.run pins s σ H R I (k σ H R q)⟩
def dItems : D → Option (List D)
  | .lst xs => some xs
  | .tup xs => some xs
  | .scr xs => some xs
  | .str z => some (z.cps.toList.map fun c => .str ⟨#[c]⟩)
  | _ => none
def fItems (f : FE) : FL := fun δ => (f δ).bind fun d => R.of (dItems d)
theorem di_seq (h : DE X Eσ a f) : DI X Eσ tg a (fItems f) := by
  refine ⟨fun pins s σ H R I hq => ?_⟩
  obtain ⟨S, δ, st, q⟩ := hq
  have key : Res X.K S H (Eσ σ) (f δ) fun d => ∀ v H', Same H H' → Rep X.K S H' v d → ∃ ds, dItems d = some ds ∧ ∀ J H2, Same H H2 → ItOk X.K S H2 J ds → R J H2 := (Res.on q).imp fun d q1 v H' e' r => by
    obtain ⟨ds, h1, h2⟩ := Res.of q1
    exact ⟨ds, h1, h2⟩
  have ans := h.run pins s σ H (fun v H1 => Same H H1 ∧ ∃ d ds, Rep X.K S H1 v d ∧ dItems d = some ds ∧ ∀ J H2, Same H H2 → ItOk X.K S H2 J ds → R J H2) I ⟨S, δ, st, key.imp fun d q1 v H' e' r => by
    obtain ⟨ds, h1, h2⟩ := q1 v H' e' r
    exact ⟨e', d, ds, r, h1, h2⟩⟩
  refine thn ans fun v s1 ⟨x, H1, I1, r1, e1, d, ds, rx, hd, q1⟩ => ?_
  have lst : ∀ (b : Addr) (xs : List V) (ds : List D), x = .ref b → SqL X.K H1 b xs → (∀ S' H', Ev S H1 S' H' → SqL X.K H' b xs) → RepL X.K S H1 xs ds → (∀ J H2, Same H H2 → ItOk X.K S H2 J ds → R J H2) → wpAny (model X.prog X.w) X.A (pyIter v) (PIE X pins σ tg R) X.xe s1 := by
    intro b xs ds ex hs hev rl q2
    subst ex
    obtain rfl : v = Value.ref b := r1
    obtain ⟨its, rv, p, hz⟩ := I1.list hs
    refine wpAny_pyIter_list p.isList ?_
    refine ⟨s1.heap.objs.size, [s1.heap.objs.size], _, Itl X.K b, H1, rfl, I1.kept (t' := s1.toks) fun b o e => Heap.get?_push_of_some _ e, turn_list b _, ⟨_, Heap.get?_push_size _ rfl, rfl, rfl⟩, fun b hb => ?_, ?_⟩
    · have e : b = s1.heap.objs.size := by simpa using hb
      subst e
      exact I1.fpOk (Nat.le_refl _) (I1.hok.fresh (Nat.le_refl _))
    · refine q2 _ H1 e1 fun S' H' ev dm i => ⟨fun hi => ?_, fun hi => ⟨xs, hev S' H' ev, by rw [rl.length]; exact hi⟩⟩
      obtain ⟨y, hy, ry⟩ := rl.get (i := i) (d := ds[i]) (by simp [hi])
      refine ⟨⟨xs, y, hev S' H' ev, hy⟩, fun z H2 yz => ?_⟩
      obtain ⟨e3, hz⟩ := yz
      subst e3
      have := hz xs (hev S' _ ev)
      rw [hy] at this
      cases this
      exact ⟨Same.refl _, ds[i], by simp [hi], ry.ev ev⟩
  have tup : ∀ (b : Addr) (xs : List V) (ds : List D), x = .ref b → SqT X.K H1 b xs → (∀ S' H', Ev S H1 S' H' → SqT X.K H' b xs) → RepL X.K S H1 xs ds → (∀ J H2, Same H H2 → ItOk X.K S H2 J ds → R J H2) → wpAny (model X.prog X.w) X.A (pyIter v) (PIE X pins σ tg R) X.xe s1 := by
    intro b xs ds ex hs hev rl q2
    subst ex
    obtain rfl : v = Value.ref b := r1
    obtain ⟨its, rv, p, hz⟩ := I1.tuple hs
    refine wpAny_pyIter_tuple (show s1.heap.IsTuple b its.toArray from p) ?_
    refine ⟨s1.heap.objs.size, [s1.heap.objs.size], _, Itt X.K b, H1, rfl, I1.kept (t' := s1.toks) fun b o e => Heap.get?_push_of_some _ e, turn_tuple b _, ⟨_, Heap.get?_push_size _ rfl, rfl, rfl⟩, fun b hb => ?_, ?_⟩
    · have e : b = s1.heap.objs.size := by simpa using hb
      subst e
      exact I1.fpOk (Nat.le_refl _) (I1.hok.fresh (Nat.le_refl _))
    · refine q2 _ H1 e1 fun S' H' ev dm i => ⟨fun hi => ?_, fun hi => ⟨xs, hev S' H' ev, by rw [rl.length]; exact hi⟩⟩
      obtain ⟨y, hy, ry⟩ := rl.get (i := i) (d := ds[i]) (by simp [hi])
      refine ⟨⟨xs, y, hev S' H' ev, hy⟩, fun z H2 yz => ?_⟩
      obtain ⟨e3, hz⟩ := yz
      subst e3
      have := hz xs (hev S' _ ev)
      rw [hy] at this
      cases this
      exact ⟨Same.refl _, ds[i], by simp [hi], ry.ev ev⟩
  cases rx with
  | lst h n r =>
    cases hd
    exact lst _ _ _ rfl (SqL.of h) (fun S' H' ev => SqL.of (ev.keep _ _ h (by first | assumption | (intro ps z; cases z)) n)) r q1
  | scr h n r =>
    cases hd
    exact lst _ _ _ rfl (.inl (.inr ⟨_, h⟩)) (fun S' H' ev => .inl (.inr ⟨_, ev.keep _ _ h (by first | assumption | (intro ps z; cases z)) n⟩)) r q1
  | sco h n r =>
    cases hd
    exact lst _ _ _ rfl (SqL.of h) (fun S' H' ev => SqL.of (ev.keep _ _ h (by first | assumption | (intro ps z; cases z)) n)) r q1
  | scl h r =>
    cases hd
    exact lst _ _ _ rfl (.inr h) (fun S' H' ev => .inr h) r q1
  | tup h n r =>
    cases hd
    exact tup _ _ _ rfl (SqT.of h) (fun S' H' ev => SqT.of (ev.keep _ _ h (by first | assumption | (intro ps z; cases z)) n)) r q1
  | ltp h r =>
    cases hd
    exact tup _ _ _ rfl (.inr h) (fun S' H' ev => .inr h) r q1
  | str z =>
    cases hd
    obtain ⟨tk, rfl⟩ := (show ∃ t, v = Value.str z t from r1)
    have fin : R (Its z) H1 := by
      refine q1 _ H1 e1 fun S' H' ev dm i => ?_
      have hl : (z.cps.toList.map fun c => D.str ⟨#[c]⟩).length = z.cps.size := by simp
      refine ⟨fun hi => ?_, fun hi => by rw [hl] at hi; exact hi⟩
      rw [hl] at hi
      refine ⟨hi, fun w H2 yz => ?_⟩
      obtain ⟨e3, c, hc, rfl⟩ := yz
      subst e3
      refine ⟨Same.refl _, .str ⟨#[c]⟩, ?_, .str _⟩
      rw [List.getElem?_map, Array.getElem?_toList, hc]
      rfl
    cases ha : z.cps.all (· < 128)
    · exact wpAny_pyIter_wide ha (pi_one (tk := s1.toks) I1 _ (turn_str _ z tk "str_iterator" (.inr rfl)) ⟨_, Heap.get?_push_size _ rfl, rfl, rfl⟩ fin)
    · exact wpAny_pyIter_ascii ha (pi_one (tk := s1.toks) I1 _ (turn_str _ z tk "str_ascii_iterator" (.inl rfl)) ⟨_, Heap.get?_push_size _ rfl, rfl, rfl⟩ fin)
  | _ => cases hd
def dInts (lo : Int) (n : Nat) : List D := (List.range n).map fun i : Nat => .int (lo + i)
theorem itOk_r {K : PySem.W.Frag} {S : Addr → Prop} {H : Hp} {lo : Int} {n : Nat} : ItOk K S H (Itr lo n) (dInts lo n) := fun S' H' ev dm i => by
  have hl : (dInts lo n).length = n := by simp [dInts]
  rw [hl]
  refine ⟨fun hi => ⟨hi, fun x H2 y => ?_⟩, fun hi => hi⟩
  obtain ⟨rfl, rfl⟩ := y
  exact ⟨Same.refl _, .int (lo + i), by simp [dInts, hi], .int _⟩
def small62 (i : Int) : Bool := Nat.blt i.natAbs (2 ^ 62)
theorem small62_of {i : Int} (h : small62 i = true) : -(2 ^ 62) ≤ i ∧ i < 2 ^ 62 := by
  have h1 : i.natAbs < 2 ^ 62 := Nat.blt_eq.mp h
  omega
theorem small62_by {i : Int} (h : i.natAbs < 4611686018427387904) : small62 i = true := Nat.blt_eq.mpr h
def dRange : List D → Option (List D)
  | [.int j] => if small62 j = true then some (dInts 0 j.toNat) else none
  | [.int i, .int j] => if (small62 i && small62 j) = true then some (dInts i (j - i).toNat) else none
  | _ => none
def fRange (fl : FL) : FL := fun δ => (fl δ).bind fun ds => R.of (dRange ds)
theorem di_range1 {p : Pos} (hg : Gl X "range") (hm : X.mg "range" = none) (ha : DA X Eσ [a] fl) (hs : starEach [a] X.env = [(false, eval a X.env)] := by rfl) : DI X Eσ tg (.Call (.Name "range" p) [a] [] pos) (fRange fl) := by
  refine PI.imp (pi_range1 hg hm ha.pa hs) fun σ H R h => ?_
  obtain ⟨S, δ, st, q⟩ := h
  refine ⟨S, δ, st, ?_⟩
  have q' := Res.on q
  cases r : fl δ with
  | bad => rw [r] at q'; exact q'.elim
  | exc n xs => rw [r] at q'; exact q'
  | ok ds =>
    rw [r] at q'
    intro vs H' e' rl
    obtain ⟨es, h1, h2⟩ := Res.of q'
    have hl := ha.len δ ds r
    match ds, hl with
    | [d], _ =>
      cases d <;> simp only [dRange, Option.ite_none_right_eq_some, Option.some.injEq, reduceCtorEq] at h1
      obtain ⟨c, rfl⟩ := h1
      obtain ⟨v, rfl, r1⟩ := vl1 rl
      obtain ⟨c1, c2⟩ := small62_of c
      exact ⟨_, by rw [r1.intE], c1, c2, h2 _ H' e' itOk_r⟩
def loopF (put : FP) (body : FS) : List D → DSt → O
  | [], δ => .nx δ
  | d :: ds, δ => match put δ d with
    | none => .bad
    | some δ1 => match body δ1 with
      | .nx δ2 => loopF put body ds δ2
      | .ct δ2 => loopF put body ds δ2
      | .bk δ2 => .nx δ2
      | .rt d δ2 => .rt d δ2
      | .exc n xs => .exc n xs
      | .bad => .bad
def fFor (fi : FL) (put : FP) (body : FS) : FS := fun δ => O.on (fi δ) fun ds => loopF put body ds δ
theorem ds_for {iter : Expr} {body : List Stmt} {fi : FL} {put : FP} (hp : PassesOwn (model X.prog X.w) X.A X.env X.xe) (hc : X.calm = true) (hi : DI X (fun _ => E) tg iter fi) (hg : DG X e0 tg put) (hb : DSts X e0 E body F)
    (hs : ∀ x, foldedSetIterable iter X.env x = pure x := by intro _; rfl) : DSt1 X e0 E (.For tg iter body [] pos) (fFor fi put F) := by
  refine PS.imp (ps_for hp hc hi hg hb hs) fun D σ H hq => ?_
  obtain ⟨S, δ, s, q⟩ := hq
  refine ⟨S, δ, s.st, Fin.on (f := fun ds => loopF put F ds δ) s q fun ds q J H1 e1 io => ?_⟩
  refine ⟨fun i m σ' H' => ∃ S' δ', StS X.K e0.M e0.S e0.H S' σ' H' δ' ∧ Ev S H1 S' H' ∧ m = ds.length - i ∧ i ≤ ds.length ∧ Fin X.K e0.M e0.S e0.H E D S' H' (loopF put F (ds.drop i) δ'),
    ⟨ds.length, S, δ, s.mono e1, .refl, rfl, Nat.zero_le _, q.ev (.same e1)⟩, ?_⟩
  rintro i m σ' H' ⟨S', δ', s', ev, rfl, hi, q'⟩
  obtain ⟨go, stop⟩ := io S' H' ev s'.st.here i
  by_cases hlt : i < ds.length
  · obtain ⟨g1, g2⟩ := go hlt
    refine .inr ⟨g1, fun σ2 H2 => ∃ m', m' < ds.length - i ∧ ∃ S2 δ2, StS X.K e0.M e0.S e0.H S2 σ2 H2 δ2 ∧ Ev S H1 S2 H2 ∧ m' = ds.length - (i + 1) ∧ i + 1 ≤ ds.length ∧ Fin X.K e0.M e0.S e0.H E D S2 H2 (loopF put F (ds.drop (i + 1)) δ2), fun _ _ z => z, fun x H2 y => ?_⟩
    obtain ⟨e2, d, hd, rx⟩ := g2 x H2 y
    rw [List.drop_eq_getElem_cons hlt] at q'
    have ed : d = ds[i] := by
      rw [List.getElem?_eq_getElem hlt] at hd
      exact (Option.some.inj hd).symm
    subst ed
    unfold loopF at q'
    cases pd : put δ' ds[i] with
    | none => rw [pd] at q'; exact q'.elim
    | some δ1 =>
      rw [pd] at q'
      dsimp only at q'
      refine ⟨S', δ', _, δ1, s'.mono e2, rx, pd, fun σ2 s2 => ⟨S', δ1, s2, ?_⟩⟩
      have again : ∀ {S3 : Addr → Prop} {σ3 : Sg} {H3 : Hp} {δ2 : DSt}, Fin X.K e0.M e0.S e0.H E D S' H' (loopF put F (ds.drop (i + 1)) δ2) → StS X.K e0.M e0.S e0.H S3 σ3 H3 δ2 → Ev S' H2 S3 H3 →
          ∃ m', m' < ds.length - i ∧ ∃ S2 δ2, StS X.K e0.M e0.S e0.H S2 σ3 H3 δ2 ∧ Ev S H1 S2 H3 ∧ m' = ds.length - (i + 1) ∧ i + 1 ≤ ds.length ∧ Fin X.K e0.M e0.S e0.H E D S2 H3 (loopF put F (ds.drop (i + 1)) δ2) :=
        fun {S3 σ3 H3 δ2} z s3 e3 => ⟨ds.length - (i + 1), by omega, S3, δ2, s3, ev.trans ((Ev.same e2).trans e3), rfl, hlt, z.ev ((Ev.same e2).trans e3)⟩
      cases bd : F δ1 with
      | nx δ2 => rw [bd] at q'; exact fun S3 σ3 H3 s3 e3 => again q' s3 e3
      | ct δ2 => rw [bd] at q'; exact fun S3 σ3 H3 s3 e3 => again q' s3 e3
      | bk δ2 => rw [bd] at q'; exact fun S3 σ3 H3 s3 e3 => q' S3 σ3 H3 s3 ((Ev.same e2).trans e3)
      | rt d δ2 => rw [bd] at q'; exact q'
      | exc n xs => rw [bd] at q'; exact q'
      | bad => rw [bd] at q'; exact q'
  · have e : i = ds.length := by omega
    subst e
    rw [List.drop_length] at q'
    exact .inl ⟨stop (Nat.le_refl _), q' S' σ' H' s' .refl⟩
def whileF (c : FB) (body : FS) : Nat → DSt → O
  | 0, _ => .bad
  | n + 1, δ => O.on (c δ) fun b => match b with
    | false => .nx δ
    | true => match body δ with
      | .nx δ2 => whileF c body n δ2
      | .ct δ2 => whileF c body n δ2
      | .bk δ2 => .nx δ2
      | .rt d δ2 => .rt d δ2
      | .exc n xs => .exc n xs
      | .bad => .bad
theorem ds_while {t : FB} {body : List Stmt} (n : Nat) (hp : PassesOwn (model X.prog X.w) X.A X.env X.xe) (hc : DB X (fun _ => E) c t) (hb : DSts X e0 E body F) : DSt1 X e0 E (.While c body [] pos) (whileF t F n) := by
  refine PS.imp (ps_while hp hc hb) fun D σ H hq => ?_
  obtain ⟨S, δ, s, q⟩ := hq
  refine ⟨fun m σ' H' => ∃ S' δ', StS X.K e0.M e0.S e0.H S' σ' H' δ' ∧ Ev S H S' H' ∧ Fin X.K e0.M e0.S e0.H E D S' H' (whileF t F m δ'), ⟨n, S, δ, s, .refl, q⟩, ?_⟩
  rintro m σ' H' ⟨S', δ', s', ev, q'⟩
  cases m with
  | zero => exact q'.elim
  | succ m =>
    unfold whileF at q'
    refine ⟨S', δ', s'.st, Fin.on s' q' fun b q2 H2 e2 => ?_⟩
    cases b with
    | false => exact q2 S' σ' H2 (s'.mono e2) (.same e2)
    | true =>
      rw [if_pos rfl]
      refine ⟨fun σ3 H3 => ∃ m', m' < m + 1 ∧ ∃ S3 δ3, StS X.K e0.M e0.S e0.H S3 σ3 H3 δ3 ∧ Ev S H S3 H3 ∧ Fin X.K e0.M e0.S e0.H E D S3 H3 (whileF t F m' δ3), fun _ _ z => z, S', δ', s'.mono e2, ?_⟩
      have again : ∀ {S3 : Addr → Prop} {σ3 : Sg} {H3 : Hp} {δ2 : DSt}, Fin X.K e0.M e0.S e0.H E D S' H' (whileF t F m δ2) → StS X.K e0.M e0.S e0.H S3 σ3 H3 δ2 → Ev S' H2 S3 H3 →
          ∃ m', m' < m + 1 ∧ ∃ S3 δ3, StS X.K e0.M e0.S e0.H S3 σ3 H3 δ3 ∧ Ev S H S3 H3 ∧ Fin X.K e0.M e0.S e0.H E D S3 H3 (whileF t F m' δ3) := fun {S3 σ3 H3 δ2} z s3 e3 => ⟨m, Nat.lt_succ_self _, S3, δ2, s3, ev.trans ((Ev.same e2).trans e3), z.ev ((Ev.same e2).trans e3)⟩
      cases bd : F δ' with
      | nx δ2 => simp only [bd] at q2; exact fun S3 σ3 H3 s3 e3 => again q2 s3 e3
      | ct δ2 => simp only [bd] at q2; exact fun S3 σ3 H3 s3 e3 => again q2 s3 e3
      | bk δ2 => simp only [bd] at q2; exact fun S3 σ3 H3 s3 e3 => q2 S3 σ3 H3 s3 ((Ev.same e2).trans e3)
      | rt d δ2 => simp only [bd] at q2; exact q2
      | exc n xs => simp only [bd] at q2; exact q2
      | bad => simp only [bd] at q2; exact q2.elim
def DM (X : Cx) (e0 : Ent) (E : XK) (cs : List MatchCase) (G : Str → FS) : Prop :=
  ∀ (pins : List (Addr × Obj)) (s : Shared) (σ : Sg) (H : Hp) (D : Ends) (z : Str) (t : Tok) (first : Bool), Inv X pins σ H s → tS X.K e0.M e0.S e0.H E (G z) D σ H → wpAny (model X.prog X.w) X.A (matchCases cs X.env (.str z t) first) (SP X pins D) X.xe s
theorem dm_val {w : Str} {j : Nat} {p1 p2 : Pos} {body : List Stmt} {cs : List MatchCase} {G : Str → FS} (hb : DSts X e0 E body F) (h : DM X e0 E cs G) : DM X e0 E (⟨.MatchValue (.Constant (.str w) j p1) p2, none, body⟩ :: cs) (fun z => if z = w then F else G z) := fun pins s σ H D z t first I q => by
  refine wpAny_matchCases_cons (wpAny_matchPattern_Value (Calls.Constant_str (eq_str (wpAny_truthy_bool ?_))))
  have I' := I.tok (s.toks + 1)
  by_cases e : z = w
  · subst e
    simp only [beq_self_eq_true, if_true] at q ⊢
    exact wpAny_assignInOrder_none (hb.run pins _ σ H D I' q)
  · have e' : (z == w) = false := beq_eq_false_iff_ne.mpr e
    simp only [e', if_neg e] at q ⊢
    exact h pins _ σ H D z t false I' q
theorem dm_any {p : Pos} {body : List Stmt} {cs : List MatchCase} (hb : DSts X e0 E body F) : DM X e0 E (⟨.MatchAs none none p, none, body⟩ :: cs) (fun _ => F) := fun pins s σ H D z t first I q =>
  wpAny_matchCases_cons (wpAny_matchPattern_Capture (wpAny_assignInOrder_none (hb.run pins s σ H D I q)))
def DOr (X : Cx) (ps : List Pattern) (ws : List Str) : Prop :=
  ∀ (pins : List (Addr × Obj)) (s : Shared) (σ : Sg) (H : Hp) (z : Str) (t : Tok) (Q : Option (List (Str × Value)) → Shared → Prop), Inv X pins σ H s → (∀ s', Inv X pins σ H s' → Q (if z ∈ ws then some [] else none) s') →
    wpAny (model X.prog X.w) X.A (matchFirst ps X.env (.str z t)) Q X.xe s
theorem dor_nil : DOr X [] [] := fun pins s σ H z t Q I q => wpAny_matchFirst_nil (by simpa using q s I)
theorem dor_cons {w : Str} {j : Nat} {p1 p2 : Pos} {ps : List Pattern} {ws : List Str} (h : DOr X ps ws) : DOr X (.MatchValue (.Constant (.str w) j p1) p2 :: ps) (w :: ws) := fun pins s σ H z t Q I q => by
  refine wpAny_matchFirst_cons (wpAny_matchPattern_Value (Calls.Constant_str (eq_str (wpAny_truthy_bool ?_))))
  have I' := I.tok (s.toks + 1)
  by_cases e : z = w
  · subst e
    simp only [beq_self_eq_true, if_true]
    have := q _ I'
    simpa using this
  · have e' : (z == w) = false := beq_eq_false_iff_ne.mpr e
    simp only [e']
    refine h pins _ σ H z t Q I' fun s' I2 => ?_
    have := q s' I2
    simpa [e] using this
theorem dm_or {ps : List Pattern} {ws : List Str} {p : Pos} {body : List Stmt} {cs : List MatchCase} {G : Str → FS} (ho : DOr X ps ws) (hn : namesOfAll (ps.take 1) = [] := by rfl) (hb : DSts X e0 E body F) (h : DM X e0 E cs G) :
    DM X e0 E (⟨.MatchOr ps p, none, body⟩ :: cs) (fun z => if z ∈ ws then F else G z) := fun pins s σ H D z t first I q => by
  refine wpAny_matchCases_cons (wpAny_matchPattern_Or (ho pins s σ H z t _ I fun s' I' => ?_))
  by_cases e : z ∈ ws
  · simp only [e, if_true, hn, List.filterMap_nil, List.map_nil] at q ⊢
    exact wpAny_assignInOrder_none (hb.run pins _ σ H D I' q)
  · simp only [e, if_false] at q ⊢
    exact h pins _ σ H D z t false I' q
def fMatch (f : FE) (G : Str → FS) : FS := fun δ => O.on (f δ) fun d => match d with
  | .str z => G z δ
  | _ => .bad
theorem ds_match {cs : List MatchCase} {G : Str → FS} (h : DE X (fun _ => E) a f) (hm : DM X e0 E cs G) : DSt1 X e0 E (.Match a cs pos) (fMatch f G) := by
  refine ⟨fun pins s σ H D I hq => ?_⟩
  obtain ⟨S, δ, st, q⟩ := hq
  refine wpAny_Match (thn (h.run pins s σ H (fun v H1 => ∃ z, v = .str z ∧ tS X.K e0.M e0.S e0.H E (G z) D σ H1) I ⟨S, δ, st.st, Fin.on (f := fun d => match d with
    | .str z => G z δ
    | _ => .bad) st q fun d q2 v H1 e1 r => ?_⟩) fun v s1 ⟨x, H1, I1, r1, z, ex, q1⟩ => ?_)
  · cases r with
    | str z => exact ⟨z, rfl, S, δ, st.mono e1, q2.ev (.same e1)⟩
    | _ => exact q2.elim
  · subst ex
    obtain ⟨t, rfl⟩ := r1
    exact hm pins s1 σ H1 D z t true I1 q1
end
end DL

namespace DL
open PySem PySem.Spec PyProof.Rows L2

def spD (K : PySem.W.Frag) (n : Nat) (G : List D → R D) : Sp := fun vs H Q E => ∃ S ds, Dom K S H ∧ RepL K S H vs ds ∧ ds.length = n ∧ Res K S H E (G ds) fun d => ∀ v H', Same H H' → Rep K S H' v d → Q v H'
def FnG (P : Program) (w : World) (K : PySem.W.Frag) (mg : Str → Option Value) (base : Heap) (k : Nat) (f : Addr) (n : Nat) (G : List D → R D) : Prop := FnR P w K mg base (L2.CX P w) k f (spD K n G)
structure Bd (X : Cx) (E : Sg → XK) (k : Nat) : Prop where
  room : Room k X.A
  pass : PsA (L2.CX X.prog X.w) X E
  calm : X.calm = true
  own : PassesOwn (model X.prog X.w) X.A X.env X.xe
theorem Bd.blk {X : Cx} {Eσ : Sg → XK} {k : Nat} (b : Bd X Eσ k) {s : Shared} {H : Hp} {scope : Scope} {cenv : Env} {fp : List Addr} : Bd (X.blk s H scope cenv fp) (fun _ => E0) k := ⟨b.room, PsA.of passL, b.calm, PassesOwn.never⟩
theorem Bd.hu {X : Cx} {Eσ : Sg → XK} {k : Nat} (b : Bd X Eσ k) : X.A.units + 1 < cLine := hu_of b.room
theorem Bd.hu64 {X : Cx} {Eσ : Sg → XK} {k : Nat} (b : Bd X Eσ k) : X.A.units + 64 < cLine := b.room.units
section
variable {P : Program} {w : World} {K : PySem.W.Frag} {mg : Str → Option Value} {base : Heap}
theorem fng_zero {f : Addr} {n : Nat} {k : Nat} : FnG P w K mg base k f n (fun _ => .bad) := fun A outer s H us vs Q E hr e0 r h => by
  obtain ⟨S, ds, _, _, _, q⟩ := h
  exact q.elim
theorem FnG.mono {f : Addr} {n j k : Nat} {G : List D → R D} (F : FnG P w K mg base j f n G) (h : j ≤ k) : FnG P w K mg base k f n G := FnR.mono F h
def runD (m : Nat) (F : FS) (ds : List D) : R D := match F (ds.map DS.fz ++ List.replicate (m - ds.length) DS.un) with
  | .rt d _ => .ok d
  | .nx _ => .ok .non
  | .exc n xs => .exc n xs
  | _ => .bad
theorem start_st {S : Addr → Prop} {H : Hp} {N : List Str} {vs : List V} {ds : List D} (r : RepL K S H vs ds) (dm : Dom K S H) (hl : ds.length ≤ N.length) :
    StS K NoM S H S (L2.start N vs) H (ds.map DS.fz ++ List.replicate (N.length - ds.length) DS.un) := by
  have l := r.length
  have no : ∀ (i : Nat) (t : DS), (ds.map DS.fz ++ List.replicate (N.length - ds.length) DS.un)[i]? = some t → t.mutb = true → False := fun i t h z => by
    have m := List.mem_of_getElem? h
    rcases List.mem_append.mp m with m | m
    · obtain ⟨d, _, e⟩ := List.mem_map.mp m
      subst e
      cases z
    · rw [List.eq_of_mem_replicate m] at z
      cases z
  refine ⟨⟨?_, fun i s h => ?_, fun i j a t u h1 _ m _ _ _ => (no i t h1 m).elim, dm⟩, KeepM.refl, fun _ z => z, dm, fun _ z => z.elim, fun i a t h1 m _ => (no i t h1 m).elim⟩
  · unfold L2.start
    rw [List.length_append, List.length_append, List.length_map, List.length_map, List.length_replicate, List.length_replicate, l]
  · by_cases hi : i < ds.length
    · rw [List.getElem?_append_left (by simpa using hi), List.getElem?_map] at h
      cases e : ds[i]? with
      | none => rw [e] at h; cases h
      | some d =>
        rw [e] at h
        cases h
        obtain ⟨v, h1, h2⟩ := r.get e
        refine ⟨some v, ?_, v, rfl, h2⟩
        unfold L2.start
        rw [List.getElem?_append_left (by rw [List.length_map, l]; exact hi), List.getElem?_map, h1]
        rfl
    · rw [List.getElem?_append_right (by simpa using hi)] at h
      rw [List.getElem?_replicate] at h
      split at h
      · rename_i hlt
        cases h
        refine ⟨none, ?_, trivial⟩
        unfold L2.start
        rw [List.length_map] at hlt
        rw [List.getElem?_append_right (by rw [List.length_map, l]; omega), List.getElem?_replicate, List.length_map, l, if_pos hlt]
      · cases h
theorem fnok_of {x qual : Str} {params : Arguments} {body : List Stmt} {scope : Scope} {dvs : List V} {kws : List (Str × V)} {f : Addr} {fd : FuncData} {N ps : List Str} {k : Nat} {F : FS} (Fd : FunD K x qual params body scope dvs kws f fd) (Sc : FnScope N ps scope)
    (hbody : ∀ (cdv : Value) (A : Around) (outer : List Env) (s : Shared) (e0 : Ent) (H : Hp) (E : XK), Bd (cxOf (L2.CX P w) P w K mg base N qual scope f cdv A outer s H E) (fun _ => E) k →
      Takes (cxOf (L2.CX P w) P w K mg base N qual scope f cdv A outer s H E) (fun cls d _ H => E cls d H) → DSts (cxOf (L2.CX P w) P w K mg base N qual scope f cdv A outer s H E) e0 E body F) : FnOk P w K mg base (L2.CX P w) (k + 1) f fd ps (spD K ps.length (runD N.length F)) := by
  have hpl : ps.length ≤ N.length := by have := congrArg List.length Sc.pre; rw [List.length_take] at this; omega
  refine FunD.ok Fd Sc (fun vs H Q E h => ?_) (fun cdv A outer s H vs Q E hr h => ?_)
  · obtain ⟨S, ds, _, r, hl, _⟩ := h
    rw [r.length, hl]
  · obtain ⟨S, ds, dm, r, hl, q⟩ := h
    have tk : Takes (cxOf (L2.CX P w) P w K mg base N qual scope f cdv A outer s H E) (fun cls d _ H => E cls d H) := takes_of rfl rfl rfl rfl
    refine ⟨_, hbody cdv A outer s ⟨NoM, S, H⟩ H E ⟨hr, PsA.of (passes_call tk fun _ _ _ _ z => z), rfl, passes_of rfl⟩ tk, S, _, start_st r dm (by omega), ?_⟩
    unfold runD at q
    show Fin K NoM S H E _ S H (F _)
    cases e : F (ds.map DS.fz ++ List.replicate (N.length - ds.length) DS.un) with
    | rt d δ =>
      rw [e] at q
      exact fun S' σ' v H' s' r' => q v H' s'.same.all (r'.less s'.sub)
    | nx δ =>
      rw [e] at q
      exact fun S' σ' H' s' _ => q .non H' s'.same.all .non
    | exc n xs =>
      rw [e] at q
      exact fun cls dx H' k x => q cls dx H' k.all x
    | bk δ => rw [e] at q; exact q.elim
    | ct δ => rw [e] at q; exact q.elim
    | bad => rw [e] at q; exact q.elim
theorem fng_of {x qual : Str} {params : Arguments} {body : List Stmt} {scope : Scope} {dvs : List V} {kws : List (Str × V)} {f : Addr} {fd : FuncData} {N ps : List Str} {k : Nat} {F : FS} (Fd : FunD K x qual params body scope dvs kws f fd) (Sc : FnScope N ps scope)
    (hb : Binds K fd ps []) (hbody : ∀ (cdv : Value) (A : Around) (outer : List Env) (s : Shared) (e0 : Ent) (H : Hp) (E : XK), Bd (cxOf (L2.CX P w) P w K mg base N qual scope f cdv A outer s H E) (fun _ => E) k →
      Takes (cxOf (L2.CX P w) P w K mg base N qual scope f cdv A outer s H E) (fun cls d _ H => E cls d H) → DSts (cxOf (L2.CX P w) P w K mg base N qual scope f cdv A outer s H E) e0 E body F) : FnG P w K mg base (k + 1) f ps.length (runD N.length F) := by
  have G2 := (fnok_of (P := P) (w := w) (mg := mg) (base := base) Fd Sc hbody).raw hb (.nil : Vals [] [])
  exact FnR.imp G2 fun vs H Q E h => by rw [List.append_nil]; exact h
end
section
variable {X : Cx} {e0 : Ent} {E : XK} {Eσ : Sg → XK} {k : Nat} {pos p : Pos} {x : Str} {st : Stmt} {rest : List Stmt} {F : FS} {a b c tg : Expr} {f g : FE} {es : List Expr} {fl : FL}
theorem sp_of {n : Nat} {G : List D → R D} {σ : Sg} {H : Hp} {Q : VK} (ha : DA X Eσ es fl) (hn : es.length = n) (h : tD X.K Eσ (fCall G fl) σ H Q) : tDL X.K Eσ fl σ H fun vs H1 => spD X.K n G vs H1 Q (Eσ σ) := by
  obtain ⟨S, δ, st, q⟩ := h
  refine ⟨S, δ, st, ?_⟩
  have q' := Res.on q
  cases r : fl δ with
  | bad => rw [r] at q'; exact q'.elim
  | exc n xs => rw [r] at q'; exact q'
  | ok ds =>
    rw [r] at q'
    exact fun vs H1 e1 r1 => ⟨S, ds, (st.mono e1).here, r1, (ha.len δ ds r).trans hn, (Res.mono e1 (show Res X.K S H (Eσ σ) (G ds) (fun d => ∀ v H', Same H H' → Rep X.K S H' v d → Q v H') from q')).imp fun d q2 v H2 e2 r2 => q2 v H2 (e1.trans e2) r2⟩
theorem de_call {fa : Addr} {n : Nat} {G : List D → R D} (Fn : FnG X.prog X.w X.K X.mg X.base k fa n G) (B : Bd X Eσ k) (hg : Gl X x) (hm : X.mg x = some (.ref fa)) (hk : PySem.W.keepIn X.K (.ref fa) = true) (ha : DA X Eσ (a :: es) fl)
    (hn : (a :: es).length = n := by rfl) (hdb : (x == ("__debug__" : Str)) = false := by decide) (he : starEach (a :: es) X.env = (false, eval a X.env) :: starEach es X.env := by rfl) (hpl : (backTo pos (starEach es X.env)).any (·.1) = false := by rfl) :
    DE X Eσ (.Call (.Name x p) (a :: es) [] pos) (fCall G fl) := by
  refine ⟨fun pins s σ H Q I h => ?_⟩
  refine wpAny_Call_Name_kw (ld_glob I hg hm ?_ hdb)
  refine PySem.W.callWith_K (h₀ := X.base) I.ok.mod.kin hk (thn (ha.pa.run pos pins s σ H _ I (sp_of ha hn h)) fun us s1 ⟨vs, H1, I1, r, q⟩ => ⟨I1.kIn, ?_⟩) he hpl
  exact wpAny_call (run_at Fn B.room (B.pass σ) I1 r q)
abbrev FO := DSt → R (Option Int)
def tDO (K : PySem.W.Frag) (E : Sg → XK) (f : FO) : TO := fun σ H Q => ∃ S δ, StE K S σ H δ ∧ Res K S H (E σ) (f δ) fun o => ∀ H', Same H H' → Q o H'
def DO (X : Cx) (E : Sg → XK) (e : Option Expr) (f : FO) : Prop := PO X e (tDO X.K E f)
theorem PO.imp {X : Cx} {e : Option Expr} {t t' : TO} (h : PO X e t) (k : ∀ σ H Q, t' σ H Q → t σ H Q) : PO X e t' := ⟨fun pins s σ H Q I q => h.run pins s σ H Q I (k σ H Q q)⟩
def fNo : FO := fun _ => .ok none
def fSome (f : FE) : FO := fun δ => (f δ).bind fun d => match d with
  | .int i => .ok (some i)
  | _ => .bad
theorem do_no : DO X Eσ none fNo := by
  refine PO.imp po_none fun σ H Q h => ?_
  obtain ⟨S, δ, st, q⟩ := h
  exact q H (Same.refl _)
theorem do_some (h : DE X Eσ a f) : DO X Eσ (some a) (fSome f) := by
  refine PO.imp (po_some h) fun σ H Q h => ?_
  obtain ⟨S, δ, st, q⟩ := h
  refine ⟨S, δ, st, (Res.on q).imp fun d q1 v H1 e1 r1 => ?_⟩
  cases r1 with
  | int i => exact ⟨i, rfl, q1 H1 e1⟩
  | _ => exact q1.elim
def dCut : D → Option Int → Option Int → Option D
  | .lst xs, lo, hi => some (.lst (cut xs lo hi))
  | .tup xs, lo, hi => some (.tup (cut xs lo hi))
  | .str z, lo, hi => if okLe z.length = true then some (.str (cutS z lo hi)) else none
  | _, _, _ => none
def fSl (f : FE) (l h : FO) : FE := fun δ => (f δ).bind fun d => (l δ).bind fun lo => (h δ).bind fun hi => R.of (dCut d lo hi)
theorem cutV_all {vs : List V} {lo hi : Option Int} (h : HT.sIx vs.length 0 lo = 0 ∧ HT.sIx vs.length vs.length hi = vs.length) : cutV vs lo hi = vs := by
  unfold cutV
  rw [h.1, h.2, List.drop_zero, Nat.sub_zero, List.take_length]
theorem sl_all : SlR X fun x lo hi H Q => ∃ S d z, Dom X.K S H ∧ Rep X.K S H x d ∧ dCut d lo hi = some z ∧ Giv X.K S H z Q := by
  intro pins s σ H x v vl vu lo hi sl Q I rx hs pl pu q
  obtain ⟨S, d, z, dm, r, hz, q⟩ := q
  cases d with
  | lst ds =>
    simp only [dCut, Option.some.injEq] at hz
    subst hz
    obtain ⟨b, xs, e1, e2, e3⟩ := r.lstH
    exact sl_list pins s σ H x v vl vu lo hi sl Q I rx hs pl pu ⟨b, xs, e1, SqL.of e2, q.lst dm (e3.cut lo hi)⟩
  | tup ds =>
    simp only [dCut, Option.some.injEq] at hz
    subst hz
    obtain ⟨b, xs, e1, e2, e3⟩ := r.seqT
    refine sl_tupA pins s σ H x v vl vu lo hi sl Q I rx hs pl pu ⟨b, xs, e1, e2, fun hw => ?_, fun _ => q.tup dm (e3.cut lo hi)⟩
    have e4 := e3.cut lo hi
    rw [cutV_all hw] at e4
    have e5 : cut ds lo hi = ds := by
      unfold cut
      rw [← e3.length, hw.1, hw.2, List.drop_zero, Nat.sub_zero, e3.length, List.take_length]
    rw [e5] at q
    rw [← e1]
    exact q.here r
  | str y =>
    simp only [dCut, Option.ite_none_right_eq_some, Option.some.injEq] at hz
    obtain ⟨h1, rfl⟩ := hz
    exact sl_str pins s σ H x v vl vu lo hi sl Q I rx hs pl pu ⟨y, r.strE, okLe_of h1, q.here (.str _)⟩
  | _ => simp [dCut] at hz
theorem de_slice {lo hi : Option Expr} {p2 : Pos} {l h : FO} (ha : DE X Eσ a f) (hl : DO X Eσ lo l) (hh : DO X Eσ hi h) : DE X Eσ (.Subscript a (.Slice lo hi none p2) pos) (fSl f l h) := by
  refine PE.imp (pe_slice sl_all ha hl hh) fun σ H Q hq => ?_
  obtain ⟨S, δ, st, q⟩ := hq
  refine ⟨S, δ, st, (Res.on q).imp fun d q1 v H1 e1 r1 => ?_⟩
  refine ⟨S, δ, st.mono e1, ((Res.on q1).mono e1).imp fun lo' q2 H2 e2 => ?_⟩
  refine ⟨S, δ, (st.mono e1).mono e2, ((Res.on q2).mono (e1.trans e2)).imp fun hi' q3 H3 e3 => ?_⟩
  obtain ⟨z, hz, q4⟩ := Res.of q3
  have e := e1.trans (e2.trans e3)
  exact ⟨S, d, z, (st.mono e).here, (r1.mono e2).mono e3, hz, fun w H4 e4 r4 => q4 w H4 (e.trans e4) r4⟩
def fSlOw (i : Nat) (l h : FO) : FE := fun δ => (fOwn i δ).bind fun ds => (l δ).bind fun lo => (h δ).bind fun hi => .ok (.lst (cut ds lo hi))
def fLenOw (i : Nat) : FE := fun δ => (fOwn i δ).bind fun ds => .ok (.int ds.length)

def fExt (i : Nat) (f : FE) : FS := fun δ => O.on (fOwn i δ) fun ds => O.on (f δ) fun d => match d with
  | .lst es => if okLe (ds.length + es.length) = true then .nx (δ.set i (.ow (ds ++ es))) else .bad
  | _ => .bad
theorem ds_ext {i : Nat} {call : Expr} (hb : ∀ t, PA X [a] t → PE X call (tBM X.K "list" rExtend (tVar i) t)) (h : DE X (fun _ => E) a f) (hst : starEach (a :: []) X.env = (false, eval a X.env) :: starEach [] X.env := by rfl)
    (hs : swapsWith call none pos.line X.env = pure false := by rfl) : DSt1 X e0 E (.Expr call pos) (fExt i f) := by
  refine PS.imp (ps_expr (hb _ (pa_cons h pa_nil hst)) hs) fun D σ H hq => ?_
  obtain ⟨S, δ, s, q⟩ := hq
  unfold fExt at q
  cases r : fOwn i δ with
  | bad => rw [r] at q; exact q.elim
  | exc n xs => exact (fOwn_ne r).elim
  | ok ds =>
    rw [r] at q
    have hd := fOwn_at r
    obtain ⟨o, w1, b, xs, w2, w3, w4, w5⟩ := s.st.slot i _ hd
    subst w2
    refine ⟨.ref b, w1, .inl ⟨rfl, _, SqL.of w3⟩, S, δ, s.st, Fin.on (f := fun d => match d with
      | .lst es => if okLe (ds.length + es.length) = true then .nx (δ.set i (.ow (ds ++ es))) else .bad
      | _ => .bad) s q fun d q v H' e' r1 => ?_⟩
    cases d with
    | lst es =>
      by_cases c : okLe (ds.length + es.length) = true
      · simp only [c, if_true] at q
        obtain ⟨b2, ys, e1, e2, e3⟩ := r1.lstH
        subst e1
        refine ⟨b, b2, xs, ys, rfl, rfl, e'.at _ _ w3, e2, by rw [w5.length, e3.length]; exact okLe_of c, ?_⟩
        obtain ⟨s2, ev⟩ := (s.mono e').chg (xs := xs) hd w1 (ys := xs ++ ys) (es := ds ++ es) ((w5.mono e').append e3)
        exact q S σ _ s2 ((Ev.same e').trans ev)
      · simp only [c, if_false] at q
        exact q.elim
    | _ => exact q.elim
def fPop (j i : Nat) : FS := fun δ => O.on (fOwn i δ) fun ds => match ds.getLast? with
  | some d => .nx ((δ.set i (.ow ds.dropLast)).set j (.fz d))
  | none => .bad
def fPut (i : Nat) (fk fe : FE) : FS := fun δ => O.on (fe δ) fun d => O.on (fOwn i δ) fun ds => O.on (fk δ) fun k => match k with
  | .int n => match L2.ixN ds.length n with
    | some j => .nx (δ.set i (.ow (ds.set j d)))
    | none => .bad
  | _ => .bad
end
end DL

namespace DL
open PySem PySem.Spec PyProof.Rows L2

def D.tyN : D → Option String
  | .non => some "NoneType"
  | .bl _ => some "bool"
  | .int _ => some "int"
  | .str _ => some "str"
  | .lst _ => some "list"
  | .scr _ => some "list"
  | .tup _ => some "tuple"
  | _ => none
inductive IsTy : String → Prop
  | int : IsTy "int"
  | bool : IsTy "bool"
  | str : IsTy "str"
  | list : IsTy "list"
  | tuple : IsTy "tuple"
def isT (t T : String) : Bool := decide (t = T) || (decide (t = "bool") && decide (T = "int"))
def dIsi (T : String) (d : D) : Option D := d.tyN.map fun t => .bl (isT t T)
theorem kitB_is {T : String} (h : IsTy T) : ∀ t, (t = "NoneType" ∨ t = "bool" ∨ t = "int" ∨ t = "str" ∨ t = "list" ∨ t = "tuple") → kitB t T = some (isT t T) := by
  intro t ht
  cases h <;> (rcases ht with rfl | rfl | rfl | rfl | rfl | rfl <;> decide +kernel)
theorem Rep.tyX {K : PySem.W.Frag} {S : Addr → Prop} {H : Hp} {v : V} {d : D} {t : String} (r : Rep K S H v d) (h : d.tyN = some t) : TyX K H v (.type t) ∧ (t = "NoneType" ∨ t = "bool" ∨ t = "int" ∨ t = "str" ∨ t = "list" ∨ t = "tuple") := by
  cases r with
  | non => cases h; exact ⟨.base .non, by simp⟩
  | bl b => cases h; exact ⟨.base (.bl b), by simp⟩
  | int i => cases h; exact ⟨.base (.int i), by simp⟩
  | str x => cases h; exact ⟨.base (.str x), by simp⟩
  | lst e n r => cases h; exact ⟨.base (.lst e), by simp⟩
  | tup e n r => cases h; exact ⟨.base (.tup e), by simp⟩
  | ltp e r => cases h; obtain ⟨o, its, n, e, c, _⟩ := e; exact ⟨.kTuple e c, by simp⟩
  | scr e n r => cases h; exact ⟨.base (.frz e), by simp⟩
  | sco e n r => cases h; exact ⟨.base (.lst e), by simp⟩
  | scl e r => cases h; obtain ⟨o, its, n, e, c, _⟩ := e; exact ⟨.kList e c, by simp⟩
  | _ => cases h
section
variable {X : Cx} {e0 : Ent} {E : XK} {Eσ : Sg → XK} {k : Nat} {pos p : Pos} {x : Str} {st : Stmt} {rest : List Stmt} {F : FS} {a b c tg : Expr} {f g : FE} {es : List Expr} {fl : FL}
theorem de_isi {T : String} {xT : Str} {p2 : Pos} (hT : IsTy T) (hg : Gl X "isinstance") (hm : X.mg "isinstance" = none) (hgT : Gl X xT) (hmT : X.mg xT = none) (hvT : bootBuiltins xT = some (.type T)) (ha : DE X Eσ a f)
    (hn : xT ≠ "__name__" := by decide) (hd : (xT == ("__debug__" : Str)) = false := by decide)
    (hs2 : starEach [.Name xT p2] X.env = (false, eval (.Name xT p2) X.env) :: starEach [] X.env := by rfl) (hs1 : starEach [a, .Name xT p2] X.env = (false, eval a X.env) :: starEach [.Name xT p2] X.env := by rfl)
    (hpl : (backTo pos (starEach [.Name xT p2] X.env)).any (·.1) = false := by rfl) : DE X Eσ (.Call (.Name "isinstance" p) [a, .Name xT p2] [] pos) (fU (dIsi T) f) := by
  refine PE.imp (pe_callB call_isi hg hm PyProof.Rows.boot_isinstance (pa_cons ha (pa_cons (pe_bltn (v := .ty T) hgT hmT hvT rfl hn hd) pa_nil hs2) hs1) (by decide) (by decide) hs1 hpl) fun σ H Q h => ?_
  obtain ⟨S, δ, st, q⟩ := h
  refine ⟨S, δ, st, (Res.on q).imp fun d q1 v H1 e1 r1 => ?_⟩
  obtain ⟨z, hz, q2⟩ := Res.of q1
  obtain ⟨t, ht, ez⟩ := Option.map_eq_some_iff.mp hz
  subst ez
  obtain ⟨w1, w2⟩ := r1.tyX ht
  exact ⟨v, .ty T, .type t, .type T, isT t T, rfl, .ty T, w1, kit_ty (kitB_is hT t w2), q2 _ H1 e1 (.bl _)⟩
def fInOw (neg : Bool) (f : FE) (i : Nat) : FE := fun δ => (f δ).bind fun d => (fOwn i δ).bind fun ds => if (d.flat && ds.all D.flat) = true then .ok (.bl (if neg then !inB d ds else inB d ds)) else .bad
theorem inOw_of {neg : Bool} {i : Nat} {σ : Sg} {H : Hp} {Q : VK} (hq : tD X.K Eσ (fInOw neg f i) σ H Q) : tOp (rIn X.K neg) (tD X.K Eσ f) (tVar i) σ H Q := by
  obtain ⟨S, δ, st, q⟩ := hq
  refine ⟨S, δ, st, (Res.on q).imp fun d q1 v H1 e1 r1 => ?_⟩
  cases r : fOwn i δ with
  | bad => rw [r] at q1; exact q1.elim
  | exc n xs => exact (fOwn_ne r).elim
  | ok ds =>
    rw [r] at q1
    obtain ⟨o, w1, b, xs, w2, w3, w4, w5⟩ := st.slot i _ (fOwn_at r)
    subst w2
    have q2 : Res X.K S H (Eσ σ) (if (d.flat && ds.all D.flat) = true then R.ok (D.bl (if neg then !inB d ds else inB d ds)) else .bad) fun d => ∀ v H', Same H H' → Rep X.K S H' v d → Q v H' := q1
    by_cases c : (d.flat && ds.all D.flat) = true
    · rw [if_pos c] at q2
      obtain ⟨c1, c2⟩ := Bool.and_eq_true_iff.mp c
      have w6 := w5.mono e1
      refine ⟨_, w1, b, xs, rfl, .inl (SqL.of (e1.at _ _ w3)), r1.flatV c1, w6.flatV c2, ?_⟩
      rw [RepL.inV r1 c1 w6 c2]
      exact q2 _ H1 e1 (.bl _)
    · rw [if_neg c] at q2
      exact q2.elim
theorem test_bl {f : FE} {σ : Sg} {H : Hp} {Q : Bool → Hp → Prop} (hq : tDB X.K Eσ (fTest f) σ H Q) : tD X.K Eσ f σ H fun x H' => ∃ k, x = .bl k ∧ Q k H' := by
  obtain ⟨S, δ, st, q⟩ := hq
  refine ⟨S, δ, st, (Res.on q).imp fun d q1 v H1 e1 r1 => ?_⟩
  cases r1 with
  | bl k => exact ⟨k, rfl, q1 H1 e1⟩
  | _ => exact q1.elim
theorem db_inOwG {op : CmpOp} {neg : Bool} {p1 : Pos} (i : Nat) (h1 : OpR X (compareOp op) (rIn X.K neg)) (ha : DE X Eσ a f) (hm : behindInMarks op (.Name x p1) = false) (hN : X.N[i]? = some x) (hv : Vis X.env.scope x)
    (hd : (x == ("__debug__" : Str)) = false) (hcd : (x == ("__classdict__" : Str)) = false) : DB X Eσ (.Compare a [op] [.Name x p1] pos) (fTest (fInOw neg f i)) :=
  PT.imp (pt_cmpR h1 ha (pe_var hN hv hd hcd) hm) fun σ H Q hq => inOw_of (test_bl hq)
theorem isN_of {f : FE} {σ : Sg} {H : Hp} {Q : VK} (h : tD X.K Eσ (fU dIsN f) σ H Q) : tIsN (tD X.K Eσ f) σ H Q := by
  obtain ⟨S, δ, st, q⟩ := h
  refine ⟨S, δ, st, (Res.on q).imp fun d q1 v H1 e1 r1 => ?_⟩
  have q2 : Giv X.K S H (.bl d.isNon) Q := q1
  show Q (.bl (decide (v = .non))) H1
  rw [r1.non_iff]
  exact q2 _ H1 e1 (.bl _)
theorem notN_of {f : FE} {σ : Sg} {H : Hp} {Q : VK} (h : tD X.K Eσ (fU dNotN f) σ H Q) : tNotN (tD X.K Eσ f) σ H Q := by
  obtain ⟨S, δ, st, q⟩ := h
  refine ⟨S, δ, st, (Res.on q).imp fun d q1 v H1 e1 r1 => ?_⟩
  have q2 : Giv X.K S H (.bl (!d.isNon)) Q := q1
  show Q (.bl (!decide (v = .non))) H1
  rw [r1.non_iff]
  exact q2 _ H1 e1 (.bl _)
theorem db_isN {p2 : Pos} {j : Nat} (h : DE X Eσ a f) : DB X Eσ (.Compare a [.Is] [.Constant .none j p2] pos) (fTest (fU dIsN f)) := PT.imp (pt_cmp (pc_isN h)) fun σ H Q hq => isN_of (test_bl hq)
theorem db_notN {p2 : Pos} {j : Nat} (h : DE X Eσ a f) : DB X Eσ (.Compare a [.IsNot] [.Constant .none j p2] pos) (fTest (fU dNotN f)) := PT.imp (pt_cmp (pc_notN h)) fun σ H Q hq => notN_of (test_bl hq)
theorem db_ninOw {p1 : Pos} (i : Nat) (ha : DE X Eσ a f) (hN : X.N[i]? = some x := by rfl) (hv : Vis X.env.scope x := by first | exact Or.inl rfl | exact Or.inr (Or.inl rfl) | exact Or.inr (Or.inr rfl)) (hm : behindInMarks .NotIn (.Name x p1) = false := by rfl)
    (hd : (x == ("__debug__" : Str)) = false := by decide) (hcd : (x == ("__classdict__" : Str)) = false := by decide) : DB X Eσ (.Compare a [.NotIn] [.Name x p1] pos) (fTest (fInOw true f i)) := db_inOwG i op_notIn_seq ha hm hN hv hd hcd
def fIxOw (i : Nat) (f : FE) : FE := fun δ => (fOwn i δ).bind fun ds => (f δ).bind fun d => R.of (dIx (.lst ds) d)
def starD (n m : Nat) (F : FS) (ds : List D) : R D := if (decide (n ≤ ds.length) && okLe ds.length) = true then runD m F (ds.take n ++ [.tup (ds.drop n)]) else .bad
def spV (K : PySem.W.Frag) (G : List D → R D) : Sp := fun vs H Q E => ∃ S ds, Dom K S H ∧ RepL K S H vs ds ∧ Res K S H E (G ds) fun d => ∀ v H', Same H H' → Rep K S H' v d → Q v H'
def FnV (P : Program) (w : World) (K : PySem.W.Frag) (mg : Str → Option Value) (base : Heap) (k : Nat) (f : Addr) (G : List D → R D) : Prop := FnR P w K mg base (L2.CX P w) k f (spV K G)
theorem FnV.mono {P : Program} {w : World} {K : PySem.W.Frag} {mg : Str → Option Value} {base : Heap} {f : Addr} {j k : Nat} {G : List D → R D} (F : FnV P w K mg base j f G) (h : j ≤ k) : FnV P w K mg base k f G := FnR.mono F h
theorem FnV.at {P : Program} {w : World} {K : PySem.W.Frag} {mg : Str → Option Value} {base : Heap} {f : Addr} {k : Nat} {G : List D → R D} (F : FnV P w K mg base k f G) (n : Nat) : FnG P w K mg base k f n G := FnR.imp F fun vs H Q E ⟨S, ds, dm, r, _, q⟩ => ⟨S, ds, dm, r, q⟩
end
end DL

namespace DL
open PySem PySem.Spec PyProof.Rows L2

def R.quiet {α : Type} (r : R α) : R α := match r with
  | .ok a => .ok a
  | _ => .bad
def lcF (i : Nat) (t : FB) (f : FE) (δ : DSt) : List D → List D → R (List D)
  | [], acc => .ok acc
  | d :: ds, acc => (t (δ.set i (.fz d))).quiet.bind fun b => match b with
    | true => (f (δ.set i (.fz d))).quiet.bind fun y => if okLt acc.length = true then lcF i t f δ ds (acc ++ [y]) else .bad
    | false => lcF i t f δ ds acc
def fLcL (fi : FL) (i : Nat) (t : FB) (f : FE) : FL := fun δ => (fi δ).bind fun ds => lcF i t f δ ds []
def fLc (fi : FL) (i : Nat) (t : FB) (f : FE) : FE := fun δ => (fLcL fi i t f δ).bind fun ds => .ok (.lst ds)
theorem quiet_on {α β : Type} {r : R α} {f : α → R β} {b : β} (h : r.quiet.bind f = .ok b) : ∃ a, r = .ok a ∧ f a = .ok b := by
  cases r with
  | ok a => exact ⟨a, rfl, h⟩
  | exc n xs => cases h
  | bad => cases h
theorem lcF_noexc {i : Nat} {t : FB} {f : FE} {δ : DSt} : ∀ (ds acc : List D) (n : Str) (xs : List D), lcF i t f δ ds acc ≠ .exc n xs
  | [], acc, n, xs => by unfold lcF; exact fun z => by cases z
  | d :: ds, acc, n, xs => by
    unfold lcF
    intro z
    cases q : t (δ.set i (.fz d)) with
    | bad => rw [q] at z; cases z
    | exc n xs => rw [q] at z; cases z
    | ok b =>
      rw [q] at z
      cases b with
      | false => exact lcF_noexc ds acc n xs z
      | true =>
        have z' : ((f (δ.set i (.fz d))).quiet.bind fun y => if okLt acc.length = true then lcF i t f δ ds (acc ++ [y]) else .bad) = .exc n xs := z
        cases q2 : f (δ.set i (.fz d)) with
        | bad => rw [q2] at z'; cases z'
        | exc n xs => rw [q2] at z'; cases z'
        | ok y =>
          rw [q2] at z'
          have z2 : (if okLt acc.length = true then lcF i t f δ ds (acc ++ [y]) else .bad) = .exc n xs := z'
          by_cases c : okLt acc.length = true
          · rw [if_pos c] at z2; exact lcF_noexc ds _ n xs z2
          · rw [if_neg c] at z2; cases z2
def tDT (K : PySem.W.Frag) (f : FB) : TT := tDB K (fun _ _ _ _ => False) f
def DTs (X : Cx) (ifs : List Expr) (f : FB) : Prop := PTs X ifs (tDB X.K E0s f)
def fYes : FB := fun _ => .ok true
theorem dts_nil {X : Cx} : DTs X [] fYes := by
  refine ⟨fun pins s σ H Q I h => ?_⟩
  obtain ⟨S, δ, st, q⟩ := h
  exact pts_nil.run pins s σ H Q I (q H (Same.refl _))
section
variable {X : Cx} {e0 : Ent} {E : XK} {Eσ : Sg → XK} {pos p : Pos} {x y : Str} {a b c tg elt iter : Expr} {f g : FE} {fi : FL} {t : FB} {ifs : List Expr} {scope : Scope} {own : List (Str × Nat)} {i : Nat}
theorem lc_read {σ : Sg} {H : Hp} {Q : VK} {S : Addr → Prop} {δ : DSt} (st : StE X.K S σ H δ) {ds : List D} {J : It} {H1 : Hp} (e1 : Same H H1) (io : ItOk X.K S H1 J ds) {res : List D} (hr : lcF i t f δ ds [] = .ok res)
    (hq : ∀ D H', H1 D = none → Same H H' → (∃ vs, H' D = some (.lst vs) ∧ ¬ S D ∧ RepL X.K (fun b => S b ∨ b = D) H' vs res) → StE X.K (fun b => S b ∨ b = D) σ H' δ → Q (.ref D) H') :
    ∀ D, H1 D = none → ∃ W : Nat → Nat → Hp → Prop, (∃ m, W 0 m (upd H1 D (.lst []))) ∧ ∀ k m H, W k m H →
      (J.stop k H ∧ Q (.ref D) H) ∨ (J.go k H ∧ ∃ Nx : Hp → Prop, (∀ H', Nx H' → ∃ m', m' < m ∧ W (k + 1) m' H') ∧ ∀ x H', J.yld k H x H' → gName i x (wipe σ [i]) H' fun σ2 H2 => wipe σ2 [i] = wipe σ [i] ∧ tDB X.K E0s t σ2 H2 fun b H3 =>
        if b = true then tD X.K E0s f σ2 H3 fun y H4 => ∃ acc, H4 D = some (.lst acc) ∧ acc.length < sizeLine ∧ Nx (upd H4 D (.lst (acc ++ [y]))) else Nx H3) := by
  intro D hD
  have hDH : H D = none := by
    cases q : H D with
    | none => rfl
    | some o => obtain ⟨_, this⟩ := e1.dom D o q; rw [hD] at this; cases this
  have nSD : ¬ S D := fun z => by obtain ⟨o, q, _⟩ := st.here.at_ D z; rw [hDH] at q; cases q
  -- what holds between the turns
  let Good : Nat → List DL.D → Hp → Prop := fun k acc H' => Same H H' ∧ Ev S H1 (fun b => S b ∨ b = D) H' ∧ (∃ vs, H' D = some (.lst vs) ∧ RepL X.K (fun b => S b ∨ b = D) H' vs acc) ∧ StE X.K (fun b => S b ∨ b = D) σ H' δ ∧ lcF i t f δ (ds.drop k) acc = .ok res
  have grow : ∀ H', Same H H' → (∃ o, H' D = some o ∧ Pl o) → StE X.K (fun b => S b ∨ b = D) σ H' δ := fun H' e hd => by
    have s1 := st.mono e
    refine ⟨s1.len, fun j u h => ?_, s1.sep, ⟨fun b z => ?_, s1.here.tabs⟩⟩
    · obtain ⟨o, h1, h2⟩ := st.slot j u h
      refine ⟨o, h1, ?_⟩
      have ev : Ev S H (fun b => S b ∨ b = D) H' := .new e hDH
      refine h2.move ev.keep ev.off fun b q m => ?_
      obtain ⟨b', u, q1, q2, q3⟩ := h2.addr m
      rw [q1] at q
      cases q
      exact ⟨fun u q nt => e.at _ _ q, .inl q3⟩
    · rcases z with z | z
      · exact s1.here.at_ b z
      · rw [z]; exact hd
  refine ⟨fun k m H' => m = ds.length - k ∧ k ≤ ds.length ∧ ∃ acc, Good k acc H', ⟨ds.length, rfl, Nat.zero_le _, [], ?_⟩, ?_⟩
  · have e2 : Same H (upd H1 D (.lst [])) := e1.trans (same_new hD _)
    exact ⟨e2, .new (same_new hD _) hD, ⟨[], upd_same, .nil⟩, grow _ e2 ⟨_, upd_same, ⟨fun ps z => (by cases z), fun ps z => (by cases z)⟩⟩, by rw [List.drop_zero]; exact hr⟩
  · rintro k m H' ⟨rfl, hk, acc, e2, ev, ⟨vs, hv, rv⟩, s2, hl⟩
    obtain ⟨go, stop⟩ := io _ H' ev s2.here k
    by_cases hlt : k < ds.length
    · obtain ⟨g1, g2⟩ := go hlt
      refine .inr ⟨g1, fun H3 => ∃ acc', Good (k + 1) acc' H3, fun H3 z => ⟨ds.length - (k + 1), by omega, rfl, hlt, z⟩, fun z H3 yz => ?_⟩
      obtain ⟨e3, d, hd, rz⟩ := g2 z H3 yz
      rw [List.drop_eq_getElem_cons hlt] at hl
      have ed : d = ds[k] := by
        rw [List.getElem?_eq_getElem hlt] at hd
        exact (Option.some.inj hd).symm
      subst ed
      unfold lcF at hl
      obtain ⟨bb, ht, hl2⟩ := quiet_on hl
      have es : wipe σ [i] = σ.set i none := rfl
      have s3 : StE X.K (fun b => S b ∨ b = D) ((wipe σ [i]).set i (some z)) H3 (δ.set i (.fz ds[k])) := by
        rw [es, List.set_set]
        exact (s2.mono e3).set i rz
      refine ⟨?_, _, _, s3, ?_⟩
      · show ((σ.set i none).set i (some z)).set i none = σ.set i none
        rw [List.set_set, List.set_set]
      rw [ht]
      intro H4 e4
      cases bb with
      | true =>
        rw [if_pos rfl]
        obtain ⟨yv, hf, hl3⟩ := quiet_on (show ((f (δ.set i (.fz ds[k]))).quiet.bind fun y => if okLt acc.length = true then lcF i t f δ (ds.drop (k + 1)) (acc ++ [y]) else .bad) = .ok res from hl2)
        refine ⟨_, _, s3.mono e4, ?_⟩
        rw [hf]
        intro w H5 e5 rw5
        by_cases c : okLt acc.length = true
        · rw [if_pos c] at hl3
          have e35 := e3.trans (e4.trans e5)
          have hv5 := e35.at _ _ hv
          have evU : Ev (fun b => S b ∨ b = D) H5 (fun b => S b ∨ b = D) (upd H5 D (.lst (vs ++ [w]))) := .upd hv5 (.inr rfl)
          have eH : Same H (upd H5 D (.lst (vs ++ [w]))) := (e2.trans e35).updN hDH hv5
          refine ⟨vs, hv5, by rw [rv.length]; exact okLt_of c, acc ++ [yv], eH, ev.trans ((Ev.same e35).trans evU), ⟨vs ++ [w], upd_same, (((rv.mono e35).append (.cons rw5 .nil)).ev evU)⟩, grow _ eH ⟨_, upd_same, ⟨fun ps z => (by cases z), fun ps z => (by cases z)⟩⟩, hl3⟩
        · rw [if_neg c] at hl3; cases hl3
      | false =>
        rw [if_neg Bool.false_ne_true]
        have e34 := e3.trans e4
        exact ⟨acc, e2.trans e34, ev.trans (Ev.same e34), ⟨vs, e34.at _ _ hv, rv.mono e34⟩, s2.mono e34, hl2⟩
    · have e : k = ds.length := by omega
      subst e
      rw [List.drop_length] at hl
      unfold lcF at hl
      cases hl
      exact .inl ⟨stop (Nat.le_refl _), hq D H' hD e2 ⟨vs, hv, nSD, rv⟩ s2⟩
theorem lc_tl {σ : Sg} {H : Hp} {Q : VK} {S : Addr → Prop} {δ : DSt} (st : StE X.K S σ H δ) (h : Res X.K S H (Eσ σ) (fLcL fi i t f δ) fun res => ∀ D H', Same H H' → H D = none → (∃ vs, H' D = some (.lst vs) ∧ ¬ S D ∧ RepL X.K (fun b => S b ∨ b = D) H' vs res) → StE X.K (fun b => S b ∨ b = D) σ H' δ → Q (.ref D) H') :
    tLc (tI X.K Eσ fi) (gName i) (tDB X.K E0s t) (tD X.K E0s f) [i] σ H Q := by
  refine ⟨S, δ, st, (Res.on (show Res X.K S H (Eσ σ) ((fi δ).bind fun ds => lcF i t f δ ds []) _ from h)).imp fun ds q J H1 e1 io => ?_⟩
  cases r : lcF i t f δ ds [] with
  | bad => rw [r] at q; exact q.elim
  | exc n xs => exact absurd r (lcF_noexc _ _ _ _)
  | ok res =>
    rw [r] at q
    exact lc_read st e1 io r fun D H' hD e' h3 s' => q D H' e' (by
      cases z : H D with
      | none => rfl
      | some o => obtain ⟨_, this⟩ := e1.dom D o z; rw [hD] at this; cases this) h3 s'
theorem de_lc (hc : X.calm = true) (hN : X.N.Nodup) (hi : DI X Eσ tg iter fi) (ok : BlkOk X.N X.env.scope scope own) (ho : own.map (·.2) = [i])
    (hg : ∀ (s : Shared) (H : Hp) (C : Addr) (cl : List (Str × Addr)) (fp : List Addr), PG (X.blk s H scope (compEnvC scope cl C X.env) fp) tg (gName i))
    (ht : ∀ (s : Shared) (H : Hp) (C : Addr) (cl : List (Str × Addr)) (fp : List Addr), DTs (X.blk s H scope (compEnvC scope cl C X.env) fp) ifs t)
    (he : ∀ (s : Shared) (H : Hp) (C : Addr) (cl : List (Str × Addr)) (fp : List Addr), DE (X.blk s H scope (compEnvC scope cl C X.env) fp) E0s elt f) (hs : ∀ x, foldedSetIterable iter X.env x = pure x := by intro _; rfl) :
    DE X Eσ (.ListComp elt [⟨tg, iter, ifs, 0⟩] scope pos) (fLc fi i t f) := by
  refine PE.imp (pe_lc (tt := tDB X.K E0s t) (te := tD X.K E0s f) hc hN hi ok hg ht he hs) fun σ H Q h => ?_
  obtain ⟨S, δ, st, q⟩ := h
  rw [ho]
  refine lc_tl st ((Res.on (show Res X.K S H (Eσ σ) ((fLcL fi i t f δ).bind fun ds => R.ok (D.lst ds)) _ from q)).imp fun res q2 D H' e' hD h3 s' => ?_)
  obtain ⟨vs, h1, h2, h3⟩ := h3
  have q3 : ∀ v H', Same H H' → Rep X.K S H' v (.lst res) → Q v H' := q2
  exact q3 _ H' e' (.lst h1 h2 (h3.less fun b z => .inl z))
end
end DL

namespace DL
open PySem PySem.Spec PyProof.Rows L2
def strsOf : List D → Option (List Str)
  | [] => some []
  | .str x :: ds => (strsOf ds).map (x :: ·)
  | _ :: _ => none
def joinOk (a : Str) (ys : List Str) : Bool := Nat.ble ((ys.map (·.length)).sum + ys.length * a.length) 16777216
def dJoin (a : Str) : D → Option D
  | .lst ds => match strsOf ds with
    | some ys => if joinOk a ys = true then some (.str (Str.join a ys)) else none
    | none => none
  | .tup ds => match strsOf ds with
    | some ys => if joinOk a ys = true then some (.str (Str.join a ys)) else none
    | none => none
  | _ => none
def rJoin (g : FE) (δ : DSt) : D → R D
  | .str a => (g δ).bind fun e => R.of (dJoin a e)
  | _ => .bad
def fJoin (f g : FE) : FE := fun δ => (f δ).bind (rJoin g δ)
theorem strsOf_map : ∀ ys : List Str, strsOf (ys.map .str) = some ys
  | [] => rfl
  | y :: ys => by
    show (strsOf (ys.map .str)).map (y :: ·) = _
    rw [strsOf_map ys]
    rfl
theorem repL_strs {K : PySem.W.Frag} {S : Addr → Prop} {H : Hp} : ∀ {ds : List D} {ys : List Str} {vs : List V}, strsOf ds = some ys → RepL K S H vs ds → vs = ys.map V.str
  | [], ys, vs, h, r => by cases h; cases r; rfl
  | d :: ds, ys, vs, h, r => by
    cases r with
    | cons r1 r2 =>
      cases d with
      | str x =>
        have h' : (strsOf ds).map (x :: ·) = some ys := h
        cases e : strsOf ds with
        | none => rw [e] at h'; cases h'
        | some zs =>
          rw [e] at h'
          cases h'
          rw [r1.strE, repL_strs e r2]
          rfl
      | _ => cases h
section
variable {X : Cx} {e0 : Ent} {E : XK} {Eσ : Sg → XK} {pos apos : Pos} {a b : Expr} {f g : FE}
theorem de_join (ha : DE X Eσ a f) (hb : DE X Eσ b g) (hs : starEach [b] X.env = [(false, eval b X.env)] := by rfl) (hbase : attributeBase a "join" X.env (eval a X.env) = eval a X.env := by rfl) (hline : (apos.endLine == pos.line) = true := by rfl) :
    DE X Eσ (.Call (.Attribute a "join" apos) [b] [] pos) (fJoin f g) := by
  refine PE.imp (pe_join ha hb hs hbase hline) fun σ H Q hq => ?_
  obtain ⟨S, δ, st, q⟩ := hq
  refine ⟨S, δ, st, (Res.on q).imp fun d q1 v H1 e1 r1 => ?_⟩
  cases d with
  | str x =>
    refine ⟨⟨x, r1.strE⟩, S, δ, st.mono e1, ((Res.on (show Res X.K S H (Eσ σ) ((g δ).bind fun e => R.of (dJoin x e)) _ from q1)).mono e1).imp fun e q2 u H2 e2 r2 => ?_⟩
    obtain ⟨z, hz, q3⟩ := Res.of q2
    have key : ∀ ds : List D, (match strsOf ds with | some ys => if joinOk x ys = true then some (D.str (Str.join x ys)) else none | none => none) = some z → ∃ ys, strsOf ds = some ys ∧ (ys.map (·.length)).sum + ys.length * x.length ≤ 16777216 ∧ z = .str (Str.join x ys) := fun ds h => by
      cases e : strsOf ds with
      | none => rw [e] at h; cases h
      | some ys =>
        rw [e] at h
        by_cases c : joinOk x ys = true
        · simp only [c, if_true, Option.some.injEq] at h
          exact ⟨ys, rfl, Nat.le_of_ble_eq_true c, h.symm⟩
        · simp only [c] at h
          cases h
    cases e with
    | lst ds =>
      obtain ⟨ys, h1, h2, rfl⟩ := key ds hz
      obtain ⟨p, xs, w1, w2, w3⟩ := r2.lstH
      subst w1
      refine ⟨x, p, ys, r1.strE, rfl, .inl ?_, h2, ?_⟩
      · rw [← repL_strs h1 w3]; exact SqL.of w2
      · rw [TL.join_eq]
        exact q3 _ H2 (e1.trans e2) (.str _)
    | tup ds =>
      obtain ⟨ys, h1, h2, rfl⟩ := key ds hz
      obtain ⟨p, xs, w1, w2, w3⟩ := r2.seqT
      subst w1
      refine ⟨x, p, ys, r1.strE, rfl, .inr ?_, h2, ?_⟩
      · rw [← repL_strs h1 w3]; exact w2
      · rw [TL.join_eq]
        exact q3 _ H2 (e1.trans e2) (.str _)
    | _ => cases hz
  | _ => exact q1.elim
end
end DL

namespace DL
open PySem PySem.Spec PyProof.Rows L2

def putD (f : Str) (d : D) : List (Str × D) → List (Str × D)
  | [] => [(f, d)]
  | (g, x) :: r => if g = f then (g, d) :: r else (g, x) :: putD f d r
def RepF (K : PySem.W.Frag) (S : Addr → Prop) (H : Hp) (vs : List (Str × V)) (fs : List (Str × D)) : Prop := vs.map (·.1) = fs.map (·.1) ∧ RepL K S H (vs.map (·.2)) (fs.map (·.2))
section
variable {K : PySem.W.Frag} {S S' : Addr → Prop} {H H' : Hp}
theorem RepF.nil : RepF K S H [] [] := ⟨rfl, .nil⟩
theorem RepF.uncons {p : Str × V} {vs : List (Str × V)} {q : Str × D} {fs : List (Str × D)} (h : RepF K S H (p :: vs) (q :: fs)) : p.1 = q.1 ∧ Rep K S H p.2 q.2 ∧ RepF K S H vs fs := by
  obtain ⟨h1, h2⟩ := h
  rw [List.map_cons, List.map_cons] at h1 h2
  injection h1 with e1 e2
  cases h2 with
  | cons r rs => exact ⟨e1, r, e2, rs⟩
theorem RepF.cons {g : Str} {v : V} {d : D} {vs : List (Str × V)} {fs : List (Str × D)} (r : Rep K S H v d) (h : RepF K S H vs fs) : RepF K S H ((g, v) :: vs) ((g, d) :: fs) :=
  ⟨by rw [List.map_cons, List.map_cons, h.1], by rw [List.map_cons, List.map_cons]; exact .cons r h.2⟩
theorem RepF.len {vs : List (Str × V)} {fs : List (Str × D)} (h : RepF K S H vs fs) : vs.length = fs.length := by
  have := h.2.length
  rwa [List.length_map, List.length_map] at this
theorem RepF.ev {vs : List (Str × V)} {fs : List (Str × D)} (e : Ev S H S' H') (h : RepF K S H vs fs) : RepF K S' H' vs fs := ⟨h.1, h.2.ev e⟩
theorem RepF.get : ∀ {vs : List (Str × V)} {fs : List (Str × D)} {f : Str} {d : D}, RepF K S H vs fs → fs.lookup f = some d → ∃ v, vs.lookup f = some v ∧ Rep K S H v d
  | _, [], f, d, _, e => by cases e
  | [], _ :: _, f, d, h, _ => by have := h.1; cases this
  | (g, v) :: vs, (g2, x) :: fs, f, d, h, e => by
    obtain ⟨e1, r, h2⟩ := h.uncons
    cases e1
    by_cases c : f = g
    · subst c
      have : some x = some d := by rw [← e, List.lookup_cons_self]
      cases this
      exact ⟨v, List.lookup_cons_self, r⟩
    · have c2 : (f == g) = false := beq_eq_false_iff_ne.mpr c
      have e2 : fs.lookup f = some d := by rw [← e]; show _ = List.lookup f ((g, x) :: fs); rw [List.lookup_cons, c2]
      obtain ⟨w, w1, w2⟩ := RepF.get h2 e2
      exact ⟨w, by rw [List.lookup_cons, c2]; exact w1, w2⟩
theorem RepF.no : ∀ {vs : List (Str × V)} {fs : List (Str × D)} {f : Str}, RepF K S H vs fs → fs.lookup f = none → vs.lookup f = none
  | [], _, f, _, _ => rfl
  | _ :: _, [], f, h, _ => by have := h.1; cases this
  | (g, v) :: vs, (g2, x) :: fs, f, h, e => by
    obtain ⟨e1, r, h2⟩ := h.uncons
    cases e1
    by_cases c : f = g
    · subst c
      rw [List.lookup_cons_self] at e
      cases e
    · have c2 : (f == g) = false := beq_eq_false_iff_ne.mpr c
      have e2 : fs.lookup f = none := by rw [← e]; show _ = List.lookup f ((g, x) :: fs); rw [List.lookup_cons, c2]
      show List.lookup f ((g, v) :: vs) = none
      rw [List.lookup_cons, c2]
      exact RepF.no h2 e2
theorem RepF.put {f : Str} {v : V} {d : D} (r : Rep K S H v d) : ∀ {vs : List (Str × V)} {fs : List (Str × D)}, RepF K S H vs fs → RepF K S H (putF f v vs) (putD f d fs)
  | [], [], _ => .cons r .nil
  | [], _ :: _, h => by have := h.1; cases this
  | _ :: _, [], h => by have := h.1; cases this
  | (g, w) :: vs, (g2, x) :: fs, h => by
    obtain ⟨e1, r2, h2⟩ := h.uncons
    cases e1
    unfold putF putD
    by_cases c : g = f
    · rw [if_pos c, if_pos c]
      exact .cons r h2
    · rw [if_neg c, if_neg c]
      exact .cons r2 (RepF.put r h2)
theorem RepF.zip : ∀ {ns : List Str} {vs : List V} {ds : List D}, RepL K S H vs ds → RepF K S H (ns.zip vs) (ns.zip ds)
  | [], _, _, _ => .nil
  | _ :: _, _, _, .nil => .nil
  | _ :: _, _, _, .cons r h => .cons r (RepF.zip h)
theorem zip_maps : ∀ {vs : List (Str × V)}, (vs.map (·.1)).zip (vs.map (·.2)) = vs
  | [] => rfl
  | (g, v) :: vs => by
    show (g, v) :: (vs.map (·.1)).zip (vs.map (·.2)) = _
    rw [zip_maps]
theorem Rep.objI {v : V} {c : Str} {ds : List D} (h : Rep K S H v (.obj c ds)) (hs : slotted c = false) : ∃ a dx vs, v = .ref a ∧ ¬ S a ∧ H a = some (.ins (He.ga K c) dx ((flds c).zip vs)) ∧ RepL K S H vs ds := by
  cases h with
  | obj o r =>
    obtain ⟨n, dx, h⟩ := o
    rcases h with ⟨e, _⟩ | ⟨_, _, h⟩
    · rw [hs] at e; cases e
    · exact ⟨_, dx, _, rfl, n, h, r⟩
theorem Rep.objS {v : V} {c : Str} {ds : List D} (h : Rep K S H v (.obj c ds)) (hs : slotted c = true) : ∃ a dx vs, v = .ref a ∧ SlX.Slt H a (He.ga K c) dx (stS (ordS c) vs []) ∧ RepL K S H vs ds := by
  cases h with
  | obj o r =>
    obtain ⟨n, dx, h⟩ := o
    rcases h with ⟨_, _, h, q⟩ | ⟨e, _⟩
    · exact ⟨_, dx, _, rfl, .inr ⟨h, q⟩, r⟩
    · rw [hs] at e; cases e
end

def fOb (c : Str) (i : Nat) (δ : DSt) : R (List (Str × D)) := match δ[i]? with
  | some (.ob c' fs) => if c' = c then .ok fs else .bad
  | _ => .bad
theorem fOb_at {c : Str} {i : Nat} {δ : DSt} {fs : List (Str × D)} (h : fOb c i δ = .ok fs) : δ[i]? = some (.ob c fs) := by
  unfold fOb at h
  split at h
  · split at h
    · rename_i c' fs' e1 e2
      cases h
      rw [e1, e2]
    · cases h
  · cases h
theorem fOb_ne {c : Str} {i : Nat} {δ : DSt} {n : Str} {xs : List D} (h : fOb c i δ = .exc n xs) : False := by
  unfold fOb at h
  split at h
  · split at h <;> cases h
  · cases h
def fFld (c : Str) (i : Nat) (f : Str) : FE := fun δ => (fOb c i δ).bind fun fs => R.of (fs.lookup f)
def dFld (c f : Str) : D → Option D
  | .obj c' xs => if c' = c then ((flds c).zip xs).lookup f else none
  | _ => none
def dSlot (c : Str) (i : Nat) : D → Option D
  | .obj c' xs => if c' = c then xs[i]? else none
  | _ => none
section
variable {X : Cx} {e0 : Ent} {E : XK} {Eσ : Sg → XK} {k : Nat} {pos p : Pos} {x : Str} {st : Stmt} {rest : List Stmt} {F : FS} {a b : Expr} {f g : FE} {es : List Expr} {fl : FL} {c m : Str} {i : Nat}
theorem de_fldO {fd : Str} (C : Cls X.K (He.ga X.K c)) (n : NoAttr X.K (He.ga X.K c) fd) (i : Nat) (hN : X.N[i]? = some x := by rfl) (hv : Vis X.env.scope x := by first | exact Or.inl rfl | exact Or.inr (Or.inl rfl) | exact Or.inr (Or.inr rfl))
    (hd : (x == ("__debug__" : Str)) = false := by decide) (hcd : (x == ("__classdict__" : Str)) = false := by decide)
    (hb : attributeBase (.Name x p) fd X.env (eval (.Name x p) X.env) = eval (.Name x p) X.env := by rfl) : DE X Eσ (.Attribute (.Name x p) fd pos) (fFld c i fd) := by
  refine PE.imp (pe_fld (pe_var hN hv hd hcd) hb) fun σ H Q hq => ?_
  obtain ⟨S, δ, st, q⟩ := hq
  unfold fFld at q
  cases r : fOb c i δ with
  | bad => rw [r] at q; exact q.elim
  | exc n xs => exact (fOb_ne r).elim
  | ok fs =>
    rw [r] at q
    obtain ⟨o, w1, a, dx, vs, w2, w3, w4, w5, w6⟩ := st.slot i _ (fOb_at r)
    subst w2
    obtain ⟨d, hd, q1⟩ := Res.of (show Res X.K S H (Eσ σ) (R.of (fs.lookup fd)) (fun d => ∀ v H', Same H H' → Rep X.K S H' v d → Q v H') from q)
    obtain ⟨v, l, rv⟩ := RepF.get ⟨w5, w6⟩ hd
    exact ⟨_, w1, a, _, dx, vs, v, rfl, w3, C, n, l, q1 v H (Same.refl _) rv⟩
theorem de_fld {fd : Str} (hs : slotted c = false) (C : Cls X.K (He.ga X.K c)) (n : NoAttr X.K (He.ga X.K c) fd) (h : DE X Eσ a f) (hb : attributeBase a fd X.env (eval a X.env) = eval a X.env := by rfl) : DE X Eσ (.Attribute a fd pos) (fU (dFld c fd) f) := by
  refine PE.imp (pe_fld h hb) fun σ H Q hq => ?_
  obtain ⟨S, δ, st, q⟩ := hq
  refine ⟨S, δ, st, (Res.on q).imp fun d q1 v H1 e1 r1 => ?_⟩
  obtain ⟨z, hz, q2⟩ := Res.of q1
  cases d <;> simp only [dFld, reduceCtorEq] at hz
  rename_i c' xs
  by_cases e : c' = c
  · subst e
    rw [if_pos rfl] at hz
    obtain ⟨a, dx, vs, w1, _, w2, w3⟩ := r1.objI hs
    subst w1
    obtain ⟨v, l, rv⟩ := RepF.get (RepF.zip w3) hz
    exact ⟨a, _, dx, _, v, rfl, w2, C, n, l, q2 v H1 e1 rv⟩
  · rw [if_neg e] at hz; cases hz
theorem de_slot {fd : Str} {pa : Addr} {j : Nat} (i : Nat) (hs : slotted c = true) (C : SlX.SCls X.K (He.ga X.K c)) (n : SlX.Slot1 X.K (He.ga X.K c) fd pa j) (hj : (ordS c)[i]? = some j) (h : DE X Eσ a f) (hb : attributeBase a fd X.env (eval a X.env) = eval a X.env := by rfl) : DE X Eσ (.Attribute a fd pos) (fU (dSlot c i) f) := by
  refine PE.imp (SlX.pe_sl h hb) fun σ H Q hq => ?_
  obtain ⟨S, δ, st, q⟩ := hq
  refine ⟨S, δ, st, (Res.on q).imp fun d q1 v H1 e1 r1 => ?_⟩
  obtain ⟨z, hz, q2⟩ := Res.of q1
  cases d <;> simp only [dSlot, reduceCtorEq] at hz
  rename_i c' xs
  by_cases e : c' = c
  · subst e
    rw [if_pos rfl] at hz
    obtain ⟨a, dx, vs, w1, w2, w3⟩ := r1.objS hs
    subst w1
    obtain ⟨v, l, rv⟩ := w3.get hz
    exact ⟨a, _, dx, _, _, j, v, rfl, w2, C, n, stS_get (ordS_nd _) hj l, q2 v H1 e1 rv⟩
  · rw [if_neg e] at hz; cases hz
def oFld (c : Str) (i : Nat) (fd : Str) (δ : DSt) (d : D) : O := O.on (fOb c i δ) fun fs => if fs.length < 900 then .nx (δ.set i (.ob c (putD fd d fs))) else .bad
def fPutF (c : Str) (i : Nat) (fd : Str) (g : FE) : FS := fun δ => O.on (g δ) fun d => oFld c i fd δ d
theorem put_at {K : PySem.W.Frag} {M S0 S : Addr → Prop} {H0 H : Hp} {σ : Sg} {δ : DSt} {D : Ends} {fd : Str} {d : DL.D} {v : V} (s : StS K M S0 H0 S σ H δ) (q : Fin K M S0 H0 E D S H (oFld c i fd δ d)) (rv : Rep K S H v d) :
    ∃ a dx vs, σ[i]? = some (some (.ref a)) ∧ H a = some (.ins (He.ga K c) dx vs) ∧ vs.length < 1000 ∧ D.nx σ (upd H a (.ins (He.ga K c) dx (putF fd v vs))) := by
  unfold oFld at q
  cases r : fOb c i δ with
  | bad => rw [r] at q; exact q.elim
  | exc n xs => exact (fOb_ne r).elim
  | ok fs =>
    rw [r] at q
    have q : Fin K M S0 H0 E D S H (if fs.length < 900 then .nx (δ.set i (.ob c (putD fd d fs))) else .bad) := q
    have hd := fOb_at r
    obtain ⟨o, w1, a, dx, vs, w2, w3, w4, w5, w6⟩ := s.st.slot i _ hd
    subst w2
    by_cases hl : fs.length < 900
    · rw [if_pos hl] at q
      have rf : RepF K S H vs fs := ⟨w5, w6⟩
      have ev : Ev S H S (upd H a (.ins (He.ga K c) dx (putF fd v vs))) := .upd w3 w4
      have rf2 := (rf.put (f := fd) rv).ev ev
      obtain ⟨s2, e2⟩ := s.chgT (t0 := .ob c (putD fd d fs)) hd rfl w1 (keepM_upd w3) upd_same rfl ⟨fun _ => ⟨_, _, rfl⟩, fun _ => ⟨_, _, rfl⟩⟩ ⟨a, dx, _, rfl, upd_same, w4, rf2.1, rf2.2⟩
      exact ⟨a, dx, vs, w1, w3, by rw [rf.len]; omega, q S σ _ s2 e2⟩
    · rw [if_neg hl] at q; exact q.elim
theorem ds_fldO {fd : Str} {pos' : Pos} (C : Cls X.K (He.ga X.K c)) (n : NoAttr X.K (He.ga X.K c) fd) (i : Nat) (h : DE X (fun _ => E) b g) (hN : X.N[i]? = some x := by rfl) (hv : Vis X.env.scope x := by first | exact Or.inl rfl | exact Or.inr (Or.inl rfl) | exact Or.inr (Or.inr rfl))
    (hd : (x == ("__debug__" : Str)) = false := by decide) (hcd : (x == ("__classdict__" : Str)) = false := by decide)
    (hs : swapsWith b (some (.Attribute (.Name x p) fd pos')) pos.line X.env = pure false := by rfl) : DSt1 X e0 E (.Assign [.Attribute (.Name x p) fd pos'] b pos) (fPutF c i fd g) := by
  refine PS.imp (ps_fld (pe_var hN hv hd hcd) h hs) fun D σ H hq => ?_
  obtain ⟨S, δ, s, q⟩ := hq
  refine ⟨S, δ, s.st, Fin.on s q fun d q1 v H1 e1 r1 => ?_⟩
  obtain ⟨a, dx, vs, w1, w2, w3, w4⟩ := put_at (s.mono e1) (q1.ev (.same e1)) r1
  exact ⟨_, w1, a, _, dx, vs, rfl, w2, C, n, w3, w4⟩
def fAugF (G : D → D → Option D) (c : Str) (i : Nat) (fd : Str) (g : FE) : FS := fun δ => O.on (fFld c i fd δ) fun d => O.on (g δ) fun e => O.on (R.of (G d e)) fun z => oFld c i fd δ z
theorem ds_augF {op : Operator} {G : D → D → Option D} {fd : Str} {pos' : Pos} (C : Cls X.K (He.ga X.K c)) (n : NoAttr X.K (He.ga X.K c) fd) (ho : OpD X (inplaceOp op) G) (i : Nat) (h : DE X (fun _ => E) b g) (hN : X.N[i]? = some x := by rfl)
    (hv : Vis X.env.scope x := by first | exact Or.inl rfl | exact Or.inr (Or.inl rfl) | exact Or.inr (Or.inr rfl)) (hd : (x == ("__debug__" : Str)) = false := by decide) (hcd : (x == ("__classdict__" : Str)) = false := by decide) :
    DSt1 X e0 E (.AugAssign (.Attribute (.Name x p) fd pos') op b pos) (fAugF G c i fd g) := by
  refine PS.imp (ps_fldaug (rd := fun x y H Q => ∃ S d e z, Dom X.K S H ∧ Rep X.K S H x d ∧ Rep X.K S H y e ∧ G d e = some z ∧ Giv X.K S H z Q) (pe_var hN hv hd hcd) h (fun pins s σ H x y u v Q I rx ry q => ho pins s σ H x y u v Q I rx ry q)) fun D σ H hq => ?_
  obtain ⟨S, δ, s, q⟩ := hq
  unfold fAugF fFld at q
  cases r : fOb c i δ with
  | bad => rw [r] at q; exact q.elim
  | exc n xs => exact (fOb_ne r).elim
  | ok fs =>
    rw [r] at q
    have q : Fin X.K e0.M e0.S e0.H E D S H (O.on (R.of (fs.lookup fd)) fun d => O.on (g δ) fun e => O.on (R.of (G d e)) fun z => oFld c i fd δ z) := q
    obtain ⟨o, w1, a, dx, vs, w2, w3, w4, w5, w6⟩ := s.st.slot i _ (fOb_at r)
    subst w2
    cases hl : fs.lookup fd with
    | none => rw [hl] at q; exact q.elim
    | some d =>
      rw [hl] at q
      obtain ⟨v, l, rv⟩ := RepF.get ⟨w5, w6⟩ hl
      refine ⟨_, w1, a, _, dx, vs, v, rfl, w3, C, n, l, S, δ, s.st, Fin.on (f := fun e => O.on (R.of (G d e)) fun z => oFld c i fd δ z) s q fun e q1 y H2 e2 r2 => ?_⟩
      cases hz : G d e with
      | none => rw [hz] at q1; exact q1.elim
      | some z =>
        rw [hz] at q1
        refine ⟨S, d, e, z, (s.mono e2).st.here, rv.mono e2, r2, hz, fun w H3 e3 r3 => ?_⟩
        obtain ⟨a', dx', vs', u1, u2, u3, u4⟩ := put_at ((s.mono e2).mono e3) (q1.ev (.same (e2.trans e3))) r3
        rw [w1] at u1
        cases u1
        exact ⟨dx', vs', u2, u3, u4⟩
end
end DL

namespace DL
open PySem PySem.Spec PyProof.Rows L2

abbrev FX := DSt → R (D × DSt)
abbrev FXL := DSt → R (List D × DSt)
def ResX {α : Type} (K : PySem.W.Frag) (M S0 : Addr → Prop) (H0 : Hp) (E : XK) (r : R (α × DSt)) (P : α → DSt → Prop) : Prop := match r with
  | .ok (d, δ) => P d δ
  | .exc n xs => ∀ cls dx H', KeepM M H0 H' → ExR K S0 H' cls dx n xs → E cls dx H'
  | .bad => False
def tDX (K : PySem.W.Frag) (M S0 : Addr → Prop) (H0 : Hp) (E : XK) (f : FX) : TE := fun σ H Q => ∃ S δ, StS K M S0 H0 S σ H δ ∧ ResX K M S0 H0 E (f δ) fun d δ' => ∀ v H', StS K M S0 H0 S σ H' δ' → Ev S H S H' → Rep K S H' v d → Q v H'
def tDXL (K : PySem.W.Frag) (M S0 : Addr → Prop) (H0 : Hp) (E : XK) (f : FXL) : TA := fun σ H Q => ∃ S δ, StS K M S0 H0 S σ H δ ∧ ResX K M S0 H0 E (f δ) fun ds δ' => ∀ vs H', StS K M S0 H0 S σ H' δ' → Ev S H S H' → RepL K S H' vs ds → Q vs H'
def DX (X : Cx) (e0 : Ent) (E : XK) (e : Expr) (f : FX) : Prop := PE X e (tDX X.K e0.M e0.S e0.H E f)
structure DXA (X : Cx) (e0 : Ent) (E : XK) (es : List Expr) (f : FXL) : Prop where
  pa : PA X es (tDXL X.K e0.M e0.S e0.H E f)
  len : ∀ δ ds δ', f δ = .ok (ds, δ') → ds.length = es.length
section
variable {K : PySem.W.Frag} {M S0 S : Addr → Prop} {H0 H : Hp} {E : XK} {Eσ : Sg → XK} {Dn : Ends} {σ : Sg} {δ : DSt} {α β : Type}
theorem ResX.imp {r : R (α × DSt)} {P P' : α → DSt → Prop} (h : ResX K M S0 H0 E r P) (k : ∀ a δ, P a δ → P' a δ) : ResX K M S0 H0 E r P' := by
  cases r with
  | ok a => exact k a.1 a.2 h
  | exc n xs => exact h
  | bad => exact h
theorem ResX.on {r : R (α × DSt)} {f : α × DSt → R (β × DSt)} {P : β → DSt → Prop} (h : ResX K M S0 H0 E (r.bind f) P) : ResX K M S0 H0 E r fun a δ => ResX K M S0 H0 E (f (a, δ)) P := by
  cases r with
  | ok a => exact h
  | exc n xs => exact h
  | bad => exact h
theorem ResX.of {r : R α} {f : α → R (β × DSt)} {P : β → DSt → Prop} (s : StS K M S0 H0 S σ H δ) (h : ResX K M S0 H0 E (r.bind f) P) : Res K S H E r fun a => ResX K M S0 H0 E (f a) P := by
  cases r with
  | ok a => exact h
  | exc n xs => exact fun cls dx H' e x => h cls dx H' (s.same.trans e) (x.to s.sub)
  | bad => exact h
theorem Fin.onX {r : R (α × DSt)} {f : α × DSt → O} (h : Fin K M S0 H0 E Dn S H (O.on r f)) {P : α → DSt → Prop} (k : ∀ a δ, Fin K M S0 H0 E Dn S H (f (a, δ)) → P a δ) : ResX K M S0 H0 E r P := by
  cases r with
  | ok a => exact k a.1 a.2 h
  | exc n xs => exact h
  | bad => exact h
end
section
variable {X : Cx} {e0 : Ent} {E : XK} {Eσ : Sg → XK} {k j : Nat} {pos p apos : Pos} {x : Str} {st : Stmt} {rest : List Stmt} {F : FS} {a b o : Expr} {f g : FE} {fx gx : FX} {es : List Expr} {fl : FL} {fxl : FXL} {c m : Str} {i : Nat}
def fPure (f : FE) : FX := fun δ => (f δ).bind fun d => .ok (d, δ)
theorem dx_of (h : DE X (fun _ => E) a f) : DX X e0 E a (fPure f) := by
  refine PE.imp h fun σ H Q hq => ?_
  obtain ⟨S, δ, s, q⟩ := hq
  exact ⟨S, δ, s.st, (ResX.of s q).imp fun d q1 v H1 e1 r1 => q1 v H1 (s.mono e1) (.same e1) r1⟩
def fNilX : FXL := fun δ => .ok ([], δ)
def fConsX (f : FX) (fl : FXL) : FXL := fun δ => (f δ).bind fun p => (fl p.2).bind fun q => .ok (p.1 :: q.1, q.2)
theorem dxa_nil : DXA X e0 E [] fNilX := by
  refine ⟨PA.imp pa_nil fun σ H Q h => ?_, fun δ ds δ' h => by cases h; rfl⟩
  obtain ⟨S, δ, s, q⟩ := h
  exact q [] H s .refl .nil
theorem dxa_cons (ha : DX X e0 E a fx) (hr : DXA X e0 E es fxl) (hs : starEach (a :: es) X.env = (false, eval a X.env) :: starEach es X.env := by rfl) : DXA X e0 E (a :: es) (fConsX fx fxl) := by
  refine ⟨PA.imp (pa_cons ha hr.pa hs) fun σ H Q h => ?_, fun δ ds δ' h => ?_⟩
  · obtain ⟨S, δ, s, q⟩ := h
    refine ⟨S, δ, s, (ResX.on (show ResX X.K e0.M e0.S e0.H E ((fx δ).bind fun p => (fxl p.2).bind fun q => R.ok (p.1 :: q.1, q.2)) _ from q)).imp fun d δ1 q2 v H1 s1 e1 r1 => ?_⟩
    refine ⟨S, δ1, s1, (ResX.on (show ResX X.K e0.M e0.S e0.H E ((fxl δ1).bind fun q => R.ok (d :: q.1, q.2)) _ from q2)).imp fun ds δ2 q3 vs H2 s2 e2 r2 => ?_⟩
    exact q3 (v :: vs) H2 s2 (e1.trans e2) (.cons (r1.ev e2) r2)
  · unfold fConsX at h
    cases q : fx δ with
    | ok p =>
      rw [q, R.bind_ok] at h
      cases q2 : fxl p.2 with
      | ok es' =>
        rw [q2, R.bind_ok] at h
        cases h
        exact congrArg Nat.succ (hr.len _ _ _ q2)
      | exc n xs => rw [q2] at h; cases h
      | bad => rw [q2] at h; cases h
    | exc n xs => rw [q] at h; cases h
    | bad => rw [q] at h; cases h
def fTupX (fl : FXL) : FX := fun δ => (fl δ).bind fun p => .ok (.tup p.1, p.2)
theorem dx_tup {j} (h : DXA X e0 E es fxl) (hl : es.length ≤ sizeLine := by exact Nat.le_of_ble_eq_true rfl) : DX X e0 E (.Tuple es j pos) (fTupX fxl) := by
  refine PE.imp (pe_tup h.pa) fun σ H Q hq => ?_
  obtain ⟨S, δ, s, q⟩ := hq
  refine ⟨S, δ, s, ?_⟩
  have q1 := ResX.on (show ResX X.K e0.M e0.S e0.H E ((fxl δ).bind fun p => R.ok (D.tup p.1, p.2)) _ from q)
  cases e : fxl δ with
  | bad => rw [e] at q1; exact q1.elim
  | exc n xs => rw [e] at q1; exact q1
  | ok ds =>
    rw [e] at q1
    intro vs H1 s1 e1 r1
    refine ⟨by rw [r1.length, h.len _ _ _ e]; exact hl, fun p hp => ?_⟩
    have e2 : Same H1 (upd H1 p (.tup vs)) := same_new hp _
    have nS : ¬ S p := fun z => by
      obtain ⟨o, w, _⟩ := s1.st.here.at_ p z
      rw [hp] at w; cases w
    exact q1 _ _ (s1.mono e2) (e1.trans (.same e2)) (.tup upd_same nS (r1.mono e2))
def fRetX (f : FX) : FS := fun δ => O.on (f δ) fun p => .rt p.1 p.2
theorem ds_retX (h : DX X e0 E a fx) : DSt1 X e0 E (.Return (some a) pos) (fRetX fx) := by
  refine PS.imp (ps_ret h) fun D σ H hq => ?_
  obtain ⟨S, δ, s, q⟩ := hq
  exact ⟨S, δ, s, Fin.onX q fun d δ' q1 v H' s' e' r => q1 S σ v H' s' r⟩
def fExpX (f : FX) : FS := fun δ => O.on (f δ) fun p => .nx p.2
theorem ds_exprX (h : DX X e0 E a fx) (hs : swapsWith a none pos.line X.env = pure false := by rfl) : DSt1 X e0 E (.Expr a pos) (fExpX fx) := by
  refine PS.imp (ps_expr h hs) fun D σ H hq => ?_
  obtain ⟨S, δ, s, q⟩ := hq
  exact ⟨S, δ, s, Fin.onX q fun d δ' q1 v H' s' e' r => q1 S σ H' s' e'⟩
def fSetX (i : Nat) (f : FX) : FS := fun δ => O.on (f δ) fun p => .nx (p.2.set i (.fz p.1))
theorem ds_setX {i : Nat} {x : Str} {pos' : Pos} (hN : X.N.Nodup) (hi : X.N[i]? = some x) (hx : Loc X.env.scope x) (h : DX X e0 E a fx) (hs : swapsWith a (some (.Name x pos')) pos.line X.env = pure false := by rfl)
    (hf : X.fn x = true ∨ X.env.scope.names.lookup x = some .local := by first | exact .inl rfl | exact .inr rfl | assumption) : DSt1 X e0 E (.Assign [.Name x pos'] a pos) (fSetX i fx) := by
  refine PS.imp (ps_set hN hi hx h hs hf) fun D σ H hq => ?_
  obtain ⟨S, δ, s, q⟩ := hq
  exact ⟨S, δ, s, Fin.onX q fun d δ' q1 v H' s' e' r => q1 S _ H' (s'.set i r) e'⟩
def fNewX (i : Nat) (fl : FXL) : FS := fun δ => O.on (fl δ) fun p => .nx (p.2.set i (.ow p.1))
theorem ds_newX {i : Nat} {x : Str} {pos' p : Pos} (hN : X.N.Nodup) (hi : X.N[i]? = some x) (hx : Loc X.env.scope x) (h : DXA X e0 E es fxl) (hs : swapsWith (.List es p) (some (.Name x pos')) pos.line X.env = pure false := by rfl)
    (hl : es.length ≤ sizeLine := by exact Nat.le_of_ble_eq_true rfl) (hf : X.fn x = true ∨ X.env.scope.names.lookup x = some .local := by first | exact .inl rfl | exact .inr rfl | assumption) : DSt1 X e0 E (.Assign [.Name x pos'] (.List es p) pos) (fNewX i fxl) := by
  refine PS.imp (ps_set hN hi hx (pe_lst h.pa) hs hf) fun D σ H hq => ?_
  obtain ⟨S, δ, s, q⟩ := hq
  refine ⟨S, δ, s, ?_⟩
  unfold fNewX at q
  cases r : fxl δ with
  | bad => rw [r] at q; exact q.elim
  | exc n xs => rw [r] at q; exact q
  | ok ds =>
    rw [r] at q
    intro vs H1 s1 e1 r1
    refine ⟨by rw [r1.length, h.len _ _ _ r]; exact hl, fun p hp => ?_⟩
    obtain ⟨s2, e2⟩ := s1.new i hp r1
    exact q _ _ _ s2 (e1.trans e2)
def oAppX (i : Nat) (p : D × DSt) : O := O.on (fOwn i p.2) fun ds => if okLt ds.length = true then .nx (p.2.set i (.ow (ds ++ [p.1]))) else .bad
def fAppX (i : Nat) (f : FX) : FS := fun δ => O.on (fOwn i δ) fun _ => O.on (f δ) fun p => oAppX i p
theorem ds_appX {i : Nat} {call : Expr} (hb : ∀ t, PA X [a] t → PE X call (tBM X.K "list" rAppend (tVar i) t)) (h : DX X e0 E a fx) (hst : starEach (a :: []) X.env = (false, eval a X.env) :: starEach [] X.env := by rfl)
    (hs : swapsWith call none pos.line X.env = pure false := by rfl) : DSt1 X e0 E (.Expr call pos) (fAppX i fx) := by
  refine PS.imp (ps_expr (hb _ (pa_cons h pa_nil hst)) hs) fun D σ H hq => ?_
  obtain ⟨S, δ, s, q⟩ := hq
  unfold fAppX at q
  cases r : fOwn i δ with
  | bad => rw [r] at q; exact q.elim
  | exc n xs => exact (fOwn_ne r).elim
  | ok ds0 =>
    rw [r] at q
    obtain ⟨o, w1, b, xs, w2, w3, w4, w5⟩ := s.st.slot i _ (fOwn_at r)
    subst w2
    refine ⟨.ref b, w1, .inl ⟨rfl, _, SqL.of w3⟩, S, δ, s, Fin.onX (f := fun p => oAppX i p) q fun d δ' q v H' s' e' r1 => ?_⟩
    have q : Fin X.K e0.M e0.S e0.H E D S H (O.on (fOwn i δ') fun ds => if okLt ds.length = true then .nx (δ'.set i (.ow (ds ++ [d]))) else .bad) := q
    cases r' : fOwn i δ' with
    | bad => rw [r'] at q; exact q.elim
    | exc n xs => exact (fOwn_ne r').elim
    | ok ds =>
      rw [r'] at q
      have q : Fin X.K e0.M e0.S e0.H E D S H (if okLt ds.length = true then .nx (δ'.set i (.ow (ds ++ [d]))) else .bad) := q
      have hd := fOwn_at r'
      obtain ⟨o, u1, b', ys, u2, u3, u4, u5⟩ := s'.st.slot i _ hd
      subst u2
      rw [w1] at u1
      cases u1
      by_cases cc : okLt ds.length = true
      · rw [if_pos cc] at q
        refine ⟨b, ys, v, rfl, rfl, u3, by rw [u5.length]; exact okLt_of cc, ?_⟩
        obtain ⟨s2, e2⟩ := s'.chg (xs := ys) hd w1 (ys := ys ++ [v]) (es := ds ++ [d]) (u5.append (.cons r1 .nil))
        exact q S σ _ s2 (e'.trans e2)
      · rw [if_neg cc] at q; exact q.elim

abbrev MF := List (Str × D) → List D → R (D × List (Str × D))
def ResM (K : PySem.W.Frag) (a : Addr) (S : Addr → Prop) (H : Hp) (E : XK) (r : R (D × List (Str × D))) (P : D → List (Str × D) → Prop) : Prop := match r with
  | .ok (d, fs) => P d fs
  | .exc n xs => ∀ cls dx H', KeepM (· = a) H H' → ExR K S H' cls dx n xs → E cls dx H'
  | .bad => False
def spM (K : PySem.W.Frag) (c : Str) (n : Nat) (G : MF) : Sp := fun vs H Q E => ∃ S a dx fv fs ds ws, vs = .ref a :: ws ∧ Dom K S H ∧ S a ∧ H a = some (.ins (He.ga K c) dx fv) ∧ RepF K S H fv fs ∧ RepL K S H ws ds ∧ ds.length = n ∧
  ResM K a S H E (G fs ds) fun d fs' => ∀ v H' dx' fv', KeepM (· = a) H H' → H' a = some (.ins (He.ga K c) dx' fv') → RepF K S H' fv' fs' → Rep K S H' v d → Q v H'
def FnM (P : Program) (w : World) (K : PySem.W.Frag) (mg : Str → Option Value) (base : Heap) (k : Nat) (f : Addr) (c : Str) (n : Nat) (G : MF) : Prop := FnR P w K mg base (L2.CX P w) k f (spM K c n G)
def selfOf (c : Str) (d : D) (δ : DSt) : R (D × List (Str × D)) := (fOb c 0 δ).bind fun fs => .ok (d, fs)
def runM (c : Str) (m : Nat) (F : FS) : MF := fun fs ds => match F (.ob c fs :: (ds.map DS.fz ++ List.replicate (m - 1 - ds.length) DS.un)) with
  | .rt d δ => selfOf c d δ
  | .nx δ => selfOf c .non δ
  | .exc n xs => .exc n xs
  | _ => .bad
section
variable {P : Program} {w : World} {K : PySem.W.Frag} {mg : Str → Option Value} {base : Heap}
theorem fnm_zero {f : Addr} {c : Str} {n k : Nat} : FnM P w K mg base k f c n (fun _ _ => .bad) := fun A outer s H us vs Q E hr e0 r h => by
  obtain ⟨S, a, dx, fv, fs, ds, ws, _, _, _, _, _, _, _, q⟩ := h
  exact q.elim
theorem FnM.mono {f : Addr} {c : Str} {n j k : Nat} {G : MF} (F : FnM P w K mg base j f c n G) (h : j ≤ k) : FnM P w K mg base k f c n G := FnR.mono F h
theorem start_stM {S : Addr → Prop} {H : Hp} {N : List Str} {a dx : Addr} {c : Str} {fv : List (Str × V)} {fs : List (Str × D)} {vs : List V} {ds : List D} (r : RepL K S H vs ds) (dm : Dom K S H) (ha : S a) (hi : H a = some (.ins (He.ga K c) dx fv)) (rf : RepF K S H fv fs) (hl : ds.length + 1 ≤ N.length) :
    StS K (· = a) S H S (L2.start N (.ref a :: vs)) H (.ob c fs :: (ds.map DS.fz ++ List.replicate (N.length - 1 - ds.length) DS.un)) := by
  have l := r.length
  have hst : L2.start N (.ref a :: vs) = some (.ref a) :: (vs.map some ++ List.replicate (N.length - 1 - vs.length) none) := by
    unfold L2.start
    rw [List.map_cons, List.cons_append, List.length_cons]
    congr 3
    omega
  have tl : ∀ (i : Nat) (t : DS), (ds.map DS.fz ++ List.replicate (N.length - 1 - ds.length) DS.un)[i]? = some t → t.mutb = false := fun i t h => by
    have m := List.mem_of_getElem? h
    rcases List.mem_append.mp m with m | m
    · obtain ⟨d, _, e⟩ := List.mem_map.mp m
      subst e
      rfl
    · rw [List.eq_of_mem_replicate m]; rfl
  have zero : ∀ (i : Nat) (t : DS), (DS.ob c fs :: (ds.map DS.fz ++ List.replicate (N.length - 1 - ds.length) DS.un))[i]? = some t → t.mutb = true → i = 0 ∧ t = .ob c fs := fun i t h m => by
    cases i with
    | zero => cases h; exact ⟨rfl, rfl⟩
    | succ i =>
      rw [List.getElem?_cons_succ] at h
      rw [tl i t h] at m
      cases m
  refine ⟨⟨?_, fun i t h => ?_, fun i j b t u h1 h2 m1 m2 _ _ => by rw [(zero i t h1 m1).1, (zero j u h2 m2).1], dm⟩, KeepM.refl, fun _ z => z, dm, fun b z => by rw [z]; exact ha, fun i b t h1 m h2 => ?_⟩
  · rw [hst]
    simp only [List.length_cons, List.length_append, List.length_map, List.length_replicate, l]
  · rw [hst]
    cases i with
    | zero =>
      cases h
      exact ⟨_, rfl, a, dx, fv, rfl, hi, ha, rf.1, rf.2⟩
    | succ i =>
      rw [List.getElem?_cons_succ] at h ⊢
      by_cases hi : i < ds.length
      · rw [List.getElem?_append_left (by simpa using hi), List.getElem?_map] at h
        cases e : ds[i]? with
        | none => rw [e] at h; cases h
        | some d =>
          rw [e] at h
          cases h
          obtain ⟨v, h1, h2⟩ := r.get e
          refine ⟨some v, ?_, v, rfl, h2⟩
          rw [List.getElem?_append_left (by rw [List.length_map, l]; exact hi), List.getElem?_map, h1]
          rfl
      · rw [List.getElem?_append_right (by simpa using hi), List.getElem?_replicate] at h
        split at h
        · rename_i hlt
          cases h
          refine ⟨none, ?_, trivial⟩
          rw [List.length_map] at hlt
          rw [List.getElem?_append_right (by rw [List.length_map, l]; omega), List.getElem?_replicate, List.length_map, l, if_pos hlt]
        · cases h
  · obtain ⟨e1, e2⟩ := zero i t h1 m
    subst e1
    rw [hst] at h2
    cases h2
    exact .inr ⟨rfl, c, fs, e2⟩
theorem fnokm_of {x qual : Str} {params : Arguments} {body : List Stmt} {scope : Scope} {dvs : List V} {kws : List (Str × V)} {f : Addr} {fd : FuncData} {N ps : List Str} {c : Str} {n k : Nat} {F : FS} (Fd : FunD K x qual params body scope dvs kws f fd) (Sc : FnScope N ps scope) (hn : ps.length = n + 1)
    (hbody : ∀ (cdv : Value) (A : Around) (outer : List Env) (s : Shared) (e0 : Ent) (H : Hp) (E : XK), Bd (cxOf (L2.CX P w) P w K mg base N qual scope f cdv A outer s H E) (fun _ => E) k →
      Takes (cxOf (L2.CX P w) P w K mg base N qual scope f cdv A outer s H E) (fun cls d _ H => E cls d H) → DSts (cxOf (L2.CX P w) P w K mg base N qual scope f cdv A outer s H E) e0 E body F) : FnOk P w K mg base (L2.CX P w) (k + 1) f fd ps (spM K c n (runM c N.length F)) := by
  have hpl : ps.length ≤ N.length := by have := congrArg List.length Sc.pre; rw [List.length_take] at this; omega
  refine FunD.ok (CX := L2.CX P w) Fd Sc (fun vs H Q E h => ?_) (fun cdv A outer s H vs Q E hr h => ?_)
  · obtain ⟨S, a, dx, fv, fs, ds, ws, e, _, _, _, _, r, hl, _⟩ := h
    rw [e, List.length_cons, r.length, hl, hn]
  · obtain ⟨S, a, dx, fv, fs, ds, ws, e, dm, ha, hi, rf, r, hl, q⟩ := h
    subst e
    have tk : Takes (cxOf (L2.CX P w) P w K mg base N qual scope f cdv A outer s H E) (fun cls d _ H => E cls d H) := takes_of rfl rfl rfl rfl
    refine ⟨_, hbody cdv A outer s ⟨(· = a), S, H⟩ H E ⟨hr, PsA.of (passes_call tk fun _ _ _ _ z => z), rfl, passes_of rfl⟩ tk, S, _, start_stM r dm ha hi rf (by omega), ?_⟩
    unfold runM at q
    have back : ∀ {d : D} {δ : DSt} {S' : Addr → Prop} {σ' : Sg} {H' : Hp} {v : V}, StS K (· = a) S H S' σ' H' δ → Rep K S' H' v d → ResM K a S H E (selfOf c d δ) (fun d fs' => ∀ v H' dx' fv', KeepM (· = a) H H' → H' a = some (.ins (He.ga K c) dx' fv') → RepF K S H' fv' fs' → Rep K S H' v d → Q v H') → Q v H' := fun {d δ S' σ' H' v} s' rv z => by
      unfold selfOf at z
      cases e1 : fOb c 0 δ with
      | bad => rw [e1] at z; exact z.elim
      | exc n xs => exact (fOb_ne e1).elim
      | ok fs' =>
        rw [e1] at z
        obtain ⟨o, w1, a', dx', fv', w2, w3, w4, w5, w6⟩ := s'.st.slot 0 _ (fOb_at e1)
        subst w2
        rcases s'.own 0 a' _ (fOb_at e1) rfl w1 with ⟨_, y⟩ | ⟨y, _⟩
        · exact absurd rfl (y c fs')
        · have y : a' = a := y
          subst y
          exact z v H' dx' fv' s'.same w3 ⟨w5, w6.less s'.sub⟩ (rv.less s'.sub)
    show Fin K (· = a) S H E _ S H (F _)
    cases e : F (.ob c fs :: (ds.map DS.fz ++ List.replicate (N.length - 1 - ds.length) DS.un)) with
    | rt d δ =>
      rw [e] at q
      exact fun S' σ' v H' s' r' => back s' r' q
    | nx δ =>
      rw [e] at q
      exact fun S' σ' H' s' _ => back s' .non q
    | exc n xs =>
      rw [e] at q
      exact q
    | bk δ => rw [e] at q; exact q.elim
    | ct δ => rw [e] at q; exact q.elim
    | bad => rw [e] at q; exact q.elim
theorem FnOk.rawM {f : Addr} {fd : FuncData} {ps : List Str} {c : Str} {n k : Nat} {G : MF} (F : FnOk P w K mg base (L2.CX P w) k f fd ps (spM K c n G)) (hb : Binds K fd ps []) : FnM P w K mg base k f c n G :=
  FnR.imp (F.raw hb (.nil : Vals [] [])) fun vs H Q E h => by rw [List.append_nil]; exact h
end
def noF (m : Str) (fs : List (Str × D)) : Bool := (fs.lookup m).isNone
def rMeth (c m : Str) (i : Nat) (G : MF) (δ : DSt) (fs : List (Str × D)) (ds : List D) : R (D × DSt) := (G fs ds).bind fun p => .ok (p.1, δ.set i (.ob c p.2))
def fMeth (c m : Str) (i : Nat) (G : MF) (fl : FL) : FX := fun δ => (fOb c i δ).bind fun fs => if noF m fs = true then (fl δ).bind fun ds => rMeth c m i G δ fs ds else .bad
theorem noF_of {m : Str} {fs : List (Str × D)} (h : noF m fs = true) : fs.lookup m = none := by
  unfold noF at h
  cases e : fs.lookup m with
  | none => rfl
  | some d => rw [e] at h; cases h
theorem meth_sp {K : PySem.W.Frag} {M S0 S : Addr → Prop} {H0 H : Hp} {σ : Sg} {δ : DSt} {n : Nat} {G : MF} {fs : List (Str × D)} {ds : List D} {a dx : Addr} {fv : List (Str × V)} {ws : List V} {Q : VK} (s : StS K M S0 H0 S σ H δ) (hd : δ[i]? = some (.ob c fs)) (w1 : σ[i]? = some (some (.ref a)))
    (hi : H a = some (.ins (He.ga K c) dx fv)) (rf : RepF K S H fv fs) (r : RepL K S H ws ds) (hn : ds.length = n)
    (q : ResX K M S0 H0 E ((G fs ds).bind fun p => .ok (p.1, δ.set i (.ob c p.2))) fun d δ' => ∀ v H', StS K M S0 H0 S σ H' δ' → Ev S H S H' → Rep K S H' v d → Q v H') : spM K c n G (.ref a :: ws) H Q E := by
  obtain ⟨o, u1, a', dx', fv', u2, u3, u4, u5, u6⟩ := s.st.slot i _ hd
  rw [w1] at u1
  cases u1
  cases u2
  refine ⟨S, a, dx, fv, fs, ds, ws, rfl, s.st.here, u4, hi, rf, r, hn, ?_⟩
  cases e : G fs ds with
  | bad => rw [e] at q; exact q.elim
  | exc n xs =>
    rw [e] at q
    have q : ∀ cls dx H', KeepM M H0 H' → ExR K S0 H' cls dx n xs → E cls dx H' := q
    intro cls dx H' kp x
    refine q cls dx H' ⟨fun b o h nt nM => ?_, fun P t => kp.tab P (s.same.tab P t), fun b o h => let ⟨u, h1⟩ := s.same.dom b o h; kp.dom b u h1, fun b o h p => let ⟨u, h1, p1⟩ := s.same.pl b o h p; kp.pl b u h1 p1, fun b ps h => let ⟨qs, h1⟩ := s.same.tb b ps h; kp.tb b qs h1⟩ (x.to s.sub)
    have nb : b ≠ a := fun z => by
      rw [z] at h nM
      rcases s.own i a _ hd rfl w1 with ⟨y, _⟩ | ⟨y, _⟩
      · rw [y] at h; cases h
      · exact nM y
    exact kp.keep b o (s.same.keep b o h nt nM) nt nb
  | ok p =>
    rw [e] at q
    intro v H' dx' fv' kp hi' rf' rv
    obtain ⟨s2, e2⟩ := s.chgT (t0 := .ob c p.2) hd rfl w1 kp hi' rfl ⟨fun _ => ⟨_, _, rfl⟩, fun _ => ⟨_, _, rfl⟩⟩ ⟨a, dx', fv', rfl, hi', u4, rf'.1, rf'.2⟩
    exact q v H' s2 e2 rv
theorem dx_meth {fa : Addr} {n : Nat} {G : MF} {pl : Sem Bool} (i : Nat) (C : Cls X.K (He.ga X.K c)) (hm : Meth X.K (He.ga X.K c) m fa) (Fn : FnM X.prog X.w X.K X.mg X.base k fa c n G) (B : Bd X (fun _ => E) k) (ha : DA X (fun _ => E) (b :: es) fl) (hn : (b :: es).length = n := by rfl)
    (hN : X.N[i]? = some x := by rfl) (hv : Vis X.env.scope x := by first | exact Or.inl rfl | exact Or.inr (Or.inl rfl) | exact Or.inr (Or.inr rfl)) (hd : (x == ("__debug__" : Str)) = false := by decide) (hcd : (x == ("__classdict__" : Str)) = false := by decide)
    (hst : starEach (b :: es) X.env = (false, eval b X.env) :: starEach es X.env := by rfl) (hpl : (backTo pos (starEach es X.env)).any (·.1) = false := by rfl)
    (ht : eval (.Call (.Attribute (.Name x p) m apos) (b :: es) [] pos) X.env = (do
      let ov ← eval (.Name x p) X.env
      standAt apos.atName
      let (f, first) ← holding [ov] (getMethod ov m pl)
      callWith pos f first (backTo pos (starEach (b :: es) X.env)) (backToKw pos (keywordEach [] X.env))) := by rfl) :
    DX X e0 E (.Call (.Attribute (.Name x p) m apos) (b :: es) [] pos) (fMeth c m i G fl) := by
  refine PE.imp (pa_methR (E := fun _ => E) (pe_var hN hv hd hcd) C hm Fn B.room B.pass ha.pa ⟨hst, hpl⟩ ht) fun σ H Q hq => ?_
  obtain ⟨S, δ, s, q⟩ := hq
  unfold fMeth at q
  cases r : fOb c i δ with
  | bad => rw [r] at q; exact q.elim
  | exc n xs => exact (fOb_ne r).elim
  | ok fs =>
    rw [r, R.bind_ok] at q
    have hd := fOb_at r
    obtain ⟨o, w1, a, dx, fv, w2, w3, w4, w5, w6⟩ := s.st.slot i _ hd
    subst w2
    have rf : RepF X.K S H fv fs := ⟨w5, w6⟩
    by_cases nf : noF m fs = true
    · rw [if_pos nf] at q
      refine ⟨_, w1, a, dx, fv, rfl, w3, rf.no (noF_of nf), S, δ, s.st, ?_⟩
      have q1 := ResX.of s q
      cases rl : fl δ with
      | bad => rw [rl] at q1; exact q1.elim
      | exc n xs => rw [rl] at q1; exact q1
      | ok ds =>
        rw [rl] at q1
        intro vs H1 e1 r1
        have ev : Ev S H S H1 := .same e1
        exact meth_sp (s.mono e1) hd w1 (e1.at _ _ w3) (rf.ev ev) r1 ((ha.len δ ds rl).trans hn) ((show ResX X.K e0.M e0.S e0.H E ((G fs ds).bind fun p => .ok (p.1, δ.set i (.ob c p.2))) _ from q1).imp fun d δ' q2 v H' s' e' r' => q2 v H' s' (ev.trans e') r')
    · rw [if_neg nf] at q; exact q.elim
theorem dx_meth0 {fa : Addr} {G : MF} {pl : Sem Bool} (i : Nat) (C : Cls X.K (He.ga X.K c)) (hm : Meth X.K (He.ga X.K c) m fa) (Fn : FnM X.prog X.w X.K X.mg X.base k fa c 0 G) (B : Bd X (fun _ => E) k)
    (hN : X.N[i]? = some x := by rfl) (hv : Vis X.env.scope x := by first | exact Or.inl rfl | exact Or.inr (Or.inl rfl) | exact Or.inr (Or.inr rfl)) (hd : (x == ("__debug__" : Str)) = false := by decide) (hcd : (x == ("__classdict__" : Str)) = false := by decide)
    (ht : eval (.Call (.Attribute (.Name x p) m apos) [] [] pos) X.env = (do
      let ov ← eval (.Name x p) X.env
      standAt apos.atName
      let (f, first) ← holding [ov] (getMethod ov m pl)
      callWith pos f first (backTo pos (starEach [] X.env)) (backToKw pos (keywordEach [] X.env))) := by rfl) :
    DX X e0 E (.Call (.Attribute (.Name x p) m apos) [] [] pos) (fMeth c m i G fNil) := by
  refine PE.imp (pa_methR0 (E := fun _ => E) (pe_var hN hv hd hcd) C hm Fn B.room B.pass ht) fun σ H Q hq => ?_
  obtain ⟨S, δ, s, q⟩ := hq
  unfold fMeth at q
  cases r : fOb c i δ with
  | bad => rw [r] at q; exact q.elim
  | exc n xs => exact (fOb_ne r).elim
  | ok fs =>
    rw [r, R.bind_ok] at q
    have hd := fOb_at r
    obtain ⟨o, w1, a, dx, fv, w2, w3, w4, w5, w6⟩ := s.st.slot i _ hd
    subst w2
    have rf : RepF X.K S H fv fs := ⟨w5, w6⟩
    by_cases nf : noF m fs = true
    · rw [if_pos nf] at q
      exact ⟨_, w1, a, dx, fv, rfl, w3, rf.no (noF_of nf), meth_sp s hd w1 w3 rf .nil rfl q⟩
    · rw [if_neg nf] at q; exact q.elim
def rFlat : R D → R D
  | .ok d => if d.flat = true then .ok d else .bad
  | _ => .bad
def fView (c m : Str) (i : Nat) (G : List D → R D) (fl : FL) : FE := fun δ => (fOb c i δ).bind fun fs => if (noF m fs && decide (fs.map (·.1) = flds c)) = true then (fl δ).bind fun ds => rFlat (G (.obj c (fs.map (·.2)) :: ds)) else .bad
theorem Rep.flatAny {K : PySem.W.Frag} {S S' : Addr → Prop} {H H' : Hp} {v : V} {d : D} (r : Rep K S H v d) (h : d.flat = true) : Rep K S' H' v d := by
  cases r with
  | non => exact .non
  | bl b => exact .bl b
  | int i => exact .int i
  | str x => exact .str x
  | _ => cases h
theorem de_view0 {fa : Addr} {G : List D → R D} {pl : Sem Bool} (i : Nat) (hs : slotted c = false) (C : Cls X.K (He.ga X.K c)) (hm : Meth X.K (He.ga X.K c) m fa) (Fn : FnG X.prog X.w X.K X.mg X.base k fa 1 G) (B : Bd X Eσ k)
    (hN : X.N[i]? = some x := by rfl) (hv : Vis X.env.scope x := by first | exact Or.inl rfl | exact Or.inr (Or.inl rfl) | exact Or.inr (Or.inr rfl)) (hd : (x == ("__debug__" : Str)) = false := by decide) (hcd : (x == ("__classdict__" : Str)) = false := by decide)
    (ht : eval (.Call (.Attribute (.Name x p) m apos) [] [] pos) X.env = (do
      let ov ← eval (.Name x p) X.env
      standAt apos.atName
      let (f, first) ← holding [ov] (getMethod ov m pl)
      callWith pos f first (backTo pos (starEach [] X.env)) (backToKw pos (keywordEach [] X.env))) := by rfl) :
    DE X Eσ (.Call (.Attribute (.Name x p) m apos) [] [] pos) (fView c m i G fNil) := by
  refine PE.imp (pa_methR0 (pe_var hN hv hd hcd) C hm Fn B.room B.pass ht) fun σ H Q hq => ?_
  obtain ⟨S, δ, s, q⟩ := hq
  unfold fView at q
  cases r : fOb c i δ with
  | bad => rw [r] at q; exact q.elim
  | exc n xs => exact (fOb_ne r).elim
  | ok fs =>
    rw [r, R.bind_ok] at q
    have hd := fOb_at r
    obtain ⟨o, w1, a, dx, fv, w2, w3, w4, w5, w6⟩ := s.slot i _ hd
    subst w2
    have rf : RepF X.K S H fv fs := ⟨w5, w6⟩
    by_cases nf : (noF m fs && decide (fs.map (·.1) = flds c)) = true
    · rw [if_pos nf] at q
      obtain ⟨n1, n2⟩ := Bool.and_eq_true_iff.mp nf
      have n2 : fs.map (·.1) = flds c := of_decide_eq_true n2
      refine ⟨_, w1, a, dx, fv, rfl, w3, rf.no (noF_of n1), ?_⟩
      have ev : Ev S H (fun b => S b ∧ b ≠ a) H := ⟨fun _ _ h _ _ => h, fun _ _ _ n z => n z.1, fun _ o h _ => ⟨o, h⟩⟩
      have e3 : (flds c).zip (fv.map (·.2)) = fv := by rw [← n2, ← w5]; exact zip_maps
      have q : Res X.K S H (Eσ σ) (rFlat (G [.obj c (fs.map (·.2))])) (fun d => ∀ v H', Same H H' → Rep X.K S H' v d → Q v H') := q
      refine ⟨fun b => S b ∧ b ≠ a, [.obj c (fs.map (·.2))], ⟨fun b z => s.here.at_ b z.1, s.here.tabs⟩, .cons (.obj ⟨fun z => z.2 rfl, dx, .inr ⟨hs, by rw [← n2, ← w5, List.length_map, List.length_map], by rw [e3]; exact w3⟩⟩ (w6.ev ev)) .nil, rfl, ?_⟩
      cases e : G [.obj c (fs.map (·.2))] with
      | bad => rw [e] at q; exact q.elim
      | exc n xs => rw [e] at q; exact q.elim
      | ok d =>
        rw [e] at q
        have q : Res X.K S H (Eσ σ) (if d.flat = true then R.ok d else .bad) (fun d => ∀ v H', Same H H' → Rep X.K S H' v d → Q v H') := q
        by_cases cf : d.flat = true
        · rw [if_pos cf] at q
          exact fun v H' e' r' => q v H' e' (r'.flatAny cf)
        · rw [if_neg cf] at q; exact q.elim
    · rw [if_neg nf] at q; exact q.elim
def rMake (c : Str) (G : MF) (ds : List D) : R D := (G [] ds).bind fun p => match p.1 with
  | .non => if p.2.map (·.1) = flds c then .ok (.obj c (p.2.map (·.2))) else .bad
  | _ => .bad
def fMake (c : Str) (G : MF) (fl : FL) : FE := fun δ => (fl δ).bind fun ds => rMake c G ds
theorem made_same {H : Hp} {x dx C : Addr} (hx : H x = none) (hdx : H dx = none) (ne : dx ≠ x) : Same H (upd (upd H dx (.own x)) x (.ins C dx [])) := .of fun b o h => by
  have n1 : b ≠ x := fun z => by rw [z, hx] at h; cases h
  have n2 : b ≠ dx := fun z => by rw [z, hdx] at h; cases h
  rw [upd_ne n1, upd_ne n2]
  exact h
theorem made_sp {K : PySem.W.Frag} {S : Addr → Prop} {H : Hp} {n : Nat} {G : MF} {ds : List D} {x dx : Addr} {ws : List V} {Q : VK} (dm : Dom K S H) (hx : H x = none) (hdx : H dx = none) (ne : dx ≠ x) (r : RepL K S H ws ds) (hn : ds.length = n)
    (q : ResM K x (fun b => S b ∨ b = x) (upd (upd H dx (.own x)) x (.ins (He.ga K c) dx [])) E (G [] ds) fun d fs' => ∀ v H' dx' fv', KeepM (· = x) (upd (upd H dx (.own x)) x (.ins (He.ga K c) dx [])) H' → H' x = some (.ins (He.ga K c) dx' fv') → RepF K (fun b => S b ∨ b = x) H' fv' fs' → Rep K (fun b => S b ∨ b = x) H' v d → Q v H') :
    spM K c n G (.ref x :: ws) (upd (upd H dx (.own x)) x (.ins (He.ga K c) dx [])) Q E := by
  have sm := made_same (C := He.ga K c) hx hdx ne
  have ev : Ev S H (fun b => S b ∨ b = x) (upd (upd H dx (.own x)) x (.ins (He.ga K c) dx [])) := .new sm hx
  refine ⟨_, x, dx, [], [], ds, ws, rfl, ⟨fun b z => ?_, dm.tabs.mono sm⟩, .inr rfl, upd_same, .nil, r.ev ev, hn, q⟩
  rcases z with z | z
  · exact (dm.mono sm).at_ b z
  · exact ⟨_, by rw [z]; exact upd_same, ⟨fun ps z => (by cases z), fun ps z => (by cases z)⟩⟩
theorem keep_fresh {H H1 H' : Hp} {x : Addr} (sm : Same H H1) (hx : H x = none) (k : KeepM (· = x) H1 H') : Same H H' :=
  ⟨fun b o h nt _ => k.keep b o (sm.at b o h) nt fun z => (by rw [z, hx] at h; cases h), fun P t => k.tab P (sm.tab P t), fun b o h => let ⟨u, h1⟩ := sm.dom b o h; k.dom b u h1, fun b o h p => let ⟨u, h1, p1⟩ := sm.pl b o h p; k.pl b u h1 p1, fun b ps h => let ⟨qs, h1⟩ := sm.tb b ps h; k.tb b qs h1⟩
theorem make_end {K : PySem.W.Frag} {S : Addr → Prop} {H : Hp} {n : Nat} {G : MF} {ds : List D} {x dx : Addr} {ws : List V} {Q : VK} (hs : slotted c = false) (dm : Dom K S H) (hx : H x = none) (hdx : H dx = none) (ne : dx ≠ x) (r : RepL K S H ws ds) (hn : ds.length = n)
    (q : Res K S H E (rMake c G ds) fun d => ∀ v H', Same H H' → Rep K S H' v d → Q v H') : spM K c n G (.ref x :: ws) (upd (upd H dx (.own x)) x (.ins (He.ga K c) dx [])) (fun v H2 => v = .non ∧ Q (.ref x) H2) E := by
  have sm := made_same (C := He.ga K c) hx hdx ne
  refine made_sp dm hx hdx ne r hn ?_
  unfold rMake at q
  cases e : G [] ds with
  | bad => rw [e] at q; exact q.elim
  | exc z xs =>
    rw [e] at q
    have q : ∀ cls dx H', Same H H' → ExR K S H' cls dx z xs → E cls dx H' := q
    exact fun cls dx H' k x => q cls dx H' (keep_fresh sm hx k) (x.to fun b z => .inl z)
  | ok p =>
    rw [e, R.bind_ok] at q
    obtain ⟨d, fs⟩ := p
    cases d with
    | non =>
      have q : Res K S H E (if fs.map (·.1) = flds c then R.ok (.obj c (fs.map (·.2))) else .bad) (fun d => ∀ v H', Same H H' → Rep K S H' v d → Q v H') := q
      by_cases hf : fs.map (·.1) = flds c
      · rw [if_pos hf] at q
        intro v H' dx' fv' k hi rf rv
        have nS : ¬ S x := fun z => by
          obtain ⟨o, h, _⟩ := dm.at_ x z
          rw [hx] at h; cases h
        have e3 : (flds c).zip (fv'.map (·.2)) = fv' := by rw [← hf, ← rf.1]; exact zip_maps
        refine ⟨by cases rv; rfl, q (.ref x) H' (keep_fresh sm hx k) (.obj ⟨nS, dx', .inr ⟨hs, by rw [← hf, ← rf.1, List.length_map, List.length_map], by rw [e3]; exact hi⟩⟩ (rf.2.less fun b z => .inl z))⟩
      · rw [if_neg hf] at q; exact q.elim
    | _ => exact q.elim
def rMakeM (m : Str) (G G2 : MF) (ds : List D) : R D := (G [] ds).bind fun p => match p.1 with
  | .non => if noF m p.2 = true then (G2 p.2 []).bind fun q => .ok q.1 else .bad
  | _ => .bad
def fMakeM (m : Str) (G G2 : MF) (fl : FL) : FE := fun δ => (fl δ).bind (rMakeM m G G2)
end
end DL

namespace DL
open PySem PySem.Spec PyProof.Rows L2
section
variable {X : Cx} {e0 : Ent} {E : XK} {Eσ : Sg → XK} {k j : Nat} {pos p p2 apos : Pos} {x : Str} {st : Stmt} {rest : List Stmt} {F : FS} {a b o : Expr} {f g fo : FE} {es : List Expr} {fl : FL} {c m : Str} {i : Nat}
theorem de_makeM {fi fa : Addr} {fd : FuncData} {ps : List Str} {n : Nat} {G G2 : MF} {pl : Sem Bool} (C : Cls X.K (He.ga X.K c)) (hmm : Meth X.K (He.ga X.K c) m fa) (Fm : FnM X.prog X.w X.K X.mg X.base k fa c 0 G2) (M : Mk X.K (He.ga X.K c) fi)
    (Fn : FnOk X.prog X.w X.K X.mg X.base (L2.CX X.prog X.w) j fi fd ps (spM X.K c n G)) (hb : Binds X.K fd ps []) (hr : Room (j + 1) X.A) (hg : Gl X x) (hm : X.mg x = some (.ref (He.ga X.K c)))
    (B : Bd X Eσ k) (ha : DA X Eσ (b :: es) fl) (hn : (b :: es).length = n := by rfl) (hdb : (x == ("__debug__" : Str)) = false := by decide) (he : starEach (b :: es) X.env = (false, eval b X.env) :: starEach es X.env := by rfl) (hpl : (backTo p2 (starEach es X.env)).any (·.1) = false := by rfl)
    (ht : eval (.Call (.Attribute (.Call (.Name x p) (b :: es) [] p2) m apos) [] [] pos) X.env = (do
      let ov ← eval (.Call (.Name x p) (b :: es) [] p2) X.env
      standAt apos.atName
      let (f, first) ← holding [ov] (getMethod ov m pl)
      callWith pos f first (backTo pos (starEach [] X.env)) (backToKw pos (keywordEach [] X.env))) := by rfl) :
    DE X Eσ (.Call (.Attribute (.Call (.Name x p) (b :: es) [] p2) m apos) [] [] pos) (fMakeM m G G2 fl) := by
  refine PE.imp (pa_methR0 (pa_make M Fn hr hg hm hb B.pass ha.pa hdb ⟨he, hpl⟩) C hmm Fm B.room B.pass ht) fun σ H Q hq => ?_
  obtain ⟨S, δ, st, q⟩ := hq
  refine ⟨S, δ, st, ?_⟩
  unfold fMakeM at q
  have q1 := Res.on q
  cases r : fl δ with
  | bad => rw [r] at q1; exact q1.elim
  | exc n xs => rw [r] at q1; exact q1
  | ok ds =>
    rw [r] at q1
    intro vs H1 e1 r1 xa dxa h1 h2 h3
    rw [List.append_nil]
    have sm := made_same (C := He.ga X.K c) h1 h2 h3
    have hx0 : H xa = none := by
      cases z : H xa with
      | none => rfl
      | some u => obtain ⟨_, this⟩ := e1.dom xa u z; rw [h1] at this; cases this
    refine made_sp (st.mono e1).here h1 h2 h3 r1 ((ha.len δ ds r).trans hn) ?_
    have q1 : Res X.K S H (Eσ σ) (rMakeM m G G2 ds) (fun d => ∀ v H', Same H H' → Rep X.K S H' v d → Q v H') := q1
    unfold rMakeM at q1
    cases e : G [] ds with
    | bad => rw [e] at q1; exact q1.elim
    | exc z xs =>
      rw [e] at q1
      exact fun cls dx H' kp w => (show ∀ cls dx H', Same H H' → ExR X.K S H' cls dx z xs → Eσ σ cls dx H' from q1) cls dx H' (e1.trans (keep_fresh sm h1 kp)) (w.to fun b z => .inl z)
    | ok pr =>
      rw [e] at q1
      obtain ⟨d, fs⟩ := pr
      cases d with
      | non =>
        intro v H' dx' fv' kp hi rf rv
        refine ⟨by cases rv; rfl, xa, dx', fv', rfl, hi, ?_⟩
        have q2 : Res X.K S H (Eσ σ) (if noF m fs = true then (G2 fs []).bind fun q => R.ok q.1 else .bad) (fun d => ∀ v H', Same H H' → Rep X.K S H' v d → Q v H') := q1
        by_cases nf : noF m fs = true
        · rw [if_pos nf] at q2
          refine ⟨rf.no (noF_of nf), fun b => S b ∨ b = xa, xa, dx', fv', fs, [], [], rfl, ⟨fun b z => ?_, st.here.tabs.mono (e1.trans (keep_fresh sm h1 kp))⟩, .inr rfl, hi, rf, .nil, rfl, ?_⟩
          · rcases z with z | z
            · exact (st.here.mono (e1.trans (keep_fresh sm h1 kp))).at_ b z
            · exact ⟨_, by rw [z]; exact hi, ⟨fun ps z => (by cases z), fun ps z => (by cases z)⟩⟩
          · have ek : Same H H' := e1.trans (keep_fresh sm h1 kp)
            cases e2 : G2 fs [] with
            | bad => rw [e2] at q2; exact q2.elim
            | exc z xs =>
              rw [e2] at q2
              exact fun cls dx H2 kp2 w => (show ∀ cls dx H', Same H H' → ExR X.K S H' cls dx z xs → Eσ σ cls dx H' from q2) cls dx H2 (keep_fresh ek hx0 kp2) (w.to fun b z => .inl z)
            | ok pr2 =>
              rw [e2] at q2
              exact fun v2 H2 dx2 fv2 kp2 _ _ rv2 => (show ∀ v H', Same H H' → Rep X.K S H' v pr2.1 → Q v H' from q2) v2 H2 (keep_fresh ek hx0 kp2) (rv2.less fun b z => .inl z)
        · rw [if_neg nf] at q2; exact q2.elim
      | _ => exact q1.elim
def isOb (c : Str) : D → Bool
  | .obj c' _ => decide (c' = c)
  | _ => false
theorem isOb_of {c : Str} {d : D} (h : isOb c d = true) : ∃ xs, d = .obj c xs := by
  cases d with
  | obj c' xs => exact ⟨xs, by rw [show c' = c from of_decide_eq_true h]⟩
  | _ => cases h
def fMethF (c : Str) (G : List D → R D) (fo : FE) (fl : FL) : FE := fun δ => (fo δ).bind fun o => if isOb c o = true then (fl δ).bind fun ds => G (o :: ds) else .bad
theorem meth_f {n : Nat} {G : List D → R D} {σ : Sg} {H : Hp} {Q : VK} {od : D} {v : V} {H1 : Hp} {S : Addr → Prop} {δ : DSt} (st : StE X.K S σ H δ) (e1 : Same H H1) (rv : Rep X.K S H1 v od) (ha : DA X Eσ es fl) (hn : es.length = n)
    (q : Res X.K S H (Eσ σ) ((fl δ).bind fun ds => G (od :: ds)) fun d => ∀ v H', Same H H' → Rep X.K S H' v d → Q v H') : tDL X.K Eσ fl σ H1 fun ws H2 => spD X.K (n + 1) G (v :: ws) H2 Q (Eσ σ) := by
  refine ⟨S, δ, st.mono e1, ?_⟩
  have q' := Res.on (q.mono e1)
  cases r : fl δ with
  | bad => rw [r] at q'; exact q'.elim
  | exc n xs => rw [r] at q'; exact q'
  | ok ds =>
    rw [r] at q'
    exact fun ws H2 e2 r2 => ⟨S, od :: ds, ((st.mono e1).mono e2).here, .cons (rv.mono e2) r2, by rw [List.length_cons, ha.len δ ds r, hn], (Res.mono e2 (show Res X.K S H1 (Eσ σ) (G (od :: ds)) (fun d => ∀ v H', Same H H' → Rep X.K S H' v d → Q v H') from q')).imp fun d q2 v H3 e3 r3 => q2 v H3 (e1.trans (e2.trans e3)) r3⟩
theorem meth_f0 {G : List D → R D} {σ : Sg} {H : Hp} {Q : VK} {od : D} {v : V} {H1 : Hp} {S : Addr → Prop} {δ : DSt} (st : StE X.K S σ H δ) (e1 : Same H H1) (rv : Rep X.K S H1 v od)
    (q : Res X.K S H E (G [od]) fun d => ∀ v H', Same H H' → Rep X.K S H' v d → Q v H') : spD X.K 1 G [v] H1 Q E :=
  ⟨S, [od], (st.mono e1).here, .cons rv .nil, rfl, (q.mono e1).imp fun d q2 v H3 e3 r3 => q2 v H3 (e1.trans e3) r3⟩
def fProp (c : Str) (G : List D → R D) (fo : FE) : FE := fun δ => (fo δ).bind fun o => if isOb c o = true then (G [o]).quiet else .bad
theorem quiet_sp {K : PySem.W.Frag} {S : Addr → Prop} {H : Hp} {r : R D} {P : D → Prop} (h : Res K S H E r.quiet P) : Res K S H E0 r P := by
  cases r with
  | ok d => exact h
  | exc n xs => exact h.elim
  | bad => exact h
theorem de_propF {pa fa : Addr} {fd : FuncData} {ps : List Str} {G : List D → R D} {fn : Str} (hs : slotted c = false) (C : Cls X.K (He.ga X.K c)) (hp : PropOf X.K (He.ga X.K c) fn pa fa) (Fn : FnOk X.prog X.w X.K X.mg X.base (L2.CX X.prog X.w) k fa fd ps (spD X.K 1 G)) (hb : Binds X.K fd ps []) (hr : Room (k + 1) X.A) (ho : DE X Eσ o fo)
    (hab : attributeBase o fn X.env (eval o X.env) = eval o X.env := by rfl) : DE X Eσ (.Attribute o fn pos) (fProp c G fo) := by
  refine PE.imp (pe_prop ho C hp Fn hr hb .nil passL hab) fun σ H Q hq => ?_
  obtain ⟨S, δ, st, q⟩ := hq
  refine ⟨S, δ, st, (Res.on q).imp fun od q1 v H1 e1 r1 => ?_⟩
  by_cases io : isOb c od = true
  · rw [if_pos io] at q1
    obtain ⟨xs, rfl⟩ := isOb_of io
    obtain ⟨a, dx, vs, w1, _, w2, w3⟩ := r1.objI hs
    subst w1
    exact ⟨a, dx, _, rfl, w2, meth_f0 st e1 r1 (quiet_sp q1)⟩
  · rw [if_neg io] at q1; exact q1.elim
theorem de_propS {pa fa : Addr} {G : List D → R D} {fn : Str} (hs : slotted c = true) (C : SlX.SCls X.K (He.ga X.K c)) (hp : PropOf X.K (He.ga X.K c) fn pa fa) (Fn : FnG X.prog X.w X.K X.mg X.base k fa 1 G) (hr : Room (k + 1) X.A) (ho : DE X Eσ o fo)
    (hab : attributeBase o fn X.env (eval o X.env) = eval o X.env := by rfl) : DE X Eσ (.Attribute o fn pos) (fProp c G fo) := by
  refine PE.imp (SlX.pe_propSl (E := E0) ho C hp.at_ hp.get hp.tak hp.rec_ Fn hr (fun H s e s' z => by
    obtain ⟨_, _, _, _, _, _, _, _, _, _, _, _, w⟩ := z
    exact w.elim) hab) fun σ H Q hq => ?_
  obtain ⟨S, δ, st, q⟩ := hq
  refine ⟨S, δ, st, (Res.on q).imp fun od q1 v H1 e1 r1 => ?_⟩
  by_cases io : isOb c od = true
  · rw [if_pos io] at q1
    obtain ⟨xs, rfl⟩ := isOb_of io
    obtain ⟨a, dx, vs, w1, w2, w3⟩ := r1.objS hs
    subst w1
    exact ⟨a, dx, _, rfl, w2, meth_f0 st e1 r1 (quiet_sp q1)⟩
  · rw [if_neg io] at q1; exact q1.elim
theorem de_cmeth {mc : Value} {pa fa : Addr} {n : Nat} {G : List D → R D} {pl : Sem Bool} (r : ClX.CRead X.K (He.ga X.K c) mc) (cm : ClX.CMet X.K (He.ga X.K c) mc m pa fa) (Fn : FnG X.prog X.w X.K X.mg X.base k fa (n + 1) G) (B : Bd X Eσ k) (hg : Gl X c) (hm : X.mg c = some (.ref (He.ga X.K c))) (ha : DA X Eσ (b :: es) fl) (hn : (b :: es).length = n := by rfl)
    (hdb : (c == ("__debug__" : Str)) = false := by decide) (hst : starEach (b :: es) X.env = (false, eval b X.env) :: starEach es X.env := by rfl) (hpl : (backTo pos (starEach es X.env)).any (·.1) = false := by rfl)
    (ht : eval (.Call (.Attribute (.Name c p) m apos) (b :: es) [] pos) X.env = (do
      let ov ← eval (.Name c p) X.env
      standAt apos.atName
      let (f, first) ← holding [ov] (getMethod ov m pl)
      callWith pos f first (backTo pos (starEach (b :: es) X.env)) (backToKw pos (keywordEach [] X.env))) := by rfl) :
    DE X Eσ (.Call (.Attribute (.Name c p) m apos) (b :: es) [] pos) (fCall (fun ds => G (.fn c :: ds)) fl) := by
  refine PE.imp (pa_cmeth (pe_glob (v := .ref (He.ga X.K c)) hg hm rfl hdb) r cm Fn B.room B.pass ha.pa ⟨hst, hpl⟩ ht) fun σ H Q hq => ?_
  obtain ⟨S, δ, st, q⟩ := hq
  exact ⟨rfl, meth_f st (Same.refl _) (.fn c) ha hn q⟩
def fMakeL (c : Str) (i : Nat) (G : MF) (fl : FL) : FE := fun δ => (fVar i δ).bind fun d => match d with
  | .fn c' => if c' = c then fMake c G fl δ else .bad
  | _ => .bad
theorem de_makeL {fi : Addr} {fd : FuncData} {ps : List Str} {n : Nat} {G : MF} (i : Nat) (hs : slotted c = false) (M : Mk X.K (He.ga X.K c) fi) (Fn : FnOk X.prog X.w X.K X.mg X.base (L2.CX X.prog X.w) k fi fd ps (spM X.K c n G)) (hb : Binds X.K fd ps []) (hr : Room (k + 1) X.A) (B : Bd X Eσ j)
    (ha : DA X Eσ (b :: es) fl) (hn : (b :: es).length = n := by rfl) (hN : X.N[i]? = some x := by rfl) (hv : Vis X.env.scope x := by first | exact Or.inl rfl | exact Or.inr (Or.inl rfl) | exact Or.inr (Or.inr rfl))
    (hdb : (x == ("__debug__" : Str)) = false := by decide) (hcd : (x == ("__classdict__" : Str)) = false := by decide) (he : starEach (b :: es) X.env = (false, eval b X.env) :: starEach es X.env := by rfl) (hpl : (backTo pos (starEach es X.env)).any (·.1) = false := by rfl) :
    DE X Eσ (.Call (.Name x p) (b :: es) [] pos) (fMakeL c i G fl) := by
  refine ⟨fun pins s σ H Q I h => ?_⟩
  obtain ⟨S, δ, st, q⟩ := h
  unfold fMakeL fVar at q
  cases hd : δ[i]? with
  | none => rw [hd] at q; exact q.elim
  | some t =>
    rw [hd] at q
    cases t with
    | fz d =>
      obtain ⟨o, w1, v, w2, w3⟩ := st.slot i _ hd
      subst w2
      cases d with
      | fn c' =>
        have q : Res X.K S H (Eσ σ) (if c' = c then fMake c G fl δ else .bad) (fun d => ∀ v H', Same H H' → Rep X.K S H' v d → Q v H') := q
        by_cases ec : c' = c
        · rw [if_pos ec] at q
          subst ec
          cases w3
          refine wpAny_Call_Name_kw (thn ((pe_var (pos := p) hN hv hdb hcd).run pins s σ H (fun v H1 => v = .ref (He.ga X.K c') ∧ H1 = H) I ⟨_, w1, rfl, rfl⟩) fun u s1 ⟨v, H1, I1, r1, q1⟩ => ?_)
          obtain ⟨rfl, rfl⟩ := q1
          cases r1
          have q1 := Res.on (show Res X.K S H1 (Eσ σ) ((fl δ).bind fun ds => rMake c' G ds) _ from q)
          have key : tDL X.K Eσ fl σ H1 fun vs H2 => ∀ xa dxa, H2 xa = none → H2 dxa = none → dxa ≠ xa → spM X.K c' n G (.ref xa :: (vs ++ [])) (upd (upd H2 dxa (.own xa)) xa (.ins (He.ga X.K c') dxa [])) (fun v H3 => v = .non ∧ Q (.ref xa) H3) (Eσ σ) := by
            refine ⟨S, δ, st, ?_⟩
            cases r : fl δ with
            | bad => rw [r] at q1; exact q1.elim
            | exc n xs => rw [r] at q1; exact q1
            | ok ds =>
              rw [r] at q1
              intro vs H2 e1 r1 xa dxa h1 h2 h3
              rw [List.append_nil]
              exact make_end hs (st.mono e1).here h1 h2 h3 r1 ((ha.len δ ds r).trans hn) ((Res.mono e1 (show Res X.K S H1 (Eσ σ) (rMake c' G ds) _ from q1)).imp fun d q2 v H' e' r' => q2 v H' (e1.trans e') r')
          refine PySem.W.callWith_K (h₀ := X.base) I.ok.mod.kin M.kp (thn (ha.pa.run pos pins s1 σ H1 _ I1 key) fun us s2 ⟨vs, H2, I2, r, q2⟩ => ⟨I2.kIn, ?_⟩) he hpl
          exact made_at M Fn hr hb (B.pass σ) I2 r fun y dy a b c => by
            have := q2 y dy a b c
            rw [List.append_nil] at this
            exact this
        · rw [if_neg ec] at q; exact q.elim
      | _ => exact q.elim
    | _ => exact q.elim
end
end DL

namespace DL
open PySem PySem.Spec PyProof.Rows L2
section
variable {X : Cx} {e0 : Ent} {E : XK} {Eσ : Sg → XK} {k j : Nat} {pos p p2 apos : Pos} {x : Str} {st : Stmt} {rest : List Stmt} {F : FS} {a b o : Expr} {f g fo : FE} {es : List Expr} {fl : FL} {c m : Str} {i : Nat}
def fBad : FS := fun _ => .bad
theorem dss_bad {ss : List Stmt} : DSts X e0 E ss fBad := ⟨fun pins s σ H D I h => by
  obtain ⟨S, δ, _, q⟩ := h
  exact q.elim⟩
def eBad : FE := fun _ => .bad
theorem de_kstr {z : Str} (hm : ∃ t, X.mg x = some (.str z t)) (hg : Gl X x) (hd : (x == ("__debug__" : Str)) = false := by decide) : DE X Eσ (.Name x pos) (fC (.str z)) := by
  obtain ⟨t, h⟩ := hm
  exact de_glob (v := .str z) hg h ⟨t, rfl⟩ (fun _ _ => .str z) hd
theorem de_kint {z : Int} (hm : ∃ t, X.mg x = some (.int z t)) (hg : Gl X x) (hd : (x == ("__debug__" : Str)) = false := by decide) : DE X Eσ (.Name x pos) (fC (.int z)) := by
  obtain ⟨t, h⟩ := hm
  exact de_glob (v := .int z) hg h ⟨t, rfl⟩ (fun _ _ => .int z) hd
def KTup (K : PySem.W.Frag) (a : Addr) (zs : List Str) : Prop := LitT K a (zs.map V.str)
theorem repL_strD {K : PySem.W.Frag} {S : Addr → Prop} {H : Hp} : ∀ zs : List Str, RepL K S H (zs.map V.str) (zs.map D.str)
  | [] => .nil
  | z :: zs => .cons (.str z) (repL_strD zs)
theorem de_ktup {zs : List Str} (ht : KTup X.K (He.ga X.K x) zs) (hm : X.mg x = some (.ref (He.ga X.K x))) (hg : Gl X x) (hd : (x == ("__debug__" : Str)) = false := by decide) : DE X Eσ (.Name x pos) (fC (.tup (zs.map .str))) :=
  de_glob (v := .ref (He.ga X.K x)) hg hm rfl (fun _ _ => .ltp ht (repL_strD zs)) hd
def dGcd : List D → Option D
  | [.int a, .int b] => some (.int (Nat.gcd a.natAbs b.natAbs : Nat))
  | _ => none
def dLcm : List D → Option D
  | [.int a, .int b] => if (lim 64 a && lim 64 b) = true then some (.int (Nat.lcm a.natAbs b.natAbs : Nat)) else none
  | [.int a, .int b, .int c] => if (lim 64 a && (lim 64 b && lim 64 c)) = true then some (.int (Nat.lcm (Nat.lcm a.natAbs b.natAbs) c.natAbs : Nat)) else none
  | _ => none
theorem cd_gcd : CallD X (.builtin "math.gcd") dGcd := by
  intro pins s σ H xs us Q I r q
  obtain ⟨S, ds, z, dm, rl, hz, q⟩ := q
  unfold dGcd at hz
  split at hz
  · cases hz
    obtain ⟨v1, v2, rfl, r1, r2⟩ := vl2 rl
    exact cr_gcd pins s σ H _ us Q I r ⟨_, _, by rw [r1.intE, r2.intE], q.here (.int _)⟩
  · cases hz
theorem lcm_fits {n : Nat} (h : n < 2 ^ 200) : ((n : Nat) : Int).natAbs.log2 < bitsLine := by
  rw [Int.natAbs_natCast]
  by_cases z : n = 0
  · subst z; decide
  · exact Nat.lt_of_lt_of_le ((Nat.log2_lt z).mpr h) (by decide)
theorem lcm_lt {a b j k : Nat} (ha : a < 2 ^ j) (hb : b < 2 ^ k) : Nat.lcm a b < 2 ^ (j + k) := by
  by_cases z : a = 0
  · subst z; rw [Nat.lcm_zero_left]; exact Nat.two_pow_pos _
  · by_cases y : b = 0
    · subst y; rw [Nat.lcm_zero_right]; exact Nat.two_pow_pos _
    · have h1 : Nat.lcm a b ≤ a * b := Nat.le_of_dvd (Nat.mul_pos (Nat.pos_of_ne_zero z) (Nat.pos_of_ne_zero y)) (Nat.lcm_dvd_mul a b)
      rw [Nat.pow_add]
      exact Nat.lt_of_le_of_lt h1 (Nat.mul_lt_mul'' ha hb)
theorem args_lcm3 (a b c : Value) : argsOk "math.lcm" ⟨[a, b, c], []⟩ := by unfold argsOk; kernel_rfl
theorem run_lcm3 (a : Int) (t : Tok) (b : Int) (u : Tok) (c : Int) (v : Tok) (h1 : ¬ (max 1 a.natAbs).log2 / 30 + 1 > 450) (h2 : ¬ (max ((Nat.lcm 1 a.natAbs)) b.natAbs).log2 / 30 + 1 > 450) (h3 : ¬ (max ((Nat.lcm 1 a.natAbs).lcm b.natAbs) c.natAbs).log2 / 30 + 1 > 450)
    (hz : (((((Nat.lcm 1 a.natAbs).lcm b.natAbs).lcm c.natAbs : Nat) : Int)).natAbs.log2 < bitsLine) :
    PySem.Gives (Builtin.«math.lcm» ⟨[.int a t, .int b u, .int c v], []⟩) (.int (((((Nat.lcm 1 a.natAbs).lcm b.natAbs).lcm c.natAbs : Nat) : Int))) :=
  .of_wp fun M A E s Q h => by
    obtain ⟨hp, g, d, tk, os⟩ := s
    wp_walk
    rw [if_neg h2]
    wp_walk
    rw [if_neg h3]
    wp_walk
    all_goals (try (refine wpAny_ite_false (decide_eq_false (Nat.not_le.mpr hz)) ?_; wp_walk))
    exact ⟨_, rfl, h⟩
theorem log_le {n k : Nat} (h : n < 2 ^ (k + 1)) : n.log2 ≤ k := PySem.W.mg_log h
theorem vl3 {K : PySem.W.Frag} {S : Addr → Prop} {H : Hp} {xs : List V} {d e f : D} (r : RepL K S H xs [d, e, f]) : ∃ v w u, xs = [v, w, u] ∧ Rep K S H v d ∧ Rep K S H w e ∧ Rep K S H u f := by
  cases r with
  | cons r1 r => cases r with
    | cons r2 r => cases r with
      | cons r3 r => cases r; exact ⟨_, _, _, rfl, r1, r2, r3⟩
theorem cd_lcm : CallD X (.builtin "math.lcm") dLcm := by
  intro pins s σ H xs us Q I r q
  obtain ⟨S, ds, z, dm, rl, hz, q⟩ := q
  unfold dLcm at hz
  split at hz
  · rename_i a b
    by_cases cl : (lim 64 a && lim 64 b) = true
    · rw [if_pos cl] at hz
      cases hz
      obtain ⟨c1, c2⟩ := Bool.and_eq_true_iff.mp cl
      have c1 := lim_abs c1
      have c2 := lim_abs c2
      obtain ⟨v1, v2, rfl, r1, r2⟩ := vl2 rl
      rw [r1.intE, r2.intE] at r
      obtain ⟨t, u, rfl⟩ := Vals.int2 r
      have e : (Nat.lcm 1 a.natAbs).lcm b.natAbs = Nat.lcm a.natAbs b.natAbs := by rw [Nat.lcm_one_left]
      exact PySem.W.mg_lcm_v c1 c2 (by rw [e]) (lcm_fits (Nat.lt_trans (lcm_lt c1 c2) (by decide))) ⟨.int _, H, I.tok _, ⟨_, rfl⟩, q.here (.int _)⟩
    · rw [if_neg cl] at hz; cases hz
  · rename_i a b c
    by_cases cl : (lim 64 a && (lim 64 b && lim 64 c)) = true
    · rw [if_pos cl] at hz
      cases hz
      obtain ⟨c1, c23⟩ := Bool.and_eq_true_iff.mp cl
      obtain ⟨c2, c3⟩ := Bool.and_eq_true_iff.mp c23
      have c1 := lim_abs c1
      have c2 := lim_abs c2
      have c3 := lim_abs c3
      obtain ⟨v1, v2, v3, rfl, r1, r2, r3⟩ := vl3 rl
      rw [r1.intE, r2.intE, r3.intE] at r
      obtain ⟨t, u, w, rfl⟩ : ∃ t u w, us = [.int a t, .int b u, .int c w] := by
        cases r with
        | cons p1 r => cases r with
          | cons p2 r => cases r with
            | cons p3 r =>
              cases r
              obtain ⟨t, rfl⟩ := p1
              obtain ⟨u, rfl⟩ := p2
              obtain ⟨w, rfl⟩ := p3
              exact ⟨t, u, w, rfl⟩
      have e : (Nat.lcm 1 a.natAbs) = a.natAbs := Nat.lcm_one_left _
      have l1 := lcm_lt c1 c2
      have l2 := lcm_lt l1 c3
      have h1 : (max 1 a.natAbs).log2 ≤ 63 := log_le (by show max 1 a.natAbs < 2 ^ 64; omega)
      have h2 : (max (Nat.lcm 1 a.natAbs) b.natAbs).log2 ≤ 63 := log_le (by rw [e]; show max a.natAbs b.natAbs < 2 ^ 64; omega)
      have h3 : (max ((Nat.lcm 1 a.natAbs).lcm b.natAbs) c.natAbs).log2 ≤ 127 := log_le (by rw [e]; show max (Nat.lcm a.natAbs b.natAbs) c.natAbs < 2 ^ 128; omega)
      have g := run_lcm3 a t b u c w (by omega) (by omega) (by omega) (by rw [e]; exact lcm_fits (Nat.lt_of_lt_of_le l2 (by decide)))
      rw [e] at g
      exact PySem.call_function_meets PySem.W.MGF.kind_lcm PySem.W.MGF.plain_lcm PySem.W.MGF.entry_lcm (args_lcm3 _ _ _) g.meets ⟨.int _, H, I.tok _, ⟨_, rfl⟩, q.here (.int _)⟩
    · rw [if_neg cl] at hz; cases hz
  · cases hz
theorem de_callM {id : String} {G : List D → Option D} (hc : CallD X (.builtin id) G) (hg : Gl X x) (hm : X.mg x = some (.builtin id)) (ha : DA X Eσ (b :: es) fl) (hdb : (x == ("__debug__" : Str)) = false := by decide)
    (he : starEach (b :: es) X.env = (false, eval b X.env) :: starEach es X.env := by rfl) (hpl : (backTo pos (starEach es X.env)).any (·.1) = false := by rfl) : DE X Eσ (.Call (.Name x p) (b :: es) [] pos) (fL G fl) :=
  PE.imp (pe_callBfun hc hg hm ha.pa hdb he hpl) fun σ H Q h => cb_of (f := .builtin id) h
def dIntS : List D → Option D
  | [.int i] => some (.int i)
  | [.str z] => match intText? z with
    | some n => if Nat.ble z.length 640 = true then some (.int n) else none
    | none => none
  | _ => none
theorem cd_intS : CallD X (.type "int") dIntS := by
  intro pins s σ H xs us Q I r q
  obtain ⟨S, ds, z, dm, rl, hz, q⟩ := q
  unfold dIntS at hz
  split at hz
  · cases hz
    obtain ⟨v, rfl, r1⟩ := vl1 rl
    exact call_int1 pins s σ H _ us Q I r (.inl ⟨_, by rw [r1.intE], q.here (.int _)⟩)
  · rename_i z'
    obtain ⟨v, rfl, r1⟩ := vl1 rl
    cases e : intText? z' with
    | none => rw [e] at hz; cases hz
    | some n =>
      rw [e] at hz
      by_cases cl : Nat.ble z'.length 640 = true
      · simp only [cl, if_true, Option.some.injEq] at hz
        subst hz
        exact call_int_str pins s σ H _ us Q I r ⟨z', n, by rw [r1.strE], e, Nat.le_of_ble_eq_true cl, q.here (.int _)⟩
      · simp only [cl] at hz
        cases hz
  · cases hz
def dAddS : D → D → Option D
  | .int i, .int j => some (.int (i + j))
  | .str x, .str y => if okLe (x.length + y.length) = true then some (.str (x ++ y)) else none
  | _, _ => none
theorem iopd_add : OpD X (inplaceOp .Add) dAddS := by
  intro pins s σ H x y v u Q I rx ry q
  obtain ⟨S, d, e, z, dm, r1, r2, hz, q⟩ := q
  unfold dAddS at hz
  split at hz
  · cases hz
    exact iop_add pins s σ H x y v u Q I rx ry ⟨_, _, r1.intE, r2.intE, q.here (.int _)⟩
  · rename_i x' y'
    by_cases cl : okLe (x'.length + y'.length) = true
    · rw [if_pos cl] at hz
      cases hz
      exact iop_add_str pins s σ H x y v u Q I rx ry ⟨_, _, r1.strE, r2.strE, okLe_of cl, q.here (.str _)⟩
    · rw [if_neg cl] at hz
      cases hz
  · cases hz
theorem iopd_sub : OpD X (inplaceOp .Sub) dSub := by
  intro pins s σ H x y v u Q I rx ry q
  obtain ⟨S, d, e, z, dm, r1, r2, hz, q⟩ := q
  unfold dSub at hz
  split at hz
  · cases hz
    exact iop_sub pins s σ H x y v u Q I rx ry ⟨_, _, r1.intE, r2.intE, q.here (.int _)⟩
  · cases hz
end
end DL

namespace DL
open PySem PySem.Spec PyProof.Rows L2
def dIntB : List D → Option D
  | [.bl b] => some (.int (if b then 1 else 0))
  | _ => none
end DL

namespace DL
open PySem PySem.Spec PyProof.Rows L2
section
variable {X : Cx} {E : XK} {Eσ : Sg → XK} {pos pos' : Pos} {a o e : Expr} {rest : List Stmt} {c f : Str} {p : Addr}
def tRun (C : Addr) (is : List Nat) (k : Nat) : TS := fun D σ H => ∃ (a dx : Addr) (pre post : List V) (more : List (Option V)), σ = some (.ref a) :: ((pre ++ post).map some ++ more) ∧ pre.length = k ∧ (pre ++ post).length = is.length ∧ dx ≠ a ∧ SlX.Slt H a C dx (stS (is.take k) pre []) ∧ D.nx σ (SlX.slH H a C dx (stS is (pre ++ post) []))
theorem stS_len : ∀ {is : List Nat} {vs : List V} {ms : List (Option V)}, ms.length ≤ (stS is vs ms).length
  | [], _, _ => by unfold stS; exact Nat.le_refl _
  | _ :: _, [], _ => by unfold stS; exact Nat.le_refl _
  | i :: is, v :: vs, ms => by
    unfold stS
    refine Nat.le_trans ?_ stS_len
    unfold SlX.putS
    rw [List.length_set, List.length_append]
    omega
theorem run_end {C : Addr} {is : List Nat} {n : Nat} (hn : is.length = n) (h0 : n ≠ 0) : PSs X [] (tRun C is n) := by
  refine PSs.imp pss_nil fun D σ H h => ?_
  obtain ⟨a, dx, pre, post, more, e1, e2, e3, ne, hs, q⟩ := h
  have e4 : post = [] := by
    rw [List.length_append] at e3
    exact List.length_eq_zero_iff.mp (by omega)
  subst e4
  rw [List.append_nil] at q
  rw [List.take_of_length_le (by omega)] at hs
  rcases hs with ⟨_, z⟩ | ⟨h1, h2⟩
  · exfalso
    match is, pre, e2, hn with
    | [], _, _, hn => exact h0 hn.symm
    | _ :: _, [], e2, hn => exact h0 e2.symm
    | i :: is, v :: pre, _, _ =>
      have l : (SlX.putS i v []).length ≤ (stS (i :: is) (v :: pre) []).length := stS_len (ms := SlX.putS i v [])
      rw [z] at l
      unfold SlX.putS at l
      rw [List.length_set, List.length_append, List.length_replicate] at l
      simp at l
  · have e5 : SlX.slH H a C dx (stS is pre []) = H := by
      funext b
      by_cases hb : b = a
      · subst hb; exact (upd_same).trans h1.symm
      · by_cases hd : b = dx
        · subst hd
          unfold SlX.slH
          rw [upd_ne hb]
          exact (upd_same).trans h2.symm
        · exact SlX.slH_ne hb hd
    rw [e5] at q
    exact q
theorem run_step {C : Addr} {is : List Nat} {k i : Nat} (S : SlX.SCls X.K C) (t : SlX.Slot1 X.K C f p i) (ho : PE X o (tVar 0)) (he : PE X e (tVar (k + 1))) (hr : PSs X rest (tRun C is (k + 1))) (hi : is[k]? = some i)
    (hs : swapsWith e (some (.Attribute o f pos')) pos.line X.env = pure false := by rfl) : PSs X (.Assign [.Attribute o f pos'] e pos :: rest) (tRun C is k) := by
  refine PSs.imp (pss_cons (SlX.ps_sl ho he hs) hr) fun D σ H h => ?_
  obtain ⟨a, dx, pre, post, more, e1, e2, e3, ne, hsl, q⟩ := h
  have hk : k < is.length := (List.getElem?_eq_some_iff.mp hi).1
  cases post with
  | nil =>
    rw [List.append_nil] at e3
    omega
  | cons v post =>
    refine ⟨v, ?_, .ref a, ?_, a, C, dx, p, stS (is.take k) pre [], i, rfl, hsl, S, t, ?_⟩
    · rw [e1, List.getElem?_cons_succ, List.map_append, List.append_assoc, List.getElem?_append_right (by rw [List.length_map]; omega), List.length_map, e2, Nat.sub_self]
      rfl
    · rw [e1]; rfl
    · have ep : SlX.putS i v (stS (is.take k) pre []) = stS (is.take (k + 1)) (pre ++ [v]) [] := by
        rw [List.take_succ, hi]
        exact (stS_snoc (by rw [List.length_take, e2]; omega)).symm
      rw [ep]
      have ea : pre ++ [v] ++ post = pre ++ v :: post := by rw [List.append_assoc]; rfl
      refine ⟨a, dx, pre ++ [v], post, more, by rw [ea]; exact e1, by rw [List.length_append, e2]; rfl, by rw [ea]; exact e3, ne, SlX.slH_slt ne, ?_⟩
      rw [ea, SlX.slH_twice ne]
      exact q
end
def spSl (K : PySem.W.Frag) (c : Str) (n : Nat) : Sp := fun vs H Q _ => ∃ (a dx : Addr) (ws : List V), vs = .ref a :: ws ∧ ws.length = n ∧ dx ≠ a ∧ H a = some (.ins (He.ga K c) dx []) ∧ Q .non (SlX.slH H a (He.ga K c) dx (stS (ordS c) ws []))
section
variable {P : Program} {w : World} {K : PySem.W.Frag} {mg : Str → Option Value} {base : Heap}
theorem fnok_sl {x qual : Str} {params : Arguments} {body : List Stmt} {scope : Scope} {dvs : List V} {kws : List (Str × V)} {f : Addr} {fd : FuncData} {N ps : List Str} {c : Str} {n k : Nat} (Fd : FunD K x qual params body scope dvs kws f fd) (Sc : FnScope N ps scope) (hn : ps.length = n + 1)
    (hbody : ∀ (cdv : Value) (A : Around) (outer : List Env) (s : Shared) (H : Hp) (E : XK), PSs (cxOf (L2.CX P w) P w K mg base N qual scope f cdv A outer s H E) body (tRun (He.ga K c) (ordS c) 0)) (ho : (ordS c).length = n) : FnOk P w K mg base (L2.CX P w) (k + 1) f fd ps (spSl K c n) := by
  refine FunD.ok (CX := L2.CX P w) Fd Sc (fun vs H Q E h => ?_) (fun cdv A outer s H vs Q E hr h => ?_)
  · obtain ⟨a, dx, ws, e, hl, _⟩ := h
    rw [e, List.length_cons, hl, hn]
  · obtain ⟨a, dx, ws, e, hl, ne, hi, q⟩ := h
    subst e
    refine ⟨_, hbody cdv A outer s H E, a, dx, [], ws, List.replicate (N.length - (ws.length + 1)) none, ?_, rfl, hl.trans ho.symm, ne, .inl ⟨hi, rfl⟩, q⟩
    unfold L2.start
    rw [List.map_cons, List.length_cons]
    rfl
end
section
variable {X : Cx} {E : XK} {Eσ : Sg → XK} {k : Nat} {pos p : Pos} {x : Str} {b : Expr} {es : List Expr} {fl : FL} {c : Str}
def fMakeS (c : Str) (n : Nat) (fl : FL) : FE := fun δ => (fl δ).bind fun ds => if ds.length = n then .ok (.obj c ds) else .bad
theorem makeS_end {K : PySem.W.Frag} {S : Addr → Prop} {H : Hp} {n : Nat} {ds : List D} {xa dx : Addr} {ws : List V} {Q : VK} (hs : slotted c = true) (dm : Dom K S H) (hx : H xa = none) (hdx : H dx = none) (ne : dx ≠ xa) (r : RepL K S H ws ds) (hn : ds.length = n)
    (q : ∀ v H', Same H H' → Rep K S H' v (.obj c ds) → Q v H') : spSl K c n (.ref xa :: ws) (upd (upd H dx (.own xa)) xa (.ins (He.ga K c) dx [])) (fun v H2 => v = .non ∧ Q (.ref xa) H2) E := by
  refine ⟨xa, dx, ws, rfl, r.length.trans hn, ne, upd_same, rfl, ?_⟩
  have sm : Same H (SlX.slH (upd (upd H dx (.own xa)) xa (.ins (He.ga K c) dx [])) xa (He.ga K c) dx (stS (ordS c) ws [])) := .of fun b' o h => by
    have n1 : b' ≠ xa := fun z => by rw [z, hx] at h; cases h
    have n2 : b' ≠ dx := fun z => by rw [z, hdx] at h; cases h
    rw [SlX.slH_ne n1 n2, upd_ne n1, upd_ne n2]
    exact h
  have nS : ∀ y, H y = none → ¬ S y := fun y hy z => by
    obtain ⟨o, h, _⟩ := dm.at_ y z
    rw [hy] at h; cases h
  refine q _ _ sm (.obj ⟨nS xa hx, dx, .inl ⟨hs, nS dx hdx, upd_same, ?_⟩⟩ (r.mono sm))
  unfold SlX.slH
  rw [upd_ne ne]
  exact upd_same
structure DK (X : Cx) (E : Sg → XK) (kws : List Keyword) (f : FL) : Prop where
  pk : PK X kws (tDL X.K E f)
  len : ∀ δ ds, f δ = .ok ds → ds.length = kws.length
theorem PK.imp {kws : List Keyword} {t t' : TA} (h : PK X kws t) (j : ∀ σ H Q, t' σ H Q → t σ H Q) : PK X kws t' := ⟨fun pos pins s σ H Q I q => h.run pos pins s σ H Q I (j σ H Q q)⟩
theorem dk_nil : DK X Eσ [] fNil := by
  refine ⟨PK.imp pk_nil fun σ H Q h => ?_, fun δ ds h => by cases h; rfl⟩
  obtain ⟨S, δ, st, q⟩ := h
  exact q [] H (Same.refl _) .nil
theorem dk_cons {nm : Option Str} {kpos : Pos} {f : FE} {kws : List Keyword} (ha : DE X Eσ b f) (hr : DK X Eσ kws fl) : DK X Eσ (⟨nm, b, kpos⟩ :: kws) (fCons f fl) := by
  refine ⟨PK.imp (pk_cons ha hr.pk) fun σ H Q h => ?_, fun δ ds h => ?_⟩
  · obtain ⟨S, δ, st, q⟩ := h
    refine ⟨S, δ, st, (Res.on (show Res X.K S H (Eσ σ) ((f δ).bind fun d => (fl δ).bind fun ds => R.ok (d :: ds)) _ from q)).imp fun d q2 v H1 e1 r1 => ?_⟩
    refine ⟨S, δ, st.mono e1, (Res.on q2).mono e1 |>.imp fun ds q3 vs H2 e2 r2 => ?_⟩
    exact q3 (v :: vs) H2 (e1.trans e2) (.cons (r1.mono e2) r2)
  · unfold fCons at h
    cases q : f δ with
    | ok d =>
      rw [q, R.bind_ok] at h
      cases q2 : fl δ with
      | ok es' =>
        rw [q2, R.bind_ok] at h
        cases h
        exact congrArg Nat.succ (hr.len _ _ q2)
      | exc n xs => rw [q2] at h; cases h
      | bad => rw [q2] at h; cases h
    | exc n xs => rw [q] at h; cases h
    | bad => rw [q] at h; cases h
def rMakeSK (c : Str) (n : Nat) (gD : List D → List D) (ds : List D) : R D := if (gD ds).length = n then .ok (.obj c (gD ds)) else .bad
def fMakeSK (c : Str) (n : Nat) (gD : List D → List D) (fl : FL) : FE := fun δ => (fl δ).bind (rMakeSK c n gD)
def Puts (gV : List V → List V → List V) (gD : List D → List D) (m : Nat) : Prop := ∀ (K : PySem.W.Frag) (S : Addr → Prop) (H : Hp) (zs : List V) (ds : List D) (v : V), RepL K S H zs ds → ds.length = m → ∃ ws, gV [v] zs = v :: ws ∧ RepL K S H ws (gD ds)
theorem de_makeSK {fi : Addr} {fd : FuncData} {ps ks : List Str} {n : Nat} {kws : List Keyword} {g : List Value → List Value → List Value} {gV : List V → List V → List V} {gD : List D → List D} (hs : slotted c = true) (M : Mk X.K (He.ga X.K c) fi)
    (Fn : FnOk X.prog X.w X.K X.mg X.base (L2.CX X.prog X.w) k fi fd ps (spSl X.K c n)) (hb : KBn X.K fd ps 1 ks g gV) (hp : Puts gV gD kws.length) (hkl : kws.length = ks.length) (hr : Room (k + 1) X.A) (hx : PsA (L2.CX X.prog X.w) X Eσ) (hg : Gl X x) (hm : X.mg x = some (.ref (He.ga X.K c))) (hkw : DK X Eσ kws fl)
    (hall : (backToKw pos (keywordEach kws X.env)).all (·.1.isSome) = true := by rfl) (hks : (backToKw pos (keywordEach kws X.env)).filterMap (·.1) = ks := by rfl) (hdb : (x == ("__debug__" : Str)) = false := by decide)
    (hpl : ((backTo pos (starEach [] X.env)).any (·.1) || (backToKw pos (keywordEach kws X.env)).any (·.1.isNone)) = false := by rfl) :
    DE X Eσ (.Call (.Name x p) [] kws pos) (fMakeSK c n gD fl) := by
  refine PE.imp (pe_makeK0 (E := E0) M Fn hr hg hm hb passL hkw.pk hall hks hdb hpl) fun σ H Q hq => ?_
  obtain ⟨S, δ, st, q⟩ := hq
  refine ⟨S, δ, st, ?_⟩
  have q1 := Res.on (show Res X.K S H (Eσ σ) ((fl δ).bind (rMakeSK c n gD)) _ from q)
  cases r : fl δ with
  | bad => rw [r] at q1; exact q1.elim
  | exc n xs => rw [r] at q1; exact q1
  | ok ds =>
    rw [r] at q1
    have q1 : Res X.K S H (Eσ σ) (rMakeSK c n gD ds) (fun d => ∀ v H', Same H H' → Rep X.K S H' v d → Q v H') := q1
    unfold rMakeSK at q1
    have lds := hkw.len δ ds r
    by_cases cl : (gD ds).length = n
    · rw [if_pos cl] at q1
      intro zs H1 e1 r1
      refine ⟨rfl, r1.length.trans (lds.trans hkl), fun xa dxa h1 h2 h3 => ?_⟩
      obtain ⟨ws, w1, w2⟩ := hp X.K S H1 zs ds (.ref xa) r1 lds
      rw [w1]
      exact makeS_end hs (st.mono e1).here h1 h2 h3 w2 cl fun v H' e' r' => q1 v H' (e1.trans e') r'
    · rw [if_neg cl] at q1; exact q1.elim
def mrg {α : Type} : List Bool → List α → List α → List α
  | true :: m, ys, z :: zs => z :: mrg m ys zs
  | false :: m, y :: ys, zs => y :: mrg m ys zs
  | _, _, _ => []
theorem mrg_vals : ∀ (m : List Bool) {mz zs : List V} {mv ws : List Value}, Vals mz mv → Vals zs ws → Vals (mrg m mz zs) (mrg m mv ws)
  | [], _, _, _, _, _, _ => by unfold mrg; exact .nil
  | true :: m, _, _, _, _, _, .nil => by unfold mrg; exact .nil
  | true :: m, _, _, _, _, h, .cons r k => by unfold mrg; exact .cons r (mrg_vals m h k)
  | false :: m, _, _, _, _, .nil, _ => by unfold mrg; exact .nil
  | false :: m, _, _, _, _, .cons r h, k => by unfold mrg; exact .cons r (mrg_vals m h k)
theorem mrg_rep {K : PySem.W.Frag} {S : Addr → Prop} {H : Hp} : ∀ (m : List Bool) {ms zs : List V} {md ds : List D}, RepL K S H ms md → RepL K S H zs ds → RepL K S H (mrg m ms zs) (mrg m md ds)
  | [], _, _, _, _, _, _ => by unfold mrg; exact .nil
  | true :: m, _, _, _, _, _, .nil => by unfold mrg; exact .nil
  | true :: m, _, _, _, _, h, .cons r k => by unfold mrg; exact .cons r (mrg_rep m h k)
  | false :: m, _, _, _, _, .nil, _ => by unfold mrg; exact .nil
  | false :: m, _, _, _, _, .cons r h, k => by unfold mrg; exact .cons r (mrg_rep m h k)
theorem repL_ints {K : PySem.W.Frag} {S : Addr → Prop} {H : Hp} : ∀ is : List Int, RepL K S H (is.map V.int) (is.map D.int)
  | [] => .nil
  | i :: is => .cons (.int i) (repL_ints is)
def gMrg (m : List Bool) (is : List Int) : List D → List D := fun zs => mrg m (is.map .int) zs
theorem mrg_puts (m : List Bool) (is : List Int) (n : Nat) : Puts (fun vs zs => vs ++ mrg m (is.map V.int) zs) (gMrg m is) n := fun K S H zs ds v r hl =>
  ⟨mrg m (is.map V.int) zs, rfl, mrg_rep m (repL_ints is) r⟩
end
end DL

namespace DL
open PySem PySem.Spec PyProof.Rows L2
def ClsAny (K : PySem.W.Frag) (c : Str) : Prop := (slotted c = false ∧ Cls K (He.ga K c)) ∨ (slotted c = true ∧ SlX.SCls K (He.ga K c))
theorem obj_inst {X : Cx} {pins : List (Addr × Obj)} {σ : L2.St} {H : Hp} {s : Shared} {S : Addr → Prop} {v : V} {c : Str} {xs : List D} (I : Inv X pins σ H s) (r : Rep X.K S H v (.obj c xs)) : ∃ a ox od, v = .ref a ∧ PySem.W.InstAt s.heap a ox (He.ga X.K c) (some od) := by
  cases e : slotted c with
  | true =>
    obtain ⟨a, dx, vs, rfl, h, _⟩ := r.objS e
    obtain ⟨sl, od, _, J, _⟩ := SlX.slt_inst I h
    exact ⟨a, _, od, rfl, J⟩
  | false =>
    obtain ⟨a, dx, vs, rfl, _, h, _⟩ := r.objI e
    obtain ⟨mA, O, _⟩ := ins_get I.hok h
    obtain ⟨od, J, _⟩ := O.look
    exact ⟨a, _, od, rfl, J⟩
def tyF (d : D) : Option D := if d.tyN.isSome = true then some (.bl false) else none
theorem tyF_some {d z : D} (h : tyF d = some z) : d.tyN.isSome = true ∧ z = .bl false := by
  unfold tyF at h
  by_cases e : d.tyN.isSome = true
  · rw [if_pos e] at h
    cases h
    exact ⟨e, rfl⟩
  · rw [if_neg e] at h; cases h
def dIsC (c : Str) (d : D) : Option D := match d with
  | .obj c' _ => if c' = c then some (.bl true) else none
  | d => tyF d
section
variable {X : Cx} {E : XK} {Eσ : Sg → XK} {k : Nat} {pos p p2 : Pos} {a b : Expr} {f g : FE} {c : Str}
theorem kit_self {K : PySem.W.Frag} {t : Value} : PySem.W.kitOne K t t = some true := by
  unfold PySem.W.kitOne
  rw [if_pos (beq_self_eq_true t)]
def noneOf (K : PySem.W.Frag) (C : Addr) : Bool := (["NoneType", "bool", "int", "str", "list", "tuple"] : List String).all fun t => decide (PySem.W.kitOne K (.type t) (.ref C) = some false)
theorem isC_at {pins : List (Addr × Obj)} {σ : L2.St} {H : Hp} {s : Shared} {us : List Value} {xs : List V} {Q : VK} {S : Addr → Prop} {v : V} {d z : D} (Ca : ClsAny X.K c) (Si : SlX.SIsi X.K (He.ga X.K c)) (hn : noneOf X.K (He.ga X.K c) = true)
    (I : Inv X pins σ H s) (ex : xs = [v, .ref (He.ga X.K c)]) (r : Vals xs us) (rv : Rep X.K S H v d) (hz : dIsC c d = some z) (q : ∀ b, z = .bl b → Q (.bl b) H) :
    wpAny (model X.prog X.w) X.A (call (.builtin "isinstance") us) (EP X pins σ Q) X.xe s := by
  subst ex
  by_cases ho : ∃ xs, d = .obj c xs
  · obtain ⟨xs, rfl⟩ := ho
    have ez : z = .bl true := by
      have : some (D.bl true) = some z := by rw [← hz]; exact (if_pos rfl).symm
      cases this; rfl
    rcases Ca with ⟨hs, C⟩ | ⟨hs, C⟩
    · obtain ⟨a, dx, vs, rfl, _, h, _⟩ := rv.objI hs
      exact call_isi pins s σ H _ us Q I r ⟨_, _, _, _, true, rfl, .own _, .base (.ins h C Si.ca Si.cn Si.ct Si.cm), kit_self, q _ ez⟩
    · obtain ⟨a, dx, vs, rfl, h, _⟩ := rv.objS hs
      exact SlX.call_isiSl (.ref (He.ga X.K c)) pins s σ H _ us Q I r ⟨a, _, dx, _, _, true, rfl, rfl, fun w e => e, h, C, Si, kit_self, q _ ez⟩
  · have hd : d.tyN.isSome = true ∧ z = .bl false := by
      cases d with
      | obj c' xs =>
        exfalso
        have hz' : (if c' = c then some (D.bl true) else none) = some z := hz
        by_cases e : c' = c
        · exact ho ⟨xs, by rw [e]⟩
        · rw [if_neg e] at hz'; cases hz'
      | _ => exact tyF_some hz
    obtain ⟨ht, ez⟩ := hd
    obtain ⟨t, et⟩ := Option.isSome_iff_exists.mp ht
    obtain ⟨w1, w2⟩ := rv.tyX et
    have hk : PySem.W.kitOne X.K (.type t) (.ref (He.ga X.K c)) = some false := by
      refine of_decide_eq_true (List.all_eq_true.mp hn t ?_)
      rcases w2 with rfl | rfl | rfl | rfl | rfl | rfl <;> simp
    exact call_isi pins s σ H _ us Q I r ⟨_, _, _, _, false, rfl, .own _, w1, hk, q _ ez⟩
theorem cd_isC (Ca : ClsAny X.K c) (Si : SlX.SIsi X.K (He.ga X.K c)) (hn : noneOf X.K (He.ga X.K c) = true) : CallR X (.builtin "isinstance") fun xs H Q => ∃ S v d z, xs = [v, .ref (He.ga X.K c)] ∧ Rep X.K S H v d ∧ dIsC c d = some z ∧ ∀ b, z = .bl b → Q (.bl b) H := by
  intro pins s σ H xs us Q I r h
  obtain ⟨S, v, d, z, ex, rv, hz, q⟩ := h
  exact isC_at Ca Si hn I ex r rv hz q
theorem de_isC (Ca : ClsAny X.K c) (Si : SlX.SIsi X.K (He.ga X.K c)) (hn : noneOf X.K (He.ga X.K c) = true) (hg : Gl X "isinstance") (hm : X.mg "isinstance" = none) (hgT : Gl X c) (hmT : X.mg c = some (.ref (He.ga X.K c))) (ha : DE X Eσ a f) (hd : (c == ("__debug__" : Str)) = false := by decide)
    (hs2 : starEach [.Name c p2] X.env = (false, eval (.Name c p2) X.env) :: starEach [] X.env := by rfl) (hs1 : starEach [a, .Name c p2] X.env = (false, eval a X.env) :: starEach [.Name c p2] X.env := by rfl)
    (hpl : (backTo pos (starEach [.Name c p2] X.env)).any (·.1) = false := by rfl) : DE X Eσ (.Call (.Name "isinstance" p) [a, .Name c p2] [] pos) (fU (dIsC c) f) := by
  refine PE.imp (pe_callB (cd_isC Ca Si hn) hg hm PyProof.Rows.boot_isinstance (pa_cons ha (pa_cons (pe_glob (v := .ref (He.ga X.K c)) hgT hmT rfl hd) pa_nil hs2) hs1) (by decide) (by decide) hs1 hpl) fun σ H Q h => ?_
  obtain ⟨S, δ, st, q⟩ := h
  refine ⟨S, δ, st, (Res.on q).imp fun d q1 v H1 e1 r1 => ?_⟩
  obtain ⟨z, hz, q2⟩ := Res.of q1
  exact ⟨S, v, d, z, rfl, r1, hz, fun b e => q2 _ H1 e1 (by rw [e]; exact .bl b)⟩
def rBin (c : Str) (G : List D → R D) (x y : D) : R D := if isOb c x && isOb c y then G [x, y] else .bad
def fBin (c : Str) (G : List D → R D) (f g : FE) : FE := fun δ => (f δ).bind fun x => (g δ).bind fun y => rBin c G x y
theorem op_bin {op : Operator} {fa : Addr} {G : List D → R D} (h1 : PySem.W.selfFirst X.K (He.ga X.K c) = true) (hm : PySem.W.findIn X.K (.ref (He.ga X.K c)) (PySem.dunder op.info.2) = some (some (.ref fa))) (hf : PySem.W.isFn X.K (.ref fa) = true)
    (Fn : FnG X.prog X.w X.K X.mg X.base k fa 2 G) (B : Bd X Eσ k) {pins : List (Addr × Obj)} {s : Shared} {σ : Sg} {H : Hp} {x y : V} {v u : Value} {Q : VK} (I : Inv X pins σ H s) (rx : RelV x v) (ry : RelV y u)
    (h : ∃ S d e, Dom X.K S H ∧ Rep X.K S H x d ∧ Rep X.K S H y e ∧ Res X.K S H (Eσ σ) (rBin c G d e) fun z => Giv X.K S H z Q) : wpAny (model X.prog X.w) X.A (binaryOp op v u) (EP X pins σ Q) X.xe s := by
  obtain ⟨S, d, e, dm, r1, r2, q⟩ := h
  unfold rBin at q
  by_cases cl : (isOb c d && isOb c e) = true
  · rw [if_pos cl] at q
    obtain ⟨c1, c2⟩ := Bool.and_eq_true_iff.mp cl
    obtain ⟨xs, rfl⟩ := isOb_of c1
    obtain ⟨ys, rfl⟩ := isOb_of c2
    obtain ⟨a1, ox, od, rfl, J⟩ := obj_inst I r1
    obtain ⟨a2, ox2, od2, rfl, J2⟩ := obj_inst I r2
    cases (show v = Value.ref a1 from rx)
    cases (show u = Value.ref a2 from ry)
    obtain ⟨m, hF⟩ := I.fr
    refine PySem.W.binop_K hF I.ok.mod.kin J J2.type h1 hm hf ?_
    refine wpAny_mono (wpAny_call (run_at (us := [.ref a1, .ref a2]) (vs := [.ref a1, .ref a2]) (Q := Q) Fn B.room (B.pass σ) I (.cons rfl (.cons rfl .nil)) ⟨S, _, dm, .cons r1 (.cons r2 .nil), rfl, q⟩)) (fun w s' z => ?_) fun _ _ x => x
    obtain ⟨z', H', I', rz, qz⟩ := z
    exact SlX.cmpback rz ⟨z', H', I', rz, qz⟩
  · rw [if_neg cl] at q
    exact q.elim
theorem de_bin {op : Operator} {fa : Addr} {m : Str} {G : List D → R D} (h1 : PySem.W.selfFirst X.K (He.ga X.K c) = true) (hm : Meth X.K (He.ga X.K c) m fa) (Fn : FnG X.prog X.w X.K X.mg X.base k fa 2 G) (B : Bd X Eσ k)
    (ha : DE X Eσ a f) (hb : DE X Eσ b g) (he : (PySem.dunder op.info.2 : Str) = m := by rfl) : DE X Eσ (.BinOp a op b pos) (fBin c G f g) := by
  refine ⟨fun pins s σ H Q I h => wpAny_BinOp (binT ha hb I (?_ : tD X.K Eσ f σ H fun x H1 => tD X.K Eσ g σ H1 fun y H2 => ∃ S d e, Dom X.K S H2 ∧ Rep X.K S H2 x d ∧ Rep X.K S H2 y e ∧ Res X.K S H2 (Eσ σ) (rBin c G d e) fun z => Giv X.K S H2 z Q)
    fun v u s2 x y H2 I2 rx ry q => op_bin (c := c) (op := op) h1 (by rw [he]; exact hm.at_) hm.fn Fn B I2 rx ry q)⟩
  obtain ⟨S, δ, st, q⟩ := h
  refine ⟨S, δ, st, (Res.on q).imp fun d q1 v H1 e1 r1 => ?_⟩
  refine ⟨S, δ, st.mono e1, ((Res.on q1).mono e1).imp fun e q2 u H2 e2 r2 => ?_⟩
  exact ⟨S, d, e, ((st.mono e1).mono e2).here, r1.mono e2, r2, (q2.mono (e1.trans e2)).imp fun z q3 w H3 e3 r3 => q3 w H3 (e1.trans (e2.trans e3)) r3⟩
end
end DL

namespace DL
open PySem PySem.Spec PyProof.Rows L2
def stIx (n : Nat) (lo hi st : Option Int) : List Nat := sliceRange (PySem.sliceBounds lo hi st n).1 (PySem.sliceBounds lo hi st n).2.1 (PySem.sliceBounds lo hi st n).2.2
def pickG {α : Type} (xs : List α) (lo hi st : Option Int) : List α := (stIx xs.length lo hi st).filterMap (xs[·]?)
section
variable {X : Cx} {E : XK} {Eσ : Sg → XK} {pos p p2 : Pos} {a b c e : Expr} {f g : FE} {fl : FL} {tg : Expr}
def tSlS (K : PySem.W.Frag) (te : TE) (tl th ts : TO) : TE := fun σ H Q => te σ H fun x H1 => tl σ H1 fun lo H2 => th σ H2 fun hi H3 => ts σ H3 fun o H4 => ∃ a xs c, x = .ref a ∧ SqL K H4 a xs ∧ o = some c ∧ c ≠ 0 ∧ ∀ p, H4 p = none → Q (.ref p) (upd H4 p (.lst (pickG xs lo hi (some c))))
def dPick : D → Option Int → Option Int → D → Option D
  | .lst xs, lo, hi, .int c => if c = 0 then none else some (.lst (pickG xs lo hi (some c)))
  | _, _, _, _ => none
def fSlS (f : FE) (l h : FO) (g : FE) : FE := fun δ => (f δ).bind fun d => (l δ).bind fun lo => (h δ).bind fun hi => (g δ).bind fun c => R.of (dPick d lo hi c)
def dInt3 (lo c : Int) (n : Nat) : List D := (List.range n).map fun i : Nat => .int (lo + i * c)
def rg3Ok (i j c : Int) : Bool := decide (c ≠ 0) && (decide (c.natAbs < 1073741824) && Builtin.Range.small i j c)
def dRange3 : List D → Option (List D)
  | [.int i, .int j, .int c] => if rg3Ok i j c = true then some (dInt3 i c (Builtin.Range.rangeSize i j c).toNat) else none
  | _ => none
def fRange3 (fl : FL) : FL := fun δ => (fl δ).bind fun ds => R.of (dRange3 ds)
end
end DL

namespace DL
open PySem PySem.Spec PyProof.Rows L2
section
variable {X : Cx} {e0 : Ent} {E : XK} {Eσ : Sg → XK} {k j : Nat} {pos p p2 apos cpos : Pos} {x : Str} {st : Stmt} {rest : List Stmt} {F G : FS} {a b c o : Expr} {f g : FE} {fx fy : FX} {es : List Expr} {fl : FL} {i : Nat}
def fDic0 : FE := fun _ => .ok (.dic [] [])
def fNewD (i : Nat) : FS := fun δ => .nx (δ.set i (.od [] []))
theorem ds_newD {pos' : Pos} (hN : X.N.Nodup) (hi : X.N[i]? = some x) (hx : Loc X.env.scope x) (hs : swapsWith (.Dict [] [] p) (some (.Name x pos')) pos.line X.env = pure false := by rfl)
    (hf : X.fn x = true ∨ X.env.scope.names.lookup x = some .local := by first | exact .inl rfl | exact .inr rfl | assumption) : DSt1 X e0 E (.Assign [.Name x pos'] (.Dict [] [] p) pos) (fNewD i) := by
  refine PS.imp (ps_set hN hi hx pe_dnewK hs hf) fun D σ H hq => ?_
  obtain ⟨S, δ, s, q⟩ := hq
  intro p hp
  obtain ⟨s2, e2⟩ := s.newT i (t0 := .od [] []) hp (same_new hp _) upd_same rfl (fun _ _ z => by cases z) ⟨p, [], rfl, upd_same, .inr rfl, rfl, .nil, .nil⟩
  exact q _ _ _ s2 e2
def fOd (i : Nat) (δ : DSt) : R (List Ky × List D) := match δ[i]? with
  | some (.od ks xs) => .ok (ks, xs)
  | _ => .bad
theorem fOd_at {δ : DSt} {r : List Ky × List D} (h : fOd i δ = .ok r) : δ[i]? = some (.od r.1 r.2) := by
  unfold fOd at h
  split at h
  · rename_i ks xs e
    cases h
    exact e
  · cases h
theorem fOd_ne {δ : DSt} {n : Str} {xs : List D} (h : fOd i δ = .exc n xs) : False := by
  unfold fOd at h
  split at h <;> cases h
def rSetk (i : Nat) (δ : DSt) (r : List Ky × List D) (v : D) (k : Ky) : R (D × DSt) := if okLt r.1.length = true then (match kGet r.1 r.2 k with
  | some d => .ok (d, δ)
  | none => .ok (v, δ.set i (.od (r.1 ++ [k]) (r.2 ++ [v])))) else .bad
def rSetd (i : Nat) (δ : DSt) (r : List Ky × List D) (kd v : D) : R (D × DSt) := (R.of kd.key).bind (rSetk i δ r v)
def fSetd (i : Nat) (f g : FE) : FX := fun δ => (fOd i δ).bind fun r => (f δ).bind fun kd => (g δ).bind fun v => rSetd i δ r kd v
theorem putK_new {ks : List Ky} {vs : List V} {k : Ky} {v : V} (l : ks.length = vs.length) (h : valV (kvsOf ks vs) k = none) : putK (kvsOf ks vs) k v = kvsOf (ks ++ [k]) (vs ++ [v]) := by
  unfold putK
  have e : ¬ (((kvsOf ks vs).any fun kv => decide (kv.1 = k)) = true) := fun z => by
    obtain ⟨q, hq, hk⟩ := List.any_eq_true.mp z
    unfold valV at h
    have := List.find?_eq_none.mp (Option.map_eq_none_iff.mp h) q hq
    exact this hk
  rw [if_neg e]
  unfold kvsOf
  rw [List.zip_append l]
  rfl
theorem kIn_of_mem : ∀ {ks : List Ky} {k : Ky}, k ∈ ks → kIn k ks = true
  | x :: ks, k, h => by
    unfold kIn
    by_cases e : x = k
    · rw [if_pos e]
    · rw [if_neg e]
      rcases List.mem_cons.mp h with z | z
      · exact absurd z.symm e
      · exact kIn_of_mem z
theorem kGet_in : ∀ {ks : List Ky} {ds : List D} {k : Ky}, ks.length = ds.length → kGet ks ds k = none → kIn k ks = false
  | [], _, _, _, _ => rfl
  | _ :: _, [], _, l, _ => by cases l
  | x :: ks, d :: ds, k, l, h => by
    unfold kGet at h
    unfold kIn
    by_cases e : x = k
    · rw [if_pos e] at h; cases h
    · rw [if_neg e] at h ⊢
      exact kGet_in (Nat.succ.inj l) h
theorem dx_setd (hN : X.N[i]? = some x) (hv : Vis X.env.scope x) (hd : (x == ("__debug__" : Str)) = false) (hcd : (x == ("__classdict__" : Str)) = false) (hk : DE X (fun _ => E) a f) (he : DE X (fun _ => E) b g) (m : M2 X (.Name x p) "setdefault" apos a b cpos) :
    DX X e0 E (.Call (.Attribute (.Name x p) "setdefault" apos) [a, b] [] cpos) (fSetd i f g) := by
  refine PE.imp (pe_dsetd (pe_var hN hv hd hcd) hk he m) fun σ H Q hq => ?_
  obtain ⟨S, δ, s, q⟩ := hq
  unfold fSetd at q
  cases r : fOd i δ with
  | bad => rw [r] at q; exact q.elim
  | exc n xs => exact (fOd_ne r).elim
  | ok pr =>
    rw [r, R.bind_ok] at q
    have hd := fOd_at r
    obtain ⟨ov, w1, la, vs, rfl, h1, zS, l, nd, rl⟩ := s.st.slot i _ hd
    refine ⟨_, w1, la, rfl, .inl ⟨_, .inl h1⟩, ?_⟩
    refine ⟨S, δ, s.st, (ResX.of s q).imp fun kd q1 y H1 e1 r1 => ?_⟩
    refine ⟨S, δ, s.st.mono e1, ((ResX.of s q1).mono e1).imp fun vd q2 z H2 e2 r2 => ?_⟩
    unfold rSetd at q2
    cases ek : kd.key with
    | none => rw [ek] at q2; exact q2.elim
    | some ky =>
      rw [ek, R.of_some, R.bind_ok] at q2
      have em := e1.trans e2
      have h3 := em.at _ _ h1
      have ev2 : Ev S H S H2 := .same em
      have lz : vs.length = pr.2.length := rl.length
      unfold rSetk at q2
      by_cases cl : okLt pr.1.length = true
      · rw [if_pos cl] at q2
        refine ⟨_, ky, h3, (r1.mono e2).keyV ek, ?_, fun v hv => ?_, fun hv => ?_⟩
        · rw [List.length_zip, l, Nat.min_self, ← l]
          exact okLt_of cl
        · cases eg : kGet pr.1 pr.2 ky with
          | some d =>
            rw [eg] at q2
            obtain ⟨v', g1, g2⟩ := valV_get l rl eg
            rw [show valV (kvsOf pr.1 vs) ky = some v from hv] at g1
            cases g1
            exact q2 v H2 (s.mono em) ev2 (g2.ev ev2)
          | none =>
            rw [valV_no l lz eg] at hv
            cases hv
        · cases eg : kGet pr.1 pr.2 ky with
          | some d =>
            obtain ⟨v', g1, g2⟩ := valV_get l rl eg
            rw [show valV (kvsOf pr.1 vs) ky = none from hv] at g1
            cases g1
          | none =>
            rw [eg] at q2
            have nk : ky ∉ pr.1 := fun z => by
              have := kGet_in (l.trans lz) eg
              rw [kIn_of_mem z] at this
              cases this
            rw [putK_new l hv]
            have s2 := s.mono em
            have rs : RepL X.K S (upd H2 la (.dK (kvsOf (pr.1 ++ [ky]) (vs ++ [z])))) (vs ++ [z]) (pr.2 ++ [vd]) := by
              have e3 : Ev S H2 S (upd H2 la (.dK (kvsOf (pr.1 ++ [ky]) (vs ++ [z])))) := .upd h3 zS
              exact ((rl.ev ev2).ev e3).append (.cons (r2.ev e3) .nil)
            obtain ⟨s3, ev3⟩ := s2.chgT (i := i) (t := .od pr.1 pr.2) (t0 := .od (pr.1 ++ [ky]) (pr.2 ++ [vd])) hd rfl w1 (keepM_upd h3) upd_same rfl ⟨fun ⟨_, _, z⟩ => (by cases z), fun ⟨_, _, z⟩ => (by cases z)⟩
              ⟨la, vs ++ [z], rfl, upd_same, zS, by rw [List.length_append, List.length_append, l]; rfl, by
                rw [List.nodup_append]
                exact ⟨nd, List.nodup_cons.mpr ⟨List.not_mem_nil, List.nodup_nil⟩, fun a ha b hb => by
                  rw [List.mem_singleton.mp hb]
                  exact fun e => nk (e ▸ ha)⟩, rs⟩
            exact q2 z _ s3 (ev2.trans ev3) (r2.ev (.upd h3 zS))
      · rw [if_neg cl] at q2
        exact q2.elim
def rPutk (i : Nat) (δ : DSt) (r : List Ky × List D) (v : D) (k : Ky) : O := if okLt r.1.length = true then (match kGet r.1 r.2 k with
  | some _ => .nx (δ.set i (.od r.1 ((r.1.zip r.2).map fun q => if q.1 = k then v else q.2)))
  | none => .nx (δ.set i (.od (r.1 ++ [k]) (r.2 ++ [v])))) else .bad
def fPutD (i : Nat) (f g : FE) : FS := fun δ => O.on (g δ) fun v => O.on (fOd i δ) fun r => O.on (f δ) fun kd => O.on (R.of kd.key) fun k => rPutk i δ r v k
abbrev FBX := DSt → R (Bool × DSt)
def tDBX (K : PySem.W.Frag) (M S0 : Addr → Prop) (H0 : Hp) (E : XK) (f : FBX) : TT := fun σ H Q => ∃ S δ, StS K M S0 H0 S σ H δ ∧ ResX K M S0 H0 E (f δ) fun b δ' => ∀ H', StS K M S0 H0 S σ H' δ' → Ev S H S H' → Q b H'
def DBX (X : Cx) (e0 : Ent) (E : XK) (e : Expr) (f : FBX) : Prop := PT X e (tDBX X.K e0.M e0.S e0.H E f)
def rBl (δ : DSt) (z : D) : R (Bool × DSt) := match z with
  | .bl b => .ok (b, δ)
  | _ => .bad
def fCmpX (F : D → D → Option D) (f : FX) (g : FE) : FBX := fun δ => (f δ).bind fun p => (g p.2).bind fun y => (R.of (F p.1 y)).bind (rBl p.2)
theorem dbx_cmp {op : CmpOp} {Fo : D → D → Option D} (ho : OpD X (compareOp op) Fo) (ha : DX X e0 E a fx) (hb : DE X (fun _ => E) b g) (hm : behindInMarks op b = false) : DBX X e0 E (.Compare a [op] [b] pos) (fCmpX Fo fx g) := by
  refine PT.imp (pt_cmpR ho ha hb hm) fun σ H Q hq => ?_
  obtain ⟨S, δ, s, q⟩ := hq
  refine ⟨S, δ, s, (ResX.on (f := fun p => (g p.2).bind fun y => (R.of (Fo p.1 y)).bind (rBl p.2)) q).imp fun d δ' q1 v H1 s1 e1 r1 => ?_⟩
  refine ⟨S, δ', s1.st, (ResX.of s1 q1).imp fun e q2 u H2 e2 r2 => ?_⟩
  cases ef : Fo d e with
  | none => rw [ef] at q2; exact q2.elim
  | some z =>
    rw [ef, R.of_some, R.bind_ok] at q2
    refine ⟨S, d, e, z, (s1.st.mono e2).here, r1.mono e2, r2, ef, fun w H3 e3 r3 => ?_⟩
    cases r3 with
    | bl k => exact ⟨k, rfl, q2 H3 ((s1.mono e2).mono e3) (e1.trans ((Ev.same e2).trans (.same e3)))⟩
    | _ => exact q2.elim
def oIfX (F G : FS) (p : Bool × DSt) : O := match p.1 with
  | true => F p.2
  | false => G p.2
def fIfX (c : FBX) (F G : FS) : FS := fun δ => O.on (c δ) (oIfX F G)
theorem ds_ifX {t : FBX} {A B : List Stmt} (hc : DBX X e0 E c t) (ha : DSts X e0 E A F) (hb : DSts X e0 E B G) : DSt1 X e0 E (.If c A B pos) (fIfX t F G) := by
  refine PS.imp (ps_if hc ha hb) fun D σ H hq => ?_
  obtain ⟨S, δ, s, q⟩ := hq
  refine ⟨S, δ, s, Fin.onX (f := oIfX F G) q fun b δ' q1 H' s' e' => ?_⟩
  cases b with
  | true => exact ⟨S, δ', s', Fin.ev e' q1⟩
  | false => exact ⟨S, δ', s', Fin.ev e' q1⟩
end
end DL

namespace DL
open PySem PySem.Spec PyProof.Rows L2
section
variable {P : Program} {w : World} {A : Around} {Ex : Value → Shared → Prop} {d : Addr}
end
def FnK (P : Program) (w : World) (K : PySem.W.Frag) (mg : Str → Option Value) (base : Heap) (k : Nat) (f : Addr) (ks : List Str) (n : Nat) (G : List D → R D) : Prop :=
  ∀ (A : Around) (outer : List Env) (s : Shared) (H : Hp) (us ws : List Value) (vs zs : List V) (Q : VK) (E : XK) (S : Addr → Prop) (ds es : List D), Room k A → Env0 P w K mg base A outer s H → Vals vs us → Vals zs ws → Dom K S H → RepL K S H vs ds → RepL K S H zs es → ds.length = n → es.length = ks.length →
    (Res K S H E (G (ds ++ [.dic (ks.map Sum.inr) es])) fun d => ∀ v H', Same H H' → Rep K S H' v d → Q v H') → codeAny (model P w) A (.call (.ref f) ⟨us, ks.zip ws⟩) (CR (L2.CX P w) outer P w H s Q E) s
theorem FnK.mono {P : Program} {w : World} {K : PySem.W.Frag} {mg : Str → Option Value} {base : Heap} {f : Addr} {j k n : Nat} {ks : List Str} {G : List D → R D} (F : FnK P w K mg base j f ks n G) (h : j ≤ k) : FnK P w K mg base k f ks n G :=
  fun A outer s H us ws vs zs Q E S ds es hr => F A outer s H us ws vs zs Q E S ds es (hr.mono h)
section
variable {X : Cx} {E : XK} {Eσ : Sg → XK} {k : Nat} {pos p : Pos} {x : Str} {a : Expr} {es : List Expr} {kws : List Keyword} {fl fk : FL}
def rCallK (ks : List Str) (G : List D → R D) (ds es : List D) : R D := G (ds ++ [.dic (ks.map Sum.inr) es])
def fCallK (ks : List Str) (G : List D → R D) (fl fk : FL) : FE := fun δ => (fl δ).bind fun ds => (fk δ).bind fun es => rCallK ks G ds es
end
end DL

namespace DL
open PySem PySem.Spec PyProof.Rows L2
section
variable {X : Cx} {E : XK} {Eσ : Sg → XK} {k : Nat} {pos p apos : Pos} {x c m : Str} {a b : Expr} {es : List Expr} {f g : FE} {fl : FL}
abbrev Tb : Type := List (Str × (List D → R D))
def TbOk (P : Program) (w : World) (K : PySem.W.Frag) (mg : Str → Option Value) (base : Heap) (k n : Nat) (tb : Tb) : Prop := ∀ q ∈ tb, FnG P w K mg base k (He.ga K q.1) n q.2 ∧ PySem.W.keepIn K (.ref (He.ga K q.1)) = true
def tbGet : Tb → Str → Option (List D → R D)
  | [], _ => none
  | q :: tb, f => if q.1 = f then some q.2 else tbGet tb f
def tbOf (tb : Tb) : D → Option (List D → R D)
  | .fn f => tbGet tb f
  | _ => none
def fCallV (tb : Tb) (i : Nat) (fl : FL) : FE := fun δ => (fVar i δ).bind fun d => (R.of (tbOf tb d)).bind fun G => (fl δ).bind G
structure SMet (K : PySem.W.Frag) (C : Addr) (mc : Value) (m : Str) (p g : Addr) : Prop where
  at_ : PySem.W.findCls K (.ref C) mc m = some (.get (.builtin "staticmethod.__get__") (.ref p) .none (.ref C))
  rc : ∃ rest, PySem.W.recIn K p "staticmethod" = some (.ref g :: rest)
  kp : PySem.W.keepIn K (.ref g) = true
def rCallO (c : Str) (G : List D → R D) (fl : FL) (δ : DSt) (o : D) : R D := if isOb c o = true then (fl δ).bind fun ds => G (o :: ds) else .bad
def fCallO (c : Str) (G : List D → R D) (fo : FE) (fl : FL) : FE := fun δ => (fo δ).bind (rCallO c G fl δ)
end
end DL

namespace DL
open PySem PySem.Spec PyProof.Rows L2
def lc2F (i : Nat) (t : FB) (fi1 : FL) (i1 : Nat) (t1 : FB) (f : FE) (δ : DSt) : List D → List D → R (List D)
  | [], acc => .ok acc
  | d :: ds, acc => (t (δ.set i (.fz d))).quiet.bind fun b => match b with
    | true => (fi1 (δ.set i (.fz d))).quiet.bind fun es => (lcF i1 t1 f (δ.set i (.fz d)) es acc).bind fun acc' => lc2F i t fi1 i1 t1 f δ ds acc'
    | false => lc2F i t fi1 i1 t1 f δ ds acc
def fLc2L (fi : FL) (i : Nat) (t : FB) (fi1 : FL) (i1 : Nat) (t1 : FB) (f : FE) : FL := fun δ => (fi δ).bind fun ds => lc2F i t fi1 i1 t1 f (δ.set i1 .un) ds []
def fLc2 (fi : FL) (i : Nat) (t : FB) (fi1 : FL) (i1 : Nat) (t1 : FB) (f : FE) : FE := fun δ => (fLc2L fi i t fi1 i1 t1 f δ).bind fun ds => .ok (.lst ds)
section
variable {X : Cx} {e0 : Ent} {E : XK} {Eσ : Sg → XK} {pos p : Pos} {x y : Str} {a b c tg elt iter tg1 iter1 : Expr} {f g : FE} {fi fi1 : FL} {t t1 : FB} {ifs ifs1 : List Expr} {scope : Scope} {own : List (Str × Nat)} {i i1 : Nat}
end
end DL

namespace DL
open PySem PySem.Spec PyProof.Rows L2
section
variable {X : Cx} {e0 : Ent} {E : XK} {Eσ : Sg → XK} {pos : Pos} {a b : Expr} {f : FE} {fl : FL}
def fPar (i j : Nat) (fl : FL) : FS := fun δ => O.on (fl δ) fun ds => match ds with
  | [d, e] => .nx ((δ.set i (.fz d)).set j (.fz e))
  | _ => .bad
def dItL : D → Option (List D)
  | .lst ds => some ds
  | .tup ds => some ds
  | _ => none
def fNewL (i : Nat) (f : FE) : FS := fun δ => O.on (f δ) fun d => O.on (R.of (dItL d)) fun ds => .nx (δ.set i (.ow ds))
end
end DL

namespace DL
open PySem PySem.Spec PyProof.Rows L2
def tDF (K : PySem.W.Frag) (E : Sg → XK) (f : FL) : TE := fun σ H Q => ∃ S δ, StE K S σ H δ ∧ Res K S H (E σ) (f δ) fun ds => ∀ p vs H', Same H H' → H' p = none → RepL K S H' vs ds → Q (.ref p) (upd H' p (.lst vs))
def DF (X : Cx) (E : Sg → XK) (e : Expr) (f : FL) : Prop := PE X e (tDF X.K E f)
section
variable {X : Cx} {e0 : Ent} {E : XK} {Eσ : Sg → XK} {pos : Pos} {a b e : Expr} {f g : FE} {fl : FL} {x : Str}
theorem ds_newF {i : Nat} {x : Str} {pos' : Pos} (hN : X.N.Nodup) (hi : X.N[i]? = some x) (hx : Loc X.env.scope x) (h : DF X (fun _ => E) e fl) (hs : swapsWith e (some (.Name x pos')) pos.line X.env = pure false := by rfl)
    (hf : X.fn x = true ∨ X.env.scope.names.lookup x = some .local := by first | exact .inl rfl | exact .inr rfl | assumption) : DSt1 X e0 E (.Assign [.Name x pos'] e pos) (fNew i fl) := by
  refine PS.imp (ps_set hN hi hx h hs hf) fun D σ H hq => ?_
  obtain ⟨S, δ, s, q⟩ := hq
  refine ⟨S, δ, s.st, ?_⟩
  unfold fNew at q
  cases r : fl δ with
  | bad => rw [r] at q; exact q.elim
  | exc n xs =>
    rw [r] at q
    exact fun cls dx H' e x => q cls dx H' (s.same.trans e) (x.to s.sub)
  | ok ds =>
    rw [r] at q
    intro p vs H1 e1 hp r1
    obtain ⟨s2, e2⟩ := (s.mono e1).new i hp r1
    exact q _ _ _ s2 ((Ev.same e1).trans e2)
def fCutOw (i : Nat) (l h : FO) : FL := fun δ => (fOwn i δ).bind fun ds => (l δ).bind fun lo => (h δ).bind fun hi => .ok (cut ds lo hi)
theorem fCutOw_e {i : Nat} {l h : FO} {δ : DSt} {ds : List D} {lo hi : Option Int} (h1 : fOwn i δ = .ok ds) (h2 : l δ = .ok lo) (h3 : h δ = .ok hi) : fCutOw i l h δ = .ok (cut ds lo hi) := by
  unfold fCutOw
  rw [h1, R.bind_ok, h2, R.bind_ok, h3]
  rfl
def fCutE (f : FE) (l h : FO) : FL := fun δ => (f δ).bind fun d => match d with
  | .lst ds => (l δ).bind fun lo => (h δ).bind fun hi => .ok (cut ds lo hi)
  | _ => .bad
theorem fCutE_e {f : FE} {l h : FO} {δ : DSt} {ds : List D} {lo hi : Option Int} (h1 : f δ = .ok (.lst ds)) (h2 : l δ = .ok lo) (h3 : h δ = .ok hi) : fCutE f l h δ = .ok (cut ds lo hi) := by
  unfold fCutE
  rw [h1, R.bind_ok]
  show (l δ).bind _ = _
  rw [h2, R.bind_ok, h3]
  rfl
def rCatL (ds : List D) : D → R (List D)
  | .lst es => if okLe (ds.length + es.length) = true then .ok (ds ++ es) else .bad
  | _ => .bad
def fCatOw (i : Nat) (f : FE) : FL := fun δ => (fOwn i δ).bind fun ds => (f δ).bind fun d => rCatL ds d
theorem fCatOw_e {i : Nat} {δ : DSt} {ds es : List D} (h1 : fOwn i δ = .ok ds) (h2 : f δ = .ok (.lst es)) (h3 : okLe (ds.length + es.length) = true) : fCatOw i f δ = .ok (ds ++ es) := by
  unfold fCatOw
  rw [h1, R.bind_ok, h2, R.bind_ok]
  exact if_pos h3
end
end DL

namespace DL
open PySem PySem.Spec PyProof.Rows L2
def tagV : List V → Nat
  | [] => 9
  | .int _ :: _ => 0
  | .str _ :: _ => 1
  | .ref _ :: _ => 2
  | .bl _ :: _ => 3
  | .non :: _ => 4
  | _ => 8
def tagD : List D → Nat
  | [] => 9
  | .int _ :: _ => 0
  | .str _ :: _ => 1
  | .bl _ :: _ => 3
  | .non :: _ => 4
  | _ => 2
theorem tag_eq {K : PySem.W.Frag} {S : Addr → Prop} {H : Hp} {xs : List V} {ds : List D} (r : RepL K S H xs ds) : tagV xs = tagD ds := by
  cases r with
  | nil => rfl
  | cons h r => cases h <;> rfl
mutual
/-- d holds no list with this tag (and no script, no closure) -/
def noK (t : Nat) : D → Bool
  | .non => true
  | .bl _ => true
  | .int _ => true
  | .str _ => true
  | .fn _ => true
  | .tup ds => noKs t ds
  | .obj _ ds => noKs t ds
  | .dic _ ds => noKs t ds
  | .lst ds => !(tagD ds == t) && noKs t ds
  | _ => false
def noKs (t : Nat) : List D → Bool
  | [] => true
  | d :: ds => noK t d && noKs t ds
end
def iK (t : Nat) (o : HO) : Prop := ∃ xs, o = .lst xs ∧ tagV xs = t
theorem klst {t : Nat} {xs : List D} (h : noK t (.lst xs) = true) : tagD xs ≠ t ∧ noKs t xs = true := by
  unfold noK at h
  obtain ⟨a, b⟩ := Bool.and_eq_true_iff.mp h
  exact ⟨by simpa using a, b⟩
section
variable {K : PySem.W.Frag} {S S' : Addr → Prop} {H H' : Hp} {t : Nat}
theorem not_iK {xs : List V} {ds : List D} (r : RepL K S H xs ds) (h : tagD ds ≠ t) : ¬ iK t (.lst xs) := by
  rintro ⟨ys, e, q⟩
  cases e
  rw [tag_eq r] at q
  exact h q
mutual
theorem Rep.noK (k : ∀ b o, H b = some o → NT o → ¬ iK t o → ¬ S b → H' b = some o) (g : ∀ b o, H b = some o → ¬ iK t o → ¬ S b → ¬ S' b) : ∀ {v : V} {d : D}, DL.noK t d = true → Rep K S H v d → Rep K S' H' v d
  | _, _, _, .non => .non
  | _, _, _, .bl b => .bl b
  | _, _, _, .int i => .int i
  | _, _, _, .str x => .str x
  | _, _, e, .tup h n r => .tup (k _ _ h (by intro ps z; cases z) (by rintro ⟨_, z, _⟩; cases z) n) (g _ _ h (by rintro ⟨_, z, _⟩; cases z) n) (RepL.noK k g e r)
  | _, _, e, .ltp h r => .ltp h (RepL.noK k g e r)
  | _, _, e, .obj h r => .obj (by
      obtain ⟨n, dx, h⟩ := h
      rcases h with ⟨e, nd, h, q⟩ | ⟨e, l, h⟩
      · exact ⟨g _ _ h (by rintro ⟨_, z, _⟩; cases z) n, dx, .inl ⟨e, g _ _ q (by rintro ⟨_, z, _⟩; cases z) nd, k _ _ h (by intro ps z; cases z) (by rintro ⟨_, z, _⟩; cases z) n, k _ _ q (by intro ps z; cases z) (by rintro ⟨_, z, _⟩; cases z) nd⟩⟩
      · exact ⟨g _ _ h (by rintro ⟨_, z, _⟩; cases z) n, dx, .inr ⟨e, l, k _ _ h (by intro ps z; cases z) (by rintro ⟨_, z, _⟩; cases z) n⟩⟩) (RepL.noK k g e r)
  | _, _, _, .fn f => .fn f
  | _, _, e, .dic h n l nd r => .dic (k _ _ h (by intro ps z; cases z) (by rintro ⟨_, z, _⟩; cases z) n) (g _ _ h (by rintro ⟨_, z, _⟩; cases z) n) l nd (RepL.noK k g e r)
  | _, _, e, .lst h n r => .lst (k _ _ h (by intro ps z; cases z) (not_iK r (klst e).1) n) (g _ _ h (not_iK r (klst e).1) n) (RepL.noK k g (klst e).2 r)
  | _, _, e, .scr _ _ _ => by cases e
  | _, _, e, .scl _ _ => by cases e
  | _, _, e, .sco _ _ _ => by cases e
  | _, _, e, .clo _ _ => by cases e
theorem RepL.noK (k : ∀ b o, H b = some o → NT o → ¬ iK t o → ¬ S b → H' b = some o) (g : ∀ b o, H b = some o → ¬ iK t o → ¬ S b → ¬ S' b) : ∀ {vs : List V} {ds : List D}, noKs t ds = true → RepL K S H vs ds → RepL K S' H' vs ds
  | _, _, _, .nil => .nil
  | _, _, e, .cons h r => .cons (Rep.noK k g (by unfold noKs at e; exact (Bool.and_eq_true_iff.mp e).1) h) (RepL.noK k g (by unfold noKs at e; exact (Bool.and_eq_true_iff.mp e).2) r)
end
end
def rUse (ds : List D) : R D → R D
  | .ok d => if noK (tagD ds) d = true then .ok d else .bad
  | _ => .bad
def fUseE (i : Nat) (f : FE) : FE := fun δ => (fOwn i δ).bind fun ds => rUse ds (f (δ.set i (.fz (.lst ds))))
def oPopE (i : Nat) (δ : DSt) (ds : List D) : O := match ds.getLast? with
  | some _ => .nx (δ.set i (.ow ds.dropLast))
  | none => .bad
def fPopE (i : Nat) : FS := fun δ => O.on (fOwn i δ) fun ds => oPopE i δ ds
section
variable {X : Cx} {e0 : Ent} {E : XK} {Eσ : Sg → XK} {pos : Pos}
end
end DL

namespace DL
open PySem PySem.Spec PyProof.Rows L2
def hdI : List D → Bool
  | .int _ :: _ => true
  | _ => false
mutual
/-- d holds no list that begins with a number (and no closure) -/
def noL : D → Bool
  | .non => true
  | .bl _ => true
  | .int _ => true
  | .str _ => true
  | .fn _ => true
  | .tup ds => noLs ds
  | .obj _ ds => noLs ds
  | .dic _ ds => noLs ds
  | .lst ds => !(hdI ds) && noLs ds
  | _ => false
def noLs : List D → Bool
  | [] => true
  | d :: ds => noL d && noLs ds
end
def iL (o : HO) : Prop := ∃ i xs, o = .lst (.int i :: xs)
theorem not_iL {K : PySem.W.Frag} {S : Addr → Prop} {H : Hp} {xs : List V} {ds : List D} (r : RepL K S H xs ds) (h : hdI ds = false) : ¬ iL (.lst xs) := by
  rintro ⟨i, t, e⟩
  cases e
  cases r with
  | cons h1 r =>
    cases h1 with
    | int i => cases h
theorem nlst {xs : List D} (h : noL (.lst xs) = true) : hdI xs = false ∧ noLs xs = true := by
  unfold noL at h
  obtain ⟨a, b⟩ := Bool.and_eq_true_iff.mp h
  exact ⟨by simpa using a, b⟩
section
variable {K : PySem.W.Frag} {S S' : Addr → Prop} {H H' : Hp}
mutual
theorem Rep.noL (k : ∀ b o, H b = some o → NT o → ¬ iL o → ¬ S b → H' b = some o) (g : ∀ b o, H b = some o → ¬ iL o → ¬ S b → ¬ S' b) : ∀ {v : V} {d : D}, DL.noL d = true → Rep K S H v d → Rep K S' H' v d
  | _, _, _, .non => .non
  | _, _, _, .bl b => .bl b
  | _, _, _, .int i => .int i
  | _, _, _, .str x => .str x
  | _, _, e, .tup h n r => .tup (k _ _ h (by intro ps z; cases z) (by rintro ⟨_, _, z⟩; cases z) n) (g _ _ h (by rintro ⟨_, _, z⟩; cases z) n) (RepL.noL k g e r)
  | _, _, e, .ltp h r => .ltp h (RepL.noL k g e r)
  | _, _, e, .obj h r => .obj (by
      obtain ⟨n, dx, h⟩ := h
      rcases h with ⟨e, nd, h, q⟩ | ⟨e, l, h⟩
      · exact ⟨g _ _ h (by rintro ⟨_, _, z⟩; cases z) n, dx, .inl ⟨e, g _ _ q (by rintro ⟨_, _, z⟩; cases z) nd, k _ _ h (by intro ps z; cases z) (by rintro ⟨_, _, z⟩; cases z) n, k _ _ q (by intro ps z; cases z) (by rintro ⟨_, _, z⟩; cases z) nd⟩⟩
      · exact ⟨g _ _ h (by rintro ⟨_, _, z⟩; cases z) n, dx, .inr ⟨e, l, k _ _ h (by intro ps z; cases z) (by rintro ⟨_, _, z⟩; cases z) n⟩⟩) (RepL.noL k g e r)
  | _, _, _, .fn f => .fn f
  | _, _, e, .dic h n l nd r => .dic (k _ _ h (by intro ps z; cases z) (by rintro ⟨_, _, z⟩; cases z) n) (g _ _ h (by rintro ⟨_, _, z⟩; cases z) n) l nd (RepL.noL k g e r)
  | _, _, e, .lst h n r => .lst (k _ _ h (by intro ps z; cases z) (not_iL r (nlst e).1) n) (g _ _ h (not_iL r (nlst e).1) n) (RepL.noL k g (nlst e).2 r)
  | _, _, e, .scr _ _ _ => by cases e
  | _, _, e, .scl _ _ => by cases e
  | _, _, e, .sco _ _ _ => by cases e
  | _, _, e, .clo _ _ => by cases e
theorem RepL.noL (k : ∀ b o, H b = some o → NT o → ¬ iL o → ¬ S b → H' b = some o) (g : ∀ b o, H b = some o → ¬ iL o → ¬ S b → ¬ S' b) : ∀ {vs : List V} {ds : List D}, noLs ds = true → RepL K S H vs ds → RepL K S' H' vs ds
  | _, _, _, .nil => .nil
  | _, _, e, .cons h r => .cons (Rep.noL k g (by unfold noLs at e; exact (Bool.and_eq_true_iff.mp e).1) h) (RepL.noL k g (by unfold noLs at e; exact (Bool.and_eq_true_iff.mp e).2) r)
end
end
def rNew : D → R (List D)
  | .lst es => if (hdI es && noLs es) = true then .ok es else .bad
  | _ => .bad
def rCallN (G : List D → R D) (ds : List D) : R (List D) := if noLs ds = true then (G ds).bind rNew else .bad
def fCallN (G : List D → R D) (fl : FL) : FL := fun δ => (fl δ).bind (rCallN G)
section
variable {X : Cx} {e0 : Ent} {E : XK} {Eσ : Sg → XK} {k : Nat} {pos p : Pos} {x : Str} {a b : Expr} {es : List Expr} {fl : FL}
theorem same_less {H1 H' : Hp} {a : Addr} {xs : List V} (e : Same H1 H') (h : H' a = some (.lst xs)) (n : H1 a = none) : Same H1 (fun b => if b = a then none else H' b) := by
  have ne : ∀ {b : Addr} {o : HO}, H1 b = some o → b ≠ a := fun q z => by rw [z, n] at q; cases q
  refine ⟨fun b o q t _ => ?_, fun P t => ?_, fun b o q => ?_, fun b o q p => ?_, fun b ps q => ?_⟩
  · show (if b = a then none else H' b) = _
    rw [if_neg (ne q)]; exact e.at b o q t
  · obtain ⟨ps, h1, h2, h3⟩ := e.tab P t
    refine ⟨ps, ?_, h2, fun pos cv hc => ?_⟩
    · show (if P = a then none else H' P) = _
      rw [if_neg (fun z => by rw [z, h] at h1; cases h1)]; exact h1
    · obtain ⟨c, q1, q2⟩ := h3 pos cv hc
      refine ⟨c, q1, ?_⟩
      show (if c = a then none else H' c) = _
      rw [if_neg (fun z => by rw [z, h] at q2; exact absurd (Option.some.inj q2).symm (by unfold LamX.CodeO; intro z; cases z))]; exact q2
  · obtain ⟨u, hu⟩ := e.dom b o q
    refine ⟨u, ?_⟩
    show (if b = a then none else H' b) = _
    rw [if_neg (ne q)]; exact hu
  · obtain ⟨u, hu, pu⟩ := e.pl b o q p
    refine ⟨u, ?_, pu⟩
    show (if b = a then none else H' b) = _
    rw [if_neg (ne q)]; exact hu
  · obtain ⟨u, hu⟩ := e.tb b ps q
    refine ⟨u, ?_⟩
    show (if b = a then none else H' b) = _
    rw [if_neg (ne q)]; exact hu
def fUse (i : Nat) (f : FB) : FB := fun δ => match fOwn i δ with
  | .ok ds => match f (δ.set i (.fz (.lst ds))) with
    | .ok b => .ok b
    | _ => .bad
  | _ => .bad
end
end DL

namespace DL
open PySem PySem.Spec PyProof.Rows L2
def rCallT (G : List D → R D) (ds : List D) : R (List D) := (G ds).bind fun d => match d with
  | .lst es => if (noKs (tagD es) ds && noKs (tagD es) es) = true then .ok es else .bad
  | _ => .bad
def fCallT (G : List D → R D) (fl : FL) : FL := fun δ => (fl δ).bind (rCallT G)
theorem v_CallT {G : List D → R D} {fl : FL} {δ : DSt} {ds es : List D} (h : fl δ = .ok ds) (k : G ds = .ok (.lst es)) (n2 : (noKs (tagD es) ds && noKs (tagD es) es) = true) : fCallT G fl δ = .ok es := by
  unfold fCallT
  rw [h, R.bind_ok]
  unfold rCallT
  rw [k, R.bind_ok]
  exact if_pos n2
section
variable {X : Cx} {e0 : Ent} {E : XK} {Eσ : Sg → XK} {k : Nat} {pos p : Pos} {x : Str} {a b : Expr} {es : List Expr} {fl : FL}
theorem iK_lst {t : Nat} {xs : List V} : iK t (.lst xs) ↔ tagV xs = t := ⟨fun ⟨ys, e, q⟩ => by cases e; exact q, fun q => ⟨xs, rfl, q⟩⟩
theorem sp_ofT {n : Nat} {G : List D → R D} {σ : Sg} {H : Hp} {Q : VK} (ha : DA X Eσ es fl) (hn : es.length = n) (h : tDF X.K Eσ (fCallT G fl) σ H Q) : tDL X.K Eσ fl σ H fun vs H1 => spD X.K n G vs H1 Q (Eσ σ) := by
  obtain ⟨S, δ, st, q⟩ := h
  refine ⟨S, δ, st, ?_⟩
  unfold fCallT at q
  have q' := Res.on q
  cases r : fl δ with
  | bad => rw [r] at q'; exact q'.elim
  | exc n xs => rw [r] at q'; exact q'
  | ok ds =>
    rw [r] at q'
    intro vs H1 e1 r1
    have q2 : Res X.K S H (Eσ σ) (rCallT G ds) fun ds => ∀ p vs H', Same H H' → H' p = none → RepL X.K S H' vs ds → Q (.ref p) (upd H' p (.lst vs)) := q'
    unfold rCallT at q2
    have d1 := (st.mono e1).here
    cases g : G ds with
    | bad => rw [g] at q2; exact q2.elim
    | exc n xs =>
      rw [g] at q2
      exact ⟨S, ds, d1, r1, (ha.len δ ds r).trans hn, by rw [g]; exact fun cls dx H' e x => q2 cls dx H' (e1.trans e) x⟩
    | ok d =>
      rw [g] at q2
      cases d with
      | lst es =>
        have q3 : Res X.K S H (Eσ σ) (if (noKs (tagD es) ds && noKs (tagD es) es) = true then R.ok es else R.bad) fun ds => ∀ p vs H', Same H H' → H' p = none → RepL X.K S H' vs ds → Q (.ref p) (upd H' p (.lst vs)) := q2
        by_cases nz0 : (noKs (tagD es) ds && noKs (tagD es) es) = true
        · rw [if_pos nz0] at q3
          obtain ⟨nl, nz⟩ := Bool.and_eq_true_iff.mp nz0
          refine ⟨fun b => S b ∨ ∃ xs, H1 b = some (.lst xs) ∧ tagV xs = tagD es, ds, ⟨fun b z => ?_, d1.tabs⟩, r1.noK (fun _ _ h _ _ _ => h) (fun b o h nx n z => ?_) nl, (ha.len δ ds r).trans hn, ?_⟩
          · rcases z with z | ⟨xs, z, _⟩
            · exact d1.at_ b z
            · exact ⟨_, z, ⟨fun ps z => (by cases z), fun ps z => (by cases z)⟩⟩
          · rcases z with z | ⟨xs, z, zt⟩
            · exact n z
            · rw [z] at h
              exact nx ⟨xs, (Option.some.inj h).symm, zt⟩
          · rw [g]
            intro v H2 e2 r2
            cases r2 with
            | lst w1 w2 w3 =>
              rename_i a xs
              have nS : ¬ S a := fun z => w2 (.inl z)
              have tg : tagV xs = tagD es := tag_eq w3
              have nH : H1 a = none := by
                cases o : H1 a with
                | none => rfl
                | some u =>
                  exfalso
                  cases u with
                  | tbl ps =>
                    obtain ⟨qs, z⟩ := e2.tb a ps o
                    rw [w1] at z; cases z
                  | lst ys =>
                    have z := e2.at a _ o (by intro ps z; cases z)
                    rw [w1] at z
                    cases z
                    exact w2 (.inr ⟨_, o, tg⟩)
                  | _ =>
                    have z := e2.at a _ o (by intro ps z; cases z)
                    rw [w1] at z; cases z
              have sm := same_less e2 w1 nH
              have := q3 a xs (fun b => if b = a then none else H2 b) (e1.trans sm) (if_pos rfl) (w3.noK (fun b o h _ nx _ => by
                show (if b = a then none else H2 b) = _
                rw [if_neg (fun z => by rw [z, w1] at h; exact nx (by rw [← Option.some.inj h]; exact iK_lst.mpr tg))]; exact h) (fun b o h nx n z => n (.inl z)) nz)
              have hh : upd (fun b => if b = a then none else H2 b) a (.lst xs) = H2 := by
                funext b
                by_cases e : b = a
                · rw [e, upd_same, w1]
                · rw [upd_ne e]
                  exact if_neg e
              rw [hh] at this
              exact this
        · rw [if_neg nz0] at q3
          exact q3.elim
      | _ => exact q2.elim
theorem df_callT {fa : Addr} {n : Nat} {G : List D → R D} (Fn : FnG X.prog X.w X.K X.mg X.base k fa n G) (B : Bd X Eσ k) (hg : Gl X x) (hm : X.mg x = some (.ref fa)) (hk : PySem.W.keepIn X.K (.ref fa) = true) (ha : DA X Eσ (a :: es) fl)
    (hn : (a :: es).length = n := by rfl) (hdb : (x == ("__debug__" : Str)) = false := by decide) (he : starEach (a :: es) X.env = (false, eval a X.env) :: starEach es X.env := by rfl) (hpl : (backTo pos (starEach es X.env)).any (·.1) = false := by rfl) :
    DF X Eσ (.Call (.Name x p) (a :: es) [] pos) (fCallT G fl) := by
  refine ⟨fun pins s σ H Q I h => ?_⟩
  refine wpAny_Call_Name_kw (ld_glob I hg hm ?_ hdb)
  refine PySem.W.callWith_K (h₀ := X.base) I.ok.mod.kin hk (thn (ha.pa.run pos pins s σ H _ I (sp_ofT ha hn h)) fun us s1 ⟨vs, H1, I1, r, q⟩ => ⟨I1.kIn, ?_⟩) he hpl
  exact wpAny_call (run_at Fn B.room (B.pass σ) I1 r q)
def fListOw (i : Nat) : FE := fun δ => (fOwn i δ).bind fun ds => .ok (.lst ds)
end
end DL

namespace DL
open PySem PySem.Spec PyProof.Rows L2
def spF (K : PySem.W.Frag) (n : Nat) (G : List D → R (List D)) : Sp := fun vs H Q E => ∃ S ds, Dom K S H ∧ RepL K S H vs ds ∧ ds.length = n ∧ Res K S H E (G ds) fun es => ∀ p zs H', Same H H' → H' p = none → RepL K S H' zs es → Q (.ref p) (upd H' p (.lst zs))
def runF (m : Nat) (F : FL) (ds : List D) : R (List D) := F (ds.map DS.fz ++ List.replicate (m - ds.length) DS.un)
section
variable {P : Program} {w : World} {K : PySem.W.Frag} {mg : Str → Option Value} {base : Heap}
theorem fnokF_of {x qual : Str} {params : Arguments} {ex : Expr} {pos : Pos} {scope : Scope} {dvs : List V} {kws : List (Str × V)} {f : Addr} {fd : FuncData} {N ps : List Str} {k : Nat} {F : FL} {body : List Stmt} (Fd : FunD K x qual params body scope dvs kws f fd) (Sc : FnScope N ps scope) (hb : body = [.Return (some ex) pos])
    (hbody : ∀ (cdv : Value) (A : Around) (outer : List Env) (s : Shared) (H : Hp) (E : XK), Bd (cxOf (L2.CX P w) P w K mg base N qual scope f cdv A outer s H E) (fun _ => E) k →
      Takes (cxOf (L2.CX P w) P w K mg base N qual scope f cdv A outer s H E) (fun cls d _ H => E cls d H) → DF (cxOf (L2.CX P w) P w K mg base N qual scope f cdv A outer s H E) (fun _ => E) ex F) : FnOk P w K mg base (L2.CX P w) (k + 1) f fd ps (spF K ps.length (runF N.length F)) := by
  subst hb
  have hpl : ps.length ≤ N.length := by have := congrArg List.length Sc.pre; rw [List.length_take] at this; omega
  refine FunD.ok Fd Sc (fun vs H Q E h => ?_) (fun cdv A outer s H vs Q E hr h => ?_)
  · obtain ⟨S, ds, _, r, hl, _⟩ := h
    rw [r.length, hl]
  · obtain ⟨S, ds, dm, r, hl, q⟩ := h
    have tk : Takes (cxOf (L2.CX P w) P w K mg base N qual scope f cdv A outer s H E) (fun cls d _ H => E cls d H) := takes_of rfl rfl rfl rfl
    refine ⟨_, pss_one (ps_ret (hbody cdv A outer s H E ⟨hr, PsA.of (passes_call tk fun _ _ _ _ z => z), rfl, passes_of rfl⟩ tk)), ?_⟩
    exact ⟨S, _, (start_st (N := N) r dm (by omega)).st, q⟩
end
section
variable {X : Cx} {e0 : Ent} {E : XK} {Eσ : Sg → XK} {k : Nat} {pos : Pos} {o : Expr} {fo : FE} {c : Str}
def fPropF (c : Str) (G : List D → R (List D)) (fo : FE) : FL := fun δ => (fo δ).bind fun od => if isOb c od = true then (G [od]).quiet else .bad
theorem v_PropF {G : List D → R (List D)} {δ : DSt} {xs : List D} {es : List D} (h : fo δ = .ok (.obj c xs)) (g : G [.obj c xs] = .ok es) : fPropF c G fo δ = .ok es := by
  unfold fPropF
  rw [h, R.bind_ok, if_pos (by unfold isOb; simp), g]
  rfl
theorem quiet_spF {α : Type} {K : PySem.W.Frag} {S : Addr → Prop} {H : Hp} {r : R α} {P : α → Prop} (h : Res K S H E r.quiet P) : Res K S H E0 r P := by
  cases r with
  | ok d => exact h
  | exc n xs => exact h.elim
  | bad => exact h
theorem df_propF {pa fa : Addr} {fd : FuncData} {ps : List Str} {G : List D → R (List D)} {fn : Str} (hs : slotted c = false) (C : Cls X.K (He.ga X.K c)) (hp : PropOf X.K (He.ga X.K c) fn pa fa) (Fn : FnOk X.prog X.w X.K X.mg X.base (L2.CX X.prog X.w) k fa fd ps (spF X.K 1 G)) (hb : Binds X.K fd ps []) (hr : Room (k + 1) X.A) (ho : DE X Eσ o fo)
    (hab : attributeBase o fn X.env (eval o X.env) = eval o X.env := by rfl) : DF X Eσ (.Attribute o fn pos) (fPropF c G fo) := by
  refine PE.imp (pe_prop ho C hp Fn hr hb .nil passL hab) fun σ H Q hq => ?_
  obtain ⟨S, δ, st, q⟩ := hq
  refine ⟨S, δ, st, (Res.on q).imp fun od q1 v H1 e1 r1 => ?_⟩
  by_cases io : isOb c od = true
  · rw [if_pos io] at q1
    obtain ⟨xs, rfl⟩ := isOb_of io
    obtain ⟨a, dx, vs, w1, _, w2, w3⟩ := r1.objI hs
    subst w1
    exact ⟨a, dx, _, rfl, w2, S, [_], (st.mono e1).here, .cons r1 .nil, rfl, ((quiet_spF q1).mono e1).imp fun es q2 p zs H3 e3 hp r3 => q2 p zs H3 (e1.trans e3) hp r3⟩
  · rw [if_neg io] at q1; exact q1.elim
def fListE (f : FE) : FL := fun δ => (f δ).bind fun d => match dItL d with
  | some ds => .ok ds
  | none => .bad
theorem df_listE {a : Expr} {f : FE} {p pos2 : Pos} (h : DE X Eσ a f) (hg : Gl X "list") (hm : X.mg "list" = none)
    (he : starEach [a] X.env = (false, eval a X.env) :: starEach [] X.env := by rfl) (hpl : (backTo pos2 (starEach [] X.env)).any (·.1) = false := by rfl) : DF X Eσ (.Call (.Name "list" p) [a] [] pos2) (fListE f) := by
  refine PE.imp (pe_callTy call_list_of hg hm (by decide +kernel) (da_cons h da_nil he).pa (by decide +kernel) (by decide +kernel) he hpl) fun σ H Q hq => ?_
  obtain ⟨S, δ, s, q⟩ := hq
  refine ⟨S, δ, s, ?_⟩
  unfold fListE at q
  show Res X.K S H (Eσ σ) ((f δ).bind fun x => (fNil δ).bind fun xs => .ok (x :: xs)) _
  cases r : f δ with
  | bad => rw [r] at q; exact q.elim
  | exc n xs =>
    rw [r] at q
    exact q
  | ok d =>
    rw [r] at q
    intro vs H1 e1 r1
    cases r1 with
    | cons rv rn =>
      cases rn
      cases d with
      | lst ds =>
        obtain ⟨b, ws, w1, w2, w3⟩ := rv.lstH
        have q2 : ∀ p vs H', Same H H' → H' p = none → RepL X.K S H' vs ds → Q (.ref p) (upd H' p (.lst vs)) := q
        exact ⟨b, ws, by rw [w1], .inl (SqL.of w2), fun p hp => q2 p ws H1 e1 hp w3⟩
      | tup ds =>
        obtain ⟨b, ws, w1, w2, w3⟩ := rv.seqT
        have q2 : ∀ p vs H', Same H H' → H' p = none → RepL X.K S H' vs ds → Q (.ref p) (upd H' p (.lst vs)) := q
        exact ⟨b, ws, by rw [w1], .inr w2, fun p hp => q2 p ws H1 e1 hp w3⟩
      | _ => exact q.elim
def fClear (i : Nat) : FS := fun δ => O.on (fOwn i δ) fun _ => .nx (δ.set i (.ow []))
theorem v_Clear {i : Nat} {δ : DSt} {ds : List D} (h : fOwn i δ = .ok ds) : fClear i δ = .nx (δ.set i (.ow [])) := by
  unfold fClear
  rw [h]
  rfl
theorem ds_clear {i : Nat} {call : Expr} (hb : PE X call (tBM0 X.K "list" rClear (tVar i))) (hs : swapsWith call none pos.line X.env = pure false := by rfl) : DSt1 X e0 E (.Expr call pos) (fClear i) := by
  refine PS.imp (ps_expr hb hs) fun D σ H hq => ?_
  obtain ⟨S, δ, s, q⟩ := hq
  unfold fClear at q
  cases r : fOwn i δ with
  | bad => rw [r] at q; exact q.elim
  | exc n xs => exact (fOwn_ne r).elim
  | ok ds =>
    rw [r] at q
    have hd := fOwn_at r
    obtain ⟨o, w1, b, xs, w2, w3, w4, w5⟩ := s.st.slot i _ hd
    subst w2
    refine ⟨.ref b, w1, .inl ⟨rfl, _, SqL.of w3⟩, b, xs, rfl, rfl, w3, ?_⟩
    obtain ⟨s2, ev⟩ := s.chg (xs := xs) hd w1 (ys := []) (es := []) .nil
    exact q S σ _ s2 ev
end
end DL

namespace DL
open PySem PySem.Spec PyProof.Rows L2
section
variable {X : Cx} {E : XK} {Eσ : Sg → XK} {k : Nat} {pos p : Pos} {a : Expr} {f : FE} {c : Str}
def lenR (r : R D) : R D := match r with
  | .ok (.int n) => if (decide (0 ≤ n) && decide (n < 4611686018427387904)) = true then .ok (.int n) else .bad
  | _ => .bad
def rLenO (c : Str) (G : List D → R D) (x : D) : R D := if isOb c x = true then lenR (G [x]) else .bad
def fLenO (c : Str) (G : List D → R D) (f : FE) : FE := fun δ => (f δ).bind (rLenO c G)
theorem fLenO_e {G : List D → R D} {δ : DSt} {xs : List D} {n : Int} (h : f δ = .ok (.obj c xs)) (k : G [.obj c xs] = .ok (.int n)) (h0 : 0 ≤ n) (h1 : n < 4611686018427387904) : fLenO c G f δ = .ok (.int n) := by
  unfold fLenO
  rw [h]
  show rLenO c G (.obj c xs) = _
  unfold rLenO isOb
  rw [if_pos (by simp), k]
  unfold lenR
  dsimp only
  rw [if_pos (by rw [decide_eq_true h0, decide_eq_true h1]; rfl)]
theorem run_in1 {CX : CXT} {pins : List (Addr × Obj)} {σ : L2.St} {H : Hp} {s : Shared} {sp : Sp} {E1 : XK} {Q : VK} {fa : Addr} {us : List Value} {vs : List V} (Fn : FnR X.prog X.w X.K X.mg X.base CX k fa sp) (room : Room (k + 1) X.A) (out : PassesAt CX X σ E1) (I : Inv X pins σ H s) (rel : Vals vs us) (hq : sp vs H Q E1) :
    codeAny (model X.prog X.w) X.A.in1 (.call (.ref fa) ⟨us, []⟩) (fun r s' => match r with | .ok (.ret v) => EP X pins σ Q v s' | .ok _ => False | .error e => X.xe e s') s := by
  have sb : Sub X k X.A.in1 := Sub.in1 (⟨room, rfl⟩ : Sub X (k + 1) X.A)
  have e0 : Env0 X.prog X.w X.K X.mg X.base X.A.in1 X.stack s H := by
    have e := I.env0
    exact ⟨by rw [sb.fr]; exact e.frames, e.mod, e.bs, e.bsz, e.funs, e.frf, e.hok, e.bare⟩
  exact codeAny_mono (Fn X.A.in1 X.stack s H us vs Q E1 sb.room e0 rel hq) fun r s' a => match r, a with
    | .error e, a => out pins H s e s' I a
    | .ok (.ret u), a => I.after a
    | .ok .next, a => a.elim
    | .ok .brk, a => a.elim
    | .ok .cont, a => a.elim
theorem call_lenO {fa : Addr} {m : Str} {G : List D → R D} (hm : Meth X.K (He.ga X.K c) m fa) (Fn : FnG X.prog X.w X.K X.mg X.base k fa 1 G) (room : Room (k + 1) X.A) (he : ("__len__" : Str) = m := by rfl) : CallR X (.builtin "len") fun xs H Q => ∃ S v d, xs = [v] ∧ Dom X.K S H ∧ Rep X.K S H v d ∧ Res X.K S H E0 (rLenO c G d) fun z => Giv X.K S H z Q := by
  subst he
  intro pins s σ H xs us Q I r h
  obtain ⟨S, v, d, rfl, dm, rv, q⟩ := h
  obtain ⟨u, rfl, ru⟩ := vals1 r
  unfold rLenO at q
  by_cases cl : isOb c d = true
  · rw [if_pos cl] at q
    obtain ⟨ds, rfl⟩ := isOb_of cl
    obtain ⟨a1, ox, od, rfl, J⟩ := obj_inst I rv
    cases (show u = Value.ref a1 from ru)
    unfold lenR at q
    cases e : G [.obj c ds] with
    | bad => rw [e] at q; exact q.elim
    | exc n xs => rw [e] at q; exact q.elim
    | ok z =>
      rw [e] at q
      cases z with
      | int n =>
        dsimp only at q
        by_cases cn : (decide (0 ≤ n) && decide (n < 4611686018427387904)) = true
        · rw [if_pos cn] at q
          obtain ⟨n0, n1⟩ := Bool.and_eq_true_iff.mp cn
          have n0 := of_decide_eq_true n0
          have n1 := of_decide_eq_true n1
          refine Calls.call_function_entry kind_len plain_len entry_len (args_len1 _) ?_
          unfold Builtin.«len»
          refine wpAny_bind (m := oneArg "len" _) (wpAny_pure ?_)
          have hsp : spD X.K 1 G [.ref a1] H (fun w H' => w = .int n ∧ Q (.int n) H') E0 := ⟨S, [.obj c ds], dm, .cons rv .nil, rfl, by
            rw [e]
            exact fun w H' e1 r1 => by
              have := r1.intE
              subst this
              exact ⟨rfl, q _ H' e1 r1⟩⟩
          refine wpAny_bind (m := callSpecial? (.ref a1) (Str.ofString "__len__")) (PySem.W.special_fn I.kIn J hm.at_ (beq_iff_eq.mp hm.fn) (wpAny_mono (wpAny_call (run_in1 (us := [.ref a1]) (vs := [.ref a1]) Fn room (PsA.of (X := X) passL σ) I (.cons rfl .nil) hsp)) (fun w s' z => ?_) fun _ _ x => x))
          obtain ⟨z', H', I', rz, ez, qz⟩ := z
          subst ez
          obtain ⟨t, rfl⟩ := rz
          refine wpAny_bind (wpAny_holding (wpAny_pure ?_))
          refine wpAny_bind (wpAny_letGo ?_)
          show wpAny _ _ (if n < 0 then _ else _) _ _ _
          rw [if_neg (by omega)]
          show wpAny _ _ (if n ≥ 2 ^ 63 then _ else _) _ _ _
          rw [if_neg (by omega)]
          exact wpAny_bind (wpAny_mkInt (wpAny_pure ⟨_, rfl, ⟨.int n, H', I'.tok _, ⟨_, rfl⟩, qz⟩⟩))
        · rw [if_neg cn] at q; exact q.elim
      | _ => exact q.elim
  · rw [if_neg cl] at q
    exact q.elim
theorem de_lenO {fa : Addr} {m : Str} {G : List D → R D} (hm : Meth X.K (He.ga X.K c) m fa) (Fn : FnG X.prog X.w X.K X.mg X.base k fa 1 G) (room : Room (k + 1) X.A) (ha : DE X Eσ a f) (hg : Gl X "len") (hml : X.mg "len" = none) (he : ("__len__" : Str) = m := by rfl)
    (hs1 : starEach [a] X.env = (false, eval a X.env) :: starEach [] X.env := by rfl) (hpl : (backTo pos (starEach [] X.env)).any (·.1) = false := by rfl) : DE X Eσ (.Call (.Name "len" p) [a] [] pos) (fLenO c G f) := by
  refine PE.imp (pe_callB (call_lenO hm Fn room he) hg hml PySem.boot_len (pa_cons ha pa_nil hs1) (by decide) (by decide) hs1 hpl) fun σ H Q h => ?_
  obtain ⟨S, δ, st, q⟩ := h
  refine ⟨S, δ, st, (Res.on q).imp fun d q1 v H1 e1 r1 => ?_⟩
  refine ⟨S, v, d, rfl, (st.mono e1).here, r1.mono (Same.refl _), ?_⟩
  cases e : rLenO c G d with
  | bad => rw [e] at q1; exact q1.elim
  | exc n xs =>
    exfalso
    unfold rLenO at e
    by_cases cl : isOb c d = true
    · rw [if_pos cl] at e
      unfold lenR at e
      split at e
      · split at e <;> cases e
      · cases e
    · rw [if_neg cl] at e; cases e
  | ok z =>
    rw [e] at q1
    exact fun w H2 e2 r2 => q1 w H2 (e1.trans e2) r2
end
end DL

namespace DL
open PySem PySem.Spec PyProof.Rows L2
def dInO (c : Str) (G : List D → R D) (x y : D) : Option D := if isOb c y = true then (match G [y, x] with | .ok (.bl b) => some (.bl b) | _ => none) else none
theorem dInO_of {c : Str} {G : List D → R D} {d e z : D} (h : dInO c G d e = some z) : ∃ xs b, e = .obj c xs ∧ G [.obj c xs, d] = .ok (.bl b) ∧ z = .bl b := by
  unfold dInO at h
  by_cases o : isOb c e = true
  · rw [if_pos o] at h
    obtain ⟨xs, rfl⟩ := isOb_of o
    split at h
    · rename_i b g; cases h; exact ⟨xs, b, rfl, g, rfl⟩
    · cases h
  · rw [if_neg o] at h; cases h
theorem dInO_e {c : Str} {G : List D → R D} {d : D} {xs : List D} {b : Bool} (g : G [.obj c xs, d] = .ok (.bl b)) : dInO c G d (.obj c xs) = some (.bl b) := by
  unfold dInO isOb
  rw [if_pos (by simp), g]
section
variable {X : Cx} {Eσ : Sg → XK} {k : Nat} {c : Str} {fa : Addr} {G : List D → R D}
theorem opd_inO (hm : Meth X.K (He.ga X.K c) "__contains__" fa) (Fn : FnG X.prog X.w X.K X.mg X.base k fa 2 G) (room : Room k X.A) : OpD X (compareOp .In) (dInO c G) := by
  intro pins s σ H x y v u Q I rx ry q
  obtain ⟨S, d, e, z, dm, r1, r2, hz, q⟩ := q
  obtain ⟨xs, b, rfl, g, rfl⟩ := dInO_of hz
  obtain ⟨a1, ox, od, rfl, J⟩ := obj_inst I r2
  cases (show u = Value.ref a1 from ry)
  obtain ⟨m, hF⟩ := I.fr
  refine PySem.W.in_K hF I.ok.mod.kin J hm.at_ hm.fn ?_
  refine wpAny_mono (wpAny_call (run_at (us := [.ref a1, v]) (vs := [.ref a1, x]) (Q := fun w H' => w = .bl b ∧ Q w H') Fn room (PsA.of (X := X) passL σ) I (.cons rfl (.cons rx .nil)) ⟨S, _, dm, .cons r2 (.cons r1 .nil), rfl, ?_⟩)) (fun w s' z => ?_) fun _ _ x => x
  · rw [g]
    exact fun w H' e' r' => ⟨r'.blE, q w H' e' r'⟩
  · obtain ⟨z', H', I', rz, ez, qz⟩ := z
    subst ez
    cases rz
    exact wpAny_truthy_bool ⟨.bl b, H', I', rfl, qz⟩
end
def tIt (n : Nat) (K : PySem.W.Frag) (E : Sg → XK) (f : FL) : TE := fun σ H Q => ∃ S δ, StE K S σ H δ ∧ Res K S H (E σ) (f δ) fun es => ∀ l it H2, Same H H2 → Rep K S H2 (.ref l) (.lst es) → H2 it = none → n ≤ it → Q (.ref it) (upd H2 it (ItO l it 0))
def fListO (f : FE) : FL := fun δ => (f δ).bind fun d => match d with
  | .lst ds => .ok ds
  | _ => .bad
section
variable {X : Cx} {Eσ : Sg → XK} {pos p : Pos} {a : Expr} {f : FE}
theorem pe_iterE (ha : DE X Eσ a f) (hg : Gl X "iter") (hm : X.mg "iter" = none)
    (hs1 : starEach [a] X.env = (false, eval a X.env) :: starEach [] X.env := by rfl) (hpl : (backTo pos (starEach [] X.env)).any (·.1) = false := by rfl) : PE X (.Call (.Name "iter" p) [a] [] pos) (tIt X.s_0.heap.objs.size X.K Eσ (fListO f)) := by
  refine PE.imp (pe_callB ItX.call_iterN hg hm boot_iter (pa_cons ha pa_nil hs1) (by decide) (by decide) hs1 hpl) fun σ H Q h => ?_
  obtain ⟨S, δ, st, q⟩ := h
  refine ⟨S, δ, st, (Res.on q).imp fun d q1 v H1 e1 r1 => ?_⟩
  cases d with
  | lst ds =>
    obtain ⟨b, ws, w1, w2, w3⟩ := r1.lstH
    have q2 : ∀ l it H2, Same H H2 → Rep X.K S H2 (.ref l) (.lst ds) → H2 it = none → X.s_0.heap.objs.size ≤ it → Q (.ref it) (upd H2 it (ItO l it 0)) := q1
    refine ⟨b, ws, by rw [w1], SqL.of w2, fun it hn hle => q2 b it H1 e1 (by rw [← w1]; exact r1) hn hle⟩
  | _ => exact q1.elim
end
def FnIt (P : Program) (w : World) (K : PySem.W.Frag) (mg : Str → Option Value) (base : Heap) (k : Nat) (f : Addr) (n : Nat) (G : List D → R (List D)) : Prop :=
  ∀ (A : Around) (outer : List Env) (s : Shared) (H : Hp) (us : List Value) (vs : List V) (S : Addr → Prop) (ds es : List D), Room k A → Env0 P w K mg base A outer s H → Vals vs us → Dom K S H → RepL K S H vs ds → ds.length = n → G ds = .ok es →
    codeAny (model P w) A (.call (.ref f) ⟨us, []⟩) (CR (L2.CX P w) outer P w H s (fun v H' => ∃ it l H2, v = .ref it ∧ s.heap.objs.size ≤ it ∧ Same H H2 ∧ H2 it = none ∧ H' = upd H2 it (ItO l it 0) ∧ Rep K S H2 (.ref l) (.lst es)) E0) s
section
variable {P : Program} {w : World} {K : PySem.W.Frag} {mg : Str → Option Value} {base : Heap}
theorem FnIt.mono {j k n : Nat} {f : Addr} {G : List D → R (List D)} (F : FnIt P w K mg base j f n G) (h : j ≤ k) : FnIt P w K mg base k f n G := fun A outer s H us vs S ds es hr => F A outer s H us vs S ds es (hr.mono h)
theorem fnit_of {x qual : Str} {params : Arguments} {ex : Expr} {pos : Pos} {scope : Scope} {f : Addr} {fd : FuncData} {N ps : List Str} {k : Nat} {F : FL} {body : List Stmt} {dvs : List V} {kws : List (Str × V)} (Fd : FunD K x qual params body scope dvs kws f fd) (Sc : FnScope N ps scope) (hb : body = [.Return (some ex) pos]) (hbi : Binds K fd ps [])
    (hbody : ∀ (cdv : Value) (A : Around) (outer : List Env) (s : Shared) (H : Hp) (E : XK), Bd (cxOf (L2.CX P w) P w K mg base N qual scope f cdv A outer s H E) (fun _ => E) k →
      Takes (cxOf (L2.CX P w) P w K mg base N qual scope f cdv A outer s H E) (fun cls d _ H => E cls d H) → PE (cxOf (L2.CX P w) P w K mg base N qual scope f cdv A outer s H E) ex (tIt s.heap.objs.size K (fun _ => E) F)) : FnIt P w K mg base (k + 1) f ps.length (runF N.length F) := by
  subst hb
  intro A outer s H us vs S ds es hr e0 r dm rl hl hg
  obtain ⟨oc, od, dV, kV, doc, pm, an, cdv, ct, osl, rfl, lk, hcd, _, _⟩ := Fd.ex
  have hpl : ps.length ≤ N.length := by have := congrArg List.length Sc.pre; rw [List.length_take] at this; omega
  have KX : K.In s.heap := e0.mod.kin.keeps fun b o e => (e0.bs b o e).1
  have lim : s.heap.NoLimit := e0.mod.nolimit.keeps fun b o e => (e0.bs b o e).1
  have hvl : vs.length = ps.length := rl.length.trans hl
  have hul : us.length = ps.length := by rw [← r.length]; exact hvl
  have hkind : ∀ y ∈ ps.zip us, scope.names.lookup y.1 = some .local ∨ (scope.names.lookup y.1 = some .cell ∧ ((cellsFrom (s.heap.objs.size + 1) scope.names []).lookup y.1).isSome = true) := fun ⟨n, v⟩ hy => by
    rcases Sc.par n (List.of_mem_zip hy).1 with q | q
    · exact .inl q
    · exact .inr ⟨q, PySem.W.cellsFrom_some _ _ _ (.inl q)⟩
  have hbb := hbi s us KX (by rw [List.append_nil]; exact hul)
  rw [List.append_nil] at hbb
  refine codeAny_call_function hr.depth (KX _ _ lk) rfl Sc.co Sc.gen rfl (PySem.W.codeRec_of KX hcd) (hbb _ _ _ _ ?_)
  refine wpAny_newFunctionEnv_cells Sc.kind hkind fun env he s1 x => ?_
  subst he
  refine ⟨lim.keeps x.toInCall.keep, codeAny_func ?_⟩
  have tk : Takes (cxOf (L2.CX P w) P w K mg base N qual scope f cdv A outer s H E0) (fun cls d _ H => E0 cls d H) := takes_of rfl rfl rfl rfl
  have pe := hbody cdv A outer s H E0 ⟨hr.deeper _, PsA.of (passes_call tk fun _ _ _ _ z => z), rfl, passes_of rfl⟩ tk
  have I : L2.Inv (cxOf (L2.CX P w) P w K mg base N qual scope f cdv A outer s H E0) [] (start N vs) H s1 := inv_start Sc hr.hd e0 hvl r x
  have st := (start_st (N := N) rl dm (by omega)).st
  refine wpAny_mono ((pss_one (ps_ret pe)).run [] s1 (start N vs) H { nx := fun _ _ => False, rt := fun v H' => ∃ it l H2, v = .ref it ∧ s.heap.objs.size ≤ it ∧ Same H H2 ∧ H2 it = none ∧ H' = upd H2 it (ItO l it 0) ∧ Rep K S H2 (.ref l) (.lst es) } I ⟨S, _, st, ?_⟩) (fun fl s' hs => ?_) fun e s' hs => hs
  · have hg' : F (ds.map DS.fz ++ List.replicate (N.length - ds.length) DS.un) = .ok es := hg
    rw [hg']
    exact fun l it H2 e2 rr hn hle => ⟨it, l, H2, rfl, hle, e2, hn, rfl, rr⟩
  · cases fl with
    | ret u =>
      obtain ⟨v, σ', H', J, rv, q⟩ := hs
      exact ⟨v, H', J.os, J.bare, J.base, J.hok, rv, q⟩
    | next =>
      obtain ⟨σ', H', J, q⟩ := hs
      exact q.elim
    | brk =>
      obtain ⟨_, _, _, q⟩ := hs
      exact False.elim q
    | cont =>
      obtain ⟨_, _, _, q⟩ := hs
      exact False.elim q
end
section
variable {X : Cx} {Eσ : Sg → XK} {k : Nat} {c : Str} {tg a : Expr} {f : FE}
def fItO (c : Str) (G : List D → R (List D)) (f : FE) : FL := fun δ => (f δ).bind fun d => if isOb c d = true then (G [d]).quiet else .bad
theorem v_ItO {G : List D → R (List D)} {δ : DSt} {xs es : List D} (h : f δ = .ok (.obj c xs)) (g : G [.obj c xs] = .ok es) : fItO c G f δ = .ok es := by
  unfold fItO
  rw [h, R.bind_ok, if_pos (by unfold isOb; simp), g]
  rfl
theorem di_ownIt {fa : Addr} {G : List D → R (List D)} (hm : Meth X.K (He.ga X.K c) "__iter__" fa) (Fn : FnIt X.prog X.w X.K X.mg X.base k fa 1 G) (room : Room k X.A) (h : DE X Eσ a f) : DI X Eσ tg a (fItO c G f) := by
  refine ⟨fun pins s σ H R I hq => ?_⟩
  obtain ⟨S, δ, st, q⟩ := hq
  have ans := h.run pins s σ H (fun v H1 => Same H H1 ∧ ∃ xs es, Rep X.K S H1 v (.obj c xs) ∧ G [.obj c xs] = .ok es ∧ ∀ J H2, Same H H2 → ItOk X.K S H2 J es → R J H2) I ⟨S, δ, st, (Res.on q).imp fun d q1 v H1 e1 r1 => by
    by_cases io : isOb c d = true
    · rw [if_pos io] at q1
      obtain ⟨xs, rfl⟩ := isOb_of io
      cases g : G [.obj c xs] with
      | ok es =>
        rw [g] at q1
        exact ⟨e1, xs, es, r1, g, q1⟩
      | exc n ys => rw [g] at q1; exact q1.elim
      | bad => rw [g] at q1; exact q1.elim
    · rw [if_neg io] at q1; exact q1.elim⟩
  refine thn ans fun v s1 ⟨x, H1, I1, r1, e1, xs, es, rx, hg, q1⟩ => ?_
  obtain ⟨a1, ox, od, rfl, J⟩ := obj_inst I1 rx
  cases (show v = Value.ref a1 from r1)
  obtain ⟨m, hF⟩ := I1.fr
  refine PySem.W.owit_iter hF I1.ok.mod.kin J hm.at_ hm.fn ?_
  refine wpAny_call (codeAny_mono (Fn X.A X.stack s1 H1 [.ref a1] [.ref a1] S [.obj c xs] es room I1.env0 (.cons rfl .nil) (st.mono e1).here (.cons rx .nil) rfl hg) fun rr s2 hq => ?_)
  cases rr with
  | error er => exact (PsA.of (X := X) passL σ) pins H1 s1 er s2 I1 hq
  | ok fl =>
    cases fl with
    | next => exact False.elim hq
    | brk => exact False.elim hq
    | cont => exact False.elim hq
    | ret u =>
      obtain ⟨v', H', I', rv, it, l, H2, ev, hle, e2, hn, eH, rl⟩ := I1.after hq
      subst ev
      subst eH
      cases rv
      have ho : s2.heap.get? it = some (GNX.itObj l 0) := itO_get I' upd_same
      have fp := ItX.inv_fp I' (a := it) upd_same (Nat.le_trans I1.sz hle)
      have I2 := ItX.inv_drop I' (a := it) upd_same
      rw [ItX.dropH_upd hn] at I2 fp
      refine wpAny_specialOf (name := "__next__") (T := "list_iterator") ⟨_, ho, rfl⟩ slot_listiter_next.lookup ?_
      refine ⟨it, [it], _, Itl X.K l, H2, rfl, I2, turn_list l it, ⟨_, ho, rfl, rfl⟩, fun b hb => ?_, ?_⟩
      · rw [List.mem_singleton.mp hb]
        exact fp
      · cases rl with
        | lst h1 n1 r3 =>
          rename_i ys
          have hev : ∀ S' H', Ev S H2 S' H' → SqL X.K H' l ys := fun S' H' ev => SqL.of (ev.keep _ _ h1 (by intro ps z; cases z) n1)
          refine q1 _ H2 (e1.trans e2) fun S' H' ev dm i => ⟨fun hi => ?_, fun hi => ⟨ys, hev S' H' ev, by rw [r3.length]; exact hi⟩⟩
          obtain ⟨y, hy, ry⟩ := r3.get (i := i) (d := es[i]) (by simp [hi])
          refine ⟨⟨ys, y, hev S' H' ev, hy⟩, fun z H3 yz => ?_⟩
          obtain ⟨e3, hz⟩ := yz
          subst e3
          have := hz ys (hev S' _ ev)
          rw [hy] at this
          cases this
          exact ⟨Same.refl _, es[i], by simp [hi], ry.ev ev⟩
end
end DL

namespace DL
open PySem PySem.Spec PyProof.Rows L2 Builtin
section
variable {prog : Program} {w : World} {A : Around} {E : Value → Shared → Prop} {s : Shared} {K : PySem.W.Frag} {x C L f g : Addr} {h₀ : Heap} {m : Str → Option Value} {ox : Obj} {od : Option Obj} {n : Int} {t : Tok}
end
def rMulO (c : Str) (G : List D → R D) (x y : D) : R D := match y with
  | .int i => if isOb c x then G [x, .int i] else .bad
  | _ => .bad
def fMulO (c : Str) (G : List D → R D) (f g : FE) : FE := fun δ => (f δ).bind fun x => (g δ).bind fun y => rMulO c G x y
def fRMulO (c : Str) (G : List D → R D) (f g : FE) : FE := fun δ => (f δ).bind fun x => (g δ).bind fun y => rMulO c G y x
section
variable {X : Cx} {Eσ : Sg → XK} {k : Nat} {pos : Pos} {a b : Expr} {f g : FE} {c : Str} {fa fb : Addr} {G : List D → R D}
end
end DL

namespace DL
open PySem PySem.Spec PyProof.Rows L2 Builtin
section
variable {prog : Program} {w : World} {A : Around} {E : Value → Shared → Prop} {s : Shared} {K : PySem.W.Frag} {x C f : Addr} {ox : Obj} {od : Option Obj} {b tb : Value}
end
def othB (c : Str) (e : D) : Bool := isOb c e || e.tyN.isSome
def dEqO (c : Str) (G : List D → R D) (x y : D) : Option D := if isOb c x && othB c y then (match G [x, y] with | .ok (.bl b) => some (.bl b) | _ => none) else none
def dNeO (c : Str) (G : List D → R D) (x y : D) : Option D := if isOb c x && othB c y then (match G [x, y] with | .ok (.bl b) => some (.bl (!b)) | _ => none) else none
section
variable {X : Cx} {Eσ : Sg → XK} {k : Nat} {c : Str} {fa : Addr} {G : List D → R D}
end
end DL

namespace DL
open PySem PySem.Spec PyProof.Rows L2 Builtin Builtin.Str
section
variable {prog : Program} {w : World} {A : Around} {E : Value → Shared → Prop} {s : Shared} {K : PySem.W.Frag} {x C f : Addr} {ox : Obj} {od : Option Obj}
end
def dStrO (c : Str) (G : List D → R D) : List D → Option D
  | [x] => if isOb c x = true then (match G [x] with | .ok (.str z) => some (.str z) | _ => none) else none
  | _ => none
section
variable {X : Cx} {k : Nat} {c : Str} {fa : Addr} {G : List D → R D}
end
end DL

namespace DL
open PySem PySem.Spec PyProof.Rows L2
def dWords : D → Option D
  | .str a => if okLe (a.length + 2) = true then some (.lst ((Txt.words a).map .str)) else none
  | _ => none
section
variable {X : Cx} {Eσ : Sg → XK} {pos apos : Pos} {a : Expr} {f : FE}
end
end DL

namespace DL
open PySem PySem.Spec PyProof.Rows L2
def intsD : List D → Option (List Int)
  | [] => some []
  | .int i :: ds => (intsD ds).map (i :: ·)
  | _ :: _ => none
def maxI (n : Int) : List Int → Int
  | [] => n
  | m :: ns => maxI (max n m) ns
def dMaxL : List D → Option D
  | [.lst ds] => match intsD ds with
    | some (n :: ns) => some (.int (maxI n ns))
    | _ => none
  | _ => none
def dSum : List D → Option D
  | [.lst ds] => match intsD ds with
    | some ns => some (.int ns.sum)
    | _ => none
  | _ => none
section
variable {X : Cx}
end
end DL

namespace DL
open PySem PySem.Spec PyProof.Rows L2
section
variable {X : Cx} {Eσ : Sg → XK} {k : Nat} {pos p sp_ : Pos} {a : Expr} {f : FE} {x : Str}
def tbN : List (Nat × Tb) → Nat → Tb
  | [], _ => []
  | (m, tb) :: r, n => if m = n then tb else tbN r n
def fCallVS (ts : List (Nat × Tb)) (i : Nat) (f : FE) : FE := fun δ => (fVar i δ).bind fun d => match f δ with
  | .ok e => (R.of (dItL e)).bind fun ds => (R.of (tbOf (tbN ts ds.length) d)).bind fun G => G ds
  | _ => .bad
end
end DL

namespace DL
open PySem PySem.Spec PyProof.Rows L2
def setK {α : Type} : List Ky → List α → Ky → α → List α
  | x :: ks, d :: ds, k, v => if x = k then v :: ds else d :: setK ks ds k v
  | _, ds, _, _ => ds
theorem map_none {ks : List Ky} {vs : List V} {k : Ky} {v : V} (h : k ∉ ks) : (ks.zip vs).map (fun kv => if kv.1 = k then (kv.1, v) else kv) = ks.zip vs := by
  have : ∀ q ∈ ks.zip vs, (fun kv : Ky × V => if kv.1 = k then (kv.1, v) else kv) q = q := fun q hq => if_neg fun e => h (by rw [← e]; exact (List.of_mem_zip hq).1)
  exact (List.map_congr_left this).trans (List.map_id' _)
theorem RepL.setK {K : PySem.W.Frag} {S : Addr → Prop} {H : Hp} {v : V} {d : D} {k : Ky} (q : Rep K S H v d) : ∀ {ks : List Ky} {vs : List V} {ds : List D}, RepL K S H vs ds → RepL K S H (DL.setK ks vs k v) (DL.setK ks ds k d)
  | [], _, _, r => by unfold DL.setK; exact r
  | x :: ks, _, _, .nil => by unfold DL.setK; exact .nil
  | x :: ks, _, _, .cons h r => by
    unfold DL.setK
    split
    · exact .cons q r
    · exact .cons h (RepL.setK q r)
def rPutC (i : Nat) (δ : DSt) (r : List Ky × List D) (v : D) (k : Ky) : O := if okLt r.1.length = true then (if kIn k r.1 = true then .nx (δ.set i (.od r.1 (setK r.1 r.2 k v))) else .nx (δ.set i (.od (r.1 ++ [k]) (r.2 ++ [v])))) else .bad
def fPutC (i : Nat) (f g : FE) : FS := fun δ => O.on (g δ) fun v => O.on (fOd i δ) fun r => O.on (f δ) fun kd => O.on (R.of kd.key) fun k => rPutC i δ r v k
section
variable {X : Cx} {e0 : Ent} {E : XK} {pos : Pos} {x : Str} {a b : Expr} {f g : FE}
end
end DL

namespace DL
open PySem PySem.Spec PyProof.Rows L2
def fInOd (neg : Bool) (f : FE) (i : Nat) : FE := fun δ => (f δ).bind fun d => (fOd i δ).bind fun r => (R.of d.key).bind fun k => .ok (.bl (if neg then !kIn k r.1 else kIn k r.1))
def fIxOd (i : Nat) (f : FE) : FE := fun δ => (fOd i δ).bind fun r => (f δ).bind fun d => (R.of d.key).bind fun k => R.of (kGet r.1 r.2 k)
section
variable {X : Cx} {Eσ : Sg → XK} {pos p1 : Pos} {x : Str} {a b : Expr} {f g : FE}
abbrev rInK (neg : Bool) : R2 := fun x y H Q => ∃ (a : Addr) (k : Ky) (ks : List Ky) (vs : List V), x = kV k ∧ y = .ref a ∧ H a = some (.dK (kvsOf ks vs)) ∧ ks.length = vs.length ∧ Q (.bl (if neg then !kIn k ks else kIn k ks)) H
abbrev rIxK : R2 := fun x y H Q => ∃ (a : Addr) (k : Ky) (ks : List Ky) (vs : List V) (w : V), x = .ref a ∧ y = kV k ∧ H a = some (.dK (kvsOf ks vs)) ∧ valV (kvsOf ks vs) k = some w ∧ Q w H
end
end DL

namespace DL
open PySem PySem.Spec PyProof.Rows L2
section
variable {X : Cx} {pins : List (Addr × Obj)} {σ : Sg} {H : Hp} {s : Shared} {cc P c : Addr} {L : LamI} {pos : Pos}
structure LamOk (sc : Scope) (L : LamI) : Prop where
  kind : L.scope.kind = .function
  co : L.scope.isCoroutine = false
  gen : L.scope.isGenerator = false
  free : ∀ y ∈ L.scope.names, y.2 = .free → y.1 = L.cap
  cap : sc.names.lookup L.cap = some .cell
  clo : ∀ cells : List (Str × Addr), cloFrom cells L.scope.names [] = [(L.cap, (cells.lookup L.cap).getD 0)]
end
def retE (s : Stmt) : Expr := match s with
  | .Return (some e) _ => e
  | _ => .Name "" ⟨0, 0, 0, 0⟩
def ifB (s : Stmt) : List Stmt := match s with
  | .If _ b _ _ => b
  | _ => []
def lamPs (e : Expr) : Arguments := match e with
  | .Lambda p _ _ _ => p
  | _ => { posonlyargs := [], args := [], vararg := none, kwonlyargs := [], kw_defaults := [], kwarg := none, defaults := [] }
def lamBd (e : Expr) : Expr := match e with
  | .Lambda _ b _ _ => b
  | e => e
def lamSc (e : Expr) : Scope := match e with
  | .Lambda _ _ sc _ => sc
  | _ => { kind := .function, names := [], isGenerator := false, isCoroutine := false }
def NoX {α : Type} (f : DSt → R α) : Prop := ∀ δ n xs, f δ ≠ .exc n xs
def RtB (F : FS) : Prop := ∀ δ, (∃ d δ', F δ = .rt d δ') ∨ F δ = .bad
def NewC (X : Cx) (S : Addr → Prop) (σ : Sg) (H : Hp) (v : V) (d : D) : Prop :=
  ∃ (f c' c : Addr) (L : LamI) (x : D) (i : Nat) (u : V), v = .ref f ∧ d = .clo L x ∧ L.qual = lamQ ∧ X.env.cells.lookup L.cap = some c ∧ H f = some (FunO f c' c L) ∧ ¬ S f ∧ H c' = some (LamX.CodeO c' lamQ) ∧ ¬ S c' ∧ X.N[i]? = some L.cap ∧ X.env.scope.names.lookup L.cap = some .cell ∧ σ[i]? = some (some u) ∧ Rep X.K S H u x
def LRes (X : Cx) (pins : List (Addr × Obj)) (S : Addr → Prop) (σ : Sg) (H : Hp) (R : Flow → Shared → Prop) : O → Prop
  | .rt d _ => ∀ u s' v H', Inv X pins σ H' s' → Same H H' → RelV v u → (Rep X.K S H' v d ∨ NewC X S σ H' v d) → R (.ret u) s'
  | _ => False
structure LSs (X : Cx) (st : List Stmt) (F : FS) : Prop where
  run : ∀ (pins : List (Addr × Obj)) (s : Shared) (σ : Sg) (H : Hp) (S : Addr → Prop) (δ : DSt) (R : Flow → Shared → Prop), Inv X pins σ H s → StE X.K S σ H δ → LRes X pins S σ H R (F δ) → wpAny (model X.prog X.w) X.A (execs st X.env) R X.xe s
def fClo (L : LamI) (i : Nat) : FE := fun δ => (fVar i δ).bind fun x => .ok (.clo L x)
section
variable {X : Cx} {E : XK} {pos p2 : Pos} {a b c : Expr} {f g : FE} {t : FB} {F G : FS} {st rest : List Stmt} {cc P : Addr} {L : LamI}
end
section
variable {P : Program} {w : World} {K : PySem.W.Frag} {mg : Str → Option Value} {base : Heap}
end
mutual
/-- no lambda, no instance is in it -/
def D.noC : D → Bool
  | .tup xs => noCL xs
  | .lst xs => noCL xs
  | .scr xs => noCL xs
  | .dic _ xs => noCL xs
  | .obj _ _ => false
  | .clo _ _ => false
  | .non => true
  | .bl _ => true
  | .int _ => true
  | .str _ => true
  | .fn _ => true
def noCL : List D → Bool
  | [] => true
  | d :: ds => d.noC && noCL ds
end
section
variable {K : PySem.W.Frag} {S : Addr → Prop} {H : Hp} {c : Addr} {φ : Heap → Prop}
mutual
theorem Rep.del (h : H c = some (.ext φ)) : ∀ {v : V} {d : D}, Rep K S H v d → d.noC = true → Rep K S (L2.del H c) v d
  | _, _, .non, _ => .non
  | _, _, .bl b, _ => .bl b
  | _, _, .int i, _ => .int i
  | _, _, .str x, _ => .str x
  | _, _, .lst q n r, z => .lst (by rw [del_ne (ne_of q h fun e => (by cases e))]; exact q) n (RepL.del h r z)
  | _, _, .tup q n r, z => .tup (by rw [del_ne (ne_of q h fun e => (by cases e))]; exact q) n (RepL.del h r z)
  | _, _, .ltp q r, z => .ltp q (RepL.del h r z)
  | _, _, .scr q n r, z => .scr (by rw [del_ne (ne_of q h fun e => (by cases e))]; exact q) n (RepL.del h r z)
  | _, _, .sco q n r, z => .sco (by rw [del_ne (ne_of q h fun e => (by cases e))]; exact q) n (RepL.del h r z)
  | _, _, .scl q r, z => .scl q (RepL.del h r z)
  | _, _, .obj _ _, z => by cases z
  | _, _, .clo _ _, z => by cases z
  | _, _, .fn f, _ => .fn f
  | _, _, .dic q n l nd r, z => .dic (by rw [del_ne (ne_of q h fun e => (by cases e))]; exact q) n l nd (RepL.del h r z)
theorem RepL.del (h : H c = some (.ext φ)) : ∀ {vs : List V} {ds : List D}, RepL K S H vs ds → noCL ds = true → RepL K S (L2.del H c) vs ds
  | _, _, .nil, _ => .nil
  | _, _, .cons q r, z => .cons (Rep.del h q (Bool.and_eq_true_iff.mp z).1) (RepL.del h r (Bool.and_eq_true_iff.mp z).2)
end
end
structure LamB (ps : List Str) (L : LamI) : Prop where
  sc : NdefX.NScope (ps ++ [L.cap]) ps [L.cap] L.scope
  bind : ∀ (q : Str) (cl : List (Str × Addr)) (pm cv ctv : Value) (us : List Value), us.length = ps.length → bindArgs (PySem.W.kla_fn "<lambda>" q L.params L.body L.scope cl pm cv ctv) ⟨us, []⟩ = pure (ps.zip us)
abbrev nfL (L : LamI) (c' c : Addr) : NdefX.NF := ⟨"<lambda>", L.qual, L.params, [], L.scope, [(L.cap, c)], c'⟩
def lamG (n : Nat) (g : FE) (x : D) (ds : List D) : R D := if (noCL ds && x.noC && ds.length == n) = true then (match g ((ds ++ [x]).map .fz) with | .ok d => .ok d | _ => .bad) else .bad
def LamP (P : Program) (w : World) (K : PySem.W.Frag) (mg : Str → Option Value) (base : Heap) (ps : List Str) (L : LamI) (g : FE) : Prop :=
  ∀ (f c' c : Addr) (A : Around) (outer : List Env) (s : Shared) (H : Hp), DE (NdefX.ncx (L2.CX P w) P w K mg base (ps ++ [L.cap]) (nfL L c' c) f A outer s H E0) E0s L.body g
section
variable {P : Program} {w : World} {K : PySem.W.Frag} {mg : Str → Option Value} {base : Heap}
def spC (K : PySem.W.Frag) (n : Nat) (L : LamI) (f : Addr) (G : D → List D → R D) : Sp := fun vs H Q E => ∃ S ds c' c v x, CloAt S H f c' c L v ∧ Rep K S H v x ∧ Dom K S H ∧ RepL K S H vs ds ∧ ds.length = n ∧ Res K S H E (G x ds) fun d => ∀ v H', Same H H' → Rep K S H' v d → Q v H'
abbrev Ctb : Type := List (LamI × (D → List D → R D))
def CtOk (P : Program) (w : World) (K : PySem.W.Frag) (mg : Str → Option Value) (base : Heap) (k n : Nat) (ct : Ctb) : Prop := ∀ q ∈ ct, ∀ f : Addr, FnR P w K mg base (L2.CX P w) k f (spC K n q.1 f q.2)
open Classical in
noncomputable def ctGet : Ctb → LamI → Option (D → List D → R D)
  | [], _ => none
  | q :: ct, L => if q.1 = L then some q.2 else ctGet ct L
noncomputable def cbOf (tb : Tb) (ct : Ctb) : D → Option (List D → R D)
  | .fn f => tbGet tb f
  | .clo L x => (ctGet ct L).map fun G => G x
  | _ => none
noncomputable def fCallC (tb : Tb) (ct : Ctb) (i : Nat) (fl : FL) : FE := fun δ => (fVar i δ).bind fun d => (R.of (cbOf tb ct d)).bind fun G => (fl δ).bind G
end
section
variable {X : Cx} {Eσ : Sg → XK} {k : Nat} {pos p : Pos} {x : Str} {a : Expr} {es : List Expr} {fl : FL}
end
end DL

namespace DL
open PySem PySem.Spec PyProof.Rows L2
section
variable {X : Cx} {e0 : Ent} {E : XK} {Eσ : Sg → XK} {pos p tpos : Pos} {a b : Expr} {elts es : List Expr} {f g : FE} {fl : FL}
def enumD : Nat → List D → List D
  | _, [] => []
  | n, d :: ds => .tup [.int n, d] :: enumD (n + 1) ds
def IteT (K : PySem.W.Frag) (a : Addr) : It :=
  ⟨fun i H => ∃ (xs : List V) (x : V), SqT K H a xs ∧ xs[i]? = some x, fun i H v H' => ∃ T x, v = .ref T ∧ H T = none ∧ H' = upd H T (.tup [.int (i : Nat), x]) ∧ ∀ xs, SqT K H a xs → xs[i]? = some x, fun i H => ∃ xs : List V, SqT K H a xs ∧ xs.length ≤ i⟩
def iEnum2 (K : PySem.W.Frag) (ta : TA) : TI := fun σ H R => ta σ H fun vs H1 => ∃ a xs, vs = [.ref a] ∧ ((SqL K H1 a xs ∧ R (Ite K a) H1) ∨ (SqT K H1 a xs ∧ R (IteT K a) H1))
def rEnum : D → R (List D)
  | .lst ds => .ok (enumD 0 ds)
  | .tup ds => .ok (enumD 0 ds)
  | _ => .bad
def fEnum (f : FE) : FL := fun δ => (f δ).bind rEnum
def rRepL : D → D → R (List D)
  | .lst xs, .int k => if repOk xs.length k = true then .ok (List.replicate k.toNat xs).flatten else .bad
  | _, _ => .bad
def fRepL (f g : FE) : FL := fun δ => (f δ).bind fun x => (g δ).bind fun y => rRepL x y
end
end DL

namespace DL
open PySem PySem.Spec PyProof.Rows L2
section
variable {X : Cx} {e0 : Ent} {E : XK} {pos p1 p2 p3 p4 : Pos} {x : Str} {a : Expr} {f : FE} {F G : FS} {as bs : List Stmt}
def rWal (i : Nat) (δ : DSt) (F G : FS) (d : D) : O := match d.isNon with
  | true => G (δ.set i (.fz d))
  | false => F (δ.set i (.fz d))
def fIfW (i : Nat) (f : FE) (F G : FS) : FS := fun δ => O.on (f δ) (rWal i δ F G)
def whileWF (i : Nat) (f : FE) (F : FS) : Nat → DSt → O
  | 0, _ => .bad
  | n + 1, δ => O.on (f δ) fun d => match d.isNon with
    | true => .nx (δ.set i (.fz d))
    | false => match F (δ.set i (.fz d)) with
      | .nx δ2 => whileWF i f F n δ2
      | .ct δ2 => whileWF i f F n δ2
      | .bk δ2 => .nx δ2
      | .rt d δ2 => .rt d δ2
      | .exc n xs => .exc n xs
      | .bad => .bad
end
end DL

namespace DL
open PySem PySem.Spec PyProof.Rows L2 NdefX
section
open PySem.W
variable {prog : Program} {w : World} {A : Around} {E : Value → Shared → Prop} {h : Heap} {g : Array GenState} {d : Drawn} {t : Nat} {os : OsState}
variable {nm q : Str} {C N : Addr} {bs bm : List Value} {hdct : Bool} {sn : List Str} {sub : List Value} {ab : Bool} {col : Option Bool} {dd : Option Addr} {k0 k1 k2 k3 k5 : Option Value}
theorem call_mw {u e t0 : Addr} {rest : List Value} {Q : Value → Shared → Prop} (hT : HandSPX.refsVE bm = true)
    (hC : h.get? C = some (excClassObj nm q C N bs bm hdct sn sub ab col dd k0 k1 k2 k3 k5 "ValueError.__new__")) (he : h.get? e = some (HandSPX.excO C t0)) (hu : h.get? u = some (kxs_mw "ValueError.__init__" e)) (hr : rest.length ≤ sizeLine)
    (hq : ∀ h' t1, (∀ b o, b ≠ e → h.get? b = some o → h'.get? b = some o) → h'.get? e = some (HandSPX.excO C t1) → Q .none ⟨h', g, d, t, os⟩) :
    wpAny (model prog w) A (call (.ref u) rest) Q E ⟨h, g, d, t, os⟩ := by
  refine wpAny_call (codeAny_of_tree ?_)
  show wpAny _ A.in1 (callAny (.ref u) ⟨rest, []⟩) _ _ _
  simp only [callAny]
  refine wpAny_bind (wpAny_load hu ?_)
  simp only [kxs_mw, show (Value.type "method-wrapper" == Value.type "method" || Value.type "method-wrapper" == Value.type "builtin_function_or_method" || Value.type "method-wrapper" == Value.type "method-wrapper") = true by decide, if_true]
  refine W.KFB.if_so (by decide) ?_
  refine wpAny_bind (PySem.ESX.check_bound F.excBase_ValueError hC he rfl ?_)
  refine wpAny_bind (wpAny_pure (wpAny_pure ?_))
  refine ⟨Code.quiet_builtin _ (by decide +kernel), codeAny_builtin F.excBase_ValueError.initEntry ?_⟩
  rw [Around.under_plainId F.excBase_ValueError.init.plain _]
  wp_walk
  exact hq _ h.objs.size (fun b o hb ho => (Heap.get?_update_other _ _ (Ne.symm hb)).trans (Heap.get?_push_of_some _ ho)) ((Heap.get?_update_self _ (Heap.get?_push_of_some _ he) rfl).trans rfl)
end
structure InitK (P : Program) (K : PySem.W.Frag) (C fI cc : Addr) (F : NF) : Prop where
  oex : OexC K C
  lk : ∃ oc od doc pm ctv osl, K.lookup fI = some ⟨oc, od, .func (F.fd doc pm ctv), osl⟩
  cl : F.cl = [(("__class__" : Str), cc)]
  code : PySem.W.codeIn K (.ref F.c) F.qual = true
  file : ∃ oc od vs sl file tf, K.lookup F.c = some ⟨oc, od, .fields vs, sl⟩ ∧ vs[2]? = some (.str file tf) ∧ ((P.main.file : Str) == file) = true
  cell : ∃ oc od sl, K.lookup cc = some ⟨oc, od, .cell (some (.ref C)), sl⟩
  along : ∃ cd, PySem.W.clsIn K C = some cd ∧ PySem.W.alongIn K ("__init__" : Str) ((cd.mro.dropWhile (· != .ref C)).drop 1) = some (some (.builtin "ValueError.__init__"))
  sub : PySem.W.mroIn K C (.ref C) = some true
  isV : PySem.W.mroIn K C (.type "ValueError") = some true
  opq : PySem.W.nsIn K cStatics "thirdparty.any" = some none
  top : (P.main.scope.names.lookup ("super" : Str)).isSome = false
abbrev sInitE (p0 p1 p2 p3 p4 : Pos) (j : Nat) (msg : Str) : Expr := .Call (.Attribute (.Call (.Name "super" p0) [] [] p1) "__init__" p2) [.Constant (.str msg) j p3] [] p4
abbrev sInit (p0 p1 p2 p3 p4 p5 : Pos) (j : Nat) (msg : Str) : Stmt := .Expr (sInitE p0 p1 p2 p3 p4 j msg) p5
structure InitS (ps : List Str) (F : NF) (p0 p1 p2 p3 p4 p5 : Pos) (j : Nat) (msg : Str) : Prop where
  sc : NScope (ps ++ [("__class__" : Str)]) ps [("__class__" : Str)] F.scope
  sup : F.scope.names.lookup ("super" : Str) = some .globalImplicit
  par : ∃ ar, (F.params.posonlyargs ++ F.params.args).head? = some ar ∧ ps.head? = some ar.arg
  int : ∀ f L, interactive (envF F f L) = false
  swp : ∀ f L, swapsWith (sInitE p0 p1 p2 p3 p4 j msg) none p5.line (envF F f L) = pure false
  ev : ∀ f L, ∃ pl, eval (sInitE p0 p1 p2 p3 p4 j msg) (envF F f L) = (do
      let ov ← attributeBase (.Call (.Name "super" p0) [] [] p1) "__init__" (envF F f L) (eval (.Call (.Name "super" p0) [] [] p1) (envF F f L))
      standAt p2.atName
      let (f', first) ← holding [ov] (getMethod ov "__init__" pl)
      callWith p4 f' first (backTo p4 (starEach [.Constant (.str msg) j p3] (envF F f L))) [])
  args : ∀ f L, starEach [.Constant (.str msg) j p3] (envF F f L) = (false, eval (.Constant (.str msg) j p3) (envF F f L)) :: starEach [] (envF F f L)
section
variable {CX : CXT} {P : Program} {w : World} {K : PySem.W.Frag} {mg : Str → Option Value} {base : Heap} {ps : List Str} {F : NF} {fI C cc : Addr} {A : Around} {outer : List Env} {s : Shared} {H : Hp} {E : XK} {k : Nat}
theorem cells_init (T : InitK P K C fI cc F) (e0 : Env0 P w K mg base A outer s H) : CellsAt F.cl [("__class__" : Str)] [some (.ref C)] s.heap H := by
  obtain ⟨oc, od, sl, lc⟩ := T.cell
  have hb := e0.bs _ _ (e0.mod.kin _ _ lc)
  rw [T.cl]
  refine ⟨rfl, fun y c e => ?_, fun x y c e1 e2 => ?_, fun i y e => ?_⟩
  · have : c = cc := by
      by_cases hy : y = "__class__"
      · subst hy; simpa [List.lookup] using e.symm
      · have : (y == ("__class__" : Str)) = false := by simpa using hy
        simp [List.lookup, this] at e
    subst this
    exact ⟨hb.2, _, ⟨_, hb.1, rfl⟩⟩
  · have key : ∀ {z : Str}, List.lookup z [(("__class__" : Str), cc)] = some c → z = "__class__" := fun {z} e => by
      by_cases hz : z = "__class__"
      · exact hz
      · have : (z == ("__class__" : Str)) = false := by simpa using hz
        simp [List.lookup, this] at e
    rw [key e1, key e2]
  · have : i = 0 ∧ y = "__class__" := by
      cases i with
      | zero => exact ⟨rfl, by simpa using e.symm⟩
      | succ i => simp at e
    obtain ⟨rfl, rfl⟩ := this
    refine ⟨cc, by simp [List.lookup], fun v hv => ⟨.ref C, ?_, ⟨_, hb.1, rfl⟩⟩⟩
    simp at hv
    subst hv
    rfl
theorem run_super (T : InitK P K C fI cc F) {p0 p1 p2 p3 p4 p5 : Pos} {j : Nat} {msg : Str} (S : InitS ps F p0 p1 p2 p3 p4 p5 j msg) {a : Addr} {vs : List V} {body : List Stmt} {Q : Flow → Shared → Prop} {s1 : Shared}
    (hp : ∀ x, ps.head? = some x → (startF (ps ++ [("__class__" : Str)]) vs [some (.ref C)])[0]? = some (some (.ref a)))
    (I : Inv (ncx CX P w K mg base (ps ++ [("__class__" : Str)]) F fI A outer s H E) [] (startF (ps ++ [("__class__" : Str)]) vs [some (.ref C)]) H s1) (ea : H a = some (exo a C none)) (hm : mg "super" = none)
    (hq : ∀ s2, Inv (ncx CX P w K mg base (ps ++ [("__class__" : Str)]) F fI A outer s H E) [] (startF (ps ++ [("__class__" : Str)]) vs [some (.ref C)]) H s2 → Q .next s2) :
    _root_.PySem.wpAt (model P w) (A.deeper (envF F fI s.heap.objs.size)) (.func body (envF F fI s.heap.objs.size)) (exec (sInit p0 p1 p2 p3 p4 p5 j msg) (envF F fI s.heap.objs.size)) Q (ncx CX P w K mg base (ps ++ [("__class__" : Str)]) F fI A outer s H E).xe s1 := by
  obtain ⟨oc, od, doc, pm, ctv, osl, lk⟩ := T.lk
  obtain ⟨oc2, od2, fv, sl2, file, tf, lf, hv2, hfile⟩ := T.file
  obtain ⟨oc3, od3, sl3, lc⟩ := T.cell
  obtain ⟨ar, har, hp0⟩ := S.par
  have KX : K.In s1.heap := I.kIn
  have hk : F.scope.kind = .function := S.sc.kind
  have hx0 : (ps ++ [("__class__" : Str)])[0]? = some ar.arg := by
    cases ps with
    | nil => cases hp0
    | cons x r => simpa using hp0
  have hself := hp _ hp0
  have hks : (envF F fI s.heap.objs.size).kindOf "super" = some .globalImplicit := S.sup
  have hkc : (envF F fI s.heap.objs.size).kindOf "__class__" = some .free := S.sc.frk _ (by simp)
  obtain ⟨pl, hev⟩ := S.ev fI s.heap.objs.size
  refine ks_wpAt_Expr_any (ks_wpAt_MethodCall ?_ hev) (S.int _ _) (S.swp _ _)
  refine ks_wpAt_super_base hks hkc rfl rfl (KX _ _ lk) rfl har rfl (KX _ _ lf) rfl hv2 hfile T.top ?_
  obtain ⟨mb, b1, b2⟩ := I.mod.blt
  refine W.ks_loadName_global (env := envF F fI s.heap.objs.size) hk hks (Calls.loadGlobal_builtin (env := envF F fI s.heap.objs.size) (I.mod.glob.keeps I.bk) hm (b1.keeps I.bk) ((b2 "super" (by decide)).trans (by kernel_rfl)) ⟨rfl, ?_⟩)
  refine wpAny_loadName_free (env := envF F fI s.heap.objs.size) hk hkc (by show List.lookup _ F.cl = some cc; rw [T.cl]; rfl) ⟨_, KX _ _ lc, rfl⟩ ?_
  obtain ⟨m, hns, hlk⟩ := id I.loc
  have hloc : F.scope.names.lookup ar.arg = some .local := S.sc.par _ (by
    cases ps with
    | nil => cases hp0
    | cons x r => simp at hp0; rw [← hp0]; exact List.mem_cons_self)
  obtain ⟨uu, ru, lk0⟩ := hlk 0 ar.arg (.ref a) hx0 hself (.inl hloc)
  cases (show uu = Value.ref a from ru)
  have hma : m ar.arg = some (.ref a) := by
    rcases lk0 with ⟨_, e⟩ | ⟨k, _⟩
    · exact e
    · have k : F.scope.names.lookup ar.arg = some .cell ∨ F.scope.names.lookup ar.arg = some .free := k
      rw [hloc] at k
      rcases k with k | k <;> cases k
  refine wpAny_loadName_local (env := envF F fI s.heap.objs.size) hk hloc hns hma ?_
  obtain ⟨nm, q, N, bs, bm, sn, sub, ab, col, dd, k0, k1, k2, k3, k5, hC, hbm⟩ := T.oex.cls
  have hcl : PySem.W.clsIn K C = some { name := nm, bases := bs, mro := .ref C :: bm, ns := N, qualname := q, hasDict := true, slotNames := sn, subclasses := sub, abstract := ab, collection := col, hasDel := false } := by unfold PySem.W.clsIn; rw [hC] <;> rfl
  obtain ⟨t1, hea⟩ := exo_at I.hok ea
  have hCs := KX _ _ hC
  refine ks_wpAny_isType_cls (cd := _) hCs rfl ⟨rfl, ?_⟩
  obtain ⟨cd, hcd, hal⟩ := T.along
  have hcde := hcd.symm.trans hcl
  obtain ⟨hp, gs, dr, tk, os⟩ := s1
  have hInst : ∀ {M : Model} {h' : Heap}, (∀ b o, hp.get? b = some o → h'.get? b = some o) → ∀ {B : Value} {r : Bool}, PySem.W.mroIn K C B = some r → PySem.W.Looks M h' (isInstance (.ref a) B) r := fun {M h'} kp {B r} e =>
    have J : PySem.W.InstAt h' a (HandSPX.excO C t1) C none := ⟨kp _ _ hea, rfl, rfl, trivial⟩
    J.type.andThen (PySem.W.looks_mroIn (KX.keeps kp) e)
  have hne : a ≠ C := fun z => by
    have := (I.bk _ _ (I.mod.kin _ _ hC)).symm.trans (z ▸ hea)
    cases this
  refine ks_wpAny_call_super (cdD := _) hCs rfl hea rfl (fun c e => by cases e) (PySem.W.looks_mroIn KX T.sub) (fun h1 hso kp1 => ?_)
  have I1 := I.kept (h' := h1) (t' := tk + 1) kp1
  have KX1 : K.In h1 := KX.keeps kp1
  refine PySem.W.kxs_getMethod PySem.W.kxs_ValueError hso (PySem.W.looks_opaque KX1 T.opq) (l₀ := cd.mro) ((PySem.W.looks_clsIn KX1 hcd).andThen .now) rfl KX1 hal (hInst kp1 T.isV) hne (by decide) ?_
  have kp2 : ∀ b o, hp.get? b = some o → (h1.push (PySem.W.kxs_mw "ValueError.__init__" a)).get? b = some o := fun b o e => Heap.get?_push_of_some _ (kp1 b o e)
  have I2 := ClX.pin_new (t' := tk + 1) (o := PySem.W.kxs_mw "ValueError.__init__" a) (h' := h1.push (PySem.W.kxs_mw "ValueError.__init__" a)) I1 (fun _ _ z => Heap.get?_push_of_some _ z) (Nat.le_refl _) (Heap.get?_push_size h1 rfl) (fun v z => nomatch z)
  have ha : PA (ncx CX P w K mg base (ps ++ [("__class__" : Str)]) F fI A outer s H E) [.Constant (.str msg) j p3] (tCons (tC (.str msg)) tNil) := pa_cons pe_str pa_nil (S.args _ _)
  have run := ha.run p4 [(h1.objs.size, PySem.W.kxs_mw "ValueError.__init__" a)] _ _ H (fun vs' H' => vs' = [V.str msg] ∧ H = H') I2 ⟨rfl, rfl⟩
  have hsa := S.args fI s.heap.objs.size
  have run : wpAny (model P w) (A.deeper (envF F fI s.heap.objs.size)) (spliced (backTo p4 (starEach [.Constant (.str msg) j p3] (envF F fI s.heap.objs.size)))) _ _ _ := run
  rw [hsa] at run ⊢
  refine PySem.W.kxs_callWith (i := "ValueError.__init__") (x := a) (by rfl) (Calls.evalArgs_plain (wpAny_mono run (fun us s3 hh => ?_) fun _ _ z => z))
  obtain ⟨vs', H', I3, r3, ev, eH⟩ := hh
  subst ev eH
  obtain ⟨hp3, gs3, dr3, tk3, os3⟩ := s3
  obtain ⟨t3, he3⟩ := exo_at I3.hok ea
  refine ⟨ClX.pin_at I3, call_mw hbm (I3.kIn _ _ hC) he3 (ClX.pin_at I3) (by rw [show ([] ++ us : List Value) = us from rfl, ← Paired.length r3, sizeLine_eq]; show 1 ≤ 16777216; decide) fun h' t4 k x => ?_⟩
  have J := I3.write (t' := tk3) (x := a) (e := a) (o := exo a C none) (h' := h') (by rw [ea]; exact True.intro) (.inl rfl) k ⟨_, x⟩ (exo_ok x)
  have eu : upd H a (exo a C none) = H := funext fun b => by
    by_cases hb : b = a
    · rw [hb, upd_same, ea]
    · exact upd_ne hb
  rw [eu] at J
  exact hq _ ⟨J.ok, J.os, J.bare, J.base, J.loc, J.cell, J.free, J.freeC, fun p hp => J.pin p (List.mem_append_left _ (by simpa using hp)), J.hok, J.len⟩
def spI (C : Addr) (fs : List Str) : Sp := fun vs H Q _ => ∃ a ws, vs = .ref a :: ws ∧ ws.length = fs.length ∧ H a = some (exo a C none) ∧ ∀ dx, H dx = none → dx ≠ a → Q .non (upd (upd H dx (exd dx ((fs.zip ws).reverse))) a (exo a C (some dx)))
theorem init_of {fs : List Str} {self : Str} {p0 p1 p2 p3 p4 p5 : Pos} {j : Nat} {msg : Str} {rest : List Stmt} (T : InitK P K C fI cc F) (S : InitS (self :: fs) F p0 p1 p2 p3 p4 p5 j msg) (hm : mg "super" = none) (hbody : F.body = sInit p0 p1 p2 p3 p4 p5 j msg :: rest)
    (hrest : ∀ (A : Around) (outer : List Env) (s : Shared) (H : Hp) (E : XK) (a : Addr) (ws : List V) (Q : VK), ws.length = fs.length → H a = some (exo a C none) → (∀ dx, H dx = none → dx ≠ a → Q .non (upd (upd H dx (exd dx ((fs.zip ws).reverse))) a (exo a C (some dx)))) →
      ∃ t, PSs (ncx CX P w K mg base (self :: fs ++ [("__class__" : Str)]) F fI A outer s H E) rest t ∧ t { nx := fun _ H' => Q .non H', rt := Q } (startF (self :: fs ++ [("__class__" : Str)]) (.ref a :: ws) [some (.ref C)]) H) :
    ∃ fd, FnOk P w K mg base CX (k + 1) fI fd (self :: fs) (spI C fs) ∧ ∃ oc od osl doc pm ctv, fd = F.fd doc pm ctv ∧ K.lookup fI = some ⟨oc, od, .func fd, osl⟩ := by
  obtain ⟨oc, od, doc, pm, ctv, osl, lk⟩ := T.lk
  refine ⟨F.fd doc pm ctv, ⟨fun vs H Q E ⟨a, ws, e, l, _⟩ => by rw [e, List.length_cons, List.length_cons, l], fun A outer s H args us vs Q E hr e0 hb r hsp => ?_⟩, oc, od, osl, doc, pm, ctv, rfl, lk⟩
  obtain ⟨a, ws, ev, hl, ea, hq⟩ := hsp
  subst ev
  have lim : s.heap.NoLimit := e0.mod.nolimit.keeps fun b o e => (e0.bs b o e).1
  have KX : K.In s.heap := e0.mod.kin.keeps fun b o e => (e0.bs b o e).1
  refine codeAny_call_function hr.depth (KX _ _ lk) rfl S.sc.co S.sc.gen rfl (PySem.W.codeRec_of KX T.code) (hb _ _ _ _ ?_)
  refine wpAny_newFunctionEnv S.sc.nocell (fun ⟨n, _⟩ hy => S.sc.par n (List.of_mem_zip hy).1) (fun h1 hns hsb => ⟨lim.fresh _ hsb, ?_⟩) S.sc.kind
  show codeAny _ _ (.func F.body (envF F fI s.heap.objs.size)) _ _
  have kp : ∀ b o, s.heap.get? b = some o → h1.get? b = some o := fun b o e => hsb.extBut b o (Nat.ne_of_lt (Heap.lt_size e)) (Heap.get?_push_of_some _ e)
  have I := inv_startN (CX := CX) (f := fI) (tk := s.toks + ((self :: fs).zip us).length) (E := E) S.sc hr.hd e0 (by rw [List.length_cons, List.length_cons, hl]) r (cells_init T e0) hns kp
  obtain ⟨t, ht, hqt⟩ := hrest A outer s H E a ws Q hl ea hq
  rw [hbody]
  refine ks_codeAny_funcAt (ks_wpAt_execs_cons (run_super T S (fun x _ => rfl) I ea hm fun s2 I2 => wpAt_of_wpAny ?_))
  refine wpAny_mono (ht.run [] s2 _ H _ I2 hqt) (fun fl s' hs => ?_) fun e s' hs => hs
  cases fl with
  | ret u =>
    obtain ⟨v, σ', H', J, rv, q⟩ := hs
    exact ⟨v, H', J.os, J.bare, J.base, J.hok, rv, q⟩
  | next =>
    obtain ⟨σ', H', J, q⟩ := hs
    exact ⟨.non, H', J.os, J.bare, J.base, J.hok, rfl, q⟩
  | brk => exact hs.choose_spec.choose_spec.2.elim
  | cont => exact hs.choose_spec.choose_spec.2.elim
theorem init_one {f self : Str} {p0 p1 p2 p3 p4 p5 q0 q1 q2 q3 : Pos} {j : Nat} {msg : Str} (hbody : F.body = [sInit p0 p1 p2 p3 p4 p5 j msg, .Assign [.Attribute (.Name self q0) f q1] (.Name f q2) q3]) (T : InitK P K C fI cc F) (S : InitS [self, f] F p0 p1 p2 p3 p4 p5 j msg) (hm : mg "super" = none)
    (hno : PySem.W.findIn K (.ref C) f = some none)
    (hsw : ∀ g L, swapsWith (.Name f q2) (some (.Attribute (.Name self q0) f q1)) q3.line (envF F g L) = pure false) (n1 : (self == ("__debug__" : Str)) = false) (n2 : (self == ("__classdict__" : Str)) = false) (n3 : (f == ("__debug__" : Str)) = false) (n4 : (f == ("__classdict__" : Str)) = false) :
    ∃ fd, FnOk P w K mg base CX (k + 1) fI fd [self, f] (spI C [f]) ∧ ∃ oc od osl doc pm ctv, fd = F.fd doc pm ctv ∧ K.lookup fI = some ⟨oc, od, .func fd, osl⟩ := by
  refine init_of T S hm hbody fun A outer s H E a ws Q hl ea hq => ?_
  match ws, hl with
  | [y], _ =>
    refine ⟨_, pss_one (ps_ost (pe_var (i := 0) rfl (.inl (S.sc.par self (by simp))) n1 n2) (pe_var (i := 1) rfl (.inl (S.sc.par f (by simp))) n3 n4) (hsw _ _)), ?_⟩
    exact ⟨y, rfl, .ref a, rfl, a, C, rfl, T.oex, hno, .inl ⟨ea, fun dx h1 h2 => hq dx h1 h2⟩⟩
end
structure ExOk (P : Program) (w : World) (K : PySem.W.Frag) (mg : Str → Option Value) (base : Heap) (n self : Str) (fs : List Str) : Prop where
  fn : ∃ fd, FnOk P w K mg base (L2.CX P w) 1 (He.ma K (He.ga K n) "__init__") fd (self :: fs) (spI (He.ga K n) fs) ∧ Binds K fd (self :: fs) []
  oex : OexC K (He.ga K n)
  at_ : PySem.W.findIn K (.ref (He.ga K n)) "__init__" = some (some (.ref (He.ma K (He.ga K n) "__init__")))
  ty : PySem.W.typeIn K (.ref (He.ma K (He.ga K n) "__init__")) = some (.type "function")
def fRaise (n : Str) (fl : FL) : FS := fun δ => O.on (fl δ) fun ds => .exc n ds.reverse
section
variable {X : Cx} {e0 : Ent} {E : XK} {k : Nat} {b : Expr} {es : List Expr} {fl : FL} {p p1 pos : Pos} {n : Str}
theorem zr : ∀ (l : List Str) (m : List V), l.length = m.length → (l.zip m).reverse = l.reverse.zip m.reverse
  | [], [], _ => rfl
  | a :: l, b :: m, h => by
    have h' : l.length = m.length := Nat.succ.inj h
    rw [List.zip_cons_cons, List.reverse_cons, List.reverse_cons, List.reverse_cons, zr l m h', List.zip_append (by rw [List.length_reverse, List.length_reverse, h'])]
    rfl
  | [], _ :: _, h => by cases h
  | _ :: _, [], h => by cases h
theorem ds_raise {fs : List Str} {self : Str} (hfs : fs.reverse = exF n) (hlf : fs.length ≤ 900) (x : ExOk X.prog X.w X.K X.mg X.base n self fs) (hr : Room 2 X.A) (hc : X.calm = true) (tk : Takes X (fun cls d _ H => E cls d H)) (hg : Gl X n) (hm : X.mg n = some (.ref (He.ga X.K n)))
    (ha : DA X (fun _ => E) (b :: es) fl) (hn : (b :: es).length = fs.length := by rfl) (hdb : (n == ("__debug__" : Str)) = false := by decide) (he : starEach (b :: es) X.env = (false, eval b X.env) :: starEach es X.env := by rfl) (hpl : (backTo p1 (starEach es X.env)).any (·.1) = false := by rfl) :
    DSt1 X e0 E (.Raise (some (.Call (.Name n p) (b :: es) [] p1)) none pos) (fRaise n fl) := by
  obtain ⟨⟨fd, Fn, hb⟩, T, iC, tI⟩ := x
  refine PS.imp (ps_raise hc tk (pmk_oex T iC tI Fn hr hb (.nil : Vals [] []) passL hg hm ha.pa hdb he hpl)) fun D σ H h => ?_
  obtain ⟨S, δ, st, q⟩ := h
  have q1 := Fin.on st (show Fin X.K e0.M e0.S e0.H E D S H (O.on (fl δ) fun ds => .exc n ds.reverse) from q) (P := fun ds => ∀ cls dx H', KeepM e0.M e0.H H' → ExR X.K e0.S H' cls dx n ds.reverse → E cls dx H') fun ds q2 => q2
  refine ⟨S, δ, st.st, ?_⟩
  cases r : fl δ with
  | bad => rw [r] at q1; exact q1.elim
  | exc m xs => rw [r] at q1; exact q1
  | ok ds =>
    rw [r] at q1
    have q1 : ∀ cls dx H', KeepM e0.M e0.H H' → ExR X.K e0.S H' cls dx n ds.reverse → E cls dx H' := q1
    intro vs H1 e1 r1
    have lv : vs.length = fs.length := r1.length.trans ((ha.len δ ds r).trans hn)
    refine ⟨by rw [lv]; omega, fun a na => ?_⟩
    rw [List.append_nil]
    refine ⟨a, vs, rfl, lv, upd_same, fun dx hd ne => ⟨rfl, dx, (fs.zip vs).reverse, upd_same, (upd_ne ne).trans upd_same, ?_, ?_⟩⟩
    · rwa [upd_ne ne] at hd
    · have hd1 : H1 dx = none := by rwa [upd_ne ne] at hd
      have sm : Same H1 (upd (del (upd (upd (upd H1 a (exo a (He.ga X.K n) none)) dx (exd dx (fs.zip vs).reverse)) a (exo a (He.ga X.K n) (some dx))) a) dx (.xd (fs.zip vs).reverse)) := .of fun c o hc => by
        have ca : c ≠ a := ne_of_none hc na
        have cd : c ≠ dx := ne_of_none hc hd1
        rw [upd_ne cd, del_ne ca, upd_ne ca, upd_ne cd, upd_ne ca]
        exact hc
      refine q1 _ _ _ ((st.same.trans e1).trans sm) ⟨rfl, dx, vs.reverse, rfl, ?_, fun z => ?_, ?_⟩
      · rw [upd_same, zr _ _ lv.symm, hfs]
      · obtain ⟨o, ho, _⟩ := st.st.here.at_ dx (st.sub dx z)
        obtain ⟨_, this⟩ := e1.dom _ _ ho
        rw [hd1] at this
        cases this
      · exact ((r1.mono sm).less (fun b z => st.sub b z)).reverse
end
end DL

namespace DL
open PySem PySem.Spec PyProof.Rows L2
abbrev HdL : Type := List (Value × Option Nat × (Addr → Value → Option Addr → TS))
def endG : Option Nat → Ends → Ends
  | none, D => D
  | some i, D => { nx := fun σ1 H1 => D.nx (σ1.set i none) H1, rt := D.rt, bk := fun σ1 H1 => D.bk (σ1.set i none) H1, ct := fun σ1 H1 => D.ct (σ1.set i none) H1 }
def setG : Option Nat → Addr → Sg → Sg
  | none, _, σ => σ
  | some i, a, σ => σ.set i (some (.ref a))
def wG (K : PySem.W.Frag) (W0 : WX) (D : Ends) : HdL → WX
  | [] => W0
  | q :: r => fun cls d σ H => ∃ b, PySem.W.exmOne K cls q.1 = some b ∧ (b = true → ∀ a, H a = none → q.2.2 a cls d (endG q.2.1 D) (setG q.2.1 a σ) H) ∧ (b = false → wG K W0 D r cls d σ H)
inductive HdG (X : Cx) : List ExceptHandler → HdL → Prop
  | nil : HdG X [] []
  | only {x : Str} {c : Value} {ts : Addr → Value → Option Addr → TS} {b1 : Stmt} {bs : List Stmt} {np hp : Pos} {hds : List ExceptHandler} {l : HdL} (nm : Names X x c)
      (su : ∀ (a : Addr) (oe : Obj) (cls : Value) (d : Option Addr) (pn : List (Addr × Obj)), Zc cls d oe → (∃ vs, oe.data = .fields vs) → PSs (X.suite a ((a, oe) :: pn)) (b1 :: bs) (ts a cls d)) (r : HdG X hds l) :
      HdG X (.ExceptHandler (some (.Name x np)) none (b1 :: bs) hp :: hds) ((c, none, ts) :: l)
  | as_ {x n : Str} {i : Nat} {c : Value} {ts : Addr → Value → Option Addr → TS} {b1 : Stmt} {bs : List Stmt} {np hp : Pos} {hds : List ExceptHandler} {l : HdL} (nm : Names X x c) (nd : X.N.Nodup) (hi : X.N[i]? = some n) (hl : X.env.kindOf n = some .local)
      (su : ∀ (a : Addr) (oe : Obj) (cls : Value) (d : Option Addr) (pn : List (Addr × Obj)), Zc cls d oe → (∃ vs, oe.data = .fields vs) → PSs (X.suite a ((a, oe) :: pn)) (b1 :: bs) (ts a cls d)) (r : HdG X hds l) :
      HdG X (.ExceptHandler (some (.Name x np)) (some n) (b1 :: bs) hp :: hds) ((c, some i, ts) :: l)
section
variable {X : Cx} {body : List Stmt} {hd1 : ExceptHandler} {hds : List ExceptHandler} {l : HdL} {pos : Pos} {tb : WX → TS} {W0 : WX}
end
def FinW (K : PySem.W.Frag) (e0 : Ent) (W : WX) (σ : Sg) (D : Ends) (S : Addr → Prop) (H : Hp) : O → Prop
  | .nx δ => ∀ S' σ' H', StS K e0.M e0.S e0.H S' σ' H' δ → Ev S H S' H' → D.nx σ' H'
  | .rt d δ => ∀ S' σ' v H', StS K e0.M e0.S e0.H S' σ' H' δ → Rep K S' H' v d → D.rt v H'
  | .bk δ => ∀ S' σ' H', StS K e0.M e0.S e0.H S' σ' H' δ → Ev S H S' H' → D.bk σ' H'
  | .ct δ => ∀ S' σ' H', StS K e0.M e0.S e0.H S' σ' H' δ → Ev S H S' H' → D.ct σ' H'
  | .exc n xs => ∀ cls dx H', Same H H' → ExR K S H' cls dx n xs → W cls dx σ H'
  | .bad => False
def tW (K : PySem.W.Frag) (e0 : Ent) (W : WX) (F : FS) : TS := fun D σ H => ∃ S δ, StS K e0.M e0.S e0.H S σ H δ ∧ FinW K e0 W σ D S H (F δ)
theorem FinW.same {K : PySem.W.Frag} {e0 : Ent} {W : WX} {σ : Sg} {D : Ends} {S : Addr → Prop} {H H1 : Hp} {o : O} (e : Same H H1) (h : FinW K e0 W σ D S H o) : FinW K e0 W σ D S H1 o := by
  cases o with
  | nx δ => exact fun S' σ' H' s e' => h S' σ' H' s ((Ev.same e).trans e')
  | rt d δ => exact h
  | bk δ => exact fun S' σ' H' s e' => h S' σ' H' s ((Ev.same e).trans e')
  | ct δ => exact fun S' σ' H' s e' => h S' σ' H' s ((Ev.same e).trans e')
  | exc n xs => exact fun cls dx H' e' x => h cls dx H' (e.trans e') x
  | bad => exact h
section
variable {X : Cx} {e0 : Ent} {W : WX} {a c : Expr} {f : FE} {pos : Pos} {F G : FS}
theorem FinW.on {α : Type} {K : PySem.W.Frag} {σ : Sg} {D : Ends} {S : Addr → Prop} {H : Hp} {r : R α} {g : α → O} (h : FinW K e0 W σ D S H (O.on r g)) {P : α → Prop} (k : ∀ x, FinW K e0 W σ D S H (g x) → P x) : Res K S H (WE W σ) r P := by
  cases r with
  | ok x => exact k x h
  | exc n xs => exact h
  | bad => exact h
end
abbrev HM : Type := (Str → Option Bool) × (Str → List D → FS)
def fHs : List HM → Str → List D → FS
  | [] => fun n xs _ => .exc n xs
  | q :: r => fun n xs δ => match q.1 n with
    | some true => q.2 n xs δ
    | some false => fHs r n xs δ
    | none => .bad
def tryO (hs : List HM) (δ : DSt) : O → O
  | .exc n xs => fHs hs n xs δ
  | o => o
def fTry (F : FS) (hs : List HM) : FS := fun δ => tryO hs δ (F δ)
structure HdD (X : Cx) (e0 : Ent) (E : XK) (hds : List ExceptHandler) (hs : List HM) : Prop where
  x : ∃ l, HdG X hds l ∧ ∀ (De : Ends) (σ : Sg) (H : Hp) (S : Addr → Prop) (δ : DSt) (n : Str) (xs : List D) (cls : Value) (d : Option Addr), StS X.K e0.M e0.S e0.H S σ H δ → ExR X.K S H cls d n xs → Fin X.K e0.M e0.S e0.H E De S H (fHs hs n xs δ) →
    wG X.K (fun cls d _ H => E cls d H) De l cls d σ H
abbrev XT : Type := List (Str × Bool)
def XTok (K : PySem.W.Frag) (c : Value) (t : XT) : Prop := ∀ q ∈ t, PySem.W.exmOne K (.ref (He.ga K q.1)) c = some q.2
section
variable {X : Cx} {e0 : Ent} {E : XK} {x : Str} {c : Value} {b1 : Stmt} {bs : List Stmt} {np hp : Pos} {hds : List ExceptHandler} {hs : List HM} {t : XT} {pos : Pos} {G : FS}
end
structure ExI (K : PySem.W.Frag) (n m : Str) : Prop where
  x : XfC K (He.ga K n)
  cl : (PySem.W.clsIn K (He.ga K n)).isSome = true
  ha : PySem.W.findIn K (.ref (He.ga K n)) "__class__" = some (some (.builtin "object.__class__"))
  hn : PySem.W.specialIn K (.builtin "object.__class__") "__get__" = some (some (.builtin "getset_descriptor.__get__"))
  tk : PySem.W.takesIn K (.builtin "object.__class__") = some true
  hm : PySem.W.mroIn K (He.ga K n) (.type "object") = some true
  kit : PySem.W.kitOne K (.ref (He.ga K n)) (.ref (He.ga K m)) = some true
def fldOf (m fld : Str) (xs : List D) : R D := R.of (((exF m).zip xs).lookup fld)
def tZ (K : PySem.W.Frag) (i : Nat) (a : Addr) (cls : Value) (d : Option Addr) (m : Str) (f : List D → FE) : TE := fun σ H Q => ∃ xs S δ, StE K S σ H δ ∧ σ[i]? = some (some (.ref a)) ∧ ExR K S H cls d m xs ∧ ∃ r, f xs δ = .ok r ∧ ∀ v H', Same H H' → Rep K S H' v r → Q v H'
def tZL (K : PySem.W.Frag) (i : Nat) (a : Addr) (cls : Value) (d : Option Addr) (m : Str) (f : List D → FL) : TA := fun σ H Q => ∃ xs S δ, StE K S σ H δ ∧ σ[i]? = some (some (.ref a)) ∧ ExR K S H cls d m xs ∧ ∃ r, f xs δ = .ok r ∧ ∀ v H', Same H H' → RepL K S H' v r → Q v H'
def DZ (X : Cx) (i : Nat) (m : Str) (e : Expr) (f : List D → FE) : Prop := ∀ (a : Addr) (oe : Obj) (cls : Value) (d : Option Addr) (pn : List (Addr × Obj)), Zc cls d oe → (∃ vs, oe.data = .fields vs) → PE (X.suite a ((a, oe) :: pn)) e (tZ X.K i a cls d m f)
structure DZA (X : Cx) (i : Nat) (m : Str) (es : List Expr) (f : List D → FL) : Prop where
  pa : ∀ (a : Addr) (oe : Obj) (cls : Value) (d : Option Addr) (pn : List (Addr × Obj)), Zc cls d oe → (∃ vs, oe.data = .fields vs) → PA (X.suite a ((a, oe) :: pn)) es (tZL X.K i a cls d m f)
  len : ∀ xs δ ds, f xs δ = .ok ds → ds.length = es.length
section
variable {X : Cx} {i : Nat} {m n : Str} {e : Expr} {es : List Expr} {f : List D → FE} {fl : List D → FL} {pos p p2 : Pos}
theorem ExR.mono {K : PySem.W.Frag} {S : Addr → Prop} {H H1 : Hp} {cls : Value} {d : Option Addr} {xs : List D} (h : ExR K S H cls d n xs) (k : Same H H1) : ExR K S H1 cls d n xs := by
  obtain ⟨h1, a, vs, h2, h3, h4, h5⟩ := h
  exact ⟨h1, a, vs, h2, k.at _ _ h3, h4, h5.mono k⟩
end
def tZs (K : PySem.W.Frag) (e0 : Ent) (i : Nat) (a : Addr) (cls : Value) (d : Option Addr) (m : Str) (G : List D → FS) : TS := fun De σ H => ∃ xs S δ, StS K e0.M e0.S e0.H S σ H δ ∧ σ[i]? = some (some (.ref a)) ∧ ExR K S H cls d m xs ∧ ∃ δ1, G xs δ = .nx δ1 ∧
  ∀ S' σ' H', StS K e0.M e0.S e0.H S' σ' H' δ1 → Ev S H S' H' → De.nx σ' H'
def DZs (X : Cx) (e0 : Ent) (i : Nat) (m : Str) (st : List Stmt) (G : List D → FS) : Prop := ∀ (a : Addr) (oe : Obj) (cls : Value) (d : Option Addr) (pn : List (Addr × Obj)), Zc cls d oe → (∃ vs, oe.data = .fields vs) → PSs (X.suite a ((a, oe) :: pn)) st (tZs X.K e0 i a cls d m G)
section
variable {X : Cx} {e0 : Ent} {E : XK} {i j : Nat} {m x y : Str} {e : Expr} {f : List D → FE} {G : List D → FS} {c : Value} {b1 : Stmt} {bs st : List Stmt} {np hp pos : Pos} {hds : List ExceptHandler} {hs : List HM} {t : XT}
def fAs (i : Nat) (F : FS) : FS := fun δ => match δ[i]? with
  | none => .bad
  | some _ => match F (δ.set i .un) with
    | .nx δ' => .nx (δ'.set i .un)
    | _ => .bad
end
end DL

namespace DL
open PySem PySem.Spec PyProof.Rows L2

def inCls (s : Stmt) (j : Nat) : Stmt := match s with
  | .ClassDef _ _ _ body _ _ _ _ _ _ _ => body.getD j (.Pass ⟨0, 0, 0, 0⟩)
  | _ => .Pass ⟨0, 0, 0, 0⟩
def recA (K : PySem.W.Frag) (p : Addr) (t : String) : Addr := match PySem.W.recIn K p t with
  | some (.ref g :: _) => g
  | _ => 0
theorem recA_ok {K : PySem.W.Frag} {p : Addr} {t : String} (h : (match PySem.W.recIn K p t with | some (.ref _ :: _) => true | _ => false) = true) : ∃ rest, PySem.W.recIn K p t = some (.ref (recA K p t) :: rest) := by
  unfold recA
  split at h
  · rename_i g rest e
    exact ⟨rest, by rw [e]⟩
  · cases h
inductive Fx where
  | scls (c : Str)
  | slot (c f : Str) (i : Nat)
  | prop (c f : Str)
  | cmet (c m : Str)
  | blt (x : Str) (id : String)
  | ktup (x : Str) (zs : List Str)
  | isi (c : Str)
  | selff (c : Str)
  | notint (c : Str)
  | nefct (c : Str)
  | smet (c m : Str)
  | callo (c : Str)
  | exm (n m : Str) (b : Bool)
  | exb (n : Str) (t : String) (b : Bool)
  | xfa (n f : Str)
  | exi (n m : Str)
  | cval (c f : Str) (n : Int)
  | tabs
  | nst (n : Str)
abbrev typ : Value := .type "type"
def sclsB (K : PySem.W.Frag) (C : Addr) : Bool := PySem.W.isClsIn K C && (PySem.W.plainOver K C && (PySem.W.plainGet K C Str.empty && decide (PySem.W.findIn K (.ref C) "__setattr__" = some (some (Value.builtin "object.__setattr__")))))
def slotB (K : PySem.W.Frag) (C p : Addr) (f : Str) (i : Nat) : Bool := decide (PySem.W.slotIn K p C = some i) && (decide (i < 1000) && (decide (PySem.W.findIn K (.ref C) f = some (some (.ref p))) &&
  (decide (PySem.W.specialIn K (.ref p) "__get__" = some (some (Value.builtin "member_descriptor.__get__"))) && (decide (PySem.W.takesIn K (.ref p) = some true) && decide (PySem.W.typeIn K (.ref p) = some (Value.type "member_descriptor"))))))
def propB (K : PySem.W.Frag) (C p : Addr) (f : Str) : Bool := decide (PySem.W.findIn K (.ref C) f = some (some (.ref p))) && (decide (PySem.W.specialIn K (.ref p) "__get__" = some (some (Value.builtin "property.__get__"))) && (decide (PySem.W.takesIn K (.ref p) = some true) &&
  (match PySem.W.recIn K p "property" with | some (.ref _ :: _) => true | _ => false)))
def isGet (r : Option PySem.W.CFound) (p C : Addr) : Bool := match r with
  | some (.get (.builtin g) (.ref q) .none (.ref D)) => decide (g = "classmethod.__get__") && (decide (q = p) && decide (D = C))
  | _ => false
theorem isGet_ok {r : Option PySem.W.CFound} {p C : Addr} (h : isGet r p C = true) : r = some (.get (.builtin "classmethod.__get__") (.ref p) .none (.ref C)) := by
  unfold isGet at h
  split at h
  · obtain ⟨h1, h2⟩ := Bool.and_eq_true_iff.mp h
    obtain ⟨h2, h3⟩ := Bool.and_eq_true_iff.mp h2
    rw [of_decide_eq_true h1, of_decide_eq_true h2, of_decide_eq_true h3]
  · cases h
def cmetB (K : PySem.W.Frag) (C p : Addr) (m : Str) : Bool := isGet (PySem.W.findCls K (.ref C) typ m) p C && ((match PySem.W.recIn K p "classmethod" with | some (.ref _ :: _) => true | _ => false) && (PySem.W.fnIn K (recA K p "classmethod") &&
  (PySem.W.readsIn K C typ && decide (PySem.W.specialIn K (.ref C) "__getattribute__" = some (some (Value.builtin "type.__getattribute__"))))))
def txtIs : List Str → List Value → Bool
  | [], [] => true
  | z :: zs, .str y _ :: us => decide (y = z) && txtIs zs us
  | _, _ => false
def ktupB (zs : List Str) : Option Obj → Bool
  | some ⟨.type t, _, .seq its _, _⟩ => decide (t = "tuple") && (Nat.ble its.size 1000 && txtIs zs its.toList)
  | _ => false
def isiB (K : PySem.W.Frag) (C : Addr) : Bool := decide (PySem.W.findIn K (.ref C) "__class__" = some (some (Value.builtin "object.__class__"))) && (decide (PySem.W.specialIn K (Value.builtin "object.__class__") "__get__" = some (some (Value.builtin "getset_descriptor.__get__"))) &&
  (decide (PySem.W.takesIn K (Value.builtin "object.__class__") = some true) && (decide (PySem.W.mroIn K C (.type "object") = some true) && noneOf K C)))
def isGetS (r : Option PySem.W.CFound) (p C : Addr) : Bool := match r with
  | some (.get (.builtin g) (.ref q) .none (.ref D)) => decide (g = "staticmethod.__get__") && (decide (q = p) && decide (D = C))
  | _ => false
theorem isGetS_ok {r : Option PySem.W.CFound} {p C : Addr} (h : isGetS r p C = true) : r = some (.get (.builtin "staticmethod.__get__") (.ref p) .none (.ref C)) := by
  unfold isGetS at h
  split at h
  · obtain ⟨h1, h2⟩ := Bool.and_eq_true_iff.mp h
    obtain ⟨h2, h3⟩ := Bool.and_eq_true_iff.mp h2
    rw [of_decide_eq_true h1, of_decide_eq_true h2, of_decide_eq_true h3]
  · cases h
def smetB (K : PySem.W.Frag) (C p : Addr) (m : Str) : Bool := isGetS (PySem.W.findCls K (.ref C) typ m) p C && ((match PySem.W.recIn K p "staticmethod" with | some (.ref _ :: _) => true | _ => false) && (PySem.W.keepIn K (.ref (recA K p "staticmethod")) &&
  (PySem.W.readsIn K C typ && decide (PySem.W.specialIn K (.ref C) "__getattribute__" = some (some (Value.builtin "type.__getattribute__"))))))
def calloB (K : PySem.W.Frag) (C g : Addr) : Bool := decide (PySem.W.findIn K (.ref C) "__call__" = some (some (.ref g))) && (PySem.W.isFn K (.ref g) && PySem.W.fnIn K g)
def xfaB (K : PySem.W.Frag) (C : Addr) (f : Str) : Bool := xfB K C && decide (PySem.W.findIn K (.ref C) f = some none)
def exiB (K : PySem.W.Frag) (C L : Addr) : Bool := xfB K C && ((PySem.W.clsIn K C).isSome && (decide (PySem.W.findIn K (.ref C) "__class__" = some (some (Value.builtin "object.__class__"))) && (decide (PySem.W.specialIn K (.builtin "object.__class__") "__get__" = some (some (Value.builtin "getset_descriptor.__get__"))) &&
  (decide (PySem.W.takesIn K (.builtin "object.__class__") = some true) && (decide (PySem.W.mroIn K C (.type "object") = some true) && decide (PySem.W.kitOne K (.ref C) (.ref L) = some true))))))
def isVal (r : Option PySem.W.CFound) (n : Int) : Bool := match r with
  | some (.val (.int i _)) => decide (i = n)
  | _ => false
theorem isVal_ok {r : Option PySem.W.CFound} {n : Int} (h : isVal r n = true) : ∃ t, r = some (.val (.int n t)) := by
  unfold isVal at h
  split at h
  · rename_i i t
    have e : i = n := of_decide_eq_true h
    exact ⟨t, by rw [e]⟩
  · cases h
def cvalB (K : PySem.W.Frag) (C : Addr) (f : Str) (n : Int) : Bool := isVal (PySem.W.findCls K (.ref C) typ f) n && (PySem.W.readsIn K C typ && decide (PySem.W.specialIn K (.ref C) "__getattribute__" = some (some (Value.builtin "type.__getattribute__"))))
def Fx.ok (K : PySem.W.Frag) : Fx → Bool
  | .scls c => sclsB K (He.ga K c)
  | .slot c f i => slotB K (He.ga K c) (He.ma K (He.ga K c) f) f i
  | .prop c f => propB K (He.ga K c) (He.ma K (He.ga K c) f) f
  | .cmet c m => cmetB K (He.ga K c) (He.ma K (He.ga K c) m) m
  | .cval c f n => cvalB K (He.ga K c) f n
  | .blt x id => decide (PySem.W.nsIn K mainGlobals x = some (some (Value.builtin id)))
  | .ktup x zs => ktupB zs (K.lookup (He.ga K x))
  | .isi c => isiB K (He.ga K c)
  | .selff c => PySem.W.selfFirst K (He.ga K c)
  | .notint c => decide (PySem.W.mroIn K (He.ga K c) (.type "int") = some false)
  | .nefct c => decide (PySem.W.findIn K (.ref (He.ga K c)) "__ne__" = some (some (.builtin "object.__ne__")))
  | .smet c m => smetB K (He.ga K c) (He.ma K (He.ga K c) m) m
  | .callo c => calloB K (He.ga K c) (He.ma K (He.ga K c) "__call__")
  | .exm n m b => decide (PySem.W.exmOne K (.ref (He.ga K n)) (.ref (He.ga K m)) = some b)
  | .exb n t b => decide (PySem.W.exmOne K (.ref (He.ga K n)) (.type t) = some b)
  | .xfa n f => xfaB K (He.ga K n) f
  | .exi n m => exiB K (He.ga K n) (He.ga K m)
  | .tabs => (codeTab K "free_name").isSome
  | .nst n => decide (PySem.W.subIn K (.ref (He.ga K n)) (.type "StopIteration") = some false)
theorem two {a b : Bool} (h : (a && b) = true) : a = true ∧ b = true := Bool.and_eq_true_iff.mp h
theorem scls_ok {K : PySem.W.Frag} {C : Addr} (h : sclsB K C = true) : SlX.SCls K C := by
  obtain ⟨h1, h⟩ := two h
  obtain ⟨h2, h⟩ := two h
  obtain ⟨h3, h4⟩ := two h
  exact ⟨h3, h1, h2, of_decide_eq_true h4⟩
theorem slot_ok {K : PySem.W.Frag} {C p : Addr} {f : Str} {i : Nat} (h : slotB K C p f i = true) : SlX.Slot1 K C f p i := by
  obtain ⟨h1, h⟩ := two h
  obtain ⟨h2, h⟩ := two h
  obtain ⟨h3, h⟩ := two h
  obtain ⟨h4, h⟩ := two h
  obtain ⟨h5, h6⟩ := two h
  exact ⟨of_decide_eq_true h3, of_decide_eq_true h4, of_decide_eq_true h5, of_decide_eq_true h6, of_decide_eq_true h1, of_decide_eq_true h2⟩
theorem prop_ok {K : PySem.W.Frag} {C p : Addr} {f : Str} (h : propB K C p f = true) : PropOf K C f p (recA K p "property") := by
  obtain ⟨h1, h⟩ := two h
  obtain ⟨h2, h⟩ := two h
  obtain ⟨h3, h4⟩ := two h
  exact ⟨of_decide_eq_true h1, of_decide_eq_true h2, of_decide_eq_true h3, recA_ok h4⟩
theorem cmet_ok {K : PySem.W.Frag} {C p : Addr} {m : Str} (h : cmetB K C p m = true) : ClX.CRead K C typ ∧ ClX.CMet K C typ m p (recA K p "classmethod") := by
  obtain ⟨h1, h⟩ := two h
  obtain ⟨h2, h⟩ := two h
  obtain ⟨h3, h⟩ := two h
  obtain ⟨h4, h5⟩ := two h
  exact ⟨⟨h4, of_decide_eq_true h5⟩, isGet_ok h1, recA_ok h2, h3⟩
theorem txtIs_ok : ∀ {zs : List Str} {us : List Value}, txtIs zs us = true → Vals (zs.map V.str) us
  | [], [], _ => .nil
  | z :: zs, .str y t :: us, h => by
    obtain ⟨h1, h2⟩ := two h
    have e : y = z := of_decide_eq_true h1
    subst e
    exact .cons ⟨t, rfl⟩ (txtIs_ok h2)
  | [], _ :: _, h => by cases h
theorem ktup_ok {K : PySem.W.Frag} {a : Addr} {zs : List Str} (h : ktupB zs (K.lookup a) = true) : KTup K a zs := by
  generalize hq : K.lookup a = q at h
  unfold ktupB at h
  split at h
  · rename_i t d its n sl
    obtain ⟨h1, h2⟩ := two h
    obtain ⟨h2, h3⟩ := two h2
    have e : t = "tuple" := of_decide_eq_true h1
    subst e
    exact ⟨_, its, n, hq, rfl, rfl, Nat.le_trans (Nat.le_of_ble_eq_true h2) (by rw [sizeLine_eq]; decide), txtIs_ok h3⟩
  · cases h
structure DefY where
  cls : Str
  at_ : Str
  kind : String
  name : Str
  qual : Str
  params : Arguments
  body : List Stmt
  scope : Scope
  flds : List Str
  file : Str
  ini : Bool
def DefY.adr (K : PySem.W.Frag) (d : DefY) : Addr := match d.ini with
  | true => He.ma K (He.ga K d.cls) "__init__"
  | false => recA K (He.ma K (He.ga K d.cls) d.at_) d.kind
abbrev FnY : Type := Option (Scope × FuncBody × Arguments × List (Str × Addr) × Addr × Addr × Str × Str)
def tellF (u : FuncData) : FnY := some (u.scope, u.body, u.params, u.closure, u.builtins, u.globals, u.name, u.qualname)
def tellO : Option Obj → FnY
  | some ⟨_, _, .func u, _⟩ => tellF u
  | _ => none
def plainO (K : PySem.W.Frag) (q : Str) : Option Obj → Bool
  | some ⟨_, _, .func u, _⟩ => He.dflB K u.defaults [] && (He.kwdB K u.kwdefaults [] && PySem.W.codeIn K u.code q)
  | _ => false
def tellE : Option Obj → FnY
  | some ⟨_, _, .func u, _⟩ => some (u.scope, u.body, u.params, [], u.builtins, u.globals, u.name, u.qualname)
  | _ => none
def DefY.tell (K : PySem.W.Frag) (d : DefY) : FnY := match d.ini with
  | true => tellE (K.lookup (d.adr K))
  | false => tellO (K.lookup (d.adr K))
def oexO (C : Addr) : Option Obj → Bool
  | some ⟨.type t, _, .cls cd, sl⟩ => decide (t = "type") && (match cd.mro, sl.toList with
    | .ref C' :: bm, [_, _, _, _, some (.builtin n), _] => decide (C' = C) && (decide (n = "ValueError.__new__") && (cd.hasDict && (!cd.hasDel && HandSPX.refsVE bm)))
    | _, _ => false)
  | _ => false
def cellO (C : Addr) : Option Obj → Bool
  | some ⟨_, _, .cell (some (.ref D)), _⟩ => decide (D = C)
  | _ => false
def fileO (file : Str) : Option Obj → Bool
  | some ⟨_, _, .fields vs, _⟩ => (match (vs[2]? : Option Value) with
    | some (Value.str f _) => file == f
    | _ => false)
  | _ => false
def iniO (K : PySem.W.Frag) (C : Addr) (q file : Str) : Option Obj → Bool
  | some ⟨_, _, .func u, _⟩ => (match u.closure, u.code, u.defaults, u.kwdefaults, u.annotations with
    | [(x, cc)], .ref c, .none, .none, none => decide (x = "__class__") && (PySem.W.codeIn K (.ref c) q && (cellO C (K.lookup cc) && fileO file (K.lookup c)))
    | _, _, _, _, _ => false)
  | _ => false
def iniB (K : PySem.W.Frag) (d : DefY) (C fI : Addr) : Bool := oexO C (K.lookup C) && (decide (PySem.W.findIn K (.ref C) "__setattr__" = some (some (Value.builtin "object.__setattr__"))) && (decide (PySem.W.subIn K (.ref C) (.type "BaseException") = some true) && (decide (PySem.W.typeIn K (.ref C) = some (.type "type")) &&
  (PySem.W.keepIn K (.ref C) && (decide (PySem.W.findIn K (.ref C) "__init__" = some (some (.ref fI))) && (decide (PySem.W.typeIn K (.ref fI) = some (.type "function")) && (d.flds.all (fun f => decide (PySem.W.findIn K (.ref C) f = some none)) &&
  (iniO K C d.qual d.file (K.lookup fI) && (decide (((PySem.W.clsIn K C).bind fun cd => PySem.W.alongIn K ("__init__" : Str) ((cd.mro.dropWhile (· != .ref C)).drop 1)) = some (some (Value.builtin "ValueError.__init__"))) &&
  (decide (PySem.W.mroIn K C (.ref C) = some true) && (decide (PySem.W.mroIn K C (.type "ValueError") = some true) && decide (PySem.W.nsIn K cStatics "thirdparty.any" = some none))))))))))))
def DefY.val (d : DefY) : FnY := some (d.scope, .stmts d.body, d.params, [], builtinsNs, mainGlobals, d.name, d.qual)
def DefY.ok (K : PySem.W.Frag) (d : DefY) : Bool := match d.ini with
  | true => iniB K d (He.ga K d.cls) (d.adr K)
  | false => plainO K d.qual (K.lookup (d.adr K)) && PySem.W.keepIn K (.ref (d.adr K))
theorem DefY.fun_ {K : PySem.W.Frag} {d : DefY} (hk : d.ini = false) (e : d.tell K = d.val) (c : d.ok K = true) : ∃ fd, FunD K d.name d.qual d.params d.body d.scope [] [] (d.adr K) fd := by
  unfold DefY.tell at e
  unfold DefY.ok at c
  rw [hk] at e c
  obtain ⟨c1, c2⟩ := two c
  generalize hq : K.lookup (d.adr K) = q at e c1
  unfold plainO at c1
  split at c1
  · rename_i oc od u osl
    obtain ⟨u1, u2, u3, u4, u5, u6, u7, u8, u9, u10, u11, u12, u13, u14, u15⟩ := u
    have e2 : tellF _ = d.val := e
    unfold tellF DefY.val at e2
    simp only [Option.some.injEq, Prod.mk.injEq] at e2
    obtain ⟨e3, e4, e5, e6, e7, e8, e9, e10⟩ := e2
    obtain ⟨k1, k2⟩ := two c1
    obtain ⟨k2, k3⟩ := two k2
    subst e3 e4 e5 e6 e7 e8 e9 e10
    exact ⟨_, ⟨oc, od, u8, u9, u10, u11, u12, u13, u14, osl, rfl, hq, k3, He.dflB_ok k1, He.kwdB_ok k2⟩, c2⟩
  · cases c1
abbrev AlX : Type := Bool × He.AlD × List FnY
def obsX (fa : List He.Fa) (fx : List Fx) (fn : List He.DefD) (fy : List DefY) (K : PySem.W.Frag) : AlX := ((fx.all fun f => f.ok K) && (fy.all fun d => d.ok K), He.obsD fa fn K, fy.map fun d => d.tell K)
def valX (fn : List He.DefD) (fy : List DefY) : AlX := (true, He.valD fn, fy.map DefY.val)
def newB : Nat → List Addr → List Addr
  | _, [] => []
  | m, a :: r => match Nat.testBit m a with
    | true => newB m r
    | false => a :: newB (m ||| 1 <<< a) r
def refsB (g : Addr → Option Obj) (a : Addr) : List Addr := match g a with
  | some o => He.refsD o
  | none => []
def bitsB : Nat → List Addr → Nat
  | m, [] => m
  | m, a :: r => bitsB (m ||| 1 <<< a) r
def growB (g : Addr → Option Obj) : Nat → Nat → List Addr → List Addr → List Addr
  | 0, _, all, _ => all
  | n + 1, m, all, last => (fun new => growB g n (bitsB m new) (all ++ new) new) (newB m (last.flatMap (refsB g)))
def asB (g : Addr → Option Obj) (n : Nat) : List Addr := cStatics :: growB g n (1 <<< mainGlobals) [mainGlobals] [mainGlobals]
def isTabB : Option Obj → Bool
  | some ⟨.none, none, .fields vs, sl⟩ => vs.size == 0 && sl.size == 0
  | _ => false
theorem isTab_ok {o : Option Obj} (h : isTabB o = true) : o = some { cls := .none, data := .fields #[] } := by
  unfold isTabB at h
  split at h
  · rename_i vs sl
    obtain ⟨h1, h2⟩ := Bool.and_eq_true_iff.mp h
    have e1 : vs = #[] := Array.eq_empty_of_size_eq_zero (eq_of_beq h1)
    have e2 : sl = #[] := Array.eq_empty_of_size_eq_zero (eq_of_beq h2)
    rw [e1, e2]
  · cases h
def codeHdB (o : Option Obj) (c P : Addr) : Bool := match o with
  | some oc => decide (oc.cls = .type "code") && (match oc.data with
    | .fields vs => decide (vs[11]? = some (.ref P)) && (decide (vs.getD 11 .none = .ref P) && ((match vs.getD 18 .none with | .str _ _ => true | _ => false) && ((match vs.getD 7 .none with | .int _ _ => true | _ => false) && ((match vs.getD 9 .none with | .bool _ => true | _ => false) && ((match vs.getD 10 .none with | .int _ _ => true | _ => false) && decide (c ≠ P))))))
    | _ => false)
  | none => false
theorem codeHd_ok {h : Heap} {c P : Addr} (z : codeHdB (h.get? c) c P = true) : PySem.W.CodeHd h c P := by
  unfold codeHdB at z
  split at z
  · rename_i oc e
    obtain ⟨z1, z2⟩ := Bool.and_eq_true_iff.mp z
    split at z2
    · rename_i vs ed
      simp only [Bool.and_eq_true, decide_eq_true_eq] at z2
      obtain ⟨y1, y2, y3, y4, y5, y6, y7⟩ := z2
      split at y3
      · rename_i file tf e3
        split at y4
        · rename_i fl tg e4
          split at y5
          · rename_i inF e5
            split at y6
            · rename_i text tt e6
              exact ⟨oc, vs, file, tf, fl, tg, inF, text, tt, e, of_decide_eq_true z1, ed, y1, y2, e3, e4, e5, e6, y7⟩
            · cases y6
          · cases y5
        · cases y4
      · cases y3
    · cases z2
  · cases z
def asT (g : Addr → Option Obj) (n : Nat) : List Addr := (asB g n).filter fun a => !(isTabB (g a))
def tabB (K : PySem.W.Frag) (g : Addr → Option Obj) : Bool := (tabsK K).all fun p => isTabB (g p.2) && (codeHdB (g p.1) p.1 p.2 && (K.lookup p.2).isNone)
def TabF (K : PySem.W.Frag) (h : Heap) : Prop := ∀ p ∈ tabsK K, h.get? p.2 = some { cls := .none, data := .fields #[] } ∧ PySem.W.CodeHd h p.1 p.2 ∧ K.lookup p.2 = none
theorem tabF_of {K : PySem.W.Frag} {h : Heap} (z : tabB K h.get? = true) : TabF K h := fun p hp => by
  have z1 := List.all_eq_true.mp z p hp
  obtain ⟨z2, z3⟩ := Bool.and_eq_true_iff.mp z1
  obtain ⟨z4, z5⟩ := Bool.and_eq_true_iff.mp z3
  exact ⟨isTab_ok z2, codeHd_ok z4, Option.isNone_iff_eq_none.mp z5⟩
def obsXT (fa : List He.Fa) (fx : List Fx) (fn : List He.DefD) (fy : List DefY) (K : PySem.W.Frag) (g : Addr → Option Obj) : AlX := ((fx.all fun f => f.ok K) && (fy.all fun d => d.ok K) && tabB K g, He.obsD fa fn K, fy.map fun d => d.tell K)
theorem obsXT_of {fa : List He.Fa} {fx : List Fx} {fn : List He.DefD} {fy : List DefY} {K : PySem.W.Frag} {h : Heap} (e : obsXT fa fx fn fy K h.get? = valX fn fy) : obsX fa fx fn fy K = valX fn fy ∧ TabF K h := by
  have e1 : ((fx.all fun f => f.ok K) && (fy.all fun d => d.ok K) && tabB K h.get?) = true := congrArg Prod.fst e
  obtain ⟨e2, e3⟩ := Bool.and_eq_true_iff.mp e1
  exact ⟨Prod.ext e2 (show (He.obsD fa fn K, fy.map fun d => d.tell K) = (valX fn fy).2 from congrArg (fun z : AlX => z.2) e), tabF_of e3⟩
def obsXG (n : Nat) (fa : List He.Fa) (fx : List Fx) (fn : List He.DefD) (fy : List DefY) (g : Addr → Option Obj) : AlX := obsXT fa fx fn fy (He.frG g (asT g n)) g
def hookX (n : Nat) (fa : List He.Fa) (fx : List Fx) (fn : List He.DefD) (fy : List DefY) : PySem.W.Hook where
  α := AlX
  obs := fun s => obsXG n fa fx fn fy s.heap.get?
  val := fun _ => valX fn fy
  says := fun _ h => ∃ K : PySem.W.Frag, K.In h ∧ obsX fa fx fn fy K = valX fn fy ∧ TabF K h
  of := fun _ _ e => ⟨_, He.frG_in, obsXT_of e⟩
  keeps := fun _ _ _ ⟨K, hK, c, t⟩ k => ⟨K, PySem.W.Frag.In.keeps hK k, c, fun p hp => ⟨k _ _ (t p hp).1, (t p hp).2.1.keeps k, (t p hp).2.2⟩⟩
theorem obsXG_eq {n : Nat} {fa : List He.Fa} {fx : List Fx} {fn : List He.DefD} {fy : List DefY} {g : Addr → Option Obj} {s : Shared} (h : ∀ a, g a = s.heap.get? a) : obsXG n fa fx fn fy g = (hookX n fa fx fn fy).obs s := by
  have e : g = s.heap.get? := funext h
  rw [e] <;> rfl
def obs1 (fx : List Fx) (fy : List DefY) (K : PySem.W.Frag) (g : Addr → Option Obj) : Bool × List FnY := ((fx.all fun f => f.ok K) && (fy.all fun d => d.ok K) && tabB K g, fy.map fun d => d.tell K)
def obs1G (n : Nat) (fx : List Fx) (fy : List DefY) (g : Addr → Option Obj) : Bool × List FnY := obs1 fx fy (He.frG g (asT g n)) g
def obs2G (n : Nat) (fa : List He.Fa) (fn : List He.DefD) (g : Addr → Option Obj) : He.AlD := He.obsD fa fn (He.frG g (asT g n))
theorem map_obs {α : Type} {o : Option α} {n : Nat} {fa : List He.Fa} {fx : List Fx} {fn : List He.DefD} {fy : List DefY} {g : α → Addr → Option Obj} (h : o.map (fun x => obs1G n fx fy (g x)) = some (true, fy.map DefY.val)) (k : o.map (fun x => obs2G n fa fn (g x)) = some (He.valD fn)) :
    o.map (fun x => obsXG n fa fx fn fy (g x)) = some (valX fn fy) := by
  cases o with
  | none => cases h
  | some a =>
    have h1 : obs1G n fx fy (g a) = (true, fy.map DefY.val) := Option.some.inj h
    have h2 : obs2G n fa fn (g a) = He.valD fn := Option.some.inj k
    show some (obsXG n fa fx fn fy (g a)) = _
    have h3 := congrArg Prod.fst h1
    have h4 := congrArg Prod.snd h1
    unfold obsXG obsXT valX
    exact congrArg some (Prod.ext h3 (Prod.ext h2 h4))
theorem map_all {α β γ δ : Type} {o : Option α} {f : α → β} {g : α → γ} {h : α → δ} {b : β} {c : γ} {d : δ} (h1 : o.map (fun x => (f x, g x)) = some (b, c)) (h2 : o.map h = some d) : o.map (fun x => (f x, g x, h x)) = some (b, c, d) := by
  cases o with
  | none => cases h2
  | some a =>
    cases h1
    cases h2
    rfl
structure Tx (fa : List He.Fa) (fx : List Fx) (fn : List He.DefD) (fy : List DefY) (K : PySem.W.Frag) (mg : Str → Option Value) (base : Heap) : Prop where
  c : obsX fa fx fn fy K = valX fn fy
  tb : ∀ p ∈ tabsK K, LamX.TabB base mg p.1 p.2
  at_ : ∃ h : Heap, K.In h ∧ h.Ns mainGlobals mg
section
variable {fa : List He.Fa} {fx : List Fx} {fn : List He.DefD} {fy : List DefY} {K : PySem.W.Frag} {mg : Str → Option Value} {base : Heap}
theorem Tx.says (T : Tx fa fx fn fy K mg base) : He.SaysD fa fn K := congrArg (fun z : AlX => z.2.1) T.c
theorem Tx.extra (T : Tx fa fx fn fy K mg base) (i : Nat) {f : Fx} (h : fx[i]? = some f) : f.ok K = true := by
  have e : ((fx.all fun f => f.ok K) && (fy.all fun d => d.ok K)) = true := congrArg (fun z : AlX => z.1) T.c
  exact List.all_eq_true.mp (two e).1 f (List.mem_of_getElem? h)
theorem Tx.exm (T : Tx fa fx fn fy K mg base) (i : Nat) {n m : Str} {b : Bool} (h : fx[i]? = some (.exm n m b) := by rfl) : PySem.W.exmOne K (.ref (He.ga K n)) (.ref (He.ga K m)) = some b := of_decide_eq_true (T.extra i h)
theorem Tx.exb (T : Tx fa fx fn fy K mg base) (i : Nat) {n : Str} {t : String} {b : Bool} (h : fx[i]? = some (.exb n t b) := by rfl) : PySem.W.exmOne K (.ref (He.ga K n)) (.type t) = some b := of_decide_eq_true (T.extra i h)
theorem Tx.nst (T : Tx fa fx fn fy K mg base) (i : Nat) {n : Str} (h : fx[i]? = some (.nst n) := by rfl) : PySem.W.subIn K (.ref (He.ga K n)) (.type "StopIteration") = some false := of_decide_eq_true (T.extra i h)
theorem Tx.xfa (T : Tx fa fx fn fy K mg base) (i : Nat) {n f : Str} (h : fx[i]? = some (.xfa n f) := by rfl) : XfC K (He.ga K n) ∧ PySem.W.findIn K (.ref (He.ga K n)) f = some none := by
  obtain ⟨h1, h2⟩ := two (show xfaB K (He.ga K n) f = true from T.extra i h)
  exact ⟨xfB_ok h1, of_decide_eq_true h2⟩
theorem Tx.exi (T : Tx fa fx fn fy K mg base) (i : Nat) {n m : Str} (h : fx[i]? = some (.exi n m) := by rfl) : ExI K n m := by
  obtain ⟨h1, q⟩ := two (show exiB K (He.ga K n) (He.ga K m) = true from T.extra i h)
  obtain ⟨h2, q⟩ := two q
  obtain ⟨h3, q⟩ := two q
  obtain ⟨h4, q⟩ := two q
  obtain ⟨h5, q⟩ := two q
  obtain ⟨h6, h7⟩ := two q
  exact ⟨xfB_ok h1, h2, of_decide_eq_true h3, of_decide_eq_true h4, of_decide_eq_true h5, of_decide_eq_true h6, of_decide_eq_true h7⟩
theorem Tx.defy (T : Tx fa fx fn fy K mg base) (i : Nat) {d : DefY} (h : fy[i]? = some d := by rfl) (hk : d.ini = false := by rfl) : ∃ fd, FunD K d.name d.qual d.params d.body d.scope [] [] (d.adr K) fd := by
  have e : ((fx.all fun f => f.ok K) && (fy.all fun d => d.ok K)) = true := congrArg (fun z : AlX => z.1) T.c
  have c := List.all_eq_true.mp (two e).2 d (List.mem_of_getElem? h)
  have e2 : (fy.map fun d => d.tell K) = fy.map DefY.val := congrArg (fun z : AlX => z.2.2) T.c
  have e3 := congrArg (fun l => l[i]?) e2
  simp only [List.getElem?_map, h, Option.map_some, Option.some.injEq] at e3
  exact DefY.fun_ hk e3 c
theorem oexO_ok {C : Addr} {o : Option Obj} (h : oexO C o = true) : ∃ nm q N bs bm sn sub ab col dd k0 k1 k2 k3 k5, o = some (excClassObj nm q C N bs bm true sn sub ab col dd k0 k1 k2 k3 k5 "ValueError.__new__") ∧ HandSPX.refsVE bm = true := by
  unfold oexO at h
  split at h
  · rename_i t dd cd sl
    obtain ⟨h1, h2⟩ := two h
    have e1 : t = "type" := of_decide_eq_true h1
    subst e1
    split at h2
    · rename_i C' bm k0 k1 k2 k3 n k5 em es
      obtain ⟨a1, h2⟩ := two h2
      obtain ⟨a2, h2⟩ := two h2
      obtain ⟨a3, h2⟩ := two h2
      obtain ⟨a4, a5⟩ := two h2
      have e1 : C' = C := of_decide_eq_true a1
      have e2 : n = "ValueError.__new__" := of_decide_eq_true a2
      subst e1 e2
      obtain ⟨c1, c2, c3, c4, c5, c6, c7, c8, c9, c10, c11⟩ := cd
      obtain ⟨l⟩ := sl
      dsimp only at em es a3 a4
      subst em es a3
      have a4 : c11 = false := by simpa using a4
      subst a4
      exact ⟨_, _, _, _, bm, _, _, _, _, dd, k0, k1, k2, k3, k5, rfl, a5⟩
    · cases h2
  · cases h
theorem iniO_ok {K : PySem.W.Frag} {C : Addr} {q file : Str} {o : Option Obj} (h : iniO K C q file o = true) : ∃ oc od u sl cc c, o = some ⟨oc, od, .func u, sl⟩ ∧ u.closure = [(("__class__" : Str), cc)] ∧ u.code = .ref c ∧ u.defaults = .none ∧ u.kwdefaults = .none ∧ u.annotations = none ∧
    PySem.W.codeIn K (.ref c) q = true ∧ cellO C (K.lookup cc) = true ∧ fileO file (K.lookup c) = true := by
  unfold iniO at h
  split at h
  · rename_i oc od u sl
    split at h
    · rename_i x cc c e1 e2 e3 e4 e5
      obtain ⟨a1, h⟩ := two h
      obtain ⟨a2, h⟩ := two h
      obtain ⟨a3, a4⟩ := two h
      have e : x = "__class__" := of_decide_eq_true a1
      subst e
      exact ⟨oc, od, u, sl, cc, c, rfl, e1, e2, e3, e4, e5, a2, a3, a4⟩
    · cases h
  · cases h
theorem cellO_ok {C : Addr} {o : Option Obj} (h : cellO C o = true) : ∃ oc od sl, o = some ⟨oc, od, .cell (some (.ref C)), sl⟩ := by
  unfold cellO at h
  split at h
  · rename_i oc od D sl
    have e : D = C := of_decide_eq_true h
    subst e
    exact ⟨_, _, _, rfl⟩
  · cases h
theorem fileO_ok {file : Str} {o : Option Obj} (h : fileO file o = true) : ∃ oc od vs sl f tf, o = some ⟨oc, od, .fields vs, sl⟩ ∧ vs[2]? = some (Value.str f tf) ∧ (file == f) = true := by
  unfold fileO at h
  split at h
  · rename_i oc od vs sl
    split at h
    · rename_i f tf e
      exact ⟨_, _, vs, _, f, tf, rfl, e, h⟩
    · cases h
  · cases h
theorem Tx.exc (T : Tx fa fx fn fy K mg base) (P : Program) (i : Nat) {d : DefY} (h : fy[i]? = some d := by rfl) (hk : d.ini = true := by rfl) (hf : d.file = P.main.file := by rfl) (ht : (P.main.scope.names.lookup ("super" : Str)).isSome = false := by kernel_rfl) :
    ∃ cc c, InitK P K (He.ga K d.cls) (He.ma K (He.ga K d.cls) "__init__") cc ⟨d.name, d.qual, d.params, d.body, d.scope, [(("__class__" : Str), cc)], c⟩ ∧ PySem.W.findIn K (.ref (He.ga K d.cls)) "__init__" = some (some (.ref (He.ma K (He.ga K d.cls) "__init__"))) ∧
      PySem.W.typeIn K (.ref (He.ma K (He.ga K d.cls) "__init__")) = some (.type "function") ∧ ∀ f ∈ d.flds, PySem.W.findIn K (.ref (He.ga K d.cls)) f = some none := by
  have e : ((fx.all fun f => f.ok K) && (fy.all fun d => d.ok K)) = true := congrArg (fun z : AlX => z.1) T.c
  have c := List.all_eq_true.mp (two e).2 d (List.mem_of_getElem? h)
  have e2 : (fy.map fun d => d.tell K) = fy.map DefY.val := congrArg (fun z : AlX => z.2.2) T.c
  have e3 := congrArg (fun l => l[i]?) e2
  simp only [List.getElem?_map, h, Option.map_some, Option.some.injEq] at e3
  unfold DefY.tell DefY.adr at e3
  unfold DefY.ok DefY.adr at c
  simp only [hk] at c e3
  generalize He.ma K (He.ga K d.cls) "__init__" = fI at *
  generalize He.ga K d.cls = C at *
  obtain ⟨a1, c⟩ := two c
  obtain ⟨a2, c⟩ := two c
  obtain ⟨a3, c⟩ := two c
  obtain ⟨a4, c⟩ := two c
  obtain ⟨a5, c⟩ := two c
  obtain ⟨a6, c⟩ := two c
  obtain ⟨a7, c⟩ := two c
  obtain ⟨a8, c⟩ := two c
  obtain ⟨a9, c⟩ := two c
  obtain ⟨a10, c⟩ := two c
  obtain ⟨a11, c⟩ := two c
  obtain ⟨a12, a13⟩ := two c
  obtain ⟨oc, od, u, sl, cc, cd, hl, u1, u2, u3, u4, u5, u6, u7, u8⟩ := iniO_ok a9
  refine ⟨cc, cd, ⟨⟨oexO_ok a1, of_decide_eq_true a2, of_decide_eq_true a3, of_decide_eq_true a4, a5⟩, ?_, rfl, u6, ?_, cellO_ok u7, ?_, of_decide_eq_true a11, of_decide_eq_true a12, of_decide_eq_true a13, ht⟩, of_decide_eq_true a6, of_decide_eq_true a7, fun f hf => of_decide_eq_true (List.all_eq_true.mp a8 f hf)⟩
  · rw [hl] at e3
    obtain ⟨v1, v2, v3, v4, v5, v6, v7, v8, v9, v10, v11, v12, v13, v14, v15⟩ := u
    dsimp only at u1 u2 u3 u4 u5
    subst u1 u2 u3 u4 u5
    unfold tellE DefY.val at e3
    simp only [Option.some.injEq, Prod.mk.injEq] at e3
    obtain ⟨r1, r2, r3, _, r5, r6, r7, r8⟩ := e3
    subst r1 r2 r3 r5 r6 r7 r8
    exact ⟨oc, od, _, _, _, sl, hl⟩
  · obtain ⟨o1, o2, vs, s2, f, tf, w1, w2, w3⟩ := fileO_ok u8
    exact ⟨o1, o2, vs, s2, f, tf, w1, w2, hf ▸ w3⟩
  · have := of_decide_eq_true a10
    cases hc : PySem.W.clsIn K C with
    | none => rw [hc] at this; cases this
    | some cd2 =>
      rw [hc] at this
      exact ⟨cd2, rfl, this⟩
theorem Tx.scls (T : Tx fa fx fn fy K mg base) (i : Nat) {c : Str} (h : fx[i]? = some (.scls c) := by rfl) : SlX.SCls K (He.ga K c) := scls_ok (T.extra i h)
theorem Tx.slot (T : Tx fa fx fn fy K mg base) (i : Nat) {c f : Str} {j : Nat} (h : fx[i]? = some (.slot c f j) := by rfl) : SlX.Slot1 K (He.ga K c) f (He.ma K (He.ga K c) f) j := slot_ok (T.extra i h)
theorem Tx.prop (T : Tx fa fx fn fy K mg base) (i : Nat) {c f : Str} (h : fx[i]? = some (.prop c f) := by rfl) : PropOf K (He.ga K c) f (He.ma K (He.ga K c) f) (recA K (He.ma K (He.ga K c) f) "property") := prop_ok (T.extra i h)
theorem Tx.cmet (T : Tx fa fx fn fy K mg base) (i : Nat) {c m : Str} (h : fx[i]? = some (.cmet c m) := by rfl) : ClX.CRead K (He.ga K c) typ ∧ ClX.CMet K (He.ga K c) typ m (He.ma K (He.ga K c) m) (recA K (He.ma K (He.ga K c) m) "classmethod") := cmet_ok (T.extra i h)
theorem isi_ok {K : PySem.W.Frag} {C : Addr} (h : isiB K C = true) : SlX.SIsi K C ∧ noneOf K C = true := by
  obtain ⟨h1, h⟩ := two h
  obtain ⟨h2, h⟩ := two h
  obtain ⟨h3, h⟩ := two h
  obtain ⟨h4, h5⟩ := two h
  exact ⟨⟨of_decide_eq_true h1, of_decide_eq_true h2, of_decide_eq_true h3, of_decide_eq_true h4⟩, h5⟩
theorem smet_ok {K : PySem.W.Frag} {C p : Addr} {m : Str} (h : smetB K C p m = true) : ClX.CRead K C typ ∧ SMet K C typ m p (recA K p "staticmethod") := by
  obtain ⟨h1, h⟩ := two h
  obtain ⟨h2, h⟩ := two h
  obtain ⟨h3, h⟩ := two h
  obtain ⟨h4, h5⟩ := two h
  exact ⟨⟨h4, of_decide_eq_true h5⟩, isGetS_ok h1, recA_ok h2, h3⟩
theorem callo_ok {K : PySem.W.Frag} {C g : Addr} (h : calloB K C g = true) : StX.CallO K C g := by
  obtain ⟨h1, h⟩ := two h
  obtain ⟨h2, h3⟩ := two h
  exact ⟨of_decide_eq_true h1, h2, h3⟩
theorem cval_ok {K : PySem.W.Frag} {C : Addr} {f : Str} {n : Int} (h : cvalB K C f n = true) : ClX.CRead K C typ ∧ ∃ u, ClX.CVal K C typ f (.int n) u := by
  obtain ⟨h1, h⟩ := two h
  obtain ⟨h2, h3⟩ := two h
  obtain ⟨t, e⟩ := isVal_ok h1
  exact ⟨⟨h2, of_decide_eq_true h3⟩, _, e, ⟨t, rfl⟩⟩
theorem Tx.cval (T : Tx fa fx fn fy K mg base) (i : Nat) {c f : Str} {n : Int} (h : fx[i]? = some (.cval c f n) := by rfl) : ClX.CRead K (He.ga K c) typ ∧ ∃ u, ClX.CVal K (He.ga K c) typ f (.int n) u := cval_ok (T.extra i h)
theorem Tx.isi (T : Tx fa fx fn fy K mg base) (i : Nat) {c : Str} (h : fx[i]? = some (.isi c) := by rfl) : SlX.SIsi K (He.ga K c) ∧ noneOf K (He.ga K c) = true := isi_ok (T.extra i h)
theorem Tx.selff (T : Tx fa fx fn fy K mg base) (i : Nat) {c : Str} (h : fx[i]? = some (.selff c) := by rfl) : PySem.W.selfFirst K (He.ga K c) = true := T.extra i h
theorem Tx.notint (T : Tx fa fx fn fy K mg base) (i : Nat) {c : Str} (h : fx[i]? = some (.notint c) := by rfl) : PySem.W.mroIn K (He.ga K c) (.type "int") = some false := of_decide_eq_true (T.extra i h)
theorem Tx.nefct (T : Tx fa fx fn fy K mg base) (i : Nat) {c : Str} (h : fx[i]? = some (.nefct c) := by rfl) : PySem.W.findIn K (.ref (He.ga K c)) "__ne__" = some (some (.builtin "object.__ne__")) := of_decide_eq_true (T.extra i h)
theorem Tx.smet (T : Tx fa fx fn fy K mg base) (i : Nat) {c m : Str} (h : fx[i]? = some (.smet c m) := by rfl) : ClX.CRead K (He.ga K c) typ ∧ SMet K (He.ga K c) typ m (He.ma K (He.ga K c) m) (recA K (He.ma K (He.ga K c) m) "staticmethod") := smet_ok (T.extra i h)
theorem Tx.callo (T : Tx fa fx fn fy K mg base) (i : Nat) {c : Str} (h : fx[i]? = some (.callo c) := by rfl) : StX.CallO K (He.ga K c) (He.ma K (He.ga K c) "__call__") := callo_ok (T.extra i h)
theorem Tx.blt (T : Tx fa fx fn fy K mg base) (i : Nat) {x : Str} {id : String} (h : fx[i]? = some (.blt x id) := by rfl) : mg x = some (.builtin id) := by
  obtain ⟨hp, X, G⟩ := T.at_
  exact PySem.W.mg_of X G (of_decide_eq_true (T.extra i h))
theorem Tx.ktup (T : Tx fa fx fn fy K mg base) (i : Nat) {x : Str} {zs : List Str} (h : fx[i]? = some (.ktup x zs) := by rfl) : KTup K (He.ga K x) zs := ktup_ok (T.extra i h)
theorem Tx.kstr (T : Tx fa fx fn fy K mg base) (i : Nat) {x z : Str} (h : fa[i]? = some (.str x z) := by rfl) : ∃ t, mg x = some (.str z t) := by
  obtain ⟨hp, X, G⟩ := T.at_
  exact He.str_ok X G (T.says.fact i h)
theorem Tx.kint (T : Tx fa fx fn fy K mg base) (i : Nat) {x : Str} {z : Int} (h : fa[i]? = some (.int x z) := by rfl) : ∃ t, mg x = some (.int z t) := by
  obtain ⟨hp, X, G⟩ := T.at_
  exact He.int_ok X G (T.says.fact i h)
theorem Tx.cls (T : Tx fa fx fn fy K mg base) (i : Nat) {c : Str} (h : fa[i]? = some (.cls c) := by rfl) : Cls K (He.ga K c) := He.cls_ok (T.says.fact i h)
theorem Tx.noat (T : Tx fa fx fn fy K mg base) (i : Nat) {c f : Str} (h : fa[i]? = some (.noat c f) := by rfl) : NoAttr K (He.ga K c) f := He.noat_ok (T.says.fact i h)
theorem Tx.meth (T : Tx fa fx fn fy K mg base) (i : Nat) {c m : Str} (h : fa[i]? = some (.meth c m) := by rfl) : Meth K (He.ga K c) m (He.ma K (He.ga K c) m) := He.meth_ok (T.says.fact i h)
theorem Tx.mkr (T : Tx fa fx fn fy K mg base) (i : Nat) {c : Str} (h : fa[i]? = some (.mkr c) := by rfl) : Mk K (He.ga K c) (He.ma K (He.ga K c) "__init__") := He.mkr_ok (T.says.fact i h)
theorem def_of (c : obsX fa fx fn fy K = valX fn fy) (i : Nat) {d : He.DefD} (h : fn[i]? = some d := by rfl) : ∃ fd, FunD K d.name d.qual d.params d.body d.scope (d.dvs K) (d.kws K) (He.fAd K d.at_) fd :=
  (show He.SaysD fa fn K from congrArg (fun z : AlX => z.2.1) c).def_ i h
theorem glo_of (c : obsX fa fx fn fy K = valX fn fy) (at_ : ∃ h : Heap, K.In h ∧ h.Ns mainGlobals mg) (i : Nat) {x : Str} (h : fa[i]? = some (.glo x) := by rfl) : mg x = some (.ref (He.ga K x)) := by
  obtain ⟨hp, X, G⟩ := at_
  exact He.glo_ok X G ((show He.SaysD fa fn K from congrArg (fun z : AlX => z.2.1) c).fact i h)
theorem Tx.glo (T : Tx fa fx fn fy K mg base) (i : Nat) {x : Str} (h : fa[i]? = some (.glo x) := by rfl) : mg x = some (.ref (He.ga K x)) := by
  obtain ⟨hp, X, G⟩ := T.at_
  exact He.glo_ok X G (T.says.fact i h)
theorem Tx.free (T : Tx fa fx fn fy K mg base) (i : Nat) {x : Str} (h : fa[i]? = some (.free x) := by rfl) : mg x = none := by
  obtain ⟨hp, X, G⟩ := T.at_
  exact He.free_ok X G (T.says.fact i h)
theorem Tx.def_ (T : Tx fa fx fn fy K mg base) (i : Nat) {d : He.DefD} (h : fn[i]? = some d := by rfl) : ∃ fd, FunD K d.name d.qual d.params d.body d.scope (d.dvs K) (d.kws K) (He.fAd K d.at_) fd := T.says.def_ i h
theorem Tx.kp (T : Tx fa fx fn fy K mg base) (i : Nat) {d : He.DefD} (h : fn[i]? = some d := by rfl) : PySem.W.keepIn K (.ref (He.fAd K d.at_)) = true := by
  obtain ⟨fd, F⟩ := T.says.def_ i h
  exact F.kp
end
theorem cx_no {P : Program} {w : World} {l : List Env} {H : Hp} {s : Shared} {e : Value} {s' : Shared} (h : L2.CX P w l H s (fun _ _ _ => False) e s') : False := by
  obtain ⟨_, _, _, _, _, _, _, _, _, _, _, _, z⟩ := h
  exact z.elim
theorem rep_ints {K : PySem.W.Frag} {S : Addr → Prop} {H : Hp} : ∀ ns : List Int, RepL K S H (ns.map V.int) (ns.map D.int)
  | [] => .nil
  | n :: ns => .cons (.int n) (rep_ints ns)
theorem law_sp {K : PySem.W.Frag} {G : List D → R D} {m : Nat} (h : ∀ ns : List Int, ns.length ≤ m → G [.scr (ns.map .int)] = .ok (.bl true)) (H : Hp) (hT : ∀ p ∈ tabsK K, H p.2 = some (.tbl #[])) (a : Addr) (ns : List Int) (hl : ns.length ≤ m) (hS : SqL K H a (ns.map V.int)) :
    spD K 1 G [.ref a] H (fun v _ => v = .bl true) (fun _ _ _ => False) := by
  have fin : ∀ d, G [d] = .ok (.bl true) → Rep K (fun _ => False) H (.ref a) d → spD K 1 G [.ref a] H (fun v _ => v = .bl true) (fun _ _ _ => False) := fun d e r => by
    refine ⟨fun _ => False, [d], ⟨fun _ z => z.elim, fun p hp => LamX.TabS.nil (hT p hp)⟩, .cons r .nil, rfl, ?_⟩
    rw [e]
    intro v H' _ r'
    cases r' with
    | bl b => rfl
  rcases hS with (h1 | ⟨o, h1⟩) | h1
  · exact fin _ (h ns hl) (.sco h1 (fun z => z) (rep_ints ns))
  · exact fin _ (h ns hl) (.scr h1 (fun z => z) (rep_ints ns))
  · exact fin _ (h ns hl) (.scl h1 (rep_ints ns))
theorem walk_ofX {l : PySem.W.OpenLaw} {n k : Nat} {q : Program} {loose : List Str} {XP : (Str → Option Value) → Heap → Prop} {YP : World → Heap → Prop} {d : DefRec} {x : Str}
    (hn : l.most = some n) (hn2 : n ≤ sizeLine) (hdf : d.params.defaults = []) (hr : Room k callerA)
    (F : ∀ (w : World) (mg : Str → Option Value) (fa : Addr) (h : Heap), YP w h → h.Ns mainGlobals mg → mg d.name = some (.ref fa) →
      ∃ (K : PySem.W.Frag) (fd : FuncData) (sp : Sp), K.In h ∧ TabF K h ∧ (∀ (s : Shared) (u : Value), BindsTo s fd ⟨[u], []⟩ [(x, u)]) ∧
        (∀ (H : Hp) (a : Addr) (ns : List Int), ns.length ≤ n → (∀ p ∈ tabsK K, H p.2 = some (.tbl #[])) → SqL K H a (ns.map V.int) → sp [.ref a] H (fun v _ => v = .bl true) fun _ _ _ => False) ∧
        ∀ base : Heap, K.In base → base.Ns mainGlobals mg → (∀ p ∈ tabsK K, LamX.TabB base mg p.1 p.2) → FnOk l.prog w K mg base (L2.CX l.prog w) k fa fd [x] sp) :
    PySem.W.WalkO q loose XP YP l.row.toRowW d [] (fun f vs => PySem.call f vs) := by
  refine LamX.walk_ofTsE (x := x) (CX := fun w => L2.CX l.prog w) hn hn2 hdf hr (fun w mg fa h Y G hmg => ?_) fun w H s e s' z => cx_no z
  obtain ⟨K, fd, sp, KX, ht, hb, hsp, hF⟩ := F w mg fa h Y G hmg
  exact ⟨K, KX, fd, tabsK K, sp, fun p hp => (ht p hp).1, fun p hp => (ht p hp).2.2, fun p hp => (ht p hp).2.1, hb, fun H a ns hl _ hT hS => hsp H a ns hl hT hS, hF⟩
end DL

namespace LW
open PySem PySem.Spec PyProof.Rows L2 DL
def topS (i : Nat) : Stmt := PySem.Challenge.pw_unlookedlists_k09_rows_and_names.main.body.getD i (.Pass ⟨0, 0, 0, 0⟩)
abbrev s_arms_of : Stmt := topS 15
abbrev N_arms_of : List Str := ["part"]
abbrev P_arms_of : List Str := ["part"]
def dd_arms_of : He.DefD := ⟨("arms_of", none), "arms_of", "arms_of", defArgs s_arms_of, defBody s_arms_of, defScope s_arms_of, [], []⟩
abbrev s_count_parts : Stmt := topS 16
abbrev N_count_parts : List Str := ["row", "total", "part", "arm"]
abbrev P_count_parts : List Str := ["row"]
def dd_count_parts : He.DefD := ⟨("count_parts", none), "count_parts", "count_parts", defArgs s_count_parts, defBody s_count_parts, defScope s_count_parts, [], []⟩
abbrev s_depth_of : Stmt := topS 17
abbrev N_depth_of : List Str := ["row", "deepest", "part", "arm"]
abbrev P_depth_of : List Str := ["row"]
def dd_depth_of : He.DefD := ⟨("depth_of", none), "depth_of", "depth_of", defArgs s_depth_of, defBody s_depth_of, defScope s_depth_of, [], []⟩
abbrev s_uses_of : Stmt := topS 18
abbrev N_uses_of : List Str := ["row", "found", "part", "name", "arm"]
abbrev P_uses_of : List Str := ["row"]
def dd_uses_of : He.DefD := ⟨("uses_of", none), "uses_of", "uses_of", defArgs s_uses_of, defBody s_uses_of, defScope s_uses_of, [], []⟩
abbrev s_names_of : Stmt := topS 19
abbrev N_names_of : List Str := ["row", "found", "name", "_"]
abbrev P_names_of : List Str := ["row"]
def dd_names_of : He.DefD := ⟨("names_of", none), "names_of", "names_of", defArgs s_names_of, defBody s_names_of, defScope s_names_of, [], []⟩
abbrev s_mixed_name : Stmt := topS 20
abbrev N_mixed_name : List Str := ["row", "known", "name", "count"]
abbrev P_mixed_name : List Str := ["row"]
def dd_mixed_name : He.DefD := ⟨("mixed_name", none), "mixed_name", "mixed_name", defArgs s_mixed_name, defBody s_mixed_name, defScope s_mixed_name, [], []⟩
abbrev s_Numbers___init__ : Stmt := inCls (topS 26) 1
abbrev N_Numbers___init__ : List Str := ["self", "period", "divisor", "modulus", "spread", "hop", "echo", "growth", "leaves"]
abbrev P_Numbers___init__ : List Str := ["self", "period", "divisor", "modulus", "spread", "hop", "echo", "growth", "leaves"]
def dd_Numbers___init__ : He.DefD := ⟨("Numbers", some "__init__"), "__init__", "Numbers.__init__", defArgs s_Numbers___init__, defBody s_Numbers___init__, defScope s_Numbers___init__, [], [("period", .int 1), ("divisor", .int 1), ("modulus", .int 1), ("spread", .int 0), ("hop", .int 1), ("echo", .int 1), ("growth", .int 1), ("leaves", .int 1)]⟩
abbrev s_Numbers_regular : Stmt := inCls (topS 26) 4
abbrev N_Numbers_regular : List Str := ["self"]
abbrev P_Numbers_regular : List Str := ["self"]
def dy_Numbers_regular : DefY := ⟨"Numbers", "regular", "property", "regular", "Numbers.regular", defArgs s_Numbers_regular, defBody s_Numbers_regular, defScope s_Numbers_regular, [], "", false⟩
abbrev s_Numbers_enough : Stmt := inCls (topS 26) 5
abbrev N_Numbers_enough : List Str := ["self"]
abbrev P_Numbers_enough : List Str := ["self"]
def dy_Numbers_enough : DefY := ⟨"Numbers", "enough", "property", "enough", "Numbers.enough", defArgs s_Numbers_enough, defBody s_Numbers_enough, defScope s_Numbers_enough, [], "", false⟩
abbrev s_Numbers___or__ : Stmt := inCls (topS 26) 7
abbrev N_Numbers___or__ : List Str := ["self", "other", "period", "divisor"]
abbrev P_Numbers___or__ : List Str := ["self", "other"]
def dd_Numbers___or__ : He.DefD := ⟨("Numbers", some "__or__"), "__or__", "Numbers.__or__", defArgs s_Numbers___or__, defBody s_Numbers___or__, defScope s_Numbers___or__, [], []⟩
abbrev s_rounded_up : Stmt := topS 27
abbrev N_rounded_up : List Str := ["number", "whole"]
abbrev P_rounded_up : List Str := ["number", "whole"]
def dd_rounded_up : He.DefD := ⟨("rounded_up", none), "rounded_up", "rounded_up", defArgs s_rounded_up, defBody s_rounded_up, defScope s_rounded_up, [], []⟩
abbrev s_behind_cut : Stmt := topS 28
abbrev N_behind_cut : List Str := ["part", "old", "_", "count", "whole", "divisor", "offset"]
abbrev P_behind_cut : List Str := ["part", "old"]
def dd_behind_cut : He.DefD := ⟨("behind_cut", none), "behind_cut", "behind_cut", defArgs s_behind_cut, defBody s_behind_cut, defScope s_behind_cut, [], []⟩
abbrev s_behind_each : Stmt := topS 29
abbrev N_behind_each : List Str := ["part", "old", "step"]
abbrev P_behind_each : List Str := ["part", "old"]
def dd_behind_each : He.DefD := ⟨("behind_each", none), "behind_each", "behind_each", defArgs s_behind_each, defBody s_behind_each, defScope s_behind_each, [], []⟩
abbrev s_behind_times : Stmt := topS 30
abbrev N_behind_times : List Str := ["part", "old", "copies", "period"]
abbrev P_behind_times : List Str := ["part", "old"]
def dd_behind_times : He.DefD := ⟨("behind_times", none), "behind_times", "behind_times", defArgs s_behind_times, defBody s_behind_times, defScope s_behind_times, [], []⟩
abbrev s_behind_again : Stmt := topS 31
abbrev N_behind_again : List Str := ["part", "old", "copies"]
abbrev P_behind_again : List Str := ["part", "old"]
def dd_behind_again : He.DefD := ⟨("behind_again", none), "behind_again", "behind_again", defArgs s_behind_again, defBody s_behind_again, defScope s_behind_again, [], []⟩
abbrev s_behind_turn : Stmt := topS 32
abbrev N_behind_turn : List Str := ["part", "old", "period"]
abbrev P_behind_turn : List Str := ["part", "old"]
def dd_behind_turn : He.DefD := ⟨("behind_turn", none), "behind_turn", "behind_turn", defArgs s_behind_turn, defBody s_behind_turn, defScope s_behind_turn, [], []⟩
abbrev s_behind_arms : Stmt := topS 33
abbrev N_behind_arms : List Str := ["part", "old", "left", "right", "both", "period", "divisor"]
abbrev P_behind_arms : List Str := ["part", "old", "left", "right"]
def dd_behind_arms : He.DefD := ⟨("behind_arms", none), "behind_arms", "behind_arms", defArgs s_behind_arms, defBody s_behind_arms, defScope s_behind_arms, [], []⟩
abbrev s_checked : Stmt := topS 34
abbrev N_checked : List Str := ["numbers"]
abbrev P_checked : List Str := ["numbers"]
def dd_checked : He.DefD := ⟨("checked", none), "checked", "checked", defArgs s_checked, defBody s_checked, defScope s_checked, [], []⟩
abbrev s_behind : Stmt := topS 35
abbrev N_behind : List Str := ["part", "old", "word", "left"]
abbrev P_behind : List Str := ["part", "old"]
def dd_behind : He.DefD := ⟨("behind", none), "behind", "behind", defArgs s_behind, defBody s_behind, defScope s_behind, [], []⟩
abbrev s_measured : Stmt := topS 36
abbrev N_measured : List Str := ["row", "numbers", "part"]
abbrev P_measured : List Str := ["row", "numbers"]
def dd_measured : He.DefD := ⟨("measured", none), "measured", "measured", defArgs s_measured, defBody s_measured, defScope s_measured, [], []⟩
abbrev s_tokens_of : Stmt := topS 41
abbrev N_tokens_of : List Str := ["text", "found", "word", "char"]
abbrev P_tokens_of : List Str := ["text"]
def dd_tokens_of : He.DefD := ⟨("tokens_of", none), "tokens_of", "tokens_of", defArgs s_tokens_of, defBody s_tokens_of, defScope s_tokens_of, [], []⟩
abbrev s_number_of : Stmt := topS 42
abbrev N_number_of : List Str := ["token", "digits", "char"]
abbrev P_number_of : List Str := ["token"]
def dd_number_of : He.DefD := ⟨("number_of", none), "number_of", "number_of", defArgs s_number_of, defBody s_number_of, defScope s_number_of, [], []⟩
abbrev s_is_name : Stmt := topS 43
abbrev N_is_name : List Str := ["token", "char"]
abbrev P_is_name : List Str := ["token"]
def dd_is_name : He.DefD := ⟨("is_name", none), "is_name", "is_name", defArgs s_is_name, defBody s_is_name, defScope s_is_name, [], []⟩
abbrev s_Reader___init__ : Stmt := inCls (topS 44) 0
abbrev N_Reader___init__ : List Str := ["self", "text"]
abbrev P_Reader___init__ : List Str := ["self", "text"]
def dd_Reader___init__ : He.DefD := ⟨("Reader", some "__init__"), "__init__", "Reader.__init__", defArgs s_Reader___init__, defBody s_Reader___init__, defScope s_Reader___init__, [], []⟩
abbrev s_Reader_token : Stmt := inCls (topS 44) 1
abbrev N_Reader_token : List Str := ["self"]
abbrev P_Reader_token : List Str := ["self"]
def dd_Reader_token : He.DefD := ⟨("Reader", some "token"), "token", "Reader.token", defArgs s_Reader_token, defBody s_Reader_token, defScope s_Reader_token, [], []⟩
abbrev s_Reader_number : Stmt := inCls (topS 44) 2
abbrev N_Reader_number : List Str := ["self", "low", "high", "found"]
abbrev P_Reader_number : List Str := ["self", "low", "high"]
def dd_Reader_number : He.DefD := ⟨("Reader", some "number"), "number", "Reader.number", defArgs s_Reader_number, defBody s_Reader_number, defScope s_Reader_number, [], []⟩
abbrev s_Reader_name : Stmt := inCls (topS 44) 3
abbrev N_Reader_name : List Str := ["self", "found"]
abbrev P_Reader_name : List Str := ["self"]
def dd_Reader_name : He.DefD := ⟨("Reader", some "name"), "name", "Reader.name", defArgs s_Reader_name, defBody s_Reader_name, defScope s_Reader_name, [], []⟩
abbrev s_Reader_sign : Stmt := inCls (topS 44) 4
abbrev N_Reader_sign : List Str := ["self", "expected"]
abbrev P_Reader_sign : List Str := ["self", "expected"]
def dd_Reader_sign : He.DefD := ⟨("Reader", some "sign"), "sign", "Reader.sign", defArgs s_Reader_sign, defBody s_Reader_sign, defScope s_Reader_sign, [], []⟩
abbrev s_Reader_whole_row : Stmt := inCls (topS 44) 5
abbrev N_Reader_whole_row : List Str := ["self", "row"]
abbrev P_Reader_whole_row : List Str := ["self"]
def dd_Reader_whole_row : He.DefD := ⟨("Reader", some "whole_row"), "whole_row", "Reader.whole_row", defArgs s_Reader_whole_row, defBody s_Reader_whole_row, defScope s_Reader_whole_row, [], []⟩
abbrev s_Reader_row : Stmt := inCls (topS 44) 6
abbrev N_Reader_row : List Str := ["self", "found"]
abbrev P_Reader_row : List Str := ["self"]
def dd_Reader_row : He.DefD := ⟨("Reader", some "row"), "row", "Reader.row", defArgs s_Reader_row, defBody s_Reader_row, defScope s_Reader_row, [], []⟩
abbrev s_Reader_arm : Stmt := inCls (topS 44) 7
abbrev N_Reader_arm : List Str := ["self", "row"]
abbrev P_Reader_arm : List Str := ["self"]
def dd_Reader_arm : He.DefD := ⟨("Reader", some "arm"), "arm", "Reader.arm", defArgs s_Reader_arm, defBody s_Reader_arm, defScope s_Reader_arm, [], []⟩
abbrev s_Reader_part : Stmt := inCls (topS 44) 8
abbrev N_Reader_part : List Str := ["self", "word"]
abbrev P_Reader_part : List Str := ["self"]
def dd_Reader_part : He.DefD := ⟨("Reader", some "part"), "part", "Reader.part", defArgs s_Reader_part, defBody s_Reader_part, defScope s_Reader_part, [], []⟩
abbrev s_Reader_cut : Stmt := inCls (topS 44) 9
abbrev N_Reader_cut : List Str := ["self", "word", "count", "share"]
abbrev P_Reader_cut : List Str := ["self", "word"]
def dd_Reader_cut : He.DefD := ⟨("Reader", some "cut"), "cut", "Reader.cut", defArgs s_Reader_cut, defBody s_Reader_cut, defScope s_Reader_cut, [], []⟩
abbrev s_Reader_other : Stmt := inCls (topS 44) 10
abbrev N_Reader_other : List Str := ["self", "word", "step", "first", "left"]
abbrev P_Reader_other : List Str := ["self", "word"]
def dd_Reader_other : He.DefD := ⟨("Reader", some "other"), "other", "Reader.other", defArgs s_Reader_other, defBody s_Reader_other, defScope s_Reader_other, [], []⟩
abbrev s_Reader_name_list : Stmt := inCls (topS 44) 11
abbrev N_Reader_name_list : List Str := ["self", "found"]
abbrev P_Reader_name_list : List Str := ["self"]
def dd_Reader_name_list : He.DefD := ⟨("Reader", some "name_list"), "name_list", "Reader.name_list", defArgs s_Reader_name_list, defBody s_Reader_name_list, defScope s_Reader_name_list, [], []⟩
abbrev s_row_of : Stmt := topS 45
abbrev N_row_of : List Str := ["text"]
abbrev P_row_of : List Str := ["text"]
def dd_row_of : He.DefD := ⟨("row_of", none), "row_of", "row_of", defArgs s_row_of, defBody s_row_of, defScope s_row_of, [], []⟩
abbrev s_text_of_part : Stmt := topS 54
abbrev N_text_of_part : List Str := ["part", "words", "told", "arm"]
abbrev P_text_of_part : List Str := ["part"]
def dd_text_of_part : He.DefD := ⟨("text_of_part", none), "text_of_part", "text_of_part", defArgs s_text_of_part, defBody s_text_of_part, defScope s_text_of_part, [], []⟩
abbrev s_text_of : Stmt := topS 55
abbrev N_text_of : List Str := ["row", "part"]
abbrev P_text_of : List Str := ["row"]
def dd_text_of : He.DefD := ⟨("text_of", none), "text_of", "text_of", defArgs s_text_of, defBody s_text_of, defScope s_text_of, [], []⟩
abbrev s_measured_program : Stmt := topS 58
abbrev N_measured_program : List Str := ["row", "mixed"]
abbrev P_measured_program : List Str := ["row"]
def dd_measured_program : He.DefD := ⟨("measured_program", none), "measured_program", "measured_program", defArgs s_measured_program, defBody s_measured_program, defScope s_measured_program, [], []⟩
abbrev s_Program___init__ : Stmt := inCls (topS 59) 5
abbrev N_Program___init__ : List Str := ["self", "row", "part"]
abbrev P_Program___init__ : List Str := ["self", "row"]
def dd_Program___init__ : He.DefD := ⟨("Program", some "__init__"), "__init__", "Program.__init__", defArgs s_Program___init__, defBody s_Program___init__, defScope s_Program___init__, [], []⟩
abbrev s_Program_read : Stmt := inCls (topS 59) 6
abbrev N_Program_read : List Str := ["cls", "text"]
abbrev P_Program_read : List Str := ["cls", "text"]
def dy_Program_read : DefY := ⟨"Program", "read", "classmethod", "read", "Program.read", defArgs s_Program_read, defBody s_Program_read, defScope s_Program_read, [], "", false⟩
abbrev s_Program_text : Stmt := inCls (topS 59) 9
abbrev N_Program_text : List Str := ["self"]
abbrev P_Program_text : List Str := ["self"]
def dy_Program_text : DefY := ⟨"Program", "text", "property", "text", "Program.text", defArgs s_Program_text, defBody s_Program_text, defScope s_Program_text, [], "", false⟩
abbrev s_Program_row_texts : Stmt := inCls (topS 59) 10
abbrev N_Program_row_texts : List Str := ["self"]
abbrev P_Program_row_texts : List Str := ["self"]
def dy_Program_row_texts : DefY := ⟨"Program", "row_texts", "property", "row_texts", "Program.row_texts", defArgs s_Program_row_texts, defBody s_Program_row_texts, defScope s_Program_row_texts, [], "", false⟩
abbrev s_Program_names : Stmt := inCls (topS 59) 11
abbrev N_Program_names : List Str := ["self"]
abbrev P_Program_names : List Str := ["self"]
def dy_Program_names : DefY := ⟨"Program", "names", "property", "names", "Program.names", defArgs s_Program_names, defBody s_Program_names, defScope s_Program_names, [], "", false⟩
abbrev s_Program_parts : Stmt := inCls (topS 59) 12
abbrev N_Program_parts : List Str := ["self"]
abbrev P_Program_parts : List Str := ["self"]
def dy_Program_parts : DefY := ⟨"Program", "parts", "property", "parts", "Program.parts", defArgs s_Program_parts, defBody s_Program_parts, defScope s_Program_parts, [], "", false⟩
abbrev s_Program___len__ : Stmt := inCls (topS 59) 15
abbrev N_Program___len__ : List Str := ["self"]
abbrev P_Program___len__ : List Str := ["self"]
def dd_Program___len__ : He.DefD := ⟨("Program", some "__len__"), "__len__", "Program.__len__", defArgs s_Program___len__, defBody s_Program___len__, defScope s_Program___len__, [], []⟩
abbrev s_Program___iter__ : Stmt := inCls (topS 59) 16
abbrev N_Program___iter__ : List Str := ["self"]
abbrev P_Program___iter__ : List Str := ["self"]
def dd_Program___iter__ : He.DefD := ⟨("Program", some "__iter__"), "__iter__", "Program.__iter__", defArgs s_Program___iter__, defBody s_Program___iter__, defScope s_Program___iter__, [], []⟩
abbrev s_Program___contains__ : Stmt := inCls (topS 59) 17
abbrev N_Program___contains__ : List Str := ["self", "name"]
abbrev P_Program___contains__ : List Str := ["self", "name"]
def dd_Program___contains__ : He.DefD := ⟨("Program", some "__contains__"), "__contains__", "Program.__contains__", defArgs s_Program___contains__, defBody s_Program___contains__, defScope s_Program___contains__, [], []⟩
abbrev s_Program___eq__ : Stmt := inCls (topS 59) 18
abbrev N_Program___eq__ : List Str := ["self", "other"]
abbrev P_Program___eq__ : List Str := ["self", "other"]
def dd_Program___eq__ : He.DefD := ⟨("Program", some "__eq__"), "__eq__", "Program.__eq__", defArgs s_Program___eq__, defBody s_Program___eq__, defScope s_Program___eq__, [], []⟩
abbrev s__law_draws : Stmt := topS 61
abbrev N__law_draws : List Str := ["_law_script", "_law_many", "_law_draws_here", "_law_k", "_law_cell", "_law_step", "_law_mixed"]
abbrev P__law_draws : List Str := ["_law_script", "_law_many"]
def dd__law_draws : He.DefD := ⟨("_law_draws", none), "_law_draws", "_law_draws", defArgs s__law_draws, defBody s__law_draws, defScope s__law_draws, [], []⟩
abbrev s__law_name : Stmt := topS 62
abbrev N__law_name : List Str := ["_law_letters", "_law_draw"]
abbrev P__law_name : List Str := ["_law_letters", "_law_draw"]
def dd__law_name : He.DefD := ⟨("_law_name", none), "_law_name", "_law_name", defArgs s__law_name, defBody s__law_name, defScope s__law_name, [], []⟩
abbrev s__law_once : Stmt := topS 63
abbrev N__law_once : List Str := ["_law_names", "_law_found", "_law_name_here"]
abbrev P__law_once : List Str := ["_law_names"]
def dd__law_once : He.DefD := ⟨("_law_once", none), "_law_once", "_law_once", defArgs s__law_once, defBody s__law_once, defScope s__law_once, [], []⟩
abbrev s__law_part : Stmt := topS 64
abbrev N__law_part : List Str := ["_law_draw", "_law_kind", "_law_rest", "_law_one", "_law_two", "_law_fixed"]
abbrev P__law_part : List Str := ["_law_draw"]
def dd__law_part : He.DefD := ⟨("_law_part", none), "_law_part", "_law_part", defArgs s__law_part, defBody s__law_part, defScope s__law_part, [], []⟩
abbrev s__law_right : Stmt := topS 65
abbrev N__law_right : List Str := ["_law_program", "_law_rows", "_law_names", "_law_count", "_law_row", "_law_first", "_law_second"]
abbrev P__law_right : List Str := ["_law_program", "_law_rows", "_law_names", "_law_count"]
def dd__law_right : He.DefD := ⟨("_law_right", none), "_law_right", "_law_right", defArgs s__law_right, defBody s__law_right, defScope s__law_right, [], []⟩
abbrev s_law : Stmt := topS 66
abbrev N_law : List Str := ["_law_script", "_law_draws_here", "_law_rows", "_law_names", "_law_count", "_law_armed", "_law_k", "_law_part_here", "_law_program", "_law_told"]
abbrev P_law : List Str := ["_law_script"]
def dd_law : He.DefD := ⟨("law", none), "law", "law", defArgs s_law, defBody s_law, defScope s_law, [], []⟩
abbrev z_ARM_WORDS : List Str := ["join", "weave", "pair", "short"]
abbrev k_ARM_WORDS : D := .tup (z_ARM_WORDS.map .str)
abbrev z_CUT_WORDS : List Str := ["take", "drop"]
abbrev k_CUT_WORDS : D := .tup (z_CUT_WORDS.map .str)
abbrev z_WORDS : List Str := ["same", "none", "put", "reverse", "take", "drop", "each", "times", "again", "turn", "map", "join", "weave", "pair", "short"]
abbrev k_WORDS : D := .tup (z_WORDS.map .str)
abbrev z_PLAIN_WORDS : List Str := ["same", "none", "reverse"]
abbrev k_PLAIN_WORDS : D := .tup (z_PLAIN_WORDS.map .str)
def P : Program := PySem.Challenge.pw_unlookedlists_k09_rows_and_names
abbrev s_ex_TooLarge : Stmt := inCls (topS 5) 0
def dy_ex_TooLarge : DefY := ⟨"TooLarge", "__init__", "init", "__init__", "TooLarge.__init__", defArgs s_ex_TooLarge, defBody s_ex_TooLarge, defScope s_ex_TooLarge, ["what"], P.main.file, true⟩
abbrev s_ex_BadText : Stmt := inCls (topS 4) 0
def dy_ex_BadText : DefY := ⟨"BadText", "__init__", "init", "__init__", "BadText.__init__", defArgs s_ex_BadText, defBody s_ex_BadText, defScope s_ex_BadText, ["place"], P.main.file, true⟩
abbrev s_ex_MixedName : Stmt := inCls (topS 6) 0
def dy_ex_MixedName : DefY := ⟨"MixedName", "__init__", "init", "__init__", "MixedName.__init__", defArgs s_ex_MixedName, defBody s_ex_MixedName, defScope s_ex_MixedName, ["name"], P.main.file, true⟩
def fa : List He.Fa := [.glo "law", .glo "ARM_WORDS", .free "len", .glo "arms_of", .glo "count_parts", .glo "depth_of", .free "max", .glo "uses_of", .free "isinstance", .glo "Numbers", .mkr "Numbers", .free "abs", .glo "rounded_up", .meth "Numbers" "__or__", .int "MOST_GROWTH" 16, .free "super", .glo "TooLarge", .int "MOST_LEAVES" 8, .int "MOST_ENOUGH" 200, .glo "measured", .glo "behind_arms", .glo "CUT_WORDS", .glo "behind_cut", .glo "behind_each", .glo "behind_times", .glo "behind_again", .glo "behind_turn", .glo "behind", .glo "checked", .str "DIGITS" "0123456789", .free "int", .glo "WORDS", .str "LETTERS" "abcdefghijklmnopqrstuvwxyz", .glo "tokens_of", .cls "Reader", .noat "Reader" "tokens", .noat "Reader" "at", .noat "Reader" "depth", .meth "Reader" "token", .glo "number_of", .glo "BadText", .glo "is_name", .int "DEPTH_BOUND" 6, .meth "Reader" "row", .meth "Reader" "part", .free "tuple", .meth "Reader" "sign", .glo "PLAIN_WORDS", .meth "Reader" "cut", .meth "Reader" "other", .meth "Reader" "number", .meth "Reader" "name", .meth "Reader" "name_list", .meth "Reader" "arm", .meth "Reader" "whole_row", .mkr "Reader", .glo "Reader", .free "list", .free "str", .glo "text_of", .glo "text_of_part", .int "MOST_PARTS" 24, .glo "mixed_name", .glo "MixedName", .glo "measured_program", .cls "Program", .noat "Program" "_numbers", .noat "Program" "_parts", .noat "Program" "_texts", .glo "row_of", .mkr "Program", .glo "names_of", .free "iter", .glo "Program", .free "min", .free "range", .glo "_law_name", .meth "Program" "__len__", .meth "Program" "__iter__", .meth "Program" "__contains__", .glo "_law_draws", .glo "_law_part", .glo "_law_once", .glo "_law_right"]
def fx : List Fx := [.ktup "ARM_WORDS" z_ARM_WORDS, .scls "Numbers", .slot "Numbers" "leaves" 4, .slot "Numbers" "growth" 2, .slot "Numbers" "echo" 1, .slot "Numbers" "hop" 3, .slot "Numbers" "spread" 7, .slot "Numbers" "modulus" 5, .slot "Numbers" "divisor" 0, .slot "Numbers" "period" 6, .prop "Numbers" "regular", .isi "Numbers", .blt "lcm" "math.lcm", .blt "gcd" "math.gcd", .selff "Numbers", .prop "Numbers" "enough", .ktup "CUT_WORDS" z_CUT_WORDS, .ktup "WORDS" z_WORDS, .ktup "PLAIN_WORDS" z_PLAIN_WORDS, .isi "Program", .prop "Program" "row_texts", .prop "Program" "names", .prop "Program" "parts", .prop "Program" "text", .cmet "Program" "read"]
def fn : List He.DefD := [dd_arms_of, dd_count_parts, dd_depth_of, dd_uses_of, dd_names_of, dd_mixed_name, dd_Numbers___init__, dd_Numbers___or__, dd_rounded_up, dd_behind_cut, dd_behind_each, dd_behind_times, dd_behind_again, dd_behind_turn, dd_behind_arms, dd_checked, dd_behind, dd_measured, dd_tokens_of, dd_number_of, dd_is_name, dd_Reader___init__, dd_Reader_token, dd_Reader_number, dd_Reader_name, dd_Reader_sign, dd_Reader_whole_row, dd_Reader_row, dd_Reader_arm, dd_Reader_part, dd_Reader_cut, dd_Reader_other, dd_Reader_name_list, dd_row_of, dd_text_of_part, dd_text_of, dd_measured_program, dd_Program___init__, dd_Program___len__, dd_Program___iter__, dd_Program___contains__, dd_Program___eq__, dd__law_draws, dd__law_name, dd__law_once, dd__law_part, dd__law_right, dd_law]
def fy : List DefY := [dy_Numbers_regular, dy_Numbers_enough, dy_Program_read, dy_Program_text, dy_Program_row_texts, dy_Program_names, dy_Program_parts, dy_ex_TooLarge, dy_ex_BadText, dy_ex_MixedName]
abbrev TT (K : PySem.W.Frag) (mg : Str → Option Value) (base : Heap) : Prop := Tx fa fx fn fy K mg base
abbrev RR : PySem.W.OpenRow := PySem.W.OpenLaw.row PySem.Challenge.rw_unlookedlists_k09_rows_and_names
abbrev qv : Program := PySem.W.view RR.prog [0, 66]
def loose : List PySem.Str := ([PySem.Str.ofString "_wall", PySem.Str.ofString "__name__", PySem.Str.ofString "ListError", PySem.Str.ofString "BadText", PySem.Str.ofString "TooLarge", PySem.Str.ofString "MixedName", PySem.Str.ofString "MissingName", PySem.Str.ofString "OutOfRange", PySem.Str.ofString "PLAIN_WORDS", PySem.Str.ofString "CUT_WORDS", PySem.Str.ofString "ARM_WORDS", PySem.Str.ofString "WORDS", PySem.Str.ofString "SAME", PySem.Str.ofString "arms_of", PySem.Str.ofString "count_parts", PySem.Str.ofString "depth_of", PySem.Str.ofString "uses_of", PySem.Str.ofString "names_of", PySem.Str.ofString "mixed_name", PySem.Str.ofString "cut_place", PySem.Str.ofString "MOST_GROWTH", PySem.Str.ofString "MOST_LEAVES", PySem.Str.ofString "MOST_ENOUGH", PySem.Str.ofString "Numbers", PySem.Str.ofString "rounded_up", PySem.Str.ofString "behind_cut", PySem.Str.ofString "behind_each", PySem.Str.ofString "behind_times", PySem.Str.ofString "behind_again", PySem.Str.ofString "behind_turn"] : List PySem.Str) ++ ([PySem.Str.ofString "behind_arms", PySem.Str.ofString "checked", PySem.Str.ofString "behind", PySem.Str.ofString "measured", PySem.Str.ofString "DEPTH_BOUND", PySem.Str.ofString "DIGITS", PySem.Str.ofString "LETTERS", PySem.Str.ofString "tokens_of", PySem.Str.ofString "number_of", PySem.Str.ofString "is_name", PySem.Str.ofString "Reader", PySem.Str.ofString "row_of", PySem.Str.ofString "turned", PySem.Str.ofString "woven", PySem.Str.ofString "mapped", PySem.Str.ofString "run_arms", PySem.Str.ofString "run_part", PySem.Str.ofString "run_row", PySem.Str.ofString "text_of_part", PySem.Str.ofString "text_of", PySem.Str.ofString "MOST_PARTS", PySem.Str.ofString "measured_program", PySem.Str.ofString "Program", PySem.Str.ofString "_law_draws", PySem.Str.ofString "_law_name", PySem.Str.ofString "_law_once", PySem.Str.ofString "_law_part", PySem.Str.ofString "_law_right"] : List PySem.Str)
abbrev hk : PySem.W.Hook := hookX 5 fa fx fn fy
def ob (s : PySem.W.SharedT) : AlX := obsXG 5 fa fx fn fy (HandSHeadRun.getT s)
theorem ob_eq (s : PySem.W.SharedT) : ob s = hk.obs s.abs := obsXG_eq (HandSHeadRun.getT_eq s)
noncomputable abbrev wh (w : World) : Option (Shared × PySem.W.SharedT) := HandSHeadRun.wholeF (fun p => HandSHeadRun.stepQ (HandSHeadRun.denQ HandSHeadRun.tabQ) p w) HandSHeadRun.fenceQ 20000 RR.prog
theorem run1 (w : World) : (wh w).map (fun x => (HandSHeadRun.looksF RR.prog x.1.heap x.2.abs, HandSHeadRun.seenQ qv loose (PySem.importedModules RR.prog.main.body) (fun s => PySem.W.xlAt qv [] s && PySem.W.recOk RR.toRowW.records s) x.2.abs)) = some (true, PySem.W.openGood qv loose) := by
  kernel_rfl
theorem run2 (w : World) : (wh w).map (fun x => obs1G 5 fx fy (HandSHeadRun.getT x.2)) = some (true, fy.map DefY.val) := by
  kernel_rfl
theorem run3 (w : World) : (wh w).map (fun x => obs2G 5 fa fn (HandSHeadRun.getT x.2)) = some (He.valD fn) := by
  kernel_rfl
theorem run (w : World) : HandSHeadRun.RunEqI RR qv hk ob 20000 loose w := by
  have h1 := run1 w
  have h2 := map_obs (g := fun x : Shared × PySem.W.SharedT => HandSHeadRun.getT x.2) (run2 w) (run3 w)
  unfold HandSHeadRun.RunEqI
  unfold wh at h1 h2
  generalize HandSHeadRun.wholeF (fun p => HandSHeadRun.stepQ (HandSHeadRun.denQ HandSHeadRun.tabQ) p w) HandSHeadRun.fenceQ 20000 RR.prog = o at h1 h2 ⊢
  exact map_all h1 h2
def FactsT : Prop := ∀ {w : World} {K : PySem.W.Frag} {h : Heap} {mg : Str → Option Value} {f : Addr}, K.In h → TabF K h → h.Ns mainGlobals mg → mg ("law" : Str) = some (.ref f) → obsX fa fx fn fy K = valX fn fy →
    ∃ (K : PySem.W.Frag) (fd : FuncData) (sp : Sp), K.In h ∧ TabF K h ∧ (∀ (s : Shared) (u : Value), BindsTo s fd ⟨[u], []⟩ [(("_law_script" : Str), u)]) ∧
      (∀ (H : Hp) (a : Addr) (ns : List Int), ns.length ≤ 63 → (∀ p ∈ tabsK K, H p.2 = some (.tbl #[])) → SqL K H a (ns.map V.int) → sp [.ref a] H (fun v _ => v = .bl true) fun _ _ _ => False) ∧
      ∀ base : Heap, K.In base → base.Ns mainGlobals mg → (∀ p ∈ tabsK K, LamX.TabB base mg p.1 p.2) → FnOk PySem.Challenge.pw_unlookedlists_k09_rows_and_names w K mg base (L2.CX PySem.Challenge.pw_unlookedlists_k09_rows_and_names w) 71 f fd ["_law_script"] sp
end LW
section
open PySem PySem.W PySem.Calls PyProof.Rows
set_option maxRecDepth 100000 in
set_option maxHeartbeats 0 in
theorem LW.early (LWF : LW.FactsT) : PySem.Challenge.rw_unlookedlists_k09_rows_and_names.Holds := by
  w_on; o_law
  refine HandSHeadRun.head_imp (r := OpenLaw.row PySem.Challenge.rw_unlookedlists_k09_rows_and_names) (q := LW.qv) (H := LW.hk) (ob := LW.ob) (M := 20000) (loose := LW.loose) (d := HandSHeadRun.topDef (OpenLaw.row PySem.Challenge.rw_unlookedlists_k09_rows_and_names).prog 66) (kwd := []) LW.ob_eq
    LW.run (by kernel_rfl) (by kernel_rfl) (by kernel_rfl) (by rfl) (by first | assumption | decide +kernel) (by decide +kernel) ⟨rfl, rfl, rfl, rfl, rfl, by decide +kernel⟩ ?hw ?hc
  case hw => w_witness2
  case hc =>
    refine DL.walk_ofX (l := PySem.Challenge.rw_unlookedlists_k09_rows_and_names) (n := 63) (k := 71) (x := "_law_script") rfl (by decide) (by kernel_rfl) ⟨rfl, by decide, by decide⟩ ?F
    intro w mg fa h Y G hmg0
    obtain ⟨K, KX, c, TF⟩ := Y
    have hmg : mg ("law" : PySem.Str) = some (.ref fa) := by
      have e : (HandSHeadRun.topDef (OpenLaw.row PySem.Challenge.rw_unlookedlists_k09_rows_and_names).prog 66).name = ("law" : PySem.Str) := by kernel_rfl
      rw [← e]
      exact hmg0
    exact LWF KX TF G hmg c
end
namespace LW
open PySem PySem.Spec PyProof.Rows L2 DL
theorem sc_arms_of : FnScope N_arms_of P_arms_of (defScope s_arms_of) := ⟨rfl, rfl, rfl, by decide +kernel, rfl, by decide +kernel, by decide +kernel⟩
theorem sc_count_parts : FnScope N_count_parts P_count_parts (defScope s_count_parts) := ⟨rfl, rfl, rfl, by decide +kernel, rfl, by decide +kernel, by decide +kernel⟩
theorem sc_depth_of : FnScope N_depth_of P_depth_of (defScope s_depth_of) := ⟨rfl, rfl, rfl, by decide +kernel, rfl, by decide +kernel, by decide +kernel⟩
theorem sc_uses_of : FnScope N_uses_of P_uses_of (defScope s_uses_of) := ⟨rfl, rfl, rfl, by decide +kernel, rfl, by decide +kernel, by decide +kernel⟩
theorem sc_names_of : FnScope N_names_of P_names_of (defScope s_names_of) := ⟨rfl, rfl, rfl, by decide +kernel, rfl, by decide +kernel, by decide +kernel⟩
theorem sc_mixed_name : FnScope N_mixed_name P_mixed_name (defScope s_mixed_name) := ⟨rfl, rfl, rfl, by decide +kernel, rfl, by decide +kernel, by decide +kernel⟩
theorem sc_Numbers___init__ : FnScope N_Numbers___init__ P_Numbers___init__ (defScope s_Numbers___init__) := ⟨rfl, rfl, rfl, by decide +kernel, rfl, by decide +kernel, by decide +kernel⟩
theorem sc_Numbers_regular : FnScope N_Numbers_regular P_Numbers_regular (defScope s_Numbers_regular) := ⟨rfl, rfl, rfl, by decide +kernel, rfl, by decide +kernel, by decide +kernel⟩
theorem sc_Numbers_enough : FnScope N_Numbers_enough P_Numbers_enough (defScope s_Numbers_enough) := ⟨rfl, rfl, rfl, by decide +kernel, rfl, by decide +kernel, by decide +kernel⟩
theorem sc_Numbers___or__ : FnScope N_Numbers___or__ P_Numbers___or__ (defScope s_Numbers___or__) := ⟨rfl, rfl, rfl, by decide +kernel, rfl, by decide +kernel, by decide +kernel⟩
theorem sc_rounded_up : FnScope N_rounded_up P_rounded_up (defScope s_rounded_up) := ⟨rfl, rfl, rfl, by decide +kernel, rfl, by decide +kernel, by decide +kernel⟩
theorem sc_behind_cut : FnScope N_behind_cut P_behind_cut (defScope s_behind_cut) := ⟨rfl, rfl, rfl, by decide +kernel, rfl, by decide +kernel, by decide +kernel⟩
theorem sc_behind_each : FnScope N_behind_each P_behind_each (defScope s_behind_each) := ⟨rfl, rfl, rfl, by decide +kernel, rfl, by decide +kernel, by decide +kernel⟩
theorem sc_behind_times : FnScope N_behind_times P_behind_times (defScope s_behind_times) := ⟨rfl, rfl, rfl, by decide +kernel, rfl, by decide +kernel, by decide +kernel⟩
theorem sc_behind_again : FnScope N_behind_again P_behind_again (defScope s_behind_again) := ⟨rfl, rfl, rfl, by decide +kernel, rfl, by decide +kernel, by decide +kernel⟩
theorem sc_behind_turn : FnScope N_behind_turn P_behind_turn (defScope s_behind_turn) := ⟨rfl, rfl, rfl, by decide +kernel, rfl, by decide +kernel, by decide +kernel⟩
theorem sc_behind_arms : FnScope N_behind_arms P_behind_arms (defScope s_behind_arms) := ⟨rfl, rfl, rfl, by decide +kernel, rfl, by decide +kernel, by decide +kernel⟩
theorem sc_checked : FnScope N_checked P_checked (defScope s_checked) := ⟨rfl, rfl, rfl, by decide +kernel, rfl, by decide +kernel, by decide +kernel⟩
theorem sc_behind : FnScope N_behind P_behind (defScope s_behind) := ⟨rfl, rfl, rfl, by decide +kernel, rfl, by decide +kernel, by decide +kernel⟩
theorem sc_measured : FnScope N_measured P_measured (defScope s_measured) := ⟨rfl, rfl, rfl, by decide +kernel, rfl, by decide +kernel, by decide +kernel⟩
theorem sc_tokens_of : FnScope N_tokens_of P_tokens_of (defScope s_tokens_of) := ⟨rfl, rfl, rfl, by decide +kernel, rfl, by decide +kernel, by decide +kernel⟩
theorem sc_number_of : FnScope N_number_of P_number_of (defScope s_number_of) := ⟨rfl, rfl, rfl, by decide +kernel, rfl, by decide +kernel, by decide +kernel⟩
theorem sc_is_name : FnScope N_is_name P_is_name (defScope s_is_name) := ⟨rfl, rfl, rfl, by decide +kernel, rfl, by decide +kernel, by decide +kernel⟩
theorem sc_Reader___init__ : FnScope N_Reader___init__ P_Reader___init__ (defScope s_Reader___init__) := ⟨rfl, rfl, rfl, by decide +kernel, rfl, by decide +kernel, by decide +kernel⟩
theorem sc_Reader_token : FnScope N_Reader_token P_Reader_token (defScope s_Reader_token) := ⟨rfl, rfl, rfl, by decide +kernel, rfl, by decide +kernel, by decide +kernel⟩
theorem sc_Reader_number : FnScope N_Reader_number P_Reader_number (defScope s_Reader_number) := ⟨rfl, rfl, rfl, by decide +kernel, rfl, by decide +kernel, by decide +kernel⟩
theorem sc_Reader_name : FnScope N_Reader_name P_Reader_name (defScope s_Reader_name) := ⟨rfl, rfl, rfl, by decide +kernel, rfl, by decide +kernel, by decide +kernel⟩
theorem sc_Reader_sign : FnScope N_Reader_sign P_Reader_sign (defScope s_Reader_sign) := ⟨rfl, rfl, rfl, by decide +kernel, rfl, by decide +kernel, by decide +kernel⟩
theorem sc_Reader_whole_row : FnScope N_Reader_whole_row P_Reader_whole_row (defScope s_Reader_whole_row) := ⟨rfl, rfl, rfl, by decide +kernel, rfl, by decide +kernel, by decide +kernel⟩
theorem sc_Reader_row : FnScope N_Reader_row P_Reader_row (defScope s_Reader_row) := ⟨rfl, rfl, rfl, by decide +kernel, rfl, by decide +kernel, by decide +kernel⟩
theorem sc_Reader_arm : FnScope N_Reader_arm P_Reader_arm (defScope s_Reader_arm) := ⟨rfl, rfl, rfl, by decide +kernel, rfl, by decide +kernel, by decide +kernel⟩
theorem sc_Reader_part : FnScope N_Reader_part P_Reader_part (defScope s_Reader_part) := ⟨rfl, rfl, rfl, by decide +kernel, rfl, by decide +kernel, by decide +kernel⟩
theorem sc_Reader_cut : FnScope N_Reader_cut P_Reader_cut (defScope s_Reader_cut) := ⟨rfl, rfl, rfl, by decide +kernel, rfl, by decide +kernel, by decide +kernel⟩
theorem sc_Reader_other : FnScope N_Reader_other P_Reader_other (defScope s_Reader_other) := ⟨rfl, rfl, rfl, by decide +kernel, rfl, by decide +kernel, by decide +kernel⟩
theorem sc_Reader_name_list : FnScope N_Reader_name_list P_Reader_name_list (defScope s_Reader_name_list) := ⟨rfl, rfl, rfl, by decide +kernel, rfl, by decide +kernel, by decide +kernel⟩
theorem sc_row_of : FnScope N_row_of P_row_of (defScope s_row_of) := ⟨rfl, rfl, rfl, by decide +kernel, rfl, by decide +kernel, by decide +kernel⟩
theorem sc_text_of_part : FnScope N_text_of_part P_text_of_part (defScope s_text_of_part) := ⟨rfl, rfl, rfl, by decide +kernel, rfl, by decide +kernel, by decide +kernel⟩
theorem sc_text_of : FnScope N_text_of P_text_of (defScope s_text_of) := ⟨rfl, rfl, rfl, by decide +kernel, rfl, by decide +kernel, by decide +kernel⟩
theorem sc_measured_program : FnScope N_measured_program P_measured_program (defScope s_measured_program) := ⟨rfl, rfl, rfl, by decide +kernel, rfl, by decide +kernel, by decide +kernel⟩
theorem sc_Program___init__ : FnScope N_Program___init__ P_Program___init__ (defScope s_Program___init__) := ⟨rfl, rfl, rfl, by decide +kernel, rfl, by decide +kernel, by decide +kernel⟩
theorem sc_Program_read : FnScope N_Program_read P_Program_read (defScope s_Program_read) := ⟨rfl, rfl, rfl, by decide +kernel, rfl, by decide +kernel, by decide +kernel⟩
theorem sc_Program_text : FnScope N_Program_text P_Program_text (defScope s_Program_text) := ⟨rfl, rfl, rfl, by decide +kernel, rfl, by decide +kernel, by decide +kernel⟩
theorem sc_Program_row_texts : FnScope N_Program_row_texts P_Program_row_texts (defScope s_Program_row_texts) := ⟨rfl, rfl, rfl, by decide +kernel, rfl, by decide +kernel, by decide +kernel⟩
theorem sc_Program_names : FnScope N_Program_names P_Program_names (defScope s_Program_names) := ⟨rfl, rfl, rfl, by decide +kernel, rfl, by decide +kernel, by decide +kernel⟩
theorem sc_Program_parts : FnScope N_Program_parts P_Program_parts (defScope s_Program_parts) := ⟨rfl, rfl, rfl, by decide +kernel, rfl, by decide +kernel, by decide +kernel⟩
theorem sc_Program___len__ : FnScope N_Program___len__ P_Program___len__ (defScope s_Program___len__) := ⟨rfl, rfl, rfl, by decide +kernel, rfl, by decide +kernel, by decide +kernel⟩
theorem sc_Program___iter__ : FnScope N_Program___iter__ P_Program___iter__ (defScope s_Program___iter__) := ⟨rfl, rfl, rfl, by decide +kernel, rfl, by decide +kernel, by decide +kernel⟩
theorem sc_Program___contains__ : FnScope N_Program___contains__ P_Program___contains__ (defScope s_Program___contains__) := ⟨rfl, rfl, rfl, by decide +kernel, rfl, by decide +kernel, by decide +kernel⟩
theorem sc__law_draws : FnScope N__law_draws P__law_draws (defScope s__law_draws) := ⟨rfl, rfl, rfl, by decide +kernel, rfl, by decide +kernel, by decide +kernel⟩
theorem sc__law_name : FnScope N__law_name P__law_name (defScope s__law_name) := ⟨rfl, rfl, rfl, by decide +kernel, rfl, by decide +kernel, by decide +kernel⟩
theorem sc__law_once : FnScope N__law_once P__law_once (defScope s__law_once) := ⟨rfl, rfl, rfl, by decide +kernel, rfl, by decide +kernel, by decide +kernel⟩
theorem sc__law_part : FnScope N__law_part P__law_part (defScope s__law_part) := ⟨rfl, rfl, rfl, by decide +kernel, rfl, by decide +kernel, by decide +kernel⟩
theorem sc__law_right : FnScope N__law_right P__law_right (defScope s__law_right) := ⟨rfl, rfl, rfl, by decide +kernel, rfl, by decide +kernel, by decide +kernel⟩
theorem sc_law : FnScope N_law P_law (defScope s_law) := ⟨rfl, rfl, rfl, by decide +kernel, rfl, by decide +kernel, by decide +kernel⟩
noncomputable section
variable {w : World} {K : PySem.W.Frag} {mg : Str → Option Value} {base : Heap}
theorem ex_TooLarge (T : TT K mg base) : ExOk P w K mg base "TooLarge" "self" ["what"] := by
  obtain ⟨cc, c, I, h1, h2, h3⟩ := T.exc P 7 (d := dy_ex_TooLarge) rfl rfl rfl (by kernel_rfl)
  obtain ⟨fd, Fo, oc, od, osl, doc, pm, ctv, rfl, lk⟩ := init_one (k := 0) (w := w) (mg := mg) (base := base) (CX := L2.CX P w) rfl I ⟨(show NdefX.NScope _ _ _ dy_ex_TooLarge.scope from NdefX.nscope_by (by decide +kernel)), (show List.lookup _ dy_ex_TooLarge.scope.names = _ from by decide +kernel), ⟨_, rfl, rfl⟩, fun _ _ => rfl, fun _ _ => rfl, fun _ _ => ⟨_, rfl⟩, fun _ _ => rfl⟩ (T.free 15) (h3 "what" (by simp [dy_ex_TooLarge])) (fun _ _ => rfl) (by decide) (by decide) (by decide) (by decide)
  exact ⟨⟨_, Fo, Binds.all fun us hl => match us, hl with | [_, _], _ => rfl⟩, I.oex, h1, h2⟩
theorem ex_BadText (T : TT K mg base) : ExOk P w K mg base "BadText" "self" ["place"] := by
  obtain ⟨cc, c, I, h1, h2, h3⟩ := T.exc P 8 (d := dy_ex_BadText) rfl rfl rfl (by kernel_rfl)
  obtain ⟨fd, Fo, oc, od, osl, doc, pm, ctv, rfl, lk⟩ := init_one (k := 0) (w := w) (mg := mg) (base := base) (CX := L2.CX P w) rfl I ⟨(show NdefX.NScope _ _ _ dy_ex_BadText.scope from NdefX.nscope_by (by decide +kernel)), (show List.lookup _ dy_ex_BadText.scope.names = _ from by decide +kernel), ⟨_, rfl, rfl⟩, fun _ _ => rfl, fun _ _ => rfl, fun _ _ => ⟨_, rfl⟩, fun _ _ => rfl⟩ (T.free 15) (h3 "place" (by simp [dy_ex_BadText])) (fun _ _ => rfl) (by decide) (by decide) (by decide) (by decide)
  exact ⟨⟨_, Fo, Binds.all fun us hl => match us, hl with | [_, _], _ => rfl⟩, I.oex, h1, h2⟩
theorem ex_MixedName (T : TT K mg base) : ExOk P w K mg base "MixedName" "self" ["name"] := by
  obtain ⟨cc, c, I, h1, h2, h3⟩ := T.exc P 9 (d := dy_ex_MixedName) rfl rfl rfl (by kernel_rfl)
  obtain ⟨fd, Fo, oc, od, osl, doc, pm, ctv, rfl, lk⟩ := init_one (k := 0) (w := w) (mg := mg) (base := base) (CX := L2.CX P w) rfl I ⟨(show NdefX.NScope _ _ _ dy_ex_MixedName.scope from NdefX.nscope_by (by decide +kernel)), (show List.lookup _ dy_ex_MixedName.scope.names = _ from by decide +kernel), ⟨_, rfl, rfl⟩, fun _ _ => rfl, fun _ _ => rfl, fun _ _ => ⟨_, rfl⟩, fun _ _ => rfl⟩ (T.free 15) (h3 "name" (by simp [dy_ex_MixedName])) (fun _ _ => rfl) (by decide) (by decide) (by decide) (by decide)
  exact ⟨⟨_, Fo, Binds.all fun us hl => match us, hl with | [_, _], _ => rfl⟩, I.oex, h1, h2⟩
-- not said: Numbers___or__: name NotImplemented
def b_arms_of : FS := (fSeq (fIfS (fTest (fB dIn (fB dIx (fVar 0) (fC (.int 0))) (fC k_ARM_WORDS))) (fRet (fTup (fCons (fB dIx (fVar 0) (fU dNeg (fC (.int 2)))) (fCons (fB dIx (fVar 0) (fU dNeg (fC (.int 1)))) fNil)))) fSkip) (fRet (fTup fNil)))
def m_arms_of : List D → R D := runD 1 b_arms_of
theorem ok_arms_of (T : TT K mg base) : FnG P w K mg base 1 (He.ga K "arms_of") 1 m_arms_of := by
  obtain ⟨fd, Fd⟩ := T.def_ 0 (d := dd_arms_of) rfl
  exact fng_of (N := N_arms_of) Fd sc_arms_of (FunD.bindsN Fd fun _ _ _ _ _ _ us hl => match us, hl with | [_], _ => rfl) (fun cdv A outer s e0 H E B tk => (dss_cons (ds_if (db_cmp (opd_in B.hu) (de_ix (ixd_all B.hu) (de_var 0) de_int (fun _ _ => rfl)) (de_ktup (zs := z_ARM_WORDS) (T.ktup 0) (T.glo 1) rfl) (by with_unfolding_all rfl)) (dss_one (ds_ret (de_tup (da_cons (de_ix (ixd_all B.hu) (de_var 0) (de_un und_neg de_int) (fun _ _ => rfl)) (da_cons (de_ix (ixd_all B.hu) (de_var 0) (de_un und_neg de_int) (fun _ _ => rfl)) da_nil))))) dss_nil) (dss_one (ds_ret (de_tup da_nil)))))
def l1_count_parts (r_count_parts : List D → R D) : FS := (fSet 1 (fB dAdd (fVar 1) (fCall r_count_parts (fCons (fVar 3) fNil))))
def l2_count_parts (r_count_parts : List D → R D) : FS := (fSeq (fIfS (fTest (fB dEq (fB dIx (fVar 2) (fC (.int 0))) (fC (.str "map")))) (fSet 1 (fB dAdd (fVar 1) (fL dLen (fCons (fB dIx (fVar 2) (fC (.int 1))) fNil)))) (fSet 1 (fB dAdd (fVar 1) (fC (.int 1))))) (fFor (fItems (fCall m_arms_of (fCons (fVar 2) fNil))) (pName 3) (l1_count_parts r_count_parts)))
def b_count_parts (r_count_parts : List D → R D) : FS := (fSeq (fSet 1 (fC (.int 0))) (fSeq (fFor (fItems (fVar 0)) (pName 2) (l2_count_parts r_count_parts)) (fRet (fVar 1))))
def m_count_parts : Nat → List D → R D
  | 0 => fun _ => .bad
  | n + 1 => runD 4 (b_count_parts (m_count_parts n))
theorem st_count_parts (T : TT K mg base) {n : Nat} (hn : 0 ≤ n) {r_count_parts : List D → R D} (h_count_parts : FnG P w K mg base (1 + n) (He.ga K "count_parts") 1 r_count_parts) : FnG P w K mg base (1 + n + 1) (He.ga K "count_parts") 1 (runD 4 (b_count_parts r_count_parts)) := by
  obtain ⟨fd, Fd⟩ := T.def_ 1 (d := dd_count_parts) rfl
  exact fng_of (N := N_count_parts) Fd sc_count_parts (FunD.bindsN Fd fun _ _ _ _ _ _ us hl => match us, hl with | [_], _ => rfl) (fun cdv A outer s e0 H E B tk => (dss_cons (ds_set (i := 1) sc_count_parts.nd rfl (by first | exact .inl rfl | exact .inr rfl) de_int) (dss_cons (ds_for B.own B.calm (di_seq (de_var 0)) (dg_name 2 sc_count_parts.nd rfl (by first | exact .inl rfl | exact .inr rfl)) (dss_cons (ds_if (db_cmp (opd_eq B.hu64) (de_ix (ixd_all B.hu) (de_var 2) de_int (fun _ _ => rfl)) de_str (nomark _)) (dss_one (ds_set (i := 1) sc_count_parts.nd rfl (by first | exact .inl rfl | exact .inr rfl) (de_op opd_add (de_var 1) (de_callB cd_len rfl (T.free 2) (by decide +kernel) (da_cons (de_ix (ixd_all B.hu) (de_var 2) de_int (fun _ _ => rfl)) da_nil))))) (dss_one (ds_set (i := 1) sc_count_parts.nd rfl (by first | exact .inl rfl | exact .inr rfl) (de_op opd_add (de_var 1) de_int)))) (dss_one (ds_for B.own B.calm (di_seq (de_call ((ok_arms_of T).mono (by omega)) B rfl (T.glo 3) (T.kp 0 (d := dd_arms_of)) (da_cons (de_var 2) da_nil))) (dg_name 3 sc_count_parts.nd rfl (by first | exact .inl rfl | exact .inr rfl)) (dss_one (ds_set (i := 1) sc_count_parts.nd rfl (by first | exact .inl rfl | exact .inr rfl) (de_op opd_add (de_var 1) (de_call h_count_parts B rfl (T.glo 4) (T.kp 1 (d := dd_count_parts)) (da_cons (de_var 3) da_nil))))))))) (dss_one (ds_ret (de_var 1))))))
theorem all_count_parts (T : TT K mg base) : ∀ n : Nat, FnG P w K mg base (1 + n) (He.ga K "count_parts") 1 (m_count_parts n)
  | 0 => fng_zero
  | n + 1 => by
    have ih := all_count_parts T n
    exact st_count_parts T (Nat.zero_le _) ih
theorem ok_count_parts (T : TT K mg base) (n : Nat) : FnG P w K mg base (1 + n) (He.ga K "count_parts") 1 (m_count_parts n) := (all_count_parts T n)
def l1_depth_of (r_depth_of : List D → R D) : FS := (fSet 1 (fL dMax2 (fCons (fVar 1) (fCons (fB dAdd (fC (.int 1)) (fCall r_depth_of (fCons (fVar 3) fNil))) fNil))))
def l2_depth_of (r_depth_of : List D → R D) : FS := (fFor (fItems (fCall m_arms_of (fCons (fVar 2) fNil))) (pName 3) (l1_depth_of r_depth_of))
def b_depth_of (r_depth_of : List D → R D) : FS := (fSeq (fSet 1 (fC (.int 0))) (fSeq (fFor (fItems (fVar 0)) (pName 2) (l2_depth_of r_depth_of)) (fRet (fVar 1))))
def m_depth_of : Nat → List D → R D
  | 0 => fun _ => .bad
  | n + 1 => runD 4 (b_depth_of (m_depth_of n))
theorem st_depth_of (T : TT K mg base) {n : Nat} (hn : 0 ≤ n) {r_depth_of : List D → R D} (h_depth_of : FnG P w K mg base (1 + n) (He.ga K "depth_of") 1 r_depth_of) : FnG P w K mg base (1 + n + 1) (He.ga K "depth_of") 1 (runD 4 (b_depth_of r_depth_of)) := by
  obtain ⟨fd, Fd⟩ := T.def_ 2 (d := dd_depth_of) rfl
  exact fng_of (N := N_depth_of) Fd sc_depth_of (FunD.bindsN Fd fun _ _ _ _ _ _ us hl => match us, hl with | [_], _ => rfl) (fun cdv A outer s e0 H E B tk => (dss_cons (ds_set (i := 1) sc_depth_of.nd rfl (by first | exact .inl rfl | exact .inr rfl) de_int) (dss_cons (ds_for B.own B.calm (di_seq (de_var 0)) (dg_name 2 sc_depth_of.nd rfl (by first | exact .inl rfl | exact .inr rfl)) (dss_one (ds_for B.own B.calm (di_seq (de_call ((ok_arms_of T).mono (by omega)) B rfl (T.glo 3) (T.kp 0 (d := dd_arms_of)) (da_cons (de_var 2) da_nil))) (dg_name 3 sc_depth_of.nd rfl (by first | exact .inl rfl | exact .inr rfl)) (dss_one (ds_set (i := 1) sc_depth_of.nd rfl (by first | exact .inl rfl | exact .inr rfl) (de_callB (cd_max2 B.calm) rfl (T.free 6) (by decide +kernel) (da_cons (de_var 1) (da_cons (de_op opd_add de_int (de_call h_depth_of B rfl (T.glo 5) (T.kp 2 (d := dd_depth_of)) (da_cons (de_var 3) da_nil))) da_nil)))))))) (dss_one (ds_ret (de_var 1))))))
theorem all_depth_of (T : TT K mg base) : ∀ n : Nat, FnG P w K mg base (1 + n) (He.ga K "depth_of") 1 (m_depth_of n)
  | 0 => fng_zero
  | n + 1 => by
    have ih := all_depth_of T n
    exact st_depth_of T (Nat.zero_le _) ih
theorem ok_depth_of (T : TT K mg base) (n : Nat) : FnG P w K mg base (1 + n) (He.ga K "depth_of") 1 (m_depth_of n) := (all_depth_of T n)
def l1_uses_of (r_uses_of : List D → R D) : FS := (fExt 1 (fCall r_uses_of (fCons (fVar 4) fNil)))
def l2_uses_of (r_uses_of : List D → R D) : FS := (fSeq (fIfS (fTest (fB dEq (fB dIx (fVar 2) (fC (.int 0))) (fC (.str "put")))) (fApp 1 (fTup (fCons (fB dIx (fVar 2) (fC (.int 1))) (fCons (fC (.int 0)) fNil)))) fSkip) (fSeq (fIfS (fTest (fB dEq (fB dIx (fVar 2) (fC (.int 0))) (fC (.str "map")))) (fExt 1 (fLc (fItems (fB dIx (fVar 2) (fC (.int 1)))) 3 fYes (fTup (fCons (fVar 3) (fCons (fC (.int 1)) fNil))))) fSkip) (fSeq (fIfS (fTest (fB dEq (fB dIx (fVar 2) (fC (.int 0))) (fC (.str "pair")))) (fApp 1 (fTup (fCons (fB dIx (fVar 2) (fC (.int 1))) (fCons (fC (.int 2)) fNil)))) fSkip) (fFor (fItems (fCall m_arms_of (fCons (fVar 2) fNil))) (pName 4) (l1_uses_of r_uses_of)))))
def b_uses_of (r_uses_of : List D → R D) : FS := (fSeq (fNew 1 fNil) (fSeq (fFor (fItems (fVar 0)) (pName 2) (l2_uses_of r_uses_of)) (fFrz 1 (fRet (fVar 1)))))
def m_uses_of : Nat → List D → R D
  | 0 => fun _ => .bad
  | n + 1 => runD 5 (b_uses_of (m_uses_of n))
theorem st_uses_of (T : TT K mg base) {n : Nat} (hn : 0 ≤ n) {r_uses_of : List D → R D} (h_uses_of : FnG P w K mg base (1 + n) (He.ga K "uses_of") 1 r_uses_of) : FnG P w K mg base (1 + n + 1) (He.ga K "uses_of") 1 (runD 5 (b_uses_of r_uses_of)) := by
  obtain ⟨fd, Fd⟩ := T.def_ 3 (d := dd_uses_of) rfl
  exact fng_of (N := N_uses_of) Fd sc_uses_of (FunD.bindsN Fd fun _ _ _ _ _ _ us hl => match us, hl with | [_], _ => rfl) (fun cdv A outer s e0 H E B tk => (dss_cons (ds_new (i := 1) sc_uses_of.nd rfl (by first | exact .inl rfl | exact .inr rfl) da_nil) (dss_cons (ds_for B.own B.calm (di_seq (de_var 0)) (dg_name 2 sc_uses_of.nd rfl (by first | exact .inl rfl | exact .inr rfl)) (dss_cons (ds_if (db_cmp (opd_eq B.hu64) (de_ix (ixd_all B.hu) (de_var 2) de_int (fun _ _ => rfl)) de_str (nomark _)) (dss_one (ds_app (i := 1) (fun _ h => pe_bm PySem.F.plainAttrs_list PySem.F.slot_list_append PySem.F.type_list_append mt_append (pv 1) h) (de_tup (da_cons (de_ix (ixd_all B.hu) (de_var 2) de_int (fun _ _ => rfl)) (da_cons de_int da_nil))))) dss_nil) (dss_cons (ds_if (db_cmp (opd_eq B.hu64) (de_ix (ixd_all B.hu) (de_var 2) de_int (fun _ _ => rfl)) de_str (nomark _)) (dss_one (ds_ext (i := 1) (fun _ h => pe_bm PySem.F.plainAttrs_list PySem.F.slot_list_extend PySem.F.type_list_extend mt_extend (pv 1) h) (de_lc B.calm sc_uses_of.nd (di_seq (de_ix (ixd_all B.hu) (de_var 2) de_int (fun _ _ => rfl))) (own := [("name", 3)]) (blkOk_by (N := N_uses_of) (sc := defScope s_uses_of) (by decide +kernel)) rfl (fun _ _ _ _ _ => pg_name (i := 3) sc_uses_of.nd rfl (Or.inl rfl)) (fun _ _ _ _ _ => dts_nil) (fun _ _ _ _ _ => (de_tup (da_cons (de_var 3) (da_cons de_int da_nil))))))) dss_nil) (dss_cons (ds_if (db_cmp (opd_eq B.hu64) (de_ix (ixd_all B.hu) (de_var 2) de_int (fun _ _ => rfl)) de_str (nomark _)) (dss_one (ds_app (i := 1) (fun _ h => pe_bm PySem.F.plainAttrs_list PySem.F.slot_list_append PySem.F.type_list_append mt_append (pv 1) h) (de_tup (da_cons (de_ix (ixd_all B.hu) (de_var 2) de_int (fun _ _ => rfl)) (da_cons de_int da_nil))))) dss_nil) (dss_one (ds_for B.own B.calm (di_seq (de_call ((ok_arms_of T).mono (by omega)) B rfl (T.glo 3) (T.kp 0 (d := dd_arms_of)) (da_cons (de_var 2) da_nil))) (dg_name 4 sc_uses_of.nd rfl (by first | exact .inl rfl | exact .inr rfl)) (dss_one (ds_ext (i := 1) (fun _ h => pe_bm PySem.F.plainAttrs_list PySem.F.slot_list_extend PySem.F.type_list_extend mt_extend (pv 1) h) (de_call h_uses_of B rfl (T.glo 7) (T.kp 3 (d := dd_uses_of)) (da_cons (de_var 4) da_nil)))))))))) (dss_frz 1 (dss_one (ds_ret (de_var 1)))))))
theorem all_uses_of (T : TT K mg base) : ∀ n : Nat, FnG P w K mg base (1 + n) (He.ga K "uses_of") 1 (m_uses_of n)
  | 0 => fng_zero
  | n + 1 => by
    have ih := all_uses_of T n
    exact st_uses_of T (Nat.zero_le _) ih
theorem ok_uses_of (T : TT K mg base) (n : Nat) : FnG P w K mg base (1 + n) (He.ga K "uses_of") 1 (m_uses_of n) := (all_uses_of T n)
def l1_names_of : FS := (fIfS (fTest (fInOw true (fVar 2) 1)) (fApp 1 (fVar 2)) fSkip)
def b_names_of : FS := (fSeq (fNew 1 fNil) (fSeq (fFor (fItems (fCall (m_uses_of 60) (fCons (fVar 0) fNil))) (pTup 2 (pCons (pName 2) (pCons (pName 3) pNil))) l1_names_of) (fFrz 1 (fRet (fVar 1)))))
def m_names_of : List D → R D := runD 4 b_names_of
theorem ok_names_of (T : TT K mg base) : FnG P w K mg base 62 (He.ga K "names_of") 1 m_names_of := by
  obtain ⟨fd, Fd⟩ := T.def_ 4 (d := dd_names_of) rfl
  exact fng_of (N := N_names_of) Fd sc_names_of (FunD.bindsN Fd fun _ _ _ _ _ _ us hl => match us, hl with | [_], _ => rfl) (fun cdv A outer s e0 H E B tk => (dss_cons (ds_new (i := 1) sc_names_of.nd rfl (by first | exact .inl rfl | exact .inr rfl) da_nil) (dss_cons (ds_for B.own B.calm (di_seq (de_call ((ok_uses_of T 60).mono (by decide)) B rfl (T.glo 7) (T.kp 3 (d := dd_uses_of)) (da_cons (de_var 0) da_nil))) (dg_tup B.calm (dgs_cons (dg_name 2 sc_names_of.nd rfl (by first | exact .inl rfl | exact .inr rfl)) (dgs_cons (dg_name 3 sc_names_of.nd rfl (by first | exact .inl rfl | exact .inr rfl)) dgs_nil))) (dss_one (ds_if (db_ninOw 1 (de_var 2)) (dss_one (ds_app (i := 1) (fun _ h => pe_bm PySem.F.plainAttrs_list PySem.F.slot_list_append PySem.F.type_list_append mt_append (pv 1) h) (de_var 2))) dss_nil))) (dss_frz 1 (dss_one (ds_ret (de_var 1)))))))
def l1_mixed_name : FS := (fIfX (fCmpX dNe (fSetd 1 (fVar 2) (fVar 3)) (fVar 3)) (fRet (fVar 2)) fSkip)
def b_mixed_name : FS := (fSeq (fNewD 1) (fSeq (fFor (fItems (fCall (m_uses_of 60) (fCons (fVar 0) fNil))) (pTup 2 (pCons (pName 2) (pCons (pName 3) pNil))) l1_mixed_name) (fRet (fC .non))))
def m_mixed_name : List D → R D := runD 4 b_mixed_name
theorem ok_mixed_name (T : TT K mg base) : FnG P w K mg base 62 (He.ga K "mixed_name") 1 m_mixed_name := by
  obtain ⟨fd, Fd⟩ := T.def_ 5 (d := dd_mixed_name) rfl
  exact fng_of (N := N_mixed_name) Fd sc_mixed_name (FunD.bindsN Fd fun _ _ _ _ _ _ us hl => match us, hl with | [_], _ => rfl) (fun cdv A outer s e0 H E B tk => (dss_cons (ds_newD (i := 1) sc_mixed_name.nd rfl (by first | exact .inl rfl | exact .inr rfl)) (dss_cons (ds_for B.own B.calm (di_seq (de_call ((ok_uses_of T 60).mono (by decide)) B rfl (T.glo 7) (T.kp 3 (d := dd_uses_of)) (da_cons (de_var 0) da_nil))) (dg_tup B.calm (dgs_cons (dg_name 2 sc_mixed_name.nd rfl (by first | exact .inl rfl | exact .inr rfl)) (dgs_cons (dg_name 3 sc_mixed_name.nd rfl (by first | exact .inl rfl | exact .inr rfl)) dgs_nil))) (dss_one (ds_ifX (dbx_cmp (opd_ne B.hu64) (dx_setd (i := 1) rfl (by first | exact Or.inl rfl | exact Or.inr (Or.inl rfl) | exact Or.inr (Or.inr rfl)) rfl rfl (de_var 2) (de_var 3) ⟨rfl, rfl, rfl, rfl⟩) (de_var 3) (nomark _)) (dss_one (ds_ret (de_var 2))) dss_nil))) (dss_one (ds_ret de_non)))))
theorem ok_Numbers___init__ (T : TT K mg base) : ∃ fd : FuncData, FnOk P w K mg base (L2.CX P w) 1 (He.ma K (He.ga K "Numbers") "__init__") fd P_Numbers___init__ (spSl K "Numbers" 8) ∧ FunD K dd_Numbers___init__.name dd_Numbers___init__.qual dd_Numbers___init__.params dd_Numbers___init__.body dd_Numbers___init__.scope (dd_Numbers___init__.dvs K) (dd_Numbers___init__.kws K) (He.fAd K dd_Numbers___init__.at_) fd ∧ True := by
  obtain ⟨fd, Fd⟩ := T.def_ 6 (d := dd_Numbers___init__) rfl
  exact ⟨fd, fnok_sl (N := N_Numbers___init__) (ps := P_Numbers___init__) Fd sc_Numbers___init__ rfl (fun cdv A outer s H E => (run_step (T.scls 1) (T.slot 9) (pv 0) (pv 1) (run_step (T.scls 1) (T.slot 8) (pv 0) (pv 2) (run_step (T.scls 1) (T.slot 7) (pv 0) (pv 3) (run_step (T.scls 1) (T.slot 6) (pv 0) (pv 4) (run_step (T.scls 1) (T.slot 5) (pv 0) (pv 5) (run_step (T.scls 1) (T.slot 4) (pv 0) (pv 6) (run_step (T.scls 1) (T.slot 3) (pv 0) (pv 7) (run_step (T.scls 1) (T.slot 2) (pv 0) (pv 8) (run_end rfl (by decide)) rfl) rfl) rfl) rfl) rfl) rfl) rfl) rfl)) rfl, Fd, trivial⟩
theorem kb_00000000 {fd : FuncData} (Fd : FunD K dd_Numbers___init__.name dd_Numbers___init__.qual dd_Numbers___init__.params dd_Numbers___init__.body dd_Numbers___init__.scope (dd_Numbers___init__.dvs K) (dd_Numbers___init__.kws K) (He.fAd K dd_Numbers___init__.at_) fd) : ∃ mv : List Value, KBn K fd P_Numbers___init__ 1 [] (fun us ws => us ++ mrg [false, false, false, false, false, false, false, false] mv ws) (fun vs zs => vs ++ mrg [false, false, false, false, false, false, false, false] (([1, 1, 1, 0, 1, 1, 1, 1] : List Int).map V.int) zs) := by
  refine FunD.kbinds0 Fd 1 [] [("period", V.int 1), ("divisor", V.int 1), ("modulus", V.int 1), ("spread", V.int 0), ("hop", V.int 1), ("echo", V.int 1), ("growth", V.int 1), ("leaves", V.int 1)] (fun vs ys zs => vs ++ mrg [false, false, false, false, false, false, false, false] ys zs) (fun z => by cases z) (fun q hq => List.Sublist.subset (show List.Sublist _ (dd_Numbers___init__.kws K) from .cons₂ _ (.cons₂ _ (.cons₂ _ (.cons₂ _ (.cons₂ _ (.cons₂ _ (.cons₂ _ (.cons₂ _ (.slnil))))))))) hq) (fun r1 r2 r3 => r1.append (mrg_vals [false, false, false, false, false, false, false, false] r2 r3)) ?_
  intro D doc pm an cdv ct us mv ws l1 l2 l3
  match us, mv, ws, l1, l2, l3 with
  | [u], [y0, y1, y2, y3, y4, y5, y6, y7], [], _, _, _ => exact ⟨_, _, _, _, _, _, rfl, rfl, ⟨_, _, _, _, _, _, rfl, rfl, ⟨_, _, _, _, _, _, rfl, rfl, ⟨_, _, _, _, _, _, rfl, rfl, ⟨_, _, _, _, _, _, rfl, rfl, ⟨_, _, _, _, _, _, rfl, rfl, ⟨_, _, _, _, _, _, rfl, rfl, ⟨_, _, _, _, _, _, rfl, rfl, rfl⟩⟩⟩⟩⟩⟩⟩⟩
theorem mk_00000000 {X : Cx} {E : Sg → XK} {k : Nat} {p pos : Pos} {kws : List Keyword} {fl : FL} (T : TT X.K X.mg X.base) (B : Bd X E k) (hr : Room 2 X.A) (hg : Gl X "Numbers") (hm : X.mg "Numbers" = some (.ref (He.ga X.K "Numbers"))) (hkw : DK X E kws fl) (hkl : kws.length = 0 := by rfl) (hall : (backToKw pos (keywordEach kws X.env)).all (·.1.isSome) = true := by rfl) (hks : (backToKw pos (keywordEach kws X.env)).filterMap (·.1) = ([] : List Str) := by rfl) (hP : X.prog = P := by rfl)
    (hpl : ((backTo pos (starEach [] X.env)).any (·.1) || (backToKw pos (keywordEach kws X.env)).any (·.1.isNone)) = false := by rfl) : DE X E (.Call (.Name "Numbers" p) [] kws pos) (fMakeSK "Numbers" 8 (gMrg [false, false, false, false, false, false, false, false] [1, 1, 1, 0, 1, 1, 1, 1]) fl) := by
  obtain ⟨fd, Fo, Fd, _⟩ := ok_Numbers___init__ (w := X.w) (base := X.base) T
  rw [← hP] at Fo
  obtain ⟨mv, hb⟩ := kb_00000000 Fd
  exact de_makeSK rfl (T.mkr 10) Fo hb (mrg_puts _ _ _) (hkl.trans rfl) hr B.pass hg hm hkw hall hks (by decide) hpl
theorem kb_00010000 {fd : FuncData} (Fd : FunD K dd_Numbers___init__.name dd_Numbers___init__.qual dd_Numbers___init__.params dd_Numbers___init__.body dd_Numbers___init__.scope (dd_Numbers___init__.dvs K) (dd_Numbers___init__.kws K) (He.fAd K dd_Numbers___init__.at_) fd) : ∃ mv : List Value, KBn K fd P_Numbers___init__ 1 ["spread"] (fun us ws => us ++ mrg [false, false, false, true, false, false, false, false] mv ws) (fun vs zs => vs ++ mrg [false, false, false, true, false, false, false, false] (([1, 1, 1, 1, 1, 1, 1] : List Int).map V.int) zs) := by
  refine FunD.kbinds0 Fd 1 ["spread"] [("period", V.int 1), ("divisor", V.int 1), ("modulus", V.int 1), ("hop", V.int 1), ("echo", V.int 1), ("growth", V.int 1), ("leaves", V.int 1)] (fun vs ys zs => vs ++ mrg [false, false, false, true, false, false, false, false] ys zs) (fun z => by cases z) (fun q hq => List.Sublist.subset (show List.Sublist _ (dd_Numbers___init__.kws K) from .cons₂ _ (.cons₂ _ (.cons₂ _ (.cons _ (.cons₂ _ (.cons₂ _ (.cons₂ _ (.cons₂ _ (.slnil))))))))) hq) (fun r1 r2 r3 => r1.append (mrg_vals [false, false, false, true, false, false, false, false] r2 r3)) ?_
  intro D doc pm an cdv ct us mv ws l1 l2 l3
  match us, mv, ws, l1, l2, l3 with
  | [u], [y0, y1, y2, y3, y4, y5, y6], [z0], _, _, _ => exact ⟨_, _, _, _, _, _, rfl, rfl, ⟨_, _, _, _, _, _, rfl, rfl, ⟨_, _, _, _, _, _, rfl, rfl, ⟨_, _, _, _, _, _, rfl, rfl, ⟨_, _, _, _, _, _, rfl, rfl, ⟨_, _, _, _, _, _, rfl, rfl, ⟨_, _, _, _, _, _, rfl, rfl, rfl⟩⟩⟩⟩⟩⟩⟩
theorem mk_00010000 {X : Cx} {E : Sg → XK} {k : Nat} {p pos : Pos} {kws : List Keyword} {fl : FL} (T : TT X.K X.mg X.base) (B : Bd X E k) (hr : Room 2 X.A) (hg : Gl X "Numbers") (hm : X.mg "Numbers" = some (.ref (He.ga X.K "Numbers"))) (hkw : DK X E kws fl) (hkl : kws.length = 1 := by rfl) (hall : (backToKw pos (keywordEach kws X.env)).all (·.1.isSome) = true := by rfl) (hks : (backToKw pos (keywordEach kws X.env)).filterMap (·.1) = (["spread"] : List Str) := by rfl) (hP : X.prog = P := by rfl)
    (hpl : ((backTo pos (starEach [] X.env)).any (·.1) || (backToKw pos (keywordEach kws X.env)).any (·.1.isNone)) = false := by rfl) : DE X E (.Call (.Name "Numbers" p) [] kws pos) (fMakeSK "Numbers" 8 (gMrg [false, false, false, true, false, false, false, false] [1, 1, 1, 1, 1, 1, 1]) fl) := by
  obtain ⟨fd, Fo, Fd, _⟩ := ok_Numbers___init__ (w := X.w) (base := X.base) T
  rw [← hP] at Fo
  obtain ⟨mv, hb⟩ := kb_00010000 Fd
  exact de_makeSK rfl (T.mkr 10) Fo hb (mrg_puts _ _ _) (hkl.trans rfl) hr B.pass hg hm hkw hall hks (by decide) hpl
theorem kb_11111111 {fd : FuncData} (Fd : FunD K dd_Numbers___init__.name dd_Numbers___init__.qual dd_Numbers___init__.params dd_Numbers___init__.body dd_Numbers___init__.scope (dd_Numbers___init__.dvs K) (dd_Numbers___init__.kws K) (He.fAd K dd_Numbers___init__.at_) fd) : ∃ mv : List Value, KBn K fd P_Numbers___init__ 1 ["period", "divisor", "modulus", "spread", "hop", "echo", "growth", "leaves"] (fun us ws => us ++ mrg [true, true, true, true, true, true, true, true] mv ws) (fun vs zs => vs ++ mrg [true, true, true, true, true, true, true, true] (([] : List Int).map V.int) zs) := by
  refine FunD.kbinds0 Fd 1 ["period", "divisor", "modulus", "spread", "hop", "echo", "growth", "leaves"] [] (fun vs ys zs => vs ++ mrg [true, true, true, true, true, true, true, true] ys zs) (fun z => by cases z) (fun q hq => List.Sublist.subset (show List.Sublist _ (dd_Numbers___init__.kws K) from .cons _ (.cons _ (.cons _ (.cons _ (.cons _ (.cons _ (.cons _ (.cons _ (.slnil))))))))) hq) (fun r1 r2 r3 => r1.append (mrg_vals [true, true, true, true, true, true, true, true] r2 r3)) ?_
  intro D doc pm an cdv ct us mv ws l1 l2 l3
  match us, mv, ws, l1, l2, l3 with
  | [u], [], [z0, z1, z2, z3, z4, z5, z6, z7], _, _, _ => exact rfl
theorem mk_11111111 {X : Cx} {E : Sg → XK} {k : Nat} {p pos : Pos} {kws : List Keyword} {fl : FL} (T : TT X.K X.mg X.base) (B : Bd X E k) (hr : Room 2 X.A) (hg : Gl X "Numbers") (hm : X.mg "Numbers" = some (.ref (He.ga X.K "Numbers"))) (hkw : DK X E kws fl) (hkl : kws.length = 8 := by rfl) (hall : (backToKw pos (keywordEach kws X.env)).all (·.1.isSome) = true := by rfl) (hks : (backToKw pos (keywordEach kws X.env)).filterMap (·.1) = (["period", "divisor", "modulus", "spread", "hop", "echo", "growth", "leaves"] : List Str) := by rfl) (hP : X.prog = P := by rfl)
    (hpl : ((backTo pos (starEach [] X.env)).any (·.1) || (backToKw pos (keywordEach kws X.env)).any (·.1.isNone)) = false := by rfl) : DE X E (.Call (.Name "Numbers" p) [] kws pos) (fMakeSK "Numbers" 8 (gMrg [true, true, true, true, true, true, true, true] []) fl) := by
  obtain ⟨fd, Fo, Fd, _⟩ := ok_Numbers___init__ (w := X.w) (base := X.base) T
  rw [← hP] at Fo
  obtain ⟨mv, hb⟩ := kb_11111111 Fd
  exact de_makeSK rfl (T.mkr 10) Fo hb (mrg_puts _ _ _) (hkl.trans rfl) hr B.pass hg hm hkw hall hks (by decide) hpl
def b_Numbers_regular : FS := (fRet (fB dAdd (fB dMul (fU (dSlot "Numbers" 1) (fVar 0)) (fB dAdd (fU (dSlot "Numbers" 3) (fVar 0)) (fB dMul (fC (.int 2)) (fU (dSlot "Numbers" 0) (fVar 0))))) (fC (.int 1))))
def m_Numbers_regular : List D → R D := runD 1 b_Numbers_regular
theorem ok_Numbers_regular (T : TT K mg base) : FnG P w K mg base 1 (recA K (He.ma K (He.ga K "Numbers") "regular") "property") 1 m_Numbers_regular := by
  obtain ⟨fd, Fd⟩ := T.defy 0 (d := dy_Numbers_regular) rfl
  exact fng_of (N := N_Numbers_regular) Fd sc_Numbers_regular (FunD.bindsN Fd fun _ _ _ _ _ _ us hl => match us, hl with | [_], _ => rfl) (fun cdv A outer s e0 H E B tk => (dss_one (ds_ret (de_op opd_add (de_op opd_mul (de_slot 1 rfl (T.scls 1) (T.slot 8) rfl (de_var 0)) (de_op opd_add (de_slot 3 rfl (T.scls 1) (T.slot 6) rfl (de_var 0)) (de_op opd_mul de_int (de_slot 0 rfl (T.scls 1) (T.slot 9) rfl (de_var 0))))) de_int))))
def b_Numbers_enough : FS := (fRet (fB dAdd (fProp "Numbers" m_Numbers_regular (fVar 0)) (fB dMul (fC (.int 2)) (fU (dSlot "Numbers" 2) (fVar 0)))))
def m_Numbers_enough : List D → R D := runD 1 b_Numbers_enough
theorem ok_Numbers_enough (T : TT K mg base) : FnG P w K mg base 3 (recA K (He.ma K (He.ga K "Numbers") "enough") "property") 1 m_Numbers_enough := by
  obtain ⟨fd, Fd⟩ := T.defy 1 (d := dy_Numbers_enough) rfl
  exact fng_of (N := N_Numbers_enough) Fd sc_Numbers_enough (FunD.bindsN Fd fun _ _ _ _ _ _ us hl => match us, hl with | [_], _ => rfl) (fun cdv A outer s e0 H E B tk => (dss_one (ds_ret (de_op opd_add (de_propS rfl (T.scls 1) (T.prop 10) (ok_Numbers_regular T) (B.room.mono (by decide)) (de_var 0)) (de_op opd_mul de_int (de_slot 2 rfl (T.scls 1) (T.slot 7) rfl (de_var 0)))))))
def b_Numbers___or__ : FS := (fSeq (fIfS (fNotB (fTest (fU (dIsC "Numbers") (fVar 1)))) fBad fSkip) (fSeq (fSet 2 (fL dLcm (fCons (fU (dSlot "Numbers" 0) (fVar 0)) (fCons (fU (dSlot "Numbers" 0) (fVar 1)) fNil)))) (fSeq (fSet 3 (fL dLcm (fCons (fU (dSlot "Numbers" 1) (fVar 0)) (fCons (fU (dSlot "Numbers" 1) (fVar 1)) fNil)))) (fRet (fMakeSK "Numbers" 8 (gMrg [true, true, true, true, true, true, true, true] []) (fCons (fVar 2) (fCons (fVar 3) (fCons (fL dLcm (fCons (fU (dSlot "Numbers" 2) (fVar 0)) (fCons (fU (dSlot "Numbers" 2) (fVar 1)) (fCons (fB dMul (fVar 3) (fVar 2)) fNil)))) (fCons (fB dAdd (fU (dSlot "Numbers" 3) (fVar 0)) (fU (dSlot "Numbers" 3) (fVar 1))) (fCons (fL dLcm (fCons (fU (dSlot "Numbers" 4) (fVar 0)) (fCons (fU (dSlot "Numbers" 4) (fVar 1)) fNil))) (fCons (fL dLcm (fCons (fU (dSlot "Numbers" 5) (fVar 0)) (fCons (fU (dSlot "Numbers" 5) (fVar 1)) fNil))) (fCons (fB dAdd (fU (dSlot "Numbers" 6) (fVar 0)) (fU (dSlot "Numbers" 6) (fVar 1))) (fCons (fL dMax2 (fCons (fU (dSlot "Numbers" 7) (fVar 0)) (fCons (fU (dSlot "Numbers" 7) (fVar 1)) fNil))) fNil)))))))))))))
def m_Numbers___or__ : List D → R D := runD 4 b_Numbers___or__
theorem ok_Numbers___or__ (T : TT K mg base) : FnG P w K mg base 3 (He.ma K (He.ga K "Numbers") "__or__") 2 m_Numbers___or__ := by
  obtain ⟨fd, Fd⟩ := T.def_ 7 (d := dd_Numbers___or__) rfl
  exact fng_of (N := N_Numbers___or__) Fd sc_Numbers___or__ (FunD.bindsN Fd fun _ _ _ _ _ _ us hl => match us, hl with | [_, _], _ => rfl) (fun cdv A outer s e0 H E B tk => (dss_cons (ds_if (db_not (db_val (de_isC (.inr ⟨rfl, (T.scls 1)⟩) (T.isi 11).1 (T.isi 11).2 rfl (T.free 8) rfl (T.glo 9) (de_var 1)))) (dss_bad) dss_nil) (dss_cons (ds_set (i := 2) sc_Numbers___or__.nd rfl (by first | exact .inl rfl | exact .inr rfl) (de_callM cd_lcm rfl (T.blt 12) (da_cons (de_slot 0 rfl (T.scls 1) (T.slot 9) rfl (de_var 0)) (da_cons (de_slot 0 rfl (T.scls 1) (T.slot 9) rfl (de_var 1)) da_nil)))) (dss_cons (ds_set (i := 3) sc_Numbers___or__.nd rfl (by first | exact .inl rfl | exact .inr rfl) (de_callM cd_lcm rfl (T.blt 12) (da_cons (de_slot 1 rfl (T.scls 1) (T.slot 8) rfl (de_var 0)) (da_cons (de_slot 1 rfl (T.scls 1) (T.slot 8) rfl (de_var 1)) da_nil)))) (dss_one (ds_ret (mk_11111111 T B (B.room.mono (by decide)) rfl (T.glo 9) (dk_cons (de_var 2) (dk_cons (de_var 3) (dk_cons (de_callM cd_lcm rfl (T.blt 12) (da_cons (de_slot 2 rfl (T.scls 1) (T.slot 7) rfl (de_var 0)) (da_cons (de_slot 2 rfl (T.scls 1) (T.slot 7) rfl (de_var 1)) (da_cons (de_op opd_mul (de_var 3) (de_var 2)) da_nil)))) (dk_cons (de_op opd_add (de_slot 3 rfl (T.scls 1) (T.slot 6) rfl (de_var 0)) (de_slot 3 rfl (T.scls 1) (T.slot 6) rfl (de_var 1))) (dk_cons (de_callM cd_lcm rfl (T.blt 12) (da_cons (de_slot 4 rfl (T.scls 1) (T.slot 5) rfl (de_var 0)) (da_cons (de_slot 4 rfl (T.scls 1) (T.slot 5) rfl (de_var 1)) da_nil))) (dk_cons (de_callM cd_lcm rfl (T.blt 12) (da_cons (de_slot 5 rfl (T.scls 1) (T.slot 4) rfl (de_var 0)) (da_cons (de_slot 5 rfl (T.scls 1) (T.slot 4) rfl (de_var 1)) da_nil))) (dk_cons (de_op opd_add (de_slot 6 rfl (T.scls 1) (T.slot 3) rfl (de_var 0)) (de_slot 6 rfl (T.scls 1) (T.slot 3) rfl (de_var 1))) (dk_cons (de_callB (cd_max2 B.calm) rfl (T.free 6) (by decide +kernel) (da_cons (de_slot 7 rfl (T.scls 1) (T.slot 2) rfl (de_var 0)) (da_cons (de_slot 7 rfl (T.scls 1) (T.slot 2) rfl (de_var 1)) da_nil))) dk_nil)))))))))))))))
def b_rounded_up : FS := (fRet (fB dFdiv (fB dSub (fB dAdd (fVar 0) (fVar 1)) (fC (.int 1))) (fVar 1)))
def m_rounded_up : List D → R D := runD 2 b_rounded_up
theorem ok_rounded_up (T : TT K mg base) : FnG P w K mg base 1 (He.ga K "rounded_up") 2 m_rounded_up := by
  obtain ⟨fd, Fd⟩ := T.def_ 8 (d := dd_rounded_up) rfl
  exact fng_of (N := N_rounded_up) Fd sc_rounded_up (FunD.bindsN Fd fun _ _ _ _ _ _ us hl => match us, hl with | [_, _], _ => rfl) (fun cdv A outer s e0 H E B tk => (dss_one (ds_ret (de_op opd_fdiv (de_op opd_sub (de_op opd_add (de_var 0) (de_var 1)) de_int) (de_var 1)))))
def b_behind_cut : FS := (fSeq (fAsg (pTup 4 (pCons (pName 2) (pCons (pName 3) (pCons (pName 2) (pCons (pName 4) pNil))))) (fVar 0)) (fSeq (fSet 5 (fB dMul (fU (dSlot "Numbers" 1) (fVar 1)) (fVar 4))) (fSeq (fSet 6 (fL dMax2 (fCons (fL dAbs (fCons (fVar 3) fNil)) (fCons (fL dAbs (fCons (fB dAdd (fB dSub (fVar 3) (fVar 4)) (fC (.int 1))) fNil)) fNil)))) (fRet (fMakeSK "Numbers" 8 (gMrg [true, true, true, true, true, true, true, true] []) (fCons (fU (dSlot "Numbers" 0) (fVar 1)) (fCons (fVar 5) (fCons (fL dLcm (fCons (fU (dSlot "Numbers" 2) (fVar 1)) (fCons (fB dMul (fVar 5) (fU (dSlot "Numbers" 0) (fVar 1))) fNil))) (fCons (fB dAdd (fU (dSlot "Numbers" 3) (fVar 1)) (fCall m_rounded_up (fCons (fVar 6) (fCons (fVar 4) fNil)))) (fCons (fU (dSlot "Numbers" 4) (fVar 1)) (fCons (fU (dSlot "Numbers" 5) (fVar 1)) (fCons (fU (dSlot "Numbers" 6) (fVar 1)) (fCons (fU (dSlot "Numbers" 7) (fVar 1)) fNil)))))))))))))
def m_behind_cut : List D → R D := runD 7 b_behind_cut
theorem ok_behind_cut (T : TT K mg base) : FnG P w K mg base 3 (He.ga K "behind_cut") 2 m_behind_cut := by
  obtain ⟨fd, Fd⟩ := T.def_ 9 (d := dd_behind_cut) rfl
  exact fng_of (N := N_behind_cut) Fd sc_behind_cut (FunD.bindsN Fd fun _ _ _ _ _ _ us hl => match us, hl with | [_, _], _ => rfl) (fun cdv A outer s e0 H E B tk => (dss_cons (ds_asg (de_var 0) (dg_tup B.calm (dgs_cons (dg_name 2 sc_behind_cut.nd rfl (by first | exact .inl rfl | exact .inr rfl)) (dgs_cons (dg_name 3 sc_behind_cut.nd rfl (by first | exact .inl rfl | exact .inr rfl)) (dgs_cons (dg_name 2 sc_behind_cut.nd rfl (by first | exact .inl rfl | exact .inr rfl)) (dgs_cons (dg_name 4 sc_behind_cut.nd rfl (by first | exact .inl rfl | exact .inr rfl)) dgs_nil)))))) (dss_cons (ds_set (i := 5) sc_behind_cut.nd rfl (by first | exact .inl rfl | exact .inr rfl) (de_op opd_mul (de_slot 1 rfl (T.scls 1) (T.slot 8) rfl (de_var 1)) (de_var 4))) (dss_cons (ds_set (i := 6) sc_behind_cut.nd rfl (by first | exact .inl rfl | exact .inr rfl) (de_callB (cd_max2 B.calm) rfl (T.free 6) (by decide +kernel) (da_cons (de_callB cd_abs rfl (T.free 11) (by decide +kernel) (da_cons (de_var 3) da_nil)) (da_cons (de_callB cd_abs rfl (T.free 11) (by decide +kernel) (da_cons (de_op opd_add (de_op opd_sub (de_var 3) (de_var 4)) de_int) da_nil)) da_nil)))) (dss_one (ds_ret (mk_11111111 T B (B.room.mono (by decide)) rfl (T.glo 9) (dk_cons (de_slot 0 rfl (T.scls 1) (T.slot 9) rfl (de_var 1)) (dk_cons (de_var 5) (dk_cons (de_callM cd_lcm rfl (T.blt 12) (da_cons (de_slot 2 rfl (T.scls 1) (T.slot 7) rfl (de_var 1)) (da_cons (de_op opd_mul (de_var 5) (de_slot 0 rfl (T.scls 1) (T.slot 9) rfl (de_var 1))) da_nil))) (dk_cons (de_op opd_add (de_slot 3 rfl (T.scls 1) (T.slot 6) rfl (de_var 1)) (de_call ((ok_rounded_up T).mono (by decide)) B rfl (T.glo 12) (T.kp 8 (d := dd_rounded_up)) (da_cons (de_var 6) (da_cons (de_var 4) da_nil)))) (dk_cons (de_slot 4 rfl (T.scls 1) (T.slot 5) rfl (de_var 1)) (dk_cons (de_slot 5 rfl (T.scls 1) (T.slot 4) rfl (de_var 1)) (dk_cons (de_slot 6 rfl (T.scls 1) (T.slot 3) rfl (de_var 1)) (dk_cons (de_slot 7 rfl (T.scls 1) (T.slot 2) rfl (de_var 1)) dk_nil)))))))))))))))
def b_behind_each : FS := (fSeq (fSet 2 (fB dIx (fVar 0) (fC (.int 1)))) (fRet (fMakeSK "Numbers" 8 (gMrg [true, true, true, true, true, true, true, true] []) (fCons (fB dFdiv (fU (dSlot "Numbers" 0) (fVar 1)) (fL dGcd (fCons (fU (dSlot "Numbers" 0) (fVar 1)) (fCons (fVar 2) fNil)))) (fCons (fB dMul (fU (dSlot "Numbers" 1) (fVar 1)) (fVar 2)) (fCons (fL dLcm (fCons (fU (dSlot "Numbers" 2) (fVar 1)) (fCons (fB dMul (fU (dSlot "Numbers" 1) (fVar 1)) (fL dLcm (fCons (fU (dSlot "Numbers" 0) (fVar 1)) (fCons (fVar 2) fNil)))) fNil))) (fCons (fCall m_rounded_up (fCons (fB dSub (fB dAdd (fU (dSlot "Numbers" 3) (fVar 1)) (fVar 2)) (fC (.int 1))) (fCons (fVar 2) fNil))) (fCons (fB dMul (fU (dSlot "Numbers" 4) (fVar 1)) (fVar 2)) (fCons (fU (dSlot "Numbers" 5) (fVar 1)) (fCons (fU (dSlot "Numbers" 6) (fVar 1)) (fCons (fU (dSlot "Numbers" 7) (fVar 1)) fNil)))))))))))
def m_behind_each : List D → R D := runD 3 b_behind_each
theorem ok_behind_each (T : TT K mg base) : FnG P w K mg base 3 (He.ga K "behind_each") 2 m_behind_each := by
  obtain ⟨fd, Fd⟩ := T.def_ 10 (d := dd_behind_each) rfl
  exact fng_of (N := N_behind_each) Fd sc_behind_each (FunD.bindsN Fd fun _ _ _ _ _ _ us hl => match us, hl with | [_, _], _ => rfl) (fun cdv A outer s e0 H E B tk => (dss_cons (ds_set (i := 2) sc_behind_each.nd rfl (by first | exact .inl rfl | exact .inr rfl) (de_ix (ixd_all B.hu) (de_var 0) de_int (fun _ _ => rfl))) (dss_one (ds_ret (mk_11111111 T B (B.room.mono (by decide)) rfl (T.glo 9) (dk_cons (de_op opd_fdiv (de_slot 0 rfl (T.scls 1) (T.slot 9) rfl (de_var 1)) (de_callM cd_gcd rfl (T.blt 13) (da_cons (de_slot 0 rfl (T.scls 1) (T.slot 9) rfl (de_var 1)) (da_cons (de_var 2) da_nil)))) (dk_cons (de_op opd_mul (de_slot 1 rfl (T.scls 1) (T.slot 8) rfl (de_var 1)) (de_var 2)) (dk_cons (de_callM cd_lcm rfl (T.blt 12) (da_cons (de_slot 2 rfl (T.scls 1) (T.slot 7) rfl (de_var 1)) (da_cons (de_op opd_mul (de_slot 1 rfl (T.scls 1) (T.slot 8) rfl (de_var 1)) (de_callM cd_lcm rfl (T.blt 12) (da_cons (de_slot 0 rfl (T.scls 1) (T.slot 9) rfl (de_var 1)) (da_cons (de_var 2) da_nil)))) da_nil))) (dk_cons (de_call ((ok_rounded_up T).mono (by decide)) B rfl (T.glo 12) (T.kp 8 (d := dd_rounded_up)) (da_cons (de_op opd_sub (de_op opd_add (de_slot 3 rfl (T.scls 1) (T.slot 6) rfl (de_var 1)) (de_var 2)) de_int) (da_cons (de_var 2) da_nil))) (dk_cons (de_op opd_mul (de_slot 4 rfl (T.scls 1) (T.slot 5) rfl (de_var 1)) (de_var 2)) (dk_cons (de_slot 5 rfl (T.scls 1) (T.slot 4) rfl (de_var 1)) (dk_cons (de_slot 6 rfl (T.scls 1) (T.slot 3) rfl (de_var 1)) (dk_cons (de_slot 7 rfl (T.scls 1) (T.slot 2) rfl (de_var 1)) dk_nil)))))))))))))
def b_behind_times : FS := (fSeq (fSet 2 (fB dIx (fVar 0) (fC (.int 1)))) (fSeq (fSet 3 (fB dMul (fVar 2) (fU (dSlot "Numbers" 0) (fVar 1)))) (fRet (fMakeSK "Numbers" 8 (gMrg [true, true, true, true, true, true, true, true] []) (fCons (fVar 3) (fCons (fU (dSlot "Numbers" 1) (fVar 1)) (fCons (fL dLcm (fCons (fU (dSlot "Numbers" 2) (fVar 1)) (fCons (fB dMul (fU (dSlot "Numbers" 1) (fVar 1)) (fVar 3)) fNil))) (fCons (fB dMul (fVar 2) (fU (dSlot "Numbers" 3) (fVar 1))) (fCons (fU (dSlot "Numbers" 4) (fVar 1)) (fCons (fB dMul (fVar 2) (fU (dSlot "Numbers" 5) (fVar 1))) (fCons (fB dMul (fVar 2) (fU (dSlot "Numbers" 6) (fVar 1))) (fCons (fU (dSlot "Numbers" 7) (fVar 1)) fNil))))))))))))
def m_behind_times : List D → R D := runD 4 b_behind_times
theorem ok_behind_times (T : TT K mg base) : FnG P w K mg base 3 (He.ga K "behind_times") 2 m_behind_times := by
  obtain ⟨fd, Fd⟩ := T.def_ 11 (d := dd_behind_times) rfl
  exact fng_of (N := N_behind_times) Fd sc_behind_times (FunD.bindsN Fd fun _ _ _ _ _ _ us hl => match us, hl with | [_, _], _ => rfl) (fun cdv A outer s e0 H E B tk => (dss_cons (ds_set (i := 2) sc_behind_times.nd rfl (by first | exact .inl rfl | exact .inr rfl) (de_ix (ixd_all B.hu) (de_var 0) de_int (fun _ _ => rfl))) (dss_cons (ds_set (i := 3) sc_behind_times.nd rfl (by first | exact .inl rfl | exact .inr rfl) (de_op opd_mul (de_var 2) (de_slot 0 rfl (T.scls 1) (T.slot 9) rfl (de_var 1)))) (dss_one (ds_ret (mk_11111111 T B (B.room.mono (by decide)) rfl (T.glo 9) (dk_cons (de_var 3) (dk_cons (de_slot 1 rfl (T.scls 1) (T.slot 8) rfl (de_var 1)) (dk_cons (de_callM cd_lcm rfl (T.blt 12) (da_cons (de_slot 2 rfl (T.scls 1) (T.slot 7) rfl (de_var 1)) (da_cons (de_op opd_mul (de_slot 1 rfl (T.scls 1) (T.slot 8) rfl (de_var 1)) (de_var 3)) da_nil))) (dk_cons (de_op opd_mul (de_var 2) (de_slot 3 rfl (T.scls 1) (T.slot 6) rfl (de_var 1))) (dk_cons (de_slot 4 rfl (T.scls 1) (T.slot 5) rfl (de_var 1)) (dk_cons (de_op opd_mul (de_var 2) (de_slot 5 rfl (T.scls 1) (T.slot 4) rfl (de_var 1))) (dk_cons (de_op opd_mul (de_var 2) (de_slot 6 rfl (T.scls 1) (T.slot 3) rfl (de_var 1))) (dk_cons (de_slot 7 rfl (T.scls 1) (T.slot 2) rfl (de_var 1)) dk_nil))))))))))))))
def b_behind_again : FS := (fSeq (fSet 2 (fB dIx (fVar 0) (fC (.int 1)))) (fRet (fMakeSK "Numbers" 8 (gMrg [true, true, true, true, true, true, true, true] []) (fCons (fU (dSlot "Numbers" 0) (fVar 1)) (fCons (fU (dSlot "Numbers" 1) (fVar 1)) (fCons (fU (dSlot "Numbers" 2) (fVar 1)) (fCons (fB dMul (fVar 2) (fU (dSlot "Numbers" 3) (fVar 1))) (fCons (fU (dSlot "Numbers" 4) (fVar 1)) (fCons (fU (dSlot "Numbers" 5) (fVar 1)) (fCons (fB dMul (fVar 2) (fU (dSlot "Numbers" 6) (fVar 1))) (fCons (fU (dSlot "Numbers" 7) (fVar 1)) fNil)))))))))))
def m_behind_again : List D → R D := runD 3 b_behind_again
theorem ok_behind_again (T : TT K mg base) : FnG P w K mg base 3 (He.ga K "behind_again") 2 m_behind_again := by
  obtain ⟨fd, Fd⟩ := T.def_ 12 (d := dd_behind_again) rfl
  exact fng_of (N := N_behind_again) Fd sc_behind_again (FunD.bindsN Fd fun _ _ _ _ _ _ us hl => match us, hl with | [_, _], _ => rfl) (fun cdv A outer s e0 H E B tk => (dss_cons (ds_set (i := 2) sc_behind_again.nd rfl (by first | exact .inl rfl | exact .inr rfl) (de_ix (ixd_all B.hu) (de_var 0) de_int (fun _ _ => rfl))) (dss_one (ds_ret (mk_11111111 T B (B.room.mono (by decide)) rfl (T.glo 9) (dk_cons (de_slot 0 rfl (T.scls 1) (T.slot 9) rfl (de_var 1)) (dk_cons (de_slot 1 rfl (T.scls 1) (T.slot 8) rfl (de_var 1)) (dk_cons (de_slot 2 rfl (T.scls 1) (T.slot 7) rfl (de_var 1)) (dk_cons (de_op opd_mul (de_var 2) (de_slot 3 rfl (T.scls 1) (T.slot 6) rfl (de_var 1))) (dk_cons (de_slot 4 rfl (T.scls 1) (T.slot 5) rfl (de_var 1)) (dk_cons (de_slot 5 rfl (T.scls 1) (T.slot 4) rfl (de_var 1)) (dk_cons (de_op opd_mul (de_var 2) (de_slot 6 rfl (T.scls 1) (T.slot 3) rfl (de_var 1))) (dk_cons (de_slot 7 rfl (T.scls 1) (T.slot 2) rfl (de_var 1)) dk_nil)))))))))))))
def b_behind_turn : FS := (fSeq (fSet 2 (fL dLcm (fCons (fU (dSlot "Numbers" 0) (fVar 1)) (fCons (fB dIx (fVar 0) (fC (.int 1))) fNil)))) (fRet (fMakeSK "Numbers" 8 (gMrg [true, true, true, true, true, true, true, true] []) (fCons (fVar 2) (fCons (fU (dSlot "Numbers" 1) (fVar 1)) (fCons (fL dLcm (fCons (fU (dSlot "Numbers" 2) (fVar 1)) (fCons (fB dMul (fU (dSlot "Numbers" 1) (fVar 1)) (fVar 2)) fNil))) (fCons (fB dAdd (fU (dSlot "Numbers" 3) (fVar 1)) (fB dMul (fC (.int 2)) (fB dSub (fB dIx (fVar 0) (fC (.int 1))) (fC (.int 1))))) (fCons (fU (dSlot "Numbers" 4) (fVar 1)) (fCons (fU (dSlot "Numbers" 5) (fVar 1)) (fCons (fU (dSlot "Numbers" 6) (fVar 1)) (fCons (fU (dSlot "Numbers" 7) (fVar 1)) fNil)))))))))))
def m_behind_turn : List D → R D := runD 3 b_behind_turn
theorem ok_behind_turn (T : TT K mg base) : FnG P w K mg base 3 (He.ga K "behind_turn") 2 m_behind_turn := by
  obtain ⟨fd, Fd⟩ := T.def_ 13 (d := dd_behind_turn) rfl
  exact fng_of (N := N_behind_turn) Fd sc_behind_turn (FunD.bindsN Fd fun _ _ _ _ _ _ us hl => match us, hl with | [_, _], _ => rfl) (fun cdv A outer s e0 H E B tk => (dss_cons (ds_set (i := 2) sc_behind_turn.nd rfl (by first | exact .inl rfl | exact .inr rfl) (de_callM cd_lcm rfl (T.blt 12) (da_cons (de_slot 0 rfl (T.scls 1) (T.slot 9) rfl (de_var 1)) (da_cons (de_ix (ixd_all B.hu) (de_var 0) de_int (fun _ _ => rfl)) da_nil)))) (dss_one (ds_ret (mk_11111111 T B (B.room.mono (by decide)) rfl (T.glo 9) (dk_cons (de_var 2) (dk_cons (de_slot 1 rfl (T.scls 1) (T.slot 8) rfl (de_var 1)) (dk_cons (de_callM cd_lcm rfl (T.blt 12) (da_cons (de_slot 2 rfl (T.scls 1) (T.slot 7) rfl (de_var 1)) (da_cons (de_op opd_mul (de_slot 1 rfl (T.scls 1) (T.slot 8) rfl (de_var 1)) (de_var 2)) da_nil))) (dk_cons (de_op opd_add (de_slot 3 rfl (T.scls 1) (T.slot 6) rfl (de_var 1)) (de_op opd_mul de_int (de_op opd_sub (de_ix (ixd_all B.hu) (de_var 0) de_int (fun _ _ => rfl)) de_int))) (dk_cons (de_slot 4 rfl (T.scls 1) (T.slot 5) rfl (de_var 1)) (dk_cons (de_slot 5 rfl (T.scls 1) (T.slot 4) rfl (de_var 1)) (dk_cons (de_slot 6 rfl (T.scls 1) (T.slot 3) rfl (de_var 1)) (dk_cons (de_slot 7 rfl (T.scls 1) (T.slot 2) rfl (de_var 1)) dk_nil)))))))))))))
def b_behind_arms : FS := (fSeq (fSet 4 (fBin "Numbers" m_Numbers___or__ (fVar 2) (fVar 3))) (fSeq (fIfS (fTest (fB dEq (fB dIx (fVar 0) (fC (.int 0))) (fC (.str "weave")))) (fSeq (fSet 5 (fB dMul (fC (.int 2)) (fU (dSlot "Numbers" 0) (fVar 4)))) (fRet (fMakeSK "Numbers" 8 (gMrg [true, true, true, true, true, true, true, true] []) (fCons (fVar 5) (fCons (fU (dSlot "Numbers" 1) (fVar 4)) (fCons (fL dLcm (fCons (fU (dSlot "Numbers" 2) (fVar 4)) (fCons (fB dMul (fU (dSlot "Numbers" 1) (fVar 4)) (fVar 5)) fNil))) (fCons (fB dMul (fC (.int 2)) (fU (dSlot "Numbers" 3) (fVar 4))) (fCons (fU (dSlot "Numbers" 4) (fVar 4)) (fCons (fB dMul (fC (.int 2)) (fU (dSlot "Numbers" 5) (fVar 4))) (fCons (fU (dSlot "Numbers" 6) (fVar 4)) (fCons (fU (dSlot "Numbers" 7) (fVar 4)) fNil))))))))))) fSkip) (fSeq (fIfS (fTest (fB dEq (fB dIx (fVar 0) (fC (.int 0))) (fC (.str "pair")))) (fRet (fMakeSK "Numbers" 8 (gMrg [true, true, true, true, true, true, true, true] []) (fCons (fU (dSlot "Numbers" 0) (fVar 4)) (fCons (fU (dSlot "Numbers" 1) (fVar 4)) (fCons (fU (dSlot "Numbers" 2) (fVar 4)) (fCons (fU (dSlot "Numbers" 3) (fVar 4)) (fCons (fU (dSlot "Numbers" 4) (fVar 4)) (fCons (fU (dSlot "Numbers" 5) (fVar 4)) (fCons (fU (dSlot "Numbers" 6) (fVar 4)) (fCons (fB dAdd (fU (dSlot "Numbers" 7) (fVar 2)) (fU (dSlot "Numbers" 7) (fVar 3))) fNil)))))))))) fSkip) (fSeq (fIfS (fTest (fB dEq (fB dIx (fVar 0) (fC (.int 0))) (fC (.str "short")))) (fSeq (fSet 6 (fL dLcm (fCons (fU (dSlot "Numbers" 1) (fVar 4)) (fCons (fU (dSlot "Numbers" 1) (fVar 1)) fNil)))) (fRet (fMakeSK "Numbers" 8 (gMrg [true, true, true, true, true, true, true, true] []) (fCons (fU (dSlot "Numbers" 0) (fVar 4)) (fCons (fVar 6) (fCons (fL dLcm (fCons (fU (dSlot "Numbers" 2) (fVar 4)) (fCons (fU (dSlot "Numbers" 2) (fVar 1)) (fCons (fB dMul (fVar 6) (fU (dSlot "Numbers" 0) (fVar 4))) fNil)))) (fCons (fL dMax2 (fCons (fU (dSlot "Numbers" 3) (fVar 4)) (fCons (fB dAdd (fU (dSlot "Numbers" 3) (fVar 1)) (fB dIx (fVar 0) (fC (.int 1)))) fNil))) (fCons (fU (dSlot "Numbers" 4) (fVar 4)) (fCons (fU (dSlot "Numbers" 5) (fVar 4)) (fCons (fU (dSlot "Numbers" 6) (fVar 4)) (fCons (fU (dSlot "Numbers" 7) (fVar 4)) fNil))))))))))) fSkip) (fRet (fVar 4))))))
def m_behind_arms : List D → R D := runD 7 b_behind_arms
theorem ok_behind_arms (T : TT K mg base) : FnG P w K mg base 6 (He.ga K "behind_arms") 4 m_behind_arms := by
  obtain ⟨fd, Fd⟩ := T.def_ 14 (d := dd_behind_arms) rfl
  exact fng_of (N := N_behind_arms) Fd sc_behind_arms (FunD.bindsN Fd fun _ _ _ _ _ _ us hl => match us, hl with | [_, _, _, _], _ => rfl) (fun cdv A outer s e0 H E B tk => (dss_cons (ds_set (i := 4) sc_behind_arms.nd rfl (by first | exact .inl rfl | exact .inr rfl) (de_bin (c := "Numbers") (m := "__or__") (T.selff 14) (T.meth 13) ((ok_Numbers___or__ T).mono (by decide)) B (de_var 2) (de_var 3))) (dss_cons (ds_if (db_cmp (opd_eq B.hu64) (de_ix (ixd_all B.hu) (de_var 0) de_int (fun _ _ => rfl)) de_str (nomark _)) (dss_cons (ds_set (i := 5) sc_behind_arms.nd rfl (by first | exact .inl rfl | exact .inr rfl) (de_op opd_mul de_int (de_slot 0 rfl (T.scls 1) (T.slot 9) rfl (de_var 4)))) (dss_one (ds_ret (mk_11111111 T B (B.room.mono (by decide)) rfl (T.glo 9) (dk_cons (de_var 5) (dk_cons (de_slot 1 rfl (T.scls 1) (T.slot 8) rfl (de_var 4)) (dk_cons (de_callM cd_lcm rfl (T.blt 12) (da_cons (de_slot 2 rfl (T.scls 1) (T.slot 7) rfl (de_var 4)) (da_cons (de_op opd_mul (de_slot 1 rfl (T.scls 1) (T.slot 8) rfl (de_var 4)) (de_var 5)) da_nil))) (dk_cons (de_op opd_mul de_int (de_slot 3 rfl (T.scls 1) (T.slot 6) rfl (de_var 4))) (dk_cons (de_slot 4 rfl (T.scls 1) (T.slot 5) rfl (de_var 4)) (dk_cons (de_op opd_mul de_int (de_slot 5 rfl (T.scls 1) (T.slot 4) rfl (de_var 4))) (dk_cons (de_slot 6 rfl (T.scls 1) (T.slot 3) rfl (de_var 4)) (dk_cons (de_slot 7 rfl (T.scls 1) (T.slot 2) rfl (de_var 4)) dk_nil)))))))))))) dss_nil) (dss_cons (ds_if (db_cmp (opd_eq B.hu64) (de_ix (ixd_all B.hu) (de_var 0) de_int (fun _ _ => rfl)) de_str (nomark _)) (dss_one (ds_ret (mk_11111111 T B (B.room.mono (by decide)) rfl (T.glo 9) (dk_cons (de_slot 0 rfl (T.scls 1) (T.slot 9) rfl (de_var 4)) (dk_cons (de_slot 1 rfl (T.scls 1) (T.slot 8) rfl (de_var 4)) (dk_cons (de_slot 2 rfl (T.scls 1) (T.slot 7) rfl (de_var 4)) (dk_cons (de_slot 3 rfl (T.scls 1) (T.slot 6) rfl (de_var 4)) (dk_cons (de_slot 4 rfl (T.scls 1) (T.slot 5) rfl (de_var 4)) (dk_cons (de_slot 5 rfl (T.scls 1) (T.slot 4) rfl (de_var 4)) (dk_cons (de_slot 6 rfl (T.scls 1) (T.slot 3) rfl (de_var 4)) (dk_cons (de_op opd_add (de_slot 7 rfl (T.scls 1) (T.slot 2) rfl (de_var 2)) (de_slot 7 rfl (T.scls 1) (T.slot 2) rfl (de_var 3))) dk_nil))))))))))) dss_nil) (dss_cons (ds_if (db_cmp (opd_eq B.hu64) (de_ix (ixd_all B.hu) (de_var 0) de_int (fun _ _ => rfl)) de_str (nomark _)) (dss_cons (ds_set (i := 6) sc_behind_arms.nd rfl (by first | exact .inl rfl | exact .inr rfl) (de_callM cd_lcm rfl (T.blt 12) (da_cons (de_slot 1 rfl (T.scls 1) (T.slot 8) rfl (de_var 4)) (da_cons (de_slot 1 rfl (T.scls 1) (T.slot 8) rfl (de_var 1)) da_nil)))) (dss_one (ds_ret (mk_11111111 T B (B.room.mono (by decide)) rfl (T.glo 9) (dk_cons (de_slot 0 rfl (T.scls 1) (T.slot 9) rfl (de_var 4)) (dk_cons (de_var 6) (dk_cons (de_callM cd_lcm rfl (T.blt 12) (da_cons (de_slot 2 rfl (T.scls 1) (T.slot 7) rfl (de_var 4)) (da_cons (de_slot 2 rfl (T.scls 1) (T.slot 7) rfl (de_var 1)) (da_cons (de_op opd_mul (de_var 6) (de_slot 0 rfl (T.scls 1) (T.slot 9) rfl (de_var 4))) da_nil)))) (dk_cons (de_callB (cd_max2 B.calm) rfl (T.free 6) (by decide +kernel) (da_cons (de_slot 3 rfl (T.scls 1) (T.slot 6) rfl (de_var 4)) (da_cons (de_op opd_add (de_slot 3 rfl (T.scls 1) (T.slot 6) rfl (de_var 1)) (de_ix (ixd_all B.hu) (de_var 0) de_int (fun _ _ => rfl))) da_nil))) (dk_cons (de_slot 4 rfl (T.scls 1) (T.slot 5) rfl (de_var 4)) (dk_cons (de_slot 5 rfl (T.scls 1) (T.slot 4) rfl (de_var 4)) (dk_cons (de_slot 6 rfl (T.scls 1) (T.slot 3) rfl (de_var 4)) (dk_cons (de_slot 7 rfl (T.scls 1) (T.slot 2) rfl (de_var 4)) dk_nil)))))))))))) dss_nil) (dss_one (ds_ret (de_var 4))))))))
def b_checked : FS := (fSeq (fIfS (fTest (fB dGt (fU (dSlot "Numbers" 6) (fVar 0)) (fC (.int 16)))) (fRaise "TooLarge" (fCons (fC (.str "growth")) fNil)) fSkip) (fSeq (fIfS (fTest (fB dGt (fU (dSlot "Numbers" 7) (fVar 0)) (fC (.int 8)))) (fRaise "TooLarge" (fCons (fC (.str "leaves")) fNil)) fSkip) (fSeq (fIfS (fTest (fB dGt (fProp "Numbers" m_Numbers_enough (fVar 0)) (fC (.int 200)))) (fRaise "TooLarge" (fCons (fC (.str "enough")) fNil)) fSkip) (fRet (fVar 0)))))
def m_checked : List D → R D := runD 1 b_checked
theorem ok_checked (T : TT K mg base) : FnG P w K mg base 5 (He.ga K "checked") 1 m_checked := by
  obtain ⟨fd, Fd⟩ := T.def_ 15 (d := dd_checked) rfl
  exact fng_of (N := N_checked) Fd sc_checked (FunD.bindsN Fd fun _ _ _ _ _ _ us hl => match us, hl with | [_], _ => rfl) (fun cdv A outer s e0 H E B tk => (dss_cons (ds_if (db_cmp opd_gt (de_slot 6 rfl (T.scls 1) (T.slot 3) rfl (de_var 0)) (de_kint (T.kint 14) rfl) (nomark _)) (dss_one (ds_raise (fs := ["what"]) rfl (by decide) (ex_TooLarge T) (B.room.mono (by decide)) B.calm tk rfl (T.glo 16) (da_cons de_str da_nil))) dss_nil) (dss_cons (ds_if (db_cmp opd_gt (de_slot 7 rfl (T.scls 1) (T.slot 2) rfl (de_var 0)) (de_kint (T.kint 17) rfl) (nomark _)) (dss_one (ds_raise (fs := ["what"]) rfl (by decide) (ex_TooLarge T) (B.room.mono (by decide)) B.calm tk rfl (T.glo 16) (da_cons de_str da_nil))) dss_nil) (dss_cons (ds_if (db_cmp opd_gt (de_propS rfl (T.scls 1) (T.prop 15) (ok_Numbers_enough T) (B.room.mono (by decide)) (de_var 0)) (de_kint (T.kint 18) rfl) (nomark _)) (dss_one (ds_raise (fs := ["what"]) rfl (by decide) (ex_TooLarge T) (B.room.mono (by decide)) B.calm tk rfl (T.glo 16) (da_cons de_str da_nil))) dss_nil) (dss_one (ds_ret (de_var 0)))))))
def b_behind (r_behind : List D → R D) (r_measured : List D → R D) : FS := (fSeq (fSet 2 (fB dIx (fVar 0) (fC (.int 0)))) (fSeq (fIfS (fTest (fB dIn (fVar 2) (fC k_ARM_WORDS))) (fSeq (fSet 3 (fCall r_measured (fCons (fB dIx (fVar 0) (fU dNeg (fC (.int 2)))) (fCons (fVar 1) fNil)))) (fRet (fCall m_behind_arms (fCons (fVar 0) (fCons (fVar 1) (fCons (fVar 3) (fCons (fCall r_measured (fCons (fB dIx (fVar 0) (fU dNeg (fC (.int 1)))) (fCons (fVar 1) fNil))) fNil))))))) fSkip) (fSeq (fIfS (fTest (fB dIn (fVar 2) (fC k_CUT_WORDS))) (fRet (fCall m_behind_cut (fCons (fVar 0) (fCons (fVar 1) fNil)))) fSkip) (fMatch (fVar 2) (fun (z : Str) => if z = ("each" : Str) then (fRet (fCall m_behind_each (fCons (fVar 0) (fCons (fVar 1) fNil)))) else (fun (z : Str) => if z = ("times" : Str) then (fRet (fCall m_behind_times (fCons (fVar 0) (fCons (fVar 1) fNil)))) else (fun (z : Str) => if z = ("again" : Str) then (fRet (fCall m_behind_again (fCons (fVar 0) (fCons (fVar 1) fNil)))) else (fun (z : Str) => if z = ("turn" : Str) then (fRet (fCall m_behind_turn (fCons (fVar 0) (fCons (fVar 1) fNil)))) else (fun (z : Str) => if z = ("none" : Str) then (fRet (fMakeSK "Numbers" 8 (gMrg [false, false, false, false, false, false, false, false] [1, 1, 1, 0, 1, 1, 1, 1]) fNil)) else (fun (z : Str) => if z = ("put" : Str) then (fRet (fMakeSK "Numbers" 8 (gMrg [false, false, false, true, false, false, false, false] [1, 1, 1, 1, 1, 1, 1]) (fCons (fC (.int 1)) fNil))) else (fun _ => (fRet (fVar 1))) z) z) z) z) z) z)))))
def l1_measured (r_behind : List D → R D) (r_measured : List D → R D) : FS := (fSet 1 (fCall m_checked (fCons (fCall r_behind (fCons (fVar 2) (fCons (fVar 1) fNil))) fNil)))
def b_measured (r_behind : List D → R D) (r_measured : List D → R D) : FS := (fSeq (fFor (fItems (fVar 0)) (pName 2) (l1_measured r_behind r_measured)) (fRet (fVar 1)))
def g_behind : Nat → (List D → R D) × (List D → R D)
  | 0 => (fun _ => .bad, fun _ => .bad)
  | n + 1 => (runD 4 (b_behind (g_behind n).1 (g_behind n).2), runD 3 (b_measured (g_behind n).1 (g_behind n).2))
def m_behind (n : Nat) : List D → R D := (g_behind n).1
def m_measured (n : Nat) : List D → R D := (g_behind n).2
theorem st_behind (T : TT K mg base) {n : Nat} (hn : 0 ≤ n) {r_behind : List D → R D} {r_measured : List D → R D} (h_behind : FnG P w K mg base (6 + n) (He.ga K "behind") 2 r_behind) (h_measured : FnG P w K mg base (6 + n) (He.ga K "measured") 2 r_measured) : FnG P w K mg base (6 + n + 1) (He.ga K "behind") 2 (runD 4 (b_behind r_behind r_measured)) := by
  obtain ⟨fd, Fd⟩ := T.def_ 16 (d := dd_behind) rfl
  exact fng_of (N := N_behind) Fd sc_behind (FunD.bindsN Fd fun _ _ _ _ _ _ us hl => match us, hl with | [_, _], _ => rfl) (fun cdv A outer s e0 H E B tk => (dss_cons (ds_set (i := 2) sc_behind.nd rfl (by first | exact .inl rfl | exact .inr rfl) (de_ix (ixd_all B.hu) (de_var 0) de_int (fun _ _ => rfl))) (dss_cons (ds_if (db_cmp (opd_in B.hu) (de_var 2) (de_ktup (zs := z_ARM_WORDS) (T.ktup 0) (T.glo 1) rfl) (by with_unfolding_all rfl)) (dss_cons (ds_set (i := 3) sc_behind.nd rfl (by first | exact .inl rfl | exact .inr rfl) (de_call h_measured B rfl (T.glo 19) (T.kp 17 (d := dd_measured)) (da_cons (de_ix (ixd_all B.hu) (de_var 0) (de_un und_neg de_int) (fun _ _ => rfl)) (da_cons (de_var 1) da_nil)))) (dss_one (ds_ret (de_call ((ok_behind_arms T).mono (by omega)) B rfl (T.glo 20) (T.kp 14 (d := dd_behind_arms)) (da_cons (de_var 0) (da_cons (de_var 1) (da_cons (de_var 3) (da_cons (de_call h_measured B rfl (T.glo 19) (T.kp 17 (d := dd_measured)) (da_cons (de_ix (ixd_all B.hu) (de_var 0) (de_un und_neg de_int) (fun _ _ => rfl)) (da_cons (de_var 1) da_nil))) da_nil)))))))) dss_nil) (dss_cons (ds_if (db_cmp (opd_in B.hu) (de_var 2) (de_ktup (zs := z_CUT_WORDS) (T.ktup 16) (T.glo 21) rfl) (by with_unfolding_all rfl)) (dss_one (ds_ret (de_call ((ok_behind_cut T).mono (by omega)) B rfl (T.glo 22) (T.kp 9 (d := dd_behind_cut)) (da_cons (de_var 0) (da_cons (de_var 1) da_nil))))) dss_nil) (dss_one (ds_match (de_var 2) (dm_val (dss_one (ds_ret (de_call ((ok_behind_each T).mono (by omega)) B rfl (T.glo 23) (T.kp 10 (d := dd_behind_each)) (da_cons (de_var 0) (da_cons (de_var 1) da_nil))))) (dm_val (dss_one (ds_ret (de_call ((ok_behind_times T).mono (by omega)) B rfl (T.glo 24) (T.kp 11 (d := dd_behind_times)) (da_cons (de_var 0) (da_cons (de_var 1) da_nil))))) (dm_val (dss_one (ds_ret (de_call ((ok_behind_again T).mono (by omega)) B rfl (T.glo 25) (T.kp 12 (d := dd_behind_again)) (da_cons (de_var 0) (da_cons (de_var 1) da_nil))))) (dm_val (dss_one (ds_ret (de_call ((ok_behind_turn T).mono (by omega)) B rfl (T.glo 26) (T.kp 13 (d := dd_behind_turn)) (da_cons (de_var 0) (da_cons (de_var 1) da_nil))))) (dm_val (dss_one (ds_ret (mk_00000000 T B (B.room.mono (by omega)) rfl (T.glo 9) dk_nil))) (dm_val (dss_one (ds_ret (mk_00010000 T B (B.room.mono (by omega)) rfl (T.glo 9) (dk_cons de_int dk_nil)))) (dm_any (dss_one (ds_ret (de_var 1))))))))))))))))
theorem st_measured (T : TT K mg base) {n : Nat} (hn : 0 ≤ n) {r_behind : List D → R D} {r_measured : List D → R D} (h_behind : FnG P w K mg base (6 + n) (He.ga K "behind") 2 r_behind) (h_measured : FnG P w K mg base (6 + n) (He.ga K "measured") 2 r_measured) : FnG P w K mg base (6 + n + 1) (He.ga K "measured") 2 (runD 3 (b_measured r_behind r_measured)) := by
  obtain ⟨fd, Fd⟩ := T.def_ 17 (d := dd_measured) rfl
  exact fng_of (N := N_measured) Fd sc_measured (FunD.bindsN Fd fun _ _ _ _ _ _ us hl => match us, hl with | [_, _], _ => rfl) (fun cdv A outer s e0 H E B tk => (dss_cons (ds_for B.own B.calm (di_seq (de_var 0)) (dg_name 2 sc_measured.nd rfl (by first | exact .inl rfl | exact .inr rfl)) (dss_one (ds_set (i := 1) sc_measured.nd rfl (by first | exact .inl rfl | exact .inr rfl) (de_call ((ok_checked T).mono (by omega)) B rfl (T.glo 28) (T.kp 15 (d := dd_checked)) (da_cons (de_call h_behind B rfl (T.glo 27) (T.kp 16 (d := dd_behind)) (da_cons (de_var 2) (da_cons (de_var 1) da_nil))) da_nil))))) (dss_one (ds_ret (de_var 1)))))
theorem all_behind (T : TT K mg base) : ∀ n : Nat, FnG P w K mg base (6 + n) (He.ga K "behind") 2 (m_behind n) ∧ FnG P w K mg base (6 + n) (He.ga K "measured") 2 (m_measured n)
  | 0 => ⟨fng_zero, fng_zero⟩
  | n + 1 => by
    have ih := all_behind T n
    exact ⟨st_behind T (Nat.zero_le _) ih.1 ih.2, st_measured T (Nat.zero_le _) ih.1 ih.2⟩
theorem ok_measured (T : TT K mg base) (n : Nat) : FnG P w K mg base (6 + n) (He.ga K "measured") 2 (m_measured n) := (all_behind T n).2
def l1_tokens_of : FS := (fSeq (fIfS (fTest (fB dNotIn (fVar 3) (fC (.str " ();")))) (fSeq (fAug dAddS 2 (fVar 3)) (fun δ => .ct δ)) fSkip) (fSeq (fIfS (fTest (fB dNe (fVar 2) (fC (.str "")))) (fSeq (fApp 1 (fVar 2)) (fSet 2 (fC (.str "")))) fSkip) (fIfS (fTest (fB dNe (fVar 3) (fC (.str " ")))) (fApp 1 (fVar 3)) fSkip)))
def b_tokens_of : FS := (fSeq (fNew 1 fNil) (fSeq (fSet 2 (fC (.str ""))) (fSeq (fFor (fItems (fB dAdd (fVar 0) (fC (.str " ")))) (pName 3) l1_tokens_of) (fFrz 1 (fRet (fVar 1))))))
def m_tokens_of : List D → R D := runD 4 b_tokens_of
theorem ok_tokens_of (T : TT K mg base) : FnG P w K mg base 1 (He.ga K "tokens_of") 1 m_tokens_of := by
  obtain ⟨fd, Fd⟩ := T.def_ 18 (d := dd_tokens_of) rfl
  exact fng_of (N := N_tokens_of) Fd sc_tokens_of (FunD.bindsN Fd fun _ _ _ _ _ _ us hl => match us, hl with | [_], _ => rfl) (fun cdv A outer s e0 H E B tk => (dss_cons (ds_new (i := 1) sc_tokens_of.nd rfl (by first | exact .inl rfl | exact .inr rfl) da_nil) (dss_cons (ds_set (i := 2) sc_tokens_of.nd rfl (by first | exact .inl rfl | exact .inr rfl) de_str) (dss_cons (ds_for B.own B.calm (di_seq (de_op opd_add (de_var 0) de_str)) (dg_name 3 sc_tokens_of.nd rfl (by first | exact .inl rfl | exact .inr rfl)) (dss_cons (ds_if (db_cmp (opd_notIn B.hu) (de_var 3) de_str (by with_unfolding_all rfl)) (dss_cons (ds_aug (i := 2) sc_tokens_of.nd rfl (by first | exact .inl rfl | exact .inr rfl) (de_var 3) iopd_add) (dss_one ds_cont)) dss_nil) (dss_cons (ds_if (db_cmp (opd_ne B.hu64) (de_var 2) de_str (nomark _)) (dss_cons (ds_app (i := 1) (fun _ h => pe_bm PySem.F.plainAttrs_list PySem.F.slot_list_append PySem.F.type_list_append mt_append (pv 1) h) (de_var 2)) (dss_one (ds_set (i := 2) sc_tokens_of.nd rfl (by first | exact .inl rfl | exact .inr rfl) de_str))) dss_nil) (dss_one (ds_if (db_cmp (opd_ne B.hu64) (de_var 3) de_str (nomark _)) (dss_one (ds_app (i := 1) (fun _ h => pe_bm PySem.F.plainAttrs_list PySem.F.slot_list_append PySem.F.type_list_append mt_append (pv 1) h) (de_var 3))) dss_nil))))) (dss_frz 1 (dss_one (ds_ret (de_var 1))))))))
def l1_number_of : FS := (fIfS (fTest (fB dNotIn (fVar 2) (fC (.str "0123456789")))) (fRet (fC .non)) fSkip)
def b_number_of : FS := (fSeq (fSet 1 (fIf (fTest (fB dEq (fSl (fVar 0) fNo (fSome (fC (.int 1)))) (fC (.str "-")))) (fSl (fVar 0) (fSome (fC (.int 1))) fNo) (fVar 0))) (fSeq (fIfS (fOrB (fTest (fB dEq (fL dLen (fCons (fVar 1) fNil)) (fC (.int 0)))) (fTest (fB dGt (fL dLen (fCons (fVar 1) fNil)) (fC (.int 2))))) (fRet (fC .non)) fSkip) (fSeq (fFor (fItems (fVar 1)) (pName 2) l1_number_of) (fSeq (fIfS (fAndB (fTest (fB dEq (fB dIx (fVar 1) (fC (.int 0))) (fC (.str "0")))) (fTest (fB dNe (fVar 0) (fC (.str "0"))))) (fRet (fC .non)) fSkip) (fRet (fL dIntS (fCons (fVar 0) fNil)))))))
def m_number_of : List D → R D := runD 3 b_number_of
theorem ok_number_of (T : TT K mg base) : FnG P w K mg base 1 (He.ga K "number_of") 1 m_number_of := by
  obtain ⟨fd, Fd⟩ := T.def_ 19 (d := dd_number_of) rfl
  exact fng_of (N := N_number_of) Fd sc_number_of (FunD.bindsN Fd fun _ _ _ _ _ _ us hl => match us, hl with | [_], _ => rfl) (fun cdv A outer s e0 H E B tk => (dss_cons (ds_set (i := 1) sc_number_of.nd rfl (by first | exact .inl rfl | exact .inr rfl) (de_if (db_cmp (opd_eq B.hu64) (de_slice (de_var 0) do_no (do_some de_int)) de_str (nomark _)) (de_slice (de_var 0) (do_some de_int) do_no) (de_var 0))) (dss_cons (ds_if (db_of (dw_or (db_cmp (opd_eq B.hu64) (de_callB cd_len rfl (T.free 2) (by decide +kernel) (da_cons (de_var 1) da_nil)) de_int (nomark _)) (dw_or1 (db_cmp opd_gt (de_callB cd_len rfl (T.free 2) (by decide +kernel) (da_cons (de_var 1) da_nil)) de_int (nomark _))))) (dss_one (ds_ret de_non)) dss_nil) (dss_cons (ds_for B.own B.calm (di_seq (de_var 1)) (dg_name 2 sc_number_of.nd rfl (by first | exact .inl rfl | exact .inr rfl)) (dss_one (ds_if (db_cmp (opd_notIn B.hu) (de_var 2) (de_kstr (T.kstr 29) rfl) (by with_unfolding_all rfl)) (dss_one (ds_ret de_non)) dss_nil))) (dss_cons (ds_if (db_of (dw_and (db_cmp (opd_eq B.hu64) (de_ix (ixd_all B.hu) (de_var 1) de_int (fun _ _ => rfl)) de_str (nomark _)) (dw_and1 (db_cmp (opd_ne B.hu64) (de_var 0) de_str (nomark _))))) (dss_one (ds_ret de_non)) dss_nil) (dss_one (ds_ret (de_callTy cd_intS rfl (T.free 30) (by decide +kernel) (da_cons (de_var 0) da_nil)))))))))
def l1_is_name : FS := (fIfS (fTest (fB dNotIn (fVar 1) (fC (.str "abcdefghijklmnopqrstuvwxyz")))) (fRet (fC (.bl false))) fSkip)
def b_is_name : FS := (fSeq (fIfS (fOrB (fTest (fB dEq (fL dLen (fCons (fVar 0) fNil)) (fC (.int 0)))) (fOrB (fTest (fB dGt (fL dLen (fCons (fVar 0) fNil)) (fC (.int 3)))) (fTest (fB dIn (fVar 0) (fC k_WORDS))))) (fRet (fC (.bl false))) fSkip) (fSeq (fFor (fItems (fVar 0)) (pName 1) l1_is_name) (fRet (fC (.bl true)))))
def m_is_name : List D → R D := runD 2 b_is_name
theorem ok_is_name (T : TT K mg base) : FnG P w K mg base 1 (He.ga K "is_name") 1 m_is_name := by
  obtain ⟨fd, Fd⟩ := T.def_ 20 (d := dd_is_name) rfl
  exact fng_of (N := N_is_name) Fd sc_is_name (FunD.bindsN Fd fun _ _ _ _ _ _ us hl => match us, hl with | [_], _ => rfl) (fun cdv A outer s e0 H E B tk => (dss_cons (ds_if (db_of (dw_or (db_cmp (opd_eq B.hu64) (de_callB cd_len rfl (T.free 2) (by decide +kernel) (da_cons (de_var 0) da_nil)) de_int (nomark _)) (dw_or (db_cmp opd_gt (de_callB cd_len rfl (T.free 2) (by decide +kernel) (da_cons (de_var 0) da_nil)) de_int (nomark _)) (dw_or1 (db_cmp (opd_in B.hu) (de_var 0) (de_ktup (zs := z_WORDS) (T.ktup 17) (T.glo 31) rfl) (by with_unfolding_all rfl)))))) (dss_one (ds_ret de_bl)) dss_nil) (dss_cons (ds_for B.own B.calm (di_seq (de_var 0)) (dg_name 1 sc_is_name.nd rfl (by first | exact .inl rfl | exact .inr rfl)) (dss_one (ds_if (db_cmp (opd_notIn B.hu) (de_var 1) (de_kstr (T.kstr 32) rfl) (by with_unfolding_all rfl)) (dss_one (ds_ret de_bl)) dss_nil))) (dss_one (ds_ret de_bl)))))
def b_Reader___init__ : FS := (fSeq (fPutF "Reader" 0 "tokens" (fCall m_tokens_of (fCons (fVar 1) fNil))) (fSeq (fPutF "Reader" 0 "at" (fC (.int 0))) (fPutF "Reader" 0 "depth" (fC (.int 0)))))
def m_Reader___init__ : MF := runM "Reader" 2 b_Reader___init__
theorem ok_Reader___init__ (T : TT K mg base) : ∃ fd : FuncData, FnOk P w K mg base (L2.CX P w) 2 (He.ma K (He.ga K "Reader") "__init__") fd P_Reader___init__ (spM K "Reader" 1 m_Reader___init__) ∧ L2.Binds K fd P_Reader___init__ [] := by
  obtain ⟨fd, Fd⟩ := T.def_ 21 (d := dd_Reader___init__) rfl
  exact ⟨fd, fnokm_of (N := N_Reader___init__) (ps := P_Reader___init__) Fd sc_Reader___init__ rfl (fun cdv A outer s e0 H E B tk => (dss_cons (ds_fldO (T.cls 34) (T.noat 35) 0 (de_call ((ok_tokens_of T).mono (by decide)) B rfl (T.glo 33) (T.kp 18 (d := dd_tokens_of)) (da_cons (de_var 1) da_nil))) (dss_cons (ds_fldO (T.cls 34) (T.noat 36) 0 de_int) (dss_one (ds_fldO (T.cls 34) (T.noat 37) 0 de_int))))), (FunD.bindsN Fd fun _ _ _ _ _ _ us hl => match us, hl with | [_, _], _ => rfl)⟩
def b_Reader_token : FS := (fSeq (fIfS (fTest (fB dLt (fU (dFld "Reader" "at") (fVar 0)) (fL dLen (fCons (fU (dFld "Reader" "tokens") (fVar 0)) fNil)))) (fRet (fB dIx (fU (dFld "Reader" "tokens") (fVar 0)) (fU (dFld "Reader" "at") (fVar 0)))) fSkip) (fRet (fC (.str ""))))
def m_Reader_token : List D → R D := runD 1 b_Reader_token
theorem ok_Reader_token (T : TT K mg base) : FnG P w K mg base 1 (He.ma K (He.ga K "Reader") "token") 1 m_Reader_token := by
  obtain ⟨fd, Fd⟩ := T.def_ 22 (d := dd_Reader_token) rfl
  exact fng_of (N := N_Reader_token) Fd sc_Reader_token (FunD.bindsN Fd fun _ _ _ _ _ _ us hl => match us, hl with | [_], _ => rfl) (fun cdv A outer s e0 H E B tk => (dss_cons (ds_if (db_cmp opd_lt (de_fld rfl (T.cls 34) (T.noat 36) (de_var 0)) (de_callB cd_len rfl (T.free 2) (by decide +kernel) (da_cons (de_fld rfl (T.cls 34) (T.noat 35) (de_var 0)) da_nil)) (nomark _)) (dss_one (ds_ret (de_ix (ixd_all B.hu) (de_fld rfl (T.cls 34) (T.noat 35) (de_var 0)) (de_fld rfl (T.cls 34) (T.noat 36) (de_var 0)) (fun _ _ => rfl)))) dss_nil) (dss_one (ds_ret de_str))))
def b_Reader_number : FS := (fSeq (fSet 3 (fCall m_number_of (fCons (fView "Reader" "token" 0 m_Reader_token fNil) fNil))) (fSeq (fIfS (fOrB (fTest (fU dIsN (fVar 3))) (fOrB (fTest (fB dLt (fVar 3) (fVar 1))) (fTest (fB dGt (fVar 3) (fVar 2))))) (fRaise "BadText" (fCons (fFld "Reader" 0 "at") fNil)) fSkip) (fSeq (fAugF dAddS "Reader" 0 "at" (fC (.int 1))) (fRet (fVar 3)))))
def m_Reader_number : MF := runM "Reader" 4 b_Reader_number
theorem ok_Reader_number (T : TT K mg base) : FnM P w K mg base 3 (He.ma K (He.ga K "Reader") "number") "Reader" 2 m_Reader_number := by
  obtain ⟨fd, Fd⟩ := T.def_ 23 (d := dd_Reader_number) rfl
  exact FnOk.rawM (fnokm_of (N := N_Reader_number) (ps := P_Reader_number) Fd sc_Reader_number rfl (fun cdv A outer s e0 H E B tk => (dss_cons (ds_set (i := 3) sc_Reader_number.nd rfl (by first | exact .inl rfl | exact .inr rfl) (de_call ((ok_number_of T).mono (by decide)) B rfl (T.glo 39) (T.kp 19 (d := dd_number_of)) (da_cons (de_view0 0 rfl (T.cls 34) (T.meth 38) ((ok_Reader_token T).mono (by decide)) B) da_nil))) (dss_cons (ds_if (db_of (dw_or (db_isN (de_var 3)) (dw_or (db_cmp opd_lt (de_var 3) (de_var 1) (nomark _)) (dw_or1 (db_cmp opd_gt (de_var 3) (de_var 2) (nomark _)))))) (dss_one (ds_raise (fs := ["place"]) rfl (by decide) (ex_BadText T) (B.room.mono (by decide)) B.calm tk rfl (T.glo 40) (da_cons (de_fldO (T.cls 34) (T.noat 36) 0) da_nil))) dss_nil) (dss_cons (ds_augF (T.cls 34) (T.noat 36) iopd_add 0 de_int) (dss_one (ds_ret (de_var 3)))))))) (FunD.bindsN Fd fun _ _ _ _ _ _ us hl => match us, hl with | [_, _, _], _ => rfl)
def b_Reader_name : FS := (fSeq (fSet 1 (fView "Reader" "token" 0 m_Reader_token fNil)) (fSeq (fIfS (fNotB (fTest (fCall m_is_name (fCons (fVar 1) fNil)))) (fRaise "BadText" (fCons (fFld "Reader" 0 "at") fNil)) fSkip) (fSeq (fAugF dAddS "Reader" 0 "at" (fC (.int 1))) (fRet (fVar 1)))))
def m_Reader_name : MF := runM "Reader" 2 b_Reader_name
theorem ok_Reader_name (T : TT K mg base) : FnM P w K mg base 3 (He.ma K (He.ga K "Reader") "name") "Reader" 0 m_Reader_name := by
  obtain ⟨fd, Fd⟩ := T.def_ 24 (d := dd_Reader_name) rfl
  exact FnOk.rawM (fnokm_of (N := N_Reader_name) (ps := P_Reader_name) Fd sc_Reader_name rfl (fun cdv A outer s e0 H E B tk => (dss_cons (ds_set (i := 1) sc_Reader_name.nd rfl (by first | exact .inl rfl | exact .inr rfl) (de_view0 0 rfl (T.cls 34) (T.meth 38) ((ok_Reader_token T).mono (by decide)) B)) (dss_cons (ds_if (db_not (db_val (de_call ((ok_is_name T).mono (by decide)) B rfl (T.glo 41) (T.kp 20 (d := dd_is_name)) (da_cons (de_var 1) da_nil)))) (dss_one (ds_raise (fs := ["place"]) rfl (by decide) (ex_BadText T) (B.room.mono (by decide)) B.calm tk rfl (T.glo 40) (da_cons (de_fldO (T.cls 34) (T.noat 36) 0) da_nil))) dss_nil) (dss_cons (ds_augF (T.cls 34) (T.noat 36) iopd_add 0 de_int) (dss_one (ds_ret (de_var 1)))))))) (FunD.bindsN Fd fun _ _ _ _ _ _ us hl => match us, hl with | [_], _ => rfl)
def b_Reader_sign : FS := (fSeq (fIfS (fTest (fB dNe (fView "Reader" "token" 0 m_Reader_token fNil) (fVar 1))) (fRaise "BadText" (fCons (fFld "Reader" 0 "at") fNil)) fSkip) (fSeq (fIfS (fAndB (fTest (fB dEq (fVar 1) (fC (.str "(")))) (fTest (fB dEq (fFld "Reader" 0 "depth") (fC (.int 6))))) (fRaise "TooLarge" (fCons (fC (.str "depth")) fNil)) fSkip) (fAugF dAddS "Reader" 0 "at" (fC (.int 1)))))
def m_Reader_sign : MF := runM "Reader" 2 b_Reader_sign
theorem ok_Reader_sign (T : TT K mg base) : FnM P w K mg base 3 (He.ma K (He.ga K "Reader") "sign") "Reader" 1 m_Reader_sign := by
  obtain ⟨fd, Fd⟩ := T.def_ 25 (d := dd_Reader_sign) rfl
  exact FnOk.rawM (fnokm_of (N := N_Reader_sign) (ps := P_Reader_sign) Fd sc_Reader_sign rfl (fun cdv A outer s e0 H E B tk => (dss_cons (ds_if (db_cmp (opd_ne B.hu64) (de_view0 0 rfl (T.cls 34) (T.meth 38) ((ok_Reader_token T).mono (by decide)) B) (de_var 1) (nomark _)) (dss_one (ds_raise (fs := ["place"]) rfl (by decide) (ex_BadText T) (B.room.mono (by decide)) B.calm tk rfl (T.glo 40) (da_cons (de_fldO (T.cls 34) (T.noat 36) 0) da_nil))) dss_nil) (dss_cons (ds_if (db_of (dw_and (db_cmp (opd_eq B.hu64) (de_var 1) de_str (nomark _)) (dw_and1 (db_cmp (opd_eq B.hu64) (de_fldO (T.cls 34) (T.noat 37) 0) (de_kint (T.kint 42) rfl) (nomark _))))) (dss_one (ds_raise (fs := ["what"]) rfl (by decide) (ex_TooLarge T) (B.room.mono (by decide)) B.calm tk rfl (T.glo 16) (da_cons de_str da_nil))) dss_nil) (dss_one (ds_augF (T.cls 34) (T.noat 36) iopd_add 0 de_int)))))) (FunD.bindsN Fd fun _ _ _ _ _ _ us hl => match us, hl with | [_, _], _ => rfl)
def b_Reader_cut : FS := (fSeq (fSetX 2 (fMeth "Reader" "number" 0 m_Reader_number (fCons (fU dNeg (fC (.int 99))) (fCons (fC (.int 99)) fNil)))) (fSeq (fIfS (fTest (fB dIn (fView "Reader" "token" 0 m_Reader_token fNil) (fTup (fCons (fC (.str "")) (fCons (fC (.str ";")) (fCons (fC (.str ")")) fNil)))))) (fRet (fTup (fCons (fVar 1) (fCons (fVar 2) (fCons (fC (.int 0)) (fCons (fC (.int 1)) fNil)))))) fSkip) (fSeq (fSetX 3 (fMeth "Reader" "number" 0 m_Reader_number (fCons (fC (.int 0)) (fCons (fC (.int 9)) fNil)))) (fRetX (fTupX (fConsX (fPure (fVar 1)) (fConsX (fPure (fVar 2)) (fConsX (fPure (fVar 3)) (fConsX (fMeth "Reader" "number" 0 m_Reader_number (fCons (fL dMax2 (fCons (fC (.int 1)) (fCons (fVar 3) fNil))) (fCons (fC (.int 9)) fNil))) fNilX)))))))))
def m_Reader_cut : MF := runM "Reader" 4 b_Reader_cut
theorem ok_Reader_cut (T : TT K mg base) : FnM P w K mg base 4 (He.ma K (He.ga K "Reader") "cut") "Reader" 1 m_Reader_cut := by
  obtain ⟨fd, Fd⟩ := T.def_ 30 (d := dd_Reader_cut) rfl
  exact FnOk.rawM (fnokm_of (N := N_Reader_cut) (ps := P_Reader_cut) Fd sc_Reader_cut rfl (fun cdv A outer s e0 H E B tk => (dss_cons (ds_setX (i := 2) sc_Reader_cut.nd rfl (by first | exact .inl rfl | exact .inr rfl) (dx_meth 0 (T.cls 34) (T.meth 50) ((ok_Reader_number T).mono (by decide)) B (da_cons (de_un und_neg de_int) (da_cons de_int da_nil)))) (dss_cons (ds_if (db_cmp (opd_in B.hu) (de_view0 0 rfl (T.cls 34) (T.meth 38) ((ok_Reader_token T).mono (by decide)) B) (de_tup (da_cons de_str (da_cons de_str (da_cons de_str da_nil)))) (by with_unfolding_all rfl)) (dss_one (ds_ret (de_tup (da_cons (de_var 1) (da_cons (de_var 2) (da_cons de_int (da_cons de_int da_nil))))))) dss_nil) (dss_cons (ds_setX (i := 3) sc_Reader_cut.nd rfl (by first | exact .inl rfl | exact .inr rfl) (dx_meth 0 (T.cls 34) (T.meth 50) ((ok_Reader_number T).mono (by decide)) B (da_cons de_int (da_cons de_int da_nil)))) (dss_one (ds_retX (dx_tup (dxa_cons (dx_of (de_var 1)) (dxa_cons (dx_of (de_var 2)) (dxa_cons (dx_of (de_var 3)) (dxa_cons (dx_meth 0 (T.cls 34) (T.meth 50) ((ok_Reader_number T).mono (by decide)) B (da_cons (de_callB (cd_max2 B.calm) rfl (T.free 6) (by decide +kernel) (da_cons de_int (da_cons (de_var 3) da_nil))) (da_cons de_int da_nil))) dxa_nil)))))))))))) (FunD.bindsN Fd fun _ _ _ _ _ _ us hl => match us, hl with | [_, _], _ => rfl)
def l1_Reader_name_list : FS := (fAppX 1 (fMeth "Reader" "name" 0 m_Reader_name fNil))
def b_Reader_name_list : FS := (fSeq (fNewX 1 (fConsX (fMeth "Reader" "name" 0 m_Reader_name fNil) fNilX)) (fSeq (whileF (fTest (fCall m_is_name (fCons (fView "Reader" "token" 0 m_Reader_token fNil) fNil))) l1_Reader_name_list 1000) (fFrz 1 (fRet (fL dTuple (fCons (fVar 1) fNil))))))
def m_Reader_name_list : MF := runM "Reader" 2 b_Reader_name_list
theorem ok_Reader_name_list (T : TT K mg base) : FnM P w K mg base 4 (He.ma K (He.ga K "Reader") "name_list") "Reader" 0 m_Reader_name_list := by
  obtain ⟨fd, Fd⟩ := T.def_ 32 (d := dd_Reader_name_list) rfl
  exact FnOk.rawM (fnokm_of (N := N_Reader_name_list) (ps := P_Reader_name_list) Fd sc_Reader_name_list rfl (fun cdv A outer s e0 H E B tk => (dss_cons (ds_newX (i := 1) sc_Reader_name_list.nd rfl (by first | exact .inl rfl | exact .inr rfl) (dxa_cons (dx_meth0 0 (T.cls 34) (T.meth 51) ((ok_Reader_name T).mono (by decide)) B) dxa_nil)) (dss_cons (ds_while 1000 B.own (db_val (de_call ((ok_is_name T).mono (by decide)) B rfl (T.glo 41) (T.kp 20 (d := dd_is_name)) (da_cons (de_view0 0 rfl (T.cls 34) (T.meth 38) ((ok_Reader_token T).mono (by decide)) B) da_nil))) (dss_one (ds_appX (i := 1) (fun _ h => pe_bm PySem.F.plainAttrs_list PySem.F.slot_list_append PySem.F.type_list_append mt_append (pv 1) h) (dx_meth0 0 (T.cls 34) (T.meth 51) ((ok_Reader_name T).mono (by decide)) B)))) (dss_frz 1 (dss_one (ds_ret (de_callTy cd_tuple rfl (T.free 45) (by decide +kernel) (da_cons (de_var 1) da_nil))))))))) (FunD.bindsN Fd fun _ _ _ _ _ _ us hl => match us, hl with | [_], _ => rfl)
def l1_Reader_row (r_Reader_row : MF) (r_Reader_arm : MF) (r_Reader_part : MF) (r_Reader_other : MF) : FS := (fSeq (fAugF dAddS "Reader" 0 "at" (fC (.int 1))) (fAppX 1 (fMeth "Reader" "part" 0 r_Reader_part fNil)))
def b_Reader_row (r_Reader_row : MF) (r_Reader_arm : MF) (r_Reader_part : MF) (r_Reader_other : MF) : FS := (fSeq (fNewX 1 (fConsX (fMeth "Reader" "part" 0 r_Reader_part fNil) fNilX)) (fSeq (whileF (fTest (fB dEq (fView "Reader" "token" 0 m_Reader_token fNil) (fC (.str ";")))) (l1_Reader_row r_Reader_row r_Reader_arm r_Reader_part r_Reader_other) 1000) (fFrz 1 (fRet (fL dTuple (fCons (fVar 1) fNil))))))
def b_Reader_arm (r_Reader_row : MF) (r_Reader_arm : MF) (r_Reader_part : MF) (r_Reader_other : MF) : FS := (fSeq (fExpX (fMeth "Reader" "sign" 0 m_Reader_sign (fCons (fC (.str "(")) fNil))) (fSeq (fAugF dAddS "Reader" 0 "depth" (fC (.int 1))) (fSeq (fSetX 1 (fMeth "Reader" "row" 0 r_Reader_row fNil)) (fSeq (fAugF dSub "Reader" 0 "depth" (fC (.int 1))) (fSeq (fExpX (fMeth "Reader" "sign" 0 m_Reader_sign (fCons (fC (.str ")")) fNil))) (fRet (fVar 1)))))))
def b_Reader_part (r_Reader_row : MF) (r_Reader_arm : MF) (r_Reader_part : MF) (r_Reader_other : MF) : FS := (fSeq (fSet 1 (fView "Reader" "token" 0 m_Reader_token fNil)) (fSeq (fIfS (fTest (fB dNotIn (fVar 1) (fC k_WORDS))) (fRaise "BadText" (fCons (fFld "Reader" 0 "at") fNil)) fSkip) (fSeq (fAugF dAddS "Reader" 0 "at" (fC (.int 1))) (fSeq (fIfS (fTest (fB dIn (fVar 1) (fC k_PLAIN_WORDS))) (fRet (fTup (fCons (fVar 1) fNil))) fSkip) (fSeq (fIfS (fTest (fB dIn (fVar 1) (fC k_CUT_WORDS))) (fRetX (fMeth "Reader" "cut" 0 m_Reader_cut (fCons (fVar 1) fNil))) fSkip) (fRetX (fMeth "Reader" "other" 0 r_Reader_other (fCons (fVar 1) fNil))))))))
def b_Reader_other (r_Reader_row : MF) (r_Reader_arm : MF) (r_Reader_part : MF) (r_Reader_other : MF) : FS := (fSeq (fMatch (fVar 1) (fun (z : Str) => if z = ("put" : Str) then (fRetX (fTupX (fConsX (fPure (fVar 1)) (fConsX (fMeth "Reader" "name" 0 m_Reader_name fNil) fNilX)))) else (fun (z : Str) => if z = ("each" : Str) then (fSeq (fSetX 2 (fMeth "Reader" "number" 0 m_Reader_number (fCons (fC (.int 1)) (fCons (fC (.int 9)) fNil)))) (fRetX (fTupX (fConsX (fPure (fVar 1)) (fConsX (fPure (fVar 2)) (fConsX (fMeth "Reader" "number" 0 m_Reader_number (fCons (fC (.int 0)) (fCons (fB dSub (fVar 2) (fC (.int 1))) fNil))) fNilX)))))) else (fun (z : Str) => if z ∈ (["times", "again", "turn"] : List Str) then (fRetX (fTupX (fConsX (fPure (fVar 1)) (fConsX (fMeth "Reader" "number" 0 m_Reader_number (fCons (fC (.int 1)) (fCons (fC (.int 9)) fNil))) fNilX)))) else (fun (z : Str) => if z = ("map" : Str) then (fRetX (fTupX (fConsX (fPure (fVar 1)) (fConsX (fMeth "Reader" "name_list" 0 m_Reader_name_list fNil) fNilX)))) else (fun (z : Str) => if z = ("pair" : Str) then (fSetX 3 (fMeth "Reader" "name" 0 m_Reader_name fNil)) else (fun (z : Str) => if z = ("short" : Str) then (fSetX 3 (fMeth "Reader" "number" 0 m_Reader_number (fCons (fC (.int 0)) (fCons (fC (.int 99)) fNil)))) else (fun _ => (fSeq (fSetX 4 (fMeth "Reader" "arm" 0 r_Reader_arm fNil)) (fRetX (fTupX (fConsX (fPure (fVar 1)) (fConsX (fPure (fVar 4)) (fConsX (fMeth "Reader" "arm" 0 r_Reader_arm fNil) fNilX))))))) z) z) z) z) z) z)) (fSeq (fSetX 4 (fMeth "Reader" "arm" 0 r_Reader_arm fNil)) (fRetX (fTupX (fConsX (fPure (fVar 1)) (fConsX (fPure (fVar 3)) (fConsX (fPure (fVar 4)) (fConsX (fMeth "Reader" "arm" 0 r_Reader_arm fNil) fNilX))))))))
def g_Reader_row : Nat → (MF) × (MF) × (MF) × (MF)
  | 0 => (fun _ _ => .bad, fun _ _ => .bad, fun _ _ => .bad, fun _ _ => .bad)
  | n + 1 => (runM "Reader" 2 (b_Reader_row (g_Reader_row n).1 (g_Reader_row n).2.1 (g_Reader_row n).2.2.1 (g_Reader_row n).2.2.2), runM "Reader" 2 (b_Reader_arm (g_Reader_row n).1 (g_Reader_row n).2.1 (g_Reader_row n).2.2.1 (g_Reader_row n).2.2.2), runM "Reader" 2 (b_Reader_part (g_Reader_row n).1 (g_Reader_row n).2.1 (g_Reader_row n).2.2.1 (g_Reader_row n).2.2.2), runM "Reader" 5 (b_Reader_other (g_Reader_row n).1 (g_Reader_row n).2.1 (g_Reader_row n).2.2.1 (g_Reader_row n).2.2.2))
def m_Reader_row (n : Nat) : MF := (g_Reader_row n).1
def m_Reader_arm (n : Nat) : MF := (g_Reader_row n).2.1
def m_Reader_part (n : Nat) : MF := (g_Reader_row n).2.2.1
def m_Reader_other (n : Nat) : MF := (g_Reader_row n).2.2.2
theorem st_Reader_row (T : TT K mg base) {n : Nat} (hn : 0 ≤ n) {r_Reader_row : MF} {r_Reader_arm : MF} {r_Reader_part : MF} {r_Reader_other : MF} (h_Reader_row : FnM P w K mg base (4 + n) (He.ma K (He.ga K "Reader") "row") "Reader" 0 r_Reader_row) (h_Reader_arm : FnM P w K mg base (4 + n) (He.ma K (He.ga K "Reader") "arm") "Reader" 0 r_Reader_arm) (h_Reader_part : FnM P w K mg base (4 + n) (He.ma K (He.ga K "Reader") "part") "Reader" 0 r_Reader_part) (h_Reader_other : FnM P w K mg base (4 + n) (He.ma K (He.ga K "Reader") "other") "Reader" 1 r_Reader_other) : FnM P w K mg base (4 + n + 1) (He.ma K (He.ga K "Reader") "row") "Reader" 0 (runM "Reader" 2 (b_Reader_row r_Reader_row r_Reader_arm r_Reader_part r_Reader_other)) := by
  obtain ⟨fd, Fd⟩ := T.def_ 27 (d := dd_Reader_row) rfl
  exact FnOk.rawM (fnokm_of (N := N_Reader_row) (ps := P_Reader_row) Fd sc_Reader_row rfl (fun cdv A outer s e0 H E B tk => (dss_cons (ds_newX (i := 1) sc_Reader_row.nd rfl (by first | exact .inl rfl | exact .inr rfl) (dxa_cons (dx_meth0 0 (T.cls 34) (T.meth 44) h_Reader_part B) dxa_nil)) (dss_cons (ds_while 1000 B.own (db_cmp (opd_eq B.hu64) (de_view0 0 rfl (T.cls 34) (T.meth 38) ((ok_Reader_token T).mono (by omega)) B) de_str (nomark _)) (dss_cons (ds_augF (T.cls 34) (T.noat 36) iopd_add 0 de_int) (dss_one (ds_appX (i := 1) (fun _ h => pe_bm PySem.F.plainAttrs_list PySem.F.slot_list_append PySem.F.type_list_append mt_append (pv 1) h) (dx_meth0 0 (T.cls 34) (T.meth 44) h_Reader_part B))))) (dss_frz 1 (dss_one (ds_ret (de_callTy cd_tuple rfl (T.free 45) (by decide +kernel) (da_cons (de_var 1) da_nil))))))))) (FunD.bindsN Fd fun _ _ _ _ _ _ us hl => match us, hl with | [_], _ => rfl)
theorem st_Reader_arm (T : TT K mg base) {n : Nat} (hn : 0 ≤ n) {r_Reader_row : MF} {r_Reader_arm : MF} {r_Reader_part : MF} {r_Reader_other : MF} (h_Reader_row : FnM P w K mg base (4 + n) (He.ma K (He.ga K "Reader") "row") "Reader" 0 r_Reader_row) (h_Reader_arm : FnM P w K mg base (4 + n) (He.ma K (He.ga K "Reader") "arm") "Reader" 0 r_Reader_arm) (h_Reader_part : FnM P w K mg base (4 + n) (He.ma K (He.ga K "Reader") "part") "Reader" 0 r_Reader_part) (h_Reader_other : FnM P w K mg base (4 + n) (He.ma K (He.ga K "Reader") "other") "Reader" 1 r_Reader_other) : FnM P w K mg base (4 + n + 1) (He.ma K (He.ga K "Reader") "arm") "Reader" 0 (runM "Reader" 2 (b_Reader_arm r_Reader_row r_Reader_arm r_Reader_part r_Reader_other)) := by
  obtain ⟨fd, Fd⟩ := T.def_ 28 (d := dd_Reader_arm) rfl
  exact FnOk.rawM (fnokm_of (N := N_Reader_arm) (ps := P_Reader_arm) Fd sc_Reader_arm rfl (fun cdv A outer s e0 H E B tk => (dss_cons (ds_exprX (dx_meth 0 (T.cls 34) (T.meth 46) ((ok_Reader_sign T).mono (by omega)) B (da_cons de_str da_nil))) (dss_cons (ds_augF (T.cls 34) (T.noat 37) iopd_add 0 de_int) (dss_cons (ds_setX (i := 1) sc_Reader_arm.nd rfl (by first | exact .inl rfl | exact .inr rfl) (dx_meth0 0 (T.cls 34) (T.meth 43) h_Reader_row B)) (dss_cons (ds_augF (T.cls 34) (T.noat 37) iopd_sub 0 de_int) (dss_cons (ds_exprX (dx_meth 0 (T.cls 34) (T.meth 46) ((ok_Reader_sign T).mono (by omega)) B (da_cons de_str da_nil))) (dss_one (ds_ret (de_var 1)))))))))) (FunD.bindsN Fd fun _ _ _ _ _ _ us hl => match us, hl with | [_], _ => rfl)
theorem st_Reader_part (T : TT K mg base) {n : Nat} (hn : 0 ≤ n) {r_Reader_row : MF} {r_Reader_arm : MF} {r_Reader_part : MF} {r_Reader_other : MF} (h_Reader_row : FnM P w K mg base (4 + n) (He.ma K (He.ga K "Reader") "row") "Reader" 0 r_Reader_row) (h_Reader_arm : FnM P w K mg base (4 + n) (He.ma K (He.ga K "Reader") "arm") "Reader" 0 r_Reader_arm) (h_Reader_part : FnM P w K mg base (4 + n) (He.ma K (He.ga K "Reader") "part") "Reader" 0 r_Reader_part) (h_Reader_other : FnM P w K mg base (4 + n) (He.ma K (He.ga K "Reader") "other") "Reader" 1 r_Reader_other) : FnM P w K mg base (4 + n + 1) (He.ma K (He.ga K "Reader") "part") "Reader" 0 (runM "Reader" 2 (b_Reader_part r_Reader_row r_Reader_arm r_Reader_part r_Reader_other)) := by
  obtain ⟨fd, Fd⟩ := T.def_ 29 (d := dd_Reader_part) rfl
  exact FnOk.rawM (fnokm_of (N := N_Reader_part) (ps := P_Reader_part) Fd sc_Reader_part rfl (fun cdv A outer s e0 H E B tk => (dss_cons (ds_set (i := 1) sc_Reader_part.nd rfl (by first | exact .inl rfl | exact .inr rfl) (de_view0 0 rfl (T.cls 34) (T.meth 38) ((ok_Reader_token T).mono (by omega)) B)) (dss_cons (ds_if (db_cmp (opd_notIn B.hu) (de_var 1) (de_ktup (zs := z_WORDS) (T.ktup 17) (T.glo 31) rfl) (by with_unfolding_all rfl)) (dss_one (ds_raise (fs := ["place"]) rfl (by decide) (ex_BadText T) (B.room.mono (by omega)) B.calm tk rfl (T.glo 40) (da_cons (de_fldO (T.cls 34) (T.noat 36) 0) da_nil))) dss_nil) (dss_cons (ds_augF (T.cls 34) (T.noat 36) iopd_add 0 de_int) (dss_cons (ds_if (db_cmp (opd_in B.hu) (de_var 1) (de_ktup (zs := z_PLAIN_WORDS) (T.ktup 18) (T.glo 47) rfl) (by with_unfolding_all rfl)) (dss_one (ds_ret (de_tup (da_cons (de_var 1) da_nil)))) dss_nil) (dss_cons (ds_if (db_cmp (opd_in B.hu) (de_var 1) (de_ktup (zs := z_CUT_WORDS) (T.ktup 16) (T.glo 21) rfl) (by with_unfolding_all rfl)) (dss_one (ds_retX (dx_meth 0 (T.cls 34) (T.meth 48) ((ok_Reader_cut T).mono (by omega)) B (da_cons (de_var 1) da_nil)))) dss_nil) (dss_one (ds_retX (dx_meth 0 (T.cls 34) (T.meth 49) h_Reader_other B (da_cons (de_var 1) da_nil))))))))))) (FunD.bindsN Fd fun _ _ _ _ _ _ us hl => match us, hl with | [_], _ => rfl)
theorem st_Reader_other (T : TT K mg base) {n : Nat} (hn : 0 ≤ n) {r_Reader_row : MF} {r_Reader_arm : MF} {r_Reader_part : MF} {r_Reader_other : MF} (h_Reader_row : FnM P w K mg base (4 + n) (He.ma K (He.ga K "Reader") "row") "Reader" 0 r_Reader_row) (h_Reader_arm : FnM P w K mg base (4 + n) (He.ma K (He.ga K "Reader") "arm") "Reader" 0 r_Reader_arm) (h_Reader_part : FnM P w K mg base (4 + n) (He.ma K (He.ga K "Reader") "part") "Reader" 0 r_Reader_part) (h_Reader_other : FnM P w K mg base (4 + n) (He.ma K (He.ga K "Reader") "other") "Reader" 1 r_Reader_other) : FnM P w K mg base (4 + n + 1) (He.ma K (He.ga K "Reader") "other") "Reader" 1 (runM "Reader" 5 (b_Reader_other r_Reader_row r_Reader_arm r_Reader_part r_Reader_other)) := by
  obtain ⟨fd, Fd⟩ := T.def_ 31 (d := dd_Reader_other) rfl
  exact FnOk.rawM (fnokm_of (N := N_Reader_other) (ps := P_Reader_other) Fd sc_Reader_other rfl (fun cdv A outer s e0 H E B tk => (dss_cons (ds_match (de_var 1) (dm_val (dss_one (ds_retX (dx_tup (dxa_cons (dx_of (de_var 1)) (dxa_cons (dx_meth0 0 (T.cls 34) (T.meth 51) ((ok_Reader_name T).mono (by omega)) B) dxa_nil))))) (dm_val (dss_cons (ds_setX (i := 2) sc_Reader_other.nd rfl (by first | exact .inl rfl | exact .inr rfl) (dx_meth 0 (T.cls 34) (T.meth 50) ((ok_Reader_number T).mono (by omega)) B (da_cons de_int (da_cons de_int da_nil)))) (dss_one (ds_retX (dx_tup (dxa_cons (dx_of (de_var 1)) (dxa_cons (dx_of (de_var 2)) (dxa_cons (dx_meth 0 (T.cls 34) (T.meth 50) ((ok_Reader_number T).mono (by omega)) B (da_cons de_int (da_cons (de_op opd_sub (de_var 2) de_int) da_nil))) dxa_nil))))))) (dm_or (dor_cons (dor_cons (dor_cons dor_nil))) rfl (dss_one (ds_retX (dx_tup (dxa_cons (dx_of (de_var 1)) (dxa_cons (dx_meth 0 (T.cls 34) (T.meth 50) ((ok_Reader_number T).mono (by omega)) B (da_cons de_int (da_cons de_int da_nil))) dxa_nil))))) (dm_val (dss_one (ds_retX (dx_tup (dxa_cons (dx_of (de_var 1)) (dxa_cons (dx_meth0 0 (T.cls 34) (T.meth 52) ((ok_Reader_name_list T).mono (by omega)) B) dxa_nil))))) (dm_val (dss_one (ds_setX (i := 3) sc_Reader_other.nd rfl (by first | exact .inl rfl | exact .inr rfl) (dx_meth0 0 (T.cls 34) (T.meth 51) ((ok_Reader_name T).mono (by omega)) B))) (dm_val (dss_one (ds_setX (i := 3) sc_Reader_other.nd rfl (by first | exact .inl rfl | exact .inr rfl) (dx_meth 0 (T.cls 34) (T.meth 50) ((ok_Reader_number T).mono (by omega)) B (da_cons de_int (da_cons de_int da_nil))))) (dm_any (dss_cons (ds_setX (i := 4) sc_Reader_other.nd rfl (by first | exact .inl rfl | exact .inr rfl) (dx_meth0 0 (T.cls 34) (T.meth 53) h_Reader_arm B)) (dss_one (ds_retX (dx_tup (dxa_cons (dx_of (de_var 1)) (dxa_cons (dx_of (de_var 4)) (dxa_cons (dx_meth0 0 (T.cls 34) (T.meth 53) h_Reader_arm B) dxa_nil))))))))))))))) (dss_cons (ds_setX (i := 4) sc_Reader_other.nd rfl (by first | exact .inl rfl | exact .inr rfl) (dx_meth0 0 (T.cls 34) (T.meth 53) h_Reader_arm B)) (dss_one (ds_retX (dx_tup (dxa_cons (dx_of (de_var 1)) (dxa_cons (dx_of (de_var 3)) (dxa_cons (dx_of (de_var 4)) (dxa_cons (dx_meth0 0 (T.cls 34) (T.meth 53) h_Reader_arm B) dxa_nil))))))))))) (FunD.bindsN Fd fun _ _ _ _ _ _ us hl => match us, hl with | [_, _], _ => rfl)
theorem all_Reader_row (T : TT K mg base) : ∀ n : Nat, FnM P w K mg base (4 + n) (He.ma K (He.ga K "Reader") "row") "Reader" 0 (m_Reader_row n) ∧ FnM P w K mg base (4 + n) (He.ma K (He.ga K "Reader") "arm") "Reader" 0 (m_Reader_arm n) ∧ FnM P w K mg base (4 + n) (He.ma K (He.ga K "Reader") "part") "Reader" 0 (m_Reader_part n) ∧ FnM P w K mg base (4 + n) (He.ma K (He.ga K "Reader") "other") "Reader" 1 (m_Reader_other n)
  | 0 => ⟨fnm_zero, fnm_zero, fnm_zero, fnm_zero⟩
  | n + 1 => by
    have ih := all_Reader_row T n
    exact ⟨st_Reader_row T (Nat.zero_le _) ih.1 ih.2.1 ih.2.2.1 ih.2.2.2, st_Reader_arm T (Nat.zero_le _) ih.1 ih.2.1 ih.2.2.1 ih.2.2.2, st_Reader_part T (Nat.zero_le _) ih.1 ih.2.1 ih.2.2.1 ih.2.2.2, st_Reader_other T (Nat.zero_le _) ih.1 ih.2.1 ih.2.2.1 ih.2.2.2⟩
theorem ok_Reader_row (T : TT K mg base) (n : Nat) : FnM P w K mg base (4 + n) (He.ma K (He.ga K "Reader") "row") "Reader" 0 (m_Reader_row n) := (all_Reader_row T n).1
def b_Reader_whole_row : FS := (fSeq (fSetX 1 (fMeth "Reader" "row" 0 (m_Reader_row 60) fNil)) (fSeq (fIfS (fTest (fB dLt (fFld "Reader" 0 "at") (fL dLen (fCons (fFld "Reader" 0 "tokens") fNil)))) (fRaise "BadText" (fCons (fFld "Reader" 0 "at") fNil)) fSkip) (fRet (fVar 1))))
def m_Reader_whole_row : MF := runM "Reader" 2 b_Reader_whole_row
theorem ok_Reader_whole_row (T : TT K mg base) : FnM P w K mg base 65 (He.ma K (He.ga K "Reader") "whole_row") "Reader" 0 m_Reader_whole_row := by
  obtain ⟨fd, Fd⟩ := T.def_ 26 (d := dd_Reader_whole_row) rfl
  exact FnOk.rawM (fnokm_of (N := N_Reader_whole_row) (ps := P_Reader_whole_row) Fd sc_Reader_whole_row rfl (fun cdv A outer s e0 H E B tk => (dss_cons (ds_setX (i := 1) sc_Reader_whole_row.nd rfl (by first | exact .inl rfl | exact .inr rfl) (dx_meth0 0 (T.cls 34) (T.meth 43) ((ok_Reader_row T 60).mono (by decide)) B)) (dss_cons (ds_if (db_cmp opd_lt (de_fldO (T.cls 34) (T.noat 36) 0) (de_callB cd_len rfl (T.free 2) (by decide +kernel) (da_cons (de_fldO (T.cls 34) (T.noat 35) 0) da_nil)) (nomark _)) (dss_one (ds_raise (fs := ["place"]) rfl (by decide) (ex_BadText T) (B.room.mono (by decide)) B.calm tk rfl (T.glo 40) (da_cons (de_fldO (T.cls 34) (T.noat 36) 0) da_nil))) dss_nil) (dss_one (ds_ret (de_var 1))))))) (FunD.bindsN Fd fun _ _ _ _ _ _ us hl => match us, hl with | [_], _ => rfl)
def b_row_of : FS := (fRet (fMakeM "whole_row" m_Reader___init__ m_Reader_whole_row (fCons (fVar 0) fNil)))
def m_row_of : List D → R D := runD 1 b_row_of
theorem ok_row_of (T : TT K mg base) : FnG P w K mg base 66 (He.ga K "row_of") 1 m_row_of := by
  obtain ⟨fd, Fd⟩ := T.def_ 33 (d := dd_row_of) rfl
  exact fng_of (N := N_row_of) Fd sc_row_of (FunD.bindsN Fd fun _ _ _ _ _ _ us hl => match us, hl with | [_], _ => rfl) (fun cdv A outer s e0 H E B tk => (dss_one (ds_ret (de_makeM (T.cls 34) (T.meth 54) ((ok_Reader_whole_row T).mono (by decide)) (T.mkr 55) (ok_Reader___init__ T).choose_spec.1 (ok_Reader___init__ T).choose_spec.2 (B.room.mono (by decide)) rfl (T.glo 56) B (da_cons (de_var 0) da_nil)))))
def l1_text_of_part (r_text_of_part : List D → R D) (r_text_of : List D → R D) : FS := (fApp 1 (fB dAdd (fB dAdd (fC (.str "(")) (fCall r_text_of (fCons (fVar 3) fNil))) (fC (.str ")"))))
def b_text_of_part (r_text_of_part : List D → R D) (r_text_of : List D → R D) : FS := (fSeq (fNew 1 (fCons (fB dIx (fVar 0) (fC (.int 0))) fNil)) (fSeq (fIfS (fTest (fB dEq (fB dIx (fVar 0) (fC (.int 0))) (fC (.str "map")))) (fExt 1 (fL dList (fCons (fB dIx (fVar 0) (fC (.int 1))) fNil))) (fIfS (fAndB (fTest (fB dIn (fB dIx (fVar 0) (fC (.int 0))) (fC k_CUT_WORDS))) (fAndB (fTest (fB dEq (fB dIx (fVar 0) (fC (.int 2))) (fC (.int 0)))) (fTest (fB dEq (fB dIx (fVar 0) (fC (.int 3))) (fC (.int 1)))))) (fApp 1 (fL dStr (fCons (fB dIx (fVar 0) (fC (.int 1))) fNil))) (fExt 1 (fLc (fItems (fSl (fVar 0) (fSome (fC (.int 1))) (fSome (fB dSub (fL dLen (fCons (fVar 0) fNil)) (fL dLen (fCons (fCall m_arms_of (fCons (fVar 0) fNil)) fNil)))))) 2 fYes (fL dStr (fCons (fVar 2) fNil)))))) (fSeq (fFor (fItems (fCall m_arms_of (fCons (fVar 0) fNil))) (pName 3) (l1_text_of_part r_text_of_part r_text_of)) (fFrz 1 (fRet (fJoin (fC (.str " ")) (fVar 1)))))))
def b_text_of (r_text_of_part : List D → R D) (r_text_of : List D → R D) : FS := (fRet (fJoin (fC (.str "; ")) (fLc (fItems (fVar 0)) 1 fYes (fCall r_text_of_part (fCons (fVar 1) fNil)))))
def g_text_of_part : Nat → (List D → R D) × (List D → R D)
  | 0 => (fun _ => .bad, fun _ => .bad)
  | n + 1 => (runD 4 (b_text_of_part (g_text_of_part n).1 (g_text_of_part n).2), runD 2 (b_text_of (g_text_of_part n).1 (g_text_of_part n).2))
def m_text_of_part (n : Nat) : List D → R D := (g_text_of_part n).1
def m_text_of (n : Nat) : List D → R D := (g_text_of_part n).2
theorem st_text_of_part (T : TT K mg base) {n : Nat} (hn : 0 ≤ n) {r_text_of_part : List D → R D} {r_text_of : List D → R D} (h_text_of_part : FnG P w K mg base (1 + n) (He.ga K "text_of_part") 1 r_text_of_part) (h_text_of : FnG P w K mg base (1 + n) (He.ga K "text_of") 1 r_text_of) : FnG P w K mg base (1 + n + 1) (He.ga K "text_of_part") 1 (runD 4 (b_text_of_part r_text_of_part r_text_of)) := by
  obtain ⟨fd, Fd⟩ := T.def_ 34 (d := dd_text_of_part) rfl
  exact fng_of (N := N_text_of_part) Fd sc_text_of_part (FunD.bindsN Fd fun _ _ _ _ _ _ us hl => match us, hl with | [_], _ => rfl) (fun cdv A outer s e0 H E B tk => (dss_cons (ds_new (i := 1) sc_text_of_part.nd rfl (by first | exact .inl rfl | exact .inr rfl) (da_cons (de_ix (ixd_all B.hu) (de_var 0) de_int (fun _ _ => rfl)) da_nil)) (dss_cons (ds_if (db_cmp (opd_eq B.hu64) (de_ix (ixd_all B.hu) (de_var 0) de_int (fun _ _ => rfl)) de_str (nomark _)) (dss_one (ds_ext (i := 1) (fun _ h => pe_bm PySem.F.plainAttrs_list PySem.F.slot_list_extend PySem.F.type_list_extend mt_extend (pv 1) h) (de_callTy cd_list rfl (T.free 57) (by decide +kernel) (da_cons (de_ix (ixd_all B.hu) (de_var 0) de_int (fun _ _ => rfl)) da_nil)))) (dss_one (ds_if (db_of (dw_and (db_cmp (opd_in B.hu) (de_ix (ixd_all B.hu) (de_var 0) de_int (fun _ _ => rfl)) (de_ktup (zs := z_CUT_WORDS) (T.ktup 16) (T.glo 21) rfl) (by with_unfolding_all rfl)) (dw_and (db_cmp (opd_eq B.hu64) (de_ix (ixd_all B.hu) (de_var 0) de_int (fun _ _ => rfl)) de_int (nomark _)) (dw_and1 (db_cmp (opd_eq B.hu64) (de_ix (ixd_all B.hu) (de_var 0) de_int (fun _ _ => rfl)) de_int (nomark _)))))) (dss_one (ds_app (i := 1) (fun _ h => pe_bm PySem.F.plainAttrs_list PySem.F.slot_list_append PySem.F.type_list_append mt_append (pv 1) h) (de_callTy cd_str rfl (T.free 58) (by decide +kernel) (da_cons (de_ix (ixd_all B.hu) (de_var 0) de_int (fun _ _ => rfl)) da_nil)))) (dss_one (ds_ext (i := 1) (fun _ h => pe_bm PySem.F.plainAttrs_list PySem.F.slot_list_extend PySem.F.type_list_extend mt_extend (pv 1) h) (de_lc B.calm sc_text_of_part.nd (di_seq (de_slice (de_var 0) (do_some de_int) (do_some (de_op opd_sub (de_callB cd_len rfl (T.free 2) (by decide +kernel) (da_cons (de_var 0) da_nil)) (de_callB cd_len rfl (T.free 2) (by decide +kernel) (da_cons (de_call ((ok_arms_of T).mono (by omega)) B rfl (T.glo 3) (T.kp 0 (d := dd_arms_of)) (da_cons (de_var 0) da_nil)) da_nil)))))) (own := [("told", 2)]) (blkOk_by (N := N_text_of_part) (sc := defScope s_text_of_part) (by decide +kernel)) rfl (fun _ _ _ _ _ => pg_name (i := 2) sc_text_of_part.nd rfl (Or.inl rfl)) (fun _ _ _ _ _ => dts_nil) (fun _ _ _ _ _ => (de_callTy cd_str rfl (T.free 58) (by decide +kernel) (da_cons (de_var 2) da_nil))))))))) (dss_cons (ds_for B.own B.calm (di_seq (de_call ((ok_arms_of T).mono (by omega)) B rfl (T.glo 3) (T.kp 0 (d := dd_arms_of)) (da_cons (de_var 0) da_nil))) (dg_name 3 sc_text_of_part.nd rfl (by first | exact .inl rfl | exact .inr rfl)) (dss_one (ds_app (i := 1) (fun _ h => pe_bm PySem.F.plainAttrs_list PySem.F.slot_list_append PySem.F.type_list_append mt_append (pv 1) h) (de_op opd_add (de_op opd_add de_str (de_call h_text_of B rfl (T.glo 59) (T.kp 35 (d := dd_text_of)) (da_cons (de_var 3) da_nil))) de_str)))) (dss_frz 1 (dss_one (ds_ret (de_join de_str (de_var 1)))))))))
theorem st_text_of (T : TT K mg base) {n : Nat} (hn : 0 ≤ n) {r_text_of_part : List D → R D} {r_text_of : List D → R D} (h_text_of_part : FnG P w K mg base (1 + n) (He.ga K "text_of_part") 1 r_text_of_part) (h_text_of : FnG P w K mg base (1 + n) (He.ga K "text_of") 1 r_text_of) : FnG P w K mg base (1 + n + 1) (He.ga K "text_of") 1 (runD 2 (b_text_of r_text_of_part r_text_of)) := by
  obtain ⟨fd, Fd⟩ := T.def_ 35 (d := dd_text_of) rfl
  exact fng_of (N := N_text_of) Fd sc_text_of (FunD.bindsN Fd fun _ _ _ _ _ _ us hl => match us, hl with | [_], _ => rfl) (fun cdv A outer s e0 H E B tk => (dss_one (ds_ret (de_join de_str (de_lc B.calm sc_text_of.nd (di_seq (de_var 0)) (own := [("part", 1)]) (blkOk_by (N := N_text_of) (sc := defScope s_text_of) (by decide +kernel)) rfl (fun _ _ _ _ _ => pg_name (i := 1) sc_text_of.nd rfl (Or.inl rfl)) (fun _ _ _ _ _ => dts_nil) (fun _ _ _ _ _ => (de_call h_text_of_part (B.blk) rfl (T.glo 60) (T.kp 34 (d := dd_text_of_part)) (da_cons (de_var 1) da_nil))))))))
theorem all_text_of_part (T : TT K mg base) : ∀ n : Nat, FnG P w K mg base (1 + n) (He.ga K "text_of_part") 1 (m_text_of_part n) ∧ FnG P w K mg base (1 + n) (He.ga K "text_of") 1 (m_text_of n)
  | 0 => ⟨fng_zero, fng_zero⟩
  | n + 1 => by
    have ih := all_text_of_part T n
    exact ⟨st_text_of_part T (Nat.zero_le _) ih.1 ih.2, st_text_of T (Nat.zero_le _) ih.1 ih.2⟩
theorem ok_text_of_part (T : TT K mg base) (n : Nat) : FnG P w K mg base (1 + n) (He.ga K "text_of_part") 1 (m_text_of_part n) := (all_text_of_part T n).1
theorem ok_text_of (T : TT K mg base) (n : Nat) : FnG P w K mg base (1 + n) (He.ga K "text_of") 1 (m_text_of n) := (all_text_of_part T n).2
def b_measured_program : FS := (fSeq (fIfS (fTest (fB dGt (fCall (m_depth_of 60) (fCons (fVar 0) fNil)) (fC (.int 6)))) (fRaise "TooLarge" (fCons (fC (.str "depth")) fNil)) fSkip) (fSeq (fIfS (fTest (fB dGt (fCall (m_count_parts 60) (fCons (fVar 0) fNil)) (fC (.int 24)))) (fRaise "TooLarge" (fCons (fC (.str "parts")) fNil)) fSkip) (fSeq (fSet 1 (fCall m_mixed_name (fCons (fVar 0) fNil))) (fSeq (fIfS (fTest (fU dNotN (fVar 1))) (fRaise "MixedName" (fCons (fVar 1) fNil)) fSkip) (fRet (fCall (m_measured 60) (fCons (fVar 0) (fCons (fMakeSK "Numbers" 8 (gMrg [false, false, false, false, false, false, false, false] [1, 1, 1, 0, 1, 1, 1, 1]) fNil) fNil))))))))
def m_measured_program : List D → R D := runD 2 b_measured_program
theorem ok_measured_program (T : TT K mg base) : FnG P w K mg base 67 (He.ga K "measured_program") 1 m_measured_program := by
  obtain ⟨fd, Fd⟩ := T.def_ 36 (d := dd_measured_program) rfl
  exact fng_of (N := N_measured_program) Fd sc_measured_program (FunD.bindsN Fd fun _ _ _ _ _ _ us hl => match us, hl with | [_], _ => rfl) (fun cdv A outer s e0 H E B tk => (dss_cons (ds_if (db_cmp opd_gt (de_call ((ok_depth_of T 60).mono (by decide)) B rfl (T.glo 5) (T.kp 2 (d := dd_depth_of)) (da_cons (de_var 0) da_nil)) (de_kint (T.kint 42) rfl) (nomark _)) (dss_one (ds_raise (fs := ["what"]) rfl (by decide) (ex_TooLarge T) (B.room.mono (by decide)) B.calm tk rfl (T.glo 16) (da_cons de_str da_nil))) dss_nil) (dss_cons (ds_if (db_cmp opd_gt (de_call ((ok_count_parts T 60).mono (by decide)) B rfl (T.glo 4) (T.kp 1 (d := dd_count_parts)) (da_cons (de_var 0) da_nil)) (de_kint (T.kint 61) rfl) (nomark _)) (dss_one (ds_raise (fs := ["what"]) rfl (by decide) (ex_TooLarge T) (B.room.mono (by decide)) B.calm tk rfl (T.glo 16) (da_cons de_str da_nil))) dss_nil) (dss_cons (ds_set (i := 1) sc_measured_program.nd rfl (by first | exact .inl rfl | exact .inr rfl) (de_call ((ok_mixed_name T).mono (by decide)) B rfl (T.glo 62) (T.kp 5 (d := dd_mixed_name)) (da_cons (de_var 0) da_nil))) (dss_cons (ds_if (db_notN (de_var 1)) (dss_one (ds_raise (fs := ["name"]) rfl (by decide) (ex_MixedName T) (B.room.mono (by decide)) B.calm tk rfl (T.glo 63) (da_cons (de_var 1) da_nil))) dss_nil) (dss_one (ds_ret (de_call ((ok_measured T 60).mono (by decide)) B rfl (T.glo 19) (T.kp 17 (d := dd_measured)) (da_cons (de_var 0) (da_cons (mk_00000000 T B (B.room.mono (by decide)) rfl (T.glo 9) dk_nil) da_nil))))))))))
def b_Program___init__ : FS := (fSeq (fPutF "Program" 0 "_numbers" (fCall m_measured_program (fCons (fVar 1) fNil))) (fSeq (fPutF "Program" 0 "_parts" (fVar 1)) (fPutF "Program" 0 "_texts" (fLc (fItems (fVar 1)) 2 fYes (fCall (m_text_of_part 60) (fCons (fVar 2) fNil))))))
def m_Program___init__ : MF := runM "Program" 3 b_Program___init__
theorem ok_Program___init__ (T : TT K mg base) : ∃ fd : FuncData, FnOk P w K mg base (L2.CX P w) 68 (He.ma K (He.ga K "Program") "__init__") fd P_Program___init__ (spM K "Program" 1 m_Program___init__) ∧ L2.Binds K fd P_Program___init__ [] := by
  obtain ⟨fd, Fd⟩ := T.def_ 37 (d := dd_Program___init__) rfl
  exact ⟨fd, fnokm_of (N := N_Program___init__) (ps := P_Program___init__) Fd sc_Program___init__ rfl (fun cdv A outer s e0 H E B tk => (dss_cons (ds_fldO (T.cls 65) (T.noat 66) 0 (de_call ((ok_measured_program T).mono (by decide)) B rfl (T.glo 64) (T.kp 36 (d := dd_measured_program)) (da_cons (de_var 1) da_nil))) (dss_cons (ds_fldO (T.cls 65) (T.noat 67) 0 (de_var 1)) (dss_one (ds_fldO (T.cls 65) (T.noat 68) 0 (de_lc B.calm sc_Program___init__.nd (di_seq (de_var 1)) (own := [("part", 2)]) (blkOk_by (N := N_Program___init__) (sc := defScope s_Program___init__) (by decide +kernel)) rfl (fun _ _ _ _ _ => pg_name (i := 2) sc_Program___init__.nd rfl (Or.inl rfl)) (fun _ _ _ _ _ => dts_nil) (fun _ _ _ _ _ => (de_call ((ok_text_of_part T 60).mono (by decide)) (B.blk) rfl (T.glo 60) (T.kp 34 (d := dd_text_of_part)) (da_cons (de_var 2) da_nil))))))))), (FunD.bindsN Fd fun _ _ _ _ _ _ us hl => match us, hl with | [_, _], _ => rfl)⟩
def b_Program_read : FS := (fRet (fMakeL "Program" 0 m_Program___init__ (fCons (fCall m_row_of (fCons (fVar 1) fNil)) fNil)))
def m_Program_read : List D → R D := runD 2 b_Program_read
theorem ok_Program_read (T : TT K mg base) : FnG P w K mg base 70 (recA K (He.ma K (He.ga K "Program") "read") "classmethod") 2 m_Program_read := by
  obtain ⟨fd, Fd⟩ := T.defy 2 (d := dy_Program_read) rfl
  exact fng_of (N := N_Program_read) Fd sc_Program_read (FunD.bindsN Fd fun _ _ _ _ _ _ us hl => match us, hl with | [_, _], _ => rfl) (fun cdv A outer s e0 H E B tk => (dss_one (ds_ret (de_makeL 0 rfl (T.mkr 70) (ok_Program___init__ T).choose_spec.1 (ok_Program___init__ T).choose_spec.2 (B.room.mono (by decide)) B (da_cons (de_call ((ok_row_of T).mono (by decide)) B rfl (T.glo 69) (T.kp 33 (d := dd_row_of)) (da_cons (de_var 1) da_nil)) da_nil)))))
def b_Program_text : FS := (fRet (fCall (m_text_of 60) (fCons (fU (dFld "Program" "_parts") (fVar 0)) fNil)))
def m_Program_text : List D → R D := runD 1 b_Program_text
theorem ok_Program_text (T : TT K mg base) : ∃ fd : FuncData, FnOk P w K mg base (L2.CX P w) 62 (recA K (He.ma K (He.ga K "Program") "text") "property") fd P_Program_text (spD K 1 m_Program_text) ∧ L2.Binds K fd P_Program_text [] := by
  obtain ⟨fd, Fd⟩ := T.defy 3 (d := dy_Program_text) rfl
  exact ⟨fd, fnok_of (N := N_Program_text) (ps := P_Program_text) Fd sc_Program_text (fun cdv A outer s e0 H E B tk => (dss_one (ds_ret (de_call ((ok_text_of T 60).mono (by decide)) B rfl (T.glo 59) (T.kp 35 (d := dd_text_of)) (da_cons (de_fld rfl (T.cls 65) (T.noat 67) (de_var 0)) da_nil))))), (FunD.bindsN Fd fun _ _ _ _ _ _ us hl => match us, hl with | [_], _ => rfl)⟩
def b_Program_row_texts : FS := (fRet (fL dList (fCons (fU (dFld "Program" "_texts") (fVar 0)) fNil)))
def m_Program_row_texts : List D → R D := runD 1 b_Program_row_texts
theorem ok_Program_row_texts (T : TT K mg base) : ∃ fd : FuncData, FnOk P w K mg base (L2.CX P w) 1 (recA K (He.ma K (He.ga K "Program") "row_texts") "property") fd P_Program_row_texts (spD K 1 m_Program_row_texts) ∧ L2.Binds K fd P_Program_row_texts [] := by
  obtain ⟨fd, Fd⟩ := T.defy 4 (d := dy_Program_row_texts) rfl
  exact ⟨fd, fnok_of (N := N_Program_row_texts) (ps := P_Program_row_texts) Fd sc_Program_row_texts (fun cdv A outer s e0 H E B tk => (dss_one (ds_ret (de_callTy cd_list rfl (T.free 57) (by decide +kernel) (da_cons (de_fld rfl (T.cls 65) (T.noat 68) (de_var 0)) da_nil))))), (FunD.bindsN Fd fun _ _ _ _ _ _ us hl => match us, hl with | [_], _ => rfl)⟩
def mF_Program_row_texts : List D → R (List D) := runF 1 (fListE (fU (dFld "Program" "_texts") (fVar 0)))
theorem okF_Program_row_texts (T : TT K mg base) : ∃ fd : FuncData, FnOk P w K mg base (L2.CX P w) 1 (recA K (He.ma K (He.ga K "Program") "row_texts") "property") fd P_Program_row_texts (spF K 1 mF_Program_row_texts) ∧ L2.Binds K fd P_Program_row_texts [] := by
  obtain ⟨fd, Fd⟩ := T.defy 4 (d := dy_Program_row_texts) rfl
  exact ⟨fd, fnokF_of (N := N_Program_row_texts) (ps := P_Program_row_texts) Fd sc_Program_row_texts rfl (fun cdv A outer s H E B tk => (df_listE (de_fld rfl (T.cls 65) (T.noat 68) (de_var 0)) rfl (T.free 57))), (FunD.bindsN Fd fun _ _ _ _ _ _ us hl => match us, hl with | [_], _ => rfl)⟩
def b_Program_names : FS := (fRet (fCall m_names_of (fCons (fU (dFld "Program" "_parts") (fVar 0)) fNil)))
def m_Program_names : List D → R D := runD 1 b_Program_names
theorem ok_Program_names (T : TT K mg base) : ∃ fd : FuncData, FnOk P w K mg base (L2.CX P w) 63 (recA K (He.ma K (He.ga K "Program") "names") "property") fd P_Program_names (spD K 1 m_Program_names) ∧ L2.Binds K fd P_Program_names [] := by
  obtain ⟨fd, Fd⟩ := T.defy 5 (d := dy_Program_names) rfl
  exact ⟨fd, fnok_of (N := N_Program_names) (ps := P_Program_names) Fd sc_Program_names (fun cdv A outer s e0 H E B tk => (dss_one (ds_ret (de_call ((ok_names_of T).mono (by decide)) B rfl (T.glo 71) (T.kp 4 (d := dd_names_of)) (da_cons (de_fld rfl (T.cls 65) (T.noat 67) (de_var 0)) da_nil))))), (FunD.bindsN Fd fun _ _ _ _ _ _ us hl => match us, hl with | [_], _ => rfl)⟩
def mF_Program_names : List D → R (List D) := runF 1 (fCallT m_names_of (fCons (fU (dFld "Program" "_parts") (fVar 0)) fNil))
theorem okF_Program_names (T : TT K mg base) : ∃ fd : FuncData, FnOk P w K mg base (L2.CX P w) 63 (recA K (He.ma K (He.ga K "Program") "names") "property") fd P_Program_names (spF K 1 mF_Program_names) ∧ L2.Binds K fd P_Program_names [] := by
  obtain ⟨fd, Fd⟩ := T.defy 5 (d := dy_Program_names) rfl
  exact ⟨fd, fnokF_of (N := N_Program_names) (ps := P_Program_names) Fd sc_Program_names rfl (fun cdv A outer s H E B tk => (df_callT ((ok_names_of T).mono (by decide)) B rfl (T.glo 71) (T.kp 4 (d := dd_names_of)) (da_cons (de_fld rfl (T.cls 65) (T.noat 67) (de_var 0)) da_nil))), (FunD.bindsN Fd fun _ _ _ _ _ _ us hl => match us, hl with | [_], _ => rfl)⟩
def b_Program_parts : FS := (fRet (fCall (m_count_parts 60) (fCons (fU (dFld "Program" "_parts") (fVar 0)) fNil)))
def m_Program_parts : List D → R D := runD 1 b_Program_parts
theorem ok_Program_parts (T : TT K mg base) : ∃ fd : FuncData, FnOk P w K mg base (L2.CX P w) 62 (recA K (He.ma K (He.ga K "Program") "parts") "property") fd P_Program_parts (spD K 1 m_Program_parts) ∧ L2.Binds K fd P_Program_parts [] := by
  obtain ⟨fd, Fd⟩ := T.defy 6 (d := dy_Program_parts) rfl
  exact ⟨fd, fnok_of (N := N_Program_parts) (ps := P_Program_parts) Fd sc_Program_parts (fun cdv A outer s e0 H E B tk => (dss_one (ds_ret (de_call ((ok_count_parts T 60).mono (by decide)) B rfl (T.glo 4) (T.kp 1 (d := dd_count_parts)) (da_cons (de_fld rfl (T.cls 65) (T.noat 67) (de_var 0)) da_nil))))), (FunD.bindsN Fd fun _ _ _ _ _ _ us hl => match us, hl with | [_], _ => rfl)⟩
def b_Program___len__ : FS := (fRet (fL dLen (fCons (fU (dFld "Program" "_texts") (fVar 0)) fNil)))
def m_Program___len__ : List D → R D := runD 1 b_Program___len__
theorem ok_Program___len__ (T : TT K mg base) : FnG P w K mg base 1 (He.ma K (He.ga K "Program") "__len__") 1 m_Program___len__ := by
  obtain ⟨fd, Fd⟩ := T.def_ 38 (d := dd_Program___len__) rfl
  exact fng_of (N := N_Program___len__) Fd sc_Program___len__ (FunD.bindsN Fd fun _ _ _ _ _ _ us hl => match us, hl with | [_], _ => rfl) (fun cdv A outer s e0 H E B tk => (dss_one (ds_ret (de_callB cd_len rfl (T.free 2) (by decide +kernel) (da_cons (de_fld rfl (T.cls 65) (T.noat 68) (de_var 0)) da_nil)))))
def mI_Program___iter__ : List D → R (List D) := runF 1 (fListO (fU (dFld "Program" "_texts") (fVar 0)))
theorem ok_Program___iter__ (T : TT K mg base) : FnIt P w K mg base 1 (He.ma K (He.ga K "Program") "__iter__") 1 mI_Program___iter__ := by
  obtain ⟨fd, Fd⟩ := T.def_ 39 (d := dd_Program___iter__) rfl
  exact fnit_of (N := N_Program___iter__) (ps := P_Program___iter__) Fd sc_Program___iter__ rfl (FunD.bindsN Fd fun _ _ _ _ _ _ us hl => match us, hl with | [_], _ => rfl) (fun cdv A outer s H E B tk => (pe_iterE (de_fld rfl (T.cls 65) (T.noat 68) (de_var 0)) rfl (T.free 72)))
def b_Program___contains__ : FS := (fRet (fB dIn (fVar 1) (fCall m_names_of (fCons (fU (dFld "Program" "_parts") (fVar 0)) fNil))))
def m_Program___contains__ : List D → R D := runD 2 b_Program___contains__
theorem ok_Program___contains__ (T : TT K mg base) : FnG P w K mg base 63 (He.ma K (He.ga K "Program") "__contains__") 2 m_Program___contains__ := by
  obtain ⟨fd, Fd⟩ := T.def_ 40 (d := dd_Program___contains__) rfl
  exact fng_of (N := N_Program___contains__) Fd sc_Program___contains__ (FunD.bindsN Fd fun _ _ _ _ _ _ us hl => match us, hl with | [_, _], _ => rfl) (fun cdv A outer s e0 H E B tk => (dss_one (ds_ret (de_cmp (opd_in B.hu) (de_var 1) (de_call ((ok_names_of T).mono (by decide)) B rfl (T.glo 71) (T.kp 4 (d := dd_names_of)) (da_cons (de_fld rfl (T.cls 65) (T.noat 67) (de_var 0)) da_nil)) (by with_unfolding_all rfl)))))
def b_Program___eq__ : FS := (fRet (fAnd (fU (dIsC "Program") (fVar 1)) (fB dEq (fU (dFld "Program" "_parts") (fVar 0)) (fU (dFld "Program" "_parts") (fVar 1)))))
def m_Program___eq__ : List D → R D := runD 2 b_Program___eq__
def l1__law_draws : FS := (fSeq (fIfS (fTest (fB dGt (fVar 4) (fC (.int 0)))) (fApp 2 (fB dMod (fL dIntS (fCons (fVar 4) fNil)) (fC (.int 1000000)))) fSkip) (fSet 4 (fB dFdiv (fVar 4) (fC (.int 1000000)))))
def l2__law_draws : FS := (fSeq (fSet 4 (fL dAbs (fCons (fB dIx (fVar 0) (fVar 3)) fNil))) (fIfS (fTest (fB dGe (fVar 4) (fB dPow (fC (.int 10)) (fC (.int 18))))) (fFor (fRange (fCons (fC (.int 20)) fNil)) (pName 5) l1__law_draws) (fSeq (fSet 6 (fB dMod (fL dIntS (fCons (fB dAdd (fB dAdd (fB dMul (fVar 4) (fC (.int 48271))) (fB dMul (fVar 3) (fC (.int 7919)))) (fC (.int 1))) fNil)) (fC (.int 2147483647)))) (fApp 2 (fB dMod (fL dIntS (fCons (fB dMod (fL dIntS (fCons (fB dMul (fVar 6) (fVar 6)) fNil)) (fC (.int 2147483629))) fNil)) (fC (.int 1000000)))))))
def b__law_draws : FS := (fSeq (fNew 2 fNil) (fSeq (fFor (fRange (fCons (fL dMin2 (fCons (fL dLen (fCons (fVar 0) fNil)) (fCons (fC (.int 63)) fNil))) fNil)) (pName 3) l2__law_draws) (fFrz 2 (fRet (fSl (fB dAdd (fVar 2) (fB dMul (fLst (fCons (fC (.int 0)) fNil)) (fVar 1))) fNo (fSome (fVar 1)))))))
def m__law_draws : List D → R D := runD 7 b__law_draws
theorem ok__law_draws (T : TT K mg base) : FnG P w K mg base 1 (He.ga K "_law_draws") 2 m__law_draws := by
  obtain ⟨fd, Fd⟩ := T.def_ 42 (d := dd__law_draws) rfl
  exact fng_of (N := N__law_draws) Fd sc__law_draws (FunD.bindsN Fd fun _ _ _ _ _ _ us hl => match us, hl with | [_, _], _ => rfl) (fun cdv A outer s e0 H E B tk => (dss_cons (ds_new (i := 2) sc__law_draws.nd rfl (by first | exact .inl rfl | exact .inr rfl) da_nil) (dss_cons (ds_for B.own B.calm (di_range1 rfl (T.free 75) (da_cons (de_callB (cd_min2 B.calm) rfl (T.free 74) (by decide +kernel) (da_cons (de_callB cd_len rfl (T.free 2) (by decide +kernel) (da_cons (de_var 0) da_nil)) (da_cons de_int da_nil))) da_nil)) (dg_name 3 sc__law_draws.nd rfl (by first | exact .inl rfl | exact .inr rfl)) (dss_cons (ds_set (i := 4) sc__law_draws.nd rfl (by first | exact .inl rfl | exact .inr rfl) (de_callB cd_abs rfl (T.free 11) (by decide +kernel) (da_cons (de_ix (ixd_all B.hu) (de_var 0) (de_var 3) (fun _ _ => rfl)) da_nil))) (dss_one (ds_if (db_cmp opd_ge (de_var 4) (de_op opd_pow de_int de_int) (nomark _)) (dss_one (ds_for B.own B.calm (di_range1 rfl (T.free 75) (da_cons de_int da_nil)) (dg_name 5 sc__law_draws.nd rfl (by first | exact .inl rfl | exact .inr rfl)) (dss_cons (ds_if (db_cmp opd_gt (de_var 4) de_int (nomark _)) (dss_one (ds_app (i := 2) (fun _ h => pe_bm PySem.F.plainAttrs_list PySem.F.slot_list_append PySem.F.type_list_append mt_append (pv 2) h) (de_op opd_mod (de_callTy cd_intS rfl (T.free 30) (by decide +kernel) (da_cons (de_var 4) da_nil)) de_int))) dss_nil) (dss_one (ds_set (i := 4) sc__law_draws.nd rfl (by first | exact .inl rfl | exact .inr rfl) (de_op opd_fdiv (de_var 4) de_int)))))) (dss_cons (ds_set (i := 6) sc__law_draws.nd rfl (by first | exact .inl rfl | exact .inr rfl) (de_op opd_mod (de_callTy cd_intS rfl (T.free 30) (by decide +kernel) (da_cons (de_op opd_add (de_op opd_add (de_op opd_mul (de_var 4) de_int) (de_op opd_mul (de_var 3) de_int)) de_int) da_nil)) de_int)) (dss_one (ds_app (i := 2) (fun _ h => pe_bm PySem.F.plainAttrs_list PySem.F.slot_list_append PySem.F.type_list_append mt_append (pv 2) h) (de_op opd_mod (de_callTy cd_intS rfl (T.free 30) (by decide +kernel) (da_cons (de_op opd_mod (de_callTy cd_intS rfl (T.free 30) (by decide +kernel) (da_cons (de_op opd_mul (de_var 6) (de_var 6)) da_nil)) de_int) da_nil)) de_int)))))))) (dss_frz 2 (dss_one (ds_ret (de_slice (de_op opd_add (de_var 2) (de_op opd_mul (de_lst (da_cons de_int da_nil)) (de_var 1))) do_no (do_some (de_var 1)))))))))
def b__law_name : FS := (fRet (fB dAdd (fB dIx (fVar 0) (fB dMod (fL dIntS (fCons (fVar 1) fNil)) (fC (.int 4)))) (fB dIx (fVar 0) (fB dMod (fL dIntS (fCons (fB dFdiv (fVar 1) (fC (.int 4))) fNil)) (fC (.int 4))))))
def m__law_name : List D → R D := runD 2 b__law_name
theorem ok__law_name (T : TT K mg base) : FnG P w K mg base 1 (He.ga K "_law_name") 2 m__law_name := by
  obtain ⟨fd, Fd⟩ := T.def_ 43 (d := dd__law_name) rfl
  exact fng_of (N := N__law_name) Fd sc__law_name (FunD.bindsN Fd fun _ _ _ _ _ _ us hl => match us, hl with | [_, _], _ => rfl) (fun cdv A outer s e0 H E B tk => (dss_one (ds_ret (de_op opd_add (de_ix (ixd_all B.hu) (de_var 0) (de_op opd_mod (de_callTy cd_intS rfl (T.free 30) (by decide +kernel) (da_cons (de_var 1) da_nil)) de_int) (fun _ _ => rfl)) (de_ix (ixd_all B.hu) (de_var 0) (de_op opd_mod (de_callTy cd_intS rfl (T.free 30) (by decide +kernel) (da_cons (de_op opd_fdiv (de_var 1) de_int) da_nil)) de_int) (fun _ _ => rfl))))))
def l1__law_once : FS := (fIfS (fTest (fInOw true (fVar 2) 1)) (fApp 1 (fVar 2)) fSkip)
def b__law_once : FS := (fSeq (fNew 1 fNil) (fSeq (fFor (fItems (fVar 0)) (pName 2) l1__law_once) (fFrz 1 (fRet (fVar 1)))))
def m__law_once : List D → R D := runD 3 b__law_once
theorem ok__law_once (T : TT K mg base) : FnG P w K mg base 1 (He.ga K "_law_once") 1 m__law_once := by
  obtain ⟨fd, Fd⟩ := T.def_ 44 (d := dd__law_once) rfl
  exact fng_of (N := N__law_once) Fd sc__law_once (FunD.bindsN Fd fun _ _ _ _ _ _ us hl => match us, hl with | [_], _ => rfl) (fun cdv A outer s e0 H E B tk => (dss_cons (ds_new (i := 1) sc__law_once.nd rfl (by first | exact .inl rfl | exact .inr rfl) da_nil) (dss_cons (ds_for B.own B.calm (di_seq (de_var 0)) (dg_name 2 sc__law_once.nd rfl (by first | exact .inl rfl | exact .inr rfl)) (dss_one (ds_if (db_ninOw 1 (de_var 2)) (dss_one (ds_app (i := 1) (fun _ h => pe_bm PySem.F.plainAttrs_list PySem.F.slot_list_append PySem.F.type_list_append mt_append (pv 1) h) (de_var 2))) dss_nil))) (dss_frz 1 (dss_one (ds_ret (de_var 1)))))))
def b__law_part : FS := (fSeq (fSet 1 (fB dMod (fL dIntS (fCons (fVar 0) fNil)) (fC (.int 6)))) (fSeq (fSet 2 (fB dFdiv (fVar 0) (fC (.int 6)))) (fSeq (fSet 3 (fCall m__law_name (fCons (fC (.str "fghk")) (fCons (fVar 2) fNil)))) (fSeq (fSet 4 (fCall m__law_name (fCons (fC (.str "hgfk")) (fCons (fB dFdiv (fVar 2) (fC (.int 16))) fNil)))) (fSeq (fSet 5 (fCall m__law_name (fCons (fC (.str "cdpq")) (fCons (fB dFdiv (fVar 2) (fC (.int 5))) fNil)))) (fSeq (fIfS (fTest (fB dEq (fVar 1) (fC (.int 1)))) (fRet (fLst (fCons (fB dAdd (fC (.str "map ")) (fVar 3)) (fCons (fLst (fCons (fVar 3) fNil)) (fCons (fC (.int 1)) (fCons (fC (.int 0)) fNil)))))) fSkip) (fSeq (fIfS (fTest (fB dEq (fVar 1) (fC (.int 2)))) (fRet (fLst (fCons (fB dAdd (fB dAdd (fB dAdd (fC (.str "map ")) (fVar 3)) (fC (.str " "))) (fVar 4)) (fCons (fLst (fCons (fVar 3) (fCons (fVar 4) fNil))) (fCons (fC (.int 2)) (fCons (fC (.int 0)) fNil)))))) fSkip) (fSeq (fIfS (fTest (fB dEq (fVar 1) (fC (.int 3)))) (fRet (fLst (fCons (fB dAdd (fC (.str "put ")) (fVar 5)) (fCons (fLst (fCons (fVar 5) fNil)) (fCons (fC (.int 1)) (fCons (fC (.int 0)) fNil)))))) fSkip) (fSeq (fIfS (fTest (fB dEq (fVar 1) (fC (.int 4)))) (fRet (fLst (fCons (fB dAdd (fB dAdd (fC (.str "join (map ")) (fVar 3)) (fC (.str ") (reverse)"))) (fCons (fLst (fCons (fVar 3) fNil)) (fCons (fC (.int 3)) (fCons (fC (.int 1)) fNil)))))) fSkip) (fSeq (fIfS (fTest (fB dEq (fVar 1) (fC (.int 5)))) (fRet (fLst (fCons (fB dAdd (fB dAdd (fC (.str "short 3 (put ")) (fVar 5)) (fC (.str ") (same)"))) (fCons (fLst (fCons (fVar 5) fNil)) (fCons (fC (.int 3)) (fCons (fC (.int 1)) fNil)))))) fSkip) (fRet (fLst (fCons (fC (.str "reverse")) (fCons (fLst fNil) (fCons (fC (.int 1)) (fCons (fC (.int 0)) fNil))))))))))))))))
def m__law_part : List D → R D := runD 6 b__law_part
theorem ok__law_part (T : TT K mg base) : FnG P w K mg base 2 (He.ga K "_law_part") 1 m__law_part := by
  obtain ⟨fd, Fd⟩ := T.def_ 45 (d := dd__law_part) rfl
  exact fng_of (N := N__law_part) Fd sc__law_part (FunD.bindsN Fd fun _ _ _ _ _ _ us hl => match us, hl with | [_], _ => rfl) (fun cdv A outer s e0 H E B tk => (dss_cons (ds_set (i := 1) sc__law_part.nd rfl (by first | exact .inl rfl | exact .inr rfl) (de_op opd_mod (de_callTy cd_intS rfl (T.free 30) (by decide +kernel) (da_cons (de_var 0) da_nil)) de_int)) (dss_cons (ds_set (i := 2) sc__law_part.nd rfl (by first | exact .inl rfl | exact .inr rfl) (de_op opd_fdiv (de_var 0) de_int)) (dss_cons (ds_set (i := 3) sc__law_part.nd rfl (by first | exact .inl rfl | exact .inr rfl) (de_call ((ok__law_name T).mono (by decide)) B rfl (T.glo 76) (T.kp 43 (d := dd__law_name)) (da_cons de_str (da_cons (de_var 2) da_nil)))) (dss_cons (ds_set (i := 4) sc__law_part.nd rfl (by first | exact .inl rfl | exact .inr rfl) (de_call ((ok__law_name T).mono (by decide)) B rfl (T.glo 76) (T.kp 43 (d := dd__law_name)) (da_cons de_str (da_cons (de_op opd_fdiv (de_var 2) de_int) da_nil)))) (dss_cons (ds_set (i := 5) sc__law_part.nd rfl (by first | exact .inl rfl | exact .inr rfl) (de_call ((ok__law_name T).mono (by decide)) B rfl (T.glo 76) (T.kp 43 (d := dd__law_name)) (da_cons de_str (da_cons (de_op opd_fdiv (de_var 2) de_int) da_nil)))) (dss_cons (ds_if (db_cmp (opd_eq B.hu64) (de_var 1) de_int (nomark _)) (dss_one (ds_ret (de_lst (da_cons (de_op opd_add de_str (de_var 3)) (da_cons (de_lst (da_cons (de_var 3) da_nil)) (da_cons de_int (da_cons de_int da_nil))))))) dss_nil) (dss_cons (ds_if (db_cmp (opd_eq B.hu64) (de_var 1) de_int (nomark _)) (dss_one (ds_ret (de_lst (da_cons (de_op opd_add (de_op opd_add (de_op opd_add de_str (de_var 3)) de_str) (de_var 4)) (da_cons (de_lst (da_cons (de_var 3) (da_cons (de_var 4) da_nil))) (da_cons de_int (da_cons de_int da_nil))))))) dss_nil) (dss_cons (ds_if (db_cmp (opd_eq B.hu64) (de_var 1) de_int (nomark _)) (dss_one (ds_ret (de_lst (da_cons (de_op opd_add de_str (de_var 5)) (da_cons (de_lst (da_cons (de_var 5) da_nil)) (da_cons de_int (da_cons de_int da_nil))))))) dss_nil) (dss_cons (ds_if (db_cmp (opd_eq B.hu64) (de_var 1) de_int (nomark _)) (dss_one (ds_ret (de_lst (da_cons (de_op opd_add (de_op opd_add de_str (de_var 3)) de_str) (da_cons (de_lst (da_cons (de_var 3) da_nil)) (da_cons de_int (da_cons de_int da_nil))))))) dss_nil) (dss_cons (ds_if (db_cmp (opd_eq B.hu64) (de_var 1) de_int (nomark _)) (dss_one (ds_ret (de_lst (da_cons (de_op opd_add (de_op opd_add de_str (de_var 5)) de_str) (da_cons (de_lst (da_cons (de_var 5) da_nil)) (da_cons de_int (da_cons de_int da_nil))))))) dss_nil) (dss_one (ds_ret (de_lst (da_cons de_str (da_cons (de_lst da_nil) (da_cons de_int (da_cons de_int da_nil))))))))))))))))))
def l1__law_right : FS := (fIfS (fTest (fB dNe (fB (dInO "Program" m_Program___contains__) (fB dAdd (fVar 5) (fVar 6)) (fVar 0)) (fB dIn (fB dAdd (fVar 5) (fVar 6)) (fVar 2)))) (fRet (fC (.bl false))) fSkip)
def l2__law_right : FS := (fFor (fItems (fC (.str "cdfghkpq"))) (pName 6) l1__law_right)
def b__law_right : FS := (fSeq (fIfS (fOrB (fTest (fB dNe (fLenO "Program" m_Program___len__ (fVar 0)) (fL dLen (fCons (fVar 1) fNil)))) (fOrB (fTest (fB dNe (fProp "Program" m_Program_row_texts (fVar 0)) (fVar 1))) (fTest (fB dNe (fLc (fItO "Program" mI_Program___iter__ (fVar 0)) 4 fYes (fVar 4)) (fVar 1))))) (fRet (fC (.bl false))) fSkip) (fSeq (fIfS (fOrB (fTest (fB dNe (fProp "Program" m_Program_names (fVar 0)) (fVar 2))) (fOrB (fTest (fB dNe (fProp "Program" m_Program_parts (fVar 0)) (fVar 3))) (fTest (fB dNe (fProp "Program" m_Program_text (fVar 0)) (fJoin (fC (.str "; ")) (fVar 1)))))) (fRet (fC (.bl false))) fSkip) (fSeq (fFor (fItems (fC (.str "cdfghkpq"))) (pName 5) l2__law_right) (fRet (fC (.bl true))))))
def m__law_right : List D → R D := runD 7 b__law_right
theorem ok__law_right (T : TT K mg base) : FnG P w K mg base 66 (He.ga K "_law_right") 4 m__law_right := by
  obtain ⟨fd, Fd⟩ := T.def_ 46 (d := dd__law_right) rfl
  exact fng_of (N := N__law_right) Fd sc__law_right (FunD.bindsN Fd fun _ _ _ _ _ _ us hl => match us, hl with | [_, _, _, _], _ => rfl) (fun cdv A outer s e0 H E B tk => (dss_cons (ds_if (db_of (dw_or (db_cmp (opd_ne B.hu64) (de_lenO (c := "Program") (k := 1) (T.meth 77) ((ok_Program___len__ T).mono (by decide)) (B.room.mono (by decide)) (de_var 0) rfl (T.free 2)) (de_callB cd_len rfl (T.free 2) (by decide +kernel) (da_cons (de_var 1) da_nil)) (nomark _)) (dw_or (db_cmp (opd_ne B.hu64) (de_propF rfl (T.cls 65) (T.prop 20) (ok_Program_row_texts T).choose_spec.1 (ok_Program_row_texts T).choose_spec.2 (B.room.mono (by decide)) (de_var 0)) (de_var 1) (nomark _)) (dw_or1 (db_cmp (opd_ne B.hu64) (de_lc B.calm sc__law_right.nd (di_ownIt (c := "Program") (k := 1) (T.meth 78) (ok_Program___iter__ T) (B.room.mono (by decide)) (de_var 0)) (own := [("_law_row", 4)]) (blkOk_by (N := N__law_right) (sc := defScope s__law_right) (by decide +kernel)) rfl (fun _ _ _ _ _ => pg_name (i := 4) sc__law_right.nd rfl (Or.inl rfl)) (fun _ _ _ _ _ => dts_nil) (fun _ _ _ _ _ => (de_var 4))) (de_var 1) (nomark _)))))) (dss_one (ds_ret de_bl)) dss_nil) (dss_cons (ds_if (db_of (dw_or (db_cmp (opd_ne B.hu64) (de_propF rfl (T.cls 65) (T.prop 21) (ok_Program_names T).choose_spec.1 (ok_Program_names T).choose_spec.2 (B.room.mono (by decide)) (de_var 0)) (de_var 2) (nomark _)) (dw_or (db_cmp (opd_ne B.hu64) (de_propF rfl (T.cls 65) (T.prop 22) (ok_Program_parts T).choose_spec.1 (ok_Program_parts T).choose_spec.2 (B.room.mono (by decide)) (de_var 0)) (de_var 3) (nomark _)) (dw_or1 (db_cmp (opd_ne B.hu64) (de_propF rfl (T.cls 65) (T.prop 23) (ok_Program_text T).choose_spec.1 (ok_Program_text T).choose_spec.2 (B.room.mono (by decide)) (de_var 0)) (de_join de_str (de_var 1)) (nomark _)))))) (dss_one (ds_ret de_bl)) dss_nil) (dss_cons (ds_for B.own B.calm (di_seq de_str) (dg_name 5 sc__law_right.nd rfl (by first | exact .inl rfl | exact .inr rfl)) (dss_one (ds_for B.own B.calm (di_seq de_str) (dg_name 6 sc__law_right.nd rfl (by first | exact .inl rfl | exact .inr rfl)) (dss_one (ds_if (db_cmp (opd_ne B.hu64) (de_cmp (opd_inO (c := "Program") (k := 63) (T.meth 79) (ok_Program___contains__ T) (B.room.mono (by decide))) (de_op opd_add (de_var 5) (de_var 6)) (de_var 0) (by with_unfolding_all rfl)) (de_cmp (opd_in B.hu) (de_op opd_add (de_var 5) (de_var 6)) (de_var 2) (by with_unfolding_all rfl)) (nomark _)) (dss_one (ds_ret de_bl)) dss_nil))))) (dss_one (ds_ret de_bl))))))
def l1_law : FS := (fSeq (fSet 7 (fCall m__law_part (fCons (fB dIx (fVar 1) (fB dAdd (fC (.int 1)) (fVar 6))) fNil))) (fSeq (fIfS (fOrB (fTest (fB dGt (fB dAdd (fVar 5) (fB dIx (fVar 7) (fC (.int 3)))) (fC (.int 3)))) (fTest (fB dGt (fB dAdd (fVar 4) (fB dIx (fVar 7) (fC (.int 2)))) (fC (.int 24))))) (fSet 7 (fCall m__law_part (fCons (fC (.int 0)) fNil))) fSkip) (fIfS (fTest (fB dLe (fB dAdd (fVar 4) (fB dIx (fVar 7) (fC (.int 2)))) (fC (.int 24)))) (fSeq (fApp 2 (fB dIx (fVar 7) (fC (.int 0)))) (fSeq (fSet 3 (fCall m__law_once (fCons (fB dAdd (fVar 3) (fB dIx (fVar 7) (fC (.int 1)))) fNil))) (fSeq (fSet 4 (fB dAdd (fVar 4) (fB dIx (fVar 7) (fC (.int 2))))) (fSet 5 (fB dAdd (fVar 5) (fB dIx (fVar 7) (fC (.int 3)))))))) fSkip)))
def b_law : FS := (fSeq (fSet 1 (fCall m__law_draws (fCons (fVar 0) (fCons (fC (.int 13)) fNil)))) (fSeq (fNew 2 fNil) (fSeq (fSet 3 (fLst fNil)) (fSeq (fSet 4 (fC (.int 0))) (fSeq (fSet 5 (fC (.int 0))) (fSeq (fFor (fRange (fCons (fB dAdd (fC (.int 1)) (fB dMod (fL dIntS (fCons (fB dIx (fVar 1) (fC (.int 0))) fNil)) (fC (.int 12)))) fNil)) (pName 6) l1_law) (fFrz 2 (fSeq (fSet 8 (fCall (fun ds => m_Program_read (.fn "Program" :: ds)) (fCons (fJoin (fC (.str "; ")) (fVar 2)) fNil))) (fSeq (fIfS (fOrB (fNotB (fTest (fU (dIsi "list") (fProp "Program" m_Program_names (fVar 8))))) (fNotB (fTest (fU (dIsi "list") (fProp "Program" m_Program_row_texts (fVar 8)))))) (fRet (fC (.bl false))) fSkip) (fSeq (fIfS (fNotB (fTest (fCall m__law_right (fCons (fVar 8) (fCons (fVar 2) (fCons (fVar 3) (fCons (fVar 4) fNil))))))) (fRet (fC (.bl false))) fSkip) (fSeq (fNew 9 (fPropF "Program" mF_Program_names (fVar 8))) (fSeq (fApp 9 (fC (.str "zz"))) (fSeq (fNew 9 (fPropF "Program" mF_Program_row_texts (fVar 8))) (fSeq (fClear 9) (fRet (fCall m__law_right (fCons (fVar 8) (fCons (fVar 2) (fCons (fVar 3) (fCons (fVar 4) fNil))))))))))))))))))))
def m_law : List D → R D := runD 10 b_law
theorem ok_law (T0 : obsX fa fx fn fy K = valX fn fy) (T1 : ∃ h : Heap, K.In h ∧ h.Ns mainGlobals mg) : ∃ fd : FuncData, (∀ (s : Shared) (v : Value), BindsTo s fd ⟨[v], []⟩ [("_law_script", v)]) ∧ ∀ base : Heap, (∀ p ∈ tabsK K, LamX.TabB base mg p.1 p.2) → FnOk P w K mg base (L2.CX P w) 71 (He.ga K "law") fd P_law (spD K 1 m_law) := by
  obtain ⟨fd, Fd⟩ := def_of T0 47 (d := dd_law) rfl
  have b := FunD.bindsA (ps := P_law) Fd fun _ _ _ _ _ _ us hl => match us, hl with | [_], _ => rfl
  refine ⟨fd, fun s v => b s [v] rfl, fun base tb => ?_⟩
  have T : TT K mg base := ⟨T0, tb, T1⟩
  exact fnok_of (N := N_law) Fd sc_law (fun cdv A outer s e0 H E B tk => (dss_cons (ds_set (i := 1) sc_law.nd rfl (by first | exact .inl rfl | exact .inr rfl) (de_call ((ok__law_draws T).mono (by decide)) B rfl (T.glo 80) (T.kp 42 (d := dd__law_draws)) (da_cons (de_var 0) (da_cons de_int da_nil)))) (dss_cons (ds_new (i := 2) sc_law.nd rfl (by first | exact .inl rfl | exact .inr rfl) da_nil) (dss_cons (ds_set (i := 3) sc_law.nd rfl (by first | exact .inl rfl | exact .inr rfl) (de_lst da_nil)) (dss_cons (ds_set (i := 4) sc_law.nd rfl (by first | exact .inl rfl | exact .inr rfl) de_int) (dss_cons (ds_set (i := 5) sc_law.nd rfl (by first | exact .inl rfl | exact .inr rfl) de_int) (dss_cons (ds_for B.own B.calm (di_range1 rfl (T.free 75) (da_cons (de_op opd_add de_int (de_op opd_mod (de_callTy cd_intS rfl (T.free 30) (by decide +kernel) (da_cons (de_ix (ixd_all B.hu) (de_var 1) de_int (fun _ _ => rfl)) da_nil)) de_int)) da_nil)) (dg_name 6 sc_law.nd rfl (by first | exact .inl rfl | exact .inr rfl)) (dss_cons (ds_set (i := 7) sc_law.nd rfl (by first | exact .inl rfl | exact .inr rfl) (de_call ((ok__law_part T).mono (by decide)) B rfl (T.glo 81) (T.kp 45 (d := dd__law_part)) (da_cons (de_ix (ixd_all B.hu) (de_var 1) (de_op opd_add de_int (de_var 6)) (fun _ _ => rfl)) da_nil))) (dss_cons (ds_if (db_of (dw_or (db_cmp opd_gt (de_op opd_add (de_var 5) (de_ix (ixd_all B.hu) (de_var 7) de_int (fun _ _ => rfl))) de_int (nomark _)) (dw_or1 (db_cmp opd_gt (de_op opd_add (de_var 4) (de_ix (ixd_all B.hu) (de_var 7) de_int (fun _ _ => rfl))) de_int (nomark _))))) (dss_one (ds_set (i := 7) sc_law.nd rfl (by first | exact .inl rfl | exact .inr rfl) (de_call ((ok__law_part T).mono (by decide)) B rfl (T.glo 81) (T.kp 45 (d := dd__law_part)) (da_cons de_int da_nil)))) dss_nil) (dss_one (ds_if (db_cmp opd_le (de_op opd_add (de_var 4) (de_ix (ixd_all B.hu) (de_var 7) de_int (fun _ _ => rfl))) de_int (nomark _)) (dss_cons (ds_app (i := 2) (fun _ h => pe_bm PySem.F.plainAttrs_list PySem.F.slot_list_append PySem.F.type_list_append mt_append (pv 2) h) (de_ix (ixd_all B.hu) (de_var 7) de_int (fun _ _ => rfl))) (dss_cons (ds_set (i := 3) sc_law.nd rfl (by first | exact .inl rfl | exact .inr rfl) (de_call ((ok__law_once T).mono (by decide)) B rfl (T.glo 82) (T.kp 44 (d := dd__law_once)) (da_cons (de_op opd_add (de_var 3) (de_ix (ixd_all B.hu) (de_var 7) de_int (fun _ _ => rfl))) da_nil))) (dss_cons (ds_set (i := 4) sc_law.nd rfl (by first | exact .inl rfl | exact .inr rfl) (de_op opd_add (de_var 4) (de_ix (ixd_all B.hu) (de_var 7) de_int (fun _ _ => rfl)))) (dss_one (ds_set (i := 5) sc_law.nd rfl (by first | exact .inl rfl | exact .inr rfl) (de_op opd_add (de_var 5) (de_ix (ixd_all B.hu) (de_var 7) de_int (fun _ _ => rfl)))))))) dss_nil))))) (dss_frz 2 (dss_cons (ds_set (i := 8) sc_law.nd rfl (by first | exact .inl rfl | exact .inr rfl) (de_cmeth (T.cmet 24).1 (T.cmet 24).2 ((ok_Program_read T).mono (by decide)) B rfl (T.glo 73) (da_cons (de_join de_str (de_var 2)) da_nil))) (dss_cons (ds_if (db_of (dw_or (db_not (db_val (de_isi (T := "list") .list rfl (T.free 8) rfl (T.free 57) (by decide +kernel) (de_propF rfl (T.cls 65) (T.prop 21) (ok_Program_names T).choose_spec.1 (ok_Program_names T).choose_spec.2 (B.room.mono (by decide)) (de_var 8))))) (dw_or1 (db_not (db_val (de_isi (T := "list") .list rfl (T.free 8) rfl (T.free 57) (by decide +kernel) (de_propF rfl (T.cls 65) (T.prop 20) (ok_Program_row_texts T).choose_spec.1 (ok_Program_row_texts T).choose_spec.2 (B.room.mono (by decide)) (de_var 8)))))))) (dss_one (ds_ret de_bl)) dss_nil) (dss_cons (ds_if (db_not (db_val (de_call ((ok__law_right T).mono (by decide)) B rfl (T.glo 83) (T.kp 46 (d := dd__law_right)) (da_cons (de_var 8) (da_cons (de_var 2) (da_cons (de_var 3) (da_cons (de_var 4) da_nil))))))) (dss_one (ds_ret de_bl)) dss_nil) (dss_cons (ds_newF (i := 9) sc_law.nd rfl (by first | exact .inl rfl | exact .inr rfl) (df_propF rfl (T.cls 65) (T.prop 21) (okF_Program_names T).choose_spec.1 (okF_Program_names T).choose_spec.2 (B.room.mono (by decide)) (de_var 8))) (dss_cons (ds_app (i := 9) (fun _ h => pe_bm PySem.F.plainAttrs_list PySem.F.slot_list_append PySem.F.type_list_append mt_append (pv 9) h) de_str) (dss_cons (ds_newF (i := 9) sc_law.nd rfl (by first | exact .inl rfl | exact .inr rfl) (df_propF rfl (T.cls 65) (T.prop 20) (okF_Program_row_texts T).choose_spec.1 (okF_Program_row_texts T).choose_spec.2 (B.room.mono (by decide)) (de_var 8))) (dss_cons (ds_clear (i := 9) (pe_bm0 PySem.F.plainAttrs_list PySem.F.slot_list_clear PySem.F.type_list_clear mt_clear (pv 9))) (dss_one (ds_ret (de_call ((ok__law_right T).mono (by decide)) B rfl (T.glo 83) (T.kp 46 (d := dd__law_right)) (da_cons (de_var 8) (da_cons (de_var 2) (da_cons (de_var 3) (da_cons (de_var 4) da_nil))))))))))))))))))))))
end
end LW
namespace DL
open PySem PySem.Spec PyProof.Rows

theorem fVar_0 {d : D} {r : DSt} : fVar 0 (.fz d :: r) = .ok d := rfl
theorem fVar_s {i : Nat} {s : DS} {r : DSt} : fVar (i + 1) (s :: r) = fVar i r := rfl
theorem fOwn_0 {ds : List D} {r : DSt} : fOwn 0 (.ow ds :: r) = .ok ds := rfl
theorem fOwn_s {i : Nat} {s : DS} {r : DSt} : fOwn (i + 1) (s :: r) = fOwn i r := rfl
theorem fC_e {d : D} {δ : DSt} : fC d δ = .ok d := rfl
theorem fU_e {F : D → Option D} {f : FE} {δ : DSt} : fU F f δ = (f δ).bind fun x => R.of (F x) := rfl
theorem fB_e {F : D → D → Option D} {f g : FE} {δ : DSt} : fB F f g δ = (f δ).bind fun x => (g δ).bind fun y => R.of (F x y) := rfl
theorem fNil_e {δ : DSt} : fNil δ = .ok [] := rfl
theorem fCons_e {f : FE} {fl : FL} {δ : DSt} : fCons f fl δ = (f δ).bind fun x => (fl δ).bind fun xs => .ok (x :: xs) := rfl
theorem fL_e {F : List D → Option D} {fl : FL} {δ : DSt} : fL F fl δ = (fl δ).bind fun xs => R.of (F xs) := rfl
theorem fCall_e {F : List D → R D} {fl : FL} {δ : DSt} : fCall F fl δ = (fl δ).bind F := rfl
theorem fTup_e {fl : FL} {δ : DSt} : fTup fl δ = (fl δ).bind fun xs => .ok (.tup xs) := rfl
theorem fLst_e {fl : FL} {δ : DSt} : fLst fl δ = (fl δ).bind fun xs => .ok (.lst xs) := rfl
def rIf {α β : Type} (r : R Bool) (f g : α → R β) (a : α) : R β := r.bind fun b => match b with
  | true => f a
  | false => g a
theorem rIf_t {α β : Type} {f g : α → R β} {a : α} : rIf (.ok true) f g a = f a := rfl
theorem rIf_f {α β : Type} {f g : α → R β} {a : α} : rIf (.ok false) f g a = g a := rfl
theorem fIf_e {c : FB} {f g : FE} {δ : DSt} : fIf c f g δ = rIf (c δ) f g δ := rfl
def tBl : D → R Bool
  | .bl b => .ok b
  | _ => .bad
theorem tBl_e {b : Bool} : tBl (.bl b) = .ok b := rfl
theorem fTest_e {f : FE} {δ : DSt} : fTest f δ = (f δ).bind tBl := by
  unfold fTest tBl
  cases f δ <;> rfl
def tTr : D → R Bool
  | .bl b => .ok b
  | .lst xs => .ok (!xs.isEmpty)
  | .tup xs => .ok (!xs.isEmpty)
  | _ => .bad
theorem fTru_e {f : FE} {δ : DSt} : fTru f δ = (f δ).bind tTr := by
  unfold fTru tTr
  cases f δ <;> rfl
theorem fNotB_e {c : FB} {δ : DSt} : fNotB c δ = (c δ).bind fun b => .ok (!b) := rfl
theorem fAndB_e {c d : FB} {δ : DSt} : fAndB c d δ = rIf (c δ) d (fun _ => .ok false) δ := rfl
theorem fOrB_e {c d : FB} {δ : DSt} : fOrB c d δ = rIf (c δ) (fun _ => .ok true) d δ := rfl
theorem fVal_e {c : FB} {δ : DSt} : fVal c δ = (c δ).bind fun b => .ok (.bl b) := rfl
theorem fAnd_e {f g : FE} {δ : DSt} : fAnd f g δ = rIf ((f δ).bind tBl) g (fun _ => .ok (.bl false)) δ := by
  unfold fAnd rIf tBl
  cases f δ with
  | ok d => cases d <;> first | rfl | (rename_i b; cases b <;> rfl)
  | exc n xs => rfl
  | bad => rfl
theorem fOr_e {f g : FE} {δ : DSt} : fOr f g δ = rIf ((f δ).bind tBl) (fun _ => .ok (.bl true)) g δ := by
  unfold fOr rIf tBl
  cases f δ with
  | ok d => cases d <;> first | rfl | (rename_i b; cases b <;> rfl)
  | exc n xs => rfl
  | bad => rfl
theorem fNo_e {δ : DSt} : fNo δ = .ok none := rfl
def tInt : D → R (Option Int)
  | .int i => .ok (some i)
  | _ => .bad
theorem tInt_e {i : Int} : tInt (.int i) = .ok (some i) := rfl
theorem fSome_e {f : FE} {δ : DSt} : fSome f δ = (f δ).bind tInt := by
  unfold fSome tInt
  cases f δ <;> rfl
theorem fSl_e {f : FE} {l h : FO} {δ : DSt} : fSl f l h δ = (f δ).bind fun d => (l δ).bind fun lo => (h δ).bind fun hi => R.of (dCut d lo hi) := rfl
theorem fSlOw_e {i : Nat} {l h : FO} {δ : DSt} : fSlOw i l h δ = (fOwn i δ).bind fun ds => (l δ).bind fun lo => (h δ).bind fun hi => .ok (.lst (cut ds lo hi)) := rfl
theorem fLenOw_e {i : Nat} {δ : DSt} : fLenOw i δ = (fOwn i δ).bind fun ds => .ok (.int ds.length) := rfl
theorem fIxOw_e {i : Nat} {f : FE} {δ : DSt} : fIxOw i f δ = (fOwn i δ).bind fun ds => (f δ).bind fun d => R.of (dIx (.lst ds) d) := rfl
theorem fInOw_e {neg : Bool} {i : Nat} {f : FE} {δ : DSt} : fInOw neg f i δ = (f δ).bind fun d => (fOwn i δ).bind fun ds => R.of ((dInB d (.lst ds)).map fun b => .bl (if neg then !b else b)) := by
  unfold fInOw
  cases f δ with
  | ok d =>
    cases fOwn i δ with
    | ok ds =>
      have e : dInB d (.lst ds) = if (d.flat && ds.all D.flat) = true then some (inB d ds) else none := by cases d <;> rfl
      show (if (d.flat && ds.all D.flat) = true then R.ok (D.bl (if neg then !inB d ds else inB d ds)) else .bad) = R.of ((dInB d (.lst ds)).map _)
      rw [e]
      by_cases c : (d.flat && ds.all D.flat) = true
      · rw [if_pos c, if_pos c]; rfl
      · rw [if_neg c, if_neg c]; rfl
    | exc n xs => rfl
    | bad => rfl
  | exc n xs => rfl
  | bad => rfl
def O.thn (o : O) (G : FS) : O := match o with
  | .nx δ => G δ
  | o => o
theorem thn_nx {δ : DSt} {G : FS} : (O.nx δ).thn G = G δ := rfl
theorem thn_rt {d : D} {δ : DSt} {G : FS} : (O.rt d δ).thn G = .rt d δ := rfl
theorem thn_bk {δ : DSt} {G : FS} : (O.bk δ).thn G = .bk δ := rfl
theorem thn_ct {δ : DSt} {G : FS} : (O.ct δ).thn G = .ct δ := rfl
theorem thn_exc {n : Str} {xs : List D} {G : FS} : (O.exc n xs).thn G = .exc n xs := rfl
theorem thn_bad {G : FS} : O.bad.thn G = .bad := rfl
theorem fSeq_e {F G : FS} {δ : DSt} : fSeq F G δ = (F δ).thn G := by
  unfold fSeq O.thn
  cases F δ <;> rfl
def oIf (r : R Bool) (F G : FS) (δ : DSt) : O := O.on r fun b => match b with
  | true => F δ
  | false => G δ
theorem oIf_t {F G : FS} {δ : DSt} : oIf (.ok true) F G δ = F δ := rfl
theorem oIf_f {F G : FS} {δ : DSt} : oIf (.ok false) F G δ = G δ := rfl
theorem oIf_exc {n : Str} {xs : List D} {F G : FS} {δ : DSt} : oIf (.exc n xs) F G δ = .exc n xs := rfl
theorem fIfS_e {c : FB} {F G : FS} {δ : DSt} : fIfS c F G δ = oIf (c δ) F G δ := rfl
theorem fSkip_e {δ : DSt} : fSkip δ = .nx δ := rfl
theorem fRet_e {f : FE} {δ : DSt} : fRet f δ = O.on (f δ) fun d => .rt d δ := rfl
theorem fExp_e {f : FE} {δ : DSt} : fExp f δ = O.on (f δ) fun _ => .nx δ := rfl
theorem fSet_e {i : Nat} {f : FE} {δ : DSt} : fSet i f δ = O.on (f δ) fun d => .nx (δ.set i (.fz d)) := rfl
theorem fNew_e {i : Nat} {fl : FL} {δ : DSt} : fNew i fl δ = O.on (fl δ) fun ds => .nx (δ.set i (.ow ds)) := rfl
def oApp (i : Nat) (δ : DSt) (ds : List D) (d : D) : O := if okLt ds.length = true then .nx (δ.set i (.ow (ds ++ [d]))) else .bad
theorem oApp_ok {i : Nat} {δ : DSt} {ds : List D} {d : D} (h : okLt ds.length = true) : oApp i δ ds d = .nx (δ.set i (.ow (ds ++ [d]))) := if_pos h
theorem fApp_e {i : Nat} {f : FE} {δ : DSt} : fApp i f δ = O.on (fOwn i δ) fun ds => O.on (f δ) fun d => oApp i δ ds d := rfl
def oExt (i : Nat) (δ : DSt) (ds : List D) (d : D) : O := match d with
  | .lst es => if okLe (ds.length + es.length) = true then .nx (δ.set i (.ow (ds ++ es))) else .bad
  | _ => .bad
theorem oExt_ok {i : Nat} {δ : DSt} {ds es : List D} (h : okLe (ds.length + es.length) = true) : oExt i δ ds (.lst es) = .nx (δ.set i (.ow (ds ++ es))) := if_pos h
theorem fExt_e {i : Nat} {f : FE} {δ : DSt} : fExt i f δ = O.on (fOwn i δ) fun ds => O.on (f δ) fun d => oExt i δ ds d := rfl
def oPop (j i : Nat) (δ : DSt) (ds : List D) : O := match ds.getLast? with
  | some d => .nx ((δ.set i (.ow ds.dropLast)).set j (.fz d))
  | none => .bad
theorem oPop_ok {j i : Nat} {δ : DSt} {ds : List D} {d : D} : oPop j i δ (ds ++ [d]) = .nx ((δ.set i (.ow ds)).set j (.fz d)) := by
  unfold oPop
  rw [List.getLast?_concat, List.dropLast_concat]
theorem fPop_e {j i : Nat} {δ : DSt} : fPop j i δ = O.on (fOwn i δ) fun ds => oPop j i δ ds := rfl
def oPut (i : Nat) (δ : DSt) (ds : List D) (d k : D) : O := match k with
  | .int n => match L2.ixN ds.length n with
    | some j => .nx (δ.set i (.ow (ds.set j d)))
    | none => .bad
  | _ => .bad
theorem fPut_e {i : Nat} {fk fe : FE} {δ : DSt} : fPut i fk fe δ = O.on (fe δ) fun d => O.on (fOwn i δ) fun ds => O.on (fk δ) fun k => oPut i δ ds d k := rfl
theorem fFrz_e {i : Nat} {F : FS} {δ : DSt} : fFrz i F δ = F (frz i δ) := rfl
theorem frz_0o {ds : List D} {r : DSt} : frz 0 (.ow ds :: r) = .fz (.lst ds) :: r := rfl
theorem frz_s {i : Nat} {s : DS} {r : DSt} : frz (i + 1) (s :: r) = s :: frz i r := by
  unfold frz
  rw [List.getElem?_cons_succ]
  cases r[i]? with
  | none => rfl
  | some t => cases t <;> rfl
theorem fFor_e {fi : FL} {put : FP} {body : FS} {δ : DSt} : fFor fi put body δ = O.on (fi δ) fun ds => loopF put body ds δ := rfl
theorem fItems_e {f : FE} {δ : DSt} : fItems f δ = (f δ).bind fun d => R.of (dItems d) := rfl
theorem fRange_e {fl : FL} {δ : DSt} : fRange fl δ = (fl δ).bind fun ds => R.of (dRange ds) := rfl
def oAsg (p : FP) (δ : DSt) (d : D) : O := match p δ d with
  | some δ' => .nx δ'
  | none => .bad
theorem fAsg_e {p : FP} {f : FE} {δ : DSt} : fAsg p f δ = O.on (f δ) fun d => oAsg p δ d := rfl
def oMat (G : Str → FS) (δ : DSt) (d : D) : O := match d with
  | .str z => G z δ
  | _ => .bad
theorem oMat_e {G : Str → FS} {δ : DSt} {z : Str} : oMat G δ (.str z) = G z δ := rfl
theorem fMatch_e {f : FE} {G : Str → FS} {δ : DSt} : fMatch f G δ = O.on (f δ) fun d => oMat G δ d := by
  unfold fMatch oMat
  cases f δ <;> rfl
theorem fAug_e {F : D → D → Option D} {i : Nat} {f : FE} {δ : DSt} : fAug F i f δ = O.on (fVar i δ) fun x => O.on (f δ) fun y => O.on (R.of (F x y)) fun z => .nx (δ.set i (.fz z)) := rfl
def O.fin (o : O) : R D := match o with
  | .rt d _ => .ok d
  | .nx _ => .ok .non
  | .exc n xs => .exc n xs
  | _ => .bad
theorem fin_rt {d : D} {δ : DSt} : (O.rt d δ).fin = .ok d := rfl
theorem fin_nx {δ : DSt} : (O.nx δ).fin = .ok .non := rfl
theorem fin_exc {n : Str} {xs : List D} : (O.exc n xs).fin = .exc n xs := rfl
theorem runD_e {m : Nat} {F : FS} {ds : List D} : runD m F ds = (F (ds.map DS.fz ++ List.replicate (m - ds.length) DS.un)).fin := rfl
theorem pName_e {i : Nat} {δ : DSt} {d : D} : pName i δ d = some (δ.set i (.fz d)) := rfl
theorem pNil_e {δ : DSt} : pNil δ [] = some δ := rfl
theorem pCons_e {p : FP} {ps : FPs} {δ : DSt} {d : D} {ds : List D} : pCons p ps δ (d :: ds) = (p δ d).bind fun δ' => ps δ' ds := rfl
theorem pTup_e {n : Nat} {ps : FPs} {δ : DSt} {ds : List D} : pTup n ps δ (.tup ds) = if ds.length = n then ps δ ds else none := rfl
theorem dAdd_ii {i j : Int} : dAdd (.int i) (.int j) = some (.int (i + j)) := rfl
theorem dAdd_ss {x y : Str} (h : okLe (x.length + y.length) = true) : dAdd (.str x) (.str y) = some (.str (x ++ y)) := if_pos h
theorem dAdd_ll {xs ys : List D} (h : okLe (xs.length + ys.length) = true) : dAdd (.lst xs) (.lst ys) = some (.lst (xs ++ ys)) := if_pos h
theorem dAdd_tt {x : D} {xs ys : List D} (h : okLe ((x :: xs).length + ys.length) = true) : dAdd (.tup (x :: xs)) (.tup ys) = some (.tup (x :: xs ++ ys)) := if_pos h
theorem dSub_ii {i j : Int} : dSub (.int i) (.int j) = some (.int (i - j)) := rfl
theorem dMul_ii {i j : Int} (h : mulOk i j = true) : dMul (.int i) (.int j) = some (.int (i * j)) := if_pos h
theorem lim_by {k : Nat} {i : Int} (h : i.natAbs < 2 ^ k) : lim k i = true := Nat.blt_eq.mpr h
theorem mulOk_l {i j : Int} (h : lim 64 i = true) : mulOk i j = true := by unfold mulOk; rw [h]; rfl
theorem mulOk_r {i j : Int} (h : lim 64 j = true) : mulOk i j = true := by unfold mulOk; rw [h]; cases lim 64 i <;> rfl
theorem dMul_li {xs : List D} {k : Int} (h : repOk xs.length k = true) : dMul (.lst xs) (.int k) = some (.lst (List.replicate k.toNat xs).flatten) := if_pos h
theorem repOk_by {n : Nat} {k : Int} (h : lim 63 k = true) (g : n * k.toNat ≤ 16777216) : repOk n k = true := by unfold repOk; rw [h, okLe_by g]; rfl
theorem dFdiv_ii {i j : Int} (h : 0 < j) (g : j < 1073741824) : dFdiv (.int i) (.int j) = some (.int (i / j)) := if_pos (by
  unfold divOk
  rw [decide_eq_true h]
  have : i.natAbs = i.natAbs := rfl
  show Nat.blt j.natAbs (2 ^ 400) = true
  refine Nat.blt_eq.mpr (Nat.lt_of_lt_of_le (show j.natAbs < 2 ^ 30 by omega) (Nat.pow_le_pow_right (by decide) (by decide))))
theorem dFdiv_w {i j : Int} (h : 0 < j) (g : lim 400 j = true) : dFdiv (.int i) (.int j) = some (.int (i / j)) := if_pos (by
  unfold divOk
  rw [decide_eq_true h, g]
  rfl)
theorem dMod_ii {i j : Int} (h : 0 < j) : dMod (.int i) (.int j) = some (.int (i % j)) := if_pos h
theorem dNeg_i {i : Int} : dNeg (.int i) = some (.int (-i)) := rfl
theorem dLt_ii {i j : Int} : dLt (.int i) (.int j) = some (.bl (decide (i < j))) := rfl
theorem dLe_ii {i j : Int} : dLe (.int i) (.int j) = some (.bl (decide (i ≤ j))) := rfl
theorem dGt_ii {i j : Int} : dGt (.int i) (.int j) = some (.bl (decide (j < i))) := rfl
theorem dGe_ii {i j : Int} : dGe (.int i) (.int j) = some (.bl (decide (j ≤ i))) := rfl
theorem dIx_l {xs : List D} {i : Int} : dIx (.lst xs) (.int i) = L2.atI xs i := rfl
theorem dIx_t {xs : List D} {i : Int} : dIx (.tup xs) (.int i) = L2.atI xs i := rfl
theorem dIx_c {xs : List D} {i : Int} : dIx (.scr xs) (.int i) = L2.atI xs i := rfl
theorem dIx_s {z : Str} {i : Int} (h : okLe z.length = true) : dIx (.str z) (.int i) = (L2.atI z.cps.toList i).map (fun c => .str ⟨#[c]⟩) := if_pos h
theorem dLen_l {xs : List D} : dLen [.lst xs] = some (.int xs.length) := rfl
theorem dLen_t {xs : List D} : dLen [.tup xs] = some (.int xs.length) := rfl
theorem dLen_c {xs : List D} : dLen [.scr xs] = some (.int xs.length) := rfl
theorem dLen_s {z : Str} (h : okLe z.length = true) : dLen [.str z] = some (.int z.length) := if_pos h
theorem dAbs_i {i : Int} : dAbs [.int i] = some (.int (if i < 0 then -i else i)) := rfl
theorem dMax2_ii {i j : Int} : dMax2 [.int i, .int j] = some (.int (if j > i then j else i)) := rfl
theorem dMin2_ii {i j : Int} : dMin2 [.int i, .int j] = some (.int (if j < i then j else i)) := rfl
theorem dInt_i {i : Int} : dInt [.int i] = some (.int i) := rfl
theorem dStr_i {i : Int} (h : i.natAbs.log2 < 1920) : dStr [.int i] = some (.str (toString i)) := if_pos h
theorem dStr_s {x : Str} : dStr [.str x] = some (.str x) := rfl
theorem dList_l {xs : List D} : dList [.lst xs] = some (.lst xs) := rfl
theorem dList_t {xs : List D} : dList [.tup xs] = some (.lst xs) := rfl
theorem dTuple_l {xs : List D} : dTuple [.lst xs] = some (.tup xs) := rfl
theorem dTuple_t {xs : List D} : dTuple [.tup xs] = some (.tup xs) := rfl
theorem dCut_l {xs : List D} {lo hi : Option Int} : dCut (.lst xs) lo hi = some (.lst (cut xs lo hi)) := rfl
theorem dCut_t {xs : List D} {lo hi : Option Int} : dCut (.tup xs) lo hi = some (.tup (cut xs lo hi)) := rfl
theorem dItems_l {xs : List D} : dItems (.lst xs) = some xs := rfl
theorem dItems_t {xs : List D} : dItems (.tup xs) = some xs := rfl
theorem dItems_s {z : Str} : dItems (.str z) = some (z.cps.toList.map fun c => .str ⟨#[c]⟩) := rfl
theorem dRange_1 {j : Int} (h : small62 j = true) : dRange [.int j] = some (dInts 0 j.toNat) := if_pos h
theorem dRange_2 {i j : Int} (h : small62 i = true) (g : small62 j = true) : dRange [.int i, .int j] = some (dInts i (j - i).toNat) := if_pos (by rw [h, g]; rfl)
theorem dIsN_e {d : D} : dIsN d = some (.bl d.isNon) := rfl
theorem dNotN_e {d : D} : dNotN d = some (.bl (!d.isNon)) := rfl
theorem isNon_n  : D.isNon .non = true := rfl
theorem isNon_b {b : Bool} : D.isNon (.bl b) = false := rfl
theorem isNon_i {i : Int} : D.isNon (.int i) = false := rfl
theorem isNon_s {x : Str} : D.isNon (.str x) = false := rfl
theorem isNon_t {xs : List D} : D.isNon (.tup xs) = false := rfl
theorem isNon_l {xs : List D} : D.isNon (.lst xs) = false := rfl
theorem isNon_o {c : Str} {xs : List D} : D.isNon (.obj c xs) = false := rfl
theorem dIsi_n {T : String} : dIsi T .non = some (.bl (isT "NoneType" T)) := rfl
theorem dIsi_b {T : String} {b : Bool} : dIsi T (.bl b) = some (.bl (isT "bool" T)) := rfl
theorem dIsi_i {T : String} {i : Int} : dIsi T (.int i) = some (.bl (isT "int" T)) := rfl
theorem dIsi_s {T : String} {x : Str} : dIsi T (.str x) = some (.bl (isT "str" T)) := rfl
theorem dIsi_t {T : String} {xs : List D} : dIsi T (.tup xs) = some (.bl (isT "tuple" T)) := rfl
theorem dIsi_l {T : String} {xs : List D} : dIsi T (.lst xs) = some (.bl (isT "list" T)) := rfl
theorem dIn_e {x y : D} : dIn x y = (dInB x y).map D.bl := rfl
theorem dNotIn_e {x y : D} : dNotIn x y = (dInB x y).map fun b => D.bl (!b) := rfl
theorem dEq_e {x y : D} : dEq x y = (dEqB x y).map D.bl := rfl
theorem dNe_e {x y : D} : dNe x y = (dEqB x y).map fun b => D.bl (!b) := rfl
theorem oPop_2 {j i : Nat} {δ : DSt} {ds : List D} {c d : D} : oPop j i δ (ds ++ [c, d]) = .nx ((δ.set i (.ow (ds ++ [c]))).set j (.fz d)) := by
  rw [show ds ++ [c, d] = (ds ++ [c]) ++ [d] from by rw [List.append_assoc]; rfl]
  exact oPop_ok
theorem oPop_1 {j i : Nat} {δ : DSt} {d : D} : oPop j i δ [d] = .nx ((δ.set i (.ow [])).set j (.fz d)) := rfl
theorem cast_0 : ((0 : Nat) : Int) = 0 := rfl
theorem cast_1 : ((1 : Nat) : Int) = 1 := rfl
theorem cast_2 : ((2 : Nat) : Int) = 2 := rfl
theorem cast_3 : ((3 : Nat) : Int) = 3 := rfl
theorem at_0 {a : D} {r : List D} : L2.atI (a :: r) 0 = some a := L2.atI_nat (j := 0) rfl
theorem at_1 {a b : D} {r : List D} : L2.atI (a :: b :: r) 1 = some b := L2.atI_nat (j := 1) rfl
theorem at_2 {a b c : D} {r : List D} : L2.atI (a :: b :: c :: r) 2 = some c := L2.atI_nat (j := 2) rfl
theorem at_3 {a b c d : D} {r : List D} : L2.atI (a :: b :: c :: d :: r) 3 = some d := L2.atI_nat (j := 3) rfl
theorem at_4 {a b c d e : D} {r : List D} : L2.atI (a :: b :: c :: d :: e :: r) 4 = some e := L2.atI_nat (j := 4) rfl
theorem at_5 {a b c d e f : D} {r : List D} : L2.atI (a :: b :: c :: d :: e :: f :: r) 5 = some f := L2.atI_nat (j := 5) rfl
theorem at_6 {a b c d e f g : D} {r : List D} : L2.atI (a :: b :: c :: d :: e :: f :: g :: r) 6 = some g := L2.atI_nat (j := 6) rfl
theorem lcF_nil {i : Nat} {t : FB} {f : FE} {δ : DSt} {acc : List D} : lcF i t f δ [] acc = .ok acc := rfl
theorem lcF_yes {i : Nat} {t : FB} {f : FE} {δ : DSt} {d e : D} {ds acc : List D} (ht : t (δ.set i (.fz d)) = .ok true) (hf : f (δ.set i (.fz d)) = .ok e) (hl : okLt acc.length = true) : lcF i t f δ (d :: ds) acc = lcF i t f δ ds (acc ++ [e]) := by
  show ((t (δ.set i (.fz d))).quiet.bind _) = _
  rw [ht]
  show ((f (δ.set i (.fz d))).quiet.bind _) = _
  rw [hf]
  exact if_pos hl
theorem lcF_no {i : Nat} {t : FB} {f : FE} {δ : DSt} {d : D} {ds acc : List D} (ht : t (δ.set i (.fz d)) = .ok false) : lcF i t f δ (d :: ds) acc = lcF i t f δ ds acc := by
  show ((t (δ.set i (.fz d))).quiet.bind _) = _
  rw [ht]
  rfl
theorem lcF_all {α : Type} {i : Nat} {f : FE} {δ : DSt} {g h : α → D} : ∀ {xs : List α} {acc : List D}, (∀ x ∈ xs, f (δ.set i (.fz (g x))) = .ok (h x)) → acc.length + xs.length ≤ 16777215 → lcF i fYes f δ (xs.map g) acc = .ok (acc ++ xs.map h)
  | [], acc, _, _ => by rw [List.map_nil, List.map_nil, List.append_nil]; rfl
  | x :: xs, acc, hx, hl => by
    rw [List.length_cons] at hl
    rw [List.map_cons, lcF_yes (e := h x) rfl (hx x List.mem_cons_self) (okLt_by (by omega)), lcF_all (h := h) (fun y hy => hx y (List.mem_cons_of_mem _ hy)) (by rw [List.length_append, List.length_singleton]; omega), List.append_assoc]
    rfl
theorem fLc_e {fi : FL} {i : Nat} {t : FB} {f : FE} {δ : DSt} : fLc fi i t f δ = (fi δ).bind fun ds => (lcF i t f δ ds []).bind fun es => .ok (.lst es) := by
  unfold fLc fLcL
  cases fi δ <;> rfl
theorem fLcL_e {fi : FL} {i : Nat} {t : FB} {f : FE} {δ : DSt} : fLcL fi i t f δ = (fi δ).bind fun ds => lcF i t f δ ds [] := rfl
theorem fJoin_e {f g : FE} {δ : DSt} : fJoin f g δ = (f δ).bind (rJoin g δ) := rfl
theorem rJoin_e {a : Str} {g : FE} {δ : DSt} : rJoin g δ (.str a) = (g δ).bind fun e => R.of (dJoin a e) := rfl
theorem dJoin_l {a : Str} {ys : List Str} (h : joinOk a ys = true) : dJoin a (.lst (ys.map .str)) = some (.str (Str.join a ys)) := by
  show (match strsOf (ys.map .str) with | some ys => if joinOk a ys = true then some (D.str (Str.join a ys)) else none | none => none) = _
  rw [strsOf_map]
  exact if_pos h
theorem joinOk_by {a : Str} {ys : List Str} (h : (ys.map (·.length)).sum + ys.length * a.length ≤ 16777216) : joinOk a ys = true := Nat.ble_eq_true_of_le h
end DL

namespace DL
open PySem PySem.Spec PyProof.Rows
theorem loopF_ind {put : FP} {body : FS} {items : List D} {δ : DSt} (I : List D → DSt → Prop) (h0 : I [] δ)
    (step : ∀ pre d post δ, items = pre ++ d :: post → I pre δ → ∃ δ1, put δ d = some δ1 ∧ ∃ δ2, (body δ1 = .nx δ2 ∨ body δ1 = .ct δ2) ∧ I (pre ++ [d]) δ2) : ∃ δ', loopF put body items δ = .nx δ' ∧ I items δ' := by
  have go : ∀ (post pre : List D) (δ : DSt), items = pre ++ post → I pre δ → ∃ δ', loopF put body post δ = .nx δ' ∧ I items δ' := by
    intro post
    induction post with
    | nil => intro pre δ e h; rw [List.append_nil] at e; subst e; exact ⟨δ, rfl, h⟩
    | cons d post ih =>
      intro pre δ e h
      obtain ⟨δ1, h1, δ2, h2, h3⟩ := step pre d post δ e h
      obtain ⟨δ', h4, h5⟩ := ih (pre ++ [d]) δ2 (by rw [e, List.append_assoc]; rfl) h3
      refine ⟨δ', ?_, h5⟩
      unfold loopF
      rw [h1]
      rcases h2 with h2 | h2 <;> (simp only [h2]; exact h4)
  exact go items [] δ rfl h0
theorem loopF_range {put : FP} {body : FS} {lo : Int} {n : Nat} {δ : DSt} (I : Nat → DSt → Prop) (h0 : I 0 δ)
    (step : ∀ (k : Nat) δ, k < n → I k δ → ∃ δ1, put δ (.int (lo + k)) = some δ1 ∧ ∃ δ2, (body δ1 = .nx δ2 ∨ body δ1 = .ct δ2) ∧ I (k + 1) δ2) : ∃ δ', loopF put body (dInts lo n) δ = .nx δ' ∧ I n δ' := by
  have hl : (dInts lo n).length = n := by simp [dInts]
  obtain ⟨δ', h1, h2⟩ := loopF_ind (put := put) (body := body) (items := dInts lo n) (δ := δ) (fun pre δ => I pre.length δ) h0 (fun pre d post δ e h => by
    have hk : pre.length < n := by
      have := congrArg List.length e
      rw [hl] at this
      simp only [List.length_append, List.length_cons] at this
      omega
    have hd : d = .int (lo + (pre.length : Nat)) := by
      have e1 : (dInts lo n)[pre.length]? = some d := by rw [e]; simp
      simp [dInts, hk] at e1
      exact e1.symm
    obtain ⟨δ1, h1, δ2, h2, h3⟩ := step pre.length δ hk h
    exact ⟨δ1, by rw [hd]; exact h1, δ2, h2, by simpa using h3⟩)
  rw [hl] at h2
  exact ⟨δ', h1, h2⟩
theorem cut_to {α : Type} (xs : List α) (k : Nat) : cut xs none (some (k : Int)) = xs.take k := by
  unfold cut
  rw [HT.sIx_none, HT.sIx_nat, List.drop_zero, Nat.sub_zero]
  by_cases h : k ≤ xs.length
  · rw [Nat.min_eq_left h]
  · rw [Nat.min_eq_right (by omega), List.take_of_length_le (Nat.le_refl _), List.take_of_length_le (by omega)]
theorem cut_from {α : Type} (xs : List α) (k : Nat) : cut xs (some (k : Int)) none = xs.drop k := by
  unfold cut
  rw [HT.sIx_none, HT.sIx_nat, List.take_of_length_le (by rw [List.length_drop]; exact Nat.le_refl _)]
  by_cases h : k ≤ xs.length
  · rw [Nat.min_eq_left h]
  · rw [Nat.min_eq_right (by omega), List.drop_of_length_le (Nat.le_refl _), List.drop_of_length_le (by omega)]
theorem cut_all {α : Type} (xs : List α) : cut xs none none = xs := by
  unfold cut
  rw [HT.sIx_none, HT.sIx_none, List.drop_zero, Nat.sub_zero, List.take_length]
theorem cut_tl {α : Type} (x : α) (xs : List α) : cut (x :: xs) (some 1) none = xs := cut_from (x :: xs) 1
theorem map_rep {α β : Type} (f : α → β) (n : Nat) (a : α) : List.replicate n (f a) = (List.replicate n a).map f := List.map_replicate.symm
theorem flat_one {α : Type} (n : Nat) (a : α) : (List.replicate n [a]).flatten = List.replicate n a := by
  induction n with
  | zero => rfl
  | succ n ih => rw [List.replicate_succ, List.flatten_cons, ih]; rfl
theorem loopF_nx {put : FP} {body : FS} {d : D} {ds : List D} {δ δ1 δ2 : DSt} (h1 : put δ d = some δ1) (h2 : body δ1 = .nx δ2) : loopF put body (d :: ds) δ = loopF put body ds δ2 := by
  show (match put δ d with | none => O.bad | some δ1 => _) = _
  rw [h1]
  simp only [h2]
theorem loopF_rt {put : FP} {body : FS} {d z : D} {ds : List D} {δ δ1 δ2 : DSt} (h1 : put δ d = some δ1) (h2 : body δ1 = .rt z δ2) : loopF put body (d :: ds) δ = .rt z δ2 := by
  show (match put δ d with | none => O.bad | some δ1 => _) = _
  rw [h1]
  simp only [h2]
theorem dEqB_ss {x y : Str} : dEqB (.str x) (.str y) = some (x == y) := rfl
theorem dEqB_ii {i j : Int} : dEqB (.int i) (.int j) = some (i == j) := rfl
def Eqb (n : Nat) (d : D) : Prop := ∃ p, d.py = some p ∧ p.canLay0 = true ∧ p.depth ≤ n
def EqbL (n : Nat) (ds : List D) : Prop := ∃ ps, pyL ds = some ps ∧ PyData.canLayAll0 ps = true ∧ PyData.depthAll ps ≤ n
theorem Eqb.int (n : Nat) (i : Int) : Eqb n (.int i) := ⟨_, by unfold D.py; rfl, by simp [PyData.canLay0], by simp [PyData.depth]⟩
theorem Eqb.non (n : Nat) : Eqb n .non := ⟨_, by unfold D.py; rfl, by simp [PyData.canLay0], by simp [PyData.depth]⟩
theorem Eqb.bl (n : Nat) (b : Bool) : Eqb n (.bl b) := ⟨_, by unfold D.py; rfl, by simp [PyData.canLay0], by simp [PyData.depth]⟩
abbrev Sok (x : Str) : Prop := PyData.strOk x = true
theorem Sok.app {x y : Str} (h : Sok x) (k : Sok y) : Sok (x ++ y) := by
  show (x.cps ++ y.cps).all _ = true
  rw [Array.all_append]
  exact Bool.and_eq_true_iff.mpr ⟨h, k⟩
theorem Eqb.str {n : Nat} {x : Str} (h : Sok x) : Eqb n (.str x) := ⟨_, by unfold D.py; rfl, by unfold PyData.canLay0; exact h, by simp [PyData.depth]⟩
theorem EqbL.nil (n : Nat) : EqbL n [] := ⟨[], by unfold pyL; rfl, by simp [PyData.canLayAll0], by simp [PyData.depthAll]⟩
theorem EqbL.cons {n : Nat} {d : D} {ds : List D} (h : Eqb n d) (k : EqbL n ds) : EqbL n (d :: ds) := by
  obtain ⟨p, h1, h2, h3⟩ := h
  obtain ⟨ps, k1, k2, k3⟩ := k
  refine ⟨p :: ps, by unfold pyL; rw [h1, k1], by unfold PyData.canLayAll0; rw [h2, k2]; rfl, ?_⟩
  unfold PyData.depthAll
  omega
theorem EqbL.of {n : Nat} {ds : List D} (h : ∀ d ∈ ds, Eqb n d) : EqbL n ds := by
  induction ds with
  | nil => exact .nil n
  | cons d ds ih => exact .cons (h d (List.mem_cons_self)) (ih fun e he => h e (List.mem_cons_of_mem _ he))
theorem Eqb.tup {n : Nat} {ds : List D} (h : EqbL n ds) : Eqb (n + 1) (.tup ds) := by
  obtain ⟨ps, k1, k2, k3⟩ := h
  refine ⟨.tuple ps, by unfold D.py; rw [k1]; rfl, by unfold PyData.canLay0; exact k2, ?_⟩
  unfold PyData.depth
  omega
theorem Eqb.lst {n : Nat} {ds : List D} (h : EqbL n ds) : Eqb (n + 1) (.lst ds) := by
  obtain ⟨ps, k1, k2, k3⟩ := h
  refine ⟨.list ps, by unfold D.py; rw [k1]; rfl, by unfold PyData.canLay0; exact k2, ?_⟩
  unfold PyData.depth
  omega
theorem Eqb.mono {n m : Nat} {d : D} (h : Eqb n d) (l : n ≤ m) : Eqb m d := by
  obtain ⟨p, h1, h2, h3⟩ := h
  exact ⟨p, h1, h2, by omega⟩
theorem Eqb.strs {n : Nat} {xs : List Str} (h : ∀ x ∈ xs, Sok x) : Eqb (n + 1) (.lst (xs.map .str)) := Eqb.lst (.of fun d hd => by
  obtain ⟨i, hi, rfl⟩ := List.mem_map.mp hd
  exact .str (h i hi))
theorem dEqB_refl {d : D} (h : Eqb 64 d) : dEqB d d = some true := by
  obtain ⟨p, h1, h2, h3⟩ := h
  have key : dEqP d d = some true := by
    unfold dEqP
    rw [h1]
    have s : SeqAt.shaped p = true := Bool.and_eq_true_iff.mpr ⟨h2, decide_eq_true h3⟩
    show (if (SeqAt.shaped p && SeqAt.shaped p) = true then _ else _) = _
    rw [s, SeqAt.eqv_refl p h2]
    rfl
  cases d with
  | str x => exact congrArg some (beq_self_eq_true x)
  | int i => exact congrArg some (beq_self_eq_true i)
  | _ => exact key
theorem dNe_refl {d : D} (h : Eqb 64 d) : dNe d d = some (.bl false) := by
  unfold dNe
  rw [dEqB_refl h]
  rfl
theorem flat_strs (xs : List Str) : (xs.map D.str).all D.flat = true := by
  rw [List.all_map]
  exact List.all_eq_true.mpr fun _ _ => rfl
theorem inB_strs (x : Str) (xs : List Str) : inB (.str x) (xs.map .str) = decide (x ∈ xs) := by
  unfold inB
  rw [List.any_map]
  induction xs with
  | nil => rfl
  | cons y ys ih =>
    rw [List.any_cons, ih]
    show ((y == x) || _) = _
    by_cases h : y = x
    · subst h; simp
    · have h2 : x ≠ y := fun e => h e.symm
      simp [h, h2]
theorem dInB_strs {x : Str} {xs : List Str} : dInB (.str x) (.lst (xs.map .str)) = some (decide (x ∈ xs)) := by
  show (if (true && (xs.map D.str).all D.flat) = true then some (inB (.str x) (xs.map .str)) else none) = _
  rw [flat_strs, inB_strs]
  rfl
theorem dInB_strsT {x : Str} {xs : List Str} : dInB (.str x) (.tup (xs.map .str)) = some (decide (x ∈ xs)) := by
  show (if (true && (xs.map D.str).all D.flat) = true then some (inB (.str x) (xs.map .str)) else none) = _
  rw [flat_strs, inB_strs]
  rfl
end DL

namespace DL
open PySem PySem.Spec PyProof.Rows
def rProp (c : Str) (G : List D → R D) (o : D) : R D := if isOb c o = true then (G [o]).quiet else .bad
theorem fProp_e {c : Str} {G : List D → R D} {fo : FE} {δ : DSt} : fProp c G fo δ = (fo δ).bind (rProp c G) := rfl
theorem rProp_e {c : Str} {G : List D → R D} {xs : List D} : rProp c G (.obj c xs) = (G [.obj c xs]).quiet := if_pos (decide_eq_true rfl)
theorem quiet_ok {α : Type} {a : α} : (R.ok a).quiet = .ok a := rfl
theorem dSlot_e {c : Str} {i : Nat} {xs : List D} : dSlot c i (.obj c xs) = xs[i]? := if_pos rfl
theorem fMakeSK_e {c : Str} {n : Nat} {gD : List D → List D} {fl : FL} {δ : DSt} : fMakeSK c n gD fl δ = (fl δ).bind (rMakeSK c n gD) := rfl
theorem gMrg_e {m : List Bool} {is : List Int} {zs : List D} : gMrg m is zs = mrg m (is.map .int) zs := rfl
theorem mrg_t {α : Type} {m : List Bool} {ys zs : List α} {z : α} : mrg (true :: m) ys (z :: zs) = z :: mrg m ys zs := by cases ys <;> rfl
theorem mrg_f {α : Type} {m : List Bool} {ys zs : List α} {y : α} : mrg (false :: m) (y :: ys) zs = y :: mrg m ys zs := by cases zs <;> rfl
theorem mrg_n {α : Type} {ys zs : List α} : mrg [] ys zs = [] := by cases ys <;> cases zs <;> rfl
def rNum (ds : List D) : R D := if ds.length = 8 then .ok (.obj "Numbers" ds) else .bad
theorem rMakeN_e {m : List Bool} {is : List Int} {zs : List D} : rMakeSK "Numbers" 8 (gMrg m is) zs = rNum (mrg m (is.map .int) zs) := rfl
theorem rNum_e {a0 a1 a2 a3 a4 a5 a6 a7 : D} : rNum [a0, a1, a2, a3, a4, a5, a6, a7] = .ok (.obj "Numbers" [a0, a1, a2, a3, a4, a5, a6, a7]) := rfl
def rMethF (c : Str) (G : List D → R D) (fl : FL) (δ : DSt) (o : D) : R D := if isOb c o = true then (fl δ).bind fun ds => G (o :: ds) else .bad
theorem fMethF_e {c : Str} {G : List D → R D} {fo : FE} {fl : FL} {δ : DSt} : fMethF c G fo fl δ = (fo δ).bind (rMethF c G fl δ) := rfl
theorem rMethF_e {c : Str} {G : List D → R D} {fl : FL} {δ : DSt} {xs : List D} : rMethF c G fl δ (.obj c xs) = (fl δ).bind fun ds => G (.obj c xs :: ds) := if_pos (decide_eq_true rfl)
theorem dIntS_i {i : Int} : dIntS [.int i] = some (.int i) := rfl
theorem dAddS_ii {i j : Int} : dAddS (.int i) (.int j) = some (.int (i + j)) := rfl
theorem dAddS_ss {x y : Str} (h : okLe (x.length + y.length) = true) : dAddS (.str x) (.str y) = some (.str (x ++ y)) := if_pos h
theorem dGcd_ii {a b : Int} : dGcd [.int a, .int b] = some (.int (Nat.gcd a.natAbs b.natAbs : Nat)) := rfl
theorem dLcm_ii {a b : Int} (h : lim 64 a = true) (k : lim 64 b = true) : dLcm [.int a, .int b] = some (.int (Nat.lcm a.natAbs b.natAbs : Nat)) := if_pos (by rw [h, k]; rfl)
theorem dLcm_iii {a b c : Int} (h : lim 64 a = true) (k : lim 64 b = true) (l : lim 64 c = true) : dLcm [.int a, .int b, .int c] = some (.int (Nat.lcm (Nat.lcm a.natAbs b.natAbs) c.natAbs : Nat)) := if_pos (by rw [h, k, l]; rfl)
theorem at_7 {a0 a1 a2 a3 a4 a5 a6 a7 : D} {r : List D} : L2.atI (a0 :: a1 :: a2 :: a3 :: a4 :: a5 :: a6 :: a7 :: r) 7 = some a7 := L2.atI_nat (j := 7) rfl
theorem at_8 {a0 a1 a2 a3 a4 a5 a6 a7 a8 : D} {r : List D} : L2.atI (a0 :: a1 :: a2 :: a3 :: a4 :: a5 :: a6 :: a7 :: a8 :: r) 8 = some a8 := L2.atI_nat (j := 8) rfl
theorem at_9 {a0 a1 a2 a3 a4 a5 a6 a7 a8 a9 : D} {r : List D} : L2.atI (a0 :: a1 :: a2 :: a3 :: a4 :: a5 :: a6 :: a7 :: a8 :: a9 :: r) 9 = some a9 := L2.atI_nat (j := 9) rfl
theorem at_10 {a0 a1 a2 a3 a4 a5 a6 a7 a8 a9 a10 : D} {r : List D} : L2.atI (a0 :: a1 :: a2 :: a3 :: a4 :: a5 :: a6 :: a7 :: a8 :: a9 :: a10 :: r) 10 = some a10 := L2.atI_nat (j := 10) rfl
theorem at_11 {a0 a1 a2 a3 a4 a5 a6 a7 a8 a9 a10 a11 : D} {r : List D} : L2.atI (a0 :: a1 :: a2 :: a3 :: a4 :: a5 :: a6 :: a7 :: a8 :: a9 :: a10 :: a11 :: r) 11 = some a11 := L2.atI_nat (j := 11) rfl
theorem at_12 {a0 a1 a2 a3 a4 a5 a6 a7 a8 a9 a10 a11 a12 : D} {r : List D} : L2.atI (a0 :: a1 :: a2 :: a3 :: a4 :: a5 :: a6 :: a7 :: a8 :: a9 :: a10 :: a11 :: a12 :: r) 12 = some a12 := L2.atI_nat (j := 12) rfl
theorem at_13 {a0 a1 a2 a3 a4 a5 a6 a7 a8 a9 a10 a11 a12 a13 : D} {r : List D} : L2.atI (a0 :: a1 :: a2 :: a3 :: a4 :: a5 :: a6 :: a7 :: a8 :: a9 :: a10 :: a11 :: a12 :: a13 :: r) 13 = some a13 := L2.atI_nat (j := 13) rfl
theorem at_14 {a0 a1 a2 a3 a4 a5 a6 a7 a8 a9 a10 a11 a12 a13 a14 : D} {r : List D} : L2.atI (a0 :: a1 :: a2 :: a3 :: a4 :: a5 :: a6 :: a7 :: a8 :: a9 :: a10 :: a11 :: a12 :: a13 :: a14 :: r) 14 = some a14 := L2.atI_nat (j := 14) rfl
theorem at_15 {a0 a1 a2 a3 a4 a5 a6 a7 a8 a9 a10 a11 a12 a13 a14 a15 : D} {r : List D} : L2.atI (a0 :: a1 :: a2 :: a3 :: a4 :: a5 :: a6 :: a7 :: a8 :: a9 :: a10 :: a11 :: a12 :: a13 :: a14 :: a15 :: r) 15 = some a15 := L2.atI_nat (j := 15) rfl
theorem at_m1 {α : Type} {xs : List α} {a : α} : L2.atI (xs ++ [a]) (-1) = some a := by
  have e : L2.ixN (xs.length + 1) (-1) = some xs.length := by
    unfold L2.ixN
    simp
    omega
  unfold L2.atI
  simp [e]
theorem cut_toL {α : Type} {xs : List α} {i : Int} (h : 0 ≤ i) : cut xs none (some i) = xs.take i.toNat := by
  obtain ⟨k, rfl⟩ := Int.eq_ofNat_of_zero_le h
  exact cut_to xs k
theorem cut_fromL {α : Type} {xs : List α} {i : Int} (h : 0 ≤ i) : cut xs (some i) none = xs.drop i.toNat := by
  obtain ⟨k, rfl⟩ := Int.eq_ofNat_of_zero_le h
  exact cut_from xs k
theorem cut_btw {α : Type} {xs : List α} {i j : Int} (h : 0 ≤ i) (g : 0 ≤ j) : cut xs (some i) (some j) = (xs.take j.toNat).drop i.toNat := by
  obtain ⟨k, rfl⟩ := Int.eq_ofNat_of_zero_le h
  obtain ⟨m, rfl⟩ := Int.eq_ofNat_of_zero_le g
  unfold cut
  rw [HT.sIx_nat, HT.sIx_nat, List.drop_take]
  by_cases c : k ≤ xs.length
  · rw [Nat.min_eq_left c]
    by_cases e : m ≤ xs.length
    · rw [Nat.min_eq_left e]
      rfl
    · rw [Nat.min_eq_right (by omega), List.take_of_length_le (by simp)]
      exact (List.take_of_length_le (by simp; omega)).symm
  · rw [Nat.min_eq_right (by omega : xs.length ≤ k), List.drop_of_length_le (Nat.le_refl _), List.take_nil]
    show [] = List.take (m - k) (List.drop k xs)
    rw [List.drop_of_length_le (by omega), List.take_nil]
theorem fSlS_e {f : FE} {l h : FO} {g : FE} {δ : DSt} : fSlS f l h g δ = (f δ).bind fun d => (l δ).bind fun lo => (h δ).bind fun hi => (g δ).bind fun c => R.of (dPick d lo hi c) := rfl
theorem dPick_l {xs : List D} {lo hi : Option Int} {c : Int} (h : c ≠ 0) : dPick (.lst xs) lo hi (.int c) = some (.lst (pickG xs lo hi (some c))) := if_neg h
theorem fRange3_e {fl : FL} {δ : DSt} : fRange3 fl δ = (fl δ).bind fun ds => R.of (dRange3 ds) := rfl
theorem dRange3_e {i j c : Int} (h : rg3Ok i j c = true) : dRange3 [.int i, .int j, .int c] = some (dInt3 i c (Builtin.Range.rangeSize i j c).toNat) := if_pos h
theorem fLc2_e {fi : FL} {i : Nat} {t : FB} {fi1 : FL} {i1 : Nat} {t1 : FB} {f : FE} {δ : DSt} : fLc2 fi i t fi1 i1 t1 f δ = (fi δ).bind fun ds => (lc2F i t fi1 i1 t1 f (δ.set i1 .un) ds []).bind fun es => .ok (.lst es) := by
  unfold fLc2 fLc2L
  cases fi δ <;> rfl
theorem fCallK_e {ks : List Str} {G : List D → R D} {fl fk : FL} {δ : DSt} : fCallK ks G fl fk δ = (fl δ).bind fun ds => (fk δ).bind fun es => rCallK ks G ds es := rfl
theorem fCallO_e {c : Str} {G : List D → R D} {fo : FE} {fl : FL} {δ : DSt} : fCallO c G fo fl δ = (fo δ).bind (rCallO c G fl δ) := rfl
theorem rCallO_e {c : Str} {G : List D → R D} {fl : FL} {δ : DSt} {xs : List D} : rCallO c G fl δ (.obj c xs) = (fl δ).bind fun ds => G (.obj c xs :: ds) := if_pos (decide_eq_true rfl)
theorem fBin_e {c : Str} {G : List D → R D} {f g : FE} {δ : DSt} : fBin c G f g δ = (f δ).bind fun x => (g δ).bind fun y => rBin c G x y := rfl
theorem rBin_e {c : Str} {G : List D → R D} {xs ys : List D} : rBin c G (.obj c xs) (.obj c ys) = G [.obj c xs, .obj c ys] := by
  unfold rBin isOb
  simp
theorem fDic0_e {δ : DSt} : fDic0 δ = .ok (.dic [] []) := rfl
theorem fCallV_e {tb : Tb} {i : Nat} {fl : FL} {δ : DSt} : fCallV tb i fl δ = (fVar i δ).bind fun d => (R.of (tbOf tb d)).bind fun G => (fl δ).bind G := rfl
def oStore : Option DSt → O
  | some δ => .nx δ
  | none => .bad
theorem oStore_s {δ : DSt} : oStore (some δ) = .nx δ := rfl
theorem oAsg_e2 {p : FP} {δ : DSt} {d : D} : oAsg p δ d = oStore (p δ d) := by
  unfold oAsg oStore
  cases p δ d <;> rfl
theorem isT_NoneType_bool : isT "NoneType" "bool" = false := by decide
theorem isT_NoneType_int : isT "NoneType" "int" = false := by decide
theorem isT_NoneType_str : isT "NoneType" "str" = false := by decide
theorem isT_NoneType_list : isT "NoneType" "list" = false := by decide
theorem isT_NoneType_tuple : isT "NoneType" "tuple" = false := by decide
theorem isT_bool_bool : isT "bool" "bool" = true := by decide
theorem isT_bool_int : isT "bool" "int" = true := by decide
theorem isT_bool_str : isT "bool" "str" = false := by decide
theorem isT_bool_list : isT "bool" "list" = false := by decide
theorem isT_bool_tuple : isT "bool" "tuple" = false := by decide
theorem isT_int_bool : isT "int" "bool" = false := by decide
theorem isT_int_int : isT "int" "int" = true := by decide
theorem isT_int_str : isT "int" "str" = false := by decide
theorem isT_int_list : isT "int" "list" = false := by decide
theorem isT_int_tuple : isT "int" "tuple" = false := by decide
theorem isT_str_bool : isT "str" "bool" = false := by decide
theorem isT_str_int : isT "str" "int" = false := by decide
theorem isT_str_str : isT "str" "str" = true := by decide
theorem isT_str_list : isT "str" "list" = false := by decide
theorem isT_str_tuple : isT "str" "tuple" = false := by decide
theorem isT_list_bool : isT "list" "bool" = false := by decide
theorem isT_list_int : isT "list" "int" = false := by decide
theorem isT_list_str : isT "list" "str" = false := by decide
theorem isT_list_list : isT "list" "list" = true := by decide
theorem isT_list_tuple : isT "list" "tuple" = false := by decide
theorem isT_tuple_bool : isT "tuple" "bool" = false := by decide
theorem isT_tuple_int : isT "tuple" "int" = false := by decide
theorem isT_tuple_str : isT "tuple" "str" = false := by decide
theorem isT_tuple_list : isT "tuple" "list" = false := by decide
theorem isT_tuple_tuple : isT "tuple" "tuple" = true := by decide
theorem lim64_by {i : Int} (h : i.natAbs < 18446744073709551616) : lim 64 i = true := lim_by h
theorem fdiv_by {j : Int} (h : 0 < j) (k : j < 1073741824) : 0 < j ∧ j < 1073741824 := ⟨h, k⟩
theorem log_by {i : Int} (h : i.natAbs < 18446744073709551616) : i.natAbs.log2 < 1920 := by
  by_cases z : i.natAbs = 0
  · rw [z]; decide
  · have := (Nat.log2_lt (k := 64) z).mpr h
    omega
theorem dEqB_self {d : D} (h : Eqb 64 d) : dEqB d d = some true := dEqB_refl h
end DL

namespace DL
open PySem PySem.Spec PyProof.Rows
theorem loopF_ct {put : FP} {body : FS} {d : D} {ds : List D} {δ δ1 δ2 : DSt} (h1 : put δ d = some δ1) (h2 : body δ1 = .ct δ2) : loopF put body (d :: ds) δ = loopF put body ds δ2 := by
  show (match put δ d with | none => O.bad | some δ1 => _) = _
  rw [h1]
  simp only [h2]
theorem log_lt' {n k : Nat} (h : n < 2 ^ (k + 1)) : n.log2 < k + 1 := by
  by_cases z : n = 0
  · subst z; simp
  · exact (Nat.log2_lt z).mpr h
theorem len_int {i : Int} (h : i.natAbs < 18446744073709551616) : (Str.ofString (toString i)).length ≤ 65 := by
  rw [PySem.ofString_length]
  exact Nat.le_trans (PySem.int_text_length_le (k := 64) (by decide) (log_lt' (k := 63) h)) (by decide)
theorem lc_range {i : Nat} {f : FE} {δ : DSt} {n : Nat} {h : Nat → D} (hf : ∀ k, k < n → f (δ.set i (.fz (.int (0 + (k : Nat))))) = .ok (h k)) (hn : n ≤ 16777215) : lcF i fYes f δ (dInts 0 n) [] = .ok ((List.range n).map h) := by
  have := lcF_all (i := i) (f := f) (δ := δ) (g := fun k : Nat => D.int (0 + (k : Int))) (h := h) (xs := List.range n) (acc := []) (fun k hk => hf k (List.mem_range.mp hk)) (by rw [List.length_range]; simpa using hn)
  simpa [dInts] using this
theorem lc_rangeL {i : Nat} {f : FE} {δ : DSt} {lo : Int} {n : Nat} {h : Nat → D} (hf : ∀ k, k < n → f (δ.set i (.fz (.int (lo + (k : Nat))))) = .ok (h k)) (hn : n ≤ 16777215) : lcF i fYes f δ (dInts lo n) [] = .ok ((List.range n).map h) := by
  have := lcF_all (i := i) (f := f) (δ := δ) (g := fun k : Nat => D.int (lo + (k : Int))) (h := h) (xs := List.range n) (acc := []) (fun k hk => hf k (List.mem_range.mp hk)) (by rw [List.length_range]; simpa using hn)
  simpa [dInts] using this
end DL

namespace DL
open PySem PySem.Spec PyProof.Rows
def Is {α : Type} (r : R α) (v : α) : Prop := r = .ok v
theorem Is.mk {α : Type} {r : R α} {d v : α} (h : r = .ok d) (k : d = v) : Is r v := k ▸ h
theorem Is.get {α : Type} {r : R α} {v : α} (h : Is r v) : r = .ok v := h
def SetA (δ : DSt) (i : Nat) (s : DS) (δ' : DSt) : Prop := δ.set i s = δ'
theorem set_0 {a s : DS} {r : DSt} : SetA (a :: r) 0 s (s :: r) := rfl
theorem set_s {a s : DS} {r r' : DSt} {i : Nat} (h : SetA r i s r') : SetA (a :: r) (i + 1) s (a :: r') := by
  unfold SetA at *
  rw [List.set_cons_succ, h]
structure IsAt (f : FE) (δ : DSt) (i : Nat) (s : DS) (v : D) : Prop where
  get : f (δ.set i s) = .ok v
theorem IsAt.mk' {f : FE} {δ δ' : DSt} {i : Nat} {s : DS} {d v : D} (h1 : SetA δ i s δ') (h2 : f δ' = .ok d) (h3 : d = v) : IsAt f δ i s v := ⟨by
  unfold SetA at h1
  rw [h1, h2, h3]⟩
structure TsAt (f : FB) (δ : DSt) (i : Nat) (s : DS) (v : Bool) : Prop where
  get : f (δ.set i s) = .ok v
theorem TsAt.mk' {f : FB} {δ δ' : DSt} {i : Nat} {s : DS} {d v : Bool} (h1 : SetA δ i s δ') (h2 : f δ' = .ok d) (h3 : d = v) : TsAt f δ i s v := ⟨by
  unfold SetA at h1
  rw [h1, h2, h3]⟩
theorem isR {α : Type} {r s : R α} (h : r = s) : r = s := h
theorem isS {α : Type} {r s : Option α} (h : r = s) : r = s := h
theorem isO {r s : O} (h : r = s) : r = s := h
theorem hyp_T {b : Bool} (h : b = true) : b = true := h
theorem hyp_F {b : Bool} (h : b = false) : b = false := h
theorem hyp_ok {α : Type} {r : R α} {v : α} (h : r = .ok v) : r = .ok v := h
theorem hyp_exc {α : Type} {r : R α} {n : Str} {xs : List D} (h : r = .exc n xs) : r = .exc n xs := h
theorem hyp_so {α : Type} {r : Option α} {v : α} (h : r = some v) : r = some v := h
theorem hyp_e {n : Nat} {d : D} (h : Eqb n d) : Eqb n d := h
theorem hyp_o {r v : O} (h : r = v) : r = v := h
section
variable {f g : FE} {fl : FL} {δ δ' : DSt} {x y z d : D} {ds xs es : List D} {b c : Bool} {s : DS} {i : Nat} {t u : FB}
theorem v_C : fC d δ = .ok d := rfl
theorem v_var0 {r : DSt} : fVar 0 (.fz d :: r) = .ok d := rfl
theorem v_varS {r : DSt} (h : fVar i r = .ok d) : fVar (i + 1) (s :: r) = .ok d := h
theorem v_own0 {r : DSt} : fOwn 0 (.ow ds :: r) = .ok ds := rfl
theorem v_ownS {r : DSt} (h : fOwn i r = .ok ds) : fOwn (i + 1) (s :: r) = .ok ds := h
theorem v_U {F : D → Option D} (h : f δ = .ok x) (k : F x = some y) : fU F f δ = .ok y := by rw [fU_e, h, R.bind_ok, k]; rfl
theorem v_B {F : D → D → Option D} (h : f δ = .ok x) (k : g δ = .ok y) (l : F x y = some z) : fB F f g δ = .ok z := by rw [fB_e, h, R.bind_ok, k, R.bind_ok, l]; rfl
theorem v_Nil : fNil δ = .ok [] := rfl
theorem v_Cons (h : f δ = .ok x) (k : fl δ = .ok xs) : fCons f fl δ = .ok (x :: xs) := by rw [fCons_e, h, R.bind_ok, k]; rfl
theorem v_L {F : List D → Option D} (h : fl δ = .ok xs) (k : F xs = some y) : fL F fl δ = .ok y := by rw [fL_e, h, R.bind_ok, k]; rfl
theorem v_Call {F : List D → R D} (h : fl δ = .ok xs) (k : F xs = .ok y) : fCall F fl δ = .ok y := by rw [fCall_e, h]; exact k
theorem v_Tup (h : fl δ = .ok xs) : fTup fl δ = .ok (.tup xs) := by rw [fTup_e, h]; rfl
theorem v_Lst (h : fl δ = .ok xs) : fLst fl δ = .ok (.lst xs) := by rw [fLst_e, h]; rfl
theorem v_IfT (h : t δ = .ok b) (hb : b = true) (k : f δ = .ok x) : fIf t f g δ = .ok x := by subst hb; rw [fIf_e, h]; exact k
theorem v_IfF (h : t δ = .ok b) (hb : b = false) (k : g δ = .ok x) : fIf t f g δ = .ok x := by subst hb; rw [fIf_e, h]; exact k
def mrgD (b : Bool) (x y z : D) : Prop := (if b = true then x else y) = z
theorem mrg_i {i j : Int} : mrgD b (.int i) (.int j) (.int (if b = true then i else j)) := by unfold mrgD; split <;> rfl
theorem mrg_l : mrgD b (.lst xs) (.lst es) (.lst (if b = true then xs else es)) := by unfold mrgD; split <;> rfl
theorem mrg_d : mrgD b x y (if b = true then x else y) := rfl
theorem v_IfB (h : t δ = .ok b) (k : b = true → f δ = .ok x) (l : b = false → g δ = .ok y) (m : mrgD b x y z) : fIf t f g δ = .ok z := by
  unfold mrgD at m
  subst m
  rw [fIf_e, h]
  cases b with
  | true => exact k rfl
  | false => exact l rfl
theorem v_Test (h : f δ = .ok (.bl b)) : fTest f δ = .ok b := by rw [fTest_e, h]; rfl
theorem v_TruB (h : f δ = .ok (.bl b)) : fTru f δ = .ok b := by rw [fTru_e, h]; rfl
theorem v_TruL (h : f δ = .ok (.lst xs)) : fTru f δ = .ok (!xs.isEmpty) := by rw [fTru_e, h]; rfl
theorem v_TruT (h : f δ = .ok (.tup xs)) : fTru f δ = .ok (!xs.isEmpty) := by rw [fTru_e, h]; rfl
theorem v_NotB (h : t δ = .ok b) : fNotB t δ = .ok (!b) := by rw [fNotB_e, h]; rfl
theorem v_AndF (h : t δ = .ok b) (hb : b = false) : fAndB t u δ = .ok false := by subst hb; rw [fAndB_e, h]; rfl
theorem v_And (h : t δ = .ok b) (k : b = true → u δ = .ok c) : fAndB t u δ = .ok (b && c) := by
  rw [fAndB_e, h]
  cases b with
  | true => exact k rfl
  | false => rfl
theorem v_OrT (h : t δ = .ok b) (hb : b = true) : fOrB t u δ = .ok true := by subst hb; rw [fOrB_e, h]; rfl
theorem v_Or (h : t δ = .ok b) (k : b = false → u δ = .ok c) : fOrB t u δ = .ok (b || c) := by
  rw [fOrB_e, h]
  cases b with
  | true => rfl
  | false => exact k rfl
theorem v_Val (h : t δ = .ok b) : fVal t δ = .ok (.bl b) := by rw [fVal_e, h]; rfl
theorem v_AndE (h : f δ = .ok (.bl b)) (k : b = true → g δ = .ok (.bl c)) : fAnd f g δ = .ok (.bl (b && c)) := by
  rw [fAnd_e, h]
  cases b with
  | true => exact k rfl
  | false => rfl
theorem v_OrE (h : f δ = .ok (.bl b)) (k : b = false → g δ = .ok (.bl c)) : fOr f g δ = .ok (.bl (b || c)) := by
  rw [fOr_e, h]
  cases b with
  | true => rfl
  | false => exact k rfl
theorem v_No : fNo δ = .ok none := rfl
theorem v_Some {n : Int} (h : f δ = .ok (.int n)) : fSome f δ = .ok (some n) := by rw [fSome_e, h]; rfl
theorem v_Sl {l h : FO} {lo hi : Option Int} (h1 : f δ = .ok x) (h2 : l δ = .ok lo) (h3 : h δ = .ok hi) (k : dCut x lo hi = some y) : fSl f l h δ = .ok y := by rw [fSl_e, h1, R.bind_ok, h2, R.bind_ok, h3, R.bind_ok, k]; rfl
theorem v_SlOw {l h : FO} {lo hi : Option Int} (h1 : fOwn i δ = .ok ds) (h2 : l δ = .ok lo) (h3 : h δ = .ok hi) : fSlOw i l h δ = .ok (.lst (cut ds lo hi)) := by rw [fSlOw_e, h1, R.bind_ok, h2, R.bind_ok, h3]; rfl
theorem v_LenOw (h1 : fOwn i δ = .ok ds) : fLenOw i δ = .ok (.int ds.length) := by rw [fLenOw_e, h1]; rfl
theorem v_IxOw (h1 : fOwn i δ = .ok ds) (h2 : f δ = .ok d) (k : dIx (.lst ds) d = some y) : fIxOw i f δ = .ok y := by rw [fIxOw_e, h1, R.bind_ok, h2, R.bind_ok, k]; rfl
theorem v_InOwT (h1 : f δ = .ok d) (h2 : fOwn i δ = .ok ds) (k : dInB d (.lst ds) = some b) : fInOw true f i δ = .ok (.bl (!b)) := by rw [fInOw_e, h1, R.bind_ok, h2, R.bind_ok, k]; rfl
theorem v_InOwF (h1 : f δ = .ok d) (h2 : fOwn i δ = .ok ds) (k : dInB d (.lst ds) = some b) : fInOw false f i δ = .ok (.bl b) := by rw [fInOw_e, h1, R.bind_ok, h2, R.bind_ok, k]; rfl
theorem v_Items (h : f δ = .ok d) (k : dItems d = some xs) : fItems f δ = .ok xs := by rw [fItems_e, h, R.bind_ok, k]; rfl
theorem v_Range (h : fl δ = .ok ds) (k : dRange ds = some xs) : fRange fl δ = .ok xs := by rw [fRange_e, h, R.bind_ok, k]; rfl
theorem v_Range3 (h : fl δ = .ok ds) (k : dRange3 ds = some xs) : fRange3 fl δ = .ok xs := by rw [fRange3_e, h, R.bind_ok, k]; rfl
theorem v_Lc {fi : FL} (h : fi δ = .ok ds) (k : lcF i t f δ ds [] = .ok es) : fLc fi i t f δ = .ok (.lst es) := by rw [fLc_e, h, R.bind_ok, k]; rfl
theorem v_LcL {fi : FL} (h : fi δ = .ok ds) (k : lcF i t f δ ds [] = .ok es) : fLcL fi i t f δ = .ok es := by rw [fLcL_e, h, R.bind_ok, k]
theorem v_Lc2 {fi fi1 : FL} {i1 : Nat} {t1 : FB} (h : fi δ = .ok ds) (l : SetA δ i1 .un δ') (k : lc2F i t fi1 i1 t1 f δ' ds [] = .ok es) : fLc2 fi i t fi1 i1 t1 f δ = .ok (.lst es) := by
  unfold SetA at l
  subst l
  rw [fLc2_e, h, R.bind_ok, k]; rfl
theorem v_Join {a : Str} (h : f δ = .ok (.str a)) (k : g δ = .ok y) (l : dJoin a y = some z) : fJoin f g δ = .ok z := by rw [fJoin_e, h, R.bind_ok, rJoin_e, k, R.bind_ok, l]; rfl
theorem v_Prop {cl : Str} {G : List D → R D} (h : f δ = .ok (.obj cl xs)) (k : G [.obj cl xs] = .ok y) : fProp cl G f δ = .ok y := by rw [fProp_e, h, R.bind_ok, rProp_e, k]; rfl
theorem v_MethF {cl : Str} {G : List D → R D} (h : f δ = .ok (.obj cl xs)) (l : fl δ = .ok ds) (k : G (.obj cl xs :: ds) = .ok y) : fMethF cl G f fl δ = .ok y := by rw [fMethF_e, h, R.bind_ok, rMethF_e, l, R.bind_ok, k]
theorem v_CallO {cl : Str} {G : List D → R D} (h : f δ = .ok (.obj cl xs)) (l : fl δ = .ok ds) (k : G (.obj cl xs :: ds) = .ok y) : fCallO cl G f fl δ = .ok y := by rw [fCallO_e, h, R.bind_ok, rCallO_e, l, R.bind_ok, k]
theorem v_MakeSK {cl : Str} {n : Nat} {gD : List D → List D} (h : fl δ = .ok xs) (k : rMakeSK cl n gD xs = .ok y) : fMakeSK cl n gD fl δ = .ok y := by rw [fMakeSK_e, h, R.bind_ok, k]
theorem v_Bin {cl : Str} {G : List D → R D} (h : f δ = .ok (.obj cl xs)) (l : g δ = .ok (.obj cl ds)) (k : G [.obj cl xs, .obj cl ds] = .ok y) : fBin cl G f g δ = .ok y := by rw [fBin_e, h, R.bind_ok, l, R.bind_ok, rBin_e, k]
theorem v_CallK {ks : List Str} {G : List D → R D} {fk : FL} (h : fl δ = .ok ds) (l : fk δ = .ok es) (k : G (ds ++ [.dic (ks.map Sum.inr) es]) = .ok y) : fCallK ks G fl fk δ = .ok y := by
  rw [fCallK_e, h, R.bind_ok, l, R.bind_ok]; exact k
theorem v_CallK2 {G : List D → R D} {fk : FL} {a e : D} (h : fl δ = .ok [a, e]) (l : fk δ = .ok []) (k : G [a, e, .dic [] []] = .ok y) : fCallK [] G fl fk δ = .ok y := v_CallK h l k
theorem v_Dic0 : fDic0 δ = .ok (.dic [] []) := rfl
theorem v_CallV {tb : Tb} {G : List D → R D} (h : fVar i δ = .ok d) (k : tbOf tb d = some G) (l : fl δ = .ok ds) (m : G ds = .ok y) : fCallV tb i fl δ = .ok y := by
  rw [fCallV_e, h, R.bind_ok, k, R.of_some, R.bind_ok, l, R.bind_ok, m]
theorem v_CallC {tb : Tb} {ct : Ctb} {G : List D → R D} (h : fVar i δ = .ok d) (k : cbOf tb ct d = some G) (l : fl δ = .ok ds) (m : G ds = .ok y) : fCallC tb ct i fl δ = .ok y := by
  unfold fCallC
  rw [h, R.bind_ok, k, R.of_some, R.bind_ok, l, R.bind_ok, m]
theorem cb_c0 {tb : Tb} {ct : Ctb} {L : LamI} {G : D → List D → R D} {x : D} : cbOf tb ((L, G) :: ct) (.clo L x) = some (G x) := by
  show (ctGet ((L, G) :: ct) L).map (fun G => G x) = some (G x)
  unfold ctGet
  rw [if_pos rfl]
  rfl
theorem v_SlS {l h : FO} {lo hi : Option Int} (h1 : f δ = .ok x) (h2 : l δ = .ok lo) (h3 : h δ = .ok hi) (h4 : g δ = .ok y) (k : dPick x lo hi y = some z) : fSlS f l h g δ = .ok z := by rw [fSlS_e, h1, R.bind_ok, h2, R.bind_ok, h3, R.bind_ok, h4, R.bind_ok, k]; rfl
end
section
variable {f : FE} {δ : DSt} {i : Nat} {t : FB}
theorem v_lc_nil {acc : List D} : lcF i t f δ [] acc = .ok acc := rfl
theorem v_lc_rangeN {n : Nat} {h : Nat → D} (hf : ∀ k, k < n → IsAt f δ i (.fz (.int (k : Nat))) (h k)) (hn : n ≤ 16777215) : lcF i fYes f δ (dInts 0 n) [] = .ok ((List.range n).map h) := lc_range (fun k hk => by
  have := (hf k hk).get
  rw [Int.zero_add]
  exact this) hn
theorem v_lc_range {lo : Int} {n : Nat} {h : Nat → D} (hf : ∀ k, k < n → IsAt f δ i (.fz (.int (lo + (k : Nat)))) (h k)) (hn : n ≤ 16777215) : lcF i fYes f δ (dInts lo n) [] = .ok ((List.range n).map h) := lc_rangeL (fun k hk => (hf k hk).get) hn
theorem v_lc_map {α : Type} {xs : List α} {g h : α → D} (hf : ∀ x, x ∈ xs → IsAt f δ i (.fz (g x)) (h x)) (hn : xs.length ≤ 16777215) : lcF i fYes f δ (xs.map g) [] = .ok (xs.map h) := by
  have := lcF_all (i := i) (f := f) (δ := δ) (g := g) (h := h) (xs := xs) (acc := []) (fun x hx => (hf x hx).get) (by simpa using hn)
  simpa using this
theorem v_lc_all {xs : List D} {h : D → D} (hf : ∀ x, x ∈ xs → IsAt f δ i (.fz x) (h x)) (hn : xs.length ≤ 16777215) : lcF i fYes f δ xs [] = .ok (xs.map h) := by
  have := v_lc_map (i := i) (f := f) (δ := δ) (g := fun x : D => x) (h := h) (xs := xs) hf hn
  simpa using this
theorem v_lc_c1 {a y : D} (h : IsAt f δ i (.fz a) y) : lcF i fYes f δ [a] [] = .ok [y] := by
  rw [lcF_yes (e := y) rfl h.get (okLt_by (by decide))]; rfl
theorem v_lc_c2 {a b y z : D} (h : IsAt f δ i (.fz a) y) (k : IsAt f δ i (.fz b) z) : lcF i fYes f δ [a, b] [] = .ok [y, z] := by
  rw [lcF_yes (e := y) rfl h.get (okLt_by (by decide)), lcF_yes (e := z) rfl k.get (okLt_by (by simp))]; rfl
theorem v_lc_c3 {a b c x y z : D} (h : IsAt f δ i (.fz a) x) (k : IsAt f δ i (.fz b) y) (l : IsAt f δ i (.fz c) z) : lcF i fYes f δ [a, b, c] [] = .ok [x, y, z] := by
  rw [lcF_yes (e := x) rfl h.get (okLt_by (by decide)), lcF_yes (e := y) rfl k.get (okLt_by (by simp)), lcF_yes (e := z) rfl l.get (okLt_by (by simp))]; rfl
theorem lc_flt {α : Type} {g h : α → D} {p : α → Bool} : ∀ {xs : List α} {acc : List D}, (∀ x ∈ xs, t (δ.set i (.fz (g x))) = .ok (p x)) → (∀ x ∈ xs, p x = true → f (δ.set i (.fz (g x))) = .ok (h x)) → acc.length + xs.length ≤ 16777215 → lcF i t f δ (xs.map g) acc = .ok (acc ++ (xs.filter p).map h)
  | [], acc, _, _, _ => by simp [lcF]
  | x :: xs, acc, ht, hf, hl => by
    rw [List.length_cons] at hl
    cases e : p x with
    | true =>
      have := lc_flt (g := g) (h := h) (p := p) (xs := xs) (acc := acc ++ [h x]) (fun y hy => ht y (List.mem_cons_of_mem _ hy)) (fun y hy => hf y (List.mem_cons_of_mem _ hy)) (by rw [List.length_append, List.length_singleton]; omega)
      rw [List.map_cons, lcF_yes (by rw [ht x List.mem_cons_self, e]) (hf x List.mem_cons_self e) (okLt_by (by omega)), this]
      simp [e]
    | false =>
      have := lc_flt (g := g) (h := h) (p := p) (xs := xs) (acc := acc) (fun y hy => ht y (List.mem_cons_of_mem _ hy)) (fun y hy => hf y (List.mem_cons_of_mem _ hy)) (by omega)
      rw [List.map_cons, lcF_no (by rw [ht x List.mem_cons_self, e]), this]
      simp [e]
theorem v_lc_fltN {n : Nat} {h : Nat → D} {p : Nat → Bool} (ht : ∀ k, k < n → TsAt t δ i (.fz (.int (k : Nat))) (p k)) (hf : ∀ k, k < n → p k = true → IsAt f δ i (.fz (.int (k : Nat))) (h k)) (hn : n ≤ 16777215) : lcF i t f δ (dInts 0 n) [] = .ok (((List.range n).filter p).map h) := by
  have := lc_flt (i := i) (f := f) (t := t) (δ := δ) (g := fun k : Nat => D.int (0 + (k : Int))) (h := h) (p := p) (xs := List.range n) (acc := []) (fun k hk => by rw [Int.zero_add]; exact (ht k (List.mem_range.mp hk)).get) (fun k hk e => by rw [Int.zero_add]; exact (hf k (List.mem_range.mp hk) e).get) (by rw [List.length_range]; simpa using hn)
  simpa [dInts] using this
theorem v_lc_fltM {α : Type} {xs : List α} {g h : α → D} {p : α → Bool} (ht : ∀ x, x ∈ xs → TsAt t δ i (.fz (g x)) (p x)) (hf : ∀ x, x ∈ xs → p x = true → IsAt f δ i (.fz (g x)) (h x)) (hn : xs.length ≤ 16777215) : lcF i t f δ (xs.map g) [] = .ok ((xs.filter p).map h) := by
  have := lc_flt (i := i) (f := f) (t := t) (δ := δ) (g := g) (h := h) (p := p) (xs := xs) (acc := []) (fun k hk => (ht k hk).get) (fun k hk e => (hf k hk e).get) (by simpa using hn)
  simpa using this
end
section
variable {F G : FS} {f g : FE} {fl : FL} {δ δ' δ'' : DSt} {x y z d : D} {ds xs es : List D} {b c : Bool} {i j m : Nat} {t : FB} {o o' : O}
theorem v_Seq (h : F δ = o) (k : o.thn G = o') : fSeq F G δ = o' := by rw [fSeq_e, h, k]
theorem v_thn_nx (h : G δ = o) : (O.nx δ).thn G = o := h
theorem v_thn_rt : (O.rt d δ).thn G = .rt d δ := rfl
theorem v_thn_bk : (O.bk δ).thn G = .bk δ := rfl
theorem v_thn_ct : (O.ct δ).thn G = .ct δ := rfl
theorem v_thn_exc {n : Str} : (O.exc n xs).thn G = .exc n xs := rfl
def oIfB (b : Bool) (F G : FS) (δ : DSt) : O := match b with
  | true => F δ
  | false => G δ
theorem v_IfS (h : t δ = .ok b) (k : oIfB b F G δ = o) : fIfS t F G δ = o := by
  rw [fIfS_e, h]
  cases b <;> exact k
theorem v_ifT (h : b = true) (k : F δ = o) : oIfB b F G δ = o := by subst h; exact k
theorem v_ifF (h : b = false) (k : G δ = o) : oIfB b F G δ = o := by subst h; exact k
theorem v_Skip : fSkip δ = .nx δ := rfl
theorem v_Ret (h : f δ = .ok d) : fRet f δ = .rt d δ := by rw [fRet_e, h]; rfl
theorem v_Exp (h : f δ = .ok d) : fExp f δ = .nx δ := by rw [fExp_e, h]; rfl
theorem v_Set (h : f δ = .ok d) (k : SetA δ i (.fz d) δ') : fSet i f δ = .nx δ' := by
  unfold SetA at k
  rw [fSet_e, h, O.on_ok, k]
theorem v_New (h : fl δ = .ok ds) (k : SetA δ i (.ow ds) δ') : fNew i fl δ = .nx δ' := by
  unfold SetA at k
  rw [fNew_e, h, O.on_ok, k]
theorem v_App (h : fOwn i δ = .ok ds) (k : f δ = .ok d) (l : okLt ds.length = true) (q : SetA δ i (.ow (ds ++ [d])) δ') : fApp i f δ = .nx δ' := by
  unfold SetA at q
  rw [fApp_e, h, O.on_ok, k, O.on_ok, oApp_ok l, q]
theorem v_Ext (h : fOwn i δ = .ok ds) (k : f δ = .ok (.lst es)) (l : okLe (ds.length + es.length) = true) (q : SetA δ i (.ow (ds ++ es)) δ') : fExt i f δ = .nx δ' := by
  unfold SetA at q
  rw [fExt_e, h, O.on_ok, k, O.on_ok, oExt_ok l, q]
theorem v_Put {fk fe : FE} {n : Int} {j : Nat} (h : fe δ = .ok d) (k : fOwn i δ = .ok ds) (l : fk δ = .ok (.int n)) (m : L2.ixN ds.length n = some j) (q : SetA δ i (.ow (ds.set j d)) δ') : fPut i fk fe δ = .nx δ' := by
  unfold SetA at q
  rw [fPut_e, h, O.on_ok, k, O.on_ok, l, O.on_ok]
  show (match L2.ixN ds.length n with | some j => O.nx (δ.set i (.ow (ds.set j d))) | none => .bad) = _
  rw [m]
  dsimp only
  rw [q]
theorem v_NewD (k : SetA δ i (.od [] []) δ') : fNewD i δ = .nx δ' := by
  unfold SetA at k
  subst k
  rfl
theorem v_od0 {r : DSt} {ks : List Ky} : fOd 0 (.od ks ds :: r) = .ok (ks, ds) := rfl
theorem v_odS {r : DSt} {ks : List Ky} (h : fOd i r = .ok (ks, ds)) : fOd (i + 1) (s :: r) = .ok (ks, ds) := h
theorem v_FrzD {F : FS} {o : O} {ks : List Ky} (h : fOd i δ = .ok (ks, ds)) (k : SetA δ i (.fz (.dic ks ds)) δ') (l : F δ' = o) : fFrz i F δ = o := by
  have e := fOd_at h
  unfold SetA at k
  unfold fFrz frz
  rw [e]
  dsimp only
  rw [k]
  exact l
theorem v_Frz (k : fOwn i δ = .ok ds) (q : SetA δ i (.fz (.lst ds)) δ') (l : F δ' = o) : fFrz i F δ = o := by
  unfold SetA at q
  rw [fFrz_e]
  have : frz i δ = δ' := by
    unfold fOwn at k
    unfold frz
    split at k
    · rename_i e
      cases k
      rw [e]
      exact q
    · cases k
  rw [this, l]
theorem v_For {fi : FL} {put : FP} (h : fi δ = .ok ds) (k : loopF put F ds δ = o) : fFor fi put F δ = o := by rw [fFor_e, h, O.on_ok, k]
theorem v_loop_nil {put : FP} : loopF put F [] δ = .nx δ := rfl
def lnx (put : FP) (F : FS) (ds : List D) : O → O
  | .nx δ => loopF put F ds δ
  | .ct δ => loopF put F ds δ
  | .bk δ => .nx δ
  | .rt d δ => .rt d δ
  | .exc n xs => .exc n xs
  | .bad => .bad
theorem v_loop_cons {put : FP} {o2 : O} (h1 : put δ d = some δ') (h2 : F δ' = o) (h3 : lnx put F ds o = o2) : loopF put F (d :: ds) δ = o2 := by
  unfold loopF
  rw [h1]
  dsimp only
  rw [h2]
  cases o <;> exact h3
theorem v_lnx_nx {put : FP} (h : loopF put F ds δ = o) : lnx put F ds (.nx δ) = o := h
theorem v_lnx_ct {put : FP} (h : loopF put F ds δ = o) : lnx put F ds (.ct δ) = o := h
theorem v_lnx_bk {put : FP} : lnx put F ds (.bk δ) = .nx δ := rfl
theorem v_lnx_rt {put : FP} : lnx put F ds (.rt d δ) = .rt d δ := rfl
theorem v_lnx_exc {put : FP} {n : Str} : lnx put F ds (.exc n xs) = .exc n xs := rfl
theorem v_Raise1 {n : Str} (h : fl δ = .ok [d]) : fRaise n fl δ = .exc n [d] := by unfold fRaise; rw [h]; rfl
theorem v_Raise2 {n : Str} {a b : D} (h : fl δ = .ok [a, b]) : fRaise n fl δ = .exc n [b, a] := by unfold fRaise; rw [h]; rfl
theorem v_Asg {p : FP} (h : f δ = .ok d) (k : p δ d = some δ') : fAsg p f δ = .nx δ' := by rw [fAsg_e, h, O.on_ok]; unfold oAsg; rw [k]
theorem v_Match {M : Str → FS} {w : Str} (h : f δ = .ok (.str w)) (k : M w δ = o) : fMatch f M δ = o := by rw [fMatch_e, h, O.on_ok, oMat_e, k]
theorem v_iteFz {p : Prop} [Decidable p] {w : Str} {M : Str → FS} (h : ¬ p) (k : M w δ = o) : (if p then F else M w) δ = o := by rw [if_neg h, k]
theorem v_iteT {p : Prop} [Decidable p] (h : p) (k : F δ = o) : (if p then F else G) δ = o := by rw [if_pos h, k]
theorem v_iteF {p : Prop} [Decidable p] (h : ¬ p) (k : G δ = o) : (if p then F else G) δ = o := by rw [if_neg h, k]
theorem v_Aug {P : D → D → Option D} (h : fVar i δ = .ok x) (k : f δ = .ok y) (l : P x y = some z) (q : SetA δ i (.fz z) δ') : fAug P i f δ = .nx δ' := by
  unfold SetA at q
  rw [fAug_e, h, O.on_ok, k, O.on_ok, l, R.of_some, O.on_ok, q]
theorem v_pName (q : SetA δ i (.fz d) δ') : pName i δ d = some δ' := by
  unfold SetA at q
  rw [pName_e, q]
theorem v_pNil : pNil δ [] = some δ := rfl
theorem v_pCons {p : FP} {ps : FPs} (h : p δ d = some δ') (k : ps δ' ds = some δ'') : pCons p ps δ (d :: ds) = some δ'' := by rw [pCons_e, h]; exact k
theorem v_pTup {ps : FPs} {n : Nat} (h : ds.length = n) (k : ps δ ds = some δ') : pTup n ps δ (.tup ds) = some δ' := by rw [pTup_e, if_pos h, k]
theorem v_pTup2 {ps : FPs} {a b : D} (k : ps δ [a, b] = some δ') : pTup 2 ps δ (.tup [a, b]) = some δ' := v_pTup rfl k
theorem v_pTup3 {ps : FPs} {a b c : D} (k : ps δ [a, b, c] = some δ') : pTup 3 ps δ (.tup [a, b, c]) = some δ' := v_pTup rfl k
theorem v_pTup4 {ps : FPs} {a b c d : D} (k : ps δ [a, b, c, d] = some δ') : pTup 4 ps δ (.tup [a, b, c, d]) = some δ' := v_pTup rfl k
def Ini (m : Nat) (ds : List D) (δ : DSt) : Prop := ds.map DS.fz ++ List.replicate (m - ds.length) DS.un = δ
theorem ini_0 : Ini 0 [] [] := rfl
theorem ini_u (h : Ini m [] δ) : Ini (m + 1) [] (.un :: δ) := by
  unfold Ini at *
  rw [← h]
  simp [List.replicate]
theorem ini_c (h : Ini m ds δ) : Ini (m + 1) (d :: ds) (.fz d :: δ) := by
  unfold Ini at *
  rw [← h]
  simp
theorem v_run {r : R D} (h : Ini m ds δ) (k : F δ = o) (l : o.fin = r) : runD m F ds = r := by
  unfold Ini at h
  rw [runD_e, h, k, l]
theorem v_fin_rt : (O.rt d δ).fin = .ok d := rfl
theorem v_fin_rt2 {d' : D} (h : d = d') : (O.rt d δ).fin = .ok d' := by rw [h]; rfl
theorem bl_eqT (h : b = true) : D.bl b = D.bl true := by rw [h]
theorem bl_eqF (h : b = false) : D.bl b = D.bl false := by rw [h]
inductive MrgS (b : Bool) : DSt → DSt → DSt → Prop
  | nil : MrgS b [] [] []
  | same {s : DS} {r1 r2 r3 : DSt} : MrgS b r1 r2 r3 → MrgS b (s :: r1) (s :: r2) (s :: r3)
  | fz {x y z : D} {r1 r2 r3 : DSt} : mrgD b x y z → MrgS b r1 r2 r3 → MrgS b (.fz x :: r1) (.fz y :: r2) (.fz z :: r3)
  | un {x y : DS} {r1 r2 r3 : DSt} : MrgS b r1 r2 r3 → MrgS b (x :: r1) (y :: r2) ((if b = true then x else y) :: r3)
theorem v_ifSet (h : b = true → f δ = .ok x) (k : fVar i δ = .ok y) (m : mrgD b x y z) (q : SetA δ i (.fz z) δ') : oIfB b (fSet i f) fSkip δ = .nx δ' := by
  cases b with
  | true => exact v_Set (h rfl) (by unfold mrgD at m; rw [if_pos rfl] at m; rw [m]; exact q)
  | false =>
    unfold mrgD at m
    rw [if_neg (by decide)] at m
    subst m
    refine congrArg O.nx ?_
    have : ∀ {i : Nat} {δ δ' : DSt}, fVar i δ = .ok y → SetA δ i (.fz y) δ' → δ = δ' := by
      intro i
      induction i with
      | zero =>
        intro δ δ' h1 h2
        cases δ with
        | nil => cases h1
        | cons s r =>
          cases s <;> first | (cases h1; exact h2) | cases h1
      | succ i ih =>
        intro δ δ' h1 h2
        cases δ with
        | nil => cases h1
        | cons s r =>
          unfold SetA at h2
          rw [List.set_cons_succ] at h2
          rw [← h2]
          exact congrArg _ (ih h1 rfl)
    exact this k q
theorem v_ifSet2 (h : b = true → f δ = .ok x) (k : b = false → g δ = .ok y) (m : mrgD b x y z) (q : SetA δ i (.fz z) δ') : oIfB b (fSet i f) (fSet i g) δ = .nx δ' := by
  unfold mrgD at m
  subst m
  cases b with
  | true => exact v_Set (h rfl) q
  | false => exact v_Set (k rfl) q
def Sh (n : Nat) (s : Str) : Prop := s.length ≤ n
theorem sh_app {n m : Nat} {s t : Str} (h : Sh n s) (k : Sh m t) : Sh (n + m) (s ++ t) := by
  unfold Sh at *
  rw [PySem.Str.length_append]
  omega
theorem sh_num {i : Int} (h : i.natAbs < 18446744073709551616) : Sh 65 (Str.ofString (toString i)) := len_int h
theorem sh_lit {s : String} : Sh s.length (Str.ofString s) := by
  unfold Sh
  rw [PySem.ofString_length]
  exact Nat.le_refl _
theorem sh_hyp {n : Nat} {s : Str} (h : s.length ≤ n) : Sh n s := h
theorem sh_hyp2 {n : Nat} {s : Str} (h : Sh n s) : Sh n s := h
theorem okS {n m : Nat} {s t : Str} (h : Sh n s) (k : Sh m t) (l : n + m ≤ 16777216) : okLe (s.length + t.length) = true := okLe_by (by unfold Sh at *; omega)
theorem okS1 {n : Nat} {s : Str} (h : Sh n s) (l : n ≤ 16777216) : okLe s.length = true := okLe_by (by unfold Sh at *; omega)
theorem v_fin_nx : (O.nx δ).fin = .ok .non := rfl
theorem v_fin_exc {n : Str} : (O.exc n xs).fin = .exc n xs := rfl
end
theorem eqD_refl {d : D} : d = d := rfl
theorem eqB_refl {d : Bool} : d = d := rfl
theorem eqO_refl {α : Type} {d : Option α} : d = d := rfl
section
variable {d e x y : D} {xs ys : List D} {b : Bool} {i j k : Int}
theorem w_dEq (h : dEqB x y = some b) : dEq x y = some (.bl b) := by rw [dEq_e, h]; rfl
theorem w_dNe (h : dEqB x y = some b) : dNe x y = some (.bl (!b)) := by rw [dNe_e, h]; rfl
theorem w_dIn (h : dInB x y = some b) : dIn x y = some (.bl b) := by rw [dIn_e, h]; rfl
theorem w_dNotIn (h : dInB x y = some b) : dNotIn x y = some (.bl (!b)) := by rw [dNotIn_e, h]; rfl
theorem w_selfL (h : Eqb 64 (.lst ys)) (e : xs = ys) : dEqB (.lst xs) (.lst ys) = some true := by subst e; exact dEqB_refl h
theorem w_selfT (h : Eqb 64 (.tup ys)) (e : xs = ys) : dEqB (.tup xs) (.tup ys) = some true := by subst e; exact dEqB_refl h
theorem eqL_refl {l : List D} : l = l := rfl
theorem w_ixl (h : L2.atI xs i = some d) : dIx (.lst xs) (.int i) = some d := h
theorem w_ixt (h : L2.atI xs i = some d) : dIx (.tup xs) (.int i) = some d := h
theorem w_ixc (h : L2.atI xs i = some d) : dIx (.scr xs) (.int i) = some d := h
theorem w_max : dMax2 [.int i, .int j] = some (.int (max i j)) := by
  rw [dMax2_ii, Int.max_def]
  congr 2
  split <;> split <;> omega
theorem w_min : dMin2 [.int i, .int j] = some (.int (min i j)) := by
  rw [dMin2_ii, Int.min_def]
  congr 2
  split <;> split <;> omega
theorem w_range1 {n : Nat} (h : small62 n = true) : dRange [.int (n : Nat)] = some (dInts 0 n) := by rw [dRange_1 h, Int.toNat_natCast]
theorem w_rangeL {n : Nat} (h : Nat.blt n 4611686018427387904 = true) : dRange [.int (@OfNat.ofNat Int n (@instOfNat n))] = some (dInts 0 n) := by
  have : (@OfNat.ofNat Int n (@instOfNat n)) = (n : Int) := rfl
  rw [this, dRange_1 (small62_by (by have := Nat.blt_eq.mp h; omega)), Int.toNat_natCast]
theorem w_fdiv (h : 0 < j) (g : lim 64 j = true) : dFdiv (.int i) (.int j) = some (.int (i / j)) := dFdiv_w h (lim_by (Nat.lt_of_lt_of_le (Nat.blt_eq.mp g) (Nat.pow_le_pow_right (by decide) (by decide))))
theorem mk_8 {cl : Str} {a0 a1 a2 a3 a4 a5 a6 a7 : D} : rMakeSK cl 8 (gMrg [true, true, true, true, true, true, true, true] []) [a0, a1, a2, a3, a4, a5, a6, a7] = .ok (.obj cl [a0, a1, a2, a3, a4, a5, a6, a7]) := rfl
theorem mk_0 {cl : Str} : rMakeSK cl 8 (gMrg [false, false, false, false, false, false, false, false] [1, 1, 1, 0, 1, 1, 1, 1]) [] = .ok (.obj cl [.int 1, .int 1, .int 1, .int 0, .int 1, .int 1, .int 1, .int 1]) := rfl
theorem mk_1 {cl : Str} {a : D} : rMakeSK cl 8 (gMrg [false, false, false, true, false, false, false, false] [1, 1, 1, 1, 1, 1, 1]) [a] = .ok (.obj cl [.int 1, .int 1, .int 1, a, .int 1, .int 1, .int 1, .int 1]) := rfl
theorem mk_2 {cl : Str} {a b : D} : rMakeSK cl 8 (gMrg [false, false, false, true, false, true, false, false] [1, 1, 1, 1, 1, 1]) [a, b] = .ok (.obj cl [.int 1, .int 1, .int 1, a, .int 1, b, .int 1, .int 1]) := rfl
theorem w_isC {cl : Str} {xs : List D} : dIsC cl (.obj cl xs) = some (.bl true) := if_pos rfl
theorem w_slot {cl : Str} {n : Nat} {xs : List D} {d : D} (h : xs[n]? = some d) : dSlot cl n (.obj cl xs) = some d := by rw [dSlot_e, h]
theorem get_0 {a : D} {r : List D} : (a :: r)[0]? = some a := rfl
theorem get_s {a d : D} {r : List D} {n : Nat} (h : r[n]? = some d) : (a :: r)[n + 1]? = some d := by rw [List.getElem?_cons_succ, h]
theorem fld_P0 {x y z : D} : dFld "Program" "_numbers" (.obj "Program" [x, y, z]) = some x := by kernel_rfl
theorem fld_P1 {x y z : D} : dFld "Program" "_parts" (.obj "Program" [x, y, z]) = some y := by kernel_rfl
theorem fld_P2 {x y z : D} : dFld "Program" "_texts" (.obj "Program" [x, y, z]) = some z := by kernel_rfl
theorem fld_U {x : D} : dFld "Undoer" "program" (.obj "Undoer" [x]) = some x := by kernel_rfl
theorem fld_F0 {x y z w : D} : dFld "Forms" "program" (.obj "Forms" [x, y, z, w]) = some x := by kernel_rfl
theorem fld_F1 {x y z w : D} : dFld "Forms" "start" (.obj "Forms" [x, y, z, w]) = some y := by kernel_rfl
theorem fld_F2 {x y z w : D} : dFld "Forms" "modulus" (.obj "Forms" [x, y, z, w]) = some z := by kernel_rfl
theorem fld_F3 {x y z w : D} : dFld "Forms" "period" (.obj "Forms" [x, y, z, w]) = some w := by kernel_rfl
theorem small_by {i : Int} (h : i.natAbs < 4611686018427387904) : small62 i = true := Nat.blt_eq.mpr h
theorem EqbL.map {α : Type} {n : Nat} {xs : List α} {h : α → D} (k : ∀ x, x ∈ xs → Eqb n (h x)) : EqbL n (xs.map h) := .of fun d hd => by
  obtain ⟨x, hx, rfl⟩ := List.mem_map.mp hd
  exact k x hx
end
end DL

section
open PySem PySem.Spec PyProof.Rows DL
local macro_rules | `(tactic| walk_at "yes") => `(tactic| first | (with_reducible assumption) | (with_reducible rfl) | ((with_reducible refine decide_eq_true ?_); omega) | ((with_reducible refine beq_iff_eq.mpr ?_); omega) | ((with_reducible refine decide_eq_true ?_); with_reducible assumption) | ((with_reducible refine Bool.not_eq_true'.mpr ?_); walk_at "no") | ((with_reducible refine Bool.and_eq_true_iff.mpr ⟨?_, ?_⟩) <;> walk_at "yes") | ((with_reducible refine Bool.or_eq_true_iff.mpr ?_); first | (left; walk_at "yes") | (right; walk_at "yes")) | decide +kernel)
local macro_rules | `(tactic| walk_at "no") => `(tactic| first | (with_reducible assumption) | (with_reducible rfl) | ((with_reducible refine decide_eq_false ?_); omega) | ((with_reducible refine beq_false_of_ne ?_); omega) | ((with_reducible refine decide_eq_false ?_); with_reducible assumption) | ((with_reducible refine Bool.not_eq_false'.mpr ?_); walk_at "yes") | ((with_reducible refine Bool.or_eq_false_iff.mpr ⟨?_, ?_⟩) <;> walk_at "no") | ((with_reducible refine Bool.and_eq_false_iff.mpr ?_); first | (left; walk_at "no") | (right; walk_at "no")) | decide +kernel)
local macro_rules | `(tactic| walk_at "sh") => `(tactic| first | (with_reducible first | (apply sh_hyp2; assumption) | (apply sh_hyp; assumption)) | (with_reducible apply sh_num; first | omega | assumption) | (with_reducible exact sh_lit) | ((with_reducible apply sh_app) <;> walk_at "sh") | decide +kernel)
local macro_rules | `(tactic| walk_at "tf") => `(tactic| first | (refine hyp_T ?_; walk_at "yes") | (refine hyp_F ?_; walk_at "no"))
local macro_rules | `(tactic| walk_at "szg") => `(tactic| first | (with_reducible assumption) | omega | exact lim64_by (by omega) | exact okLe_by (by simp only [List.length_append, List.length_cons, List.length_nil, List.length_map, List.length_range]; omega) | exact okLt_by (by simp only [List.length_append, List.length_cons, List.length_nil, List.length_map, List.length_range]; omega) | exact mulOk_l (by assumption) | exact mulOk_r (by assumption) | exact mulOk_l (lim64_by (by omega)) | exact mulOk_r (lim64_by (by omega)) | exact log_by (by omega) | exact small_by (by omega) | ((with_reducible first | apply okS | apply okS1) <;> walk_at "sh"))
local macro_rules | `(tactic| walk_at "st") => `(tactic| first | (with_reducible first | (apply isR; first | (apply hyp_ok; assumption) | (apply hyp_exc; assumption) | apply v_varS | exact v_var0 | apply v_Cons | exact v_Nil | exact v_C | apply v_B | apply v_L | apply v_U | apply v_Call | apply v_Test | apply v_Tup | apply v_Lst | apply v_Range | apply v_Items | apply v_Lc | apply v_Some | exact v_No | apply v_Sl | apply v_SlS | apply v_ownS | exact v_own0 | apply v_NotB | apply v_Val | apply v_SlOw | apply v_LenOw | apply v_IxOw | apply v_InOwT | apply v_InOwF | apply v_Range3 | apply v_LcL | apply v_Lc2 | apply v_Join | apply v_Prop | apply v_MethF | apply v_CallO | apply v_MakeSK | apply v_Bin | apply v_CallK2 | apply v_CallK | apply v_CallV | apply v_CallC | apply v_TruB | apply v_TruL | apply v_TruT | exact v_Dic0 | exact v_fin_rt | exact v_fin_nx | exact v_fin_exc | apply v_fin_rt2 | exact mk_8 | exact mk_0 | exact mk_1 | exact mk_2 | exact v_lc_nil | apply v_run | apply fCutOw_e | apply fCatOw_e | apply fCutE_e | walk_at "call") | (apply isS; first | (apply hyp_so; assumption) | apply w_ixl | apply w_ixt | apply w_ixc | exact dAdd_ii | apply dMod_ii | exact dIntS_i | apply w_dEq | apply w_dNe | exact dSub_ii | apply dMul_ii | exact dEqB_ii | exact dEqB_ss | apply w_rangeL | apply w_range1 | apply dRange_1 | apply dRange_2 | apply dAdd_ss | exact dLt_ii | exact dLe_ii | exact dGt_ii | exact dGe_ii | exact dLen_l | exact dLen_t | exact dLen_c | exact dItems_l | exact dItems_t | exact dItems_s | exact cb_c0 | apply w_fdiv | apply w_dIn | apply w_dNotIn | exact at_0 | exact at_1 | exact at_2 | exact at_3 | exact at_4 | exact at_5 | exact at_6 | exact at_7 | exact at_8 | exact at_9 | exact at_10 | exact at_11 | exact at_12 | exact at_13 | exact at_14 | exact at_15 | exact at_m1 | exact dNeg_i | exact dAbs_i | exact w_max | exact w_min | exact dInt_i | exact dStr_s | exact dList_l | exact dList_t | exact dTuple_l | exact dTuple_t | exact dCut_l | exact dCut_t | exact dIsN_e | exact dNotN_e | exact dIsi_n | exact dIsi_b | exact dIsi_i | exact dIsi_s | exact dIsi_t | exact dIsi_l | exact dAddS_ii | exact dGcd_ii | apply w_slot | exact get_0 | apply get_s | exact w_isC | exact fld_P1 | exact fld_P0 | exact fld_P2 | exact fld_U | exact fld_F0 | exact fld_F1 | exact fld_F2 | exact fld_F3 | apply dAdd_ll | apply dAdd_tt | apply dMul_li | apply dStr_i | apply dLen_s | apply dAddS_ss | apply dLcm_ii | apply dLcm_iii | apply dJoin_l | apply dPick_l | apply dRange3_e | apply w_selfL | apply w_selfT | apply v_pName | apply v_pCons | exact v_pNil | apply v_pTup2 | apply v_pTup3 | apply v_pTup4 | walk_at "call") | (apply isO; first | (apply hyp_o; assumption) | apply v_Seq | apply v_thn_nx | apply v_Set | apply v_IfS | exact v_Skip | exact v_thn_rt | apply v_Ret | apply v_For | apply v_App | apply v_New | apply v_NewD | apply v_Put | apply v_Ext | apply v_Asg | apply v_Match | apply v_Aug | apply v_Exp | exact v_thn_bk | exact v_thn_ct | exact v_thn_exc | exact v_loop_nil | apply v_loop_cons | apply v_lnx_nx | apply v_lnx_ct | exact v_lnx_bk | exact v_lnx_rt | exact v_lnx_exc | apply v_Raise1 | apply v_Raise2 | walk_at "call") | (apply hyp_e; assumption) | apply set_s | exact set_0 | exact ini_0 | apply ini_u | apply ini_c | exact mrg_i | exact mrg_l | exact mrg_d | apply IsAt.mk' | apply TsAt.mk' | apply Is.mk | exact (Eqb.int _ _) | exact (Eqb.non _) | exact (Eqb.bl _ _) | exact (EqbL.nil _) | apply Eqb.lst | apply Eqb.tup | apply EqbL.cons | apply EqbL.map | apply bl_eqT | apply bl_eqF | walk_at "call") | walk_at "br" | walk_at "cm")
local macro_rules | `(tactic| walk_at "br") => `(tactic| first | ((with_reducible apply v_Frz); (focus ((repeat with_reducible apply v_ownS); with_reducible exact v_own0))) | ((with_reducible apply v_FrzD); (focus ((repeat with_reducible apply v_odS); with_reducible exact v_od0))) | ((with_reducible apply v_ifT); (focus walk_at "yes")) | ((with_reducible apply v_ifF); (focus walk_at "no")) | ((with_reducible apply v_iteT); (focus (first | (with_reducible assumption) | omega | decide +kernel))) | ((with_reducible apply v_iteFz); (focus (first | (with_reducible assumption) | omega | decide +kernel))) | ((with_reducible apply v_iteF); (focus (first | (with_reducible assumption) | omega | decide +kernel))) | ((with_reducible apply v_IfT); (focus walk_at "go"); (focus walk_at "yes")) | ((with_reducible apply v_IfF); (focus walk_at "go"); (focus walk_at "no")) | ((with_reducible apply v_AndF); (focus walk_at "go"); (focus walk_at "no")) | ((with_reducible apply v_OrT); (focus walk_at "go"); (focus walk_at "yes")) | (with_reducible first | apply v_ifSet | apply v_ifSet2) | (with_reducible first | apply v_And | apply v_Or | apply v_AndE | apply v_OrE | apply v_IfB))
local macro_rules | `(tactic| walk_at "cm") => `(tactic| with_reducible first | apply v_lc_rangeN | apply v_lc_range | apply v_lc_c1 | apply v_lc_c2 | apply v_lc_c3 | apply v_lc_map | apply v_lc_fltN | apply v_lc_fltM | apply v_lc_all)
local macro_rules | `(tactic| walk_at "go") => `(tactic| first | (walk_at "st" <;> walk_at "go") | (intro; walk_at "go") | (with_reducible first | exact eqD_refl | exact eqL_refl | exact eqB_refl | exact eqO_refl) | walk_at "szg" | walk_at "tf" | skip)
namespace LW
open PySem PySem.Spec PyProof.Rows DL
local macro_rules | `(tactic| walk_at "sz") => `(tactic| first | assumption | exact fdiv_by (by omega) (by omega) | omega | exact lim64_by (by omega) | exact okLe_by (by simp only [List.length_append, List.length_cons, List.length_nil, List.length_map]; omega) | exact okLt_by (by simp only [List.length_append, List.length_cons, List.length_nil, List.length_map]; omega) | exact mulOk_l (by assumption) | exact mulOk_r (by assumption) | exact mulOk_l (lim64_by (by omega)) | exact mulOk_r (lim64_by (by omega)) | exact log_by (by omega) | (refine Eqb.lst ?_; repeat (first | exact EqbL.nil _ | refine EqbL.cons (Eqb.int _ _) ?_)) | (refine Eqb.tup ?_; repeat (first | exact EqbL.nil _ | refine EqbL.cons (Eqb.int _ _) ?_)))
local macro_rules | `(tactic| walk_at "e2") => `(tactic| simp (disch := walk_at "sz") only [R.bind_ok, R.bind_bad, R.bind_exc, R.of_some, R.of_none, O.on_ok, O.on_bad, O.on_exc, fVar_0, fVar_s, fOwn_0, fOwn_s, fC_e, fU_e, fB_e, fNil_e, fCons_e, fL_e, fCall_e, fTup_e, fLst_e, rIf_t, rIf_f, fIf_e, tBl_e, fTest_e, fTru_e, fNotB_e, fAndB_e, fOrB_e, fVal_e, fAnd_e, fOr_e, fNo_e, tInt_e, fSome_e, fSl_e, fSlOw_e, fLenOw_e, fIxOw_e, fInOw_e, thn_nx, thn_rt, thn_bk, thn_ct, thn_exc, thn_bad, fSeq_e, oIf_t, oIf_f, oIf_exc, fIfS_e, fSkip_e, fRet_e, fExp_e, fSet_e, fNew_e, fApp_e, fExt_e, fPop_e, fPut_e, fFrz_e, frz_0o, frz_s, fFor_e, fItems_e, fRange_e, fAsg_e, oMat_e, fMatch_e, fAug_e, fin_rt, fin_nx, fin_exc, runD_e, pName_e, pNil_e, pCons_e, pTup_e, dAdd_ii, dAdd_ss, dAdd_ll, dAdd_tt, dSub_ii, dMul_ii, dMul_li, dFdiv_ii, dMod_ii, dNeg_i, dLt_ii, dLe_ii, dGt_ii, dGe_ii, dIx_l, dIx_t, dIx_c, dIx_s, dLen_l, dLen_t, dLen_c, dLen_s, dAbs_i, dMax2_ii, dMin2_ii, dInt_i, dStr_i, dStr_s, dList_l, dList_t, dTuple_l, dTuple_t, dCut_l, dCut_t, dItems_l, dItems_t, dItems_s, dRange_1, dRange_2, dIsN_e, dNotN_e, isNon_n, isNon_b, isNon_i, isNon_s, isNon_t, isNon_l, isNon_o, dIsi_n, dIsi_b, dIsi_i, dIsi_s, dIsi_t, dIsi_l, dIn_e, dNotIn_e, dEqB_ss, dEqB_ii, dInB_strs, dInB_strsT, dEq_e, dNe_e, beq_self_eq_true, List.set_cons_zero, List.set_cons_succ, List.length_cons, List.length_nil, List.length_map, List.length_append, Option.map_some, Option.map_none, Option.bind_some, Option.bind_none, if_true, if_false, ite_true, ite_false, decide_true, decide_false, and_self, true_and, and_true, Int.zero_add, Int.toNat_natCast, cut_tl, cut_all, List.map_append, List.map_cons, List.map_nil, List.nil_append, List.cons_append, List.append_nil, List.replicate, Int.reduceLT, Int.reduceLE, Int.reduceAdd, Int.reduceSub, Int.reduceMul, Int.reduceNeg, Int.reduceToNat, Nat.reduceAdd, Nat.reduceSub, Nat.reduceLT, Nat.reduceLeDiff, Nat.reduceMul, Int.reduceEq, Nat.reduceEqDiff, Bool.not_true, Bool.not_false, Bool.and_true, Bool.true_and, Bool.and_false, Bool.false_and, Bool.or_true, Bool.true_or, Bool.or_false, Bool.false_or, Bool.and_self, Bool.or_self, reduceCtorEq, decide_eq_true_eq, Bool.false_eq_true, fLc_e, fLcL_e, lcF_nil, fJoin_e, rJoin_e, dJoin_l, oPop_ok, oPop_2, oPop_1, cast_0, cast_1, cast_2, cast_3, at_0, at_1, at_2, at_3, at_4, at_5, at_6, Int.reduceBEq, Nat.reduceBEq, oApp_ok, oExt_ok, fProp_e, rProp_e, quiet_ok, dSlot_e, fMakeSK_e, rMakeN_e, rNum_e, gMrg_e, mrg_t, mrg_f, mrg_n, fMethF_e, rMethF_e, dIntS_i, dAddS_ii, dAddS_ss, dGcd_ii, dLcm_ii, dLcm_iii, dEqB_self, at_7, at_8, at_9, at_10, at_11, at_12, at_13, at_14, at_15, at_m1, cut_toL, cut_fromL, cut_btw, List.take_succ_cons, List.take_zero, List.drop_succ_cons, List.drop_zero, List.take_nil, List.drop_nil, isT_NoneType_bool, isT_NoneType_int, isT_NoneType_str, isT_NoneType_list, isT_NoneType_tuple, isT_bool_bool, isT_bool_int, isT_bool_str, isT_bool_list, isT_bool_tuple, isT_int_bool, isT_int_int, isT_int_str, isT_int_list, isT_int_tuple, isT_str_bool, isT_str_int, isT_str_str, isT_str_list, isT_str_tuple, isT_list_bool, isT_list_int, isT_list_str, isT_list_list, isT_list_tuple, isT_tuple_bool, isT_tuple_int, isT_tuple_str, isT_tuple_list, isT_tuple_tuple, fSlS_e, dPick_l, fRange3_e, dRange3_e, fLc2_e, fCallK_e, fCallO_e, rCallO_e, fBin_e, rBin_e, oStore_s, oAsg_e2, fDic0_e, fCallV_e, List.getElem?_cons_zero, List.getElem?_cons_succ, *])
local macro_rules | `(tactic| walk_at "ev") => `(tactic| simp only [R.bind_ok, R.bind_bad, R.bind_exc, R.of_some, R.of_none, O.on_ok, O.on_bad, O.on_exc, fVar_0, fVar_s, fOwn_0, fOwn_s, fC_e, fU_e, fB_e, fNil_e, fCons_e, fL_e, fCall_e, fTup_e, fLst_e, rIf_t, rIf_f, fIf_e, tBl_e, fTest_e, fTru_e, fNotB_e, fAndB_e, fOrB_e, fVal_e, fAnd_e, fOr_e, fNo_e, tInt_e, fSome_e, fSl_e, fSlOw_e, fLenOw_e, fIxOw_e, fInOw_e, thn_nx, thn_rt, thn_bk, thn_ct, thn_exc, thn_bad, fSeq_e, oIf_t, oIf_f, oIf_exc, fIfS_e, fSkip_e, fRet_e, fExp_e, fSet_e, fNew_e, fApp_e, fExt_e, fPop_e, fPut_e, fFrz_e, frz_0o, frz_s, fFor_e, fItems_e, fRange_e, fAsg_e, oMat_e, fMatch_e, fAug_e, fin_rt, fin_nx, fin_exc, runD_e, pName_e, pNil_e, pCons_e, pTup_e, dAdd_ii, dAdd_ss, dAdd_ll, dAdd_tt, dSub_ii, dMul_ii, dMul_li, dFdiv_ii, dMod_ii, dNeg_i, dLt_ii, dLe_ii, dGt_ii, dGe_ii, dIx_l, dIx_t, dIx_c, dIx_s, dLen_l, dLen_t, dLen_c, dLen_s, dAbs_i, dMax2_ii, dMin2_ii, dInt_i, dStr_i, dStr_s, dList_l, dList_t, dTuple_l, dTuple_t, dCut_l, dCut_t, dItems_l, dItems_t, dItems_s, dRange_1, dRange_2, dIsN_e, dNotN_e, isNon_n, isNon_b, isNon_i, isNon_s, isNon_t, isNon_l, isNon_o, dIsi_n, dIsi_b, dIsi_i, dIsi_s, dIsi_t, dIsi_l, dIn_e, dNotIn_e, dEqB_ss, dEqB_ii, dInB_strs, dInB_strsT, dEq_e, dNe_e, beq_self_eq_true, List.set_cons_zero, List.set_cons_succ, List.length_cons, List.length_nil, List.length_map, List.length_append, Option.map_some, Option.map_none, Option.bind_some, Option.bind_none, if_true, if_false, ite_true, ite_false, decide_true, decide_false, and_self, true_and, and_true, Int.zero_add, Int.toNat_natCast, cut_tl, cut_all, List.map_append, List.map_cons, List.map_nil, List.nil_append, List.cons_append, List.append_nil, List.replicate, Int.reduceLT, Int.reduceLE, Int.reduceAdd, Int.reduceSub, Int.reduceMul, Int.reduceNeg, Int.reduceToNat, Nat.reduceAdd, Nat.reduceSub, Nat.reduceLT, Nat.reduceLeDiff, Nat.reduceMul, Int.reduceEq, Nat.reduceEqDiff, Bool.not_true, Bool.not_false, Bool.and_true, Bool.true_and, Bool.and_false, Bool.false_and, Bool.or_true, Bool.true_or, Bool.or_false, Bool.false_or, Bool.and_self, Bool.or_self, reduceCtorEq, decide_eq_true_eq, Bool.false_eq_true, fLc_e, fLcL_e, lcF_nil, fJoin_e, rJoin_e, dJoin_l, oPop_ok, oPop_2, oPop_1, cast_0, cast_1, cast_2, cast_3, at_0, at_1, at_2, at_3, at_4, at_5, at_6, Int.reduceBEq, Nat.reduceBEq, oApp_ok, oExt_ok, fProp_e, rProp_e, quiet_ok, dSlot_e, fMakeSK_e, rMakeN_e, rNum_e, gMrg_e, mrg_t, mrg_f, mrg_n, fMethF_e, rMethF_e, dIntS_i, dAddS_ii, dAddS_ss, dGcd_ii, dLcm_ii, dLcm_iii, at_7, at_8, at_9, at_10, at_11, at_12, at_13, at_14, at_15, isT_NoneType_bool, isT_NoneType_int, isT_NoneType_str, isT_NoneType_list, isT_NoneType_tuple, isT_bool_bool, isT_bool_int, isT_bool_str, isT_bool_list, isT_bool_tuple, isT_int_bool, isT_int_int, isT_int_str, isT_int_list, isT_int_tuple, isT_str_bool, isT_str_int, isT_str_str, isT_str_list, isT_str_tuple, isT_list_bool, isT_list_int, isT_list_str, isT_list_list, isT_list_tuple, isT_tuple_bool, isT_tuple_int, isT_tuple_str, isT_tuple_list, isT_tuple_tuple, fSlS_e, dPick_l, fRange3_e, dRange3_e, fLc2_e, fCallK_e, fCallO_e, rCallO_e, fBin_e, rBin_e, oStore_s, oAsg_e2, fDic0_e, fCallV_e, List.getElem?_cons_zero, List.getElem?_cons_succ, *])
local macro_rules | `(tactic| walk_at "rd") => `(tactic| simp (disch := walk_at "sz") only [R.bind_ok, R.bind_bad, R.bind_exc, R.of_some, R.of_none, O.on_ok, O.on_bad, O.on_exc, fVar_0, fVar_s, fOwn_0, fOwn_s, fC_e, fU_e, fB_e, fNil_e, fCons_e, fL_e, fCall_e, fTup_e, fLst_e, rIf_t, rIf_f, fIf_e, tBl_e, fTest_e, fTru_e, fNotB_e, fAndB_e, fOrB_e, fVal_e, fAnd_e, fOr_e, fNo_e, tInt_e, fSome_e, fSl_e, fSlOw_e, fLenOw_e, fIxOw_e, fInOw_e, thn_nx, thn_rt, thn_bk, thn_ct, thn_exc, thn_bad, fSeq_e, oIf_t, oIf_f, oIf_exc, fIfS_e, fSkip_e, fRet_e, fExp_e, fSet_e, fNew_e, fApp_e, fExt_e, fPop_e, fPut_e, fFrz_e, frz_0o, frz_s, fFor_e, fItems_e, fRange_e, fAsg_e, oMat_e, fMatch_e, fAug_e, fin_rt, fin_nx, fin_exc, runD_e, pName_e, pNil_e, pCons_e, pTup_e, dAdd_ii, dAdd_ss, dAdd_ll, dAdd_tt, dSub_ii, dMul_ii, dMul_li, dFdiv_ii, dMod_ii, dNeg_i, dLt_ii, dLe_ii, dGt_ii, dGe_ii, dIx_l, dIx_t, dIx_c, dIx_s, dLen_l, dLen_t, dLen_c, dLen_s, dAbs_i, dMax2_ii, dMin2_ii, dInt_i, dStr_i, dStr_s, dList_l, dList_t, dTuple_l, dTuple_t, dCut_l, dCut_t, dItems_l, dItems_t, dItems_s, dRange_1, dRange_2, dIsN_e, dNotN_e, isNon_n, isNon_b, isNon_i, isNon_s, isNon_t, isNon_l, isNon_o, dIsi_n, dIsi_b, dIsi_i, dIsi_s, dIsi_t, dIsi_l, dIn_e, dNotIn_e, dEqB_ss, dEqB_ii, dInB_strs, dInB_strsT, dEq_e, dNe_e, beq_self_eq_true, List.set_cons_zero, List.set_cons_succ, List.length_cons, List.length_nil, List.length_map, List.length_append, Option.map_some, Option.map_none, Option.bind_some, Option.bind_none, if_true, if_false, ite_true, ite_false, decide_true, decide_false, and_self, true_and, and_true, Int.zero_add, Int.toNat_natCast, cut_tl, cut_all, List.map_append, List.map_cons, List.map_nil, List.nil_append, List.cons_append, List.append_nil, List.replicate, Int.reduceLT, Int.reduceLE, Int.reduceAdd, Int.reduceSub, Int.reduceMul, Int.reduceNeg, Int.reduceToNat, Nat.reduceAdd, Nat.reduceSub, Nat.reduceLT, Nat.reduceLeDiff, Nat.reduceMul, Int.reduceEq, Nat.reduceEqDiff, Bool.not_true, Bool.not_false, Bool.and_true, Bool.true_and, Bool.and_false, Bool.false_and, Bool.or_true, Bool.true_or, Bool.or_false, Bool.false_or, Bool.and_self, Bool.or_self, reduceCtorEq, decide_eq_true_eq, Bool.false_eq_true, fLc_e, fLcL_e, lcF_nil, fJoin_e, rJoin_e, dJoin_l, oPop_ok, oPop_2, oPop_1, cast_0, cast_1, cast_2, cast_3, at_0, at_1, at_2, at_3, at_4, at_5, at_6, Int.reduceBEq, Nat.reduceBEq, oApp_ok, oExt_ok, fProp_e, rProp_e, quiet_ok, dSlot_e, fMakeSK_e, rMakeN_e, rNum_e, gMrg_e, mrg_t, mrg_f, mrg_n, fMethF_e, rMethF_e, dIntS_i, dAddS_ii, dAddS_ss, dGcd_ii, dLcm_ii, dLcm_iii, dEqB_self, at_7, at_8, at_9, at_10, at_11, at_12, at_13, at_14, at_15, at_m1, cut_toL, cut_fromL, cut_btw, List.take_succ_cons, List.take_zero, List.drop_succ_cons, List.drop_zero, List.take_nil, List.drop_nil, isT_NoneType_bool, isT_NoneType_int, isT_NoneType_str, isT_NoneType_list, isT_NoneType_tuple, isT_bool_bool, isT_bool_int, isT_bool_str, isT_bool_list, isT_bool_tuple, isT_int_bool, isT_int_int, isT_int_str, isT_int_list, isT_int_tuple, isT_str_bool, isT_str_int, isT_str_str, isT_str_list, isT_str_tuple, isT_list_bool, isT_list_int, isT_list_str, isT_list_list, isT_list_tuple, isT_tuple_bool, isT_tuple_int, isT_tuple_str, isT_tuple_list, isT_tuple_tuple, fSlS_e, dPick_l, fRange3_e, dRange3_e, fLc2_e, fCallK_e, fCallO_e, rCallO_e, fBin_e, rBin_e, oStore_s, oAsg_e2, fDic0_e, fCallV_e, List.getElem?_cons_zero, List.getElem?_cons_succ, runM_e, finM_rt, finM_nx, self_r, fld_at, fld_depth, fld_toks, step_at, step_in, step_out, meth_number, meth_name, meth_name_list, meth_sign, meth_row, meth_arm, meth_part, meth_cut, meth_other, rmeth_r, fPure_e, fNilX_e, fConsX_e, fTupX_e, fRetX_e, fExpX_e, fSetX_e, fNewX_e, oAppX_e, fAppX_e, view_tok, *])
def sepc (c : Nat) : Bool := c == 32 || c == 40 || c == 41 || c == 59
def wrd (w : List Nat) : List Str := if w = [] then [] else [⟨w.toArray⟩]
def tkF : List Nat → List Nat → List Str
  | [], _ => []
  | c :: cs, w => if sepc c then wrd w ++ ((if c = 32 then [] else [⟨#[c]⟩]) ++ tkF cs []) else tkF cs (w ++ [c])
theorem in_seps {c : Nat} (h : c < 128) : dInB (.str ⟨#[c]⟩) (.str (" ();" : Str)) = some (sepc c) := by
  have : ∀ c < 128, dInB (.str ⟨#[c]⟩) (.str (" ();" : Str)) = some (sepc c) := by decide +kernel
  exact this c h
theorem in_sp {c : Nat} (h : c < 128) : dEqB (.str ⟨#[c]⟩) (.str (" " : Str)) = some (c == 32) := by
  have : ∀ c < 128, dEqB (.str ⟨#[c]⟩) (.str (" " : Str)) = some (c == 32) := by decide +kernel
  exact this c h
theorem str_nil : (⟨[].toArray⟩ : Str) = ("" : Str) := by decide +kernel
theorem eq_nil {w : List Nat} : dEqB (.str ⟨w.toArray⟩) (.str ("" : Str)) = some (decide (w = [])) := by
  rw [dEqB_ss]
  refine congrArg some ?_
  by_cases h : w = []
  · subst h; rw [str_nil]; simp
  · rw [decide_eq_false h]
    refine decide_eq_false fun e => h ?_
    rw [← str_nil] at e
    have := congrArg (fun s : Str => s.cps.toList) e
    simpa using this
theorem app_ch {w : List Nat} {c : Nat} : (⟨w.toArray⟩ : Str) ++ (⟨#[c]⟩ : Str) = ⟨(w ++ [c]).toArray⟩ := Str.ext' (by simp [Str.cps_append])
theorem app1 {found : List D} {x : Str} {l : List Str} : found ++ (x :: l).map D.str = found ++ [D.str x] ++ l.map D.str := by simp
theorem app2 {found : List D} {x y : Str} {l : List Str} : found ++ (x :: y :: l).map D.str = found ++ [D.str x] ++ [D.str y] ++ l.map D.str := by simp
theorem tok_loop {t0 : DS} : ∀ (cs w : List Nat) (found : List D) (s3 : DS), (∀ c ∈ cs, c < 128) → w.length + cs.length ≤ 100000 → found.length + 2 * (w.length + cs.length) ≤ 200000 → ∃ s2' s3', loopF (pName 3) l1_tokens_of (cs.map fun c => D.str ⟨#[c]⟩) [t0, .ow found, .fz (.str ⟨w.toArray⟩), s3] = .nx [t0, .ow (found ++ (tkF cs w).map D.str), s2', s3']
  | [], w, found, s3, _, _, _ => ⟨.fz (.str ⟨w.toArray⟩), s3, by simp [loopF, tkF]⟩
  | c :: cs, w, found, s3, hc, h1, h2 => by
    have hc0 := hc c List.mem_cons_self
    have hcs : ∀ c ∈ cs, c < 128 := fun d hd => hc d (List.mem_cons_of_mem _ hd)
    rw [List.length_cons] at h1 h2
    have a1 := in_seps hc0
    have a2 := in_sp hc0
    have a3 := @eq_nil w
    by_cases hs : sepc c = true
    · by_cases hw : w = []
      · subst hw
        by_cases h32 : c = 32
        · subst h32
          obtain ⟨s2', s3', ih⟩ := tok_loop cs [] found (.fz (.str ⟨#[32]⟩)) hcs (by simp; omega) (by simp at h2 ⊢; omega)
          refine ⟨s2', s3', ?_⟩
          rw [show tkF (32 :: cs) [] = tkF cs [] from rfl, ← ih, List.map_cons]
          refine loopF_nx (put := pName 3) (d := .str ⟨#[32]⟩) (δ1 := [t0, .ow found, .fz (.str ⟨[].toArray⟩), .fz (.str ⟨#[32]⟩)]) rfl ?_
          clear ih
          unfold l1_tokens_of
          walk_at "e2"
        · obtain ⟨s2', s3', ih⟩ := tok_loop cs [] (found ++ [.str ⟨#[c]⟩]) (.fz (.str ⟨#[c]⟩)) hcs (by simp; omega) (by simp at h2 ⊢; omega)
          refine ⟨s2', s3', ?_⟩
          have e : tkF (c :: cs) [] = ⟨#[c]⟩ :: tkF cs [] := by
            show (if sepc c then _ else _) = _
            rw [if_pos hs, if_neg h32]
            rfl
          rw [e, app1, ← ih, List.map_cons]
          refine loopF_nx (put := pName 3) (d := .str ⟨#[c]⟩) (δ1 := [t0, .ow found, .fz (.str ⟨[].toArray⟩), .fz (.str ⟨#[c]⟩)]) rfl ?_
          have o : okLt found.length = true := okLt_by (by simp at h2; omega)
          have hq : (c == 32) = false := by simpa using h32
          rw [hq] at a2
          rw [hs] at a1
          clear ih hs
          unfold l1_tokens_of
          walk_at "e2"
      · by_cases h32 : c = 32
        · subst h32
          obtain ⟨s2', s3', ih⟩ := tok_loop cs [] (found ++ [.str ⟨w.toArray⟩]) (.fz (.str ⟨#[32]⟩)) hcs (by simp; omega) (by
            have : 0 < w.length := List.length_pos_iff.mpr hw
            simp at h2 ⊢; omega)
          refine ⟨s2', s3', ?_⟩
          have e : tkF (32 :: cs) w = ⟨w.toArray⟩ :: tkF cs [] := by
            show wrd w ++ ([] ++ tkF cs []) = _
            unfold wrd
            rw [if_neg hw]
            rfl
          rw [e, app1, ← ih, List.map_cons]
          refine loopF_nx (put := pName 3) (d := .str ⟨#[32]⟩) (δ1 := [t0, .ow found, .fz (.str ⟨w.toArray⟩), .fz (.str ⟨#[32]⟩)]) rfl ?_
          have o : okLt found.length = true := okLt_by (by omega)
          rw [decide_eq_false hw] at a3
          rw [str_nil]
          clear ih
          unfold l1_tokens_of
          walk_at "e2"
        · obtain ⟨s2', s3', ih⟩ := tok_loop cs [] (found ++ [.str ⟨w.toArray⟩] ++ [.str ⟨#[c]⟩]) (.fz (.str ⟨#[c]⟩)) hcs (by simp; omega) (by
            have : 0 < w.length := List.length_pos_iff.mpr hw
            simp at h2 ⊢; omega)
          refine ⟨s2', s3', ?_⟩
          have e : tkF (c :: cs) w = ⟨w.toArray⟩ :: ⟨#[c]⟩ :: tkF cs [] := by
            show (if sepc c then _ else _) = _
            rw [if_pos hs, if_neg h32]
            unfold wrd
            rw [if_neg hw]
            rfl
          rw [e, app2, ← ih, List.map_cons]
          refine loopF_nx (put := pName 3) (d := .str ⟨#[c]⟩) (δ1 := [t0, .ow found, .fz (.str ⟨w.toArray⟩), .fz (.str ⟨#[c]⟩)]) rfl ?_
          have o : okLt found.length = true := okLt_by (by omega)
          have o2 : okLt (found.length + 1) = true := okLt_by (by omega)
          have hq : (c == 32) = false := by simpa using h32
          rw [hq] at a2
          rw [hs] at a1
          rw [decide_eq_false hw] at a3
          rw [str_nil]
          clear ih hs
          unfold l1_tokens_of
          walk_at "e2"
    · obtain ⟨s2', s3', ih⟩ := tok_loop cs (w ++ [c]) found (.fz (.str ⟨#[c]⟩)) hcs (by simp; omega) (by simp; omega)
      refine ⟨s2', s3', ?_⟩
      rw [show tkF (c :: cs) w = tkF cs (w ++ [c]) from if_neg hs, ← ih, List.map_cons]
      refine loopF_ct (put := pName 3) (d := .str ⟨#[c]⟩) (δ1 := [t0, .ow found, .fz (.str ⟨w.toArray⟩), .fz (.str ⟨#[c]⟩)]) rfl ?_
      have hs : sepc c = false := by simpa using hs
      rw [hs] at a1
      have o : okLe ((⟨w.toArray⟩ : Str).length + (⟨#[c]⟩ : Str).length) = true := okLe_by (by show w.toArray.size + 1 ≤ _; simp; omega)
      have e := @app_ch w c
      clear ih hs
      unfold l1_tokens_of
      walk_at "e2"
def Asc (t : Str) : Prop := ∀ c ∈ t.cps.toList, c < 128
theorem tokens_ok {t : Str} (h : Asc t) (hl : t.cps.toList.length ≤ 90000) : m_tokens_of [.str t] = .ok (.lst ((tkF (t.cps.toList ++ [32]) []).map .str)) := by
  have o : okLe (t.length + (" " : Str).length) = true := okLe_by (by
    rw [show (" " : Str).length = 1 by decide +kernel, show t.length = t.cps.toList.length from Array.length_toList.symm]
    omega)
  have e : (t ++ (" " : Str)).cps.toList = t.cps.toList ++ [32] := by
    rw [Str.cps_append, Array.toList_append]
    exact congrArg _ (by decide +kernel)
  obtain ⟨s2', s3', lp⟩ := tok_loop (t0 := .fz (.str t)) (t.cps.toList ++ [32]) [] [] .un (fun c hc => by
    rcases List.mem_append.mp hc with hc | hc
    · exact h c hc
    · rw [List.mem_singleton.mp hc]; decide) (by simp only [List.length_append, List.length_cons, List.length_nil]; omega) (by simp only [List.length_append, List.length_cons, List.length_nil]; omega)
  rw [str_nil, List.nil_append] at lp
  rw [← e] at lp ⊢
  clear e h
  unfold m_tokens_of b_tokens_of
  walk_at "e2"
structure Tks (t : Str) (ws : List Str) : Prop where
  asc : Asc t
  run : ∀ cs, (∃ c r, cs = c :: r ∧ sepc c = true) → tkF (t.cps.toList ++ cs) [] = ws ++ tkF cs []
theorem tkF_word {x cs : List Nat} : ∀ {w : List Nat}, (∀ c ∈ x, sepc c = false) → tkF (x ++ cs) w = tkF cs (w ++ x) := by
  induction x with
  | nil => intro w _; simp
  | cons c x ih =>
    intro w h
    rw [List.cons_append]
    show (if sepc c = true then _ else tkF (x ++ cs) (w ++ [c])) = _
    rw [if_neg (by rw [h c List.mem_cons_self]; decide), ih fun d hd => h d (List.mem_cons_of_mem _ hd), List.append_assoc]
    rfl
theorem tkF_sep {cs w : List Nat} {c : Nat} (hs : sepc c = true) (hw : w ≠ []) : tkF (c :: cs) w = ⟨w.toArray⟩ :: tkF (c :: cs) [] := by
  show (if sepc c = true then _ else _) = _ :: (if sepc c = true then _ else _)
  rw [if_pos hs, if_pos hs]
  unfold wrd
  rw [if_neg hw, if_pos rfl]
  rfl
theorem Tks.word {t : Str} (h0 : t.cps.toList ≠ []) (h1 : ∀ c ∈ t.cps.toList, c < 128 ∧ sepc c = false) : Tks t [t] where
  asc := fun c hc => (h1 c hc).1
  run := fun cs ⟨c, r, e, hs⟩ => by
    rw [tkF_word fun c hc => (h1 c hc).2, List.nil_append, e, tkF_sep hs h0]
    rfl
theorem Asc.app {a b : Str} (ha : Asc a) (hb : Asc b) : Asc (a ++ b) := fun c hc => by
  rw [Str.cps_append, Array.toList_append] at hc
  rcases List.mem_append.mp hc with hc | hc
  · exact ha c hc
  · exact hb c hc
theorem Tks.sep {a s b : Str} {wa wb : List Str} (ha : Tks a wa) (hb : Tks b wb) {c : Nat} {r : List Nat} (hs : s.cps.toList = c :: r) (hc : sepc c = true) (as : Asc s) {ws : List Str} (hr : ∀ cs, tkF (c :: r ++ cs) [] = ws ++ tkF cs []) : Tks (a ++ s ++ b) (wa ++ (ws ++ wb)) where
  asc := (ha.asc.app as).app hb.asc
  run := fun cs h => by
    rw [Str.cps_append, Str.cps_append, Array.toList_append, Array.toList_append, hs, List.append_assoc, List.append_assoc, ha.run (c :: r ++ (b.cps.toList ++ cs)) ⟨c, _, rfl, hc⟩, hr, hb.run _ h, List.append_assoc, List.append_assoc]
theorem Tks.sp {a b : Str} {wa wb : List Str} (ha : Tks a wa) (hb : Tks b wb) : Tks (a ++ (" " : Str) ++ b) (wa ++ wb) :=
  ha.sep hb (c := 32) (r := []) (by decide +kernel) rfl (by unfold Asc; decide +kernel) (ws := []) fun cs => rfl
theorem Tks.semi {a b : Str} {wa wb : List Str} (ha : Tks a wa) (hb : Tks b wb) : Tks (a ++ ("; " : Str) ++ b) (wa ++ ((";" : Str) :: wb)) :=
  ha.sep hb (c := 59) (r := [32]) (by decide +kernel) rfl (by unfold Asc; decide +kernel) (ws := [(";" : Str)]) fun cs => by
    show (⟨#[59]⟩ : Str) :: tkF cs [] = (";" : Str) :: tkF cs []
    rw [show (⟨#[59]⟩ : Str) = (";" : Str) by decide +kernel]
theorem Tks.par {a : Str} {wa : List Str} (ha : Tks a wa) : Tks (("(" : Str) ++ a ++ (")" : Str)) (("(" : Str) :: (wa ++ [(")" : Str)])) where
  asc := ((show Asc ("(" : Str) by unfold Asc; decide +kernel).app ha.asc).app (show Asc (")" : Str) by unfold Asc; decide +kernel)
  run := fun cs h => by
    rw [Str.cps_append, Str.cps_append, Array.toList_append, Array.toList_append, show (Str.ofString "(").cps.toList = [40] by decide +kernel, show (Str.ofString ")").cps.toList = [41] by decide +kernel, List.append_assoc, List.append_assoc]
    show (⟨#[40]⟩ : Str) :: tkF (a.cps.toList ++ 41 :: cs) [] = _
    rw [ha.run _ ⟨41, cs, rfl, rfl⟩]
    show (⟨#[40]⟩ : Str) :: (wa ++ (⟨#[41]⟩ : Str) :: tkF cs []) = _
    rw [show (⟨#[40]⟩ : Str) = ("(" : Str) by decide +kernel, show (⟨#[41]⟩ : Str) = (")" : Str) by decide +kernel]
    simp
theorem Tks.tokens {t : Str} {ws : List Str} (h : Tks t ws) (hl : t.cps.toList.length ≤ 90000) : m_tokens_of [.str t] = .ok (.lst (ws.map .str)) := by
  rw [tokens_ok h.asc hl, h.run [32] ⟨32, [], rfl, rfl⟩]
  show R.ok (D.lst ((ws ++ []).map D.str)) = _
  rw [List.append_nil]
local macro_rules | `(tactic| walk_at "rd") => `(tactic| simp (disch := walk_at "sz") only [R.bind_ok, R.bind_bad, R.bind_exc, R.of_some, R.of_none, O.on_ok, O.on_bad, O.on_exc, fVar_0, fVar_s, fOwn_0, fOwn_s, fC_e, fU_e, fB_e, fNil_e, fCons_e, fL_e, fCall_e, fTup_e, fLst_e, rIf_t, rIf_f, fIf_e, tBl_e, fTest_e, fTru_e, fNotB_e, fAndB_e, fOrB_e, fVal_e, fAnd_e, fOr_e, fNo_e, tInt_e, fSome_e, fSl_e, fSlOw_e, fLenOw_e, fIxOw_e, fInOw_e, thn_nx, thn_rt, thn_bk, thn_ct, thn_exc, thn_bad, fSeq_e, oIf_t, oIf_f, oIf_exc, fIfS_e, fSkip_e, fRet_e, fExp_e, fSet_e, fNew_e, fApp_e, fExt_e, fPop_e, fPut_e, fFrz_e, frz_0o, frz_s, fFor_e, fItems_e, fRange_e, fAsg_e, oMat_e, fMatch_e, fAug_e, fin_rt, fin_nx, fin_exc, runD_e, pName_e, pNil_e, pCons_e, pTup_e, dAdd_ii, dAdd_ss, dAdd_ll, dAdd_tt, dSub_ii, dMul_ii, dMul_li, dFdiv_ii, dMod_ii, dNeg_i, dLt_ii, dLe_ii, dGt_ii, dGe_ii, dIx_l, dIx_t, dIx_c, dIx_s, dLen_l, dLen_t, dLen_c, dLen_s, dAbs_i, dMax2_ii, dMin2_ii, dInt_i, dStr_i, dStr_s, dList_l, dList_t, dTuple_l, dTuple_t, dCut_l, dCut_t, dItems_l, dItems_t, dItems_s, dRange_1, dRange_2, dIsN_e, dNotN_e, isNon_n, isNon_b, isNon_i, isNon_s, isNon_t, isNon_l, isNon_o, dIsi_n, dIsi_b, dIsi_i, dIsi_s, dIsi_t, dIsi_l, dIn_e, dNotIn_e, dEqB_ss, dEqB_ii, dInB_strs, dInB_strsT, dEq_e, dNe_e, beq_self_eq_true, List.set_cons_zero, List.set_cons_succ, List.length_cons, List.length_nil, List.length_map, List.length_append, Option.map_some, Option.map_none, Option.bind_some, Option.bind_none, if_true, if_false, ite_true, ite_false, decide_true, decide_false, and_self, true_and, and_true, Int.zero_add, Int.toNat_natCast, cut_tl, cut_all, List.map_append, List.map_cons, List.map_nil, List.nil_append, List.cons_append, List.append_nil, List.replicate, Int.reduceLT, Int.reduceLE, Int.reduceAdd, Int.reduceSub, Int.reduceMul, Int.reduceNeg, Int.reduceToNat, Nat.reduceAdd, Nat.reduceSub, Nat.reduceLT, Nat.reduceLeDiff, Nat.reduceMul, Int.reduceEq, Nat.reduceEqDiff, Bool.not_true, Bool.not_false, Bool.and_true, Bool.true_and, Bool.and_false, Bool.false_and, Bool.or_true, Bool.true_or, Bool.or_false, Bool.false_or, Bool.and_self, Bool.or_self, reduceCtorEq, decide_eq_true_eq, Bool.false_eq_true, fLc_e, fLcL_e, lcF_nil, fJoin_e, rJoin_e, dJoin_l, oPop_ok, oPop_2, oPop_1, cast_0, cast_1, cast_2, cast_3, at_0, at_1, at_2, at_3, at_4, at_5, at_6, Int.reduceBEq, Nat.reduceBEq, oApp_ok, oExt_ok, fProp_e, rProp_e, quiet_ok, dSlot_e, fMakeSK_e, rMakeN_e, rNum_e, gMrg_e, mrg_t, mrg_f, mrg_n, fMethF_e, rMethF_e, dIntS_i, dAddS_ii, dAddS_ss, dGcd_ii, dLcm_ii, dLcm_iii, dEqB_self, at_7, at_8, at_9, at_10, at_11, at_12, at_13, at_14, at_15, at_m1, cut_toL, cut_fromL, cut_btw, List.take_succ_cons, List.take_zero, List.drop_succ_cons, List.drop_zero, List.take_nil, List.drop_nil, isT_NoneType_bool, isT_NoneType_int, isT_NoneType_str, isT_NoneType_list, isT_NoneType_tuple, isT_bool_bool, isT_bool_int, isT_bool_str, isT_bool_list, isT_bool_tuple, isT_int_bool, isT_int_int, isT_int_str, isT_int_list, isT_int_tuple, isT_str_bool, isT_str_int, isT_str_str, isT_str_list, isT_str_tuple, isT_list_bool, isT_list_int, isT_list_str, isT_list_list, isT_list_tuple, isT_tuple_bool, isT_tuple_int, isT_tuple_str, isT_tuple_list, isT_tuple_tuple, fSlS_e, dPick_l, fRange3_e, dRange3_e, fLc2_e, fCallK_e, fCallO_e, rCallO_e, fBin_e, rBin_e, oStore_s, oAsg_e2, fDic0_e, fCallV_e, List.getElem?_cons_zero, List.getElem?_cons_succ, runM_e, finM_rt, finM_nx, self_r, fld_at, fld_depth, fld_toks, step_at, step_in, step_out, meth_number, meth_name, meth_name_list, meth_sign, meth_row, meth_arm, meth_part, meth_cut, meth_other, rmeth_r, fPure_e, fNilX_e, fConsX_e, fTupX_e, fRetX_e, fExpX_e, fSetX_e, fNewX_e, oAppX_e, fAppX_e, view_tok, *])
def rs (t : List Str) (a d : Nat) : List (Str × D) := [("tokens", .lst (t.map .str)), ("at", .int a), ("depth", .int d)]
abbrev ro (t : List Str) (a d : Nat) : DS := .ob "Reader" (rs t a d)
def finM (c : Str) : O → R (D × List (Str × D))
  | .rt d δ => selfOf c d δ
  | .nx δ => selfOf c .non δ
  | .exc n xs => .exc n xs
  | _ => .bad
theorem dFld_toks {x y z : D} : dFld "Reader" "tokens" (.obj "Reader" [x, y, z]) = some x := by kernel_rfl
theorem dFld_at {x y z : D} : dFld "Reader" "at" (.obj "Reader" [x, y, z]) = some y := by kernel_rfl
theorem runM_e {c : Str} {m : Nat} {F : FS} {fs : List (Str × D)} {ds : List D} : runM c m F fs ds = finM c (F (.ob c fs :: (ds.map DS.fz ++ List.replicate (m - 1 - ds.length) DS.un))) := by
  unfold runM finM
  generalize F _ = o
  cases o <;> rfl
theorem finM_rt {c : Str} {d : D} {δ : DSt} : finM c (.rt d δ) = selfOf c d δ := rfl
theorem finM_nx {c : Str} {δ : DSt} : finM c (.nx δ) = selfOf c .non δ := rfl
theorem self_r {t : List Str} {a d : Nat} {x : D} {δ : DSt} : selfOf "Reader" x (ro t a d :: δ) = .ok (x, rs t a d) := by
  unfold selfOf fOb
  simp
theorem fld_at {t : List Str} {a d : Nat} {δ : DSt} : fFld "Reader" 0 "at" (ro t a d :: δ) = .ok (.int a) := by
  unfold fFld fOb
  simp [rs, List.lookup, R.of]
  rfl
theorem fld_depth {t : List Str} {a d : Nat} {δ : DSt} : fFld "Reader" 0 "depth" (ro t a d :: δ) = .ok (.int d) := by
  unfold fFld fOb
  simp [rs, List.lookup, R.of]
  rfl
theorem fld_toks {t : List Str} {a d : Nat} {δ : DSt} : fFld "Reader" 0 "tokens" (ro t a d :: δ) = .ok (.lst (t.map .str)) := by
  unfold fFld fOb
  simp [rs, List.lookup, R.of]
theorem ofld_at {t : List Str} {a d b : Nat} {δ : DSt} : oFld "Reader" 0 "at" (ro t a d :: δ) (.int b) = .nx (ro t b d :: δ) := by
  unfold oFld fOb
  simp
  rfl
theorem ofld_depth {t : List Str} {a d b : Nat} {δ : DSt} : oFld "Reader" 0 "depth" (ro t a d :: δ) (.int b) = .nx (ro t a b :: δ) := by
  unfold oFld fOb
  simp
  rfl
theorem step_at {t : List Str} {a d : Nat} {δ : DSt} : fAugF dAddS "Reader" 0 "at" (fC (.int 1)) (ro t a d :: δ) = .nx (ro t (a + 1) d :: δ) := by
  unfold fAugF
  rw [fld_at, O.on_ok]
  exact ofld_at
theorem step_in {t : List Str} {a d : Nat} {δ : DSt} : fAugF dAddS "Reader" 0 "depth" (fC (.int 1)) (ro t a d :: δ) = .nx (ro t a (d + 1) :: δ) := by
  unfold fAugF
  rw [fld_depth, O.on_ok]
  exact ofld_depth
theorem step_out {t : List Str} {a d : Nat} {δ : DSt} : fAugF dSub "Reader" 0 "depth" (fC (.int 1)) (ro t a (d + 1) :: δ) = .nx (ro t a d :: δ) := by
  unfold fAugF
  rw [fld_depth, O.on_ok, fC_e, O.on_ok, dSub_ii, show ((d + 1 : Nat) : Int) - 1 = d by omega, R.of_some, O.on_ok]
  exact ofld_depth
theorem meth_r {t : List Str} {a d : Nat} {δ : DSt} {m : Str} {G : MF} {fl : FL} (h : noF m (rs t a d) = true) : fMeth "Reader" m 0 G fl (ro t a d :: δ) = (fl (ro t a d :: δ)).bind fun ds => rMeth "Reader" m 0 G (ro t a d :: δ) (rs t a d) ds := by
  unfold fMeth fOb
  simp [h]
theorem rmeth_r {t : List Str} {a d : Nat} {δ : DSt} {m : Str} {G : MF} {fs : List (Str × D)} {ds : List D} : rMeth "Reader" m 0 G (ro t a d :: δ) fs ds = (G fs ds).bind fun p => .ok (p.1, .ob "Reader" p.2 :: δ) := rfl
theorem no_number {t : List Str} {a d : Nat} : noF "number" (rs t a d) = true := by kernel_rfl
theorem no_name {t : List Str} {a d : Nat} : noF "name" (rs t a d) = true := by kernel_rfl
theorem no_name_list {t : List Str} {a d : Nat} : noF "name_list" (rs t a d) = true := by kernel_rfl
theorem no_sign {t : List Str} {a d : Nat} : noF "sign" (rs t a d) = true := by kernel_rfl
theorem no_row {t : List Str} {a d : Nat} : noF "row" (rs t a d) = true := by kernel_rfl
theorem no_arm {t : List Str} {a d : Nat} : noF "arm" (rs t a d) = true := by kernel_rfl
theorem no_part {t : List Str} {a d : Nat} : noF "part" (rs t a d) = true := by kernel_rfl
theorem no_cut {t : List Str} {a d : Nat} : noF "cut" (rs t a d) = true := by kernel_rfl
theorem no_other {t : List Str} {a d : Nat} : noF "other" (rs t a d) = true := by kernel_rfl
theorem meth_number {t : List Str} {a d : Nat} {δ : DSt} {G : MF} {fl : FL} : fMeth "Reader" "number" 0 G fl (ro t a d :: δ) = (fl (ro t a d :: δ)).bind fun ds => rMeth "Reader" "number" 0 G (ro t a d :: δ) (rs t a d) ds := meth_r no_number
theorem meth_name {t : List Str} {a d : Nat} {δ : DSt} {G : MF} {fl : FL} : fMeth "Reader" "name" 0 G fl (ro t a d :: δ) = (fl (ro t a d :: δ)).bind fun ds => rMeth "Reader" "name" 0 G (ro t a d :: δ) (rs t a d) ds := meth_r no_name
theorem meth_name_list {t : List Str} {a d : Nat} {δ : DSt} {G : MF} {fl : FL} : fMeth "Reader" "name_list" 0 G fl (ro t a d :: δ) = (fl (ro t a d :: δ)).bind fun ds => rMeth "Reader" "name_list" 0 G (ro t a d :: δ) (rs t a d) ds := meth_r no_name_list
theorem meth_sign {t : List Str} {a d : Nat} {δ : DSt} {G : MF} {fl : FL} : fMeth "Reader" "sign" 0 G fl (ro t a d :: δ) = (fl (ro t a d :: δ)).bind fun ds => rMeth "Reader" "sign" 0 G (ro t a d :: δ) (rs t a d) ds := meth_r no_sign
theorem meth_row {t : List Str} {a d : Nat} {δ : DSt} {G : MF} {fl : FL} : fMeth "Reader" "row" 0 G fl (ro t a d :: δ) = (fl (ro t a d :: δ)).bind fun ds => rMeth "Reader" "row" 0 G (ro t a d :: δ) (rs t a d) ds := meth_r no_row
theorem meth_arm {t : List Str} {a d : Nat} {δ : DSt} {G : MF} {fl : FL} : fMeth "Reader" "arm" 0 G fl (ro t a d :: δ) = (fl (ro t a d :: δ)).bind fun ds => rMeth "Reader" "arm" 0 G (ro t a d :: δ) (rs t a d) ds := meth_r no_arm
theorem meth_part {t : List Str} {a d : Nat} {δ : DSt} {G : MF} {fl : FL} : fMeth "Reader" "part" 0 G fl (ro t a d :: δ) = (fl (ro t a d :: δ)).bind fun ds => rMeth "Reader" "part" 0 G (ro t a d :: δ) (rs t a d) ds := meth_r no_part
theorem meth_cut {t : List Str} {a d : Nat} {δ : DSt} {G : MF} {fl : FL} : fMeth "Reader" "cut" 0 G fl (ro t a d :: δ) = (fl (ro t a d :: δ)).bind fun ds => rMeth "Reader" "cut" 0 G (ro t a d :: δ) (rs t a d) ds := meth_r no_cut
theorem meth_other {t : List Str} {a d : Nat} {δ : DSt} {G : MF} {fl : FL} : fMeth "Reader" "other" 0 G fl (ro t a d :: δ) = (fl (ro t a d :: δ)).bind fun ds => rMeth "Reader" "other" 0 G (ro t a d :: δ) (rs t a d) ds := meth_r no_other
theorem fPure_e {f : FE} {δ : DSt} : fPure f δ = (f δ).bind fun d => .ok (d, δ) := rfl
theorem fNilX_e {δ : DSt} : fNilX δ = .ok ([], δ) := rfl
theorem fConsX_e {f : FX} {fl : FXL} {δ : DSt} : fConsX f fl δ = (f δ).bind fun p => (fl p.2).bind fun q => .ok (p.1 :: q.1, q.2) := rfl
theorem fTupX_e {fl : FXL} {δ : DSt} : fTupX fl δ = (fl δ).bind fun p => .ok (.tup p.1, p.2) := rfl
theorem fRetX_e {f : FX} {δ : DSt} : fRetX f δ = O.on (f δ) fun p => .rt p.1 p.2 := rfl
theorem fExpX_e {f : FX} {δ : DSt} : fExpX f δ = O.on (f δ) fun p => .nx p.2 := rfl
theorem fSetX_e {i : Nat} {f : FX} {δ : DSt} : fSetX i f δ = O.on (f δ) fun p => .nx (p.2.set i (.fz p.1)) := rfl
theorem fNewX_e {i : Nat} {fl : FXL} {δ : DSt} : fNewX i fl δ = O.on (fl δ) fun p => .nx (p.2.set i (.ow p.1)) := rfl
theorem oAppX_e {i : Nat} {d : D} {δ : DSt} : oAppX i (d, δ) = O.on (fOwn i δ) fun ds => oApp i δ ds d := by
  unfold oAppX
  rfl
theorem fAppX_e {i : Nat} {f : FX} {δ : DSt} : fAppX i f δ = O.on (fOwn i δ) fun _ => O.on (f δ) fun p => oAppX i p := rfl
def tkA (t : List Str) (a : Nat) : Str := t.getD a ""
theorem view_tok {t : List Str} {a d : Nat} {δ : DSt} : fView "Reader" "token" 0 m_Reader_token fNil (ro t a d :: δ) = .ok (.str (tkA t a)) := by
  have e : m_Reader_token [.obj "Reader" [.lst (t.map .str), .int a, .int d]] = .ok (.str (tkA t a)) := by
    by_cases h : a < t.length
    · have g : L2.atI (t.map D.str) (a : Int) = some (.str (tkA t a)) := by
        refine L2.atI_nat (j := a) ?_
        simp [tkA, h]
      have l : (a : Int) < (t.map D.str).length := by simp; omega
      have l2 : decide ((a : Int) < ((t.map D.str).length : Int)) = true := decide_eq_true l
      have f1 := @dFld_toks
      have f2 := @dFld_at
      generalize t.map D.str = ts at *
      clear l h
      unfold m_Reader_token b_Reader_token
      walk_at "e2"
    · have g : tkA t a = "" := by unfold tkA; rw [List.getD_eq_getElem?_getD, List.getElem?_eq_none (by omega)]; rfl
      have l2 : decide ((a : Int) < ((t.map D.str).length : Int)) = false := decide_eq_false (by simp; omega)
      rw [g]
      have f1 := @dFld_toks
      have f2 := @dFld_at
      generalize t.map D.str = ts at *
      clear g h
      unfold m_Reader_token b_Reader_token
      walk_at "e2"
  have n : (noF "token" (rs t a d) && decide ((rs t a d).map (·.1) = flds "Reader")) = true := by kernel_rfl
  have o : fOb "Reader" 0 (ro t a d :: δ) = .ok (rs t a d) := by unfold fOb; simp
  unfold fView
  rw [o, R.bind_ok, if_pos n, fNil_e, R.bind_ok]
  show rFlat (m_Reader_token [.obj "Reader" [.lst (t.map .str), .int a, .int d]]) = _
  rw [e]
  rfl
local macro_rules | `(tactic| walk_at "rd") => `(tactic| simp (disch := walk_at "sz") only [R.bind_ok, R.bind_bad, R.bind_exc, R.of_some, R.of_none, O.on_ok, O.on_bad, O.on_exc, fVar_0, fVar_s, fOwn_0, fOwn_s, fC_e, fU_e, fB_e, fNil_e, fCons_e, fL_e, fCall_e, fTup_e, fLst_e, rIf_t, rIf_f, fIf_e, tBl_e, fTest_e, fTru_e, fNotB_e, fAndB_e, fOrB_e, fVal_e, fAnd_e, fOr_e, fNo_e, tInt_e, fSome_e, fSl_e, fSlOw_e, fLenOw_e, fIxOw_e, fInOw_e, thn_nx, thn_rt, thn_bk, thn_ct, thn_exc, thn_bad, fSeq_e, oIf_t, oIf_f, oIf_exc, fIfS_e, fSkip_e, fRet_e, fExp_e, fSet_e, fNew_e, fApp_e, fExt_e, fPop_e, fPut_e, fFrz_e, frz_0o, frz_s, fFor_e, fItems_e, fRange_e, fAsg_e, oMat_e, fMatch_e, fAug_e, fin_rt, fin_nx, fin_exc, runD_e, pName_e, pNil_e, pCons_e, pTup_e, dAdd_ii, dAdd_ss, dAdd_ll, dAdd_tt, dSub_ii, dMul_ii, dMul_li, dFdiv_ii, dMod_ii, dNeg_i, dLt_ii, dLe_ii, dGt_ii, dGe_ii, dIx_l, dIx_t, dIx_c, dIx_s, dLen_l, dLen_t, dLen_c, dLen_s, dAbs_i, dMax2_ii, dMin2_ii, dInt_i, dStr_i, dStr_s, dList_l, dList_t, dTuple_l, dTuple_t, dCut_l, dCut_t, dItems_l, dItems_t, dItems_s, dRange_1, dRange_2, dIsN_e, dNotN_e, isNon_n, isNon_b, isNon_i, isNon_s, isNon_t, isNon_l, isNon_o, dIsi_n, dIsi_b, dIsi_i, dIsi_s, dIsi_t, dIsi_l, dIn_e, dNotIn_e, dEqB_ss, dEqB_ii, dInB_strs, dInB_strsT, dEq_e, dNe_e, beq_self_eq_true, List.set_cons_zero, List.set_cons_succ, List.length_cons, List.length_nil, List.length_map, List.length_append, Option.map_some, Option.map_none, Option.bind_some, Option.bind_none, if_true, if_false, ite_true, ite_false, decide_true, decide_false, and_self, true_and, and_true, Int.zero_add, Int.toNat_natCast, cut_tl, cut_all, List.map_append, List.map_cons, List.map_nil, List.nil_append, List.cons_append, List.append_nil, List.replicate, Int.reduceLT, Int.reduceLE, Int.reduceAdd, Int.reduceSub, Int.reduceMul, Int.reduceNeg, Int.reduceToNat, Nat.reduceAdd, Nat.reduceSub, Nat.reduceLT, Nat.reduceLeDiff, Nat.reduceMul, Int.reduceEq, Nat.reduceEqDiff, Bool.not_true, Bool.not_false, Bool.and_true, Bool.true_and, Bool.and_false, Bool.false_and, Bool.or_true, Bool.true_or, Bool.or_false, Bool.false_or, Bool.and_self, Bool.or_self, reduceCtorEq, decide_eq_true_eq, Bool.false_eq_true, fLc_e, fLcL_e, lcF_nil, fJoin_e, rJoin_e, dJoin_l, oPop_ok, oPop_2, oPop_1, cast_0, cast_1, cast_2, cast_3, at_0, at_1, at_2, at_3, at_4, at_5, at_6, Int.reduceBEq, Nat.reduceBEq, oApp_ok, oExt_ok, fProp_e, rProp_e, quiet_ok, dSlot_e, fMakeSK_e, rMakeN_e, rNum_e, gMrg_e, mrg_t, mrg_f, mrg_n, fMethF_e, rMethF_e, dIntS_i, dAddS_ii, dAddS_ss, dGcd_ii, dLcm_ii, dLcm_iii, dEqB_self, at_7, at_8, at_9, at_10, at_11, at_12, at_13, at_14, at_15, at_m1, cut_toL, cut_fromL, cut_btw, List.take_succ_cons, List.take_zero, List.drop_succ_cons, List.drop_zero, List.take_nil, List.drop_nil, isT_NoneType_bool, isT_NoneType_int, isT_NoneType_str, isT_NoneType_list, isT_NoneType_tuple, isT_bool_bool, isT_bool_int, isT_bool_str, isT_bool_list, isT_bool_tuple, isT_int_bool, isT_int_int, isT_int_str, isT_int_list, isT_int_tuple, isT_str_bool, isT_str_int, isT_str_str, isT_str_list, isT_str_tuple, isT_list_bool, isT_list_int, isT_list_str, isT_list_list, isT_list_tuple, isT_tuple_bool, isT_tuple_int, isT_tuple_str, isT_tuple_list, isT_tuple_tuple, fSlS_e, dPick_l, fRange3_e, dRange3_e, fLc2_e, fCallK_e, fCallO_e, rCallO_e, fBin_e, rBin_e, oStore_s, oAsg_e2, fDic0_e, fCallV_e, List.getElem?_cons_zero, List.getElem?_cons_succ, runM_e, finM_rt, finM_nx, self_r, fld_at, fld_depth, fld_toks, step_at, step_in, step_out, meth_number, meth_name, meth_name_list, meth_sign, meth_row, meth_arm, meth_part, meth_cut, meth_other, rmeth_r, fPure_e, fNilX_e, fConsX_e, fTupX_e, fRetX_e, fExpX_e, fSetX_e, fNewX_e, oAppX_e, fAppX_e, view_tok, *])
def numS (i : Int) : Str := Str.ofString (toString i)
def isI (r : R D) (i : Int) : Bool := match r with
  | .ok (.int j) => j == i
  | _ => false
theorem isI_ok {r : R D} {i : Int} (h : isI r i = true) : r = .ok (.int i) := by
  unfold isI at h
  split at h
  · rw [eq_of_beq h]
  · cases h
theorem num_all : ∀ k : Nat, k < 199 → isI (m_number_of [.str (numS ((k : Int) - 99))]) ((k : Int) - 99) = true := by decide +kernel
theorem num_ok {i : Int} (h : -99 ≤ i) (h2 : i ≤ 99) : m_number_of [.str (numS i)] = .ok (.int i) := by
  have := num_all (i + 99).toNat (by omega)
  rw [show (((i + 99).toNat : Nat) : Int) - 99 = i by omega] at this
  exact isI_ok this
theorem tk_of {t : List Str} {a : Nat} {x : Str} {r : List Str} (h : t.drop a = x :: r) : tkA t a = x ∧ t.drop (a + 1) = r := by
  have e : t[a]? = some x := by
    have := congrArg (fun l => l[0]?) h
    simpa using this
  refine ⟨by unfold tkA; rw [List.getD_eq_getElem?_getD, e]; rfl, ?_⟩
  rw [← List.drop_drop, h]
  rfl
theorem tk_end {t : List Str} {a : Nat} (h : t.drop a = []) : tkA t a = "" := by
  unfold tkA
  rw [List.getD_eq_getElem?_getD, List.getElem?_eq_none (List.drop_eq_nil_iff.mp h)]
  rfl
theorem rd_number {t : List Str} {a d : Nat} {i lo hi : Int} (h : tkA t a = numS i) (h1 : -99 ≤ i) (h2 : i ≤ 99) (h3 : lo ≤ i) (h4 : i ≤ hi) : m_Reader_number (rs t a d) [.int lo, .int hi] = .ok (.int i, rs t (a + 1) d) := by
  have e := num_ok h1 h2
  rw [← h] at e
  have l1 : decide (i < lo) = false := decide_eq_false (by omega)
  have l2 : decide (i > hi) = false := decide_eq_false (by omega)
  unfold m_Reader_number b_Reader_number
  clear h h1 h2 h3 h4
  walk_at "rd"
theorem rd_name {t : List Str} {a d : Nat} (h : m_is_name [.str (tkA t a)] = .ok (.bl true)) : m_Reader_name (rs t a d) [] = .ok (.str (tkA t a), rs t (a + 1) d) := by
  unfold m_Reader_name b_Reader_name
  walk_at "rd"
theorem rd_open {t : List Str} {a d : Nat} (h : tkA t a = "(") (hd : d < 6) : m_Reader_sign (rs t a d) [.str ("(" : Str)] = .ok (.non, rs t (a + 1) d) := by
  have l : ((d : Int) == 6) = false := beq_false_of_ne (by omega)
  unfold m_Reader_sign b_Reader_sign
  walk_at "rd"
theorem rd_close {t : List Str} {a d : Nat} (h : tkA t a = ")") : m_Reader_sign (rs t a d) [.str (")" : Str)] = .ok (.non, rs t (a + 1) d) := by
  have l : dEqB (.str (")" : Str)) (.str ("(" : Str)) = some false := by kernel_rfl
  unfold m_Reader_sign b_Reader_sign
  walk_at "rd"
def EndT (x : Str) : Prop := x = "" ∨ x = ";" ∨ x = ")"
theorem EndT.in_ {x : Str} (h : EndT x) : dInB (.str x) (.tup [.str (Str.ofString ""), .str (Str.ofString ";"), .str (Str.ofString ")")]) = some true := by
  rcases h with rfl | rfl | rfl <;> kernel_rfl
theorem EndT.noname {x : Str} (h : EndT x) : m_is_name [.str x] = .ok (.bl false) := by
  rcases h with rfl | rfl | rfl <;> kernel_rfl
theorem num_noend {i : Int} (h : 0 ≤ i) (h2 : i ≤ 9) : dInB (.str (numS i)) (.tup [.str (Str.ofString ""), .str (Str.ofString ";"), .str (Str.ofString ")")]) = some false := by
  have : ∀ k : Nat, k < 10 → dInB (.str (numS k)) (.tup [.str (Str.ofString ""), .str (Str.ofString ";"), .str (Str.ofString ")")]) = some false := by decide +kernel
  have g := this i.toNat (by omega)
  rw [Int.toNat_of_nonneg h] at g
  exact g
theorem rd_cut1 {t : List Str} {a d : Nat} {w : Str} {b : Int} (h : tkA t a = numS b) (hb : -99 ≤ b) (hb2 : b ≤ 99) (he : EndT (tkA t (a + 1))) : m_Reader_cut (rs t a d) [.str w] = .ok (.tup [.str w, .int b, .int 0, .int 1], rs t (a + 1) d) := by
  have n := rd_number (t := t) (a := a) (d := d) (lo := -99) (hi := 99) h hb hb2 hb hb2
  have e := he.in_
  unfold m_Reader_cut b_Reader_cut
  clear h hb hb2 he
  walk_at "rd"
theorem rd_cut3 {t : List Str} {a d : Nat} {w : Str} {b s k : Int} (h : tkA t a = numS b) (hb : -99 ≤ b) (hb2 : b ≤ 99) (h1 : tkA t (a + 1) = numS s) (hs : 0 ≤ s) (hs2 : s ≤ 9) (h2 : tkA t (a + 1 + 1) = numS k) (hk : 1 ≤ k) (hk2 : s ≤ k) (hk3 : k ≤ 9) : m_Reader_cut (rs t a d) [.str w] = .ok (.tup [.str w, .int b, .int s, .int k], rs t (a + 1 + 1 + 1) d) := by
  have n := rd_number (t := t) (a := a) (d := d) (lo := -99) (hi := 99) h hb hb2 hb hb2
  have n1 := rd_number (t := t) (a := a + 1) (d := d) (lo := 0) (hi := 9) h1 (by omega) (by omega) hs hs2
  have mx : (if s > 1 then s else 1) = max 1 s := by rw [Int.max_def]; split <;> split <;> omega
  have n2 := rd_number (t := t) (a := a + 1 + 1) (d := d) (lo := if s > 1 then s else 1) (hi := 9) h2 (by omega) (by omega) (by rw [mx]; omega) hk3
  have e := num_noend hs hs2
  rw [← h1] at e
  unfold m_Reader_cut b_Reader_cut
  clear h hb hb2 h1 hs hs2 h2 hk hk2 hk3 mx
  walk_at "rd"
theorem whileF_t {c : FB} {body : FS} {n : Nat} {δ δ2 : DSt} (h : c δ = .ok true) (k : body δ = .nx δ2) : whileF c body (n + 1) δ = whileF c body n δ2 := by
  show O.on (c δ) _ = _
  rw [h, O.on_ok]
  simp only [k]
theorem whileF_f {c : FB} {body : FS} {n : Nat} {δ : DSt} (h : c δ = .ok false) : whileF c body (n + 1) δ = .nx δ := by
  show O.on (c δ) _ = _
  rw [h, O.on_ok]
def isName (n : Str) : Prop := m_is_name [.str n] = .ok (.bl true)
def hd0 : List Str → Str
  | [] => ""
  | x :: _ => x
theorem tk_hd {t : List Str} {a : Nat} {l : List Str} (h : t.drop a = l) : tkA t a = hd0 l := by
  cases l with
  | nil => exact tk_end h
  | cons x r => exact (tk_of h).1
theorem names_loop {t : List Str} {d : Nat} {post : List Str} (he : EndT (hd0 post)) : ∀ (ns : List Str) (a fuel : Nat) (found : List D), t.drop a = ns ++ post → (∀ n ∈ ns, isName n) → ns.length < fuel → found.length + ns.length ≤ 10000 → whileF (fTest (fCall m_is_name (fCons (fView "Reader" "token" 0 m_Reader_token fNil) fNil))) l1_Reader_name_list fuel [ro t a d, .ow found] = .nx [ro t (a + ns.length) d, .ow (found ++ ns.map .str)]
  | _, _, 0, _, _, _, h, _ => absurd h (Nat.not_lt_zero _)
  | [], a, f + 1, found, h, _, _, _ => by
    have e : tkA t a = hd0 post := tk_hd h
    have n := he.noname
    rw [← e] at n
    rw [whileF_f]
    · simp
    · clear h e
      walk_at "rd"
  | n :: ns, a, f + 1, found, h, hn, hf, hl => by
    obtain ⟨e, h2⟩ := tk_of (show t.drop a = n :: (ns ++ post) from h)
    have k : isName n := hn n List.mem_cons_self
    have k2 := k
    unfold isName at k k2
    rw [← e] at k
    have r := rd_name (t := t) (a := a) (d := d) k
    rw [List.length_cons] at hl hf
    have o : okLt found.length = true := okLt_by (by omega)
    have ih := names_loop (d := d) he ns (a + 1) f (found ++ [.str n]) h2 (fun m hm => hn m (List.mem_cons_of_mem _ hm)) (by omega) (by rw [List.length_append, List.length_singleton]; omega)
    rw [whileF_t (δ2 := [ro t (a + 1) d, .ow (found ++ [.str n])]), ih]
    · simp [Nat.add_assoc, Nat.add_comm 1]
    · clear ih h h2 hn
      walk_at "rd"
    · rw [e] at r
      clear ih h h2 hn k k2
      unfold l1_Reader_name_list
      walk_at "rd"
theorem rd_names {t : List Str} {a d : Nat} {post : List Str} {ns : List Str} (h0 : ns ≠ []) (hl : ns.length < 900) (h : t.drop a = ns ++ post) (hn : ∀ n ∈ ns, isName n) (he : EndT (hd0 post)) : m_Reader_name_list (rs t a d) [] = .ok (.tup (ns.map .str), rs t (a + ns.length) d) := by
  cases ns with
  | nil => exact absurd rfl h0
  | cons n ns =>
    obtain ⟨e, h2⟩ := tk_of (show t.drop a = n :: (ns ++ post) from h)
    have k : isName n := hn n List.mem_cons_self
    unfold isName at k
    rw [← e] at k
    have r := rd_name (t := t) (a := a) (d := d) k
    rw [List.length_cons] at hl
    have lp := names_loop (d := d) he ns (a + 1) 1000 [.str n] h2 (fun m hm => hn m (List.mem_cons_of_mem _ hm)) (by omega) (by rw [List.length_singleton]; omega)
    rw [e] at r
    have ea : a + (ns.length + 1) = a + 1 + ns.length := by omega
    rw [List.length_cons, ea]
    clear h h2 hn h0 he k e hl ea
    unfold m_Reader_name_list b_Reader_name_list
    walk_at "rd"
mutual
inductive Pt where
  | pl (w : Str) | put (n : Str) | cut1 (w : Str) (b : Int) | cut3 (w : Str) (b s k : Int) | each (k i : Int) | rep (w : Str) (m : Int) | map (ns : List Str)
  | arm (w : Str) (l r : Rw) | pair (n : Str) (l r : Rw) | short (c : Int) (l r : Rw)
inductive Rw where
  | one (p : Pt) | cons (p : Pt) (r : Rw)
end
mutual
def Pt.enc : Pt → D
  | .pl w => .tup [.str w]
  | .put n => .tup [.str "put", .str n]
  | .cut1 w b => .tup [.str w, .int b, .int 0, .int 1]
  | .cut3 w b s k => .tup [.str w, .int b, .int s, .int k]
  | .each k i => .tup [.str "each", .int k, .int i]
  | .rep w m => .tup [.str w, .int m]
  | .map ns => .tup [.str "map", .tup (ns.map .str)]
  | .arm w l r => .tup [.str w, .tup l.enc, .tup r.enc]
  | .pair n l r => .tup [.str "pair", .str n, .tup l.enc, .tup r.enc]
  | .short c l r => .tup [.str "short", .int c, .tup l.enc, .tup r.enc]
def Rw.enc : Rw → List D
  | .one p => [p.enc]
  | .cons p r => p.enc :: r.enc
end
mutual
/-- the words of a part -/
def Pt.tok : Pt → List Str
  | .pl w => [w]
  | .put n => ["put", n]
  | .cut1 w b => [w, numS b]
  | .cut3 w b s k => [w, numS b, numS s, numS k]
  | .each k i => ["each", numS k, numS i]
  | .rep w m => [w, numS m]
  | .map ns => "map" :: ns
  | .arm w l r => w :: ("(" : Str) :: (l.tok ++ (")" : Str) :: ("(" : Str) :: (r.tok ++ [(")" : Str)]))
  | .pair n l r => "pair" :: n :: ("(" : Str) :: (l.tok ++ (")" : Str) :: ("(" : Str) :: (r.tok ++ [(")" : Str)]))
  | .short c l r => "short" :: numS c :: ("(" : Str) :: (l.tok ++ (")" : Str) :: ("(" : Str) :: (r.tok ++ [(")" : Str)]))
def Rw.tok : Rw → List Str
  | .one p => p.tok
  | .cons p r => p.tok ++ (";" : Str) :: r.tok
end
mutual
def Pt.dep : Pt → Nat
  | .arm _ l r => 1 + max l.dep r.dep
  | .pair _ l r => 1 + max l.dep r.dep
  | .short _ l r => 1 + max l.dep r.dep
  | _ => 0
def Rw.dep : Rw → Nat
  | .one p => p.dep
  | .cons p r => max p.dep r.dep
end
def Rw.len : Rw → Nat
  | .one _ => 1
  | .cons _ r => r.len + 1
mutual
/-- what the reader asks -/
def Pt.Wf : Pt → Prop
  | .pl w => w ∈ z_PLAIN_WORDS
  | .put n => isName n
  | .cut1 w b => w ∈ z_CUT_WORDS ∧ -99 ≤ b ∧ b ≤ 99
  | .cut3 w b s k => w ∈ z_CUT_WORDS ∧ -99 ≤ b ∧ b ≤ 99 ∧ 0 ≤ s ∧ s ≤ 9 ∧ 1 ≤ k ∧ s ≤ k ∧ k ≤ 9
  | .each k i => 1 ≤ k ∧ k ≤ 9 ∧ 0 ≤ i ∧ i < k
  | .rep w m => (w = "times" ∨ w = "again" ∨ w = "turn") ∧ 1 ≤ m ∧ m ≤ 9
  | .map ns => ns ≠ [] ∧ ns.length < 900 ∧ ∀ n ∈ ns, isName n
  | .arm w l r => (w = "join" ∨ w = "weave") ∧ l.Wf ∧ r.Wf
  | .pair n l r => isName n ∧ l.Wf ∧ r.Wf
  | .short c l r => 0 ≤ c ∧ c ≤ 99 ∧ l.Wf ∧ r.Wf
def Rw.Wf : Rw → Prop
  | .one p => p.Wf
  | .cons p r => p.Wf ∧ r.Wf ∧ r.len < 900
end
end LW
namespace LW
open PySem PySem.Spec PyProof.Rows DL
theorem in_arm {w : Str} : dInB (.str w) k_ARM_WORDS = some (decide (w ∈ z_ARM_WORDS)) := dInB_strsT
theorem in_cut {w : Str} : dInB (.str w) k_CUT_WORDS = some (decide (w ∈ z_CUT_WORDS)) := dInB_strsT
theorem at_m2 {a b c : D} : L2.atI [a, b, c] (-2) = some b := rfl
theorem at_m2' {a b c d : D} : L2.atI [a, b, c, d] (-2) = some c := rfl
theorem at_m1' {a b c : D} : L2.atI [a, b, c] (-1) = some c := rfl
theorem at_m1'' {a b c d : D} : L2.atI [a, b, c, d] (-1) = some d := rfl
mutual
def Pt.cnt : Pt → Nat
  | .map ns => ns.length
  | .arm _ l r => 1 + l.cnt + r.cnt
  | .pair _ l r => 1 + l.cnt + r.cnt
  | .short _ l r => 1 + l.cnt + r.cnt
  | .pl _ => 1
  | .put _ => 1
  | .cut1 _ _ => 1
  | .cut3 _ _ _ _ => 1
  | .each _ _ => 1
  | .rep _ _ => 1
def Rw.cnt : Rw → Nat
  | .one p => p.cnt
  | .cons p r => p.cnt + r.cnt
end
def Pt.arms : Pt → List D
  | .arm _ l r => [.tup l.enc, .tup r.enc]
  | .pair _ l r => [.tup l.enc, .tup r.enc]
  | .short _ l r => [.tup l.enc, .tup r.enc]
  | _ => []
def Pt.las (s : DS) : Pt → DS
  | .arm _ l r => .fz (.tup r.enc)
  | .pair _ l r => .fz (.tup r.enc)
  | .short _ l r => .fz (.tup r.enc)
  | _ => s
local macro_rules | `(tactic| walk_at "call") => `(tactic| first | exact in_arm | exact in_cut | exact at_m2 | exact at_m2' | exact at_m1' | exact at_m1'')
theorem arms_no {w : Str} {ds : List D} (h : w ∉ z_ARM_WORDS) : m_arms_of [.tup (.str w :: ds)] = .ok (.tup []) := by
  unfold m_arms_of b_arms_of
  walk_at "go"
theorem arms_3 {w : Str} {a b : D} (h : w ∈ z_ARM_WORDS) : m_arms_of [.tup [.str w, a, b]] = .ok (.tup [a, b]) := by
  unfold m_arms_of b_arms_of
  walk_at "go"
theorem arms_4 {w : Str} {a b c : D} (h : w ∈ z_ARM_WORDS) : m_arms_of [.tup [.str w, a, b, c]] = .ok (.tup [b, c]) := by
  unfold m_arms_of b_arms_of
  walk_at "go"
theorem plain_of {w : Str} (h : w ∈ z_PLAIN_WORDS) : w = "same" ∨ w = "none" ∨ w = "reverse" := by
  rcases List.mem_cons.mp h with rfl | h
  · exact .inl rfl
  · rcases List.mem_cons.mp h with rfl | h
    · exact .inr (.inl rfl)
    · exact .inr (.inr (List.mem_singleton.mp h))
theorem cut_of {w : Str} (h : w ∈ z_CUT_WORDS) : w = "take" ∨ w = "drop" := by
  rcases List.mem_cons.mp h with rfl | h
  · exact .inl rfl
  · exact .inr (List.mem_singleton.mp h)
theorem arms_ok : ∀ {p : Pt}, p.Wf → m_arms_of [p.enc] = .ok (.tup p.arms)
  | .pl w, h => by rw [Pt.enc]; rw [Pt.Wf] at h; exact arms_no (by rcases plain_of h with rfl | rfl | rfl <;> decide +kernel)
  | .put n, h => by rw [Pt.enc]; exact arms_no (by decide +kernel)
  | .cut1 w b, h => by rw [Pt.enc]; rw [Pt.Wf] at h; exact arms_no (by rcases cut_of h.1 with rfl | rfl <;> decide +kernel)
  | .cut3 w b s k, h => by rw [Pt.enc]; rw [Pt.Wf] at h; exact arms_no (by rcases cut_of h.1 with rfl | rfl <;> decide +kernel)
  | .each k i, h => by rw [Pt.enc]; exact arms_no (by decide +kernel)
  | .rep w m, h => by rw [Pt.enc]; rw [Pt.Wf] at h; exact arms_no (by rcases h.1 with rfl | rfl | rfl <;> decide +kernel)
  | .map ns, h => by rw [Pt.enc]; exact arms_no (by decide +kernel)
  | .arm w l r, h => by rw [Pt.enc]; rw [Pt.Wf] at h; exact arms_3 (by rcases h.1 with rfl | rfl <;> decide +kernel)
  | .pair n l r, h => by rw [Pt.enc]; exact arms_4 (by decide +kernel)
  | .short c l r, h => by rw [Pt.enc]; exact arms_4 (by decide +kernel)
theorem nx_int {T U : Int} {s0 : DS} {r : DSt} (h : T = U) : O.nx (s0 :: .fz (.int T) :: r) = O.nx (s0 :: .fz (.int U) :: r) := by rw [h]
theorem cnt_b0 {rc : List D → R D} {s0 s3 : DS} {T : Int} {w : Str} {ds : List D} (hm : dEqB (.str w) (.str (Str.ofString "map")) = some false) (ha : m_arms_of [.tup (.str w :: ds)] = .ok (.tup [])) : l2_count_parts rc [s0, .fz (.int T), .fz (.tup (.str w :: ds)), s3] = .nx [s0, .fz (.int (T + 1)), .fz (.tup (.str w :: ds)), s3] := by
  unfold l2_count_parts l1_count_parts
  walk_at "go"
theorem cnt_b2 {rc : List D → R D} {s0 s3 : DS} {T i j : Int} {w : Str} {ds : List D} {a b : D} (hm : dEqB (.str w) (.str (Str.ofString "map")) = some false) (ha : m_arms_of [.tup (.str w :: ds)] = .ok (.tup [a, b])) (h1 : rc [a] = .ok (.int i)) (h2 : rc [b] = .ok (.int j)) : l2_count_parts rc [s0, .fz (.int T), .fz (.tup (.str w :: ds)), s3] = .nx [s0, .fz (.int (T + 1 + i + j)), .fz (.tup (.str w :: ds)), .fz b] := by
  unfold l2_count_parts l1_count_parts
  walk_at "go"
theorem cnt_bm {rc : List D → R D} {s0 s3 : DS} {T : Int} {ns : List D} (ha : m_arms_of [.tup [.str "map", .tup ns]] = .ok (.tup [])) : l2_count_parts rc [s0, .fz (.int T), .fz (.tup [.str "map", .tup ns]), s3] = .nx [s0, .fz (.int (T + ns.length)), .fz (.tup [.str "map", .tup ns]), s3] := by
  unfold l2_count_parts l1_count_parts
  walk_at "go"
def isMap (w : Str) : Option Bool := dEqB (.str w) (.str (Str.ofString "map"))
theorem cnt_body {rc : List D → R D} {s0 s3 : DS} {T : Int} {N : Nat} (hr : ∀ a : Rw, a.Wf → a.dep + 1 ≤ N → rc [.tup a.enc] = .ok (.int a.cnt)) : ∀ {p : Pt}, p.Wf → p.dep ≤ N → ∃ s3', l2_count_parts rc [s0, .fz (.int T), .fz p.enc, s3] = .nx [s0, .fz (.int (T + p.cnt)), .fz p.enc, s3']
  | .pl w, h, _ => ⟨_, by
    have ha := arms_ok h
    rw [Pt.enc] at *
    rw [Pt.Wf] at h
    exact cnt_b0 (by rcases plain_of h with rfl | rfl | rfl <;> kernel_rfl) ha⟩
  | .put n, h, _ => ⟨_, by
    have ha := arms_ok h
    rw [Pt.enc] at *
    exact cnt_b0 (by kernel_rfl) ha⟩
  | .cut1 w b, h, _ => ⟨_, by
    have ha := arms_ok h
    rw [Pt.enc] at *
    rw [Pt.Wf] at h
    exact cnt_b0 (by rcases cut_of h.1 with rfl | rfl <;> kernel_rfl) ha⟩
  | .cut3 w b s k, h, _ => ⟨_, by
    have ha := arms_ok h
    rw [Pt.enc] at *
    rw [Pt.Wf] at h
    exact cnt_b0 (by rcases cut_of h.1 with rfl | rfl <;> kernel_rfl) ha⟩
  | .each k i, h, _ => ⟨_, by
    have ha := arms_ok h
    rw [Pt.enc] at *
    exact cnt_b0 (by kernel_rfl) ha⟩
  | .rep w m, h, _ => ⟨_, by
    have ha := arms_ok h
    rw [Pt.enc] at *
    rw [Pt.Wf] at h
    exact cnt_b0 (by rcases h.1 with rfl | rfl | rfl <;> kernel_rfl) ha⟩
  | .map ns, h, _ => ⟨_, by
    have ha := arms_ok h
    rw [Pt.enc] at *
    have := cnt_bm (rc := rc) (s0 := s0) (s3 := s3) (T := T) ha
    rw [List.length_map] at this
    exact this⟩
  | .arm w l r, h, hd => ⟨_, by
    have ha := arms_ok h
    rw [Pt.Wf] at h
    rw [Pt.dep] at hd
    have h1 := hr l h.2.1 (by omega)
    have h2 := hr r h.2.2 (by omega)
    rw [Pt.enc] at *
    rw [Pt.arms] at ha
    rw [cnt_b2 (by rcases h.1 with rfl | rfl <;> kernel_rfl) ha h1 h2, Pt.cnt]
    exact nx_int (by omega)⟩
  | .pair n l r, h, hd => ⟨_, by
    have ha := arms_ok h
    rw [Pt.Wf] at h
    rw [Pt.dep] at hd
    have h1 := hr l h.2.1 (by omega)
    have h2 := hr r h.2.2 (by omega)
    rw [Pt.enc] at *
    rw [Pt.arms] at ha
    rw [cnt_b2 (by kernel_rfl) ha h1 h2, Pt.cnt]
    exact nx_int (by omega)⟩
  | .short c l r, h, hd => ⟨_, by
    have ha := arms_ok h
    rw [Pt.Wf] at h
    rw [Pt.dep] at hd
    have h1 := hr l h.2.2.1 (by omega)
    have h2 := hr r h.2.2.2 (by omega)
    rw [Pt.enc] at *
    rw [Pt.arms] at ha
    rw [cnt_b2 (by kernel_rfl) ha h1 h2, Pt.cnt]
    exact nx_int (by omega)⟩
theorem cnt_loop {rc : List D → R D} {s0 : DS} {N : Nat} (hr : ∀ a : Rw, a.Wf → a.dep + 1 ≤ N → rc [.tup a.enc] = .ok (.int a.cnt)) : ∀ (r : Rw) (T : Int) (s2 s3 : DS), r.Wf → r.dep ≤ N → ∃ s2' s3', loopF (pName 2) (l2_count_parts rc) r.enc [s0, .fz (.int T), s2, s3] = .nx [s0, .fz (.int (T + r.cnt)), s2', s3']
  | .one p, T, s2, s3, h, hd => by
    rw [Rw.Wf] at h; rw [Rw.dep] at hd
    obtain ⟨s3', e⟩ := cnt_body (s0 := s0) (s3 := s3) (T := T) hr h hd
    exact ⟨_, s3', by rw [Rw.enc, loopF_nx (put := pName 2) rfl e, Rw.cnt]; rfl⟩
  | .cons p r, T, s2, s3, h, hd => by
    rw [Rw.Wf] at h; rw [Rw.dep] at hd
    obtain ⟨s3', e⟩ := cnt_body (s0 := s0) (s3 := s3) (T := T) hr h.1 (by omega)
    obtain ⟨s2'', s3'', e2⟩ := cnt_loop hr r (T + p.cnt) (.fz p.enc) s3' h.2.1 (by omega)
    exact ⟨s2'', s3'', by rw [Rw.enc, loopF_nx (put := pName 2) rfl e, e2, Rw.cnt]; exact nx_int (by omega)⟩
theorem cnt_ok : ∀ (n : Nat) (r : Rw), r.Wf → r.dep + 1 ≤ n → m_count_parts n [.tup r.enc] = .ok (.int r.cnt)
  | 0, _, _, h => absurd h (by omega)
  | n + 1, r, h, hd => by
    obtain ⟨s2, s3, e⟩ := cnt_loop (s0 := .fz (.tup r.enc)) (fun a => cnt_ok n a) r 0 .un .un h (by omega)
    show runD 4 (b_count_parts (m_count_parts n)) _ = _
    rw [Int.zero_add] at e
    generalize r.enc = xs at *
    unfold b_count_parts
    walk_at "go"
end LW
namespace LW
open PySem PySem.Spec PyProof.Rows DL
def Pt.rws : Pt → List Rw
  | .arm _ l r => [l, r]
  | .pair _ l r => [l, r]
  | .short _ l r => [l, r]
  | _ => []
theorem arms_e {p : Pt} : p.arms = p.rws.map fun r => D.tup r.enc := by cases p <;> rfl
theorem rws_wf : ∀ {p : Pt}, p.Wf → ∀ r ∈ p.rws, r.Wf ∧ r.dep + 1 ≤ p.dep
  | .pl w, h, r, hr => by cases hr
  | .put n, h, r, hr => by cases hr
  | .cut1 w b, h, r, hr => by cases hr
  | .cut3 w b s k, h, r, hr => by cases hr
  | .each k i, h, r, hr => by cases hr
  | .rep w m, h, r, hr => by cases hr
  | .map ns, h, r, hr => by cases hr
  | .arm w l r', h, r, hr => by
    rw [Pt.Wf] at h
    rw [Pt.dep]
    rcases List.mem_cons.mp hr with rfl | hr
    · exact ⟨h.2.1, by omega⟩
    · rw [List.mem_singleton.mp hr]; exact ⟨h.2.2, by omega⟩
  | .pair n l r', h, r, hr => by
    rw [Pt.Wf] at h
    rw [Pt.dep]
    rcases List.mem_cons.mp hr with rfl | hr
    · exact ⟨h.2.1, by omega⟩
    · rw [List.mem_singleton.mp hr]; exact ⟨h.2.2, by omega⟩
  | .short n l r', h, r, hr => by
    rw [Pt.Wf] at h
    rw [Pt.dep]
    rcases List.mem_cons.mp hr with rfl | hr
    · exact ⟨h.2.2.1, by omega⟩
    · rw [List.mem_singleton.mp hr]; exact ⟨h.2.2.2, by omega⟩
theorem dep_arms {rc : List D → R D} {s0 s2 : DS} : ∀ (as : List Rw) (T : Int) (s3 : DS), (∀ a ∈ as, rc [.tup a.enc] = .ok (.int a.dep)) → ∃ s3', loopF (pName 3) (l1_depth_of rc) (as.map fun a => D.tup a.enc) [s0, .fz (.int T), s2, s3] = .nx [s0, .fz (.int (as.foldl (fun t a => max t (1 + (a.dep : Int))) T)), s2, s3']
  | [], T, s3, _ => ⟨s3, rfl⟩
  | a :: as, T, s3, h => by
    have h1 := h a List.mem_cons_self
    obtain ⟨s3', ih⟩ := dep_arms as (max T (1 + (a.dep : Int))) (.fz (.tup a.enc)) (fun b hb => h b (List.mem_cons_of_mem _ hb))
    refine ⟨s3', ?_⟩
    rw [List.foldl_cons, List.map_cons]
    unfold l1_depth_of at *
    walk_at "go"
theorem dep_fold (p : Pt) (T : Int) (h : 0 ≤ T) : p.rws.foldl (fun t a => max t (1 + (a.dep : Int))) T = max T p.dep := by
  cases p <;> simp only [Pt.rws, Pt.dep, List.foldl_cons, List.foldl_nil] <;> omega
theorem dep_loop {rc : List D → R D} {s0 : DS} {N : Nat} (hr : ∀ a : Rw, a.Wf → a.dep + 1 ≤ N → rc [.tup a.enc] = .ok (.int a.dep)) : ∀ (r : Rw) (T : Int) (s2 s3 : DS), 0 ≤ T → r.Wf → r.dep ≤ N → ∃ s2' s3', loopF (pName 2) (l2_depth_of rc) r.enc [s0, .fz (.int T), s2, s3] = .nx [s0, .fz (.int (max T r.dep)), s2', s3'] := by
  have body : ∀ (p : Pt) (T : Int) (s3 : DS), 0 ≤ T → p.Wf → p.dep ≤ N → ∃ s3', l2_depth_of rc [s0, .fz (.int T), .fz p.enc, s3] = .nx [s0, .fz (.int (max T p.dep)), .fz p.enc, s3'] := fun p T s3 hT h hd => by
    have ha := arms_ok h
    rw [arms_e] at ha
    obtain ⟨s3', e⟩ := dep_arms (rc := rc) (s0 := s0) (s2 := .fz p.enc) p.rws T s3 (fun a ham => by
      have := rws_wf h a ham
      exact hr a this.1 (by omega))
    rw [dep_fold p T hT] at e
    refine ⟨s3', ?_⟩
    clear hr
    unfold l2_depth_of
    walk_at "go"
  intro r
  induction r using Rw.rec (motive_1 := fun _ => True) with
  | one p _ =>
    intro T s2 s3 hT h hd
    rw [Rw.Wf] at h; rw [Rw.dep] at hd
    obtain ⟨s3', e⟩ := body p T s3 hT h hd
    exact ⟨_, s3', by rw [Rw.enc, loopF_nx (put := pName 2) rfl e, Rw.dep]; rfl⟩
  | cons p r _ ih =>
    intro T s2 s3 hT h hd
    rw [Rw.Wf] at h; rw [Rw.dep] at hd
    obtain ⟨s3', e⟩ := body p T s3 hT h.1 (by omega)
    obtain ⟨s2'', s3'', e2⟩ := ih (max T p.dep) (.fz p.enc) s3' (by omega) h.2.1 (by omega)
    exact ⟨s2'', s3'', by rw [Rw.enc, loopF_nx (put := pName 2) rfl e, e2, Rw.dep]; exact nx_int (by omega)⟩
  | _ => trivial
theorem dep_ok : ∀ (n : Nat) (r : Rw), r.Wf → r.dep + 1 ≤ n → m_depth_of n [.tup r.enc] = .ok (.int r.dep)
  | 0, _, _, h => absurd h (by omega)
  | n + 1, r, h, hd => by
    obtain ⟨s2, s3, e⟩ := dep_loop (s0 := .fz (.tup r.enc)) (fun a => dep_ok n a) r 0 .un .un (by omega) h (by omega)
    show runD 4 (b_depth_of (m_depth_of n)) _ = _
    rw [show max (0 : Int) r.dep = r.dep by omega] at e
    generalize r.enc = xs at *
    unfold b_depth_of
    walk_at "go"
end LW
namespace LW
open PySem PySem.Spec PyProof.Rows DL
structure Nb where
  (p d m s h e g l : Int)
abbrev Nb.enc (n : Nb) : D := .obj (Str.ofString "Numbers") [.int n.p, .int n.d, .int n.m, .int n.s, .int n.h, .int n.e, .int n.g, .int n.l]
abbrev Nb.row (n : Nb) : List D := [.int n.p, .int n.d, .int n.m, .int n.s, .int n.h, .int n.e, .int n.g, .int n.l]
abbrev lcI (a b : Int) : Int := (Nat.lcm a.natAbs b.natAbs : Nat)
abbrev lcI3 (a b c : Int) : Int := (Nat.lcm (Nat.lcm a.natAbs b.natAbs) c.natAbs : Nat)
def Nb.or (a b : Nb) : Nb := ⟨lcI a.p b.p, lcI a.d b.d, lcI3 a.m b.m (lcI a.d b.d * lcI a.p b.p), a.s + b.s, lcI a.h b.h, lcI a.e b.e, a.g + b.g, max a.l b.l⟩
def Nb.regular (a : Nb) : Int := a.d * (a.s + 2 * a.p) + 1
def Nb.enough (a : Nb) : Int := a.regular + 2 * a.m
def Nb.settled (a : Nb) : Int := a.d * a.s + 1
structure Nb.Lm (a : Nb) : Prop where
  p : lim 64 a.p = true
  d : lim 64 a.d = true
  m : lim 64 a.m = true
  h : lim 64 a.h = true
  e : lim 64 a.e = true
theorem Nb.or_ok {a b : Nb} (ha : a.Lm) (hb : b.Lm) (hd : lim 64 (lcI a.d b.d) = true) (hm : lim 64 (lcI a.d b.d * lcI a.p b.p) = true) : m_Numbers___or__ [a.enc, b.enc] = .ok (a.or b).enc := by
  obtain ⟨p1, d1, m1, h1, e1⟩ := ha
  obtain ⟨p2, d2, m2, h2, e2⟩ := hb
  unfold m_Numbers___or__ b_Numbers___or__
  walk_at "go"
  rfl
end LW
namespace LW
open PySem PySem.Spec PyProof.Rows DL
abbrev gcI (a b : Int) : Int := (Nat.gcd a.natAbs b.natAbs : Nat)
abbrev abI (i : Int) : Int := if i < 0 then -i else i
def ruI (a b : Int) : Int := (a + b - 1) / b
def Nb.one : Nb := ⟨1, 1, 1, 0, 1, 1, 1, 1⟩
def Nb.cut (o : Nb) (b k : Int) : Nb := ⟨o.p, o.d * k, lcI o.m (o.d * k * o.p), o.s + ruI (max (abI b) (abI (b - k + 1))) k, o.h, o.e, o.g, o.l⟩
def Nb.each (o : Nb) (k : Int) : Nb := ⟨o.p / gcI o.p k, o.d * k, lcI o.m (o.d * lcI o.p k), ruI (o.s + k - 1) k, o.h * k, o.e, o.g, o.l⟩
def Nb.times (o : Nb) (m : Int) : Nb := ⟨m * o.p, o.d, lcI o.m (o.d * (m * o.p)), m * o.s, o.h, m * o.e, m * o.g, o.l⟩
def Nb.again (o : Nb) (m : Int) : Nb := ⟨o.p, o.d, o.m, m * o.s, o.h, o.e, m * o.g, o.l⟩
def Nb.turn (o : Nb) (k : Int) : Nb := ⟨lcI o.p k, o.d, lcI o.m (o.d * lcI o.p k), o.s + 2 * (k - 1), o.h, o.e, o.g, o.l⟩
def Nb.wv (b : Nb) : Nb := ⟨2 * b.p, b.d, lcI b.m (b.d * (2 * b.p)), 2 * b.s, b.h, 2 * b.e, b.g, b.l⟩
def Nb.pr (a b : Nb) : Nb := ⟨(a.or b).p, (a.or b).d, (a.or b).m, (a.or b).s, (a.or b).h, (a.or b).e, (a.or b).g, a.l + b.l⟩
def Nb.sht (b o : Nb) (c : Int) : Nb := ⟨b.p, lcI b.d o.d, lcI3 b.m o.m (lcI b.d o.d * b.p), max b.s (o.s + c), b.h, b.e, b.g, b.l⟩
def Nb.ck (n : Nb) : Except Str Nb := if n.g > 16 then .error "growth" else if n.l > 8 then .error "leaves" else if n.enough > 200 then .error "enough" else .ok n
mutual
def Pt.bh : Pt → Nb → Except Str Nb
  | .pl w, o => .ok (if w = "none" then .one else o)
  | .put _, _ => .ok { Nb.one with s := 1 }
  | .cut1 _ b, o => .ok (o.cut b 1)
  | .cut3 _ b _ k, o => .ok (o.cut b k)
  | .each k _, o => .ok (o.each k)
  | .rep w m, o => .ok (if w = "times" then o.times m else if w = "again" then o.again m else o.turn m)
  | .map _, o => .ok o
  | .arm w l r, o => match l.ms o with
    | .error e => .error e
    | .ok a => match r.ms o with
      | .error e => .error e
      | .ok b => .ok (if w = "weave" then (a.or b).wv else a.or b)
  | .pair _ l r, o => match l.ms o with
    | .error e => .error e
    | .ok a => match r.ms o with
      | .error e => .error e
      | .ok b => .ok (a.pr b)
  | .short c l r, o => match l.ms o with
    | .error e => .error e
    | .ok a => match r.ms o with
      | .error e => .error e
      | .ok b => .ok ((a.or b).sht o c)
def Rw.ms : Rw → Nb → Except Str Nb
  | .one p, o => match p.bh o with
    | .error e => .error e
    | .ok n => n.ck
  | .cons p r, o => match p.bh o with
    | .error e => .error e
    | .ok n => match n.ck with
      | .error e => .error e
      | .ok n => r.ms n
end
def rE : Except Str Nb → R D
  | .ok n => .ok n.enc
  | .error w => .exc "TooLarge" [.str w]
structure Nb.Un (n : Nb) : Prop where
  p : 0 < n.p ∧ n.p ≤ 10000000
  d : 0 < n.d ∧ n.d ≤ 10000000
  m : 0 < n.m
  s : 0 ≤ n.s
  h : 0 < n.h ∧ n.h ∣ n.d
  e : 0 < n.e ∧ n.e.toNat ≤ 2 ^ (n.g.toNat - 1)
  g : 0 < n.g
  l : 0 < n.l
structure Nb.Ck (n : Nb) : Prop where
  u : n.Un
  p : n.p ≤ 200
  d : n.d ≤ 200
  m : n.m ≤ 200
  s : n.s ≤ 200
  h : n.h ≤ 200
  e : n.e ≤ 32768
  g : n.g ≤ 16
  l : n.l ≤ 8
theorem Nb.ck_ok {n k : Nb} (h : n.ck = .ok k) (u : n.Un) : k.Ck := by
  unfold Nb.ck at h
  by_cases c1 : n.g > 16
  · rw [if_pos c1] at h; cases h
  · rw [if_neg c1] at h
    by_cases c2 : n.l > 8
    · rw [if_pos c2] at h; cases h
    · rw [if_neg c2] at h
      by_cases c3 : n.enough > 200
      · rw [if_pos c3] at h; cases h
      · rw [if_neg c3] at h
        cases h
        unfold Nb.enough Nb.regular at c3
        have up := u.p; have ud := u.d; have um := u.m; have us := u.s; have uh := u.h; have ue := u.e; have ug := u.g
        have a1 : 1 * (n.s + 2 * n.p) ≤ n.d * (n.s + 2 * n.p) := Int.mul_le_mul_of_nonneg_right (by omega) (by omega)
        have a2 : n.d * 2 ≤ n.d * (n.s + 2 * n.p) := Int.mul_le_mul_of_nonneg_left (by omega) (by omega)
        have a3 := Int.le_of_dvd ud.1 uh.2
        have a4 : 2 ^ (n.g.toNat - 1) ≤ 2 ^ 15 := Nat.pow_le_pow_right (by decide) (by omega)
        generalize n.d * (n.s + 2 * n.p) = z at *
        exact ⟨u, by omega, by omega, by omega, by omega, by omega, by omega, by omega, by omega⟩
theorem lcI_pos' {a b : Int} (ha : 0 < a) (hb : 0 < b) : 0 < lcI a b := by
  have := Nat.lcm_pos (m := a.natAbs) (n := b.natAbs) (by omega) (by omega)
  show (0 : Int) < (Nat.lcm a.natAbs b.natAbs : Nat)
  omega
theorem lcI_le' {a b : Int} {c d : Nat} (ha : 0 < a) (hb : 0 < b) (la : a ≤ c) (lb : b ≤ d) : lcI a b ≤ (c * d : Nat) := by
  show ((Nat.lcm a.natAbs b.natAbs : Nat) : Int) ≤ _
  refine Int.ofNat_le.mpr (Nat.le_trans (Nat.le_of_dvd (Nat.mul_pos (by omega) (by omega)) (Nat.lcm_dvd_mul _ _)) (Nat.mul_le_mul (by omega) (by omega)))
theorem mul_le' {a b : Int} {c d : Nat} (ha : 0 < a) (hb : 0 < b) (la : a ≤ c) (lb : b ≤ d) : a * b ≤ (c * d : Nat) := by
  have := Int.mul_le_mul la lb (Int.le_of_lt hb) (by omega)
  rwa [Int.natCast_mul]
theorem lcI_dvd_lcI {a b c d : Int} (h : a ∣ c) (k : b ∣ d) : lcI a b ∣ lcI c d := by
  refine Int.natAbs_dvd_natAbs.mp ?_
  show (((Nat.lcm a.natAbs b.natAbs : Nat) : Int)).natAbs ∣ (((Nat.lcm c.natAbs d.natAbs : Nat) : Int)).natAbs
  rw [Int.natAbs_natCast, Int.natAbs_natCast]
  exact Nat.lcm_dvd (Nat.dvd_trans (Int.natAbs_dvd_natAbs.mpr h) (Nat.dvd_lcm_left _ _)) (Nat.dvd_trans (Int.natAbs_dvd_natAbs.mpr k) (Nat.dvd_lcm_right _ _))
theorem dvd_lcIl (a b : Int) : a ∣ lcI a b := by
  refine Int.natAbs_dvd_natAbs.mp ?_
  show a.natAbs ∣ ((Nat.lcm a.natAbs b.natAbs : Nat) : Int).natAbs
  rw [Int.natAbs_natCast]
  exact Nat.dvd_lcm_left _ _
theorem lc3_e {a b c : Int} : lcI3 a b c = lcI (lcI a b) c := by
  show ((Nat.lcm (Nat.lcm a.natAbs b.natAbs) _ : Nat) : Int) = ((Nat.lcm (Int.natAbs ((Nat.lcm a.natAbs b.natAbs : Nat) : Int)) _ : Nat) : Int)
  rw [Int.natAbs_natCast]
theorem Nb.one_un : Nb.one.Un := ⟨by decide, by decide, by decide, by decide, ⟨by decide, Int.dvd_refl _⟩, by decide, by decide, by decide⟩
theorem Nb.one_ck : Nb.one.Ck := ⟨Nb.one_un, by decide, by decide, by decide, by decide, by decide, by decide, by decide, by decide⟩
theorem Nb.one1_un : ({ Nb.one with s := 1 } : Nb).Un := ⟨by decide, by decide, by decide, by decide, ⟨by decide, Int.dvd_refl _⟩, by decide, by decide, by decide⟩
theorem ru_nn {a b : Int} (h : 0 ≤ a) (k : 0 < b) : 0 ≤ ruI a b := Int.ediv_nonneg (by omega) (by omega)
theorem e_mul {m e g : Int} (hm : 1 ≤ m) (he : 0 < e) (hg : 0 < g) (h : e.toNat ≤ 2 ^ (g.toNat - 1)) : (m * e).toNat ≤ 2 ^ ((m * g).toNat - 1) := by
  obtain ⟨m', rfl⟩ := Int.eq_ofNat_of_zero_le (show 0 ≤ m by omega)
  obtain ⟨e', rfl⟩ := Int.eq_ofNat_of_zero_le (show 0 ≤ e by omega)
  obtain ⟨g', rfl⟩ := Int.eq_ofNat_of_zero_le (show 0 ≤ g by omega)
  rw [← Int.natCast_mul, ← Int.natCast_mul, Int.toNat_natCast, Int.toNat_natCast]
  rw [Int.toNat_natCast, Int.toNat_natCast] at h
  have h1 : m' ≤ 2 ^ (m' - 1) := by
    have := Nat.lt_two_pow_self (n := m' - 1)
    omega
  have h2 : m' - 1 + (g' - 1) ≤ m' * g' - 1 := by
    obtain ⟨a, rfl⟩ : ∃ a, m' = a + 1 := ⟨m' - 1, by omega⟩
    obtain ⟨b, rfl⟩ : ∃ b, g' = b + 1 := ⟨g' - 1, by omega⟩
    rw [Nat.add_mul, Nat.mul_add, Nat.one_mul]
    generalize a * b = z
    omega
  calc m' * e' ≤ 2 ^ (m' - 1) * 2 ^ (g' - 1) := Nat.mul_le_mul h1 h
    _ = 2 ^ (m' - 1 + (g' - 1)) := (Nat.pow_add ..).symm
    _ ≤ _ := Nat.pow_le_pow_right (by decide) h2
theorem e_lcm {a b g k : Int} (ha : 0 < a) (hb : 0 < b) (hg : 0 < g) (hk : 0 < k) (h1 : a.toNat ≤ 2 ^ (g.toNat - 1)) (h2 : b.toNat ≤ 2 ^ (k.toNat - 1)) : 2 * (lcI a b).toNat ≤ 2 ^ ((g + k).toNat - 1) := by
  have l := lcI_le' ha hb (c := a.toNat) (d := b.toNat) (by omega) (by omega)
  have l2 : (lcI a b).toNat ≤ a.toNat * b.toNat := by omega
  have l3 : a.toNat * b.toNat ≤ 2 ^ (g.toNat - 1) * 2 ^ (k.toNat - 1) := Nat.mul_le_mul h1 h2
  rw [← Nat.pow_add] at l3
  have e : (g + k).toNat - 1 = (g.toNat - 1 + (k.toNat - 1)) + 1 := by omega
  rw [e, Nat.pow_succ]
  omega
theorem Nb.Ck.cut {o : Nb} (h : o.Ck) {b k : Int} (hk : 1 ≤ k) (hk2 : k ≤ 9) : (o.cut b k).Un := by
  have up := h.u.p; have ud := h.u.d; have um := h.u.m; have us := h.u.s
  have d1 := Int.mul_pos ud.1 (show 0 < k by omega)
  have d2 := mul_le' ud.1 (show 0 < k by omega) (c := 200) (d := 9) h.d hk2
  have m1 := Int.mul_pos d1 up.1
  unfold Nb.cut
  exact ⟨up, ⟨d1, by dsimp only; omega⟩, lcI_pos' um m1, by have := ru_nn (a := max (abI b) (abI (b - k + 1))) (b := k) (by unfold abI; split <;> omega) (by omega); dsimp only; omega, ⟨h.u.h.1, Int.dvd_trans h.u.h.2 (Int.dvd_mul_right _ _)⟩, h.u.e, h.u.g, h.u.l⟩
theorem gcI_pos {a b : Int} (ha : 0 < a) : 0 < gcI a b := by
  have := Nat.gcd_pos_of_pos_left (m := a.natAbs) b.natAbs (by omega)
  show (0 : Int) < (Nat.gcd a.natAbs b.natAbs : Nat)
  omega
theorem gcI_le {a b : Int} (ha : 0 < a) : gcI a b ≤ a := by
  have := Nat.gcd_le_left (m := a.natAbs) b.natAbs (by omega)
  show ((Nat.gcd a.natAbs b.natAbs : Nat) : Int) ≤ a
  omega
theorem Nb.Ck.each {o : Nb} (h : o.Ck) {k : Int} (hk : 1 ≤ k) (hk2 : k ≤ 9) : (o.each k).Un := by
  have up := h.u.p; have ud := h.u.d; have um := h.u.m; have us := h.u.s
  have d1 := Int.mul_pos ud.1 (show 0 < k by omega)
  have d2 := mul_le' ud.1 (show 0 < k by omega) (c := 200) (d := 9) h.d hk2
  have lp := lcI_pos' up.1 (show 0 < k by omega)
  have m1 := Int.mul_pos ud.1 lp
  have g1 := gcI_pos (b := k) up.1
  have g2 := gcI_le (b := k) up.1
  have q1 : 0 < o.p / gcI o.p k := Int.ediv_pos_of_pos_of_dvd up.1 (by omega) (Int.natAbs_dvd_natAbs.mp (by show ((Nat.gcd o.p.natAbs k.natAbs : Nat) : Int).natAbs ∣ _; rw [Int.natAbs_natCast]; exact Nat.gcd_dvd_left _ _))
  have q2 : o.p / gcI o.p k ≤ o.p := Int.ediv_le_self _ (by omega)
  unfold Nb.each
  exact ⟨⟨q1, by dsimp only; omega⟩, ⟨d1, by dsimp only; omega⟩, lcI_pos' um m1, ru_nn (by omega) (by omega), ⟨Int.mul_pos h.u.h.1 (by omega), Int.mul_dvd_mul h.u.h.2 (Int.dvd_refl _)⟩, h.u.e, h.u.g, h.u.l⟩
theorem Nb.Ck.times {o : Nb} (h : o.Ck) {m : Int} (hk : 1 ≤ m) (hk2 : m ≤ 9) : (o.times m).Un := by
  have up := h.u.p; have ud := h.u.d; have um := h.u.m; have us := h.u.s
  have d1 := Int.mul_pos (show 0 < m by omega) up.1
  have d2 := mul_le' (show 0 < m by omega) up.1 (c := 9) (d := 200) hk2 h.p
  have m1 := Int.mul_pos ud.1 d1
  unfold Nb.times
  exact ⟨⟨d1, by dsimp only; omega⟩, ud, lcI_pos' um m1, Int.mul_nonneg (by omega) us, h.u.h, ⟨Int.mul_pos (by omega) h.u.e.1, e_mul hk h.u.e.1 h.u.g h.u.e.2⟩, Int.mul_pos (by omega) h.u.g, h.u.l⟩
theorem Nb.Ck.again {o : Nb} (h : o.Ck) {m : Int} (hk : 1 ≤ m) (hk2 : m ≤ 9) : (o.again m).Un := by
  have us := h.u.s
  have e2 : o.e.toNat ≤ 2 ^ ((m * o.g).toNat - 1) := by
    refine Nat.le_trans h.u.e.2 (Nat.pow_le_pow_right (by decide) ?_)
    have : 1 * o.g ≤ m * o.g := Int.mul_le_mul_of_nonneg_right hk (by have := h.u.g; omega)
    omega
  unfold Nb.again
  exact ⟨h.u.p, h.u.d, h.u.m, Int.mul_nonneg (by omega) us, h.u.h, ⟨h.u.e.1, e2⟩, Int.mul_pos (by omega) h.u.g, h.u.l⟩
theorem Nb.Ck.turn {o : Nb} (h : o.Ck) {k : Int} (hk : 1 ≤ k) (hk2 : k ≤ 9) : (o.turn k).Un := by
  have up := h.u.p; have ud := h.u.d; have um := h.u.m; have us := h.u.s
  have d1 := lcI_pos' up.1 (show 0 < k by omega)
  have d2 := lcI_le' up.1 (show 0 < k by omega) (c := 200) (d := 9) h.p hk2
  have m1 := Int.mul_pos ud.1 d1
  unfold Nb.turn
  exact ⟨⟨d1, by dsimp only; omega⟩, ud, lcI_pos' um m1, by dsimp only; omega, h.u.h, h.u.e, h.u.g, h.u.l⟩
structure Nb.Or (n : Nb) : Prop where
  u : n.Un
  p : n.p ≤ 40000
  d : n.d ≤ 40000
  m : n.m ≤ 64000000000000
  e : 2 * n.e.toNat ≤ 2 ^ (n.g.toNat - 1)
theorem Nb.Ck.or {a b : Nb} (h : a.Ck) (k : b.Ck) : (a.or b).Or := by
  have p1 := lcI_pos' h.u.p.1 k.u.p.1
  have p2 := lcI_le' h.u.p.1 k.u.p.1 (c := 200) (d := 200) h.p k.p
  have d1 := lcI_pos' h.u.d.1 k.u.d.1
  have d2 := lcI_le' h.u.d.1 k.u.d.1 (c := 200) (d := 200) h.d k.d
  have m1 := lcI_pos' h.u.m k.u.m
  have m2 := lcI_le' h.u.m k.u.m (c := 200) (d := 200) h.m k.m
  have q1 := Int.mul_pos d1 p1
  have q2 := mul_le' d1 p1 (c := 40000) (d := 40000) (by omega) (by omega)
  have r1 := lcI_pos' m1 q1
  have r2 := lcI_le' m1 q1 (c := 40000) (d := 1600000000) (by omega) (by omega)
  have ee := e_lcm h.u.e.1 k.u.e.1 h.u.g k.u.g h.u.e.2 k.u.e.2
  have s1 := h.u.s; have s2 := k.u.s; have g1 := h.u.g; have g2 := k.u.g; have l1 := h.u.l; have l2 := k.u.l
  have x1 := lcI_pos' h.u.h.1 k.u.h.1
  have x2 := lcI_dvd_lcI h.u.h.2 k.u.h.2
  have y1 := lcI_pos' h.u.e.1 k.u.e.1
  rw [← lc3_e] at r1 r2
  unfold Nb.or
  exact ⟨⟨⟨p1, by dsimp only; omega⟩, ⟨d1, by dsimp only; omega⟩, r1, by dsimp only; omega, ⟨x1, x2⟩, ⟨y1, by dsimp only; omega⟩, by dsimp only; omega, by dsimp only; omega⟩, by dsimp only; omega, by dsimp only; omega, by dsimp only; omega, ee⟩
theorem Nb.Or.wv {b : Nb} (h : b.Or) : b.wv.Un := by
  have up := h.u.p; have ud := h.u.d; have um := h.u.m; have us := h.u.s; have ue := h.u.e.1; have e2 := h.e; have p2 := h.p
  have m1 := Int.mul_pos ud.1 (show 0 < 2 * b.p by omega)
  unfold Nb.wv
  exact ⟨⟨by dsimp only; omega, by dsimp only; omega⟩, ud, lcI_pos' um m1, by dsimp only; omega, h.u.h, ⟨by dsimp only; omega, by dsimp only; omega⟩, h.u.g, h.u.l⟩
theorem Nb.Or.sht {b o : Nb} (h : b.Or) (k : o.Ck) {c : Int} (hc : 0 ≤ c) : (b.sht o c).Un := by
  have up := h.u.p; have ud := h.u.d; have um := h.u.m; have us := h.u.s; have ue := h.u.e.1; have e2 := h.e
  have d1 := lcI_pos' ud.1 k.u.d.1
  have d2 := lcI_le' ud.1 k.u.d.1 (c := 40000) (d := 200) h.d k.d
  have m1 := lcI_pos' um k.u.m
  have q1 := Int.mul_pos d1 up.1
  have r1 := lcI_pos' m1 q1
  rw [← lc3_e] at r1
  have ks := k.u.s
  unfold Nb.sht
  exact ⟨up, ⟨d1, by dsimp only; omega⟩, r1, by dsimp only; omega, ⟨h.u.h.1, Int.dvd_trans h.u.h.2 (dvd_lcIl _ _)⟩, h.u.e, h.u.g, h.u.l⟩
theorem Nb.Or.pr {a b : Nb} (h : (a.or b).Or) (ha : a.Ck) (hb : b.Ck) : (a.pr b).Un := by
  have u := h.u
  have l1 := ha.u.l; have l2 := hb.u.l
  unfold Nb.pr
  exact ⟨u.p, u.d, u.m, u.s, u.h, u.e, u.g, by dsimp only; omega⟩
end LW
namespace LW
open PySem PySem.Spec PyProof.Rows DL
mutual
def Pt.uses : Pt → List (Str × Int)
  | .put n => [(n, 0)]
  | .map ns => ns.map fun n => (n, 1)
  | .arm _ l r => l.uses ++ r.uses
  | .pair n l r => (n, 2) :: (l.uses ++ r.uses)
  | .short _ l r => l.uses ++ r.uses
  | .pl _ => []
  | .cut1 _ _ => []
  | .cut3 _ _ _ _ => []
  | .each _ _ => []
  | .rep _ _ => []
def Rw.uses : Rw → List (Str × Int)
  | .one p => p.uses
  | .cons p r => p.uses ++ r.uses
end
def ue (u : Str × Int) : D := .tup [.str u.1, .int u.2]
mutual
theorem Pt.uses_len : ∀ p : Pt, p.uses.length ≤ p.cnt
  | .pl w => by simp [Pt.uses, Pt.cnt]
  | .put n => by simp [Pt.uses, Pt.cnt]
  | .cut1 w b => by simp [Pt.uses, Pt.cnt]
  | .cut3 w b s k => by simp [Pt.uses, Pt.cnt]
  | .each k i => by simp [Pt.uses, Pt.cnt]
  | .rep w m => by simp [Pt.uses, Pt.cnt]
  | .map ns => by simp [Pt.uses, Pt.cnt]
  | .arm w l r => by
    have := l.uses_len
    have := r.uses_len
    rw [Pt.uses, Pt.cnt, List.length_append]; omega
  | .pair n l r => by
    have := l.uses_len
    have := r.uses_len
    rw [Pt.uses, Pt.cnt, List.length_cons, List.length_append]; omega
  | .short w l r => by
    have := l.uses_len
    have := r.uses_len
    rw [Pt.uses, Pt.cnt, List.length_append]; omega
theorem Rw.uses_len : ∀ r : Rw, r.uses.length ≤ r.cnt
  | .one p => by
    have := p.uses_len
    rw [Rw.uses, Rw.cnt]; omega
  | .cons p r => by
    have := p.uses_len
    have := r.uses_len
    rw [Rw.uses, Rw.cnt, List.length_append]; omega
end
def aus (as : List Rw) : List (Str × Int) := (as.map Rw.uses).flatten
theorem us_arms {rc : List D → R D} {s0 s2 s3 : DS} : ∀ (as : List Rw) (acc : List D) (s4 : DS), (∀ a ∈ as, rc [.tup a.enc] = .ok (.lst (a.uses.map ue))) → acc.length + (aus as).length ≤ 10000 → ∃ s4', loopF (pName 4) (l1_uses_of rc) (as.map fun a => D.tup a.enc) [s0, .ow acc, s2, s3, s4] = .nx [s0, .ow (acc ++ (aus as).map ue), s2, s3, s4']
  | [], acc, s4, _, _ => ⟨s4, by show _ = O.nx [s0, .ow (acc ++ []), s2, s3, s4]; rw [List.append_nil]; rfl⟩
  | a :: as, acc, s4, h, hl => by
    have h1 := h a List.mem_cons_self
    have e : (aus (a :: as)) = a.uses ++ aus as := rfl
    rw [e, List.length_append] at hl
    obtain ⟨s4', ih⟩ := us_arms as (acc ++ a.uses.map ue) (.fz (.tup a.enc)) (fun b hb => h b (List.mem_cons_of_mem _ hb)) (by rw [List.length_append, List.length_map]; omega)
    refine ⟨s4', ?_⟩
    rw [e, List.map_append, ← List.append_assoc, List.map_cons]
    have o : okLe (acc.length + (a.uses.map ue).length) = true := okLe_by (by rw [List.length_map]; omega)
    unfold l1_uses_of at *
    walk_at "go"
def wput (w : Str) : Option Bool := dEqB (.str w) (.str (Str.ofString "put"))
theorem us_bo {rc : List D → R D} {s0 s3 s4 s4' : DS} {acc acc' : List D} {w : Str} {ds as : List D} (h1 : dEqB (.str w) (.str (Str.ofString "put")) = some false) (h2 : dEqB (.str w) (.str (Str.ofString "map")) = some false) (h3 : dEqB (.str w) (.str (Str.ofString "pair")) = some false) (ha : m_arms_of [.tup (.str w :: ds)] = .ok (.tup as)) (lp : loopF (pName 4) (l1_uses_of rc) as [s0, .ow acc, .fz (.tup (.str w :: ds)), s3, s4] = .nx [s0, .ow acc', .fz (.tup (.str w :: ds)), s3, s4']) : l2_uses_of rc [s0, .ow acc, .fz (.tup (.str w :: ds)), s3, s4] = .nx [s0, .ow acc', .fz (.tup (.str w :: ds)), s3, s4'] := by
  unfold l2_uses_of
  walk_at "go"
theorem us_bp {rc : List D → R D} {s0 s3 s4 : DS} {acc : List D} {n : Str} (o : okLt acc.length = true) (ha : m_arms_of [.tup [.str "put", .str n]] = .ok (.tup [])) : l2_uses_of rc [s0, .ow acc, .fz (.tup [.str "put", .str n]), s3, s4] = .nx [s0, .ow (acc ++ [.tup [.str n, .int 0]]), .fz (.tup [.str "put", .str n]), s3, s4] := by
  unfold l2_uses_of
  walk_at "go"
theorem us_bm {rc : List D → R D} {s0 s3 s4 : DS} {acc : List D} {ns : List Str} (o : acc.length + ns.length ≤ 10000) (ha : m_arms_of [.tup [.str "map", .tup (ns.map .str)]] = .ok (.tup [])) : l2_uses_of rc [s0, .ow acc, .fz (.tup [.str "map", .tup (ns.map .str)]), s3, s4] = .nx [s0, .ow (acc ++ ns.map fun n => .tup [.str n, .int 1]), .fz (.tup [.str "map", .tup (ns.map .str)]), s3, s4] := by
  have o2 : ns.length ≤ 16777215 := by omega
  have o1 : okLe (acc.length + (ns.map fun n => D.tup [.str n, .int 1]).length) = true := okLe_by (by rw [List.length_map]; omega)
  unfold l2_uses_of
  walk_at "go"
theorem us_b2 {rc : List D → R D} {s0 s3 s4 s4' : DS} {acc acc' : List D} {n : Str} {ds as : List D} (o : okLt acc.length = true) (ha : m_arms_of [.tup (.str "pair" :: .str n :: ds)] = .ok (.tup as)) (lp : loopF (pName 4) (l1_uses_of rc) as [s0, .ow (acc ++ [.tup [.str n, .int 2]]), .fz (.tup (.str "pair" :: .str n :: ds)), s3, s4] = .nx [s0, .ow acc', .fz (.tup (.str "pair" :: .str n :: ds)), s3, s4']) : l2_uses_of rc [s0, .ow acc, .fz (.tup (.str "pair" :: .str n :: ds)), s3, s4] = .nx [s0, .ow acc', .fz (.tup (.str "pair" :: .str n :: ds)), s3, s4'] := by
  unfold l2_uses_of
  walk_at "go"
theorem us_body {rc : List D → R D} {s0 s3 : DS} {N : Nat} (hr : ∀ a : Rw, a.Wf → a.dep + 1 ≤ N → a.cnt ≤ 9000 → rc [.tup a.enc] = .ok (.lst (a.uses.map ue))) : ∀ {p : Pt} (acc : List D) (s4 : DS), p.Wf → p.dep ≤ N → acc.length + p.cnt ≤ 9000 → ∃ s4', l2_uses_of rc [s0, .ow acc, .fz p.enc, s3, s4] = .nx [s0, .ow (acc ++ p.uses.map ue), .fz p.enc, s3, s4']
  | .pl w, acc, s4, h, _, hl => ⟨s4, by
    have ha := arms_ok h
    rw [Pt.Wf] at h
    rw [Pt.enc] at *
    rw [Pt.uses, List.map_nil, List.append_nil]
    exact us_bo (by rcases plain_of h with rfl | rfl | rfl <;> kernel_rfl) (by rcases plain_of h with rfl | rfl | rfl <;> kernel_rfl) (by rcases plain_of h with rfl | rfl | rfl <;> kernel_rfl) ha rfl⟩
  | .put n, acc, s4, h, _, hl => ⟨s4, by
    have ha := arms_ok h
    rw [Pt.cnt] at hl
    rw [Pt.enc] at *
    rw [Pt.uses]
    exact us_bp (okLt_by (by omega)) ha⟩
  | .cut1 w b, acc, s4, h, _, hl => ⟨s4, by
    have ha := arms_ok h
    rw [Pt.Wf] at h
    rw [Pt.enc] at *
    rw [Pt.uses, List.map_nil, List.append_nil]
    exact us_bo (by rcases cut_of h.1 with rfl | rfl <;> kernel_rfl) (by rcases cut_of h.1 with rfl | rfl <;> kernel_rfl) (by rcases cut_of h.1 with rfl | rfl <;> kernel_rfl) ha rfl⟩
  | .cut3 w b s k, acc, s4, h, _, hl => ⟨s4, by
    have ha := arms_ok h
    rw [Pt.Wf] at h
    rw [Pt.enc] at *
    rw [Pt.uses, List.map_nil, List.append_nil]
    exact us_bo (by rcases cut_of h.1 with rfl | rfl <;> kernel_rfl) (by rcases cut_of h.1 with rfl | rfl <;> kernel_rfl) (by rcases cut_of h.1 with rfl | rfl <;> kernel_rfl) ha rfl⟩
  | .each k i, acc, s4, h, _, hl => ⟨s4, by
    have ha := arms_ok h
    rw [Pt.enc] at *
    rw [Pt.uses, List.map_nil, List.append_nil]
    exact us_bo (by kernel_rfl) (by kernel_rfl) (by kernel_rfl) ha rfl⟩
  | .rep w m, acc, s4, h, _, hl => ⟨s4, by
    have ha := arms_ok h
    rw [Pt.Wf] at h
    rw [Pt.enc] at *
    rw [Pt.uses, List.map_nil, List.append_nil]
    exact us_bo (by rcases h.1 with rfl | rfl | rfl <;> kernel_rfl) (by rcases h.1 with rfl | rfl | rfl <;> kernel_rfl) (by rcases h.1 with rfl | rfl | rfl <;> kernel_rfl) ha rfl⟩
  | .map ns, acc, s4, h, _, hl => ⟨s4, by
    have ha := arms_ok h
    rw [Pt.cnt] at hl
    rw [Pt.enc] at *
    rw [Pt.uses, List.map_map]
    exact us_bm (by omega) ha⟩
  | .arm w l r, acc, s4, h, hd, hl => by
    have ha := arms_ok h
    rw [Pt.Wf] at h
    rw [Pt.dep] at hd
    rw [Pt.cnt] at hl
    have u1 := l.uses_len
    have u2 := r.uses_len
    have h1 := hr l h.2.1 (by omega) (by omega)
    have h2 := hr r h.2.2 (by omega) (by omega)
    have e : aus [l, r] = l.uses ++ r.uses := by show l.uses ++ (r.uses ++ []) = _; rw [List.append_nil]
    obtain ⟨s4', lp⟩ := us_arms (rc := rc) (s0 := s0) (s2 := .fz (Pt.arm w l r).enc) (s3 := s3) [l, r] acc s4 (fun a ha => by
      rcases List.mem_cons.mp ha with rfl | ha
      · exact h1
      · rw [List.mem_singleton.mp ha]; exact h2) (by rw [e, List.length_append]; omega)
    refine ⟨s4', ?_⟩
    rw [e] at lp
    rw [Pt.uses]
    rw [Pt.enc] at *
    exact us_bo (by rcases h.1 with rfl | rfl <;> kernel_rfl) (by rcases h.1 with rfl | rfl <;> kernel_rfl) (by rcases h.1 with rfl | rfl <;> kernel_rfl) ha lp
  | .pair n l r, acc, s4, h, hd, hl => by
    have ha := arms_ok h
    rw [Pt.Wf] at h
    rw [Pt.dep] at hd
    rw [Pt.cnt] at hl
    have u1 := l.uses_len
    have u2 := r.uses_len
    have h1 := hr l h.2.1 (by omega) (by omega)
    have h2 := hr r h.2.2 (by omega) (by omega)
    have e : aus [l, r] = l.uses ++ r.uses := by show l.uses ++ (r.uses ++ []) = _; rw [List.append_nil]
    obtain ⟨s4', lp⟩ := us_arms (rc := rc) (s0 := s0) (s2 := .fz (Pt.pair n l r).enc) (s3 := s3) [l, r] (acc ++ [.tup [.str n, .int 2]]) s4 (fun a ha => by
      rcases List.mem_cons.mp ha with rfl | ha
      · exact h1
      · rw [List.mem_singleton.mp ha]; exact h2) (by rw [e, List.length_append, List.length_append, List.length_singleton]; omega)
    refine ⟨s4', ?_⟩
    rw [e] at lp
    rw [Pt.uses, show acc ++ List.map ue ((n, 2) :: (l.uses ++ r.uses)) = (acc ++ [D.tup [.str n, .int 2]]) ++ List.map ue (l.uses ++ r.uses) by simp [ue]]
    rw [Pt.enc] at *
    exact us_b2 (okLt_by (by omega)) ha lp
  | .short w l r, acc, s4, h, hd, hl => by
    have ha := arms_ok h
    rw [Pt.Wf] at h
    rw [Pt.dep] at hd
    rw [Pt.cnt] at hl
    have u1 := l.uses_len
    have u2 := r.uses_len
    have h1 := hr l h.2.2.1 (by omega) (by omega)
    have h2 := hr r h.2.2.2 (by omega) (by omega)
    have e : aus [l, r] = l.uses ++ r.uses := by show l.uses ++ (r.uses ++ []) = _; rw [List.append_nil]
    obtain ⟨s4', lp⟩ := us_arms (rc := rc) (s0 := s0) (s2 := .fz (Pt.short w l r).enc) (s3 := s3) [l, r] acc s4 (fun a ha => by
      rcases List.mem_cons.mp ha with rfl | ha
      · exact h1
      · rw [List.mem_singleton.mp ha]; exact h2) (by rw [e, List.length_append]; omega)
    refine ⟨s4', ?_⟩
    rw [e] at lp
    rw [Pt.uses]
    rw [Pt.enc] at *
    exact us_bo (by kernel_rfl) (by kernel_rfl) (by kernel_rfl) ha lp
theorem us_loop {rc : List D → R D} {s0 s3 : DS} {N : Nat} (hr : ∀ a : Rw, a.Wf → a.dep + 1 ≤ N → a.cnt ≤ 9000 → rc [.tup a.enc] = .ok (.lst (a.uses.map ue))) : ∀ (r : Rw) (acc : List D) (s2 s4 : DS), r.Wf → r.dep ≤ N → acc.length + r.cnt ≤ 9000 → ∃ s2' s4', loopF (pName 2) (l2_uses_of rc) r.enc [s0, .ow acc, s2, s3, s4] = .nx [s0, .ow (acc ++ r.uses.map ue), s2', s3, s4']
  | .one p, acc, s2, s4, h, hd, hl => by
    rw [Rw.Wf] at h; rw [Rw.dep] at hd; rw [Rw.cnt] at hl
    obtain ⟨s4', e⟩ := us_body (s0 := s0) (s3 := s3) hr acc s4 h hd hl
    exact ⟨_, s4', by rw [Rw.enc, loopF_nx (put := pName 2) rfl e, Rw.uses]; rfl⟩
  | .cons p r, acc, s2, s4, h, hd, hl => by
    rw [Rw.Wf] at h; rw [Rw.dep] at hd; rw [Rw.cnt] at hl
    have u := p.uses_len
    obtain ⟨s4', e⟩ := us_body (s0 := s0) (s3 := s3) hr acc s4 h.1 (by omega) (by omega)
    obtain ⟨s2'', s4'', e2⟩ := us_loop hr r (acc ++ p.uses.map ue) (.fz p.enc) s4' h.2.1 (by omega) (by rw [List.length_append, List.length_map]; omega)
    exact ⟨s2'', s4'', by rw [Rw.enc, loopF_nx (put := pName 2) rfl e, e2, Rw.uses, List.map_append, List.append_assoc]⟩
theorem us_ok : ∀ (n : Nat) (r : Rw), r.Wf → r.dep + 1 ≤ n → r.cnt ≤ 9000 → m_uses_of n [.tup r.enc] = .ok (.lst (r.uses.map ue))
  | 0, _, _, h, _ => absurd h (by omega)
  | n + 1, r, h, hd, hl => by
    obtain ⟨s2, s4, e⟩ := us_loop (s0 := .fz (.tup r.enc)) (s3 := .un) (fun a => us_ok n a) r [] .un .un h (by omega) (by simp; omega)
    show runD 5 (b_uses_of (m_uses_of n)) _ = _
    rw [List.nil_append] at e
    generalize r.enc = xs at *
    unfold b_uses_of
    walk_at "go"
end LW
namespace LW
open PySem PySem.Spec PyProof.Rows DL
def mixA : List (Str × Int) → List (Str × Int) → Option Str
  | _, [] => none
  | kn, (x, k) :: us => match kn.lookup x with
    | some j => if j = k then mixA kn us else some x
    | none => mixA (kn ++ [(x, k)]) us
def Rw.mix (r : Rw) : Option Str := mixA [] r.uses
def knK (kn : List (Str × Int)) : List Ky := kn.map fun u => .inr u.1
def knV (kn : List (Str × Int)) : List D := kn.map fun u => .int u.2
theorem kGet_kn {x : Str} : ∀ kn : List (Str × Int), kGet (knK kn) (knV kn) (.inr x) = (kn.lookup x).map D.int
  | [] => rfl
  | (y, k) :: kn => by
    show (if (Sum.inr y : Ky) = .inr x then some (D.int k) else kGet (knK kn) (knV kn) (.inr x)) = _
    rw [kGet_kn kn, List.lookup_cons]
    by_cases h : y = x
    · subst h
      rw [if_pos rfl, beq_self_eq_true]
      rfl
    · rw [if_neg (fun e => h (Sum.inr.inj e)), beq_false_of_ne (fun e => h e.symm)]
theorem mix_in {s0 : DS} {kn : List (Str × Int)} {x : Str} {k j : Int} (h : kn.lookup x = some j) (hl : kn.length ≤ 9000) : fCmpX dNe (fSetd 1 (fVar 2) (fVar 3)) (fVar 3) [s0, .od (knK kn) (knV kn), .fz (.str x), .fz (.int k)] = .ok (!(j == k), [s0, .od (knK kn) (knV kn), .fz (.str x), .fz (.int k)]) := by
  have o : okLt (knK kn).length = true := okLt_by (by unfold knK; rw [List.length_map]; omega)
  have g := kGet_kn (x := x) kn
  rw [h] at g
  have e : fSetd 1 (fVar 2) (fVar 3) [s0, .od (knK kn) (knV kn), .fz (.str x), .fz (.int k)] = .ok (.int j, [s0, .od (knK kn) (knV kn), .fz (.str x), .fz (.int k)]) := by
    show (R.of (D.key (.str x))).bind (rSetk 1 _ (knK kn, knV kn) (.int k)) = _
    show rSetk 1 _ (knK kn, knV kn) (.int k) (.inr x) = _
    unfold rSetk
    rw [if_pos o]
    show (match kGet (knK kn) (knV kn) (.inr x) with | some d => _ | none => _) = _
    rw [g]
    rfl
  unfold fCmpX
  rw [e]
  show (R.of (dNe (.int j) (.int k))).bind (rBl _) = _
  rw [dNe_e, dEqB_ii]
  rfl
theorem mix_out {s0 : DS} {kn : List (Str × Int)} {x : Str} {k : Int} (h : kn.lookup x = none) (hl : kn.length ≤ 9000) : fCmpX dNe (fSetd 1 (fVar 2) (fVar 3)) (fVar 3) [s0, .od (knK kn) (knV kn), .fz (.str x), .fz (.int k)] = .ok (false, [s0, .od (knK (kn ++ [(x, k)])) (knV (kn ++ [(x, k)])), .fz (.str x), .fz (.int k)]) := by
  have o : okLt (knK kn).length = true := okLt_by (by unfold knK; rw [List.length_map]; omega)
  have g := kGet_kn (x := x) kn
  rw [h] at g
  have e : fSetd 1 (fVar 2) (fVar 3) [s0, .od (knK kn) (knV kn), .fz (.str x), .fz (.int k)] = .ok (.int k, [s0, .od (knK (kn ++ [(x, k)])) (knV (kn ++ [(x, k)])), .fz (.str x), .fz (.int k)]) := by
    show rSetk 1 _ (knK kn, knV kn) (.int k) (.inr x) = _
    unfold rSetk
    rw [if_pos o]
    show (match kGet (knK kn) (knV kn) (.inr x) with | some d => _ | none => _) = _
    rw [g]
    unfold knK knV
    rw [List.map_append, List.map_append]
    rfl
  unfold fCmpX
  rw [e]
  show (R.of (dNe (.int k) (.int k))).bind (rBl _) = _
  rw [dNe_e, dEqB_ii, beq_self_eq_true]
  rfl
def mixO (s0 : DS) (m : Option Str) (o : O) : Prop := match m with
  | none => ∃ s1 s2 s3, o = .nx [s0, s1, s2, s3]
  | some x => ∃ δ, o = .rt (.str x) δ
theorem mix_loop {s0 : DS} : ∀ (us kn : List (Str × Int)) (s2 s3 : DS), kn.length + us.length ≤ 9000 → mixO s0 (mixA kn us) (loopF (pTup 2 (pCons (pName 2) (pCons (pName 3) pNil))) l1_mixed_name (us.map ue) [s0, .od (knK kn) (knV kn), s2, s3])
  | [], kn, s2, s3, _ => ⟨_, s2, s3, rfl⟩
  | (x, k) :: us, kn, s2, s3, hl => by
    rw [List.length_cons] at hl
    have put : pTup 2 (pCons (pName 2) (pCons (pName 3) pNil)) [s0, .od (knK kn) (knV kn), s2, s3] (ue (x, k)) = some [s0, .od (knK kn) (knV kn), .fz (.str x), .fz (.int k)] := rfl
    cases e : kn.lookup x with
    | none =>
      have b : l1_mixed_name [s0, .od (knK kn) (knV kn), .fz (.str x), .fz (.int k)] = .nx [s0, .od (knK (kn ++ [(x, k)])) (knV (kn ++ [(x, k)])), .fz (.str x), .fz (.int k)] := by
        unfold l1_mixed_name fIfX
        rw [mix_out e (by omega)]
        rfl
      rw [List.map_cons, loopF_nx put b, show mixA kn ((x, k) :: us) = mixA (kn ++ [(x, k)]) us by rw [mixA, e]]
      exact mix_loop us _ _ _ (by rw [List.length_append, List.length_singleton]; omega)
    | some j =>
      by_cases h : j = k
      · have b : l1_mixed_name [s0, .od (knK kn) (knV kn), .fz (.str x), .fz (.int k)] = .nx [s0, .od (knK kn) (knV kn), .fz (.str x), .fz (.int k)] := by
          unfold l1_mixed_name fIfX
          rw [mix_in e (by omega), h, beq_self_eq_true]
          rfl
        rw [List.map_cons, loopF_nx put b, show mixA kn ((x, k) :: us) = mixA kn us by rw [mixA, e]; exact if_pos h]
        exact mix_loop us _ _ _ (by omega)
      · have b : l1_mixed_name [s0, .od (knK kn) (knV kn), .fz (.str x), .fz (.int k)] = .rt (.str x) [s0, .od (knK kn) (knV kn), .fz (.str x), .fz (.int k)] := by
          unfold l1_mixed_name fIfX
          rw [mix_in e (by omega), beq_false_of_ne h]
          rfl
        rw [List.map_cons, loopF_rt put b, show mixA kn ((x, k) :: us) = some x by rw [mixA, e]; exact if_neg h]
        exact ⟨_, rfl⟩
def oS : Option Str → D
  | none => .non
  | some x => .str x
theorem mix_ok {r : Rw} (h : r.Wf) (hd : r.dep ≤ 50) (hl : r.cnt ≤ 9000) : m_mixed_name [.tup r.enc] = .ok (oS r.mix) := by
  have u := us_ok 60 r h (by omega) hl
  have ul := r.uses_len
  have lp := mix_loop (s0 := .fz (.tup r.enc)) r.uses [] .un .un (by simp; omega)
  show (O.fin _) = _
  have e1 : fItems (fCall (m_uses_of 60) (fCons (fVar 0) fNil)) [.fz (.tup r.enc), .od [] [], .un, .un] = .ok (r.uses.map ue) := by
    generalize r.enc = xs at *
    walk_at "go"
  have e2 : m_mixed_name [.tup r.enc] = ((loopF (pTup 2 (pCons (pName 2) (pCons (pName 3) pNil))) l1_mixed_name (r.uses.map ue) [.fz (.tup r.enc), .od [] [], .un, .un]).thn (fRet (fC .non))).fin := by
    show (O.thn (O.on (fItems (fCall (m_uses_of 60) (fCons (fVar 0) fNil)) [.fz (.tup r.enc), .od [] [], .un, .un]) _) _).fin = _
    rw [e1]
    rfl
  refine e2.trans ?_
  have k0 : knK [] = [] := rfl
  have v0 : knV [] = [] := rfl
  rw [k0, v0] at lp
  unfold Rw.mix
  cases e : mixA [] r.uses with
  | none =>
    rw [e] at lp
    obtain ⟨s1, s2, s3, lp⟩ := lp
    rw [lp]
    rfl
  | some x =>
    rw [e] at lp
    obtain ⟨δ, lp⟩ := lp
    rw [lp]
    rfl
end LW
namespace LW
open PySem PySem.Spec PyProof.Rows DL
theorem ru_e {a b : Int} (h : 0 < b) (k : b < 1000) : m_rounded_up [.int a, .int b] = .ok (.int (ruI a b)) := by
  unfold m_rounded_up b_rounded_up ruI
  walk_at "go"
theorem lm {i : Int} (h : 0 < i) (k : i ≤ 1000000000000000000) : lim 64 i = true := lim64_by (by omega)
theorem cut_e {o : Nb} (h : o.Ck) {w : Str} {b a k : Int} (hk : 1 ≤ k) (hk2 : k ≤ 9) : m_behind_cut [.tup [.str w, .int b, .int a, .int k], o.enc] = .ok (o.cut b k).enc := by
  have p := lm h.u.p.1 (by have := h.p; omega)
  have d := lm h.u.d.1 (by have := h.d; omega)
  have m := lm h.u.m (by have := h.m; omega)
  have d1 := Int.mul_pos h.u.d.1 (show 0 < k by omega)
  have d2 := mul_le' h.u.d.1 (show 0 < k by omega) (c := 200) (d := 9) h.d hk2
  have q1 := Int.mul_pos d1 h.u.p.1
  have q2 := mul_le' d1 h.u.p.1 (c := 1800) (d := 200) (by omega) h.p
  have x1 := lm d1 (by omega)
  have x2 := lm q1 (by omega)
  have r := @ru_e (max (abI b) (abI (b - k + 1))) k (by omega) (by omega)
  have lk := lm (i := k) (by omega) (by omega)
  unfold Nb.cut
  clear h d1 d2 q1 q2 hk hk2
  unfold m_behind_cut b_behind_cut
  walk_at "go"
  all_goals rfl
theorem each_e {o : Nb} (h : o.Ck) {k i : Int} (hk : 1 ≤ k) (hk2 : k ≤ 9) : m_behind_each [.tup [.str "each", .int k, .int i], o.enc] = .ok (o.each k).enc := by
  have p := lm h.u.p.1 (by have := h.p; omega)
  have d := lm h.u.d.1 (by have := h.d; omega)
  have m := lm h.u.m (by have := h.m; omega)
  have hh := lm h.u.h.1 (by have := h.h; omega)
  have lk := lm (i := k) (by omega) (by omega)
  have l1 := lcI_pos' h.u.p.1 (show 0 < k by omega)
  have l2 := lcI_le' h.u.p.1 (show 0 < k by omega) (c := 200) (d := 9) h.p hk2
  have q1 := Int.mul_pos h.u.d.1 l1
  have q2 := mul_le' h.u.d.1 l1 (c := 200) (d := 1800) h.d (by omega)
  have x2 := lm q1 (by omega)
  have g1 := gcI_pos (b := k) h.u.p.1
  have g2 := gcI_le (b := k) h.u.p.1
  have x3 := lm g1 (by have := h.p; omega)
  have r := @ru_e (o.s + k - 1) k (by omega) (by omega)
  unfold Nb.each
  clear h q1 q2 hk hk2 l1 l2 g2
  unfold m_behind_each b_behind_each
  walk_at "go"
  all_goals rfl
theorem times_e {o : Nb} (h : o.Ck) {k : Int} (hk : 1 ≤ k) (hk2 : k ≤ 9) : m_behind_times [.tup [.str "times", .int k], o.enc] = .ok (o.times k).enc := by
  have p := lm h.u.p.1 (by have := h.p; omega)
  have d := lm h.u.d.1 (by have := h.d; omega)
  have m := lm h.u.m (by have := h.m; omega)
  have lk := lm (i := k) (by omega) (by omega)
  have l1 := Int.mul_pos (show 0 < k by omega) h.u.p.1
  have l2 := mul_le' (show 0 < k by omega) h.u.p.1 (c := 9) (d := 200) hk2 h.p
  have q1 := Int.mul_pos h.u.d.1 l1
  have q2 := mul_le' h.u.d.1 l1 (c := 200) (d := 1800) h.d (by omega)
  have x2 := lm q1 (by omega)
  unfold Nb.times
  clear h q1 q2 hk hk2 l1 l2
  unfold m_behind_times b_behind_times
  walk_at "go"
  all_goals rfl
theorem again_e {o : Nb} (h : o.Ck) {k : Int} (hk : 1 ≤ k) (hk2 : k ≤ 9) : m_behind_again [.tup [.str "again", .int k], o.enc] = .ok (o.again k).enc := by
  have lk := lm (i := k) (by omega) (by omega)
  unfold Nb.again
  clear h hk hk2
  unfold m_behind_again b_behind_again
  walk_at "go"
  all_goals rfl
theorem turn_e {o : Nb} (h : o.Ck) {k : Int} (hk : 1 ≤ k) (hk2 : k ≤ 9) : m_behind_turn [.tup [.str "turn", .int k], o.enc] = .ok (o.turn k).enc := by
  have p := lm h.u.p.1 (by have := h.p; omega)
  have d := lm h.u.d.1 (by have := h.d; omega)
  have m := lm h.u.m (by have := h.m; omega)
  have lk := lm (i := k) (by omega) (by omega)
  have l1 := lcI_pos' h.u.p.1 (show 0 < k by omega)
  have l2 := lcI_le' h.u.p.1 (show 0 < k by omega) (c := 200) (d := 9) h.p hk2
  have q1 := Int.mul_pos h.u.d.1 l1
  have q2 := mul_le' h.u.d.1 l1 (c := 200) (d := 1800) h.d (by omega)
  have x2 := lm q1 (by omega)
  unfold Nb.turn
  clear h q1 q2 hk hk2 l1 l2
  unfold m_behind_turn b_behind_turn
  walk_at "go"
  all_goals rfl
theorem or_e {a b : Nb} (h : a.Ck) (k : b.Ck) : m_Numbers___or__ [a.enc, b.enc] = .ok (a.or b).enc := by
  have p1 := lcI_pos' h.u.p.1 k.u.p.1
  have p2 := lcI_le' h.u.p.1 k.u.p.1 (c := 200) (d := 200) h.p k.p
  have d1 := lcI_pos' h.u.d.1 k.u.d.1
  have d2 := lcI_le' h.u.d.1 k.u.d.1 (c := 200) (d := 200) h.d k.d
  have q1 := Int.mul_pos d1 p1
  have q2 := mul_le' d1 p1 (c := 40000) (d := 40000) (by omega) (by omega)
  have la : ∀ {n : Nb}, n.Ck → n.Lm := fun {n} h => ⟨lm h.u.p.1 (by have := h.p; omega), lm h.u.d.1 (by have := h.d; omega), lm h.u.m (by have := h.m; omega), lm h.u.h.1 (by have := h.h; omega), lm h.u.e.1 (by have := h.e; omega)⟩
  exact Nb.or_ok (la h) (la k) (lm d1 (by omega)) (lm q1 (by omega))
theorem join_e {a b : Nb} (h : a.Ck) (k : b.Ck) {o l r : D} : m_behind_arms [.tup [.str "join", l, r], o, a.enc, b.enc] = .ok (a.or b).enc := by
  have e := or_e h k
  clear h k
  unfold m_behind_arms b_behind_arms
  walk_at "go"
theorem weave_e {a b : Nb} (h : a.Ck) (k : b.Ck) {o l r : D} : m_behind_arms [.tup [.str "weave", l, r], o, a.enc, b.enc] = .ok (a.or b).wv.enc := by
  have e := or_e h k
  have u := h.or k
  generalize a.or b = c at *
  have p := lm u.u.p.1 (by have := u.p; omega)
  have d := lm u.u.d.1 (by have := u.d; omega)
  have m := lm u.u.m (by have := u.m; omega)
  have q1 := Int.mul_pos u.u.d.1 (show 0 < 2 * c.p by have := u.u.p.1; omega)
  have q2 := mul_le' u.u.d.1 (show 0 < 2 * c.p by have := u.u.p.1; omega) (c := 40000) (d := 80000) u.d (by have := u.p; omega)
  have x2 := lm q1 (by omega)
  unfold Nb.wv
  clear h k u q1 q2
  unfold m_behind_arms b_behind_arms
  walk_at "go"
  all_goals rfl
theorem pair_e {a b : Nb} (h : a.Ck) (k : b.Ck) {o l r : D} {n : Str} : m_behind_arms [.tup [.str "pair", .str n, l, r], o, a.enc, b.enc] = .ok (a.pr b).enc := by
  have e := or_e h k
  unfold Nb.pr
  generalize a.or b = c at *
  clear h k
  unfold m_behind_arms b_behind_arms
  walk_at "go"
  all_goals rfl
theorem short_e {a b o : Nb} (h : a.Ck) (k : b.Ck) (ho : o.Ck) {l r : D} {n : Int} : m_behind_arms [.tup [.str "short", .int n, l, r], o.enc, a.enc, b.enc] = .ok ((a.or b).sht o n).enc := by
  have e := or_e h k
  have u := h.or k
  generalize a.or b = c at *
  have p := lm u.u.p.1 (by have := u.p; omega)
  have d := lm u.u.d.1 (by have := u.d; omega)
  have m := lm u.u.m (by have := u.m; omega)
  have od := lm ho.u.d.1 (by have := ho.d; omega)
  have om := lm ho.u.m (by have := ho.m; omega)
  have d1 := lcI_pos' u.u.d.1 ho.u.d.1
  have d2 := lcI_le' u.u.d.1 ho.u.d.1 (c := 40000) (d := 200) u.d ho.d
  have q1 := Int.mul_pos d1 u.u.p.1
  have q2 := mul_le' d1 u.u.p.1 (c := 8000000) (d := 40000) (by omega) u.p
  have x2 := lm q1 (by omega)
  unfold Nb.sht
  clear h k u q1 q2 d1 d2 ho
  unfold m_behind_arms b_behind_arms
  walk_at "go"
  all_goals rfl
theorem reg_e {n : Nb} (hd : lim 64 n.d = true) : m_Numbers_regular [n.enc] = .ok (.int n.regular) := by
  unfold m_Numbers_regular b_Numbers_regular Nb.regular
  walk_at "go"
theorem eno_e {n : Nb} (hd : lim 64 n.d = true) : m_Numbers_enough [n.enc] = .ok (.int n.enough) := by
  have e := reg_e hd
  unfold m_Numbers_enough b_Numbers_enough Nb.enough
  generalize n.regular = z at *
  walk_at "go"
theorem ck_e {n : Nb} (u : n.Un) : m_checked [n.enc] = rE n.ck := by
  have hd := lm u.d.1 (by have := u.d.2; omega)
  have he := eno_e hd
  unfold Nb.ck
  clear u hd
  generalize n.enough = z at *
  by_cases c1 : n.g > 16
  · rw [if_pos c1]
    have c := decide_eq_true c1
    show _ = R.exc (Str.ofString "TooLarge") [.str (Str.ofString "growth")]
    unfold m_checked b_checked
    walk_at "go"
    all_goals rfl
  · rw [if_neg c1]
    have c := decide_eq_false c1
    by_cases c2 : n.l > 8
    · rw [if_pos c2]
      have d := decide_eq_true c2
      show _ = R.exc (Str.ofString "TooLarge") [.str (Str.ofString "leaves")]
      unfold m_checked b_checked
      walk_at "go"
      all_goals rfl
    · rw [if_neg c2]
      have d := decide_eq_false c2
      by_cases c3 : z > 200
      · rw [if_pos c3]
        have e := decide_eq_true c3
        show _ = R.exc (Str.ofString "TooLarge") [.str (Str.ofString "enough")]
        unfold m_checked b_checked
        walk_at "go"
        all_goals rfl
      · rw [if_neg c3]
        have e := decide_eq_false c3
        show _ = R.ok n.enc
        unfold m_checked b_checked
        walk_at "go"
theorem bh_S {n : Nat} : m_behind (n + 1) = runD 4 (b_behind (m_behind n) (m_measured n)) := rfl
theorem ms_S {n : Nat} : m_measured (n + 1) = runD 3 (b_measured (m_behind n) (m_measured n)) := rfl
section
variable {rb rm : List D → R D} {w : Str} {ds : List D} {o x y a b z : D}
theorem bh_arm (hi : dInB (.str w) k_ARM_WORDS = some true) (hx : L2.atI (.str w :: ds) (-2) = some x) (hy : L2.atI (.str w :: ds) (-1) = some y) (h1 : rm [x, o] = .ok a) (h2 : rm [y, o] = .ok b) (h3 : m_behind_arms [.tup (.str w :: ds), o, a, b] = .ok z) : runD 4 (b_behind rb rm) [.tup (.str w :: ds), o] = .ok z := by
  unfold b_behind
  generalize k_ARM_WORDS = ka at *
  walk_at "go"
theorem bh_arm1 {n : Str} {xs : List D} (hi : dInB (.str w) k_ARM_WORDS = some true) (hx : L2.atI (.str w :: ds) (-2) = some x) (h1 : rm [x, o] = .exc n xs) : runD 4 (b_behind rb rm) [.tup (.str w :: ds), o] = .exc n xs := by
  have e1 : (fCons (fB dIx (fVar 0) (fU dNeg (fC (.int 2)))) (fCons (fVar 1) fNil)) [.fz (.tup (.str w :: ds)), .fz o, .fz (.str w), .un] = .ok [x, o] := by walk_at "go"
  have e : fSet 3 (fCall rm (fCons (fB dIx (fVar 0) (fU dNeg (fC (.int 2)))) (fCons (fVar 1) fNil))) [.fz (.tup (.str w :: ds)), .fz o, .fz (.str w), .un] = .exc n xs := by
    rw [fSet_e, fCall_e, e1, R.bind_ok, h1]; rfl
  clear e1
  unfold b_behind
  generalize k_ARM_WORDS = ka at *
  walk_at "go"
theorem bh_arm2 {n : Str} {xs : List D} (hi : dInB (.str w) k_ARM_WORDS = some true) (hx : L2.atI (.str w :: ds) (-2) = some x) (hy : L2.atI (.str w :: ds) (-1) = some y) (h1 : rm [x, o] = .ok a) (h2 : rm [y, o] = .exc n xs) : runD 4 (b_behind rb rm) [.tup (.str w :: ds), o] = .exc n xs := by
  have e1 : (fCons (fB dIx (fVar 0) (fU dNeg (fC (.int 1)))) (fCons (fVar 1) fNil)) [.fz (.tup (.str w :: ds)), .fz o, .fz (.str w), .fz a] = .ok [y, o] := by walk_at "go"
  have e : fRet (fCall m_behind_arms (fCons (fVar 0) (fCons (fVar 1) (fCons (fVar 3) (fCons (fCall rm (fCons (fB dIx (fVar 0) (fU dNeg (fC (.int 1)))) (fCons (fVar 1) fNil))) fNil))))) [.fz (.tup (.str w :: ds)), .fz o, .fz (.str w), .fz a] = .exc n xs := by
    rw [fRet_e, fCall_e, fCons_e, fVar_0, R.bind_ok, fCons_e, fVar_s, fVar_0, R.bind_ok, fCons_e, fVar_s, fVar_s, fVar_s, fVar_0, R.bind_ok, fCons_e, fCall_e, e1, R.bind_ok, h2]; rfl
  clear e1
  unfold b_behind
  generalize k_ARM_WORDS = ka at *
  walk_at "go"
theorem bh_cut (hi : dInB (.str w) k_ARM_WORDS = some false) (hc : dInB (.str w) k_CUT_WORDS = some true) (h : m_behind_cut [.tup (.str w :: ds), o] = .ok z) : runD 4 (b_behind rb rm) [.tup (.str w :: ds), o] = .ok z := by
  unfold b_behind
  generalize k_ARM_WORDS = ka at *
  generalize k_CUT_WORDS = kc at *
  walk_at "go"
theorem bh_each (h : m_behind_each [.tup (.str "each" :: ds), o] = .ok z) : runD 4 (b_behind rb rm) [.tup (.str "each" :: ds), o] = .ok z := by
  have hi : dInB (.str "each") k_ARM_WORDS = some false := by kernel_rfl
  have hc : dInB (.str "each") k_CUT_WORDS = some false := by kernel_rfl
  unfold b_behind
  generalize k_ARM_WORDS = ka at *
  generalize k_CUT_WORDS = kc at *
  walk_at "go"
theorem bh_times (h : m_behind_times [.tup (.str "times" :: ds), o] = .ok z) : runD 4 (b_behind rb rm) [.tup (.str "times" :: ds), o] = .ok z := by
  have hi : dInB (.str "times") k_ARM_WORDS = some false := by kernel_rfl
  have hc : dInB (.str "times") k_CUT_WORDS = some false := by kernel_rfl
  unfold b_behind
  generalize k_ARM_WORDS = ka at *
  generalize k_CUT_WORDS = kc at *
  walk_at "go"
theorem bh_again (h : m_behind_again [.tup (.str "again" :: ds), o] = .ok z) : runD 4 (b_behind rb rm) [.tup (.str "again" :: ds), o] = .ok z := by
  have hi : dInB (.str "again") k_ARM_WORDS = some false := by kernel_rfl
  have hc : dInB (.str "again") k_CUT_WORDS = some false := by kernel_rfl
  unfold b_behind
  generalize k_ARM_WORDS = ka at *
  generalize k_CUT_WORDS = kc at *
  walk_at "go"
theorem bh_turn (h : m_behind_turn [.tup (.str "turn" :: ds), o] = .ok z) : runD 4 (b_behind rb rm) [.tup (.str "turn" :: ds), o] = .ok z := by
  have hi : dInB (.str "turn") k_ARM_WORDS = some false := by kernel_rfl
  have hc : dInB (.str "turn") k_CUT_WORDS = some false := by kernel_rfl
  unfold b_behind
  generalize k_ARM_WORDS = ka at *
  generalize k_CUT_WORDS = kc at *
  walk_at "go"
theorem bh_none : runD 4 (b_behind rb rm) [.tup (.str "none" :: ds), o] = .ok Nb.one.enc := by
  have hi : dInB (.str "none") k_ARM_WORDS = some false := by kernel_rfl
  have hc : dInB (.str "none") k_CUT_WORDS = some false := by kernel_rfl
  unfold b_behind
  generalize k_ARM_WORDS = ka at *
  generalize k_CUT_WORDS = kc at *
  walk_at "go"
  all_goals rfl
theorem bh_put : runD 4 (b_behind rb rm) [.tup (.str "put" :: ds), o] = .ok ({ Nb.one with s := 1 } : Nb).enc := by
  have hi : dInB (.str "put") k_ARM_WORDS = some false := by kernel_rfl
  have hc : dInB (.str "put") k_CUT_WORDS = some false := by kernel_rfl
  unfold b_behind
  generalize k_ARM_WORDS = ka at *
  generalize k_CUT_WORDS = kc at *
  walk_at "go"
  all_goals rfl
theorem bh_id (hw : w = "same" ∨ w = "reverse" ∨ w = "map") : runD 4 (b_behind rb rm) [.tup (.str w :: ds), o] = .ok o := by
  have hi : dInB (.str w) k_ARM_WORDS = some false := by rcases hw with rfl | rfl | rfl <;> kernel_rfl
  have hc : dInB (.str w) k_CUT_WORDS = some false := by rcases hw with rfl | rfl | rfl <;> kernel_rfl
  have n1 : ¬ (w = ("each" : Str)) := by rcases hw with rfl | rfl | rfl <;> decide +kernel
  have n2 : ¬ (w = ("times" : Str)) := by rcases hw with rfl | rfl | rfl <;> decide +kernel
  have n3 : ¬ (w = ("again" : Str)) := by rcases hw with rfl | rfl | rfl <;> decide +kernel
  have n4 : ¬ (w = ("turn" : Str)) := by rcases hw with rfl | rfl | rfl <;> decide +kernel
  have n5 : ¬ (w = ("none" : Str)) := by rcases hw with rfl | rfl | rfl <;> decide +kernel
  have n6 : ¬ (w = ("put" : Str)) := by rcases hw with rfl | rfl | rfl <;> decide +kernel
  clear hw
  unfold b_behind
  generalize k_ARM_WORDS = ka at *
  generalize k_CUT_WORDS = kc at *
  walk_at "go"
end
end LW
namespace LW
open PySem PySem.Spec PyProof.Rows DL
mutual
theorem Pt.bh_un : ∀ {p : Pt} {o n : Nb}, p.Wf → o.Ck → p.bh o = .ok n → n.Un
  | .pl w, o, n, h, ho, e => by
    rw [Pt.bh] at e
    cases e
    split
    · exact Nb.one_un
    · exact ho.u
  | .put x, o, n, h, ho, e => by
    rw [Pt.bh] at e
    cases e
    exact Nb.one1_un
  | .cut1 w b, o, n, h, ho, e => by
    rw [Pt.bh] at e
    cases e
    exact ho.cut (by decide) (by decide)
  | .cut3 w b s k, o, n, h, ho, e => by
    rw [Pt.bh] at e
    rw [Pt.Wf] at h
    cases e
    exact ho.cut (by omega) (by omega)
  | .each k i, o, n, h, ho, e => by
    rw [Pt.bh] at e
    rw [Pt.Wf] at h
    cases e
    exact ho.each (by omega) (by omega)
  | .rep w m, o, n, h, ho, e => by
    rw [Pt.bh] at e
    rw [Pt.Wf] at h
    cases e
    split
    · exact ho.times (by omega) (by omega)
    · split
      · exact ho.again (by omega) (by omega)
      · exact ho.turn (by omega) (by omega)
  | .map ns, o, n, h, ho, e => by
    rw [Pt.bh] at e
    cases e
    exact ho.u
  | .arm w l r, o, n, h, ho, e => by
    rw [Pt.bh] at e
    rw [Pt.Wf] at h
    cases e1 : l.ms o with
    | error x => rw [e1] at e; cases e
    | ok a =>
      rw [e1] at e
      cases e2 : r.ms o with
      | error x => rw [e2] at e; cases e
      | ok b =>
        rw [e2] at e
        cases e
        have c := (Rw.ms_ck h.2.1 ho e1).or (Rw.ms_ck h.2.2 ho e2)
        split
        · exact c.wv
        · exact c.u
  | .pair x l r, o, n, h, ho, e => by
    rw [Pt.bh] at e
    rw [Pt.Wf] at h
    cases e1 : l.ms o with
    | error x => rw [e1] at e; cases e
    | ok a =>
      rw [e1] at e
      cases e2 : r.ms o with
      | error x => rw [e2] at e; cases e
      | ok b =>
        rw [e2] at e
        cases e
        have ca := Rw.ms_ck h.2.1 ho e1
        have cb := Rw.ms_ck h.2.2 ho e2
        exact (ca.or cb).pr ca cb
  | .short x l r, o, n, h, ho, e => by
    rw [Pt.bh] at e
    rw [Pt.Wf] at h
    cases e1 : l.ms o with
    | error x => rw [e1] at e; cases e
    | ok a =>
      rw [e1] at e
      cases e2 : r.ms o with
      | error x => rw [e2] at e; cases e
      | ok b =>
        rw [e2] at e
        cases e
        exact ((Rw.ms_ck h.2.2.1 ho e1).or (Rw.ms_ck h.2.2.2 ho e2)).sht ho h.1
theorem Rw.ms_ck : ∀ {r : Rw} {o n : Nb}, r.Wf → o.Ck → r.ms o = .ok n → n.Ck
  | .one p, o, n, h, ho, e => by
    rw [Rw.ms] at e
    rw [Rw.Wf] at h
    cases e1 : p.bh o with
    | error x => rw [e1] at e; cases e
    | ok a =>
      rw [e1] at e
      exact Nb.ck_ok e (Pt.bh_un h ho e1)
  | .cons p r, o, n, h, ho, e => by
    rw [Rw.ms] at e
    rw [Rw.Wf] at h
    cases e1 : p.bh o with
    | error x => rw [e1] at e; cases e
    | ok a =>
      rw [e1] at e
      dsimp only at e
      cases e2 : a.ck with
      | error x => rw [e2] at e; cases e
      | ok b =>
        rw [e2] at e
        exact Rw.ms_ck h.2.1 (Nb.ck_ok e2 (Pt.bh_un h.1 ho e1)) e
end
theorem arm_w {w : Str} (h : w ∈ z_ARM_WORDS) : dInB (.str w) k_ARM_WORDS = some true := by rw [in_arm, decide_eq_true h]
theorem bh_ok {rb rm : List D → R D} : ∀ {p : Pt} {o : Nb}, p.Wf → o.Ck → (∀ a ∈ p.rws, ∀ o : Nb, o.Ck → rm [.tup a.enc, o.enc] = rE (a.ms o)) → runD 4 (b_behind rb rm) [p.enc, o.enc] = rE (p.bh o)
  | .pl w, o, h, ho, hr => by
    rw [Pt.Wf] at h
    rw [Pt.enc, Pt.bh]
    by_cases c : w = "none"
    · subst c
      rw [if_pos rfl]
      exact bh_none
    · rw [if_neg c]
      exact bh_id (by rcases plain_of h with rfl | rfl | rfl; exact .inl rfl; exact absurd rfl c; exact .inr (.inl rfl))
  | .put x, o, h, ho, hr => by
    rw [Pt.enc, Pt.bh]
    exact bh_put
  | .cut1 w b, o, h, ho, hr => by
    rw [Pt.Wf] at h
    rw [Pt.enc, Pt.bh]
    exact bh_cut (by rcases cut_of h.1 with rfl | rfl <;> kernel_rfl) (by rcases cut_of h.1 with rfl | rfl <;> kernel_rfl) (cut_e ho (by decide) (by decide))
  | .cut3 w b s k, o, h, ho, hr => by
    rw [Pt.Wf] at h
    rw [Pt.enc, Pt.bh]
    exact bh_cut (by rcases cut_of h.1 with rfl | rfl <;> kernel_rfl) (by rcases cut_of h.1 with rfl | rfl <;> kernel_rfl) (cut_e ho (by omega) (by omega))
  | .each k i, o, h, ho, hr => by
    rw [Pt.Wf] at h
    rw [Pt.enc, Pt.bh]
    exact bh_each (each_e ho (by omega) (by omega))
  | .rep w m, o, h, ho, hr => by
    rw [Pt.Wf] at h
    rw [Pt.enc, Pt.bh]
    rcases h.1 with rfl | rfl | rfl
    · rw [if_pos rfl]
      exact bh_times (times_e ho (by omega) (by omega))
    · rw [if_neg (by decide +kernel), if_pos rfl]
      exact bh_again (again_e ho (by omega) (by omega))
    · rw [if_neg (by decide +kernel), if_neg (by decide +kernel)]
      exact bh_turn (turn_e ho (by omega) (by omega))
  | .map ns, o, h, ho, hr => by
    rw [Pt.enc, Pt.bh]
    exact bh_id (.inr (.inr rfl))
  | .arm w l r, o, h, ho, hr => by
    rw [Pt.Wf] at h
    rw [Pt.enc, Pt.bh]
    have i := arm_w (w := w) (by rcases h.1 with rfl | rfl <;> decide +kernel)
    have r1 := hr l List.mem_cons_self o ho
    have r2 := hr r (List.mem_cons_of_mem _ List.mem_cons_self) o ho
    cases e1 : l.ms o with
    | error x => rw [e1] at r1; exact bh_arm1 i at_m2 r1
    | ok a =>
      rw [e1] at r1
      cases e2 : r.ms o with
      | error x => rw [e2] at r2; exact bh_arm2 i at_m2 at_m1' r1 r2
      | ok b =>
        rw [e2] at r2
        have ca := Rw.ms_ck h.2.1 ho e1
        have cb := Rw.ms_ck h.2.2 ho e2
        dsimp only
        rcases h.1 with rfl | rfl
        · rw [if_neg (by decide +kernel)]
          exact bh_arm i at_m2 at_m1' r1 r2 (join_e ca cb)
        · rw [if_pos rfl]
          exact bh_arm i at_m2 at_m1' r1 r2 (weave_e ca cb)
  | .pair x l r, o, h, ho, hr => by
    rw [Pt.Wf] at h
    rw [Pt.enc, Pt.bh]
    have i := arm_w (w := "pair") (by decide +kernel)
    have r1 := hr l List.mem_cons_self o ho
    have r2 := hr r (List.mem_cons_of_mem _ List.mem_cons_self) o ho
    cases e1 : l.ms o with
    | error x => rw [e1] at r1; exact bh_arm1 i at_m2' r1
    | ok a =>
      rw [e1] at r1
      cases e2 : r.ms o with
      | error x => rw [e2] at r2; exact bh_arm2 i at_m2' at_m1'' r1 r2
      | ok b =>
        rw [e2] at r2
        exact bh_arm i at_m2' at_m1'' r1 r2 (pair_e (Rw.ms_ck h.2.1 ho e1) (Rw.ms_ck h.2.2 ho e2))
  | .short x l r, o, h, ho, hr => by
    rw [Pt.Wf] at h
    rw [Pt.enc, Pt.bh]
    have i := arm_w (w := "short") (by decide +kernel)
    have r1 := hr l List.mem_cons_self o ho
    have r2 := hr r (List.mem_cons_of_mem _ List.mem_cons_self) o ho
    cases e1 : l.ms o with
    | error x => rw [e1] at r1; exact bh_arm1 i at_m2' r1
    | ok a =>
      rw [e1] at r1
      cases e2 : r.ms o with
      | error x => rw [e2] at r2; exact bh_arm2 i at_m2' at_m1'' r1 r2
      | ok b =>
        rw [e2] at r2
        exact bh_arm i at_m2' at_m1'' r1 r2 (short_e (Rw.ms_ck h.2.2.1 ho e1) (Rw.ms_ck h.2.2.2 ho e2) ho)
theorem l1_ok {rb rm : List D → R D} {s0 : DS} {o n k p : D} (h1 : rb [p, o] = .ok n) (h2 : m_checked [n] = .ok k) : l1_measured rb rm [s0, .fz o, .fz p] = .nx [s0, .fz k, .fz p] := by
  unfold l1_measured
  walk_at "go"
theorem l1_e1 {rb rm : List D → R D} {s0 : DS} {o p : D} {w : Str} {xs : List D} (h1 : rb [p, o] = .exc w xs) : l1_measured rb rm [s0, .fz o, .fz p] = .exc w xs := by
  have e : (fCons (fVar 2) (fCons (fVar 1) fNil)) [s0, .fz o, .fz p] = .ok [p, o] := by walk_at "go"
  unfold l1_measured
  rw [fSet_e, fCall_e, fCons_e, fCall_e, e, R.bind_ok, h1]
  rfl
theorem l1_e2 {rb rm : List D → R D} {s0 : DS} {o n p : D} {w : Str} {xs : List D} (h1 : rb [p, o] = .ok n) (h2 : m_checked [n] = .exc w xs) : l1_measured rb rm [s0, .fz o, .fz p] = .exc w xs := by
  have e : (fCons (fVar 2) (fCons (fVar 1) fNil)) [s0, .fz o, .fz p] = .ok [p, o] := by walk_at "go"
  unfold l1_measured
  rw [fSet_e, fCall_e, fCons_e, fCall_e, e, R.bind_ok, h1, R.bind_ok, fNil_e, R.bind_ok, R.bind_ok, h2]
  rfl
theorem loopF_exc {put : FP} {body : FS} {d : D} {ds xs : List D} {w : Str} {δ δ1 : DSt} (h1 : put δ d = some δ1) (h2 : body δ1 = .exc w xs) : loopF put body (d :: ds) δ = .exc w xs := by
  unfold loopF
  rw [h1]
  dsimp only
  rw [h2]
def msO (s0 : DS) : Except Str Nb → O → Prop
  | .ok n, o => ∃ s2, o = .nx [s0, .fz n.enc, s2]
  | .error w, o => o = .exc "TooLarge" [.str w]
theorem ms_loop {rb rm : List D → R D} {s0 : DS} {N : Nat} (hb : ∀ (p : Pt) (o : Nb), p.Wf → p.dep ≤ N → o.Ck → rb [p.enc, o.enc] = rE (p.bh o)) : ∀ (r : Rw) (o : Nb) (s2 : DS), r.Wf → r.dep ≤ N → o.Ck → msO s0 (r.ms o) (loopF (pName 2) (l1_measured rb rm) r.enc [s0, .fz o.enc, s2])
  | .one p, o, s2, h, hd, ho => by
    rw [Rw.Wf] at h
    rw [Rw.dep] at hd
    have b := hb p o h hd ho
    rw [Rw.enc, Rw.ms]
    cases e1 : p.bh o with
    | error x =>
      rw [e1] at b
      exact loopF_exc (put := pName 2) rfl (l1_e1 b)
    | ok n =>
      rw [e1] at b
      have c := ck_e (Pt.bh_un h ho e1)
      dsimp only
      cases e2 : n.ck with
      | error x =>
        rw [e2] at c
        exact loopF_exc (put := pName 2) rfl (l1_e2 b c)
      | ok k =>
        rw [e2] at c
        exact ⟨_, loopF_nx (put := pName 2) rfl (l1_ok b c)⟩
  | .cons p r, o, s2, h, hd, ho => by
    rw [Rw.Wf] at h
    rw [Rw.dep] at hd
    have b := hb p o h.1 (by omega) ho
    rw [Rw.enc, Rw.ms]
    cases e1 : p.bh o with
    | error x =>
      rw [e1] at b
      exact loopF_exc (put := pName 2) rfl (l1_e1 b)
    | ok n =>
      rw [e1] at b
      have c := ck_e (Pt.bh_un h.1 ho e1)
      dsimp only
      cases e2 : n.ck with
      | error x =>
        rw [e2] at c
        exact loopF_exc (put := pName 2) rfl (l1_e2 b c)
      | ok k =>
        rw [e2] at c
        dsimp only
        rw [loopF_nx (put := pName 2) rfl (l1_ok b c)]
        exact ms_loop hb r k _ h.2.1 (by omega) (Nb.ck_ok e2 (Pt.bh_un h.1 ho e1))
theorem mr_ok {rb rm : List D → R D} {N : Nat} (hb : ∀ (p : Pt) (o : Nb), p.Wf → p.dep ≤ N → o.Ck → rb [p.enc, o.enc] = rE (p.bh o)) {r : Rw} {o : Nb} (h : r.Wf) (hd : r.dep ≤ N) (ho : o.Ck) : runD 3 (b_measured rb rm) [.tup r.enc, o.enc] = rE (r.ms o) := by
  have lp := ms_loop (rm := rm) (s0 := .fz (.tup r.enc)) hb r o .un h hd ho
  clear hb
  have e0 : fItems (fVar 0) [.fz (.tup r.enc), .fz o.enc, .un] = .ok r.enc := by
    generalize r.enc = xs
    walk_at "go"
  cases e : r.ms o with
  | ok n =>
    rw [e] at lp
    obtain ⟨s2, lp⟩ := lp
    show _ = R.ok n.enc
    generalize r.enc = xs at *
    unfold b_measured
    walk_at "go"
  | error w =>
    rw [e] at lp
    have lp' : loopF (pName 2) (l1_measured rb rm) r.enc [.fz (.tup r.enc), .fz o.enc, .un] = .exc "TooLarge" [.str w] := lp
    show _ = R.exc "TooLarge" [.str w]
    clear lp
    generalize r.enc = xs at *
    unfold b_measured
    walk_at "go"
theorem ms_ok : ∀ n : Nat, (∀ (p : Pt) (o : Nb), p.Wf → o.Ck → 2 * p.dep + 1 ≤ n → m_behind n [p.enc, o.enc] = rE (p.bh o)) ∧ (∀ (r : Rw) (o : Nb), r.Wf → o.Ck → 2 * r.dep + 2 ≤ n → m_measured n [.tup r.enc, o.enc] = rE (r.ms o))
  | 0 => ⟨fun p _ _ _ h => absurd h (by omega), fun r _ _ _ h => absurd h (by omega)⟩
  | n + 1 => ⟨fun p o h ho hd => by
      rw [bh_S]
      exact bh_ok h ho fun a ha o ho => (ms_ok n).2 a o (rws_wf h a ha).1 ho (by have := (rws_wf h a ha).2; omega),
    fun r o h ho hd => by
      rw [ms_S]
      exact mr_ok (N := r.dep) (fun p o h ho hd2 => (ms_ok n).1 p o h hd2 (by omega)) h (Nat.le_refl _) ho⟩
def Rw.mp (r : Rw) : R D := if r.dep > 6 then .exc "TooLarge" [.str "depth"] else if r.cnt > 24 then .exc "TooLarge" [.str "parts"] else match r.mix with
  | some x => .exc "MixedName" [.str x]
  | none => rE (r.ms .one)
theorem mp_ok {r : Rw} (h : r.Wf) (hd : r.dep ≤ 50) (hc : r.cnt ≤ 9000) : m_measured_program [.tup r.enc] = r.mp := by
  have d := dep_ok 60 r h (by omega)
  have c := cnt_ok 60 r h (by omega)
  have m := mix_ok h hd hc
  unfold Rw.mp
  by_cases c1 : r.dep > 6
  · rw [if_pos c1]
    have g := decide_eq_true (show (r.dep : Int) > 6 by omega)
    clear h hd hc m c
    generalize r.enc = xs at *
    unfold m_measured_program b_measured_program
    walk_at "go"
  · rw [if_neg c1]
    have g := decide_eq_false (show ¬ (r.dep : Int) > 6 by omega)
    by_cases c2 : r.cnt > 24
    · rw [if_pos c2]
      have g2 := decide_eq_true (show (r.cnt : Int) > 24 by omega)
      clear h hd hc m
      generalize r.enc = xs at *
      unfold m_measured_program b_measured_program
      walk_at "go"
    · rw [if_neg c2]
      have g2 := decide_eq_false (show ¬ (r.cnt : Int) > 24 by omega)
      have ms := (ms_ok 60).2 r .one h Nb.one_ck (by omega)
      clear h hd hc
      cases e : r.mix with
      | some x =>
        rw [e] at m
        have m' : m_mixed_name [.tup r.enc] = .ok (.str x) := m
        have g3 : (!(D.str x).isNon) = true := rfl
        show _ = R.exc (Str.ofString "MixedName") [.str x]
        clear m ms
        generalize r.enc = xs at *
        unfold m_measured_program b_measured_program
        walk_at "go"
      | none =>
        rw [e] at m
        have m' : m_mixed_name [.tup r.enc] = .ok .non := m
        clear m
        dsimp only
        have e1 : (fCall (m_measured 60) (fCons (fVar 0) (fCons (fMakeSK "Numbers" 8 (gMrg [false, false, false, false, false, false, false, false] [1, 1, 1, 0, 1, 1, 1, 1]) fNil) fNil))) [.fz (.tup r.enc), .fz .non] = rE (r.ms .one) := by
          have e2 : (fCons (fVar 0) (fCons (fMakeSK "Numbers" 8 (gMrg [false, false, false, false, false, false, false, false] [1, 1, 1, 0, 1, 1, 1, 1]) fNil) fNil)) [.fz (.tup r.enc), .fz .non] = .ok [.tup r.enc, Nb.one.enc] := rfl
          rw [fCall_e, e2]
          exact ms
        cases e3 : r.ms .one with
        | ok n =>
          rw [e3] at e1
          have e4 : (fRet (fCall (m_measured 60) (fCons (fVar 0) (fCons (fMakeSK "Numbers" 8 (gMrg [false, false, false, false, false, false, false, false] [1, 1, 1, 0, 1, 1, 1, 1]) fNil) fNil)))) [.fz (.tup r.enc), .fz .non] = .rt n.enc [.fz (.tup r.enc), .fz .non] := by
            rw [fRet_e, e1]; rfl
          show _ = R.ok n.enc
          clear e1 ms
          generalize r.enc = xs at *
          unfold m_measured_program b_measured_program
          walk_at "go"
        | error w =>
          rw [e3] at e1
          have e4 : (fRet (fCall (m_measured 60) (fCons (fVar 0) (fCons (fMakeSK "Numbers" 8 (gMrg [false, false, false, false, false, false, false, false] [1, 1, 1, 0, 1, 1, 1, 1]) fNil) fNil)))) [.fz (.tup r.enc), .fz .non] = .exc "TooLarge" [.str w] := by
            rw [fRet_e, e1]; rfl
          show _ = R.exc "TooLarge" [.str w]
          clear e1 ms
          generalize r.enc = xs at *
          unfold m_measured_program b_measured_program
          walk_at "go"
end LW
namespace LW
open PySem PySem.Spec PyProof.Rows DL
local macro_rules | `(tactic| walk_at "sz") => `(tactic| first | assumption | exact fdiv_by (by omega) (by omega) | omega | exact lim64_by (by omega) | exact okLe_by (by simp only [List.length_append, List.length_cons, List.length_nil, List.length_map]; omega) | exact okLt_by (by simp only [List.length_append, List.length_cons, List.length_nil, List.length_map]; omega) | exact mulOk_l (by assumption) | exact mulOk_r (by assumption) | exact mulOk_l (lim64_by (by omega)) | exact mulOk_r (lim64_by (by omega)) | exact log_by (by omega) | (refine Eqb.lst ?_; repeat (first | exact EqbL.nil _ | refine EqbL.cons (Eqb.int _ _) ?_)) | (refine Eqb.tup ?_; repeat (first | exact EqbL.nil _ | refine EqbL.cons (Eqb.int _ _) ?_)))
local macro_rules | `(tactic| walk_at "e2") => `(tactic| simp (disch := walk_at "sz") only [R.bind_ok, R.bind_bad, R.bind_exc, R.of_some, R.of_none, O.on_ok, O.on_bad, O.on_exc, fVar_0, fVar_s, fOwn_0, fOwn_s, fC_e, fU_e, fB_e, fNil_e, fCons_e, fL_e, fCall_e, fTup_e, fLst_e, rIf_t, rIf_f, fIf_e, tBl_e, fTest_e, fTru_e, fNotB_e, fAndB_e, fOrB_e, fVal_e, fAnd_e, fOr_e, fNo_e, tInt_e, fSome_e, fSl_e, fSlOw_e, fLenOw_e, fIxOw_e, fInOw_e, thn_nx, thn_rt, thn_bk, thn_ct, thn_exc, thn_bad, fSeq_e, oIf_t, oIf_f, oIf_exc, fIfS_e, fSkip_e, fRet_e, fExp_e, fSet_e, fNew_e, fApp_e, fExt_e, fPop_e, fPut_e, fFrz_e, frz_0o, frz_s, fFor_e, fItems_e, fRange_e, fAsg_e, oMat_e, fMatch_e, fAug_e, fin_rt, fin_nx, fin_exc, runD_e, pName_e, pNil_e, pCons_e, pTup_e, dAdd_ii, dAdd_ss, dAdd_ll, dAdd_tt, dSub_ii, dMul_ii, dMul_li, dFdiv_ii, dMod_ii, dNeg_i, dLt_ii, dLe_ii, dGt_ii, dGe_ii, dIx_l, dIx_t, dIx_c, dIx_s, dLen_l, dLen_t, dLen_c, dLen_s, dAbs_i, dMax2_ii, dMin2_ii, dInt_i, dStr_i, dStr_s, dList_l, dList_t, dTuple_l, dTuple_t, dCut_l, dCut_t, dItems_l, dItems_t, dItems_s, dRange_1, dRange_2, dIsN_e, dNotN_e, isNon_n, isNon_b, isNon_i, isNon_s, isNon_t, isNon_l, isNon_o, dIsi_n, dIsi_b, dIsi_i, dIsi_s, dIsi_t, dIsi_l, dIn_e, dNotIn_e, dEqB_ss, dEqB_ii, dInB_strs, dInB_strsT, dEq_e, dNe_e, beq_self_eq_true, List.set_cons_zero, List.set_cons_succ, List.length_cons, List.length_nil, List.length_map, List.length_append, Option.map_some, Option.map_none, Option.bind_some, Option.bind_none, if_true, if_false, ite_true, ite_false, decide_true, decide_false, and_self, true_and, and_true, Int.zero_add, Int.toNat_natCast, cut_tl, cut_all, List.map_append, List.map_cons, List.map_nil, List.nil_append, List.cons_append, List.append_nil, List.replicate, Int.reduceLT, Int.reduceLE, Int.reduceAdd, Int.reduceSub, Int.reduceMul, Int.reduceNeg, Int.reduceToNat, Nat.reduceAdd, Nat.reduceSub, Nat.reduceLT, Nat.reduceLeDiff, Nat.reduceMul, Int.reduceEq, Nat.reduceEqDiff, Bool.not_true, Bool.not_false, Bool.and_true, Bool.true_and, Bool.and_false, Bool.false_and, Bool.or_true, Bool.true_or, Bool.or_false, Bool.false_or, Bool.and_self, Bool.or_self, reduceCtorEq, decide_eq_true_eq, Bool.false_eq_true, fLc_e, fLcL_e, lcF_nil, fJoin_e, rJoin_e, dJoin_l, oPop_ok, oPop_2, oPop_1, cast_0, cast_1, cast_2, cast_3, at_0, at_1, at_2, at_3, at_4, at_5, at_6, Int.reduceBEq, Nat.reduceBEq, oApp_ok, oExt_ok, fProp_e, rProp_e, quiet_ok, dSlot_e, fMakeSK_e, rMakeN_e, rNum_e, gMrg_e, mrg_t, mrg_f, mrg_n, fMethF_e, rMethF_e, dIntS_i, dAddS_ii, dAddS_ss, dGcd_ii, dLcm_ii, dLcm_iii, dEqB_self, at_7, at_8, at_9, at_10, at_11, at_12, at_13, at_14, at_15, at_m1, cut_toL, cut_fromL, cut_btw, List.take_succ_cons, List.take_zero, List.drop_succ_cons, List.drop_zero, List.take_nil, List.drop_nil, isT_NoneType_bool, isT_NoneType_int, isT_NoneType_str, isT_NoneType_list, isT_NoneType_tuple, isT_bool_bool, isT_bool_int, isT_bool_str, isT_bool_list, isT_bool_tuple, isT_int_bool, isT_int_int, isT_int_str, isT_int_list, isT_int_tuple, isT_str_bool, isT_str_int, isT_str_str, isT_str_list, isT_str_tuple, isT_list_bool, isT_list_int, isT_list_str, isT_list_list, isT_list_tuple, isT_tuple_bool, isT_tuple_int, isT_tuple_str, isT_tuple_list, isT_tuple_tuple, fSlS_e, dPick_l, fRange3_e, dRange3_e, fLc2_e, fCallK_e, fCallO_e, rCallO_e, fBin_e, rBin_e, oStore_s, oAsg_e2, fDic0_e, fCallV_e, List.getElem?_cons_zero, List.getElem?_cons_succ, *])
local macro_rules | `(tactic| walk_at "ev") => `(tactic| simp only [R.bind_ok, R.bind_bad, R.bind_exc, R.of_some, R.of_none, O.on_ok, O.on_bad, O.on_exc, fVar_0, fVar_s, fOwn_0, fOwn_s, fC_e, fU_e, fB_e, fNil_e, fCons_e, fL_e, fCall_e, fTup_e, fLst_e, rIf_t, rIf_f, fIf_e, tBl_e, fTest_e, fTru_e, fNotB_e, fAndB_e, fOrB_e, fVal_e, fAnd_e, fOr_e, fNo_e, tInt_e, fSome_e, fSl_e, fSlOw_e, fLenOw_e, fIxOw_e, fInOw_e, thn_nx, thn_rt, thn_bk, thn_ct, thn_exc, thn_bad, fSeq_e, oIf_t, oIf_f, oIf_exc, fIfS_e, fSkip_e, fRet_e, fExp_e, fSet_e, fNew_e, fApp_e, fExt_e, fPop_e, fPut_e, fFrz_e, frz_0o, frz_s, fFor_e, fItems_e, fRange_e, fAsg_e, oMat_e, fMatch_e, fAug_e, fin_rt, fin_nx, fin_exc, runD_e, pName_e, pNil_e, pCons_e, pTup_e, dAdd_ii, dAdd_ss, dAdd_ll, dAdd_tt, dSub_ii, dMul_ii, dMul_li, dFdiv_ii, dMod_ii, dNeg_i, dLt_ii, dLe_ii, dGt_ii, dGe_ii, dIx_l, dIx_t, dIx_c, dIx_s, dLen_l, dLen_t, dLen_c, dLen_s, dAbs_i, dMax2_ii, dMin2_ii, dInt_i, dStr_i, dStr_s, dList_l, dList_t, dTuple_l, dTuple_t, dCut_l, dCut_t, dItems_l, dItems_t, dItems_s, dRange_1, dRange_2, dIsN_e, dNotN_e, isNon_n, isNon_b, isNon_i, isNon_s, isNon_t, isNon_l, isNon_o, dIsi_n, dIsi_b, dIsi_i, dIsi_s, dIsi_t, dIsi_l, dIn_e, dNotIn_e, dEqB_ss, dEqB_ii, dInB_strs, dInB_strsT, dEq_e, dNe_e, beq_self_eq_true, List.set_cons_zero, List.set_cons_succ, List.length_cons, List.length_nil, List.length_map, List.length_append, Option.map_some, Option.map_none, Option.bind_some, Option.bind_none, if_true, if_false, ite_true, ite_false, decide_true, decide_false, and_self, true_and, and_true, Int.zero_add, Int.toNat_natCast, cut_tl, cut_all, List.map_append, List.map_cons, List.map_nil, List.nil_append, List.cons_append, List.append_nil, List.replicate, Int.reduceLT, Int.reduceLE, Int.reduceAdd, Int.reduceSub, Int.reduceMul, Int.reduceNeg, Int.reduceToNat, Nat.reduceAdd, Nat.reduceSub, Nat.reduceLT, Nat.reduceLeDiff, Nat.reduceMul, Int.reduceEq, Nat.reduceEqDiff, Bool.not_true, Bool.not_false, Bool.and_true, Bool.true_and, Bool.and_false, Bool.false_and, Bool.or_true, Bool.true_or, Bool.or_false, Bool.false_or, Bool.and_self, Bool.or_self, reduceCtorEq, decide_eq_true_eq, Bool.false_eq_true, fLc_e, fLcL_e, lcF_nil, fJoin_e, rJoin_e, dJoin_l, oPop_ok, oPop_2, oPop_1, cast_0, cast_1, cast_2, cast_3, at_0, at_1, at_2, at_3, at_4, at_5, at_6, Int.reduceBEq, Nat.reduceBEq, oApp_ok, oExt_ok, fProp_e, rProp_e, quiet_ok, dSlot_e, fMakeSK_e, rMakeN_e, rNum_e, gMrg_e, mrg_t, mrg_f, mrg_n, fMethF_e, rMethF_e, dIntS_i, dAddS_ii, dAddS_ss, dGcd_ii, dLcm_ii, dLcm_iii, at_7, at_8, at_9, at_10, at_11, at_12, at_13, at_14, at_15, isT_NoneType_bool, isT_NoneType_int, isT_NoneType_str, isT_NoneType_list, isT_NoneType_tuple, isT_bool_bool, isT_bool_int, isT_bool_str, isT_bool_list, isT_bool_tuple, isT_int_bool, isT_int_int, isT_int_str, isT_int_list, isT_int_tuple, isT_str_bool, isT_str_int, isT_str_str, isT_str_list, isT_str_tuple, isT_list_bool, isT_list_int, isT_list_str, isT_list_list, isT_list_tuple, isT_tuple_bool, isT_tuple_int, isT_tuple_str, isT_tuple_list, isT_tuple_tuple, fSlS_e, dPick_l, fRange3_e, dRange3_e, fLc2_e, fCallK_e, fCallO_e, rCallO_e, fBin_e, rBin_e, oStore_s, oAsg_e2, fDic0_e, fCallV_e, List.getElem?_cons_zero, List.getElem?_cons_succ, *])
local macro_rules | `(tactic| walk_at "rd") => `(tactic| simp (disch := walk_at "sz") only [R.bind_ok, R.bind_bad, R.bind_exc, R.of_some, R.of_none, O.on_ok, O.on_bad, O.on_exc, fVar_0, fVar_s, fOwn_0, fOwn_s, fC_e, fU_e, fB_e, fNil_e, fCons_e, fL_e, fCall_e, fTup_e, fLst_e, rIf_t, rIf_f, fIf_e, tBl_e, fTest_e, fTru_e, fNotB_e, fAndB_e, fOrB_e, fVal_e, fAnd_e, fOr_e, fNo_e, tInt_e, fSome_e, fSl_e, fSlOw_e, fLenOw_e, fIxOw_e, fInOw_e, thn_nx, thn_rt, thn_bk, thn_ct, thn_exc, thn_bad, fSeq_e, oIf_t, oIf_f, oIf_exc, fIfS_e, fSkip_e, fRet_e, fExp_e, fSet_e, fNew_e, fApp_e, fExt_e, fPop_e, fPut_e, fFrz_e, frz_0o, frz_s, fFor_e, fItems_e, fRange_e, fAsg_e, oMat_e, fMatch_e, fAug_e, fin_rt, fin_nx, fin_exc, runD_e, pName_e, pNil_e, pCons_e, pTup_e, dAdd_ii, dAdd_ss, dAdd_ll, dAdd_tt, dSub_ii, dMul_ii, dMul_li, dFdiv_ii, dMod_ii, dNeg_i, dLt_ii, dLe_ii, dGt_ii, dGe_ii, dIx_l, dIx_t, dIx_c, dIx_s, dLen_l, dLen_t, dLen_c, dLen_s, dAbs_i, dMax2_ii, dMin2_ii, dInt_i, dStr_i, dStr_s, dList_l, dList_t, dTuple_l, dTuple_t, dCut_l, dCut_t, dItems_l, dItems_t, dItems_s, dRange_1, dRange_2, dIsN_e, dNotN_e, isNon_n, isNon_b, isNon_i, isNon_s, isNon_t, isNon_l, isNon_o, dIsi_n, dIsi_b, dIsi_i, dIsi_s, dIsi_t, dIsi_l, dIn_e, dNotIn_e, dEqB_ss, dEqB_ii, dInB_strs, dInB_strsT, dEq_e, dNe_e, beq_self_eq_true, List.set_cons_zero, List.set_cons_succ, List.length_cons, List.length_nil, List.length_map, List.length_append, Option.map_some, Option.map_none, Option.bind_some, Option.bind_none, if_true, if_false, ite_true, ite_false, decide_true, decide_false, and_self, true_and, and_true, Int.zero_add, Int.toNat_natCast, cut_tl, cut_all, List.map_append, List.map_cons, List.map_nil, List.nil_append, List.cons_append, List.append_nil, List.replicate, Int.reduceLT, Int.reduceLE, Int.reduceAdd, Int.reduceSub, Int.reduceMul, Int.reduceNeg, Int.reduceToNat, Nat.reduceAdd, Nat.reduceSub, Nat.reduceLT, Nat.reduceLeDiff, Nat.reduceMul, Int.reduceEq, Nat.reduceEqDiff, Bool.not_true, Bool.not_false, Bool.and_true, Bool.true_and, Bool.and_false, Bool.false_and, Bool.or_true, Bool.true_or, Bool.or_false, Bool.false_or, Bool.and_self, Bool.or_self, reduceCtorEq, decide_eq_true_eq, Bool.false_eq_true, fLc_e, fLcL_e, lcF_nil, fJoin_e, rJoin_e, dJoin_l, oPop_ok, oPop_2, oPop_1, cast_0, cast_1, cast_2, cast_3, at_0, at_1, at_2, at_3, at_4, at_5, at_6, Int.reduceBEq, Nat.reduceBEq, oApp_ok, oExt_ok, fProp_e, rProp_e, quiet_ok, dSlot_e, fMakeSK_e, rMakeN_e, rNum_e, gMrg_e, mrg_t, mrg_f, mrg_n, fMethF_e, rMethF_e, dIntS_i, dAddS_ii, dAddS_ss, dGcd_ii, dLcm_ii, dLcm_iii, dEqB_self, at_7, at_8, at_9, at_10, at_11, at_12, at_13, at_14, at_15, at_m1, cut_toL, cut_fromL, cut_btw, List.take_succ_cons, List.take_zero, List.drop_succ_cons, List.drop_zero, List.take_nil, List.drop_nil, isT_NoneType_bool, isT_NoneType_int, isT_NoneType_str, isT_NoneType_list, isT_NoneType_tuple, isT_bool_bool, isT_bool_int, isT_bool_str, isT_bool_list, isT_bool_tuple, isT_int_bool, isT_int_int, isT_int_str, isT_int_list, isT_int_tuple, isT_str_bool, isT_str_int, isT_str_str, isT_str_list, isT_str_tuple, isT_list_bool, isT_list_int, isT_list_str, isT_list_list, isT_list_tuple, isT_tuple_bool, isT_tuple_int, isT_tuple_str, isT_tuple_list, isT_tuple_tuple, fSlS_e, dPick_l, fRange3_e, dRange3_e, fLc2_e, fCallK_e, fCallO_e, rCallO_e, fBin_e, rBin_e, oStore_s, oAsg_e2, fDic0_e, fCallV_e, List.getElem?_cons_zero, List.getElem?_cons_succ, runM_e, finM_rt, finM_nx, self_r, fld_at, fld_depth, fld_toks, step_at, step_in, step_out, meth_number, meth_name, meth_name_list, meth_sign, meth_row, meth_arm, meth_part, meth_cut, meth_other, rmeth_r, fPure_e, fNilX_e, fConsX_e, fTupX_e, fRetX_e, fExpX_e, fSetX_e, fNewX_e, oAppX_e, fAppX_e, view_tok, *])
theorem isName_len {n : Str} (h : isName n) : n.length ≤ 3 := by
  by_cases c : n.length ≤ 3
  · exact c
  · unfold isName at h
    by_cases o : okLe n.length = true
    · have e : m_is_name [.str n] = .ok (.bl false) := by
        have g : decide ((n.length : Int) > 3) = true := decide_eq_true (by omega)
        have g0 : ((n.length : Int) == 0) = false := beq_false_of_ne (by omega)
        unfold m_is_name b_is_name
        clear h c
        walk_at "e2"
      rw [e] at h
      cases h
    · have e : m_is_name [.str n] = .bad := by
        have g : dLen [.str n] = none := if_neg o
        unfold m_is_name b_is_name
        clear h c o
        walk_at "e2"
        try rfl
      rw [e] at h
      cases h
local macro_rules | `(tactic| walk_at "rd") => `(tactic| simp (disch := walk_at "sz") only [R.bind_ok, R.bind_bad, R.bind_exc, R.of_some, R.of_none, O.on_ok, O.on_bad, O.on_exc, fVar_0, fVar_s, fOwn_0, fOwn_s, fC_e, fU_e, fB_e, fNil_e, fCons_e, fL_e, fCall_e, fTup_e, fLst_e, rIf_t, rIf_f, fIf_e, tBl_e, fTest_e, fTru_e, fNotB_e, fAndB_e, fOrB_e, fVal_e, fAnd_e, fOr_e, fNo_e, tInt_e, fSome_e, fSl_e, fSlOw_e, fLenOw_e, fIxOw_e, fInOw_e, thn_nx, thn_rt, thn_bk, thn_ct, thn_exc, thn_bad, fSeq_e, oIf_t, oIf_f, oIf_exc, fIfS_e, fSkip_e, fRet_e, fExp_e, fSet_e, fNew_e, fApp_e, fExt_e, fPop_e, fPut_e, fFrz_e, frz_0o, frz_s, fFor_e, fItems_e, fRange_e, fAsg_e, oMat_e, fMatch_e, fAug_e, fin_rt, fin_nx, fin_exc, runD_e, pName_e, pNil_e, pCons_e, pTup_e, dAdd_ii, dAdd_ss, dAdd_ll, dAdd_tt, dSub_ii, dMul_ii, dMul_li, dFdiv_ii, dMod_ii, dNeg_i, dLt_ii, dLe_ii, dGt_ii, dGe_ii, dIx_l, dIx_t, dIx_c, dIx_s, dLen_l, dLen_t, dLen_c, dLen_s, dAbs_i, dMax2_ii, dMin2_ii, dInt_i, dStr_i, dStr_s, dList_l, dList_t, dTuple_l, dTuple_t, dCut_l, dCut_t, dItems_l, dItems_t, dItems_s, dRange_1, dRange_2, dIsN_e, dNotN_e, isNon_n, isNon_b, isNon_i, isNon_s, isNon_t, isNon_l, isNon_o, dIsi_n, dIsi_b, dIsi_i, dIsi_s, dIsi_t, dIsi_l, dIn_e, dNotIn_e, dEqB_ss, dEqB_ii, dInB_strs, dInB_strsT, dEq_e, dNe_e, beq_self_eq_true, List.set_cons_zero, List.set_cons_succ, List.length_cons, List.length_nil, List.length_map, List.length_append, Option.map_some, Option.map_none, Option.bind_some, Option.bind_none, if_true, if_false, ite_true, ite_false, decide_true, decide_false, and_self, true_and, and_true, Int.zero_add, Int.toNat_natCast, cut_tl, cut_all, List.map_append, List.map_cons, List.map_nil, List.nil_append, List.cons_append, List.append_nil, List.replicate, Int.reduceLT, Int.reduceLE, Int.reduceAdd, Int.reduceSub, Int.reduceMul, Int.reduceNeg, Int.reduceToNat, Nat.reduceAdd, Nat.reduceSub, Nat.reduceLT, Nat.reduceLeDiff, Nat.reduceMul, Int.reduceEq, Nat.reduceEqDiff, Bool.not_true, Bool.not_false, Bool.and_true, Bool.true_and, Bool.and_false, Bool.false_and, Bool.or_true, Bool.true_or, Bool.or_false, Bool.false_or, Bool.and_self, Bool.or_self, reduceCtorEq, decide_eq_true_eq, Bool.false_eq_true, fLc_e, fLcL_e, lcF_nil, fJoin_e, rJoin_e, dJoin_l, oPop_ok, oPop_2, oPop_1, cast_0, cast_1, cast_2, cast_3, at_0, at_1, at_2, at_3, at_4, at_5, at_6, Int.reduceBEq, Nat.reduceBEq, oApp_ok, oExt_ok, fProp_e, rProp_e, quiet_ok, dSlot_e, fMakeSK_e, rMakeN_e, rNum_e, gMrg_e, mrg_t, mrg_f, mrg_n, fMethF_e, rMethF_e, dIntS_i, dAddS_ii, dAddS_ss, dGcd_ii, dLcm_ii, dLcm_iii, dEqB_self, at_7, at_8, at_9, at_10, at_11, at_12, at_13, at_14, at_15, at_m1, cut_toL, cut_fromL, cut_btw, List.take_succ_cons, List.take_zero, List.drop_succ_cons, List.drop_zero, List.take_nil, List.drop_nil, isT_NoneType_bool, isT_NoneType_int, isT_NoneType_str, isT_NoneType_list, isT_NoneType_tuple, isT_bool_bool, isT_bool_int, isT_bool_str, isT_bool_list, isT_bool_tuple, isT_int_bool, isT_int_int, isT_int_str, isT_int_list, isT_int_tuple, isT_str_bool, isT_str_int, isT_str_str, isT_str_list, isT_str_tuple, isT_list_bool, isT_list_int, isT_list_str, isT_list_list, isT_list_tuple, isT_tuple_bool, isT_tuple_int, isT_tuple_str, isT_tuple_list, isT_tuple_tuple, fSlS_e, dPick_l, fRange3_e, dRange3_e, fLc2_e, fCallK_e, fCallO_e, rCallO_e, fBin_e, rBin_e, oStore_s, oAsg_e2, fDic0_e, fCallV_e, List.getElem?_cons_zero, List.getElem?_cons_succ, runM_e, finM_rt, finM_nx, self_r, fld_at, fld_depth, fld_toks, step_at, step_in, step_out, meth_number, meth_name, meth_name_list, meth_sign, meth_row, meth_arm, meth_part, meth_cut, meth_other, rmeth_r, fPure_e, fNilX_e, fConsX_e, fTupX_e, fRetX_e, fExpX_e, fSetX_e, fNewX_e, oAppX_e, fAppX_e, view_tok, *])
section
variable {t : List Str} {a b d n : Nat} {x y : D} {w : Str}
theorem wd_plain : ∀ w ∈ z_PLAIN_WORDS, dInB (.str w) k_WORDS = some true ∧ dInB (.str w) k_PLAIN_WORDS = some true := by decide +kernel
theorem wd_cut : ∀ w ∈ z_CUT_WORDS, dInB (.str w) k_WORDS = some true ∧ dInB (.str w) k_PLAIN_WORDS = some false ∧ dInB (.str w) k_CUT_WORDS = some true := by decide +kernel
def oWords : List Str := ["put", "each", "times", "again", "turn", "map", "pair", "short", "join", "weave"]
theorem wd_other : ∀ w ∈ oWords, dInB (.str w) k_WORDS = some true ∧ dInB (.str w) k_PLAIN_WORDS = some false ∧ dInB (.str w) k_CUT_WORDS = some false := by decide +kernel
theorem part_e : m_Reader_part (n + 1) = runM "Reader" 2 (b_Reader_part (m_Reader_row n) (m_Reader_arm n) (m_Reader_part n) (m_Reader_other n)) := rfl
theorem other_e : m_Reader_other (n + 1) = runM "Reader" 5 (b_Reader_other (m_Reader_row n) (m_Reader_arm n) (m_Reader_part n) (m_Reader_other n)) := rfl
theorem arm_e : m_Reader_arm (n + 1) = runM "Reader" 2 (b_Reader_arm (m_Reader_row n) (m_Reader_arm n) (m_Reader_part n) (m_Reader_other n)) := rfl
theorem row_e : m_Reader_row (n + 1) = runM "Reader" 2 (b_Reader_row (m_Reader_row n) (m_Reader_arm n) (m_Reader_part n) (m_Reader_other n)) := rfl
theorem rp_plain (h : tkA t a = w) (hw : w ∈ z_PLAIN_WORDS) : m_Reader_part (n + 1) (rs t a d) [] = .ok (.tup [.str w], rs t (a + 1) d) := by
  obtain ⟨h1, h2⟩ := wd_plain w hw
  rw [part_e]
  unfold b_Reader_part
  clear hw
  generalize k_WORDS = k1 at *
  generalize k_PLAIN_WORDS = k2 at *
  generalize k_CUT_WORDS = k3 at *
  walk_at "rd"
theorem rp_cut (h : tkA t a = w) (hw : w ∈ z_CUT_WORDS) (hc : m_Reader_cut (rs t (a + 1) d) [.str w] = .ok (x, rs t b d)) : m_Reader_part (n + 1) (rs t a d) [] = .ok (x, rs t b d) := by
  obtain ⟨h1, h2, h3⟩ := wd_cut w hw
  rw [part_e]
  unfold b_Reader_part
  clear hw
  generalize k_WORDS = k1 at *
  generalize k_PLAIN_WORDS = k2 at *
  generalize k_CUT_WORDS = k3 at *
  walk_at "rd"
theorem rp_other (h : tkA t a = w) (hw : w ∈ oWords) (hc : m_Reader_other n (rs t (a + 1) d) [.str w] = .ok (x, rs t b d)) : m_Reader_part (n + 1) (rs t a d) [] = .ok (x, rs t b d) := by
  obtain ⟨h1, h2, h3⟩ := wd_other w hw
  rw [part_e]
  unfold b_Reader_part
  clear hw
  generalize k_WORDS = k1 at *
  generalize k_PLAIN_WORDS = k2 at *
  generalize k_CUT_WORDS = k3 at *
  walk_at "rd"
theorem ro_put (h : isName (tkA t a)) : m_Reader_other (n + 1) (rs t a d) [.str ("put" : Str)] = .ok (.tup [.str ("put" : Str), .str (tkA t a)], rs t (a + 1) d) := by
  have r := rd_name (d := d) h
  rw [other_e]
  unfold b_Reader_other
  clear h
  walk_at "rd"
theorem ro_each {k i : Int} (h : tkA t a = numS k) (h2 : tkA t (a + 1) = numS i) (hk : 1 ≤ k) (hk2 : k ≤ 9) (hi : 0 ≤ i) (hi2 : i < k) : m_Reader_other (n + 1) (rs t a d) [.str ("each" : Str)] = .ok (.tup [.str ("each" : Str), .int k, .int i], rs t (a + 1 + 1) d) := by
  have r := rd_number (t := t) (a := a) (d := d) (lo := 1) (hi := 9) h (by omega) (by omega) hk hk2
  have r2 := rd_number (t := t) (a := a + 1) (d := d) (lo := 0) (hi := k - 1) h2 (by omega) (by omega) hi (by omega)
  have n1 : (("each" : Str) = ("put" : Str)) = False := by decide +kernel
  rw [other_e]
  unfold b_Reader_other
  clear h h2 hk hk2 hi hi2
  walk_at "rd"
theorem ro_rep {m : Int} (h : tkA t a = numS m) (hw : w = ("times" : Str) ∨ w = ("again" : Str) ∨ w = ("turn" : Str)) (hm : 1 ≤ m) (hm2 : m ≤ 9) : m_Reader_other (n + 1) (rs t a d) [.str w] = .ok (.tup [.str w, .int m], rs t (a + 1) d) := by
  have r := rd_number (t := t) (a := a) (d := d) (lo := 1) (hi := 9) h (by omega) (by omega) hm hm2
  have n1 : (w = ("put" : Str)) = False := by rcases hw with rfl | rfl | rfl <;> decide +kernel
  have n2 : (w = ("each" : Str)) = False := by rcases hw with rfl | rfl | rfl <;> decide +kernel
  have n3 : (w ∈ (["times", "again", "turn"] : List Str)) = True := by rcases hw with rfl | rfl | rfl <;> decide +kernel
  rw [other_e]
  unfold b_Reader_other
  clear h hm hm2 hw
  walk_at "rd"
theorem ro_map {e : Nat} (h : m_Reader_name_list (rs t a d) [] = .ok (x, rs t e d)) : m_Reader_other (n + 1) (rs t a d) [.str ("map" : Str)] = .ok (.tup [.str ("map" : Str), x], rs t e d) := by
  have n1 : (("map" : Str) = ("put" : Str)) = False := by decide +kernel
  have n2 : (("map" : Str) = ("each" : Str)) = False := by decide +kernel
  have n3 : (("map" : Str) ∈ (["times", "again", "turn"] : List Str)) = False := by decide +kernel
  rw [other_e]
  unfold b_Reader_other
  walk_at "rd"
theorem ro_pair {e f : Nat} (h : isName (tkA t a)) (hl : m_Reader_arm n (rs t (a + 1) d) [] = .ok (x, rs t e d)) (hr : m_Reader_arm n (rs t e d) [] = .ok (y, rs t f d)) : m_Reader_other (n + 1) (rs t a d) [.str ("pair" : Str)] = .ok (.tup [.str ("pair" : Str), .str (tkA t a), x, y], rs t f d) := by
  have r := rd_name (d := d) h
  have n1 : (("pair" : Str) = ("put" : Str)) = False := by decide +kernel
  have n2 : (("pair" : Str) = ("each" : Str)) = False := by decide +kernel
  have n3 : (("pair" : Str) ∈ (["times", "again", "turn"] : List Str)) = False := by decide +kernel
  have n4 : (("pair" : Str) = ("map" : Str)) = False := by decide +kernel
  rw [other_e]
  unfold b_Reader_other
  clear h
  walk_at "rd"
theorem ro_short {c : Int} {e f : Nat} (h : tkA t a = numS c) (hc : 0 ≤ c) (hc2 : c ≤ 99) (hl : m_Reader_arm n (rs t (a + 1) d) [] = .ok (x, rs t e d)) (hr : m_Reader_arm n (rs t e d) [] = .ok (y, rs t f d)) : m_Reader_other (n + 1) (rs t a d) [.str ("short" : Str)] = .ok (.tup [.str ("short" : Str), .int c, x, y], rs t f d) := by
  have r := rd_number (t := t) (a := a) (d := d) (lo := 0) (hi := 99) h (by omega) (by omega) hc hc2
  have n1 : (("short" : Str) = ("put" : Str)) = False := by decide +kernel
  have n2 : (("short" : Str) = ("each" : Str)) = False := by decide +kernel
  have n3 : (("short" : Str) ∈ (["times", "again", "turn"] : List Str)) = False := by decide +kernel
  have n4 : (("short" : Str) = ("map" : Str)) = False := by decide +kernel
  have n5 : (("short" : Str) = ("pair" : Str)) = False := by decide +kernel
  rw [other_e]
  unfold b_Reader_other
  clear h hc hc2
  walk_at "rd"
theorem ro_arm {e f : Nat} (hw : w = ("join" : Str) ∨ w = ("weave" : Str)) (hl : m_Reader_arm n (rs t a d) [] = .ok (x, rs t e d)) (hr : m_Reader_arm n (rs t e d) [] = .ok (y, rs t f d)) : m_Reader_other (n + 1) (rs t a d) [.str w] = .ok (.tup [.str w, x, y], rs t f d) := by
  have n1 : (w = ("put" : Str)) = False := by rcases hw with rfl | rfl <;> decide +kernel
  have n2 : (w = ("each" : Str)) = False := by rcases hw with rfl | rfl <;> decide +kernel
  have n3 : (w ∈ (["times", "again", "turn"] : List Str)) = False := by rcases hw with rfl | rfl <;> decide +kernel
  have n4 : (w = ("map" : Str)) = False := by rcases hw with rfl | rfl <;> decide +kernel
  have n5 : (w = ("pair" : Str)) = False := by rcases hw with rfl | rfl <;> decide +kernel
  have n6 : (w = ("short" : Str)) = False := by rcases hw with rfl | rfl <;> decide +kernel
  rw [other_e]
  unfold b_Reader_other
  clear hw
  walk_at "rd"
theorem ra_arm (h : tkA t a = "(") (hd : d < 6) (hr : m_Reader_row n (rs t (a + 1) (d + 1)) [] = .ok (x, rs t b (d + 1))) (hc : tkA t b = ")") : m_Reader_arm (n + 1) (rs t a d) [] = .ok (x, rs t (b + 1) d) := by
  have r := rd_open h hd
  have r2 := rd_close (d := d) hc
  rw [arm_e]
  unfold b_Reader_arm
  clear h hd hc
  walk_at "rd"
abbrev semiC : FB := fTest (fB dEq (fView "Reader" "token" 0 m_Reader_token fNil) (fC (.str ";")))
abbrev rowB (n : Nat) : FS := l1_Reader_row (m_Reader_row n) (m_Reader_arm n) (m_Reader_part n) (m_Reader_other n)
theorem row_stop {f : Nat} {found : List D} (h : tkA t a ≠ ";") : whileF semiC (rowB n) (f + 1) [ro t a d, .ow found] = .nx [ro t a d, .ow found] := by
  refine whileF_f ?_
  have e : dEqB (.str (tkA t a)) (.str (Str.ofString ";")) = some false := by rw [dEqB_ss]; exact congrArg some (decide_eq_false h)
  clear h
  walk_at "rd"
theorem row_step {f : Nat} {found : List D} (h : tkA t a = ";") (hp : m_Reader_part n (rs t (a + 1) d) [] = .ok (x, rs t b d)) (o : okLt found.length = true) : whileF semiC (rowB n) (f + 1) [ro t a d, .ow found] = whileF semiC (rowB n) f [ro t b d, .ow (found ++ [x])] := by
  refine whileF_t ?_ ?_
  · walk_at "rd"
  · unfold rowB l1_Reader_row
    walk_at "rd"
theorem row_all {e : Nat} {xs : List D} (hp : m_Reader_part n (rs t a d) [] = .ok (x, rs t b d)) (hl : whileF semiC (rowB n) 1000 [ro t b d, .ow [x]] = .nx [ro t e d, .ow xs]) : m_Reader_row (n + 1) (rs t a d) [] = .ok (.tup xs, rs t e d) := by
  rw [row_e]
  unfold b_Reader_row
  walk_at "rd"
end
theorem drop_app {t l post : List Str} {a : Nat} (h : t.drop a = l ++ post) : t.drop (a + l.length) = post := by
  rw [← List.drop_drop, h, List.drop_left]
mutual
theorem read_part : ∀ (p : Pt) {t : List Str} {a d n : Nat} {post : List Str}, p.Wf → 4 * p.dep + 2 ≤ n → p.dep + d ≤ 6 → t.drop a = p.tok ++ post → EndT (hd0 post) → m_Reader_part n (rs t a d) [] = .ok (p.enc, rs t (a + p.tok.length) d)
  | .pl w, t, a, d, n, post, h, hn, _, ht, he => by
    obtain ⟨n, rfl⟩ : ∃ k, n = k + 1 := ⟨n - 1, by omega⟩
    rw [Pt.Wf] at h
    rw [Pt.tok] at ht
    exact rp_plain (tk_of ht).1 h
  | .put m, t, a, d, n, post, h, hn, _, ht, he => by
    obtain ⟨n, rfl⟩ : ∃ k, n = k + 2 := ⟨n - 2, by omega⟩
    rw [Pt.Wf] at h
    rw [Pt.tok] at ht
    obtain ⟨e, h2⟩ := tk_of ht
    obtain ⟨e2, h3⟩ := tk_of h2
    rw [← e2] at h
    have := rp_other (n := n + 1) e (by decide +kernel) (ro_put (d := d) h)
    rw [e2] at this
    exact this
  | .cut1 w b, t, a, d, n, post, h, hn, _, ht, he => by
    obtain ⟨n, rfl⟩ : ∃ k, n = k + 2 := ⟨n - 2, by omega⟩
    rw [Pt.Wf] at h
    rw [Pt.tok] at ht
    obtain ⟨e, h2⟩ := tk_of ht
    obtain ⟨e2, h3⟩ := tk_of h2
    have h4 := tk_hd h3
    exact rp_cut (n := n + 1) e h.1 (rd_cut1 e2 h.2.1 h.2.2 (h4 ▸ he))
  | .cut3 w b s k, t, a, d, n, post, h, hn, _, ht, he => by
    obtain ⟨n, rfl⟩ : ∃ k, n = k + 2 := ⟨n - 2, by omega⟩
    rw [Pt.Wf] at h
    rw [Pt.tok] at ht
    obtain ⟨e, h2⟩ := tk_of ht
    obtain ⟨e2, h3⟩ := tk_of h2
    obtain ⟨e3, h4⟩ := tk_of h3
    obtain ⟨e4, h5⟩ := tk_of h4
    obtain ⟨g1, g2, g3, g4, g5, g6, g7, g8⟩ := h
    exact rp_cut (n := n + 1) e g1 (rd_cut3 e2 g2 g3 e3 g4 g5 e4 g6 g7 g8)
  | .each k i, t, a, d, n, post, h, hn, _, ht, he => by
    obtain ⟨n, rfl⟩ : ∃ k, n = k + 2 := ⟨n - 2, by omega⟩
    rw [Pt.Wf] at h
    rw [Pt.tok] at ht
    obtain ⟨e, h2⟩ := tk_of ht
    obtain ⟨e2, h3⟩ := tk_of h2
    obtain ⟨e3, h4⟩ := tk_of h3
    obtain ⟨g1, g2, g3, g4⟩ := h
    exact rp_other (n := n + 1) e (by decide +kernel) (ro_each e2 e3 g1 g2 g3 g4)
  | .rep w m, t, a, d, n, post, h, hn, _, ht, he => by
    obtain ⟨n, rfl⟩ : ∃ k, n = k + 2 := ⟨n - 2, by omega⟩
    rw [Pt.Wf] at h
    rw [Pt.tok] at ht
    obtain ⟨e, h2⟩ := tk_of ht
    obtain ⟨e2, h3⟩ := tk_of h2
    obtain ⟨g1, g2, g3⟩ := h
    exact rp_other (n := n + 1) e (by rcases g1 with rfl | rfl | rfl <;> decide +kernel) (ro_rep e2 g1 g2 g3)
  | .map ns, t, a, d, n, post, h, hn, _, ht, he => by
    obtain ⟨n, rfl⟩ : ∃ k, n = k + 2 := ⟨n - 2, by omega⟩
    rw [Pt.Wf] at h
    rw [Pt.tok] at ht ⊢
    obtain ⟨e, h2⟩ := tk_of (show t.drop a = ("map" : Str) :: (ns ++ post) from ht)
    obtain ⟨g1, g2, g3⟩ := h
    have := rp_other (n := n + 1) e (by decide +kernel) (ro_map (rd_names (d := d) g1 g2 h2 g3 he))
    rw [List.length_cons, show a + (ns.length + 1) = a + 1 + ns.length by omega]
    exact this
  | .arm w l r, t, a, d, n, post, h, hn, hd, ht, he => by
    rw [Pt.dep] at hn
    obtain ⟨n, rfl⟩ : ∃ k, n = k + 4 := ⟨n - 4, by omega⟩
    rw [Pt.Wf] at h
    rw [Pt.dep] at hd
    rw [Pt.tok] at ht ⊢
    obtain ⟨g1, g2, g3⟩ := h
    obtain ⟨e, h2⟩ := tk_of (show t.drop a = w :: ("(" : Str) :: (l.tok ++ (")" : Str) :: ("(" : Str) :: (r.tok ++ (")" : Str) :: post)) by rw [ht]; simp)
    obtain ⟨e1, h3⟩ := tk_of h2
    have h4 := drop_app h3
    obtain ⟨e2, h5⟩ := tk_of h4
    obtain ⟨e3, h6⟩ := tk_of h5
    have h7 := drop_app h6
    obtain ⟨e4, h8⟩ := tk_of h7
    have pl := ra_arm e1 (by omega) (read_row l (d := d + 1) (n := n + 1) g2 (by omega) (by omega) h3 (.inr rfl)) e2
    have pr := ra_arm e3 (by omega) (read_row r (d := d + 1) (n := n + 1) g3 (by omega) (by omega) h6 (.inr rfl)) e4
    have := rp_other (n := n + 3) e (by rcases g1 with rfl | rfl <;> decide +kernel) (ro_arm g1 pl pr)
    rw [show a + (w :: ("(" : Str) :: (l.tok ++ (")" : Str) :: ("(" : Str) :: (r.tok ++ [(")" : Str)]))).length = a + 1 + 1 + l.tok.length + 1 + 1 + r.tok.length + 1 by simp; omega]
    rw [Pt.enc]
    exact this
  | .pair m l r, t, a, d, n, post, h, hn, hd, ht, he => by
    rw [Pt.dep] at hn
    obtain ⟨n, rfl⟩ : ∃ k, n = k + 4 := ⟨n - 4, by omega⟩
    rw [Pt.Wf] at h
    rw [Pt.dep] at hd
    rw [Pt.tok] at ht ⊢
    obtain ⟨g1, g2, g3⟩ := h
    obtain ⟨e, h2⟩ := tk_of (show t.drop a = ("pair" : Str) :: m :: ("(" : Str) :: (l.tok ++ (")" : Str) :: ("(" : Str) :: (r.tok ++ (")" : Str) :: post)) by rw [ht]; simp)
    obtain ⟨e0, h2⟩ := tk_of h2
    obtain ⟨e1, h3⟩ := tk_of h2
    have h4 := drop_app h3
    obtain ⟨e2, h5⟩ := tk_of h4
    obtain ⟨e3, h6⟩ := tk_of h5
    have h7 := drop_app h6
    obtain ⟨e4, h8⟩ := tk_of h7
    have pl := ra_arm e1 (by omega) (read_row l (d := d + 1) (n := n + 1) g2 (by omega) (by omega) h3 (.inr rfl)) e2
    have pr := ra_arm e3 (by omega) (read_row r (d := d + 1) (n := n + 1) g3 (by omega) (by omega) h6 (.inr rfl)) e4
    rw [← e0] at g1
    have := rp_other (n := n + 3) e (by decide +kernel) (ro_pair g1 pl pr)
    rw [e0] at this
    rw [show a + (("pair" : Str) :: m :: ("(" : Str) :: (l.tok ++ (")" : Str) :: ("(" : Str) :: (r.tok ++ [(")" : Str)]))).length = a + 1 + 1 + 1 + l.tok.length + 1 + 1 + r.tok.length + 1 by simp; omega]
    rw [Pt.enc]
    exact this
  | .short c l r, t, a, d, n, post, h, hn, hd, ht, he => by
    rw [Pt.dep] at hn
    obtain ⟨n, rfl⟩ : ∃ k, n = k + 4 := ⟨n - 4, by omega⟩
    rw [Pt.Wf] at h
    rw [Pt.dep] at hd
    rw [Pt.tok] at ht ⊢
    obtain ⟨f1, f2, g2, g3⟩ := h
    obtain ⟨e, h2⟩ := tk_of (show t.drop a = ("short" : Str) :: numS c :: ("(" : Str) :: (l.tok ++ (")" : Str) :: ("(" : Str) :: (r.tok ++ (")" : Str) :: post)) by rw [ht]; simp)
    obtain ⟨e0, h2⟩ := tk_of h2
    obtain ⟨e1, h3⟩ := tk_of h2
    have h4 := drop_app h3
    obtain ⟨e2, h5⟩ := tk_of h4
    obtain ⟨e3, h6⟩ := tk_of h5
    have h7 := drop_app h6
    obtain ⟨e4, h8⟩ := tk_of h7
    have pl := ra_arm e1 (by omega) (read_row l (d := d + 1) (n := n + 1) g2 (by omega) (by omega) h3 (.inr rfl)) e2
    have pr := ra_arm e3 (by omega) (read_row r (d := d + 1) (n := n + 1) g3 (by omega) (by omega) h6 (.inr rfl)) e4
    have := rp_other (n := n + 3) e (by decide +kernel) (ro_short e0 f1 f2 pl pr)
    rw [show a + (("short" : Str) :: numS c :: ("(" : Str) :: (l.tok ++ (")" : Str) :: ("(" : Str) :: (r.tok ++ [(")" : Str)]))).length = a + 1 + 1 + 1 + l.tok.length + 1 + 1 + r.tok.length + 1 by simp; omega]
    rw [Pt.enc]
    exact this
theorem read_row : ∀ (r : Rw) {t : List Str} {a d n : Nat} {post : List Str}, r.Wf → 4 * r.dep + 3 ≤ n → r.dep + d ≤ 6 → t.drop a = r.tok ++ post → (hd0 post = "" ∨ hd0 post = ")") → m_Reader_row n (rs t a d) [] = .ok (.tup r.enc, rs t (a + r.tok.length) d)
  | .one p, t, a, d, n, post, h, hn, hd, ht, he => by
    rw [Rw.dep] at hn
    obtain ⟨n, rfl⟩ : ∃ k, n = k + 1 := ⟨n - 1, by omega⟩
    rw [Rw.Wf] at h
    rw [Rw.dep] at hd
    rw [Rw.tok] at ht ⊢
    rw [Rw.enc]
    have hp := read_part p (n := n) (d := d) h (by omega) hd ht (by rcases he with e | e; exact .inl e; exact .inr (.inr e))
    refine row_all hp (row_stop ?_)
    rw [tk_hd (drop_app ht)]
    rcases he with e | e <;> rw [e] <;> decide +kernel
  | .cons p r, t, a, d, n, post, h, hn, hd, ht, he => by
    rw [Rw.dep] at hn
    obtain ⟨n, rfl⟩ : ∃ k, n = k + 1 := ⟨n - 1, by omega⟩
    rw [Rw.Wf] at h
    rw [Rw.dep] at hd
    rw [Rw.tok] at ht ⊢
    rw [Rw.enc]
    have ht : t.drop a = p.tok ++ (";" : Str) :: (r.tok ++ post) := by rw [ht]; simp
    have hp := read_part p (n := n) (d := d) h.1 (by omega) (by omega) ht (.inr (.inl rfl))
    have := row_all hp (read_tail r (n := n) (d := d) (fuel := 1000) (found := [p.enc]) h.2.1 (by omega) (by omega) (drop_app ht) he (by omega) (by rw [List.length_singleton]; omega))
    rw [List.length_append, List.length_cons, show a + (p.tok.length + (r.tok.length + 1)) = a + p.tok.length + 1 + r.tok.length by omega]
    exact this
theorem read_tail : ∀ (r : Rw) {t : List Str} {a d n fuel : Nat} {found : List D} {post : List Str}, r.Wf → 4 * r.dep + 2 ≤ n → r.dep + d ≤ 6 → t.drop a = (";" : Str) :: (r.tok ++ post) → (hd0 post = "" ∨ hd0 post = ")") → r.len + 1 < fuel → found.length + r.len ≤ 10000 → whileF semiC (rowB n) fuel [ro t a d, .ow found] = .nx [ro t (a + 1 + r.tok.length) d, .ow (found ++ r.enc)]
  | .one p, t, a, d, n, f, found, post, h, hn, hd, ht, he, hf, hl => by
    obtain ⟨f, rfl⟩ : ∃ k, f = k + 2 := ⟨f - 2, by rw [Rw.len] at hf; omega⟩
    rw [Rw.Wf] at h
    rw [Rw.dep] at hn hd
    rw [Rw.tok] at ht ⊢
    rw [Rw.enc]
    obtain ⟨e, h2⟩ := tk_of ht
    have hp := read_part p (n := n) (d := d) h hn hd h2 (by rcases he with e | e; exact .inl e; exact .inr (.inr e))
    rw [row_step e hp (okLt_by (by omega))]
    refine row_stop ?_
    rw [tk_hd (drop_app h2)]
    rcases he with e | e <;> rw [e] <;> decide +kernel
  | .cons p r, t, a, d, n, f, found, post, h, hn, hd, ht, he, hf, hl => by
    obtain ⟨f, rfl⟩ : ∃ k, f = k + 1 := ⟨f - 1, by omega⟩
    rw [Rw.Wf] at h
    rw [Rw.dep] at hn hd
    rw [Rw.tok] at ht ⊢
    rw [Rw.enc]
    rw [Rw.len] at hf hl
    obtain ⟨e, h2⟩ := tk_of ht
    have h2 : t.drop (a + 1) = p.tok ++ (";" : Str) :: (r.tok ++ post) := by rw [h2]; simp
    have hp := read_part p (n := n) (d := d) h.1 (by omega) (by omega) h2 (.inr (.inl rfl))
    rw [row_step e hp (okLt_by (by omega))]
    rw [read_tail r (n := n) (d := d) (fuel := f) (found := found ++ [p.enc]) h.2.1 (by omega) (by omega) (drop_app h2) he (by omega) (by rw [List.length_append, List.length_singleton]; omega)]
    rw [List.length_append, List.length_cons, show a + 1 + (p.tok.length + (r.tok.length + 1)) = a + 1 + p.tok.length + 1 + r.tok.length by omega]
    simp
end
local macro_rules | `(tactic| walk_at "rd") => `(tactic| simp (disch := walk_at "sz") only [R.bind_ok, R.bind_bad, R.bind_exc, R.of_some, R.of_none, O.on_ok, O.on_bad, O.on_exc, fVar_0, fVar_s, fOwn_0, fOwn_s, fC_e, fU_e, fB_e, fNil_e, fCons_e, fL_e, fCall_e, fTup_e, fLst_e, rIf_t, rIf_f, fIf_e, tBl_e, fTest_e, fTru_e, fNotB_e, fAndB_e, fOrB_e, fVal_e, fAnd_e, fOr_e, fNo_e, tInt_e, fSome_e, fSl_e, fSlOw_e, fLenOw_e, fIxOw_e, fInOw_e, thn_nx, thn_rt, thn_bk, thn_ct, thn_exc, thn_bad, fSeq_e, oIf_t, oIf_f, oIf_exc, fIfS_e, fSkip_e, fRet_e, fExp_e, fSet_e, fNew_e, fApp_e, fExt_e, fPop_e, fPut_e, fFrz_e, frz_0o, frz_s, fFor_e, fItems_e, fRange_e, fAsg_e, oMat_e, fMatch_e, fAug_e, fin_rt, fin_nx, fin_exc, runD_e, pName_e, pNil_e, pCons_e, pTup_e, dAdd_ii, dAdd_ss, dAdd_ll, dAdd_tt, dSub_ii, dMul_ii, dMul_li, dFdiv_ii, dMod_ii, dNeg_i, dLt_ii, dLe_ii, dGt_ii, dGe_ii, dIx_l, dIx_t, dIx_c, dIx_s, dLen_l, dLen_t, dLen_c, dLen_s, dAbs_i, dMax2_ii, dMin2_ii, dInt_i, dStr_i, dStr_s, dList_l, dList_t, dTuple_l, dTuple_t, dCut_l, dCut_t, dItems_l, dItems_t, dItems_s, dRange_1, dRange_2, dIsN_e, dNotN_e, isNon_n, isNon_b, isNon_i, isNon_s, isNon_t, isNon_l, isNon_o, dIsi_n, dIsi_b, dIsi_i, dIsi_s, dIsi_t, dIsi_l, dIn_e, dNotIn_e, dEqB_ss, dEqB_ii, dInB_strs, dInB_strsT, dEq_e, dNe_e, beq_self_eq_true, List.set_cons_zero, List.set_cons_succ, List.length_cons, List.length_nil, List.length_map, List.length_append, Option.map_some, Option.map_none, Option.bind_some, Option.bind_none, if_true, if_false, ite_true, ite_false, decide_true, decide_false, and_self, true_and, and_true, Int.zero_add, Int.toNat_natCast, cut_tl, cut_all, List.map_append, List.map_cons, List.map_nil, List.nil_append, List.cons_append, List.append_nil, List.replicate, Int.reduceLT, Int.reduceLE, Int.reduceAdd, Int.reduceSub, Int.reduceMul, Int.reduceNeg, Int.reduceToNat, Nat.reduceAdd, Nat.reduceSub, Nat.reduceLT, Nat.reduceLeDiff, Nat.reduceMul, Int.reduceEq, Nat.reduceEqDiff, Bool.not_true, Bool.not_false, Bool.and_true, Bool.true_and, Bool.and_false, Bool.false_and, Bool.or_true, Bool.true_or, Bool.or_false, Bool.false_or, Bool.and_self, Bool.or_self, reduceCtorEq, decide_eq_true_eq, Bool.false_eq_true, fLc_e, fLcL_e, lcF_nil, fJoin_e, rJoin_e, dJoin_l, oPop_ok, oPop_2, oPop_1, cast_0, cast_1, cast_2, cast_3, at_0, at_1, at_2, at_3, at_4, at_5, at_6, Int.reduceBEq, Nat.reduceBEq, oApp_ok, oExt_ok, fProp_e, rProp_e, quiet_ok, dSlot_e, fMakeSK_e, rMakeN_e, rNum_e, gMrg_e, mrg_t, mrg_f, mrg_n, fMethF_e, rMethF_e, dIntS_i, dAddS_ii, dAddS_ss, dGcd_ii, dLcm_ii, dLcm_iii, dEqB_self, at_7, at_8, at_9, at_10, at_11, at_12, at_13, at_14, at_15, at_m1, cut_toL, cut_fromL, cut_btw, List.take_succ_cons, List.take_zero, List.drop_succ_cons, List.drop_zero, List.take_nil, List.drop_nil, isT_NoneType_bool, isT_NoneType_int, isT_NoneType_str, isT_NoneType_list, isT_NoneType_tuple, isT_bool_bool, isT_bool_int, isT_bool_str, isT_bool_list, isT_bool_tuple, isT_int_bool, isT_int_int, isT_int_str, isT_int_list, isT_int_tuple, isT_str_bool, isT_str_int, isT_str_str, isT_str_list, isT_str_tuple, isT_list_bool, isT_list_int, isT_list_str, isT_list_list, isT_list_tuple, isT_tuple_bool, isT_tuple_int, isT_tuple_str, isT_tuple_list, isT_tuple_tuple, fSlS_e, dPick_l, fRange3_e, dRange3_e, fLc2_e, fCallK_e, fCallO_e, rCallO_e, fBin_e, rBin_e, oStore_s, oAsg_e2, fDic0_e, fCallV_e, List.getElem?_cons_zero, List.getElem?_cons_succ, runM_e, finM_rt, finM_nx, self_r, fld_at, fld_depth, fld_toks, step_at, step_in, step_out, meth_number, meth_name, meth_name_list, meth_sign, meth_row, meth_arm, meth_part, meth_cut, meth_other, rmeth_r, fPure_e, fNilX_e, fConsX_e, fTupX_e, fRetX_e, fExpX_e, fSetX_e, fNewX_e, oAppX_e, fAppX_e, view_tok, *])
theorem fPutF_e {c fd : Str} {i : Nat} {g : FE} {δ : DSt} : fPutF c i fd g δ = O.on (g δ) fun d => oFld c i fd δ d := rfl
theorem put1 {x : D} {δ : DSt} : oFld "Reader" 0 "tokens" (.ob "Reader" [] :: δ) x = .nx (.ob "Reader" [("tokens", x)] :: δ) := by kernel_rfl
theorem put2 {x y : D} {δ : DSt} : oFld "Reader" 0 "at" (.ob "Reader" [("tokens", x)] :: δ) y = .nx (.ob "Reader" [("tokens", x), ("at", y)] :: δ) := by kernel_rfl
theorem put3 {x y z : D} {δ : DSt} : oFld "Reader" 0 "depth" (.ob "Reader" [("tokens", x), ("at", y)] :: δ) z = .nx (.ob "Reader" [("tokens", x), ("at", y), ("depth", z)] :: δ) := by kernel_rfl
theorem self3 {x y z : D} {δ : DSt} : selfOf "Reader" .non (.ob "Reader" [("tokens", x), ("at", y), ("depth", z)] :: δ) = .ok (.non, [("tokens", x), ("at", y), ("depth", z)]) := by kernel_rfl
theorem rd_init {s : Str} {t : List Str} (h : m_tokens_of [.str s] = .ok (.lst (t.map .str))) : m_Reader___init__ [] [.str s] = .ok (.non, rs t 0 0) := by
  have p0 := @fPutF_e; have p1 := @put1; have p2 := @put2; have p3 := @put3; have p4 := @self3
  unfold m_Reader___init__ b_Reader___init__
  show _ = (R.ok (D.non, [(("tokens" : Str), D.lst (t.map .str)), (("at" : Str), D.int 0), (("depth" : Str), D.int 0)]) : R (D × List (Str × D)))
  walk_at "rd"
theorem rd_whole {t : List Str} {x : D} (h : m_Reader_row 60 (rs t 0 0) [] = .ok (x, rs t t.length 0)) : m_Reader_whole_row (rs t 0 0) [] = .ok (x, rs t t.length 0) := by
  have l : ((t.map D.str).length : Int) = t.length := by simp
  have l2 : decide ((t.length : Int) < t.length) = false := by simp
  unfold m_Reader_whole_row b_Reader_whole_row
  walk_at "rd"
theorem no_whole {t : List Str} {a d : Nat} : noF "whole_row" (rs t a d) = true := by kernel_rfl
theorem row_of_ok {s : Str} {r : Rw} (hs : Tks s r.tok) (hl : s.cps.toList.length ≤ 90000) (hw : r.Wf) (hd : r.dep ≤ 6) : m_row_of [.str s] = .ok (.tup r.enc) := by
  have h1 := rd_init (hs.tokens hl)
  have h2 := read_row r (t := r.tok) (a := 0) (d := 0) (n := 60) (post := []) hw (by omega) (by omega) (by simp) (.inl rfl)
  rw [Nat.zero_add] at h2
  have h3 := rd_whole h2
  have e : rMakeM "whole_row" m_Reader___init__ m_Reader_whole_row [.str s] = .ok (.tup r.enc) := by
    unfold rMakeM
    rw [h1, R.bind_ok]
    show (if noF "whole_row" (rs r.tok 0 0) = true then (m_Reader_whole_row (rs r.tok 0 0) []).bind fun q => .ok q.1 else .bad) = _
    rw [if_pos no_whole, h3]
    rfl
  show runD 1 b_row_of [.str s] = _
  unfold b_row_of
  show (O.on (rMakeM "whole_row" m_Reader___init__ m_Reader_whole_row [.str s]) fun d => O.rt d _).fin = _
  rw [e]
  rfl
theorem pput1 {x : D} {δ : DSt} : oFld "Program" 0 "_numbers" (.ob "Program" [] :: δ) x = .nx (.ob "Program" [("_numbers", x)] :: δ) := by kernel_rfl
theorem pput2 {x y : D} {δ : DSt} : oFld "Program" 0 "_parts" (.ob "Program" [("_numbers", x)] :: δ) y = .nx (.ob "Program" [("_numbers", x), ("_parts", y)] :: δ) := by kernel_rfl
theorem pput3 {x y z : D} {δ : DSt} : oFld "Program" 0 "_texts" (.ob "Program" [("_numbers", x), ("_parts", y)] :: δ) z = .nx (.ob "Program" [("_numbers", x), ("_parts", y), ("_texts", z)] :: δ) := by kernel_rfl
theorem pself3 {x y z : D} {δ : DSt} : selfOf "Program" .non (.ob "Program" [("_numbers", x), ("_parts", y), ("_texts", z)] :: δ) = .ok (.non, [("_numbers", x), ("_parts", y), ("_texts", z)]) := by kernel_rfl
theorem read_ok {s : Str} {r : Rw} {nb : D} {tx : List D} (hs : Tks s r.tok) (hl : s.cps.toList.length ≤ 90000) (hw : r.Wf) (hd : r.dep ≤ 6) (hn : m_measured_program [.tup r.enc] = .ok nb) (ht : lcF 2 fYes (fCall (m_text_of_part 60) (fCons (fVar 2) fNil)) [.ob "Program" [("_numbers", nb), ("_parts", .tup r.enc)], .fz (.tup r.enc), .un] r.enc [] = .ok tx) : m_Program_read [.fn "Program", .str s] = .ok (.obj "Program" [nb, .tup r.enc, .lst tx]) := by
  have h1 := row_of_ok hs hl hw hd
  have p0 := @fPutF_e; have p1 := @pput1; have p2 := @pput2; have p3 := @pput3; have p4 := @pself3
  have e1 : m_Program___init__ [] [.tup r.enc] = .ok (.non, [("_numbers", nb), ("_parts", .tup r.enc), ("_texts", .lst tx)]) := by
    clear h1 hs hl hw hd
    generalize r.enc = row at *
    unfold m_Program___init__ b_Program___init__
    walk_at "rd"
  have e2 : rMake "Program" m_Program___init__ [.tup r.enc] = .ok (.obj "Program" [nb, .tup r.enc, .lst tx]) := by
    unfold rMake
    rw [e1, R.bind_ok]
    rfl
  show runD 2 b_Program_read _ = _
  unfold b_Program_read
  have e3 : ∀ δ : DSt, fMake "Program" m_Program___init__ (fCons (fCall m_row_of (fCons (fVar 1) fNil)) fNil) [.fz (.fn "Program"), .fz (.str s)] = .ok (.obj "Program" [nb, .tup r.enc, .lst tx]) := fun δ => by
    unfold fMake
    rw [fCons_e, fCall_e, fCons_e, fVar_s, fVar_0, R.bind_ok, fNil_e, R.bind_ok, R.bind_ok, h1, R.bind_ok, R.bind_ok, R.bind_ok, e2]
  show (O.on (fMakeL "Program" 0 m_Program___init__ (fCons (fCall m_row_of (fCons (fVar 1) fNil)) fNil) [.fz (.fn "Program"), .fz (.str s)]) fun d => O.rt d _).fin = _
  unfold fMakeL
  rw [fVar_0, R.bind_ok]
  show (O.on (fMake "Program" m_Program___init__ (fCons (fCall m_row_of (fCons (fVar 1) fNil)) fNil) [.fz (.fn "Program"), .fz (.str s)]) fun d => O.rt d _).fin = _
  rw [e3 []]
  rfl
local macro_rules | `(tactic| walk_at "rd") => `(tactic| simp (disch := walk_at "sz") only [R.bind_ok, R.bind_bad, R.bind_exc, R.of_some, R.of_none, O.on_ok, O.on_bad, O.on_exc, fVar_0, fVar_s, fOwn_0, fOwn_s, fC_e, fU_e, fB_e, fNil_e, fCons_e, fL_e, fCall_e, fTup_e, fLst_e, rIf_t, rIf_f, fIf_e, tBl_e, fTest_e, fTru_e, fNotB_e, fAndB_e, fOrB_e, fVal_e, fAnd_e, fOr_e, fNo_e, tInt_e, fSome_e, fSl_e, fSlOw_e, fLenOw_e, fIxOw_e, fInOw_e, thn_nx, thn_rt, thn_bk, thn_ct, thn_exc, thn_bad, fSeq_e, oIf_t, oIf_f, oIf_exc, fIfS_e, fSkip_e, fRet_e, fExp_e, fSet_e, fNew_e, fApp_e, fExt_e, fPop_e, fPut_e, fFrz_e, frz_0o, frz_s, fFor_e, fItems_e, fRange_e, fAsg_e, oMat_e, fMatch_e, fAug_e, fin_rt, fin_nx, fin_exc, runD_e, pName_e, pNil_e, pCons_e, pTup_e, dAdd_ii, dAdd_ss, dAdd_ll, dAdd_tt, dSub_ii, dMul_ii, dMul_li, dFdiv_ii, dMod_ii, dNeg_i, dLt_ii, dLe_ii, dGt_ii, dGe_ii, dIx_l, dIx_t, dIx_c, dIx_s, dLen_l, dLen_t, dLen_c, dLen_s, dAbs_i, dMax2_ii, dMin2_ii, dInt_i, dStr_i, dStr_s, dList_l, dList_t, dTuple_l, dTuple_t, dCut_l, dCut_t, dItems_l, dItems_t, dItems_s, dRange_1, dRange_2, dIsN_e, dNotN_e, isNon_n, isNon_b, isNon_i, isNon_s, isNon_t, isNon_l, isNon_o, dIsi_n, dIsi_b, dIsi_i, dIsi_s, dIsi_t, dIsi_l, dIn_e, dNotIn_e, dEqB_ss, dEqB_ii, dInB_strs, dInB_strsT, dEq_e, dNe_e, beq_self_eq_true, List.set_cons_zero, List.set_cons_succ, List.length_cons, List.length_nil, List.length_map, List.length_append, Option.map_some, Option.map_none, Option.bind_some, Option.bind_none, if_true, if_false, ite_true, ite_false, decide_true, decide_false, and_self, true_and, and_true, Int.zero_add, Int.toNat_natCast, cut_tl, cut_all, List.map_append, List.map_cons, List.map_nil, List.nil_append, List.cons_append, List.append_nil, List.replicate, Int.reduceLT, Int.reduceLE, Int.reduceAdd, Int.reduceSub, Int.reduceMul, Int.reduceNeg, Int.reduceToNat, Nat.reduceAdd, Nat.reduceSub, Nat.reduceLT, Nat.reduceLeDiff, Nat.reduceMul, Int.reduceEq, Nat.reduceEqDiff, Bool.not_true, Bool.not_false, Bool.and_true, Bool.true_and, Bool.and_false, Bool.false_and, Bool.or_true, Bool.true_or, Bool.or_false, Bool.false_or, Bool.and_self, Bool.or_self, reduceCtorEq, decide_eq_true_eq, Bool.false_eq_true, fLc_e, fLcL_e, lcF_nil, fJoin_e, rJoin_e, dJoin_l, oPop_ok, oPop_2, oPop_1, cast_0, cast_1, cast_2, cast_3, at_0, at_1, at_2, at_3, at_4, at_5, at_6, Int.reduceBEq, Nat.reduceBEq, oApp_ok, oExt_ok, fProp_e, rProp_e, quiet_ok, dSlot_e, fMakeSK_e, rMakeN_e, rNum_e, gMrg_e, mrg_t, mrg_f, mrg_n, fMethF_e, rMethF_e, dIntS_i, dAddS_ii, dAddS_ss, dGcd_ii, dLcm_ii, dLcm_iii, dEqB_self, at_7, at_8, at_9, at_10, at_11, at_12, at_13, at_14, at_15, at_m1, cut_toL, cut_fromL, cut_btw, List.take_succ_cons, List.take_zero, List.drop_succ_cons, List.drop_zero, List.take_nil, List.drop_nil, isT_NoneType_bool, isT_NoneType_int, isT_NoneType_str, isT_NoneType_list, isT_NoneType_tuple, isT_bool_bool, isT_bool_int, isT_bool_str, isT_bool_list, isT_bool_tuple, isT_int_bool, isT_int_int, isT_int_str, isT_int_list, isT_int_tuple, isT_str_bool, isT_str_int, isT_str_str, isT_str_list, isT_str_tuple, isT_list_bool, isT_list_int, isT_list_str, isT_list_list, isT_list_tuple, isT_tuple_bool, isT_tuple_int, isT_tuple_str, isT_tuple_list, isT_tuple_tuple, fSlS_e, dPick_l, fRange3_e, dRange3_e, fLc2_e, fCallK_e, fCallO_e, rCallO_e, fBin_e, rBin_e, oStore_s, oAsg_e2, fDic0_e, fCallV_e, List.getElem?_cons_zero, List.getElem?_cons_succ, runM_e, finM_rt, finM_nx, self_r, fld_at, fld_depth, fld_toks, step_at, step_in, step_out, meth_number, meth_name, meth_name_list, meth_sign, meth_row, meth_arm, meth_part, meth_cut, meth_other, rmeth_r, fPure_e, fNilX_e, fConsX_e, fTupX_e, fRetX_e, fExpX_e, fSetX_e, fNewX_e, oAppX_e, fAppX_e, view_tok, *])
theorem num_word : ∀ k : Nat, k < 199 → (numS ((k : Int) - 99)).cps.toList ≠ [] ∧ ∀ c ∈ (numS ((k : Int) - 99)).cps.toList, c < 128 ∧ sepc c = false := by decide +kernel
theorem Tks.num {i : Int} (h : -99 ≤ i) (h2 : i ≤ 99) : Tks (numS i) [numS i] := by
  have := num_word (i + 99).toNat (by omega)
  rw [show (((i + 99).toNat : Nat) : Int) - 99 = i by omega] at this
  exact .word this.1 this.2
def aWords : List Str := (["same", "none", "reverse", "take", "drop"] : List Str) ++ oWords
theorem wd_word : ∀ w ∈ aWords, w.cps.toList ≠ [] ∧ ∀ c ∈ w.cps.toList, c < 128 ∧ sepc c = false := by decide +kernel
theorem Tks.wd {w : Str} (h : w ∈ aWords) : Tks w [w] := .word (wd_word w h).1 (wd_word w h).2
theorem Tks.cut3 {w : Str} {b s k : Int} (h : w ∈ z_CUT_WORDS) (hb : -99 ≤ b) (hb2 : b ≤ 99) (hs : 0 ≤ s) (hs2 : s ≤ 99) (hk : 0 ≤ k) (hk2 : k ≤ 99) : Tks (w ++ ((" " : Str) ++ numS b ++ (" " : Str) ++ numS s ++ (" " : Str) ++ numS k)) (Rw.one (.cut3 w b s k)).tok := by
  have hw : w ∈ aWords := by
    rcases List.mem_cons.mp h with rfl | h
    · decide +kernel
    · rw [List.mem_singleton.mp h]; decide +kernel
  have := ((Tks.wd hw).sp (Tks.num hb hb2)).sp (Tks.num (by omega) hs2) |>.sp (Tks.num (i := k) (by omega) hk2)
  simp only [Str.append_assoc] at this ⊢
  exact this
end LW
namespace LW
open PySem PySem.Spec PyProof.Rows DL
mutual
/-- the words of the one form of a part, arms in brackets as one -/
def Pt.wds : Pt → List Str
  | .pl w => [w]
  | .put n => ["put", n]
  | .cut1 w b => [w, numS b]
  | .cut3 w b s k => if s = 0 ∧ k = 1 then [w, numS b] else [w, numS b, numS s, numS k]
  | .each k i => ["each", numS k, numS i]
  | .rep w m => [w, numS m]
  | .map ns => "map" :: ns
  | .arm w l r => [w, Str.ofString "(" ++ Str.join (Str.ofString "; ") l.tx ++ Str.ofString ")", Str.ofString "(" ++ Str.join (Str.ofString "; ") r.tx ++ Str.ofString ")"]
  | .pair n l r => ["pair", n, Str.ofString "(" ++ Str.join (Str.ofString "; ") l.tx ++ Str.ofString ")", Str.ofString "(" ++ Str.join (Str.ofString "; ") r.tx ++ Str.ofString ")"]
  | .short c l r => ["short", numS c, Str.ofString "(" ++ Str.join (Str.ofString "; ") l.tx ++ Str.ofString ")", Str.ofString "(" ++ Str.join (Str.ofString "; ") r.tx ++ Str.ofString ")"]
def Rw.tx : Rw → List Str
  | .one p => [Str.join (Str.ofString " ") p.wds]
  | .cons p r => Str.join (Str.ofString " ") p.wds :: r.tx
end
def Pt.txt (p : Pt) : Str := Str.join (Str.ofString " ") p.wds
def Rw.txt (r : Rw) : Str := Str.join (Str.ofString "; ") r.tx
abbrev parS (s : Str) : Str := Str.ofString "(" ++ s ++ Str.ofString ")"
theorem tp_S {n : Nat} : m_text_of_part (n + 1) = runD 4 (b_text_of_part (m_text_of_part n) (m_text_of n)) := rfl
theorem to_S {n : Nat} : m_text_of (n + 1) = runD 2 (b_text_of (m_text_of_part n) (m_text_of n)) := rfl

def Rw.pts : Rw → List Pt
  | .one p => [p]
  | .cons p r => p :: r.pts
theorem Rw.enc_pts : ∀ r : Rw, r.enc = r.pts.map Pt.enc
  | .one p => by rw [Rw.enc]; rfl
  | .cons p r => by rw [Rw.enc, r.enc_pts]; rfl
theorem Rw.tx_pts : ∀ r : Rw, r.tx = r.pts.map Pt.txt
  | .one p => by rw [Rw.tx]; rfl
  | .cons p r => by rw [Rw.tx, r.tx_pts]; rfl
theorem Rw.pts_len : ∀ r : Rw, r.pts.length = r.len
  | .one p => rfl
  | .cons p r => by rw [Rw.pts, List.length_cons, r.pts_len]; rfl
theorem Rw.pts_in : ∀ r : Rw, r.Wf → ∀ p ∈ r.pts, p.Wf ∧ p.dep ≤ r.dep ∧ p.cnt ≤ r.cnt
  | .one q, h, p, hp => by
    rw [List.mem_singleton.mp hp]
    rw [Rw.Wf] at h
    rw [Rw.dep, Rw.cnt]
    exact ⟨h, Nat.le_refl _, Nat.le_refl _⟩
  | .cons q r, h, p, hp => by
    rw [Rw.Wf] at h
    rw [Rw.dep, Rw.cnt]
    rcases List.mem_cons.mp hp with rfl | hp
    · exact ⟨h.1, by omega, by omega⟩
    · have := r.pts_in h.2.1 p hp
      exact ⟨this.1, by omega, by omega⟩
theorem rws_cnt : ∀ {p : Pt}, ∀ r ∈ p.rws, r.cnt ≤ p.cnt
  | .pl w, r, hr => by cases hr
  | .put n, r, hr => by cases hr
  | .cut1 w b, r, hr => by cases hr
  | .cut3 w b s k, r, hr => by cases hr
  | .each k i, r, hr => by cases hr
  | .rep w m, r, hr => by cases hr
  | .map ns, r, hr => by cases hr
  | .arm w l r', r, hr => by
    rw [Pt.cnt]
    rcases List.mem_cons.mp hr with rfl | hr
    · omega
    · rw [List.mem_singleton.mp hr]; omega
  | .pair n l r', r, hr => by
    rw [Pt.cnt]
    rcases List.mem_cons.mp hr with rfl | hr
    · omega
    · rw [List.mem_singleton.mp hr]; omega
  | .short n l r', r, hr => by
    rw [Pt.cnt]
    rcases List.mem_cons.mp hr with rfl | hr
    · omega
    · rw [List.mem_singleton.mp hr]; omega
def wl (ys : List Str) : Nat := (ys.map (·.length)).sum + ys.length
theorem app_len (x y : Str) : (x ++ y).length = x.length + y.length := Array.size_append
theorem jn_len (a : Str) : ∀ ys : List Str, (Str.join a ys).length ≤ (ys.map (·.length)).sum + ys.length * a.length
  | [] => Nat.zero_le _
  | [x] => by
    show x.length ≤ _
    simp only [List.map_cons, List.map_nil, List.sum_cons, List.sum_nil]
    omega
  | x :: y :: ys => by
    show (x ++ a ++ Str.join a (y :: ys)).length ≤ _
    have := jn_len a (y :: ys)
    rw [app_len, app_len]
    simp only [List.map_cons, List.sum_cons, List.length_cons, Nat.add_mul, Nat.one_mul] at *
    omega
theorem sp_len : (Str.ofString " ").length = 1 := by decide +kernel
theorem sm_len : (Str.ofString "; ").length = 2 := by decide +kernel
theorem op_len : (Str.ofString "(").length = 1 := by decide +kernel
theorem cl_len : (Str.ofString ")").length = 1 := by decide +kernel
theorem jo_wl {ys : List Str} (h : wl ys ≤ 16777216) : joinOk (Str.ofString " ") ys = true := joinOk_by (by unfold wl at h; rw [sp_len]; omega)
theorem txt_wl (p : Pt) : p.txt.length ≤ wl p.wds := by
  have := jn_len (Str.ofString " ") p.wds
  rw [sp_len] at this
  unfold Pt.txt wl
  omega
theorem num_lenA : ∀ k : Nat, k < 199 → (numS ((k : Int) - 99)).length ≤ 3 := by decide +kernel
theorem num_len {i : Int} (h : -99 ≤ i) (h2 : i ≤ 99) : (numS i).length ≤ 3 := by
  have := num_lenA (i + 99).toNat (by omega)
  rwa [show (((i + 99).toNat : Nat) : Int) - 99 = i by omega] at this
theorem wd_len : ∀ w ∈ aWords, w.length ≤ 7 := by decide +kernel
theorem pl_word : ∀ w ∈ z_PLAIN_WORDS, w ∈ aWords := by decide +kernel
theorem ct_word : ∀ w ∈ z_CUT_WORDS, w ∈ aWords := by decide +kernel
theorem ns_len : ∀ ns : List Str, (∀ n ∈ ns, isName n) → (ns.map (·.length)).sum ≤ 3 * ns.length
  | [], _ => Nat.le_refl _
  | n :: ns, h => by
    have h1 := isName_len (h n List.mem_cons_self)
    have h2 := ns_len ns fun m hm => h m (List.mem_cons_of_mem _ hm)
    rw [List.map_cons, List.sum_cons, List.length_cons]
    omega
theorem par_len (s : Str) : (Str.ofString "(" ++ s ++ Str.ofString ")").length = s.length + 2 := by
  rw [app_len, app_len, op_len, cl_len]; omega
theorem Rw.txt_le (r : Rw) : r.txt.length ≤ (r.tx.map (·.length)).sum + 2 * r.tx.length := by
  have := jn_len (Str.ofString "; ") r.tx
  rw [sm_len] at this
  unfold Rw.txt
  omega
mutual
theorem Pt.wl_le : ∀ {p : Pt}, p.Wf → wl p.wds + 2 ≤ 32 * p.cnt
  | .pl w, h => by
    rw [Pt.Wf] at h
    have := wd_len w (pl_word w h)
    rw [Pt.wds, Pt.cnt]
    simp only [wl, List.map_cons, List.map_nil, List.sum_cons, List.sum_nil, List.length_cons, List.length_nil]
    omega
  | .put n, h => by
    rw [Pt.Wf] at h
    have := isName_len h
    have := wd_len "put" (by decide +kernel)
    rw [Pt.wds, Pt.cnt]
    simp only [wl, List.map_cons, List.map_nil, List.sum_cons, List.sum_nil, List.length_cons, List.length_nil]
    omega
  | .cut1 w b, h => by
    rw [Pt.Wf] at h
    have := wd_len w (ct_word w h.1)
    have := num_len h.2.1 h.2.2
    rw [Pt.wds, Pt.cnt]
    simp only [wl, List.map_cons, List.map_nil, List.sum_cons, List.sum_nil, List.length_cons, List.length_nil]
    omega
  | .cut3 w b s k, h => by
    rw [Pt.Wf] at h
    have := wd_len w (ct_word w h.1)
    have := num_len h.2.1 h.2.2.1
    have := num_len (i := s) (by omega) (by omega)
    have := num_len (i := k) (by omega) (by omega)
    rw [Pt.wds, Pt.cnt]
    split <;> simp only [wl, List.map_cons, List.map_nil, List.sum_cons, List.sum_nil, List.length_cons, List.length_nil] <;> omega
  | .each k i, h => by
    rw [Pt.Wf] at h
    have := wd_len "each" (by decide +kernel)
    have := num_len (i := k) (by omega) (by omega)
    have := num_len (i := i) (by omega) (by omega)
    rw [Pt.wds, Pt.cnt]
    simp only [wl, List.map_cons, List.map_nil, List.sum_cons, List.sum_nil, List.length_cons, List.length_nil]
    omega
  | .rep w m, h => by
    rw [Pt.Wf] at h
    have := wd_len w (by rcases h.1 with rfl | rfl | rfl <;> decide +kernel)
    have := num_len (i := m) (by omega) (by omega)
    rw [Pt.wds, Pt.cnt]
    simp only [wl, List.map_cons, List.map_nil, List.sum_cons, List.sum_nil, List.length_cons, List.length_nil]
    omega
  | .map ns, h => by
    rw [Pt.Wf] at h
    have l3 : ("map" : Str).length = 3 := by decide +kernel
    have := ns_len ns h.2.2
    have : 0 < ns.length := List.length_pos_iff.mpr h.1
    rw [Pt.wds, Pt.cnt]
    simp only [wl, List.map_cons, List.map_nil, List.sum_cons, List.sum_nil, List.length_cons, List.length_nil]
    omega
  | .arm w l r, h => by
    rw [Pt.Wf] at h
    have := wd_len w (by rcases h.1 with rfl | rfl <;> decide +kernel)
    have := Rw.tl_le h.2.1
    have := Rw.tl_le h.2.2
    have t1 := l.txt_le
    have t2 := r.txt_le
    unfold Rw.txt at t1 t2
    rw [Pt.wds, Pt.cnt]
    simp only [wl, List.map_cons, List.map_nil, List.sum_cons, List.sum_nil, List.length_cons, List.length_nil, par_len]
    omega
  | .pair n l r, h => by
    rw [Pt.Wf] at h
    have l4 : ("pair" : Str).length = 4 := by decide +kernel
    have := isName_len h.1
    have := Rw.tl_le h.2.1
    have := Rw.tl_le h.2.2
    have t1 := l.txt_le
    have t2 := r.txt_le
    unfold Rw.txt at t1 t2
    rw [Pt.wds, Pt.cnt]
    simp only [wl, List.map_cons, List.map_nil, List.sum_cons, List.sum_nil, List.length_cons, List.length_nil, par_len]
    omega
  | .short c l r, h => by
    rw [Pt.Wf] at h
    have l4 : ("short" : Str).length = 5 := by decide +kernel
    have := num_len (i := c) (by omega) (by omega)
    have := Rw.tl_le h.2.2.1
    have := Rw.tl_le h.2.2.2
    have t1 := l.txt_le
    have t2 := r.txt_le
    unfold Rw.txt at t1 t2
    rw [Pt.wds, Pt.cnt]
    simp only [wl, List.map_cons, List.map_nil, List.sum_cons, List.sum_nil, List.length_cons, List.length_nil, par_len]
    omega
theorem Rw.tl_le : ∀ {r : Rw}, r.Wf → (r.tx.map (·.length)).sum + 2 * r.tx.length ≤ 32 * r.cnt
  | .one p, h => by
    rw [Rw.Wf] at h
    have := Pt.wl_le h
    have t := txt_wl p
    unfold Pt.txt at t
    rw [Rw.tx, Rw.cnt]
    simp only [List.map_cons, List.map_nil, List.sum_cons, List.sum_nil, List.length_cons, List.length_nil]
    omega
  | .cons p r, h => by
    rw [Rw.Wf] at h
    have := Pt.wl_le h.1
    have := Rw.tl_le h.2.1
    have t := txt_wl p
    unfold Pt.txt at t
    rw [Rw.tx, Rw.cnt]
    simp only [List.map_cons, List.map_nil, List.sum_cons, List.sum_nil, List.length_cons, List.length_nil]
    omega
end
theorem Rw.txt_len {r : Rw} (h : r.Wf) : r.txt.length ≤ 32 * r.cnt := by
  have := r.txt_le
  have := Rw.tl_le h
  omega
theorem tx_arms {rp rt : List D → R D} {s0 s2 : DS} : ∀ (as : List Rw) (acc : List D) (s3 : DS), (∀ a ∈ as, rt [.tup a.enc] = .ok (.str a.txt)) → (∀ a ∈ as, a.txt.length ≤ 1000000) → acc.length + as.length ≤ 10000 → ∃ s3', loopF (pName 3) (l1_text_of_part rp rt) (as.map fun a => D.tup a.enc) [s0, .ow acc, s2, s3] = .nx [s0, .ow (acc ++ as.map fun a => D.str (parS a.txt)), s2, s3']
  | [], acc, s3, _, _, _ => ⟨s3, by show _ = O.nx [s0, .ow (acc ++ []), s2, s3]; rw [List.append_nil]; rfl⟩
  | a :: as, acc, s3, h, hl, hn => by
    have h1 := h a List.mem_cons_self
    have h2 := hl a List.mem_cons_self
    rw [List.length_cons] at hn
    obtain ⟨s3', ih⟩ := tx_arms (rp := rp) (rt := rt) (s0 := s0) (s2 := s2) as (acc ++ [.str (parS a.txt)]) (.fz (.tup a.enc)) (fun b hb => h b (List.mem_cons_of_mem _ hb)) (fun b hb => hl b (List.mem_cons_of_mem _ hb)) (by rw [List.length_append, List.length_singleton]; omega)
    refine ⟨s3', ?_⟩
    rw [List.map_cons, List.map_cons, show acc ++ D.str (parS a.txt) :: as.map (fun a => D.str (parS a.txt)) = acc ++ [D.str (parS a.txt)] ++ as.map (fun a => D.str (parS a.txt)) by simp]
    have o0 : okLt acc.length = true := okLt_by (by omega)
    have o1 : okLe ((Str.ofString "(").length + a.txt.length) = true := okLe_by (by rw [op_len]; omega)
    have o2 : okLe ((Str.ofString "(" ++ a.txt).length + (Str.ofString ")").length) = true := okLe_by (by rw [app_len, op_len, cl_len]; omega)
    unfold l1_text_of_part at *
    generalize a.enc = xs at *
    generalize a.txt = tt at *
    generalize as.map (fun a => D.tup a.enc) = ys at *
    clear h hl
    walk_at "go"
theorem cut_part {w : D} {xs as : List D} : dCut (.tup (w :: (xs ++ as))) (some 1) (some (((w :: (xs ++ as)).length : Nat) - (as.length : Nat) : Int)) = some (.tup xs) := by
  rw [dCut_t]
  refine congrArg (fun l => some (D.tup l)) ?_
  rw [cut_btw (by decide) (by rw [List.length_cons, List.length_append]; omega)]
  rw [show ((((w :: (xs ++ as)).length : Nat) - (as.length : Nat) : Int)).toNat = xs.length + 1 by rw [List.length_cons, List.length_append]; omega, show (1 : Int).toNat = 1 from rfl, List.take_succ_cons, List.drop_succ_cons, List.drop_zero, List.take_append_of_le_length (Nat.le_refl _), List.take_length]
theorem tp_o {rp rt : List D → R D} {w : Str} {xs as : List D} {ss ws : List Str} {s3 : DS} (h1 : dEqB (.str w) (.str (Str.ofString "map")) = some false) (h2 : dInB (.str w) k_CUT_WORDS = some false) (ha : m_arms_of [.tup (.str w :: (xs ++ as))] = .ok (.tup as)) (hx : lcF 2 fYes (fL dStr (fCons (fVar 2) fNil)) [.fz (.tup (.str w :: (xs ++ as))), .ow [.str w], .un, .un] xs [] = .ok (ss.map .str)) (o1 : okLe (([D.str w]).length + (ss.map D.str).length) = true) (lp : loopF (pName 3) (l1_text_of_part rp rt) as [.fz (.tup (.str w :: (xs ++ as))), .ow ([.str w] ++ ss.map .str), .un, .un] = .nx [.fz (.tup (.str w :: (xs ++ as))), .ow ((w :: (ss ++ ws)).map .str), .un, s3]) (oj : joinOk (Str.ofString " ") (w :: (ss ++ ws)) = true) : runD 4 (b_text_of_part rp rt) [.tup (.str w :: (xs ++ as))] = .ok (.str (Str.join (Str.ofString " ") (w :: (ss ++ ws)))) := by
  have e1 := @cut_part (.str w) xs as
  have e2 : dJoin (Str.ofString " ") (.lst ((w :: (ss ++ ws)).map .str)) = some (.str (Str.join (Str.ofString " ") (w :: (ss ++ ws)))) := dJoin_l oj
  have hc : (fTest (fB dIn (fB dIx (fVar 0) (fC (.int 0))) (fC k_CUT_WORDS))) [.fz (.tup (.str w :: (xs ++ as))), .ow [.str w], .un, .un] = .ok false := by
    generalize k_CUT_WORDS = kc at *
    walk_at "go"
  have hc2 : (fAndB (fTest (fB dIn (fB dIx (fVar 0) (fC (.int 0))) (fC k_CUT_WORDS))) (fAndB (fTest (fB dEq (fB dIx (fVar 0) (fC (.int 2))) (fC (.int 0)))) (fTest (fB dEq (fB dIx (fVar 0) (fC (.int 3))) (fC (.int 1)))))) [.fz (.tup (.str w :: (xs ++ as))), .ow [.str w], .un, .un] = .ok false := v_AndF hc rfl
  clear hc
  unfold b_text_of_part
  generalize k_CUT_WORDS = kc at *
  walk_at "go"
theorem tp_c1 {rp rt : List D → R D} {w : Str} {b : Int} (h1 : dEqB (.str w) (.str (Str.ofString "map")) = some false) (h2 : dInB (.str w) k_CUT_WORDS = some true) (ha : m_arms_of [.tup [.str w, .int b, .int 0, .int 1]] = .ok (.tup [])) (hb : b.natAbs.log2 < 1920) (oj : joinOk (Str.ofString " ") [w, numS b] = true) : runD 4 (b_text_of_part rp rt) [.tup [.str w, .int b, .int 0, .int 1]] = .ok (.str (Str.join (Str.ofString " ") [w, numS b])) := by
  have e2 : dJoin (Str.ofString " ") (.lst ([.str w] ++ [.str (numS b)])) = some (.str (Str.join (Str.ofString " ") [w, numS b])) := dJoin_l (ys := [w, numS b]) oj
  have e3 : dStr [.int b] = some (.str (numS b)) := dStr_i hb
  have e4 : okLt ([D.str w]).length = true := okLt_by (by rw [List.length_singleton]; omega)
  have hc2 : (fAndB (fTest (fB dIn (fB dIx (fVar 0) (fC (.int 0))) (fC k_CUT_WORDS))) (fAndB (fTest (fB dEq (fB dIx (fVar 0) (fC (.int 2))) (fC (.int 0)))) (fTest (fB dEq (fB dIx (fVar 0) (fC (.int 3))) (fC (.int 1)))))) [.fz (.tup [.str w, .int b, .int 0, .int 1]), .ow [.str w], .un, .un] = .ok true := by
    generalize k_CUT_WORDS = kc at *
    show _ = R.ok (true && (((0 : Int) == 0) && ((1 : Int) == 1)))
    clear hb oj e2 e3 e4
    walk_at "go"
  unfold b_text_of_part
  clear hb oj h2
  walk_at "go"
theorem tp_c3 {rp rt : List D → R D} {w : Str} {b s k : Int} (h1 : dEqB (.str w) (.str (Str.ofString "map")) = some false) (h2 : dInB (.str w) k_CUT_WORDS = some true) (hs : ¬ (s = 0 ∧ k = 1)) (ha : m_arms_of [.tup [.str w, .int b, .int s, .int k]] = .ok (.tup [])) (hb : b.natAbs.log2 < 1920) (hs2 : s.natAbs.log2 < 1920) (hk : k.natAbs.log2 < 1920) (oj : joinOk (Str.ofString " ") [w, numS b, numS s, numS k] = true) : runD 4 (b_text_of_part rp rt) [.tup [.str w, .int b, .int s, .int k]] = .ok (.str (Str.join (Str.ofString " ") [w, numS b, numS s, numS k])) := by
  have e2 : dJoin (Str.ofString " ") (.lst ([.str w] ++ [.str (numS b), .str (numS s), .str (numS k)])) = some (.str (Str.join (Str.ofString " ") [w, numS b, numS s, numS k])) := dJoin_l (ys := [w, numS b, numS s, numS k]) oj
  have e3 : dStr [.int b] = some (.str (numS b)) := dStr_i hb
  have e4 : dStr [.int s] = some (.str (numS s)) := dStr_i hs2
  have e5 : dStr [.int k] = some (.str (numS k)) := dStr_i hk
  have e1 : dCut (.tup [.str w, .int b, .int s, .int k]) (some 1) (some (((([D.str w, .int b, .int s, .int k] : List D)).length : Nat) - ((([] : List D)).length : Nat) : Int)) = some (.tup [.int b, .int s, .int k]) := rfl
  have hc2 : (fAndB (fTest (fB dIn (fB dIx (fVar 0) (fC (.int 0))) (fC k_CUT_WORDS))) (fAndB (fTest (fB dEq (fB dIx (fVar 0) (fC (.int 2))) (fC (.int 0)))) (fTest (fB dEq (fB dIx (fVar 0) (fC (.int 3))) (fC (.int 1)))))) [.fz (.tup [.str w, .int b, .int s, .int k]), .ow [.str w], .un, .un] = .ok false := by
    generalize k_CUT_WORDS = kc at *
    have g : (true && ((s == 0) && (k == 1))) = false := by
      rw [Bool.true_and, Bool.and_eq_false_iff]
      by_cases c : s = 0
      · exact .inr (beq_false_of_ne fun d => hs ⟨c, d⟩)
      · exact .inl (beq_false_of_ne c)
    rw [← g]
    clear g e1 e2 e3 e4 e5 hb hs hs2 hk oj
    walk_at "go"
  unfold b_text_of_part
  clear hb oj h2 hs hs2 hk
  walk_at "go"
theorem tp_m {rp rt : List D → R D} {ns : List Str} (ha : m_arms_of [.tup [.str "map", .tup (ns.map .str)]] = .ok (.tup [])) (hn : ns.length ≤ 10000) (oj : joinOk (Str.ofString " ") ("map" :: ns) = true) : runD 4 (b_text_of_part rp rt) [.tup [.str "map", .tup (ns.map .str)]] = .ok (.str (Str.join (Str.ofString " ") ("map" :: ns))) := by
  have e2 : dJoin (Str.ofString " ") (.lst ([.str "map"] ++ ns.map .str)) = some (.str (Str.join (Str.ofString " ") ("map" :: ns))) := dJoin_l (ys := "map" :: ns) oj
  have o1 : okLe (([D.str "map"]).length + (ns.map D.str).length) = true := okLe_by (by rw [List.length_map, List.length_singleton]; omega)
  unfold b_text_of_part
  clear oj hn
  walk_at "go"
theorem cut_w {w : Str} (h : w ∈ z_CUT_WORDS) : dEqB (.str w) (.str (Str.ofString "map")) = some false ∧ dInB (.str w) k_CUT_WORDS = some true := by rcases cut_of h with rfl | rfl <;> exact ⟨by kernel_rfl, by kernel_rfl⟩
theorem oth_w {w : Str} (h : w ∈ (["same", "none", "reverse", "put", "each", "times", "again", "turn", "pair", "short", "join", "weave"] : List Str)) : dEqB (.str w) (.str (Str.ofString "map")) = some false ∧ dInB (.str w) k_CUT_WORDS = some false := by
  have : ∀ w ∈ (["same", "none", "reverse", "put", "each", "times", "again", "turn", "pair", "short", "join", "weave"] : List Str), dEqB (.str w) (.str (Str.ofString "map")) = some false ∧ dInB (.str w) k_CUT_WORDS = some false := by decide +kernel
  exact this w h
theorem lgn {i : Int} (h : -99 ≤ i) (k : i ≤ 99) : i.natAbs.log2 < 1920 := log_by (by omega)
theorem lst_num {i : Int} (h : -99 ≤ i) (k : i ≤ 99) : dStr [.int i] = some (.str (numS i)) := dStr_i (lgn h k)
theorem tp_ok {rp rt : List D → R D} : ∀ {p : Pt}, p.Wf → p.cnt ≤ 9000 → (∀ a ∈ p.rws, rt [.tup a.enc] = .ok (.str a.txt)) → runD 4 (b_text_of_part rp rt) [p.enc] = .ok (.str p.txt)
  | .pl w, h, hc, hr => by
    have ha := arms_ok h
    have lw := Pt.wl_le h
    rw [Pt.Wf] at h
    obtain ⟨h1, h2⟩ := oth_w (w := w) (by rcases plain_of h with rfl | rfl | rfl <;> decide +kernel)
    unfold Pt.txt
    rw [Pt.wds] at *
    rw [Pt.enc] at *
    exact tp_o (xs := []) (as := []) (ss := []) (ws := []) h1 h2 ha rfl (okLe_by (by simp only [List.length_cons, List.length_nil, List.length_map]; omega)) rfl (jo_wl (by show wl [w] ≤ _; omega))
  | .put n, h, hc, hr => by
    have ha := arms_ok h
    have lw := Pt.wl_le h
    rw [Pt.Wf] at h
    obtain ⟨h1, h2⟩ := oth_w (w := "put") (by decide +kernel)
    unfold Pt.txt
    rw [Pt.wds] at *
    rw [Pt.enc] at *
    have hx : lcF 2 fYes (fL dStr (fCons (fVar 2) fNil)) [.fz (.tup [.str "put", .str n]), .ow [.str "put"], .un, .un] [.str n] [] = .ok [.str n] := by
      clear ha lw h h1 h2
      walk_at "go"
    exact tp_o (xs := [.str n]) (as := []) (ss := [n]) (ws := []) h1 h2 ha hx (okLe_by (by simp only [List.length_cons, List.length_nil, List.length_map]; omega)) rfl (jo_wl (by show wl ["put", n] ≤ _; omega))
  | .cut1 w b, h, hc, hr => by
    have ha := arms_ok h
    have lw := Pt.wl_le h
    rw [Pt.Wf] at h
    obtain ⟨h1, h2⟩ := cut_w h.1
    unfold Pt.txt
    rw [Pt.wds] at *
    rw [Pt.enc] at *
    exact tp_c1 h1 h2 ha (lgn h.2.1 h.2.2) (jo_wl (by omega))
  | .cut3 w b s k, h, hc, hr => by
    have ha := arms_ok h
    have lw := Pt.wl_le h
    rw [Pt.Wf] at h
    obtain ⟨h1, h2⟩ := cut_w h.1
    unfold Pt.txt
    rw [Pt.wds] at *
    rw [Pt.enc] at *
    by_cases c : s = 0 ∧ k = 1
    · rw [if_pos c] at *
      obtain ⟨rfl, rfl⟩ := c
      exact tp_c1 h1 h2 ha (lgn h.2.1 h.2.2.1) (jo_wl (by omega))
    · rw [if_neg c] at *
      exact tp_c3 h1 h2 c ha (lgn h.2.1 h.2.2.1) (lgn (by omega) (by omega)) (lgn (by omega) (by omega)) (jo_wl (by omega))
  | .each k i, h, hc, hr => by
    have ha := arms_ok h
    have lw := Pt.wl_le h
    rw [Pt.Wf] at h
    obtain ⟨h1, h2⟩ := oth_w (w := "each") (by decide +kernel)
    unfold Pt.txt
    rw [Pt.wds] at *
    rw [Pt.enc] at *
    have e1 := lst_num (i := k) (by omega) (by omega)
    have e2 := lst_num (i := i) (by omega) (by omega)
    have hx : lcF 2 fYes (fL dStr (fCons (fVar 2) fNil)) [.fz (.tup [.str "each", .int k, .int i]), .ow [.str "each"], .un, .un] [.int k, .int i] [] = .ok [.str (numS k), .str (numS i)] := by
      clear ha lw h h1 h2
      walk_at "go"
    exact tp_o (xs := [.int k, .int i]) (as := []) (ss := [numS k, numS i]) (ws := []) h1 h2 ha hx (okLe_by (by simp only [List.length_cons, List.length_nil, List.length_map]; omega)) rfl (jo_wl (by show wl ["each", numS k, numS i] ≤ _; omega))
  | .rep w m, h, hc, hr => by
    have ha := arms_ok h
    have lw := Pt.wl_le h
    rw [Pt.Wf] at h
    obtain ⟨h1, h2⟩ := oth_w (w := w) (by rcases h.1 with rfl | rfl | rfl <;> decide +kernel)
    unfold Pt.txt
    rw [Pt.wds] at *
    rw [Pt.enc] at *
    have e1 := lst_num (i := m) (by omega) (by omega)
    have hx : lcF 2 fYes (fL dStr (fCons (fVar 2) fNil)) [.fz (.tup [.str w, .int m]), .ow [.str w], .un, .un] [.int m] [] = .ok [.str (numS m)] := by
      clear ha lw h h1 h2
      walk_at "go"
    exact tp_o (xs := [.int m]) (as := []) (ss := [numS m]) (ws := []) h1 h2 ha hx (okLe_by (by simp only [List.length_cons, List.length_nil, List.length_map]; omega)) rfl (jo_wl (by show wl [w, numS m] ≤ _; omega))
  | .map ns, h, hc, hr => by
    have ha := arms_ok h
    have lw := Pt.wl_le h
    rw [Pt.Wf] at h
    unfold Pt.txt
    rw [Pt.wds] at *
    rw [Pt.enc] at *
    exact tp_m ha (by omega) (jo_wl (by omega))
  | .arm w l r, h, hc, hr => by
    have ha := arms_ok h
    have lw := Pt.wl_le h
    have hr1 := hr l List.mem_cons_self
    rw [Pt.cnt] at hc
    rw [Pt.Wf] at h
    obtain ⟨h1, h2⟩ := oth_w (w := w) (by rcases h.1 with rfl | rfl <;> decide +kernel)
    have t1 := Rw.txt_len h.2.1
    have t2 := Rw.txt_len h.2.2
    obtain ⟨s3, lp⟩ := tx_arms (rp := rp) (rt := rt) (s0 := .fz (Pt.arm w l r).enc) (s2 := .un) [l, r] ([.str w] ++ ([] : List Str).map .str) .un hr (fun a ha => by
      rcases List.mem_cons.mp ha with rfl | ha
      · omega
      · rw [List.mem_singleton.mp ha]; omega) (by simp only [List.length_cons, List.length_nil, List.length_map, List.length_append]; omega)
    unfold Pt.txt
    rw [Pt.cnt] at lw
    rw [Pt.wds] at *
    rw [Pt.enc] at *
    exact tp_o (xs := []) (as := [.tup l.enc, .tup r.enc]) (ss := []) (ws := [parS l.txt, parS r.txt]) h1 h2 ha rfl (okLe_by (by simp only [List.length_cons, List.length_nil, List.length_map]; omega)) lp (jo_wl (by have lw' : wl [w, parS (Str.join (Str.ofString "; ") l.tx), parS (Str.join (Str.ofString "; ") r.tx)] + 2 ≤ _ := lw; show wl [w, parS (Str.join (Str.ofString "; ") l.tx), parS (Str.join (Str.ofString "; ") r.tx)] ≤ _; omega))
  | .pair n l r, h, hc, hr => by
    have ha := arms_ok h
    have lw := Pt.wl_le h
    rw [Pt.cnt] at hc
    rw [Pt.Wf] at h
    obtain ⟨h1, h2⟩ := oth_w (w := "pair") (by decide +kernel)
    have t1 := Rw.txt_len h.2.1
    have t2 := Rw.txt_len h.2.2
    obtain ⟨s3, lp⟩ := tx_arms (rp := rp) (rt := rt) (s0 := .fz (Pt.pair n l r).enc) (s2 := .un) [l, r] ([.str "pair"] ++ ([n] : List Str).map .str) .un hr (fun a ha => by
      rcases List.mem_cons.mp ha with rfl | ha
      · omega
      · rw [List.mem_singleton.mp ha]; omega) (by simp only [List.length_cons, List.length_nil, List.length_map, List.length_append]; omega)
    unfold Pt.txt
    rw [Pt.cnt] at lw
    rw [Pt.wds] at *
    rw [Pt.enc] at *
    have hx : lcF 2 fYes (fL dStr (fCons (fVar 2) fNil)) [.fz (.tup [.str "pair", .str n, .tup l.enc, .tup r.enc]), .ow [.str "pair"], .un, .un] [.str n] [] = .ok [.str n] := by
      clear ha lw h h1 h2 lp hr t1 t2
      generalize l.enc = x at *
      generalize r.enc = y at *
      walk_at "go"
    exact tp_o (xs := [.str n]) (as := [.tup l.enc, .tup r.enc]) (ss := [n]) (ws := [parS l.txt, parS r.txt]) h1 h2 ha hx (okLe_by (by simp only [List.length_cons, List.length_nil, List.length_map]; omega)) lp (jo_wl (by have lw' : wl ["pair", n, parS (Str.join (Str.ofString "; ") l.tx), parS (Str.join (Str.ofString "; ") r.tx)] + 2 ≤ _ := lw; show wl ["pair", n, parS (Str.join (Str.ofString "; ") l.tx), parS (Str.join (Str.ofString "; ") r.tx)] ≤ _; omega))
  | .short c l r, h, hc, hr => by
    have ha := arms_ok h
    have lw := Pt.wl_le h
    rw [Pt.cnt] at hc
    rw [Pt.Wf] at h
    obtain ⟨h1, h2⟩ := oth_w (w := "short") (by decide +kernel)
    have t1 := Rw.txt_len h.2.2.1
    have t2 := Rw.txt_len h.2.2.2
    obtain ⟨s3, lp⟩ := tx_arms (rp := rp) (rt := rt) (s0 := .fz (Pt.short c l r).enc) (s2 := .un) [l, r] ([.str "short"] ++ ([numS c] : List Str).map .str) .un hr (fun a ha => by
      rcases List.mem_cons.mp ha with rfl | ha
      · omega
      · rw [List.mem_singleton.mp ha]; omega) (by simp only [List.length_cons, List.length_nil, List.length_map, List.length_append]; omega)
    have e1 := lst_num (i := c) (by omega) (by omega)
    unfold Pt.txt
    rw [Pt.cnt] at lw
    rw [Pt.wds] at *
    rw [Pt.enc] at *
    have hx : lcF 2 fYes (fL dStr (fCons (fVar 2) fNil)) [.fz (.tup [.str "short", .int c, .tup l.enc, .tup r.enc]), .ow [.str "short"], .un, .un] [.int c] [] = .ok [.str (numS c)] := by
      clear ha lw h h1 h2 lp hr t1 t2
      generalize l.enc = x at *
      generalize r.enc = y at *
      walk_at "go"
    exact tp_o (xs := [.int c]) (as := [.tup l.enc, .tup r.enc]) (ss := [numS c]) (ws := [parS l.txt, parS r.txt]) h1 h2 ha hx (okLe_by (by simp only [List.length_cons, List.length_nil, List.length_map]; omega)) lp (jo_wl (by have lw' : wl ["short", numS c, parS (Str.join (Str.ofString "; ") l.tx), parS (Str.join (Str.ofString "; ") r.tx)] + 2 ≤ _ := lw; show wl ["short", numS c, parS (Str.join (Str.ofString "; ") l.tx), parS (Str.join (Str.ofString "; ") r.tx)] ≤ _; omega))
theorem lc_txt {rp : List D → R D} {δ : DSt} {i : Nat} {r : Rw} (hv : ∀ x, fVar i (δ.set i (.fz x)) = .ok x) (hr : ∀ p ∈ r.pts, rp [p.enc] = .ok (.str p.txt)) (hn : r.pts.length ≤ 9000) : lcF i fYes (fCall rp (fCons (fVar i) fNil)) δ r.enc [] = .ok (r.tx.map .str) := by
  have := lcF_all (i := i) (f := fCall rp (fCons (fVar i) fNil)) (δ := δ) (g := Pt.enc) (h := fun p => D.str p.txt) (xs := r.pts) (acc := []) (fun p hp => by
    rw [fCall_e, fCons_e, hv, R.bind_ok]
    exact hr p hp) (by rw [List.length_nil]; omega)
  rw [← r.enc_pts, List.nil_append] at this
  rw [this, r.tx_pts, List.map_map]
  rfl
theorem Rw.pts_le {r : Rw} (h : r.Wf) : r.pts.length ≤ 901 := by
  rw [r.pts_len]
  cases r with
  | one p => show 1 ≤ _; omega
  | cons p r => rw [Rw.Wf] at h; show r.len + 1 ≤ _; omega
theorem to_ok {rp rt : List D → R D} {r : Rw} (h : r.Wf) (hc : r.cnt ≤ 9000) (hr : ∀ p ∈ r.pts, rp [p.enc] = .ok (.str p.txt)) : runD 2 (b_text_of rp rt) [.tup r.enc] = .ok (.str r.txt) := by
  have e := lc_txt (rp := rp) (δ := [.fz (.tup r.enc), .un]) (i := 1) (fun x => rfl) hr (by have := Rw.pts_le h; omega)
  have jo : joinOk (Str.ofString "; ") r.tx = true := joinOk_by (by rw [sm_len]; have := Rw.tl_le h; omega)
  have e2 : dJoin (Str.ofString "; ") (.lst (r.tx.map .str)) = some (.str r.txt) := dJoin_l jo
  clear hr h hc jo
  generalize r.tx.map D.str = ts at *
  generalize r.enc = xs at *
  generalize r.txt = t at *
  unfold b_text_of
  walk_at "go"
theorem txt_ok : ∀ n : Nat, (∀ p : Pt, p.Wf → p.cnt ≤ 9000 → 2 * p.dep + 1 ≤ n → m_text_of_part n [p.enc] = .ok (.str p.txt)) ∧ (∀ r : Rw, r.Wf → r.cnt ≤ 9000 → 2 * r.dep + 2 ≤ n → m_text_of n [.tup r.enc] = .ok (.str r.txt))
  | 0 => ⟨fun p _ _ h => absurd h (by omega), fun r _ _ h => absurd h (by omega)⟩
  | n + 1 => ⟨fun p h hc hd => by
      rw [tp_S]
      exact tp_ok h hc fun a ha => (txt_ok n).2 a (rws_wf h a ha).1 (by have := rws_cnt a ha; omega) (by have := (rws_wf h a ha).2; omega),
    fun r h hc hd => by
      rw [to_S]
      exact to_ok h hc fun p hp => by
        have := r.pts_in h p hp
        exact (txt_ok n).1 p this.1 (by omega) (by omega)⟩
end LW
namespace LW
open PySem PySem.Spec PyProof.Rows DL
def Nm (n : Str) : Prop := n.cps.toList ≠ [] ∧ ∀ c ∈ n.cps.toList, c < 128 ∧ sepc c = false
theorem Tks.nm {n : Str} (h : Nm n) : Tks n [n] := .word h.1 h.2
theorem Tks.jn : ∀ {l : List (Str × List Str)}, l ≠ [] → (∀ x ∈ l, Tks x.1 x.2) → Tks (Str.join (Str.ofString " ") (l.map Prod.fst)) (l.map Prod.snd).flatten
  | [], h, _ => absurd rfl h
  | [x], _, h => by
    have := h x List.mem_cons_self
    show Tks x.1 (x.2 ++ [])
    rw [List.append_nil]
    exact this
  | x :: y :: l, _, h => by
    have ih := Tks.jn (l := y :: l) (by simp) (fun z hz => h z (List.mem_cons_of_mem _ hz))
    exact (h x List.mem_cons_self).sp ih
theorem Tks.ws {l : List Str} (h : l ≠ []) (k : ∀ x ∈ l, Tks x [x]) : Tks (Str.join (Str.ofString " ") l) l := by
  have := Tks.jn (l := l.map fun x => (x, [x])) (by simpa using h) (fun x hx => by
    obtain ⟨y, hy, rfl⟩ := List.mem_map.mp hx
    exact k y hy)
  rw [List.map_map, List.map_map] at this
  have e1 : l.map (Prod.fst ∘ fun x => (x, [x])) = l := List.map_id l
  have e2 : (l.map (Prod.snd ∘ fun x => (x, [x]))).flatten = l := by
    clear h k this e1
    induction l with
    | nil => rfl
    | cons x l ih => rw [List.map_cons, List.flatten_cons, ih]; rfl
  rwa [e1, e2] at this
mutual
/-- cuts in their short form -/
def Pt.nf : Pt → Pt
  | .cut3 w b s k => if s = 0 ∧ k = 1 then .cut1 w b else .cut3 w b s k
  | .arm w l r => .arm w l.nf r.nf
  | .pair n l r => .pair n l.nf r.nf
  | .short c l r => .short c l.nf r.nf
  | .pl w => .pl w
  | .put n => .put n
  | .cut1 w b => .cut1 w b
  | .each k i => .each k i
  | .rep w m => .rep w m
  | .map ns => .map ns
def Rw.nf : Rw → Rw
  | .one p => .one p.nf
  | .cons p r => .cons p.nf r.nf
end
mutual
theorem Pt.nf_enc : ∀ p : Pt, p.nf.enc = p.enc
  | .pl w => by rw [Pt.nf]
  | .put n => by rw [Pt.nf]
  | .cut1 w b => by rw [Pt.nf]
  | .cut3 w b s k => by
    rw [Pt.nf]
    split
    · rename_i h
      rw [Pt.enc, Pt.enc, h.1, h.2]
    · rfl
  | .each k i => by rw [Pt.nf]
  | .rep w m => by rw [Pt.nf]
  | .map ns => by rw [Pt.nf]
  | .arm w l r => by rw [Pt.nf, Pt.enc, Pt.enc, l.nf_enc, r.nf_enc]
  | .pair n l r => by rw [Pt.nf, Pt.enc, Pt.enc, l.nf_enc, r.nf_enc]
  | .short c l r => by rw [Pt.nf, Pt.enc, Pt.enc, l.nf_enc, r.nf_enc]
theorem Rw.nf_enc : ∀ r : Rw, r.nf.enc = r.enc
  | .one p => by rw [Rw.nf, Rw.enc, Rw.enc, p.nf_enc]
  | .cons p r => by rw [Rw.nf, Rw.enc, Rw.enc, p.nf_enc, r.nf_enc]
end
mutual
theorem Pt.nf_dep : ∀ p : Pt, p.nf.dep = p.dep
  | .pl w => by rw [Pt.nf]
  | .put n => by rw [Pt.nf]
  | .cut1 w b => by rw [Pt.nf]
  | .cut3 w b s k => by
    rw [Pt.nf]
    split
    · rw [Pt.dep, Pt.dep] <;> simp
    · rfl
  | .each k i => by rw [Pt.nf]
  | .rep w m => by rw [Pt.nf]
  | .map ns => by rw [Pt.nf]
  | .arm w l r => by rw [Pt.nf, Pt.dep, Pt.dep, l.nf_dep, r.nf_dep]
  | .pair n l r => by rw [Pt.nf, Pt.dep, Pt.dep, l.nf_dep, r.nf_dep]
  | .short c l r => by rw [Pt.nf, Pt.dep, Pt.dep, l.nf_dep, r.nf_dep]
theorem Rw.nf_dep : ∀ r : Rw, r.nf.dep = r.dep
  | .one p => by rw [Rw.nf, Rw.dep, Rw.dep, p.nf_dep]
  | .cons p r => by rw [Rw.nf, Rw.dep, Rw.dep, p.nf_dep, r.nf_dep]
end
theorem Rw.nf_len : ∀ r : Rw, r.nf.len = r.len
  | .one p => by rw [Rw.nf]; rfl
  | .cons p r => by rw [Rw.nf]; show r.nf.len + 1 = r.len + 1; rw [r.nf_len]
mutual
theorem Pt.nf_wf : ∀ {p : Pt}, p.Wf → p.nf.Wf
  | .pl w, h => by rw [Pt.nf]; exact h
  | .put n, h => by rw [Pt.nf]; exact h
  | .cut1 w b, h => by rw [Pt.nf]; exact h
  | .cut3 w b s k, h => by
    rw [Pt.nf]
    split
    · rw [Pt.Wf] at *
      exact ⟨h.1, h.2.1, h.2.2.1⟩
    · exact h
  | .each k i, h => by rw [Pt.nf]; exact h
  | .rep w m, h => by rw [Pt.nf]; exact h
  | .map ns, h => by rw [Pt.nf]; exact h
  | .arm w l r, h => by
    rw [Pt.nf]
    rw [Pt.Wf] at *
    exact ⟨h.1, Rw.nf_wf h.2.1, Rw.nf_wf h.2.2⟩
  | .pair n l r, h => by
    rw [Pt.nf]
    rw [Pt.Wf] at *
    exact ⟨h.1, Rw.nf_wf h.2.1, Rw.nf_wf h.2.2⟩
  | .short c l r, h => by
    rw [Pt.nf]
    rw [Pt.Wf] at *
    exact ⟨h.1, h.2.1, Rw.nf_wf h.2.2.1, Rw.nf_wf h.2.2.2⟩
theorem Rw.nf_wf : ∀ {r : Rw}, r.Wf → r.nf.Wf
  | .one p, h => by
    rw [Rw.nf]
    rw [Rw.Wf] at *
    exact Pt.nf_wf h
  | .cons p r, h => by
    rw [Rw.nf]
    rw [Rw.Wf] at *
    exact ⟨Pt.nf_wf h.1, Rw.nf_wf h.2.1, by rw [r.nf_len]; exact h.2.2⟩
end
theorem wds_3 {a b c : Str} {x y z : List Str} (h1 : Tks a x) (h2 : Tks b y) (h3 : Tks c z) : Tks (Str.join (Str.ofString " ") [a, b, c]) (x ++ (y ++ z)) := h1.sp (h2.sp h3)
theorem wds_4 {a b c d : Str} {x y z u : List Str} (h1 : Tks a x) (h2 : Tks b y) (h3 : Tks c z) (h4 : Tks d u) : Tks (Str.join (Str.ofString " ") [a, b, c, d]) (x ++ (y ++ (z ++ u))) := h1.sp (h2.sp (h3.sp h4))
theorem wds_2 {a b : Str} {x y : List Str} (h1 : Tks a x) (h2 : Tks b y) : Tks (Str.join (Str.ofString " ") [a, b]) (x ++ y) := h1.sp h2
mutual
theorem Pt.tks : ∀ {p : Pt}, p.Wf → (∀ u ∈ p.uses, Nm u.1) → Tks p.txt p.nf.tok
  | .pl w, h, hn => by
    rw [Pt.Wf] at h
    unfold Pt.txt
    rw [Pt.nf, Pt.wds, Pt.tok]
    exact Tks.wd (pl_word w h)
  | .put n, h, hn => by
    unfold Pt.txt
    rw [Pt.nf, Pt.wds, Pt.tok]
    rw [Pt.uses] at hn
    exact wds_2 (Tks.wd (by decide +kernel)) (Tks.nm (hn _ List.mem_cons_self))
  | .cut1 w b, h, hn => by
    rw [Pt.Wf] at h
    unfold Pt.txt
    rw [Pt.nf, Pt.wds, Pt.tok]
    exact wds_2 (Tks.wd (ct_word w h.1)) (Tks.num h.2.1 h.2.2)
  | .cut3 w b s k, h, hn => by
    rw [Pt.Wf] at h
    unfold Pt.txt
    rw [Pt.nf, Pt.wds]
    split
    · rw [Pt.tok]
      exact wds_2 (Tks.wd (ct_word w h.1)) (Tks.num h.2.1 h.2.2.1)
    · rw [Pt.tok]
      exact wds_4 (Tks.wd (ct_word w h.1)) (Tks.num h.2.1 h.2.2.1) (Tks.num (by omega) (by omega)) (Tks.num (by omega) (by omega))
  | .each k i, h, hn => by
    rw [Pt.Wf] at h
    unfold Pt.txt
    rw [Pt.nf, Pt.wds, Pt.tok]
    exact wds_3 (Tks.wd (by decide +kernel)) (Tks.num (by omega) (by omega)) (Tks.num (by omega) (by omega))
  | .rep w m, h, hn => by
    rw [Pt.Wf] at h
    unfold Pt.txt
    rw [Pt.nf, Pt.wds, Pt.tok]
    exact wds_2 (Tks.wd (by rcases h.1 with rfl | rfl | rfl <;> decide +kernel)) (Tks.num (by omega) (by omega))
  | .map ns, h, hn => by
    unfold Pt.txt
    rw [Pt.nf, Pt.wds, Pt.tok]
    rw [Pt.uses] at hn
    exact Tks.ws (by simp) fun x hx => by
      rcases List.mem_cons.mp hx with rfl | hx
      · exact Tks.wd (by decide +kernel)
      · exact Tks.nm (hn (x, 1) (List.mem_map_of_mem hx))
  | .arm w l r, h, hn => by
    rw [Pt.Wf] at h
    rw [Pt.uses] at hn
    have t1 := Rw.tks h.2.1 fun u hu => hn u (List.mem_append_left _ hu)
    have t2 := Rw.tks h.2.2 fun u hu => hn u (List.mem_append_right _ hu)
    unfold Pt.txt
    rw [Pt.nf, Pt.wds, Pt.tok]
    have := wds_3 (Tks.wd (w := w) (by rcases h.1 with rfl | rfl <;> decide +kernel)) t1.par t2.par
    simp only [List.cons_append, List.nil_append, List.append_assoc] at this
    exact this
  | .pair n l r, h, hn => by
    rw [Pt.Wf] at h
    rw [Pt.uses] at hn
    have t1 := Rw.tks h.2.1 fun u hu => hn u (List.mem_cons_of_mem _ (List.mem_append_left _ hu))
    have t2 := Rw.tks h.2.2 fun u hu => hn u (List.mem_cons_of_mem _ (List.mem_append_right _ hu))
    unfold Pt.txt
    rw [Pt.nf, Pt.wds, Pt.tok]
    have := wds_4 (Tks.wd (w := "pair") (by decide +kernel)) (Tks.nm (hn _ List.mem_cons_self)) t1.par t2.par
    simp only [List.cons_append, List.nil_append, List.append_assoc] at this
    exact this
  | .short c l r, h, hn => by
    rw [Pt.Wf] at h
    rw [Pt.uses] at hn
    have t1 := Rw.tks h.2.2.1 fun u hu => hn u (List.mem_append_left _ hu)
    have t2 := Rw.tks h.2.2.2 fun u hu => hn u (List.mem_append_right _ hu)
    unfold Pt.txt
    rw [Pt.nf, Pt.wds, Pt.tok]
    have := wds_4 (Tks.wd (w := "short") (by decide +kernel)) (Tks.num (i := c) (by omega) (by omega)) t1.par t2.par
    simp only [List.cons_append, List.nil_append, List.append_assoc] at this
    exact this
theorem Rw.tks : ∀ {r : Rw}, r.Wf → (∀ u ∈ r.uses, Nm u.1) → Tks r.txt r.nf.tok
  | .one p, h, hn => by
    rw [Rw.Wf] at h
    rw [Rw.uses] at hn
    have := Pt.tks h hn
    unfold Rw.txt
    rw [Rw.tx, Rw.nf, Rw.tok]
    exact this
  | .cons p r, h, hn => by
    rw [Rw.Wf] at h
    rw [Rw.uses] at hn
    have t1 := Pt.tks h.1 fun u hu => hn u (List.mem_append_left _ hu)
    have t2 := Rw.tks h.2.1 fun u hu => hn u (List.mem_append_right _ hu)
    have t3 := t1.semi t2
    have e : (Rw.cons p r).txt = p.txt ++ Str.ofString "; " ++ r.txt := by
      unfold Rw.txt
      rw [Rw.tx]
      cases r with
      | one q => rw [Rw.tx]; rfl
      | cons q r => rw [Rw.tx]; rfl
    rw [e, Rw.nf, Rw.tok]
    exact t3
end
abbrev Rw.obj (r : Rw) (nb : Nb) : D := .obj (Str.ofString "Program") [nb.enc, .tup r.enc, .lst (r.tx.map .str)]
theorem mp_nb {r : Rw} {nb : Nb} (hd : r.dep ≤ 6) (hc : r.cnt ≤ 24) (hm : r.mix = none) (e : r.ms .one = .ok nb) : r.mp = .ok nb.enc := by
  unfold Rw.mp
  rw [if_neg (by omega), if_neg (by omega), hm]
  show rE (r.ms .one) = _
  rw [e]
  rfl
theorem lc_top {r : Rw} {x : DS} {y : DS} (h : r.Wf) (hd : r.dep ≤ 20) (hc : r.cnt ≤ 9000) : lcF 2 fYes (fCall (m_text_of_part 60) (fCons (fVar 2) fNil)) [x, y, .un] r.enc [] = .ok (r.tx.map .str) :=
  lc_txt (fun x => rfl) (fun p hp => by
    have := r.pts_in h p hp
    exact (txt_ok 60).1 p this.1 (by omega) (by omega)) (by have := Rw.pts_le h; omega)
theorem prog_ok {s : Str} {q r : Rw} {nb : Nb} (hs : Tks s q.tok) (he : q.enc = r.enc) (hq : q.Wf) (hqd : q.dep ≤ 6) (hl : s.cps.toList.length ≤ 90000) (hw : r.Wf) (hd : r.dep ≤ 6) (hc : r.cnt ≤ 24) (hm : r.mix = none) (e : r.ms .one = .ok nb) : m_Program_read [.fn "Program", .str s] = .ok (r.obj nb) := by
  have m := mp_ok hw (by omega) (by omega)
  rw [mp_nb hd hc hm e] at m
  have := read_ok (tx := r.tx.map .str) hs hl hq hqd (by rw [he]; exact m) (by rw [he]; exact lc_top hw (by omega) (by omega))
  rwa [he] at this
theorem prog_txt {r : Rw} {nb : Nb} (hw : r.Wf) (hn : ∀ u ∈ r.uses, Nm u.1) (hd : r.dep ≤ 6) (hc : r.cnt ≤ 24) (hm : r.mix = none) (e : r.ms .one = .ok nb) : m_Program_read [.fn "Program", .str r.txt] = .ok (r.obj nb) :=
  prog_ok (q := r.nf) (Rw.tks hw hn) r.nf_enc (Rw.nf_wf hw) (by rw [r.nf_dep]; exact hd) (by have := Rw.txt_len hw; show r.txt.length ≤ _; omega) hw hd hc hm e
end LW
namespace LW
open PySem PySem.Spec PyProof.Rows DL
def isOk (e : Except Str Nb) : Bool := match e with
  | .ok _ => true
  | .error _ => false
local macro_rules | `(tactic| walk_at "sz") => `(tactic| first | assumption | exact fdiv_by (by omega) (by omega) | omega | exact lim64_by (by omega) | exact okLe_by (by simp only [List.length_append, List.length_cons, List.length_nil, List.length_map]; omega) | exact okLt_by (by simp only [List.length_append, List.length_cons, List.length_nil, List.length_map]; omega) | exact mulOk_l (by assumption) | exact mulOk_r (by assumption) | exact mulOk_l (lim64_by (by omega)) | exact mulOk_r (lim64_by (by omega)) | exact log_by (by omega) | (refine Eqb.lst ?_; repeat (first | exact EqbL.nil _ | refine EqbL.cons (Eqb.int _ _) ?_)) | (refine Eqb.tup ?_; repeat (first | exact EqbL.nil _ | refine EqbL.cons (Eqb.int _ _) ?_)))
local macro_rules | `(tactic| walk_at "e2") => `(tactic| simp (disch := walk_at "sz") only [R.bind_ok, R.bind_bad, R.bind_exc, R.of_some, R.of_none, O.on_ok, O.on_bad, O.on_exc, fVar_0, fVar_s, fOwn_0, fOwn_s, fC_e, fU_e, fB_e, fNil_e, fCons_e, fL_e, fCall_e, fTup_e, fLst_e, rIf_t, rIf_f, fIf_e, tBl_e, fTest_e, fTru_e, fNotB_e, fAndB_e, fOrB_e, fVal_e, fAnd_e, fOr_e, fNo_e, tInt_e, fSome_e, fSl_e, fSlOw_e, fLenOw_e, fIxOw_e, fInOw_e, thn_nx, thn_rt, thn_bk, thn_ct, thn_exc, thn_bad, fSeq_e, oIf_t, oIf_f, oIf_exc, fIfS_e, fSkip_e, fRet_e, fExp_e, fSet_e, fNew_e, fApp_e, fExt_e, fPop_e, fPut_e, fFrz_e, frz_0o, frz_s, fFor_e, fItems_e, fRange_e, fAsg_e, oMat_e, fMatch_e, fAug_e, fin_rt, fin_nx, fin_exc, runD_e, pName_e, pNil_e, pCons_e, pTup_e, dAdd_ii, dAdd_ss, dAdd_ll, dAdd_tt, dSub_ii, dMul_ii, dMul_li, dFdiv_ii, dMod_ii, dNeg_i, dLt_ii, dLe_ii, dGt_ii, dGe_ii, dIx_l, dIx_t, dIx_c, dIx_s, dLen_l, dLen_t, dLen_c, dLen_s, dAbs_i, dMax2_ii, dMin2_ii, dInt_i, dStr_i, dStr_s, dList_l, dList_t, dTuple_l, dTuple_t, dCut_l, dCut_t, dItems_l, dItems_t, dItems_s, dRange_1, dRange_2, dIsN_e, dNotN_e, isNon_n, isNon_b, isNon_i, isNon_s, isNon_t, isNon_l, isNon_o, dIsi_n, dIsi_b, dIsi_i, dIsi_s, dIsi_t, dIsi_l, dIn_e, dNotIn_e, dEqB_ss, dEqB_ii, dInB_strs, dInB_strsT, dEq_e, dNe_e, beq_self_eq_true, List.set_cons_zero, List.set_cons_succ, List.length_cons, List.length_nil, List.length_map, List.length_append, Option.map_some, Option.map_none, Option.bind_some, Option.bind_none, if_true, if_false, ite_true, ite_false, decide_true, decide_false, and_self, true_and, and_true, Int.zero_add, Int.toNat_natCast, cut_tl, cut_all, List.map_append, List.map_cons, List.map_nil, List.nil_append, List.cons_append, List.append_nil, List.replicate, Int.reduceLT, Int.reduceLE, Int.reduceAdd, Int.reduceSub, Int.reduceMul, Int.reduceNeg, Int.reduceToNat, Nat.reduceAdd, Nat.reduceSub, Nat.reduceLT, Nat.reduceLeDiff, Nat.reduceMul, Int.reduceEq, Nat.reduceEqDiff, Bool.not_true, Bool.not_false, Bool.and_true, Bool.true_and, Bool.and_false, Bool.false_and, Bool.or_true, Bool.true_or, Bool.or_false, Bool.false_or, Bool.and_self, Bool.or_self, reduceCtorEq, decide_eq_true_eq, Bool.false_eq_true, fLc_e, fLcL_e, lcF_nil, fJoin_e, rJoin_e, dJoin_l, oPop_ok, oPop_2, oPop_1, cast_0, cast_1, cast_2, cast_3, at_0, at_1, at_2, at_3, at_4, at_5, at_6, Int.reduceBEq, Nat.reduceBEq, oApp_ok, oExt_ok, fProp_e, rProp_e, quiet_ok, dSlot_e, fMakeSK_e, rMakeN_e, rNum_e, gMrg_e, mrg_t, mrg_f, mrg_n, fMethF_e, rMethF_e, dIntS_i, dAddS_ii, dAddS_ss, dGcd_ii, dLcm_ii, dLcm_iii, dEqB_self, at_7, at_8, at_9, at_10, at_11, at_12, at_13, at_14, at_15, at_m1, cut_toL, cut_fromL, cut_btw, List.take_succ_cons, List.take_zero, List.drop_succ_cons, List.drop_zero, List.take_nil, List.drop_nil, isT_NoneType_bool, isT_NoneType_int, isT_NoneType_str, isT_NoneType_list, isT_NoneType_tuple, isT_bool_bool, isT_bool_int, isT_bool_str, isT_bool_list, isT_bool_tuple, isT_int_bool, isT_int_int, isT_int_str, isT_int_list, isT_int_tuple, isT_str_bool, isT_str_int, isT_str_str, isT_str_list, isT_str_tuple, isT_list_bool, isT_list_int, isT_list_str, isT_list_list, isT_list_tuple, isT_tuple_bool, isT_tuple_int, isT_tuple_str, isT_tuple_list, isT_tuple_tuple, fSlS_e, dPick_l, fRange3_e, dRange3_e, fLc2_e, fCallK_e, fCallO_e, rCallO_e, fBin_e, rBin_e, oStore_s, oAsg_e2, fDic0_e, fCallV_e, List.getElem?_cons_zero, List.getElem?_cons_succ, *])
local macro_rules | `(tactic| walk_at "ev") => `(tactic| simp only [R.bind_ok, R.bind_bad, R.bind_exc, R.of_some, R.of_none, O.on_ok, O.on_bad, O.on_exc, fVar_0, fVar_s, fOwn_0, fOwn_s, fC_e, fU_e, fB_e, fNil_e, fCons_e, fL_e, fCall_e, fTup_e, fLst_e, rIf_t, rIf_f, fIf_e, tBl_e, fTest_e, fTru_e, fNotB_e, fAndB_e, fOrB_e, fVal_e, fAnd_e, fOr_e, fNo_e, tInt_e, fSome_e, fSl_e, fSlOw_e, fLenOw_e, fIxOw_e, fInOw_e, thn_nx, thn_rt, thn_bk, thn_ct, thn_exc, thn_bad, fSeq_e, oIf_t, oIf_f, oIf_exc, fIfS_e, fSkip_e, fRet_e, fExp_e, fSet_e, fNew_e, fApp_e, fExt_e, fPop_e, fPut_e, fFrz_e, frz_0o, frz_s, fFor_e, fItems_e, fRange_e, fAsg_e, oMat_e, fMatch_e, fAug_e, fin_rt, fin_nx, fin_exc, runD_e, pName_e, pNil_e, pCons_e, pTup_e, dAdd_ii, dAdd_ss, dAdd_ll, dAdd_tt, dSub_ii, dMul_ii, dMul_li, dFdiv_ii, dMod_ii, dNeg_i, dLt_ii, dLe_ii, dGt_ii, dGe_ii, dIx_l, dIx_t, dIx_c, dIx_s, dLen_l, dLen_t, dLen_c, dLen_s, dAbs_i, dMax2_ii, dMin2_ii, dInt_i, dStr_i, dStr_s, dList_l, dList_t, dTuple_l, dTuple_t, dCut_l, dCut_t, dItems_l, dItems_t, dItems_s, dRange_1, dRange_2, dIsN_e, dNotN_e, isNon_n, isNon_b, isNon_i, isNon_s, isNon_t, isNon_l, isNon_o, dIsi_n, dIsi_b, dIsi_i, dIsi_s, dIsi_t, dIsi_l, dIn_e, dNotIn_e, dEqB_ss, dEqB_ii, dInB_strs, dInB_strsT, dEq_e, dNe_e, beq_self_eq_true, List.set_cons_zero, List.set_cons_succ, List.length_cons, List.length_nil, List.length_map, List.length_append, Option.map_some, Option.map_none, Option.bind_some, Option.bind_none, if_true, if_false, ite_true, ite_false, decide_true, decide_false, and_self, true_and, and_true, Int.zero_add, Int.toNat_natCast, cut_tl, cut_all, List.map_append, List.map_cons, List.map_nil, List.nil_append, List.cons_append, List.append_nil, List.replicate, Int.reduceLT, Int.reduceLE, Int.reduceAdd, Int.reduceSub, Int.reduceMul, Int.reduceNeg, Int.reduceToNat, Nat.reduceAdd, Nat.reduceSub, Nat.reduceLT, Nat.reduceLeDiff, Nat.reduceMul, Int.reduceEq, Nat.reduceEqDiff, Bool.not_true, Bool.not_false, Bool.and_true, Bool.true_and, Bool.and_false, Bool.false_and, Bool.or_true, Bool.true_or, Bool.or_false, Bool.false_or, Bool.and_self, Bool.or_self, reduceCtorEq, decide_eq_true_eq, Bool.false_eq_true, fLc_e, fLcL_e, lcF_nil, fJoin_e, rJoin_e, dJoin_l, oPop_ok, oPop_2, oPop_1, cast_0, cast_1, cast_2, cast_3, at_0, at_1, at_2, at_3, at_4, at_5, at_6, Int.reduceBEq, Nat.reduceBEq, oApp_ok, oExt_ok, fProp_e, rProp_e, quiet_ok, dSlot_e, fMakeSK_e, rMakeN_e, rNum_e, gMrg_e, mrg_t, mrg_f, mrg_n, fMethF_e, rMethF_e, dIntS_i, dAddS_ii, dAddS_ss, dGcd_ii, dLcm_ii, dLcm_iii, at_7, at_8, at_9, at_10, at_11, at_12, at_13, at_14, at_15, isT_NoneType_bool, isT_NoneType_int, isT_NoneType_str, isT_NoneType_list, isT_NoneType_tuple, isT_bool_bool, isT_bool_int, isT_bool_str, isT_bool_list, isT_bool_tuple, isT_int_bool, isT_int_int, isT_int_str, isT_int_list, isT_int_tuple, isT_str_bool, isT_str_int, isT_str_str, isT_str_list, isT_str_tuple, isT_list_bool, isT_list_int, isT_list_str, isT_list_list, isT_list_tuple, isT_tuple_bool, isT_tuple_int, isT_tuple_str, isT_tuple_list, isT_tuple_tuple, fSlS_e, dPick_l, fRange3_e, dRange3_e, fLc2_e, fCallK_e, fCallO_e, rCallO_e, fBin_e, rBin_e, oStore_s, oAsg_e2, fDic0_e, fCallV_e, List.getElem?_cons_zero, List.getElem?_cons_succ, *])
local macro_rules | `(tactic| walk_at "rd") => `(tactic| simp (disch := walk_at "sz") only [R.bind_ok, R.bind_bad, R.bind_exc, R.of_some, R.of_none, O.on_ok, O.on_bad, O.on_exc, fVar_0, fVar_s, fOwn_0, fOwn_s, fC_e, fU_e, fB_e, fNil_e, fCons_e, fL_e, fCall_e, fTup_e, fLst_e, rIf_t, rIf_f, fIf_e, tBl_e, fTest_e, fTru_e, fNotB_e, fAndB_e, fOrB_e, fVal_e, fAnd_e, fOr_e, fNo_e, tInt_e, fSome_e, fSl_e, fSlOw_e, fLenOw_e, fIxOw_e, fInOw_e, thn_nx, thn_rt, thn_bk, thn_ct, thn_exc, thn_bad, fSeq_e, oIf_t, oIf_f, oIf_exc, fIfS_e, fSkip_e, fRet_e, fExp_e, fSet_e, fNew_e, fApp_e, fExt_e, fPop_e, fPut_e, fFrz_e, frz_0o, frz_s, fFor_e, fItems_e, fRange_e, fAsg_e, oMat_e, fMatch_e, fAug_e, fin_rt, fin_nx, fin_exc, runD_e, pName_e, pNil_e, pCons_e, pTup_e, dAdd_ii, dAdd_ss, dAdd_ll, dAdd_tt, dSub_ii, dMul_ii, dMul_li, dFdiv_ii, dMod_ii, dNeg_i, dLt_ii, dLe_ii, dGt_ii, dGe_ii, dIx_l, dIx_t, dIx_c, dIx_s, dLen_l, dLen_t, dLen_c, dLen_s, dAbs_i, dMax2_ii, dMin2_ii, dInt_i, dStr_i, dStr_s, dList_l, dList_t, dTuple_l, dTuple_t, dCut_l, dCut_t, dItems_l, dItems_t, dItems_s, dRange_1, dRange_2, dIsN_e, dNotN_e, isNon_n, isNon_b, isNon_i, isNon_s, isNon_t, isNon_l, isNon_o, dIsi_n, dIsi_b, dIsi_i, dIsi_s, dIsi_t, dIsi_l, dIn_e, dNotIn_e, dEqB_ss, dEqB_ii, dInB_strs, dInB_strsT, dEq_e, dNe_e, beq_self_eq_true, List.set_cons_zero, List.set_cons_succ, List.length_cons, List.length_nil, List.length_map, List.length_append, Option.map_some, Option.map_none, Option.bind_some, Option.bind_none, if_true, if_false, ite_true, ite_false, decide_true, decide_false, and_self, true_and, and_true, Int.zero_add, Int.toNat_natCast, cut_tl, cut_all, List.map_append, List.map_cons, List.map_nil, List.nil_append, List.cons_append, List.append_nil, List.replicate, Int.reduceLT, Int.reduceLE, Int.reduceAdd, Int.reduceSub, Int.reduceMul, Int.reduceNeg, Int.reduceToNat, Nat.reduceAdd, Nat.reduceSub, Nat.reduceLT, Nat.reduceLeDiff, Nat.reduceMul, Int.reduceEq, Nat.reduceEqDiff, Bool.not_true, Bool.not_false, Bool.and_true, Bool.true_and, Bool.and_false, Bool.false_and, Bool.or_true, Bool.true_or, Bool.or_false, Bool.false_or, Bool.and_self, Bool.or_self, reduceCtorEq, decide_eq_true_eq, Bool.false_eq_true, fLc_e, fLcL_e, lcF_nil, fJoin_e, rJoin_e, dJoin_l, oPop_ok, oPop_2, oPop_1, cast_0, cast_1, cast_2, cast_3, at_0, at_1, at_2, at_3, at_4, at_5, at_6, Int.reduceBEq, Nat.reduceBEq, oApp_ok, oExt_ok, fProp_e, rProp_e, quiet_ok, dSlot_e, fMakeSK_e, rMakeN_e, rNum_e, gMrg_e, mrg_t, mrg_f, mrg_n, fMethF_e, rMethF_e, dIntS_i, dAddS_ii, dAddS_ss, dGcd_ii, dLcm_ii, dLcm_iii, dEqB_self, at_7, at_8, at_9, at_10, at_11, at_12, at_13, at_14, at_15, at_m1, cut_toL, cut_fromL, cut_btw, List.take_succ_cons, List.take_zero, List.drop_succ_cons, List.drop_zero, List.take_nil, List.drop_nil, isT_NoneType_bool, isT_NoneType_int, isT_NoneType_str, isT_NoneType_list, isT_NoneType_tuple, isT_bool_bool, isT_bool_int, isT_bool_str, isT_bool_list, isT_bool_tuple, isT_int_bool, isT_int_int, isT_int_str, isT_int_list, isT_int_tuple, isT_str_bool, isT_str_int, isT_str_str, isT_str_list, isT_str_tuple, isT_list_bool, isT_list_int, isT_list_str, isT_list_list, isT_list_tuple, isT_tuple_bool, isT_tuple_int, isT_tuple_str, isT_tuple_list, isT_tuple_tuple, fSlS_e, dPick_l, fRange3_e, dRange3_e, fLc2_e, fCallK_e, fCallO_e, rCallO_e, fBin_e, rBin_e, oStore_s, oAsg_e2, fDic0_e, fCallV_e, List.getElem?_cons_zero, List.getElem?_cons_succ, runM_e, finM_rt, finM_nx, self_r, fld_at, fld_depth, fld_toks, step_at, step_in, step_out, meth_number, meth_name, meth_name_list, meth_sign, meth_row, meth_arm, meth_part, meth_cut, meth_other, rmeth_r, fPure_e, fNilX_e, fConsX_e, fTupX_e, fRetX_e, fExpX_e, fSetX_e, fNewX_e, oAppX_e, fAppX_e, view_tok, *])
theorem pow18 : dPow (.int 10) (.int 18) = some (.int 1000000000000000000) := by
  have h : powOk 10 18 = true := by decide
  show (if powOk 10 18 = true then some (D.int (10 ^ Int.toNat 18)) else none) = _
  rw [if_pos h]
  rfl
theorem small20 : small62 20 = true := by decide
def Dr (ds : List Int) : Prop := ∀ d ∈ ds, 0 ≤ d ∧ d < 1000000
theorem Dr.nil : Dr [] := fun _ h => by cases h
theorem Dr.app {ds : List Int} {d : Int} (h : Dr ds) (h0 : 0 ≤ d) (h1 : d < 1000000) : Dr (ds ++ [d]) := fun e he => by
  rcases List.mem_append.mp he with q | q
  · exact h e q
  · cases List.mem_singleton.mp q; exact ⟨h0, h1⟩
theorem draws_in (a b : DS) (c0 : Int) (ds : List Int) (s3 s5 s6 : DS) (hc : 0 ≤ c0) (hd : Dr ds) (hl : ds.length ≤ 10000) : ∃ ds' c' s5', Dr ds' ∧ ds'.length ≤ ds.length + 20 ∧
    loopF (pName 5) l1__law_draws (dInts 0 20) [a, b, .ow (ds.map .int), s3, .fz (.int c0), s5, s6] = .nx [a, b, .ow (ds'.map .int), s3, .fz (.int c'), s5', s6] := by
  obtain ⟨δ', h1, ds', c', s5', h2, h3, h4, h5⟩ := loopF_range (put := pName 5) (body := l1__law_draws) (lo := 0) (n := 20) (δ := [a, b, .ow (ds.map .int), s3, .fz (.int c0), s5, s6])
    (fun k δ => ∃ (ds' : List Int) (c' : Int) (s5' : DS), Dr ds' ∧ ds'.length ≤ ds.length + k ∧ 0 ≤ c' ∧ δ = [a, b, .ow (ds'.map .int), s3, .fz (.int c'), s5', s6])
    ⟨ds, c0, s5, hd, Nat.le_refl _, hc, rfl⟩ (fun k δ hk h => by
      obtain ⟨ds', c', s5', h1, h2, h3, rfl⟩ := h
      have hlt : okLt ds'.length = true := okLt_by (by omega)
      refine ⟨_, rfl, ?_⟩
      by_cases z : (0 : Int) < c'
      · refine ⟨[a, b, .ow ((ds' ++ [c' % 1000000]).map .int), s3, .fz (.int (c' / 1000000)), .fz (.int (0 + (k : Nat))), s6], .inl ?_, _, _, _, h1.app (by omega) (by omega), by simp; omega, by omega, rfl⟩
        unfold l1__law_draws
        walk_at "ev"
      · refine ⟨[a, b, .ow (ds'.map .int), s3, .fz (.int (c' / 1000000)), .fz (.int (0 + (k : Nat))), s6], .inl ?_, _, _, _, h1, by omega, by omega, rfl⟩
        unfold l1__law_draws
        walk_at "ev")
  exact ⟨ds', c', s5', h2, h3, by rw [h1, h5]⟩
theorem draws_ok (ns : List Int) (hn : ns.length ≤ 63) (m : Nat) (hm : m ≤ 1000) : ∃ ds : List Int, ds.length = m ∧ Dr ds ∧ m__law_draws [.scr (ns.map .int), .int m] = .ok (.lst (ds.map .int)) := by
  obtain ⟨δ', h1, ds', s3, s4, s5, s6, h2, h3, h4⟩ := loopF_range (put := pName 3) (body := l2__law_draws) (lo := 0) (n := ns.length) (δ := [.fz (.scr (ns.map .int)), .fz (.int m), .ow (([] : List Int).map .int), .un, .un, .un, .un])
    (fun k δ => ∃ (ds' : List Int) (s3 s4 s5 s6 : DS), Dr ds' ∧ ds'.length ≤ 20 * k ∧ δ = [.fz (.scr (ns.map .int)), .fz (.int m), .ow (ds'.map .int), s3, s4, s5, s6])
    ⟨[], _, _, _, _, Dr.nil, Nat.le_refl _, rfl⟩ (fun k δ hk h => by
      obtain ⟨ds', s3, s4, s5, s6, h1, h2, rfl⟩ := h
      refine ⟨_, rfl, ?_⟩
      have hat : L2.atI (ns.map D.int) (k : Nat) = some (.int ns[k]) := L2.atI_nat (by rw [List.getElem?_map, List.getElem?_eq_getElem hk]; rfl)
      generalize hc : (if ns[k] < 0 then -ns[k] else ns[k]) = c
      have hc0 : 0 ≤ c := by rw [← hc]; split <;> omega
      have p18 := pow18
      by_cases z : (1000000000000000000 : Int) ≤ c
      · obtain ⟨ds2, c', s5', g1, g2, g3⟩ := draws_in (.fz (.scr (ns.map .int))) (.fz (.int m)) c ds' (.fz (.int (k : Nat))) s5 s6 hc0 h1 (by omega)
        refine ⟨[.fz (.scr (ns.map .int)), .fz (.int m), .ow (ds2.map .int), .fz (.int (k : Nat)), .fz (.int c'), s5', s6], .inl ?_, ds2, _, _, _, _, g1, by omega, rfl⟩
        have s20 := small20
        unfold l2__law_draws
        walk_at "ev"
      · have hlt : okLt ds'.length = true := okLt_by (by omega)
        have l1 : mulOk c 48271 = true := mulOk_r (by decide)
        have l2 : mulOk (k : Nat) 7919 = true := mulOk_r (by decide)
        have m1 : 0 ≤ (c * 48271 + (k : Nat) * 7919 + 1) % 2147483647 := by omega
        have m2 : (c * 48271 + (k : Nat) * 7919 + 1) % 2147483647 < 2147483647 := by omega
        generalize hx : (c * 48271 + (k : Nat) * 7919 + 1) % 2147483647 = x at m1 m2
        have l3 : mulOk x x = true := mulOk_l (lim_by (by show x.natAbs < 18446744073709551616; omega))
        refine ⟨[.fz (.scr (ns.map .int)), .fz (.int m), .ow ((ds' ++ [x * x % 2147483629 % 1000000]).map .int), .fz (.int (k : Nat)), .fz (.int c), s5, .fz (.int x)], .inl ?_, _, _, _, _, _, h1.app (by omega) (by omega), by simp; omega, rfl⟩
        unfold l2__law_draws
        walk_at "ev")
  refine ⟨(ds' ++ List.replicate m 0).take m, by simp, fun d hd => ?_, ?_⟩
  · rcases List.mem_append.mp (List.mem_of_mem_take hd) with q | q
    · exact h2 d q
    · rw [List.eq_of_mem_replicate q]; decide
  · have lt : (if (63 : Int) < (ns.length : Nat) then (63 : Int) else (ns.length : Nat)) = (ns.length : Nat) := by split <;> omega
    have sm : small62 (ns.length : Nat) = true := small62_by (by omega)
    have ro : repOk 1 m = true := repOk_by (lim_by (by show Int.natAbs _ < 9223372036854775808; omega)) (by omega)
    have ro2 : okLe (ds'.length + (List.replicate m [D.int 0]).flatten.length) = true := okLe_by (by rw [flat_one, List.length_replicate]; omega)
    subst h4
    rw [List.map_nil] at h1
    unfold m__law_draws b__law_draws
    walk_at "ev"
    rw [cut_to, flat_one, map_rep, List.map_take, List.map_append]
def drl (dr : Nat → Int) (a n : Nat) : List D := (List.range n).map fun k => D.int (dr (a + k))
def DrF (dr : Nat → Int) : Prop := ∀ k, 0 ≤ dr k ∧ dr k < 1000000
theorem drl_at {dr : Nat → Int} {a n : Nat} {i : Int} (h0 : 0 ≤ i) (h : i < n) : L2.atI (drl dr a n) i = some (.int (dr (a + i.toNat))) := by
  obtain ⟨k, rfl⟩ := Int.eq_ofNat_of_zero_le h0
  have hk : k < n := by omega
  refine L2.atI_nat (j := k) ?_
  unfold drl
  simp [hk]
theorem draws_fn (ns : List Int) (hn : ns.length ≤ 63) (m : Nat) (hm : m ≤ 1000) : ∃ dr : Nat → Int, DrF dr ∧ m__law_draws [.scr (ns.map .int), .int m] = .ok (.lst (drl dr 0 m)) := by
  obtain ⟨ds, hl, hd, e⟩ := draws_ok ns hn m hm
  refine ⟨fun k => ds.getD k 0, fun k => ?_, ?_⟩
  · by_cases h : k < ds.length
    · have := hd ds[k] (List.getElem_mem h)
      simp only [List.getD_eq_getElem?_getD, List.getElem?_eq_getElem h, Option.getD_some]
      exact this
    · simp only [List.getD_eq_getElem?_getD, List.getElem?_eq_none (Nat.le_of_not_lt h), Option.getD_none]
      omega
  · rw [e]
    refine congrArg (fun l => R.ok (D.lst l)) ?_
    refine List.ext_getElem? fun k => ?_
    unfold drl
    rw [List.getElem?_map, List.getElem?_map]
    by_cases h : k < m
    · rw [List.getElem?_range h]
      simp [List.getElem?_eq_getElem (hl ▸ h)]
    · rw [List.getElem?_eq_none (by omega), List.getElem?_eq_none (by simp; omega)]
      rfl
theorem DrF.mod {dr : Nat → Int} (h : DrF dr) (k : Nat) : 0 ≤ dr k ∧ dr k < 1000000 := h k
end LW
namespace LW
open PySem PySem.Spec PyProof.Rows DL
def Pt.lw : Pt → List D
  | .pl w => [.str w]
  | .put n => [.str "put", .str n]
  | .cut1 w b => [.str w, .int b]
  | .cut3 w b s k => [.str w, .int b, .int s, .int k]
  | .each k i => [.str "each", .int k, .int i]
  | .rep w m => [.str w, .int m]
  | .map ns => .str "map" :: ns.map .str
  | _ => []
theorem tok_w : ∀ {p : Pt}, p.Wf → p.rws = [] → (∀ u ∈ p.uses, Nm u.1) → ∀ x ∈ p.tok, Tks x [x] ∧ x.length ≤ 7
  | .pl w, h, _, hn, x, hx => by
    rw [Pt.Wf] at h
    rw [Pt.tok] at hx
    rw [List.mem_singleton.mp hx]
    exact ⟨Tks.wd (pl_word w h), wd_len w (pl_word w h)⟩
  | .put n, h, _, hn, x, hx => by
    rw [Pt.Wf] at h
    rw [Pt.tok] at hx
    rw [Pt.uses] at hn
    rcases List.mem_cons.mp hx with rfl | hx
    · exact ⟨Tks.wd (by decide +kernel), wd_len _ (by decide +kernel)⟩
    · rw [List.mem_singleton.mp hx]
      exact ⟨Tks.nm (hn _ List.mem_cons_self), by have := isName_len h; omega⟩
  | .cut1 w b, h, _, hn, x, hx => by
    rw [Pt.Wf] at h
    rw [Pt.tok] at hx
    rcases List.mem_cons.mp hx with rfl | hx
    · exact ⟨Tks.wd (ct_word _ h.1), wd_len _ (ct_word _ h.1)⟩
    · rw [List.mem_singleton.mp hx]
      exact ⟨Tks.num h.2.1 h.2.2, by have := num_len h.2.1 h.2.2; omega⟩
  | .cut3 w b s k, h, _, hn, x, hx => by
    rw [Pt.Wf] at h
    rw [Pt.tok] at hx
    have := num_len h.2.1 h.2.2.1
    have := num_len (i := s) (by omega) (by omega)
    have := num_len (i := k) (by omega) (by omega)
    rcases List.mem_cons.mp hx with rfl | hx
    · exact ⟨Tks.wd (ct_word _ h.1), wd_len _ (ct_word _ h.1)⟩
    · rcases List.mem_cons.mp hx with rfl | hx
      · exact ⟨Tks.num h.2.1 h.2.2.1, by omega⟩
      · rcases List.mem_cons.mp hx with rfl | hx
        · exact ⟨Tks.num (by omega) (by omega), by omega⟩
        · rw [List.mem_singleton.mp hx]
          exact ⟨Tks.num (by omega) (by omega), by omega⟩
  | .each k i, h, _, hn, x, hx => by
    rw [Pt.Wf] at h
    rw [Pt.tok] at hx
    have := num_len (i := i) (by omega) (by omega)
    have := num_len (i := k) (by omega) (by omega)
    rcases List.mem_cons.mp hx with rfl | hx
    · exact ⟨Tks.wd (by decide +kernel), wd_len _ (by decide +kernel)⟩
    · rcases List.mem_cons.mp hx with rfl | hx
      · exact ⟨Tks.num (by omega) (by omega), by omega⟩
      · rw [List.mem_singleton.mp hx]
        exact ⟨Tks.num (by omega) (by omega), by omega⟩
  | .rep w m, h, _, hn, x, hx => by
    rw [Pt.Wf] at h
    rw [Pt.tok] at hx
    have := num_len (i := m) (by omega) (by omega)
    have hw : w ∈ aWords := by rcases h.1 with rfl | rfl | rfl <;> decide +kernel
    rcases List.mem_cons.mp hx with rfl | hx
    · exact ⟨Tks.wd hw, wd_len _ hw⟩
    · rw [List.mem_singleton.mp hx]
      exact ⟨Tks.num (by omega) (by omega), by omega⟩
  | .map ns, h, _, hn, x, hx => by
    rw [Pt.Wf] at h
    rw [Pt.tok] at hx
    rw [Pt.uses] at hn
    rcases List.mem_cons.mp hx with rfl | hx
    · exact ⟨Tks.wd (by decide +kernel), wd_len _ (by decide +kernel)⟩
    · exact ⟨Tks.nm (hn (x, 1) (List.mem_map_of_mem hx)), by have := isName_len (h.2.2 x hx); omega⟩
  | .arm w l r, _, e, _, _, _ => by cases e
  | .pair w l r, _, e, _, _, _ => by cases e
  | .short w l r, _, e, _, _, _ => by cases e
theorem wl_of : ∀ l : List Str, (∀ x ∈ l, x.length ≤ 7) → wl l ≤ 8 * l.length
  | [], _ => Nat.le_refl _
  | x :: l, h => by
    have h1 := h x List.mem_cons_self
    have h2 := wl_of l fun y hy => h y (List.mem_cons_of_mem _ hy)
    unfold wl at *
    rw [List.map_cons, List.sum_cons, List.length_cons]
    omega
theorem tok_len {p : Pt} (e : p.rws = []) : p.tok.length ≤ p.cnt + 3 := by cases p <;> first | (cases e; done) | (rw [Pt.tok, Pt.cnt]; simp)
end LW
namespace LW
open PySem PySem.Spec PyProof.Rows DL
local macro_rules | `(tactic| walk_at "sz") => `(tactic| first | assumption | exact fdiv_by (by omega) (by omega) | omega | exact lim64_by (by omega) | exact okLe_by (by simp only [List.length_append, List.length_cons, List.length_nil, List.length_map]; omega) | exact okLt_by (by simp only [List.length_append, List.length_cons, List.length_nil, List.length_map]; omega) | exact mulOk_l (by assumption) | exact mulOk_r (by assumption) | exact mulOk_l (lim64_by (by omega)) | exact mulOk_r (lim64_by (by omega)) | exact log_by (by omega) | (refine Eqb.lst ?_; repeat (first | exact EqbL.nil _ | refine EqbL.cons (Eqb.int _ _) ?_)) | (refine Eqb.tup ?_; repeat (first | exact EqbL.nil _ | refine EqbL.cons (Eqb.int _ _) ?_)))
local macro_rules | `(tactic| walk_at "e2") => `(tactic| simp (disch := walk_at "sz") only [R.bind_ok, R.bind_bad, R.bind_exc, R.of_some, R.of_none, O.on_ok, O.on_bad, O.on_exc, fVar_0, fVar_s, fOwn_0, fOwn_s, fC_e, fU_e, fB_e, fNil_e, fCons_e, fL_e, fCall_e, fTup_e, fLst_e, rIf_t, rIf_f, fIf_e, tBl_e, fTest_e, fTru_e, fNotB_e, fAndB_e, fOrB_e, fVal_e, fAnd_e, fOr_e, fNo_e, tInt_e, fSome_e, fSl_e, fSlOw_e, fLenOw_e, fIxOw_e, fInOw_e, thn_nx, thn_rt, thn_bk, thn_ct, thn_exc, thn_bad, fSeq_e, oIf_t, oIf_f, oIf_exc, fIfS_e, fSkip_e, fRet_e, fExp_e, fSet_e, fNew_e, fApp_e, fExt_e, fPop_e, fPut_e, fFrz_e, frz_0o, frz_s, fFor_e, fItems_e, fRange_e, fAsg_e, oMat_e, fMatch_e, fAug_e, fin_rt, fin_nx, fin_exc, runD_e, pName_e, pNil_e, pCons_e, pTup_e, dAdd_ii, dAdd_ss, dAdd_ll, dAdd_tt, dSub_ii, dMul_ii, dMul_li, dFdiv_ii, dMod_ii, dNeg_i, dLt_ii, dLe_ii, dGt_ii, dGe_ii, dIx_l, dIx_t, dIx_c, dIx_s, dLen_l, dLen_t, dLen_c, dLen_s, dAbs_i, dMax2_ii, dMin2_ii, dInt_i, dStr_i, dStr_s, dList_l, dList_t, dTuple_l, dTuple_t, dCut_l, dCut_t, dItems_l, dItems_t, dItems_s, dRange_1, dRange_2, dIsN_e, dNotN_e, isNon_n, isNon_b, isNon_i, isNon_s, isNon_t, isNon_l, isNon_o, dIsi_n, dIsi_b, dIsi_i, dIsi_s, dIsi_t, dIsi_l, dIn_e, dNotIn_e, dEqB_ss, dEqB_ii, dInB_strs, dInB_strsT, dEq_e, dNe_e, beq_self_eq_true, List.set_cons_zero, List.set_cons_succ, List.length_cons, List.length_nil, List.length_map, List.length_append, Option.map_some, Option.map_none, Option.bind_some, Option.bind_none, if_true, if_false, ite_true, ite_false, decide_true, decide_false, and_self, true_and, and_true, Int.zero_add, Int.toNat_natCast, cut_tl, cut_all, List.map_append, List.map_cons, List.map_nil, List.nil_append, List.cons_append, List.append_nil, List.replicate, Int.reduceLT, Int.reduceLE, Int.reduceAdd, Int.reduceSub, Int.reduceMul, Int.reduceNeg, Int.reduceToNat, Nat.reduceAdd, Nat.reduceSub, Nat.reduceLT, Nat.reduceLeDiff, Nat.reduceMul, Int.reduceEq, Nat.reduceEqDiff, Bool.not_true, Bool.not_false, Bool.and_true, Bool.true_and, Bool.and_false, Bool.false_and, Bool.or_true, Bool.true_or, Bool.or_false, Bool.false_or, Bool.and_self, Bool.or_self, reduceCtorEq, decide_eq_true_eq, Bool.false_eq_true, fLc_e, fLcL_e, lcF_nil, fJoin_e, rJoin_e, dJoin_l, oPop_ok, oPop_2, oPop_1, cast_0, cast_1, cast_2, cast_3, at_0, at_1, at_2, at_3, at_4, at_5, at_6, Int.reduceBEq, Nat.reduceBEq, oApp_ok, oExt_ok, fProp_e, rProp_e, quiet_ok, dSlot_e, fMakeSK_e, rMakeN_e, rNum_e, gMrg_e, mrg_t, mrg_f, mrg_n, fMethF_e, rMethF_e, dIntS_i, dAddS_ii, dAddS_ss, dGcd_ii, dLcm_ii, dLcm_iii, dEqB_self, at_7, at_8, at_9, at_10, at_11, at_12, at_13, at_14, at_15, at_m1, cut_toL, cut_fromL, cut_btw, List.take_succ_cons, List.take_zero, List.drop_succ_cons, List.drop_zero, List.take_nil, List.drop_nil, isT_NoneType_bool, isT_NoneType_int, isT_NoneType_str, isT_NoneType_list, isT_NoneType_tuple, isT_bool_bool, isT_bool_int, isT_bool_str, isT_bool_list, isT_bool_tuple, isT_int_bool, isT_int_int, isT_int_str, isT_int_list, isT_int_tuple, isT_str_bool, isT_str_int, isT_str_str, isT_str_list, isT_str_tuple, isT_list_bool, isT_list_int, isT_list_str, isT_list_list, isT_list_tuple, isT_tuple_bool, isT_tuple_int, isT_tuple_str, isT_tuple_list, isT_tuple_tuple, fSlS_e, dPick_l, fRange3_e, dRange3_e, fLc2_e, fCallK_e, fCallO_e, rCallO_e, fBin_e, rBin_e, oStore_s, oAsg_e2, fDic0_e, fCallV_e, List.getElem?_cons_zero, List.getElem?_cons_succ, *])
local macro_rules | `(tactic| walk_at "ev") => `(tactic| simp only [R.bind_ok, R.bind_bad, R.bind_exc, R.of_some, R.of_none, O.on_ok, O.on_bad, O.on_exc, fVar_0, fVar_s, fOwn_0, fOwn_s, fC_e, fU_e, fB_e, fNil_e, fCons_e, fL_e, fCall_e, fTup_e, fLst_e, rIf_t, rIf_f, fIf_e, tBl_e, fTest_e, fTru_e, fNotB_e, fAndB_e, fOrB_e, fVal_e, fAnd_e, fOr_e, fNo_e, tInt_e, fSome_e, fSl_e, fSlOw_e, fLenOw_e, fIxOw_e, fInOw_e, thn_nx, thn_rt, thn_bk, thn_ct, thn_exc, thn_bad, fSeq_e, oIf_t, oIf_f, oIf_exc, fIfS_e, fSkip_e, fRet_e, fExp_e, fSet_e, fNew_e, fApp_e, fExt_e, fPop_e, fPut_e, fFrz_e, frz_0o, frz_s, fFor_e, fItems_e, fRange_e, fAsg_e, oMat_e, fMatch_e, fAug_e, fin_rt, fin_nx, fin_exc, runD_e, pName_e, pNil_e, pCons_e, pTup_e, dAdd_ii, dAdd_ss, dAdd_ll, dAdd_tt, dSub_ii, dMul_ii, dMul_li, dFdiv_ii, dMod_ii, dNeg_i, dLt_ii, dLe_ii, dGt_ii, dGe_ii, dIx_l, dIx_t, dIx_c, dIx_s, dLen_l, dLen_t, dLen_c, dLen_s, dAbs_i, dMax2_ii, dMin2_ii, dInt_i, dStr_i, dStr_s, dList_l, dList_t, dTuple_l, dTuple_t, dCut_l, dCut_t, dItems_l, dItems_t, dItems_s, dRange_1, dRange_2, dIsN_e, dNotN_e, isNon_n, isNon_b, isNon_i, isNon_s, isNon_t, isNon_l, isNon_o, dIsi_n, dIsi_b, dIsi_i, dIsi_s, dIsi_t, dIsi_l, dIn_e, dNotIn_e, dEqB_ss, dEqB_ii, dInB_strs, dInB_strsT, dEq_e, dNe_e, beq_self_eq_true, List.set_cons_zero, List.set_cons_succ, List.length_cons, List.length_nil, List.length_map, List.length_append, Option.map_some, Option.map_none, Option.bind_some, Option.bind_none, if_true, if_false, ite_true, ite_false, decide_true, decide_false, and_self, true_and, and_true, Int.zero_add, Int.toNat_natCast, cut_tl, cut_all, List.map_append, List.map_cons, List.map_nil, List.nil_append, List.cons_append, List.append_nil, List.replicate, Int.reduceLT, Int.reduceLE, Int.reduceAdd, Int.reduceSub, Int.reduceMul, Int.reduceNeg, Int.reduceToNat, Nat.reduceAdd, Nat.reduceSub, Nat.reduceLT, Nat.reduceLeDiff, Nat.reduceMul, Int.reduceEq, Nat.reduceEqDiff, Bool.not_true, Bool.not_false, Bool.and_true, Bool.true_and, Bool.and_false, Bool.false_and, Bool.or_true, Bool.true_or, Bool.or_false, Bool.false_or, Bool.and_self, Bool.or_self, reduceCtorEq, decide_eq_true_eq, Bool.false_eq_true, fLc_e, fLcL_e, lcF_nil, fJoin_e, rJoin_e, dJoin_l, oPop_ok, oPop_2, oPop_1, cast_0, cast_1, cast_2, cast_3, at_0, at_1, at_2, at_3, at_4, at_5, at_6, Int.reduceBEq, Nat.reduceBEq, oApp_ok, oExt_ok, fProp_e, rProp_e, quiet_ok, dSlot_e, fMakeSK_e, rMakeN_e, rNum_e, gMrg_e, mrg_t, mrg_f, mrg_n, fMethF_e, rMethF_e, dIntS_i, dAddS_ii, dAddS_ss, dGcd_ii, dLcm_ii, dLcm_iii, at_7, at_8, at_9, at_10, at_11, at_12, at_13, at_14, at_15, isT_NoneType_bool, isT_NoneType_int, isT_NoneType_str, isT_NoneType_list, isT_NoneType_tuple, isT_bool_bool, isT_bool_int, isT_bool_str, isT_bool_list, isT_bool_tuple, isT_int_bool, isT_int_int, isT_int_str, isT_int_list, isT_int_tuple, isT_str_bool, isT_str_int, isT_str_str, isT_str_list, isT_str_tuple, isT_list_bool, isT_list_int, isT_list_str, isT_list_list, isT_list_tuple, isT_tuple_bool, isT_tuple_int, isT_tuple_str, isT_tuple_list, isT_tuple_tuple, fSlS_e, dPick_l, fRange3_e, dRange3_e, fLc2_e, fCallK_e, fCallO_e, rCallO_e, fBin_e, rBin_e, oStore_s, oAsg_e2, fDic0_e, fCallV_e, List.getElem?_cons_zero, List.getElem?_cons_succ, *])
local macro_rules | `(tactic| walk_at "rd") => `(tactic| simp (disch := walk_at "sz") only [R.bind_ok, R.bind_bad, R.bind_exc, R.of_some, R.of_none, O.on_ok, O.on_bad, O.on_exc, fVar_0, fVar_s, fOwn_0, fOwn_s, fC_e, fU_e, fB_e, fNil_e, fCons_e, fL_e, fCall_e, fTup_e, fLst_e, rIf_t, rIf_f, fIf_e, tBl_e, fTest_e, fTru_e, fNotB_e, fAndB_e, fOrB_e, fVal_e, fAnd_e, fOr_e, fNo_e, tInt_e, fSome_e, fSl_e, fSlOw_e, fLenOw_e, fIxOw_e, fInOw_e, thn_nx, thn_rt, thn_bk, thn_ct, thn_exc, thn_bad, fSeq_e, oIf_t, oIf_f, oIf_exc, fIfS_e, fSkip_e, fRet_e, fExp_e, fSet_e, fNew_e, fApp_e, fExt_e, fPop_e, fPut_e, fFrz_e, frz_0o, frz_s, fFor_e, fItems_e, fRange_e, fAsg_e, oMat_e, fMatch_e, fAug_e, fin_rt, fin_nx, fin_exc, runD_e, pName_e, pNil_e, pCons_e, pTup_e, dAdd_ii, dAdd_ss, dAdd_ll, dAdd_tt, dSub_ii, dMul_ii, dMul_li, dFdiv_ii, dMod_ii, dNeg_i, dLt_ii, dLe_ii, dGt_ii, dGe_ii, dIx_l, dIx_t, dIx_c, dIx_s, dLen_l, dLen_t, dLen_c, dLen_s, dAbs_i, dMax2_ii, dMin2_ii, dInt_i, dStr_i, dStr_s, dList_l, dList_t, dTuple_l, dTuple_t, dCut_l, dCut_t, dItems_l, dItems_t, dItems_s, dRange_1, dRange_2, dIsN_e, dNotN_e, isNon_n, isNon_b, isNon_i, isNon_s, isNon_t, isNon_l, isNon_o, dIsi_n, dIsi_b, dIsi_i, dIsi_s, dIsi_t, dIsi_l, dIn_e, dNotIn_e, dEqB_ss, dEqB_ii, dInB_strs, dInB_strsT, dEq_e, dNe_e, beq_self_eq_true, List.set_cons_zero, List.set_cons_succ, List.length_cons, List.length_nil, List.length_map, List.length_append, Option.map_some, Option.map_none, Option.bind_some, Option.bind_none, if_true, if_false, ite_true, ite_false, decide_true, decide_false, and_self, true_and, and_true, Int.zero_add, Int.toNat_natCast, cut_tl, cut_all, List.map_append, List.map_cons, List.map_nil, List.nil_append, List.cons_append, List.append_nil, List.replicate, Int.reduceLT, Int.reduceLE, Int.reduceAdd, Int.reduceSub, Int.reduceMul, Int.reduceNeg, Int.reduceToNat, Nat.reduceAdd, Nat.reduceSub, Nat.reduceLT, Nat.reduceLeDiff, Nat.reduceMul, Int.reduceEq, Nat.reduceEqDiff, Bool.not_true, Bool.not_false, Bool.and_true, Bool.true_and, Bool.and_false, Bool.false_and, Bool.or_true, Bool.true_or, Bool.or_false, Bool.false_or, Bool.and_self, Bool.or_self, reduceCtorEq, decide_eq_true_eq, Bool.false_eq_true, fLc_e, fLcL_e, lcF_nil, fJoin_e, rJoin_e, dJoin_l, oPop_ok, oPop_2, oPop_1, cast_0, cast_1, cast_2, cast_3, at_0, at_1, at_2, at_3, at_4, at_5, at_6, Int.reduceBEq, Nat.reduceBEq, oApp_ok, oExt_ok, fProp_e, rProp_e, quiet_ok, dSlot_e, fMakeSK_e, rMakeN_e, rNum_e, gMrg_e, mrg_t, mrg_f, mrg_n, fMethF_e, rMethF_e, dIntS_i, dAddS_ii, dAddS_ss, dGcd_ii, dLcm_ii, dLcm_iii, dEqB_self, at_7, at_8, at_9, at_10, at_11, at_12, at_13, at_14, at_15, at_m1, cut_toL, cut_fromL, cut_btw, List.take_succ_cons, List.take_zero, List.drop_succ_cons, List.drop_zero, List.take_nil, List.drop_nil, isT_NoneType_bool, isT_NoneType_int, isT_NoneType_str, isT_NoneType_list, isT_NoneType_tuple, isT_bool_bool, isT_bool_int, isT_bool_str, isT_bool_list, isT_bool_tuple, isT_int_bool, isT_int_int, isT_int_str, isT_int_list, isT_int_tuple, isT_str_bool, isT_str_int, isT_str_str, isT_str_list, isT_str_tuple, isT_list_bool, isT_list_int, isT_list_str, isT_list_list, isT_list_tuple, isT_tuple_bool, isT_tuple_int, isT_tuple_str, isT_tuple_list, isT_tuple_tuple, fSlS_e, dPick_l, fRange3_e, dRange3_e, fLc2_e, fCallK_e, fCallO_e, rCallO_e, fBin_e, rBin_e, oStore_s, oAsg_e2, fDic0_e, fCallV_e, List.getElem?_cons_zero, List.getElem?_cons_succ, runM_e, finM_rt, finM_nx, self_r, fld_at, fld_depth, fld_toks, step_at, step_in, step_out, meth_number, meth_name, meth_name_list, meth_sign, meth_row, meth_arm, meth_part, meth_cut, meth_other, rmeth_r, fPure_e, fNilX_e, fConsX_e, fTupX_e, fRetX_e, fExpX_e, fSetX_e, fNewX_e, oAppX_e, fAppX_e, view_tok, *])
def mkR : Pt → List Pt → Rw
  | p, [] => .one p
  | p, q :: l => .cons p (mkR q l)
theorem mkR_len : ∀ (l : List Pt) (p : Pt), (mkR p l).len = l.length + 1
  | [], p => rfl
  | q :: l, p => by
    show (mkR q l).len + 1 = _
    rw [mkR_len l q]
    rfl
theorem mkR_wf : ∀ (l : List Pt) (p : Pt), (∀ q ∈ p :: l, q.Wf) → l.length < 900 → (mkR p l).Wf
  | [], p, h, _ => by rw [mkR, Rw.Wf]; exact h p List.mem_cons_self
  | q :: l, p, h, k => by
    rw [List.length_cons] at k
    rw [mkR, Rw.Wf]
    exact ⟨h p List.mem_cons_self, mkR_wf l q (fun x hx => h x (List.mem_cons_of_mem _ hx)) (by omega), by rw [mkR_len]; omega⟩
theorem mkR_dep {n : Nat} : ∀ (l : List Pt) (p : Pt), (∀ q ∈ p :: l, q.dep ≤ n) → (mkR p l).dep ≤ n
  | [], p, h => by rw [mkR, Rw.dep]; exact h p List.mem_cons_self
  | q :: l, p, h => by
    rw [mkR, Rw.dep]
    have h1 := h p List.mem_cons_self
    have h2 := mkR_dep l q (fun x hx => h x (List.mem_cons_of_mem _ hx))
    omega
theorem mkR_uses : ∀ (l : List Pt) (p : Pt), (mkR p l).uses = ((p :: l).map Pt.uses).flatten
  | [], p => by rw [mkR, Rw.uses, List.map_cons, List.map_nil, List.flatten_cons, List.flatten_nil, List.append_nil]
  | q :: l, p => by rw [mkR, Rw.uses, mkR_uses l q, List.map_cons (a := p), List.flatten_cons (l := p.uses)]
theorem mkR_use {l : List Pt} {p : Pt} {u : Str × Int} (h : u ∈ (mkR p l).uses) : ∃ q ∈ p :: l, u ∈ q.uses := by
  rw [mkR_uses] at h
  obtain ⟨us, hu, h⟩ := List.mem_flatten.mp h
  obtain ⟨q, hq, rfl⟩ := List.mem_map.mp hu
  exact ⟨q, hq, h⟩
theorem mixA_fn {j : Str → Int} : ∀ (us kn : List (Str × Int)), (∀ u ∈ us, u.2 = j u.1) → (∀ u ∈ kn, u.2 = j u.1) → mixA kn us = none
  | [], kn, _, _ => by rw [mixA]
  | (x, k) :: us, kn, h, g => by
    have hk : k = j x := h _ List.mem_cons_self
    rw [mixA]
    cases e : kn.lookup x with
    | none => exact mixA_fn us _ (fun u hu => h u (List.mem_cons_of_mem _ hu)) (fun u hu => by
        rcases List.mem_append.mp hu with hu | hu
        · exact g u hu
        · rw [List.mem_singleton.mp hu]; exact hk)
    | some i =>
      have : i = k := by
        have : ∀ l : List (Str × Int), l.lookup x = some i → (x, i) ∈ l := by
          intro l
          induction l with
          | nil => intro h; cases h
          | cons p l ih =>
            intro h
            rw [List.lookup_cons] at h
            by_cases c : x == p.1
            · rw [c] at h
              cases h
              rw [eq_of_beq c]
              exact List.mem_cons_self
            · rw [Bool.eq_false_iff.mpr c] at h
              exact List.mem_cons_of_mem _ (ih h)
        rw [hk]
        exact g _ (this kn e)
      dsimp only
      rw [if_pos this]
      exact mixA_fn us kn (fun u hu => h u (List.mem_cons_of_mem _ hu)) g
theorem mix_fn {r : Rw} (j : Str → Int) (h : ∀ u ∈ r.uses, u.2 = j u.1) : r.mix = none := mixA_fn _ _ h (fun u hu => by cases hu)
def msL : List Pt → Nb → Except Str Nb
  | [], o => .ok o
  | p :: l, o => match p.bh o with
    | .error e => .error e
    | .ok n => match n.ck with
      | .error e => .error e
      | .ok n => msL l n
theorem mkR_ms : ∀ (l : List Pt) (p : Pt) (o : Nb), (mkR p l).ms o = msL (p :: l) o
  | [], p, o => by
    rw [mkR, Rw.ms, msL]
    cases p.bh o with
    | error e => rfl
    | ok n =>
      dsimp only
      cases n.ck with
      | error e => rfl
      | ok n => rfl
  | q :: l, p, o => by
    rw [mkR, Rw.ms, msL]
    cases p.bh o with
    | error e => rfl
    | ok n =>
      dsimp only
      cases n.ck with
      | error e => rfl
      | ok n => exact mkR_ms l q n
def Rw.app : Rw → Rw → Rw
  | .one p, r => .cons p r
  | .cons p q, r => .cons p (q.app r)
theorem Rw.app_len : ∀ {a b : Rw}, (a.app b).len = a.len + b.len
  | .one p, r => by rw [Rw.app, Rw.len, Rw.len]; omega
  | .cons p q, r => by rw [Rw.app, Rw.len, Rw.len, Rw.app_len]; omega
theorem lw_tks {p : Pt} (h : p.Wf) (e : p.rws = []) (hn : ∀ u ∈ p.uses, Nm u.1) (hc : p.cnt ≤ 24) : joinOk (Str.ofString " ") p.tok = true ∧ Tks (Str.join (Str.ofString " ") p.tok) p.tok ∧ (Str.join (Str.ofString " ") p.tok).length ≤ 400 := by
  have t := tok_w h e hn
  have l := wl_of p.tok fun x hx => (t x hx).2
  have l2 := tok_len e
  refine ⟨jo_wl (by omega), Tks.ws (by cases p <;> first | (rw [Pt.tok]; simp) | cases e) fun x hx => (t x hx).1, ?_⟩
  have := jn_len (Str.ofString " ") p.tok
  rw [sp_len] at this
  unfold wl at l
  omega
def ptx (p : Pt) : Str := Str.join (Str.ofString " ") p.tok
structure Pln (j : Str → Int) (p : Pt) : Prop where
  wf : p.Wf
  rws : p.rws = []
  use : ∀ u ∈ p.uses, Nm u.1 ∧ u.2 = j u.1
  dep : p.dep ≤ 0
  cnt : p.cnt ≤ 1
variable {j : Str → Int}
theorem Pln.txt {p : Pt} (h : Pln j p) : joinOk (Str.ofString " ") p.tok = true ∧ Tks (ptx p) p.tok ∧ (ptx p).length ≤ 400 := lw_tks h.wf h.rws (fun u hu => (h.use u hu).1) (by have := h.cnt; omega)
theorem sum_le {c : Nat} : ∀ l : List Str, (∀ x ∈ l, x.length ≤ c) → (l.map (·.length)).sum ≤ c * l.length
  | [], _ => Nat.le_refl _
  | x :: l, h => by
    have h1 := h x List.mem_cons_self
    have h2 := sum_le l fun y hy => h y (List.mem_cons_of_mem _ hy)
    rw [List.map_cons, List.sum_cons, List.length_cons, Nat.mul_succ]
    omega
local macro_rules | `(tactic| walk_at "rd") => `(tactic| simp (disch := walk_at "sz") only [R.bind_ok, R.bind_bad, R.bind_exc, R.of_some, R.of_none, O.on_ok, O.on_bad, O.on_exc, fVar_0, fVar_s, fOwn_0, fOwn_s, fC_e, fU_e, fB_e, fNil_e, fCons_e, fL_e, fCall_e, fTup_e, fLst_e, rIf_t, rIf_f, fIf_e, tBl_e, fTest_e, fTru_e, fNotB_e, fAndB_e, fOrB_e, fVal_e, fAnd_e, fOr_e, fNo_e, tInt_e, fSome_e, fSl_e, fSlOw_e, fLenOw_e, fIxOw_e, fInOw_e, thn_nx, thn_rt, thn_bk, thn_ct, thn_exc, thn_bad, fSeq_e, oIf_t, oIf_f, oIf_exc, fIfS_e, fSkip_e, fRet_e, fExp_e, fSet_e, fNew_e, fApp_e, fExt_e, fPop_e, fPut_e, fFrz_e, frz_0o, frz_s, fFor_e, fItems_e, fRange_e, fAsg_e, oMat_e, fMatch_e, fAug_e, fin_rt, fin_nx, fin_exc, runD_e, pName_e, pNil_e, pCons_e, pTup_e, dAdd_ii, dAdd_ss, dAdd_ll, dAdd_tt, dSub_ii, dMul_ii, dMul_li, dFdiv_ii, dMod_ii, dNeg_i, dLt_ii, dLe_ii, dGt_ii, dGe_ii, dIx_l, dIx_t, dIx_c, dIx_s, dLen_l, dLen_t, dLen_c, dLen_s, dAbs_i, dMax2_ii, dMin2_ii, dInt_i, dStr_i, dStr_s, dList_l, dList_t, dTuple_l, dTuple_t, dCut_l, dCut_t, dItems_l, dItems_t, dItems_s, dRange_1, dRange_2, dIsN_e, dNotN_e, isNon_n, isNon_b, isNon_i, isNon_s, isNon_t, isNon_l, isNon_o, dIsi_n, dIsi_b, dIsi_i, dIsi_s, dIsi_t, dIsi_l, dIn_e, dNotIn_e, dEqB_ss, dEqB_ii, dInB_strs, dInB_strsT, dEq_e, dNe_e, beq_self_eq_true, List.set_cons_zero, List.set_cons_succ, List.length_cons, List.length_nil, List.length_map, List.length_append, Option.map_some, Option.map_none, Option.bind_some, Option.bind_none, if_true, if_false, ite_true, ite_false, decide_true, decide_false, and_self, true_and, and_true, Int.zero_add, Int.toNat_natCast, cut_tl, cut_all, List.map_append, List.map_cons, List.map_nil, List.nil_append, List.cons_append, List.append_nil, List.replicate, Int.reduceLT, Int.reduceLE, Int.reduceAdd, Int.reduceSub, Int.reduceMul, Int.reduceNeg, Int.reduceToNat, Nat.reduceAdd, Nat.reduceSub, Nat.reduceLT, Nat.reduceLeDiff, Nat.reduceMul, Int.reduceEq, Nat.reduceEqDiff, Bool.not_true, Bool.not_false, Bool.and_true, Bool.true_and, Bool.and_false, Bool.false_and, Bool.or_true, Bool.true_or, Bool.or_false, Bool.false_or, Bool.and_self, Bool.or_self, reduceCtorEq, decide_eq_true_eq, Bool.false_eq_true, fLc_e, fLcL_e, lcF_nil, fJoin_e, rJoin_e, dJoin_l, oPop_ok, oPop_2, oPop_1, cast_0, cast_1, cast_2, cast_3, at_0, at_1, at_2, at_3, at_4, at_5, at_6, Int.reduceBEq, Nat.reduceBEq, oApp_ok, oExt_ok, fProp_e, rProp_e, quiet_ok, dSlot_e, fMakeSK_e, rMakeN_e, rNum_e, gMrg_e, mrg_t, mrg_f, mrg_n, fMethF_e, rMethF_e, dIntS_i, dAddS_ii, dAddS_ss, dGcd_ii, dLcm_ii, dLcm_iii, dEqB_self, at_7, at_8, at_9, at_10, at_11, at_12, at_13, at_14, at_15, at_m1, cut_toL, cut_fromL, cut_btw, List.take_succ_cons, List.take_zero, List.drop_succ_cons, List.drop_zero, List.take_nil, List.drop_nil, isT_NoneType_bool, isT_NoneType_int, isT_NoneType_str, isT_NoneType_list, isT_NoneType_tuple, isT_bool_bool, isT_bool_int, isT_bool_str, isT_bool_list, isT_bool_tuple, isT_int_bool, isT_int_int, isT_int_str, isT_int_list, isT_int_tuple, isT_str_bool, isT_str_int, isT_str_str, isT_str_list, isT_str_tuple, isT_list_bool, isT_list_int, isT_list_str, isT_list_list, isT_list_tuple, isT_tuple_bool, isT_tuple_int, isT_tuple_str, isT_tuple_list, isT_tuple_tuple, fSlS_e, dPick_l, fRange3_e, dRange3_e, fLc2_e, fCallK_e, fCallO_e, rCallO_e, fBin_e, rBin_e, oStore_s, oAsg_e2, fDic0_e, fCallV_e, List.getElem?_cons_zero, List.getElem?_cons_succ, runM_e, finM_rt, finM_nx, self_r, fld_at, fld_depth, fld_toks, step_at, step_in, step_out, meth_number, meth_name, meth_name_list, meth_sign, meth_row, meth_arm, meth_part, meth_cut, meth_other, rmeth_r, fPure_e, fNilX_e, fConsX_e, fTupX_e, fRetX_e, fExpX_e, fSetX_e, fNewX_e, oAppX_e, fAppX_e, view_tok, *])
section
variable {t : List Str} {a b d n : Nat} {x y : D} {w e : Str} {xs : List D}
end
def jW (n : Str) : Int := if n = "c" then 0 else if n = "h" then 2 else if n = "f" ∨ n = "g" then 1 else 7
structure PW (p : Pt) : Prop where
  wf : p.Wf
  rws : p.rws = []
  use : ∀ u ∈ p.uses, Nm u.1 ∧ u.2 = jW u.1
  dep : p.dep ≤ 0
  cnt : p.cnt ≤ 2
theorem PW.txt {p : Pt} (h : PW p) : Tks (ptx p) p.tok ∧ (ptx p).length ≤ 400 := (lw_tks h.wf h.rws (fun u hu => (h.use u hu).1) (by have := h.cnt; omega)).2
def onceA : List Str → List Str → List Str
  | acc, [] => acc
  | acc, x :: xs => if x ∈ acc then onceA acc xs else onceA (acc ++ [x]) xs
def once (l : List Str) : List Str := onceA [] l
def Rw.names (r : Rw) : List Str := once (r.uses.map (·.1))
theorem onceA_len : ∀ (l acc : List Str), (onceA acc l).length ≤ acc.length + l.length
  | [], acc => Nat.le_refl _
  | x :: xs, acc => by
    unfold onceA
    have a := onceA_len xs acc
    have b := onceA_len xs (acc ++ [x])
    rw [List.length_append, List.length_singleton] at b
    rw [List.length_cons]
    split <;> omega
end LW
namespace LW
open PySem PySem.Spec PyProof.Rows DL
theorem nm_loop {s0 : DS} : ∀ (us : List (Str × Int)) (acc : List Str) (s2 s3 : DS), acc.length + us.length ≤ 9000 → ∃ s2' s3', loopF (pTup 2 (pCons (pName 2) (pCons (pName 3) pNil))) l1_names_of (us.map ue) [s0, .ow (acc.map .str), s2, s3] = .nx [s0, .ow ((onceA acc (us.map (·.1))).map .str), s2', s3']
  | [], acc, s2, s3, _ => ⟨s2, s3, rfl⟩
  | (x, k) :: us, acc, s2, s3, hl => by
    rw [List.length_cons] at hl
    by_cases hx : x ∈ acc
    · have hi : dInB (.str x) (.lst (acc.map .str)) = some true := by rw [dInB_strs, decide_eq_true hx]
      obtain ⟨s2', s3', ih⟩ := nm_loop (s0 := s0) us acc (.fz (.str x)) (.fz (.int k)) (by omega)
      have e : onceA acc (((x, k) :: us).map (·.1)) = onceA acc (us.map (·.1)) := by
        show (if x ∈ acc then _ else _) = _
        rw [if_pos hx]
      refine ⟨s2', s3', ?_⟩
      rw [e, List.map_cons, show ue (x, k) = .tup [.str x, .int k] from rfl]
      unfold l1_names_of at *
      walk_at "go"
    · have hi : dInB (.str x) (.lst (acc.map .str)) = some false := by rw [dInB_strs, decide_eq_false hx]
      obtain ⟨s2', s3', ih⟩ := nm_loop (s0 := s0) us (acc ++ [x]) (.fz (.str x)) (.fz (.int k)) (by rw [List.length_append, List.length_singleton]; omega)
      have e : onceA acc (((x, k) :: us).map (·.1)) = onceA (acc ++ [x]) (us.map (·.1)) := by
        show (if x ∈ acc then _ else _) = _
        rw [if_neg hx]
      rw [List.map_append] at ih
      have ih : loopF (pTup 2 (pCons (pName 2) (pCons (pName 3) pNil))) l1_names_of (us.map ue) [s0, .ow (acc.map .str ++ [.str x]), .fz (.str x), .fz (.int k)] = _ := ih
      have o : okLt (acc.map D.str).length = true := okLt_by (by rw [List.length_map]; omega)
      refine ⟨s2', s3', ?_⟩
      rw [e, List.map_cons, show ue (x, k) = .tup [.str x, .int k] from rfl]
      unfold l1_names_of at *
      walk_at "go"
theorem names_ok {r : Rw} (h : r.Wf) (hd : r.dep ≤ 50) (hl : r.cnt ≤ 9000) : m_names_of [.tup r.enc] = .ok (.lst (r.names.map .str)) := by
  have u := us_ok 60 r h (by omega) hl
  have ul := r.uses_len
  obtain ⟨s2, s3, lp⟩ := nm_loop (s0 := .fz (.tup r.enc)) r.uses [] .un .un (by simp; omega)
  rw [List.map_nil] at lp
  unfold Rw.names once
  generalize r.enc = xs at *
  unfold m_names_of b_names_of
  walk_at "go"
end LW
namespace LW
open PySem PySem.Spec PyProof.Rows DL
section
variable {r : Rw} {nb : Nb}
theorem p_text (hw : r.Wf) (hd : r.dep ≤ 20) (hc : r.cnt ≤ 9000) : m_Program_text [r.obj nb] = .ok (.str r.txt) := by
  have e := (txt_ok 60).2 r hw hc (by omega)
  unfold Rw.obj
  generalize r.enc = xs at *
  generalize r.txt = t at *
  generalize r.tx.map D.str = ts at *
  unfold m_Program_text b_Program_text
  walk_at "go"
end
end LW
namespace LW
open PySem PySem.Spec PyProof.Rows DL
section
variable {r : Rw} {nb : Nb}
theorem p_rows : m_Program_row_texts [r.obj nb] = .ok (.lst (r.tx.map .str)) := by
  unfold Rw.obj
  generalize r.enc = xs at *
  generalize r.tx.map D.str = ts at *
  unfold m_Program_row_texts b_Program_row_texts
  walk_at "go"
theorem p_names (hw : r.Wf) (hd : r.dep ≤ 50) (hc : r.cnt ≤ 9000) : m_Program_names [r.obj nb] = .ok (.lst (r.names.map .str)) := by
  have e := names_ok hw hd hc
  unfold Rw.obj
  generalize r.enc = xs at *
  generalize r.names.map D.str = ns at *
  generalize r.tx.map D.str = ts at *
  unfold m_Program_names b_Program_names
  walk_at "go"
theorem p_parts (hw : r.Wf) (hd : r.dep ≤ 50) : m_Program_parts [r.obj nb] = .ok (.int r.cnt) := by
  have e := cnt_ok 60 r hw (by omega)
  unfold Rw.obj
  generalize r.enc = xs at *
  generalize r.tx.map D.str = ts at *
  unfold m_Program_parts b_Program_parts
  walk_at "go"
end
end LW
namespace LW
open PySem PySem.Spec PyProof.Rows DL
def Ltr (c : Nat) : Prop := 97 ≤ c ∧ c ≤ 122
def alpha : Str := "abcdefghijklmnopqrstuvwxyz"
theorem in_alpha {c : Nat} (h : Ltr c) : dInB (.str ⟨#[c]⟩) (.str alpha) = some true := by
  have : ∀ k < 26, dInB (.str ⟨#[97 + k]⟩) (.str alpha) = some true := by decide +kernel
  have g := this (c - 97) (by unfold Ltr at h; omega)
  rwa [show 97 + (c - 97) = c by unfold Ltr at h; omega] at g
theorem nm_loop07 {s0 : DS} : ∀ (l : List Nat) (s1 : DS), (∀ c ∈ l, Ltr c) → ∃ s1', loopF (pName 1) l1_is_name (l.map fun c => .str ⟨#[c]⟩) [s0, s1] = .nx [s0, s1']
  | [], s1, _ => ⟨s1, rfl⟩
  | c :: l, s1, h => by
    obtain ⟨s1', ih⟩ := nm_loop07 (s0 := s0) l (.fz (.str ⟨#[c]⟩)) fun d hd => h d (List.mem_cons_of_mem _ hd)
    have e : l1_is_name [s0, .fz (.str ⟨#[c]⟩)] = .nx [s0, .fz (.str ⟨#[c]⟩)] := by
      have a : dInB (.str ⟨#[c]⟩) (.str (Str.ofString "abcdefghijklmnopqrstuvwxyz")) = some true := in_alpha (h c List.mem_cons_self)
      unfold l1_is_name
      walk_at "go"
    exact ⟨s1', by rw [List.map_cons, loopF_nx (put := pName 1) rfl e, ih]⟩
theorem isName_of {l : List Nat} (h1 : l ≠ []) (h2 : l.length ≤ 3) (h : ∀ c ∈ l, Ltr c) (hw : (⟨l.toArray⟩ : Str) ∉ z_WORDS) : isName ⟨l.toArray⟩ := by
  have hlen : (⟨l.toArray⟩ : Str).length = l.length := by show l.toArray.size = _; simp
  have l0 : 0 < l.length := List.length_pos_iff.mpr h1
  obtain ⟨s1, lp⟩ := nm_loop07 (s0 := .fz (.str ⟨l.toArray⟩)) l .un h
  have di : dItems (.str ⟨l.toArray⟩) = some (l.map fun c => .str ⟨#[c]⟩) := by rw [dItems_s]
  have ck : dInB (.str (⟨l.toArray⟩ : Str)) k_WORDS = some false := by
    have e : dInB (.str (⟨l.toArray⟩ : Str)) k_WORDS = some (decide ((⟨l.toArray⟩ : Str) ∈ z_WORDS)) := dInB_strsT
    rw [e, decide_eq_false hw]
  have dl : dLen [.str (⟨l.toArray⟩ : Str)] = some (.int (l.length : Nat)) := by rw [dLen_s (okLe_by (by omega)), hlen]
  have c1 : (((l.length : Nat) : Int) == 0) = false := beq_false_of_ne (by omega)
  have c2 : decide (((l.length : Nat) : Int) > 3) = false := decide_eq_false (by omega)
  unfold isName
  generalize (⟨l.toArray⟩ : Str) = n at *
  generalize (l.map fun c => D.str ⟨#[c]⟩) = cs at *
  generalize ((l.length : Nat) : Int) = L at *
  clear h hw h1 h2 l0 hlen
  unfold m_is_name b_is_name
  generalize k_WORDS = kw at *
  walk_at "go"
theorem nm_of {l : List Nat} (h1 : l ≠ []) (h : ∀ c ∈ l, Ltr c) : Nm ⟨l.toArray⟩ := by
  unfold Nm
  refine ⟨by simpa using h1, fun c hc => ?_⟩
  have := h c (by simpa using hc)
  unfold Ltr at this
  refine ⟨by omega, ?_⟩
  unfold sepc
  simp only [Bool.or_eq_false_iff, beq_eq_false_iff_ne]
  omega
end LW
namespace LW
open PySem PySem.Spec PyProof.Rows DL
def f4 : Nat → Str
  | 0 => "f" | 1 => "g" | 2 => "h" | _ => "k"
def g4 : Nat → Str
  | 0 => "h" | 1 => "g" | 2 => "f" | _ => "k"
def c4 : Nat → Str
  | 0 => "c" | 1 => "d" | 2 => "p" | _ => "q"
def NA : List Str := (List.range 4).flatMap fun i => (List.range 4).map fun j => f4 i ++ f4 j
def NC : List Str := (List.range 4).flatMap fun i => (List.range 4).map fun j => c4 i ++ c4 j
theorem f4_in : ∀ i, i < 4 → ∀ j, j < 4 → f4 i ++ f4 j ∈ NA ∧ g4 i ++ g4 j ∈ NA ∧ c4 i ++ c4 j ∈ NC ∧ (f4 i).length ≤ 1 ∧ (g4 i).length ≤ 1 ∧ (c4 i).length ≤ 1 := by decide +kernel
def okN (n : Str) : Bool := decide (n.cps.toList ≠ []) && (decide (n.cps.toList.length ≤ 3) && (n.cps.toList.all (fun c => decide (97 ≤ c ∧ c ≤ 122)) && decide (n ∉ z_WORDS)))
theorem okNA : ∀ n ∈ NA, okN n = true := by decide +kernel
theorem okNC : ∀ n ∈ NC, okN n = true := by decide +kernel
theorem nm_ok {n : Str} (h : okN n = true) : Nm n ∧ isName n := by
  unfold okN at h
  obtain ⟨h1, h⟩ := Bool.and_eq_true_iff.mp h
  obtain ⟨h2, h⟩ := Bool.and_eq_true_iff.mp h
  obtain ⟨h3, h4⟩ := Bool.and_eq_true_iff.mp h
  have h1 := of_decide_eq_true h1
  have h2 := of_decide_eq_true h2
  have h4 := of_decide_eq_true h4
  have h3' : ∀ c ∈ n.cps.toList, Ltr c := fun c hc => by
    have := of_decide_eq_true (List.all_eq_true.mp h3 c hc)
    unfold Ltr
    omega
  have e : (⟨n.cps.toList.toArray⟩ : Str) = n := by rw [Array.toArray_toList]
  exact ⟨by have := nm_of h1 h3'; rwa [e] at this, by have := isName_of h1 h2 h3' (by rw [e]; exact h4); rwa [e] at this⟩
structure X9 where
  k : Nat
  a : Str
  b : Str
  c : Str
def X9.pt : X9 → Pt
  | ⟨1, a, _, _⟩ => .map [a]
  | ⟨2, a, b, _⟩ => .map [a, b]
  | ⟨3, _, _, c⟩ => .put c
  | ⟨4, a, _, _⟩ => .arm "join" (.one (.map [a])) (.one (.pl "reverse"))
  | ⟨5, _, _, c⟩ => .short 3 (.one (.put c)) (.one (.pl "same"))
  | _ => .pl "reverse"
def X9.tx : X9 → Str
  | ⟨1, a, _, _⟩ => Str.ofString "map " ++ a
  | ⟨2, a, b, _⟩ => Str.ofString "map " ++ a ++ Str.ofString " " ++ b
  | ⟨3, _, _, c⟩ => Str.ofString "put " ++ c
  | ⟨4, a, _, _⟩ => Str.ofString "join (map " ++ a ++ Str.ofString ") (reverse)"
  | ⟨5, _, _, c⟩ => Str.ofString "short 3 (put " ++ c ++ Str.ofString ") (same)"
  | _ => "reverse"
def X9.ns : X9 → List Str
  | ⟨1, a, _, _⟩ => [a]
  | ⟨2, a, b, _⟩ => [a, b]
  | ⟨3, _, _, c⟩ => [c]
  | ⟨4, a, _, _⟩ => [a]
  | ⟨5, _, _, c⟩ => [c]
  | _ => []
def X9.ct (x : X9) : Nat := if x.k = 2 then 2 else if x.k = 4 ∨ x.k = 5 then 3 else 1
def X9.ar (x : X9) : Nat := if x.k = 4 ∨ x.k = 5 then 1 else 0
structure Ok9 (x : X9) : Prop where
  k : x.k < 6
  a : x.a ∈ NA
  b : x.b ∈ NA
  c : x.c ∈ NC
theorem X9.cases {P : X9 → Prop} {x : X9} (h : Ok9 x) (h0 : ∀ a b c, P ⟨0, a, b, c⟩) (h1 : ∀ a ∈ NA, ∀ b c, P ⟨1, a, b, c⟩) (h2 : ∀ a ∈ NA, ∀ b ∈ NA, ∀ c, P ⟨2, a, b, c⟩) (h3 : ∀ a b, ∀ c ∈ NC, P ⟨3, a, b, c⟩) (h4 : ∀ a ∈ NA, ∀ b c, P ⟨4, a, b, c⟩) (h5 : ∀ a b, ∀ c ∈ NC, P ⟨5, a, b, c⟩) : P x := by
  obtain ⟨k, a, b, c⟩ := x
  obtain ⟨hk, ha, hb, hc⟩ := h
  dsimp only at hk ha hb hc
  rcases (show k = 0 ∨ k = 1 ∨ k = 2 ∨ k = 3 ∨ k = 4 ∨ k = 5 by omega) with rfl | rfl | rfl | rfl | rfl | rfl
  · exact h0 a b c
  · exact h1 a ha b c
  · exact h2 a ha b hb c
  · exact h3 a b c hc
  · exact h4 a ha b c
  · exact h5 a b c hc
theorem tk1 : ∀ a ∈ NA, (Pt.map [a]).txt = Str.ofString "map " ++ a ∧ (Pt.arm "join" (.one (.map [a])) (.one (.pl "reverse"))).txt = Str.ofString "join (map " ++ a ++ Str.ofString ") (reverse)" ∧ a.length = 2 := by decide +kernel
theorem tk2 : ∀ a ∈ NA, ∀ b ∈ NA, (Pt.map [a, b]).txt = Str.ofString "map " ++ a ++ Str.ofString " " ++ b := by decide +kernel
theorem tk3 : ∀ c ∈ NC, (Pt.put c).txt = Str.ofString "put " ++ c ∧ (Pt.short 3 (.one (.put c)) (.one (.pl "same"))).txt = Str.ofString "short 3 (put " ++ c ++ Str.ofString ") (same)" ∧ c.length = 2 := by decide +kernel
theorem tk0 : (Pt.pl "reverse").txt = "reverse" := by decide +kernel
theorem X9.txt_eq {x : X9} (h : Ok9 x) : x.pt.txt = x.tx :=
  X9.cases (P := fun x => x.pt.txt = x.tx) h (fun _ _ _ => tk0) (fun a ha _ _ => (tk1 a ha).1) (fun a ha b hb _ => tk2 a ha b hb) (fun _ _ c hc => (tk3 c hc).1) (fun a ha _ _ => (tk1 a ha).2.1) (fun _ _ c hc => (tk3 c hc).2.1)
theorem X9.wf {x : X9} (h : Ok9 x) : x.pt.Wf := by
  have nA : ∀ a ∈ NA, isName a := fun a ha => (nm_ok (okNA a ha)).2
  have nC : ∀ a ∈ NC, isName a := fun a ha => (nm_ok (okNC a ha)).2
  refine X9.cases (P := fun x => x.pt.Wf) h (fun _ _ _ => ?_) (fun a ha _ _ => ?_) (fun a ha b hb _ => ?_) (fun _ _ c hc => ?_) (fun a ha _ _ => ?_) (fun _ _ c hc => ?_)
  · show (Pt.pl "reverse").Wf
    rw [Pt.Wf]; decide +kernel
  · show (Pt.map [a]).Wf
    rw [Pt.Wf]; exact ⟨by simp, by simp, fun n hn => by rw [List.mem_singleton.mp hn]; exact nA a ha⟩
  · show (Pt.map [a, b]).Wf
    rw [Pt.Wf]
    refine ⟨by simp, by simp, fun n hn => ?_⟩
    rcases List.mem_cons.mp hn with rfl | hn
    · exact nA _ ha
    · rw [List.mem_singleton.mp hn]; exact nA b hb
  · show (Pt.put c).Wf
    rw [Pt.Wf]; exact nC c hc
  · show (Pt.arm "join" (.one (.map [a])) (.one (.pl "reverse"))).Wf
    have w1 : (Pt.map [a]).Wf := by rw [Pt.Wf]; exact ⟨by simp, by simp, fun n hn => by rw [List.mem_singleton.mp hn]; exact nA a ha⟩
    have w2 : (Pt.pl "reverse").Wf := by rw [Pt.Wf]; decide +kernel
    rw [Pt.Wf, Rw.Wf, Rw.Wf]
    exact ⟨by decide +kernel, w1, w2⟩
  · show (Pt.short 3 (.one (.put c)) (.one (.pl "same"))).Wf
    have w1 : (Pt.put c).Wf := by rw [Pt.Wf]; exact nC c hc
    have w2 : (Pt.pl "same").Wf := by rw [Pt.Wf]; decide +kernel
    rw [Pt.Wf, Rw.Wf, Rw.Wf]
    exact ⟨by decide, by decide, w1, w2⟩
theorem X9.dep {x : X9} (h : Ok9 x) : x.pt.dep ≤ 1 :=
  X9.cases (P := fun x => x.pt.dep ≤ 1) h (fun _ _ _ => by simp [X9.pt, Pt.dep, Rw.dep]) (fun a ha _ _ => by simp [X9.pt, Pt.dep, Rw.dep]) (fun a ha b hb _ => by simp [X9.pt, Pt.dep, Rw.dep]) (fun _ _ c hc => by simp [X9.pt, Pt.dep, Rw.dep])
    (fun a ha _ _ => by simp [X9.pt, Pt.dep, Rw.dep]) (fun _ _ c hc => by simp [X9.pt, Pt.dep, Rw.dep])
theorem X9.cnt {x : X9} (h : Ok9 x) : x.pt.cnt = x.ct :=
  X9.cases (P := fun x => x.pt.cnt = x.ct) h (fun _ _ _ => by simp [X9.pt, X9.ct, Pt.cnt, Rw.cnt]) (fun a ha _ _ => by simp [X9.pt, X9.ct, Pt.cnt, Rw.cnt]) (fun a ha b hb _ => by simp [X9.pt, X9.ct, Pt.cnt, Rw.cnt]) (fun _ _ c hc => by simp [X9.pt, X9.ct, Pt.cnt, Rw.cnt])
    (fun a ha _ _ => by simp [X9.pt, X9.ct, Pt.cnt, Rw.cnt]) (fun _ _ c hc => by simp [X9.pt, X9.ct, Pt.cnt, Rw.cnt])
def jL (n : Str) : Int := if n ∈ NA then 1 else 0
theorem jL_c : ∀ c ∈ NC, jL c = 0 := by decide +kernel
theorem jL_a {a : Str} (h : a ∈ NA) : jL a = 1 := if_pos h
theorem X9.use {x : X9} (h : Ok9 x) : (∀ u ∈ x.pt.uses, Nm u.1 ∧ u.2 = jL u.1) ∧ x.pt.uses.map (·.1) = x.ns := by
  have nA : ∀ a ∈ NA, Nm a := fun a ha => (nm_ok (okNA a ha)).1
  have nC : ∀ a ∈ NC, Nm a := fun a ha => (nm_ok (okNC a ha)).1
  refine X9.cases (P := fun x => (∀ u ∈ x.pt.uses, Nm u.1 ∧ u.2 = jL u.1) ∧ x.pt.uses.map (·.1) = x.ns) h (fun _ _ _ => ?_) (fun a ha _ _ => ?_) (fun a ha b hb _ => ?_) (fun _ _ c hc => ?_) (fun a ha _ _ => ?_) (fun _ _ c hc => ?_)
  · show (∀ u ∈ (Pt.pl "reverse").uses, _) ∧ (Pt.pl "reverse").uses.map _ = _
    rw [Pt.uses]
    exact ⟨fun u hu => (by cases hu), rfl⟩
  · show (∀ u ∈ (Pt.map [a]).uses, _) ∧ (Pt.map [a]).uses.map _ = _
    rw [Pt.uses]
    exact ⟨fun u hu => by rw [List.mem_singleton.mp hu]; exact ⟨nA a ha, (jL_a ha).symm⟩, rfl⟩
  · show (∀ u ∈ (Pt.map [a, b]).uses, _) ∧ (Pt.map [a, b]).uses.map _ = _
    rw [Pt.uses]
    refine ⟨fun u hu => ?_, rfl⟩
    rcases List.mem_cons.mp hu with rfl | hu
    · exact ⟨nA a ha, (jL_a ha).symm⟩
    · rw [List.mem_singleton.mp hu]; exact ⟨nA b hb, (jL_a hb).symm⟩
  · show (∀ u ∈ (Pt.put c).uses, _) ∧ (Pt.put c).uses.map _ = _
    rw [Pt.uses]
    exact ⟨fun u hu => by rw [List.mem_singleton.mp hu]; exact ⟨nC c hc, (jL_c c hc).symm⟩, rfl⟩
  · show (∀ u ∈ (Pt.arm "join" (.one (.map [a])) (.one (.pl "reverse"))).uses, _) ∧ (Pt.arm "join" (.one (.map [a])) (.one (.pl "reverse"))).uses.map _ = _
    rw [Pt.uses, Rw.uses, Rw.uses, Pt.uses, Pt.uses, List.append_nil]
    exact ⟨fun u hu => by rw [List.mem_singleton.mp hu]; exact ⟨nA a ha, (jL_a ha).symm⟩, rfl⟩
  · show (∀ u ∈ (Pt.short 3 (.one (.put c)) (.one (.pl "same"))).uses, _) ∧ (Pt.short 3 (.one (.put c)) (.one (.pl "same"))).uses.map _ = _
    rw [Pt.uses, Rw.uses, Rw.uses, Pt.uses, Pt.uses, List.append_nil]
    exact ⟨fun u hu => by rw [List.mem_singleton.mp hu]; exact ⟨nC c hc, (jL_c c hc).symm⟩, rfl⟩
def cp9 (k : Nat) : Pt := X9.pt ⟨k, "f", "f", "c"⟩
theorem bh9 {x : X9} (h : Ok9 x) (o : Nb) : x.pt.bh o = (cp9 x.k).bh o :=
  X9.cases (P := fun x => x.pt.bh o = (cp9 x.k).bh o) h (fun _ _ _ => rfl) (fun a ha _ _ => by show (Pt.map [a]).bh o = (Pt.map ["f"]).bh o; rw [Pt.bh, Pt.bh]) (fun a ha b hb _ => by show (Pt.map [a, b]).bh o = (Pt.map ["f", "f"]).bh o; rw [Pt.bh, Pt.bh]) (fun _ _ c hc => by show (Pt.put c).bh o = (Pt.put "c").bh o; rw [Pt.bh, Pt.bh])
    (fun a ha _ _ => by
      show (Pt.arm "join" (.one (.map [a])) (.one (.pl "reverse"))).bh o = (Pt.arm "join" (.one (.map ["f"])) (.one (.pl "reverse"))).bh o
      have e : (Rw.one (.map [a])).ms o = (Rw.one (.map ["f"])).ms o := by rw [Rw.ms, Rw.ms, Pt.bh, Pt.bh]
      rw [Pt.bh, Pt.bh, e])
    (fun _ _ c hc => by
      show (Pt.short 3 (.one (.put c)) (.one (.pl "same"))).bh o = (Pt.short 3 (.one (.put "c")) (.one (.pl "same"))).bh o
      have e : (Rw.one (.put c)).ms o = (Rw.one (.put "c")).ms o := by rw [Rw.ms, Rw.ms, Pt.bh, Pt.bh]
      rw [Pt.bh, Pt.bh, e])
def wtK (k : Nat) : Nat := if k = 4 ∨ k = 5 then 1 else 0
def nxK (wn : Nat × Nb) (i : Nat) : Option (Nat × Nb) := match (cp9 i).bh wn.2 with
  | .ok k => match k.ck with
    | .ok k => some (wn.1 + wtK i, k)
    | .error _ => none
  | .error _ => none
def eqK (a b : Nat × Nb) : Bool := a.1 == b.1 && (a.2.p == b.2.p && a.2.d == b.2.d && a.2.m == b.2.m && a.2.s == b.2.s && a.2.h == b.2.h && a.2.e == b.2.e && a.2.g == b.2.g && a.2.l == b.2.l)
def addK (l : List (Nat × Nb)) (x : Nat × Nb) : List (Nat × Nb) := if l.any (eqK x) then l else l ++ [x]
def stepK (l : List (Nat × Nb)) : List (Nat × Nb) := l.foldl (fun acc wn => (List.range 6).foldl (fun acc i => if wn.1 + wtK i ≤ 3 then (match nxK wn i with | some x => addK acc x | none => acc) else acc) acc) l
def itK : Nat → List (Nat × Nb)
  | 0 => [(0, .one)]
  | k + 1 => stepK (itK k)
def C9K : List (Nat × Nb) := itK 8
def ckK : Bool := C9K.all fun wn => (List.range 6).all fun i => decide (3 < wn.1 + wtK i) || (match nxK wn i with | some x => C9K.any (eqK x) | none => false)
theorem ckK_t : ckK = true := by decide +kernel
theorem eqK_eq {a b : Nat × Nb} (h : eqK a b = true) : a = b := by
  obtain ⟨a1, a2⟩ := a
  obtain ⟨b1, b2⟩ := b
  unfold eqK at h
  simp only [Bool.and_eq_true, beq_iff_eq] at h
  obtain ⟨h0, ⟨⟨⟨⟨⟨⟨h1, h2⟩, h3⟩, h4⟩, h5⟩, h6⟩, h7⟩, h8⟩ := h
  cases a2; cases b2
  simp only at h0 h1 h2 h3 h4 h5 h6 h7 h8
  subst h0 h1 h2 h3 h4 h5 h6 h7 h8
  rfl
def sumA : List X9 → Nat
  | [] => 0
  | x :: l => x.ar + sumA l
def sumC : List X9 → Nat
  | [] => 0
  | x :: l => x.ct + sumC l
theorem ms9K : ∀ (I : List X9) (wn : Nat × Nb), wn ∈ C9K → (∀ i ∈ I, Ok9 i) → wn.1 + sumA I ≤ 3 → ∃ n, msL (I.map X9.pt) wn.2 = .ok n
  | [], wn, _, _, _ => ⟨wn.2, rfl⟩
  | x :: I, wn, hm, hi, hs => by
    have hx := hi x (by simp)
    have t := List.all_eq_true.mp (List.all_eq_true.mp ckK_t wn hm) x.k (List.mem_range.mpr hx.k)
    rw [sumA] at hs
    have ea : x.ar = wtK x.k := rfl
    rcases Bool.or_eq_true_iff.mp t with t | t
    · have := of_decide_eq_true t
      omega
    · split at t
      · rename_i z hz
        obtain ⟨y, hy, e⟩ := List.any_eq_true.mp t
        have e := eqK_eq e
        subst e
        unfold nxK at hz
        rw [List.map_cons, msL, bh9 hx]
        cases e1 : (cp9 x.k).bh wn.2 with
        | error z => rw [e1] at hz; cases hz
        | ok k =>
          rw [e1] at hz
          dsimp only at hz ⊢
          cases e2 : k.ck with
          | error z => rw [e2] at hz; cases hz
          | ok k2 =>
            rw [e2] at hz
            cases hz
            exact ms9K I (wn.1 + wtK x.k, k2) hy (fun j hj => hi j (by simp [hj])) (by show wn.1 + wtK x.k + sumA I ≤ 3; omega)
      · cases t
theorem C9K_0 : (0, Nb.one) ∈ C9K := by
  have t : C9K.any (eqK (0, Nb.one)) = true := by decide +kernel
  obtain ⟨y, hy, e⟩ := List.any_eq_true.mp t
  rw [eqK_eq e]
  exact hy
def R9K : List X9 → Rw
  | [] => .one (.pl "same")
  | x :: l => mkR x.pt (l.map X9.pt)
structure V9K (I : List X9) : Prop where
  ne : I ≠ []
  le : I.length ≤ 12
  ok : ∀ i ∈ I, Ok9 i
  ar : sumA I ≤ 3
  ct : sumC I ≤ 24
structure Q9K (r : Rw) (n : Nb) : Prop where
  wf : r.Wf
  dep : r.dep ≤ 6
  cnt : r.cnt ≤ 24
  use : ∀ u ∈ r.uses, Nm u.1 ∧ u.2 = jL u.1
  ms : r.ms .one = .ok n
theorem mk_cnt : ∀ (l : List X9) (x : X9), (∀ y ∈ x :: l, Ok9 y) → (mkR x.pt (l.map X9.pt)).cnt = sumC (x :: l)
  | [], x, h => by
    show (Rw.one x.pt).cnt = x.ct + 0
    rw [Rw.cnt, X9.cnt (h x (by simp))]
    rfl
  | y :: l, x, h => by
    have := mk_cnt l y fun z hz => h z (List.mem_cons_of_mem _ hz)
    show (Rw.cons x.pt (mkR y.pt (l.map X9.pt))).cnt = x.ct + sumC (y :: l)
    rw [Rw.cnt, X9.cnt (h x (by simp)), this]
theorem mk_tx : ∀ (l : List X9) (x : X9), (∀ y ∈ x :: l, Ok9 y) → (mkR x.pt (l.map X9.pt)).tx = (x :: l).map X9.tx
  | [], x, h => by
    show (Rw.one x.pt).tx = [x.tx]
    rw [Rw.tx, ← X9.txt_eq (h x (by simp))]
    rfl
  | y :: l, x, h => by
    have := mk_tx l y fun z hz => h z (List.mem_cons_of_mem _ hz)
    show (Rw.cons x.pt (mkR y.pt (l.map X9.pt))).tx = x.tx :: (y :: l).map X9.tx
    rw [Rw.tx, this, ← X9.txt_eq (h x (by simp))]
    rfl
theorem mk_us : ∀ (l : List X9), (∀ y ∈ l, Ok9 y) → ((l.map X9.pt).map Pt.uses).flatten.map (·.1) = l.flatMap X9.ns
  | [], _ => rfl
  | x :: l, h => by
    rw [List.map_cons, List.map_cons, List.flatten_cons, List.map_append, List.flatMap_cons, mk_us l fun z hz => h z (List.mem_cons_of_mem _ hz), (X9.use (h x (by simp))).2]
theorem R9K_tx {I : List X9} (h : V9K I) : (R9K I).tx = I.map X9.tx := by
  cases I with
  | nil => exact absurd rfl h.ne
  | cons x l => exact mk_tx l x h.ok
theorem R9K_cnt {I : List X9} (h : V9K I) : (R9K I).cnt = sumC I := by
  cases I with
  | nil => exact absurd rfl h.ne
  | cons x l => exact mk_cnt l x h.ok
theorem R9K_names {I : List X9} (h : V9K I) : (R9K I).names = once (I.flatMap X9.ns) := by
  cases I with
  | nil => exact absurd rfl h.ne
  | cons x l =>
    unfold Rw.names
    show once ((mkR x.pt (l.map X9.pt)).uses.map _) = _
    rw [mkR_uses, ← List.map_cons, mk_us _ h.ok]
theorem R9K_ok {I : List X9} (h : V9K I) : ∃ n, Q9K (R9K I) n := by
  obtain ⟨n, e⟩ := ms9K I (0, .one) C9K_0 h.ok (by have := h.ar; show 0 + sumA I ≤ 3; omega)
  have hc := R9K_cnt h
  cases I with
  | nil => exact absurd rfl h.ne
  | cons x l =>
    have ll := h.le
    rw [List.length_cons] at ll
    have q : ∀ q ∈ x.pt :: l.map X9.pt, ∃ y, Ok9 y ∧ q = y.pt := fun q hq => by
      rw [← List.map_cons] at hq
      obtain ⟨y, hy, rfl⟩ := List.mem_map.mp hq
      exact ⟨y, h.ok y hy, rfl⟩
    have dp : (R9K (x :: l)).dep ≤ 1 := mkR_dep _ _ fun p hp => by
      obtain ⟨y, hy, rfl⟩ := q p hp
      exact X9.dep hy
    refine ⟨n, mkR_wf _ _ (fun p hp => ?_) (by rw [List.length_map]; omega), by omega, by rw [hc]; exact h.ct, fun u hu => ?_, by show (mkR _ _).ms _ = _; rw [mkR_ms]; exact e⟩
    · obtain ⟨y, hy, rfl⟩ := q p hp
      exact X9.wf hy
    · obtain ⟨p, hp, hu⟩ := mkR_use hu
      obtain ⟨y, hy, rfl⟩ := q p hp
      exact (X9.use hy).1 u hu
theorem Q9K.mix {r : Rw} {n : Nb} (h : Q9K r n) : r.mix = none := mix_fn jL fun u hu => (h.use u hu).2
theorem Q9K.read {r : Rw} {n : Nb} (h : Q9K r n) : m_Program_read [.fn "Program", .str r.txt] = .ok (r.obj n) := prog_txt h.wf (fun u hu => (h.use u hu).1) h.dep h.cnt h.mix h.ms
theorem onceA_app : ∀ (A B acc : List Str), onceA acc (A ++ B) = onceA (onceA acc A) B
  | [], B, acc => rfl
  | x :: A, B, acc => by
    rw [List.cons_append, onceA, onceA]
    split
    · exact onceA_app A B acc
    · exact onceA_app A B _
theorem onceA_nd : ∀ (l acc : List Str), (acc ++ l).Nodup → onceA acc l = acc ++ l
  | [], acc, _ => by rw [onceA, List.append_nil]
  | x :: l, acc, h => by
    have nx : x ∉ acc := fun hx => by
      have := List.nodup_append.mp h
      exact this.2.2 x hx x (by simp) rfl
    rw [onceA, if_neg nx, onceA_nd l (acc ++ [x]) (by rwa [List.append_assoc, List.singleton_append]), List.append_assoc, List.singleton_append]
theorem onceA_nodup : ∀ (l acc : List Str), acc.Nodup → (onceA acc l).Nodup
  | [], acc, h => h
  | x :: l, acc, h => by
    rw [onceA]
    split
    · exact onceA_nodup l acc h
    · rename_i nx
      refine onceA_nodup l _ (List.nodup_append.mpr ⟨h, by simp, fun a ha b hb e => ?_⟩)
      rw [List.mem_singleton.mp hb] at e
      exact nx (e ▸ ha)
theorem once_once (A B : List Str) : once (once A ++ B) = once (A ++ B) := by
  unfold once
  rw [onceA_app, onceA_app, onceA_nd (onceA [] A) [] (by rw [List.nil_append]; exact onceA_nodup A [] (by simp)), List.nil_append]
end LW
namespace LW
open PySem PySem.Spec PyProof.Rows DL
theorem lname {s : Str} {t : Nat → Str} (h : ∀ i : Nat, i < 4 → dIx (.str s) (.int (i : Nat)) = some (.str (t i)) ∧ (t i).length ≤ 1) {d : Int} (hd : 0 ≤ d) : m__law_name [.str s, .int d] = .ok (.str (t (d % 4).toNat ++ t (d / 4 % 4).toNat)) := by
  obtain ⟨i, hi⟩ := Int.eq_ofNat_of_zero_le (show 0 ≤ d % 4 by omega)
  obtain ⟨j, hj⟩ := Int.eq_ofNat_of_zero_le (show 0 ≤ d / 4 % 4 by omega)
  obtain ⟨e1, l1⟩ := h i (by omega)
  obtain ⟨e2, l2⟩ := h j (by omega)
  rw [hi, hj, Int.toNat_natCast, Int.toNat_natCast]
  have a1 : (fB dIx (fVar 0) (fB dMod (fL dIntS (fCons (fVar 1) fNil)) (fC (.int 4)))) [.fz (.str s), .fz (.int d)] = .ok (.str (t i)) := by
    refine v_B rfl (v_B (v_L (v_Cons rfl v_Nil) dIntS_i) rfl (dMod_ii (by decide))) ?_
    rw [hi]
    exact e1
  have a2 : (fB dIx (fVar 0) (fB dMod (fL dIntS (fCons (fB dFdiv (fVar 1) (fC (.int 4))) fNil)) (fC (.int 4)))) [.fz (.str s), .fz (.int d)] = .ok (.str (t j)) := by
    refine v_B rfl (v_B (v_L (v_Cons (v_B rfl rfl (show dFdiv (.int d) (.int 4) = some (.int (d / 4)) from w_fdiv (by decide) (by decide))) v_Nil) dIntS_i) rfl (dMod_ii (by decide))) ?_
    rw [hj]
    exact e2
  exact (congrArg O.fin (show b__law_name [.fz (.str s), .fz (.int d)] = _ from v_Ret (v_B a1 a2 (dAdd_ss (okLe_by (by omega)))))).trans rfl
theorem ixf : ∀ i : Nat, i < 4 → dIx (.str "fghk") (.int (i : Nat)) = some (.str (f4 i)) ∧ (f4 i).length ≤ 1
  | 0, _ => ⟨by kernel_rfl, by decide +kernel⟩
  | 1, _ => ⟨by kernel_rfl, by decide +kernel⟩
  | 2, _ => ⟨by kernel_rfl, by decide +kernel⟩
  | 3, _ => ⟨by kernel_rfl, by decide +kernel⟩
  | n + 4, h => absurd h (by omega)
theorem ixg : ∀ i : Nat, i < 4 → dIx (.str "hgfk") (.int (i : Nat)) = some (.str (g4 i)) ∧ (g4 i).length ≤ 1
  | 0, _ => ⟨by kernel_rfl, by decide +kernel⟩
  | 1, _ => ⟨by kernel_rfl, by decide +kernel⟩
  | 2, _ => ⟨by kernel_rfl, by decide +kernel⟩
  | 3, _ => ⟨by kernel_rfl, by decide +kernel⟩
  | n + 4, h => absurd h (by omega)
theorem ixc : ∀ i : Nat, i < 4 → dIx (.str "cdpq") (.int (i : Nat)) = some (.str (c4 i)) ∧ (c4 i).length ≤ 1
  | 0, _ => ⟨by kernel_rfl, by decide +kernel⟩
  | 1, _ => ⟨by kernel_rfl, by decide +kernel⟩
  | 2, _ => ⟨by kernel_rfl, by decide +kernel⟩
  | 3, _ => ⟨by kernel_rfl, by decide +kernel⟩
  | n + 4, h => absurd h (by omega)
abbrev pd9 (x : X9) : D := .lst [.str x.tx, .lst (x.ns.map .str), .int (x.ct : Nat), .int (x.ar : Nat)]
abbrev F9 (d r : Int) (x : X9) : DSt := [.fz (.int d), .fz (.int (x.k : Nat)), .fz (.int r), .fz (.str x.a), .fz (.str x.b), .fz (.str x.c)]
theorem lenL : (Str.ofString "map ").length = 4 ∧ (Str.ofString " ").length = 1 ∧ (Str.ofString "put ").length = 4 ∧ (Str.ofString "join (map ").length = 10 ∧ (Str.ofString ") (reverse)").length = 11 ∧ (Str.ofString "short 3 (put ").length = 13 ∧ (Str.ofString ") (same)").length = 8 := by decide +kernel
section
variable {d r : Int} {a b c : Str}
theorem pk0 : (fSeq (fIfS (fTest (fB dEq (fVar 1) (fC (.int 1)))) (fRet (fLst (fCons (fB dAdd (fC (.str "map ")) (fVar 3)) (fCons (fLst (fCons (fVar 3) fNil)) (fCons (fC (.int 1)) (fCons (fC (.int 0)) fNil)))))) fSkip) (fSeq (fIfS (fTest (fB dEq (fVar 1) (fC (.int 2)))) (fRet (fLst (fCons (fB dAdd (fB dAdd (fB dAdd (fC (.str "map ")) (fVar 3)) (fC (.str " "))) (fVar 4)) (fCons (fLst (fCons (fVar 3) (fCons (fVar 4) fNil))) (fCons (fC (.int 2)) (fCons (fC (.int 0)) fNil)))))) fSkip) (fSeq (fIfS (fTest (fB dEq (fVar 1) (fC (.int 3)))) (fRet (fLst (fCons (fB dAdd (fC (.str "put ")) (fVar 5)) (fCons (fLst (fCons (fVar 5) fNil)) (fCons (fC (.int 1)) (fCons (fC (.int 0)) fNil)))))) fSkip) (fSeq (fIfS (fTest (fB dEq (fVar 1) (fC (.int 4)))) (fRet (fLst (fCons (fB dAdd (fB dAdd (fC (.str "join (map ")) (fVar 3)) (fC (.str ") (reverse)"))) (fCons (fLst (fCons (fVar 3) fNil)) (fCons (fC (.int 3)) (fCons (fC (.int 1)) fNil)))))) fSkip) (fSeq (fIfS (fTest (fB dEq (fVar 1) (fC (.int 5)))) (fRet (fLst (fCons (fB dAdd (fB dAdd (fC (.str "short 3 (put ")) (fVar 5)) (fC (.str ") (same)"))) (fCons (fLst (fCons (fVar 5) fNil)) (fCons (fC (.int 3)) (fCons (fC (.int 1)) fNil)))))) fSkip) (fRet (fLst (fCons (fC (.str "reverse")) (fCons (fLst fNil) (fCons (fC (.int 1)) (fCons (fC (.int 0)) fNil))))))))))) (F9 d r ⟨0, a, b, c⟩) = .rt (pd9 ⟨0, a, b, c⟩) (F9 d r ⟨0, a, b, c⟩) := by
  have h1 : (fIfS (fTest (fB dEq (fVar 1) (fC (.int 1)))) (fRet (fLst (fCons (fB dAdd (fC (.str "map ")) (fVar 3)) (fCons (fLst (fCons (fVar 3) fNil)) (fCons (fC (.int 1)) (fCons (fC (.int 0)) fNil)))))) fSkip) (F9 d r ⟨0, a, b, c⟩) = .nx (F9 d r ⟨0, a, b, c⟩) := rfl
  have h2 : (fIfS (fTest (fB dEq (fVar 1) (fC (.int 2)))) (fRet (fLst (fCons (fB dAdd (fB dAdd (fB dAdd (fC (.str "map ")) (fVar 3)) (fC (.str " "))) (fVar 4)) (fCons (fLst (fCons (fVar 3) (fCons (fVar 4) fNil))) (fCons (fC (.int 2)) (fCons (fC (.int 0)) fNil)))))) fSkip) (F9 d r ⟨0, a, b, c⟩) = .nx (F9 d r ⟨0, a, b, c⟩) := rfl
  have h3 : (fIfS (fTest (fB dEq (fVar 1) (fC (.int 3)))) (fRet (fLst (fCons (fB dAdd (fC (.str "put ")) (fVar 5)) (fCons (fLst (fCons (fVar 5) fNil)) (fCons (fC (.int 1)) (fCons (fC (.int 0)) fNil)))))) fSkip) (F9 d r ⟨0, a, b, c⟩) = .nx (F9 d r ⟨0, a, b, c⟩) := rfl
  have h4 : (fIfS (fTest (fB dEq (fVar 1) (fC (.int 4)))) (fRet (fLst (fCons (fB dAdd (fB dAdd (fC (.str "join (map ")) (fVar 3)) (fC (.str ") (reverse)"))) (fCons (fLst (fCons (fVar 3) fNil)) (fCons (fC (.int 3)) (fCons (fC (.int 1)) fNil)))))) fSkip) (F9 d r ⟨0, a, b, c⟩) = .nx (F9 d r ⟨0, a, b, c⟩) := rfl
  have h5 : (fIfS (fTest (fB dEq (fVar 1) (fC (.int 5)))) (fRet (fLst (fCons (fB dAdd (fB dAdd (fC (.str "short 3 (put ")) (fVar 5)) (fC (.str ") (same)"))) (fCons (fLst (fCons (fVar 5) fNil)) (fCons (fC (.int 3)) (fCons (fC (.int 1)) fNil)))))) fSkip) (F9 d r ⟨0, a, b, c⟩) = .nx (F9 d r ⟨0, a, b, c⟩) := rfl
  exact v_Seq h1 (v_thn_nx (v_Seq h2 (v_thn_nx (v_Seq h3 (v_thn_nx (v_Seq h4 (v_thn_nx (v_Seq h5 (v_thn_nx rfl)))))))))
theorem pk1 (ha : a.length = 2) : (fSeq (fIfS (fTest (fB dEq (fVar 1) (fC (.int 1)))) (fRet (fLst (fCons (fB dAdd (fC (.str "map ")) (fVar 3)) (fCons (fLst (fCons (fVar 3) fNil)) (fCons (fC (.int 1)) (fCons (fC (.int 0)) fNil)))))) fSkip) (fSeq (fIfS (fTest (fB dEq (fVar 1) (fC (.int 2)))) (fRet (fLst (fCons (fB dAdd (fB dAdd (fB dAdd (fC (.str "map ")) (fVar 3)) (fC (.str " "))) (fVar 4)) (fCons (fLst (fCons (fVar 3) (fCons (fVar 4) fNil))) (fCons (fC (.int 2)) (fCons (fC (.int 0)) fNil)))))) fSkip) (fSeq (fIfS (fTest (fB dEq (fVar 1) (fC (.int 3)))) (fRet (fLst (fCons (fB dAdd (fC (.str "put ")) (fVar 5)) (fCons (fLst (fCons (fVar 5) fNil)) (fCons (fC (.int 1)) (fCons (fC (.int 0)) fNil)))))) fSkip) (fSeq (fIfS (fTest (fB dEq (fVar 1) (fC (.int 4)))) (fRet (fLst (fCons (fB dAdd (fB dAdd (fC (.str "join (map ")) (fVar 3)) (fC (.str ") (reverse)"))) (fCons (fLst (fCons (fVar 3) fNil)) (fCons (fC (.int 3)) (fCons (fC (.int 1)) fNil)))))) fSkip) (fSeq (fIfS (fTest (fB dEq (fVar 1) (fC (.int 5)))) (fRet (fLst (fCons (fB dAdd (fB dAdd (fC (.str "short 3 (put ")) (fVar 5)) (fC (.str ") (same)"))) (fCons (fLst (fCons (fVar 5) fNil)) (fCons (fC (.int 3)) (fCons (fC (.int 1)) fNil)))))) fSkip) (fRet (fLst (fCons (fC (.str "reverse")) (fCons (fLst fNil) (fCons (fC (.int 1)) (fCons (fC (.int 0)) fNil))))))))))) (F9 d r ⟨1, a, b, c⟩) = .rt (pd9 ⟨1, a, b, c⟩) (F9 d r ⟨1, a, b, c⟩) := by
  have l := lenL
  exact v_Seq (v_IfS (b := true) rfl (v_Ret (v_Lst (v_Cons (v_B rfl rfl (dAdd_ss (okLe_by (by dsimp only; omega)))) (v_Cons (v_Lst (v_Cons rfl v_Nil)) (v_Cons rfl (v_Cons rfl v_Nil))))))) v_thn_rt
theorem pk2 (ha : a.length = 2) (hb : b.length = 2) : (fSeq (fIfS (fTest (fB dEq (fVar 1) (fC (.int 1)))) (fRet (fLst (fCons (fB dAdd (fC (.str "map ")) (fVar 3)) (fCons (fLst (fCons (fVar 3) fNil)) (fCons (fC (.int 1)) (fCons (fC (.int 0)) fNil)))))) fSkip) (fSeq (fIfS (fTest (fB dEq (fVar 1) (fC (.int 2)))) (fRet (fLst (fCons (fB dAdd (fB dAdd (fB dAdd (fC (.str "map ")) (fVar 3)) (fC (.str " "))) (fVar 4)) (fCons (fLst (fCons (fVar 3) (fCons (fVar 4) fNil))) (fCons (fC (.int 2)) (fCons (fC (.int 0)) fNil)))))) fSkip) (fSeq (fIfS (fTest (fB dEq (fVar 1) (fC (.int 3)))) (fRet (fLst (fCons (fB dAdd (fC (.str "put ")) (fVar 5)) (fCons (fLst (fCons (fVar 5) fNil)) (fCons (fC (.int 1)) (fCons (fC (.int 0)) fNil)))))) fSkip) (fSeq (fIfS (fTest (fB dEq (fVar 1) (fC (.int 4)))) (fRet (fLst (fCons (fB dAdd (fB dAdd (fC (.str "join (map ")) (fVar 3)) (fC (.str ") (reverse)"))) (fCons (fLst (fCons (fVar 3) fNil)) (fCons (fC (.int 3)) (fCons (fC (.int 1)) fNil)))))) fSkip) (fSeq (fIfS (fTest (fB dEq (fVar 1) (fC (.int 5)))) (fRet (fLst (fCons (fB dAdd (fB dAdd (fC (.str "short 3 (put ")) (fVar 5)) (fC (.str ") (same)"))) (fCons (fLst (fCons (fVar 5) fNil)) (fCons (fC (.int 3)) (fCons (fC (.int 1)) fNil)))))) fSkip) (fRet (fLst (fCons (fC (.str "reverse")) (fCons (fLst fNil) (fCons (fC (.int 1)) (fCons (fC (.int 0)) fNil))))))))))) (F9 d r ⟨2, a, b, c⟩) = .rt (pd9 ⟨2, a, b, c⟩) (F9 d r ⟨2, a, b, c⟩) := by
  have l := lenL
  have h1 : (fIfS (fTest (fB dEq (fVar 1) (fC (.int 1)))) (fRet (fLst (fCons (fB dAdd (fC (.str "map ")) (fVar 3)) (fCons (fLst (fCons (fVar 3) fNil)) (fCons (fC (.int 1)) (fCons (fC (.int 0)) fNil)))))) fSkip) (F9 d r ⟨2, a, b, c⟩) = .nx (F9 d r ⟨2, a, b, c⟩) := rfl
  exact v_Seq h1 (v_thn_nx (v_Seq (v_IfS (b := true) rfl (v_Ret (v_Lst (v_Cons (v_B (v_B (v_B rfl rfl (dAdd_ss (okLe_by (by dsimp only; omega)))) rfl (dAdd_ss (okLe_by (by rw [Str.length_append]; dsimp only; omega)))) rfl (dAdd_ss (okLe_by (by rw [Str.length_append, Str.length_append]; dsimp only; omega)))) (v_Cons (v_Lst (v_Cons rfl (v_Cons rfl v_Nil))) (v_Cons rfl (v_Cons rfl v_Nil))))))) v_thn_rt))
theorem pk3 (hc : c.length = 2) : (fSeq (fIfS (fTest (fB dEq (fVar 1) (fC (.int 1)))) (fRet (fLst (fCons (fB dAdd (fC (.str "map ")) (fVar 3)) (fCons (fLst (fCons (fVar 3) fNil)) (fCons (fC (.int 1)) (fCons (fC (.int 0)) fNil)))))) fSkip) (fSeq (fIfS (fTest (fB dEq (fVar 1) (fC (.int 2)))) (fRet (fLst (fCons (fB dAdd (fB dAdd (fB dAdd (fC (.str "map ")) (fVar 3)) (fC (.str " "))) (fVar 4)) (fCons (fLst (fCons (fVar 3) (fCons (fVar 4) fNil))) (fCons (fC (.int 2)) (fCons (fC (.int 0)) fNil)))))) fSkip) (fSeq (fIfS (fTest (fB dEq (fVar 1) (fC (.int 3)))) (fRet (fLst (fCons (fB dAdd (fC (.str "put ")) (fVar 5)) (fCons (fLst (fCons (fVar 5) fNil)) (fCons (fC (.int 1)) (fCons (fC (.int 0)) fNil)))))) fSkip) (fSeq (fIfS (fTest (fB dEq (fVar 1) (fC (.int 4)))) (fRet (fLst (fCons (fB dAdd (fB dAdd (fC (.str "join (map ")) (fVar 3)) (fC (.str ") (reverse)"))) (fCons (fLst (fCons (fVar 3) fNil)) (fCons (fC (.int 3)) (fCons (fC (.int 1)) fNil)))))) fSkip) (fSeq (fIfS (fTest (fB dEq (fVar 1) (fC (.int 5)))) (fRet (fLst (fCons (fB dAdd (fB dAdd (fC (.str "short 3 (put ")) (fVar 5)) (fC (.str ") (same)"))) (fCons (fLst (fCons (fVar 5) fNil)) (fCons (fC (.int 3)) (fCons (fC (.int 1)) fNil)))))) fSkip) (fRet (fLst (fCons (fC (.str "reverse")) (fCons (fLst fNil) (fCons (fC (.int 1)) (fCons (fC (.int 0)) fNil))))))))))) (F9 d r ⟨3, a, b, c⟩) = .rt (pd9 ⟨3, a, b, c⟩) (F9 d r ⟨3, a, b, c⟩) := by
  have l := lenL
  have h1 : (fIfS (fTest (fB dEq (fVar 1) (fC (.int 1)))) (fRet (fLst (fCons (fB dAdd (fC (.str "map ")) (fVar 3)) (fCons (fLst (fCons (fVar 3) fNil)) (fCons (fC (.int 1)) (fCons (fC (.int 0)) fNil)))))) fSkip) (F9 d r ⟨3, a, b, c⟩) = .nx (F9 d r ⟨3, a, b, c⟩) := rfl
  have h2 : (fIfS (fTest (fB dEq (fVar 1) (fC (.int 2)))) (fRet (fLst (fCons (fB dAdd (fB dAdd (fB dAdd (fC (.str "map ")) (fVar 3)) (fC (.str " "))) (fVar 4)) (fCons (fLst (fCons (fVar 3) (fCons (fVar 4) fNil))) (fCons (fC (.int 2)) (fCons (fC (.int 0)) fNil)))))) fSkip) (F9 d r ⟨3, a, b, c⟩) = .nx (F9 d r ⟨3, a, b, c⟩) := rfl
  exact v_Seq h1 (v_thn_nx (v_Seq h2 (v_thn_nx (v_Seq (v_IfS (b := true) rfl (v_Ret (v_Lst (v_Cons (v_B rfl rfl (dAdd_ss (okLe_by (by dsimp only; omega)))) (v_Cons (v_Lst (v_Cons rfl v_Nil)) (v_Cons rfl (v_Cons rfl v_Nil))))))) v_thn_rt))))
theorem pk4 (ha : a.length = 2) : (fSeq (fIfS (fTest (fB dEq (fVar 1) (fC (.int 1)))) (fRet (fLst (fCons (fB dAdd (fC (.str "map ")) (fVar 3)) (fCons (fLst (fCons (fVar 3) fNil)) (fCons (fC (.int 1)) (fCons (fC (.int 0)) fNil)))))) fSkip) (fSeq (fIfS (fTest (fB dEq (fVar 1) (fC (.int 2)))) (fRet (fLst (fCons (fB dAdd (fB dAdd (fB dAdd (fC (.str "map ")) (fVar 3)) (fC (.str " "))) (fVar 4)) (fCons (fLst (fCons (fVar 3) (fCons (fVar 4) fNil))) (fCons (fC (.int 2)) (fCons (fC (.int 0)) fNil)))))) fSkip) (fSeq (fIfS (fTest (fB dEq (fVar 1) (fC (.int 3)))) (fRet (fLst (fCons (fB dAdd (fC (.str "put ")) (fVar 5)) (fCons (fLst (fCons (fVar 5) fNil)) (fCons (fC (.int 1)) (fCons (fC (.int 0)) fNil)))))) fSkip) (fSeq (fIfS (fTest (fB dEq (fVar 1) (fC (.int 4)))) (fRet (fLst (fCons (fB dAdd (fB dAdd (fC (.str "join (map ")) (fVar 3)) (fC (.str ") (reverse)"))) (fCons (fLst (fCons (fVar 3) fNil)) (fCons (fC (.int 3)) (fCons (fC (.int 1)) fNil)))))) fSkip) (fSeq (fIfS (fTest (fB dEq (fVar 1) (fC (.int 5)))) (fRet (fLst (fCons (fB dAdd (fB dAdd (fC (.str "short 3 (put ")) (fVar 5)) (fC (.str ") (same)"))) (fCons (fLst (fCons (fVar 5) fNil)) (fCons (fC (.int 3)) (fCons (fC (.int 1)) fNil)))))) fSkip) (fRet (fLst (fCons (fC (.str "reverse")) (fCons (fLst fNil) (fCons (fC (.int 1)) (fCons (fC (.int 0)) fNil))))))))))) (F9 d r ⟨4, a, b, c⟩) = .rt (pd9 ⟨4, a, b, c⟩) (F9 d r ⟨4, a, b, c⟩) := by
  have l := lenL
  have h1 : (fIfS (fTest (fB dEq (fVar 1) (fC (.int 1)))) (fRet (fLst (fCons (fB dAdd (fC (.str "map ")) (fVar 3)) (fCons (fLst (fCons (fVar 3) fNil)) (fCons (fC (.int 1)) (fCons (fC (.int 0)) fNil)))))) fSkip) (F9 d r ⟨4, a, b, c⟩) = .nx (F9 d r ⟨4, a, b, c⟩) := rfl
  have h2 : (fIfS (fTest (fB dEq (fVar 1) (fC (.int 2)))) (fRet (fLst (fCons (fB dAdd (fB dAdd (fB dAdd (fC (.str "map ")) (fVar 3)) (fC (.str " "))) (fVar 4)) (fCons (fLst (fCons (fVar 3) (fCons (fVar 4) fNil))) (fCons (fC (.int 2)) (fCons (fC (.int 0)) fNil)))))) fSkip) (F9 d r ⟨4, a, b, c⟩) = .nx (F9 d r ⟨4, a, b, c⟩) := rfl
  have h3 : (fIfS (fTest (fB dEq (fVar 1) (fC (.int 3)))) (fRet (fLst (fCons (fB dAdd (fC (.str "put ")) (fVar 5)) (fCons (fLst (fCons (fVar 5) fNil)) (fCons (fC (.int 1)) (fCons (fC (.int 0)) fNil)))))) fSkip) (F9 d r ⟨4, a, b, c⟩) = .nx (F9 d r ⟨4, a, b, c⟩) := rfl
  exact v_Seq h1 (v_thn_nx (v_Seq h2 (v_thn_nx (v_Seq h3 (v_thn_nx (v_Seq (v_IfS (b := true) rfl (v_Ret (v_Lst (v_Cons (v_B (v_B rfl rfl (dAdd_ss (okLe_by (by dsimp only; omega)))) rfl (dAdd_ss (okLe_by (by rw [Str.length_append]; dsimp only; omega)))) (v_Cons (v_Lst (v_Cons rfl v_Nil)) (v_Cons rfl (v_Cons rfl v_Nil))))))) v_thn_rt))))))
theorem pk5 (hc : c.length = 2) : (fSeq (fIfS (fTest (fB dEq (fVar 1) (fC (.int 1)))) (fRet (fLst (fCons (fB dAdd (fC (.str "map ")) (fVar 3)) (fCons (fLst (fCons (fVar 3) fNil)) (fCons (fC (.int 1)) (fCons (fC (.int 0)) fNil)))))) fSkip) (fSeq (fIfS (fTest (fB dEq (fVar 1) (fC (.int 2)))) (fRet (fLst (fCons (fB dAdd (fB dAdd (fB dAdd (fC (.str "map ")) (fVar 3)) (fC (.str " "))) (fVar 4)) (fCons (fLst (fCons (fVar 3) (fCons (fVar 4) fNil))) (fCons (fC (.int 2)) (fCons (fC (.int 0)) fNil)))))) fSkip) (fSeq (fIfS (fTest (fB dEq (fVar 1) (fC (.int 3)))) (fRet (fLst (fCons (fB dAdd (fC (.str "put ")) (fVar 5)) (fCons (fLst (fCons (fVar 5) fNil)) (fCons (fC (.int 1)) (fCons (fC (.int 0)) fNil)))))) fSkip) (fSeq (fIfS (fTest (fB dEq (fVar 1) (fC (.int 4)))) (fRet (fLst (fCons (fB dAdd (fB dAdd (fC (.str "join (map ")) (fVar 3)) (fC (.str ") (reverse)"))) (fCons (fLst (fCons (fVar 3) fNil)) (fCons (fC (.int 3)) (fCons (fC (.int 1)) fNil)))))) fSkip) (fSeq (fIfS (fTest (fB dEq (fVar 1) (fC (.int 5)))) (fRet (fLst (fCons (fB dAdd (fB dAdd (fC (.str "short 3 (put ")) (fVar 5)) (fC (.str ") (same)"))) (fCons (fLst (fCons (fVar 5) fNil)) (fCons (fC (.int 3)) (fCons (fC (.int 1)) fNil)))))) fSkip) (fRet (fLst (fCons (fC (.str "reverse")) (fCons (fLst fNil) (fCons (fC (.int 1)) (fCons (fC (.int 0)) fNil))))))))))) (F9 d r ⟨5, a, b, c⟩) = .rt (pd9 ⟨5, a, b, c⟩) (F9 d r ⟨5, a, b, c⟩) := by
  have l := lenL
  have h1 : (fIfS (fTest (fB dEq (fVar 1) (fC (.int 1)))) (fRet (fLst (fCons (fB dAdd (fC (.str "map ")) (fVar 3)) (fCons (fLst (fCons (fVar 3) fNil)) (fCons (fC (.int 1)) (fCons (fC (.int 0)) fNil)))))) fSkip) (F9 d r ⟨5, a, b, c⟩) = .nx (F9 d r ⟨5, a, b, c⟩) := rfl
  have h2 : (fIfS (fTest (fB dEq (fVar 1) (fC (.int 2)))) (fRet (fLst (fCons (fB dAdd (fB dAdd (fB dAdd (fC (.str "map ")) (fVar 3)) (fC (.str " "))) (fVar 4)) (fCons (fLst (fCons (fVar 3) (fCons (fVar 4) fNil))) (fCons (fC (.int 2)) (fCons (fC (.int 0)) fNil)))))) fSkip) (F9 d r ⟨5, a, b, c⟩) = .nx (F9 d r ⟨5, a, b, c⟩) := rfl
  have h3 : (fIfS (fTest (fB dEq (fVar 1) (fC (.int 3)))) (fRet (fLst (fCons (fB dAdd (fC (.str "put ")) (fVar 5)) (fCons (fLst (fCons (fVar 5) fNil)) (fCons (fC (.int 1)) (fCons (fC (.int 0)) fNil)))))) fSkip) (F9 d r ⟨5, a, b, c⟩) = .nx (F9 d r ⟨5, a, b, c⟩) := rfl
  have h4 : (fIfS (fTest (fB dEq (fVar 1) (fC (.int 4)))) (fRet (fLst (fCons (fB dAdd (fB dAdd (fC (.str "join (map ")) (fVar 3)) (fC (.str ") (reverse)"))) (fCons (fLst (fCons (fVar 3) fNil)) (fCons (fC (.int 3)) (fCons (fC (.int 1)) fNil)))))) fSkip) (F9 d r ⟨5, a, b, c⟩) = .nx (F9 d r ⟨5, a, b, c⟩) := rfl
  exact v_Seq h1 (v_thn_nx (v_Seq h2 (v_thn_nx (v_Seq h3 (v_thn_nx (v_Seq h4 (v_thn_nx (v_Seq (v_IfS (b := true) rfl (v_Ret (v_Lst (v_Cons (v_B (v_B rfl rfl (dAdd_ss (okLe_by (by dsimp only; omega)))) rfl (dAdd_ss (okLe_by (by rw [Str.length_append]; dsimp only; omega)))) (v_Cons (v_Lst (v_Cons rfl v_Nil)) (v_Cons rfl (v_Cons rfl v_Nil))))))) v_thn_rt))))))))
end
theorem lenN : (∀ a ∈ NA, a.length = 2) ∧ ∀ c ∈ NC, c.length = 2 := by decide +kernel
theorem part_rt {d r : Int} {x : X9} (h : Ok9 x) : (fSeq (fIfS (fTest (fB dEq (fVar 1) (fC (.int 1)))) (fRet (fLst (fCons (fB dAdd (fC (.str "map ")) (fVar 3)) (fCons (fLst (fCons (fVar 3) fNil)) (fCons (fC (.int 1)) (fCons (fC (.int 0)) fNil)))))) fSkip) (fSeq (fIfS (fTest (fB dEq (fVar 1) (fC (.int 2)))) (fRet (fLst (fCons (fB dAdd (fB dAdd (fB dAdd (fC (.str "map ")) (fVar 3)) (fC (.str " "))) (fVar 4)) (fCons (fLst (fCons (fVar 3) (fCons (fVar 4) fNil))) (fCons (fC (.int 2)) (fCons (fC (.int 0)) fNil)))))) fSkip) (fSeq (fIfS (fTest (fB dEq (fVar 1) (fC (.int 3)))) (fRet (fLst (fCons (fB dAdd (fC (.str "put ")) (fVar 5)) (fCons (fLst (fCons (fVar 5) fNil)) (fCons (fC (.int 1)) (fCons (fC (.int 0)) fNil)))))) fSkip) (fSeq (fIfS (fTest (fB dEq (fVar 1) (fC (.int 4)))) (fRet (fLst (fCons (fB dAdd (fB dAdd (fC (.str "join (map ")) (fVar 3)) (fC (.str ") (reverse)"))) (fCons (fLst (fCons (fVar 3) fNil)) (fCons (fC (.int 3)) (fCons (fC (.int 1)) fNil)))))) fSkip) (fSeq (fIfS (fTest (fB dEq (fVar 1) (fC (.int 5)))) (fRet (fLst (fCons (fB dAdd (fB dAdd (fC (.str "short 3 (put ")) (fVar 5)) (fC (.str ") (same)"))) (fCons (fLst (fCons (fVar 5) fNil)) (fCons (fC (.int 3)) (fCons (fC (.int 1)) fNil)))))) fSkip) (fRet (fLst (fCons (fC (.str "reverse")) (fCons (fLst fNil) (fCons (fC (.int 1)) (fCons (fC (.int 0)) fNil))))))))))) (F9 d r x) = .rt (pd9 x) (F9 d r x) :=
  X9.cases (P := fun x => (fSeq (fIfS (fTest (fB dEq (fVar 1) (fC (.int 1)))) (fRet (fLst (fCons (fB dAdd (fC (.str "map ")) (fVar 3)) (fCons (fLst (fCons (fVar 3) fNil)) (fCons (fC (.int 1)) (fCons (fC (.int 0)) fNil)))))) fSkip) (fSeq (fIfS (fTest (fB dEq (fVar 1) (fC (.int 2)))) (fRet (fLst (fCons (fB dAdd (fB dAdd (fB dAdd (fC (.str "map ")) (fVar 3)) (fC (.str " "))) (fVar 4)) (fCons (fLst (fCons (fVar 3) (fCons (fVar 4) fNil))) (fCons (fC (.int 2)) (fCons (fC (.int 0)) fNil)))))) fSkip) (fSeq (fIfS (fTest (fB dEq (fVar 1) (fC (.int 3)))) (fRet (fLst (fCons (fB dAdd (fC (.str "put ")) (fVar 5)) (fCons (fLst (fCons (fVar 5) fNil)) (fCons (fC (.int 1)) (fCons (fC (.int 0)) fNil)))))) fSkip) (fSeq (fIfS (fTest (fB dEq (fVar 1) (fC (.int 4)))) (fRet (fLst (fCons (fB dAdd (fB dAdd (fC (.str "join (map ")) (fVar 3)) (fC (.str ") (reverse)"))) (fCons (fLst (fCons (fVar 3) fNil)) (fCons (fC (.int 3)) (fCons (fC (.int 1)) fNil)))))) fSkip) (fSeq (fIfS (fTest (fB dEq (fVar 1) (fC (.int 5)))) (fRet (fLst (fCons (fB dAdd (fB dAdd (fC (.str "short 3 (put ")) (fVar 5)) (fC (.str ") (same)"))) (fCons (fLst (fCons (fVar 5) fNil)) (fCons (fC (.int 3)) (fCons (fC (.int 1)) fNil)))))) fSkip) (fRet (fLst (fCons (fC (.str "reverse")) (fCons (fLst fNil) (fCons (fC (.int 1)) (fCons (fC (.int 0)) fNil))))))))))) (F9 d r x) = .rt (pd9 x) (F9 d r x)) h (fun _ _ _ => pk0) (fun a ha _ _ => pk1 (lenN.1 a ha)) (fun a ha b hb _ => pk2 (lenN.1 a ha) (lenN.1 b hb)) (fun _ _ c hc => pk3 (lenN.2 c hc)) (fun a ha _ _ => pk4 (lenN.1 a ha)) (fun _ _ c hc => pk5 (lenN.2 c hc))
def xOf (d : Int) : X9 := ⟨(d % 6).toNat, f4 (d / 6 % 4).toNat ++ f4 (d / 6 / 4 % 4).toNat, g4 (d / 6 / 16 % 4).toNat ++ g4 (d / 6 / 16 / 4 % 4).toNat, c4 (d / 6 / 5 % 4).toNat ++ c4 (d / 6 / 5 / 4 % 4).toNat⟩
theorem xOf_ok {d : Int} (h : 0 ≤ d) : Ok9 (xOf d) :=
  ⟨by unfold xOf; dsimp only; omega, (f4_in _ (by omega) _ (by omega)).1, (f4_in _ (by omega) _ (by omega)).2.1, (f4_in _ (by omega) _ (by omega)).2.2.1⟩
theorem part_ok {d : Int} (h : 0 ≤ d) : m__law_part [.int d] = .ok (pd9 (xOf d)) := by
  have hk : (((xOf d).k : Nat) : Int) = d % 6 := by unfold xOf; dsimp only; omega
  have h0 : (fSet 1 (fB dMod (fL dIntS (fCons (fVar 0) fNil)) (fC (.int 6)))) [.fz (.int d), .un, .un, .un, .un, .un] = .nx [.fz (.int d), .fz (.int ((xOf d).k : Nat)), .un, .un, .un, .un] := by
    rw [hk]
    exact v_Set (v_B (v_L (v_Cons rfl v_Nil) dIntS_i) rfl (dMod_ii (by decide))) rfl
  generalize hkk : (((xOf d).k : Nat) : Int) = kk at *
  have h1 : (fSet 2 (fB dFdiv (fVar 0) (fC (.int 6)))) [.fz (.int d), .fz (.int kk), .un, .un, .un, .un] = .nx [.fz (.int d), .fz (.int kk), .fz (.int (d / 6)), .un, .un, .un] := v_Set (v_B rfl rfl (show dFdiv (.int d) (.int 6) = some (.int (d / 6)) from w_fdiv (by decide) (by decide))) rfl
  have h2 : (fSet 3 (fCall m__law_name (fCons (fC (.str "fghk")) (fCons (fVar 2) fNil)))) [.fz (.int d), .fz (.int kk), .fz (.int (d / 6)), .un, .un, .un] = .nx [.fz (.int d), .fz (.int kk), .fz (.int (d / 6)), .fz (.str (xOf d).a), .un, .un] := v_Set (v_Call (v_Cons rfl (v_Cons rfl v_Nil)) (lname ixf (by omega))) rfl
  have h3 : (fSet 4 (fCall m__law_name (fCons (fC (.str "hgfk")) (fCons (fB dFdiv (fVar 2) (fC (.int 16))) fNil)))) [.fz (.int d), .fz (.int kk), .fz (.int (d / 6)), .fz (.str (xOf d).a), .un, .un] = .nx [.fz (.int d), .fz (.int kk), .fz (.int (d / 6)), .fz (.str (xOf d).a), .fz (.str (xOf d).b), .un] := v_Set (v_Call (v_Cons rfl (v_Cons (v_B rfl rfl (show dFdiv (.int (d / 6)) (.int 16) = some (.int (d / 6 / 16)) from w_fdiv (by decide) (by decide))) v_Nil)) (lname ixg (by omega))) rfl
  have h4 : (fSet 5 (fCall m__law_name (fCons (fC (.str "cdpq")) (fCons (fB dFdiv (fVar 2) (fC (.int 5))) fNil)))) [.fz (.int d), .fz (.int kk), .fz (.int (d / 6)), .fz (.str (xOf d).a), .fz (.str (xOf d).b), .un] = .nx [.fz (.int d), .fz (.int kk), .fz (.int (d / 6)), .fz (.str (xOf d).a), .fz (.str (xOf d).b), .fz (.str (xOf d).c)] := v_Set (v_Call (v_Cons rfl (v_Cons (v_B rfl rfl (show dFdiv (.int (d / 6)) (.int 5) = some (.int (d / 6 / 5)) from w_fdiv (by decide) (by decide))) v_Nil)) (lname ixc (by omega))) rfl
  subst hkk
  have h5 := part_rt (d := d) (r := d / 6) (xOf_ok h)
  exact (congrArg O.fin (show b__law_part [.fz (.int d), .un, .un, .un, .un, .un] = _ from v_Seq h0 (v_thn_nx (v_Seq h1 (v_thn_nx (v_Seq h2 (v_thn_nx (v_Seq h3 (v_thn_nx (v_Seq h4 (v_thn_nx h5))))))))))).trans rfl
theorem on_loop {s0 : DS} : ∀ (xs acc : List Str) (s2 : DS), acc.length + xs.length ≤ 9000 → ∃ s2', loopF (pName 2) l1__law_once (xs.map .str) [s0, .ow (acc.map .str), s2] = .nx [s0, .ow ((onceA acc xs).map .str), s2']
  | [], acc, s2, _ => ⟨s2, rfl⟩
  | x :: xs, acc, s2, hl => by
    rw [List.length_cons] at hl
    by_cases hx : x ∈ acc
    · have hi : dInB (.str x) (.lst (acc.map .str)) = some true := by rw [dInB_strs, decide_eq_true hx]
      obtain ⟨s2', ih⟩ := on_loop (s0 := s0) xs acc (.fz (.str x)) (by omega)
      refine ⟨s2', ?_⟩
      rw [show onceA acc (x :: xs) = onceA acc xs from if_pos hx, List.map_cons]
      have st : l1__law_once [s0, .ow (acc.map .str), .fz (.str x)] = .nx [s0, .ow (acc.map .str), .fz (.str x)] := v_IfS (v_Test (v_InOwT rfl rfl hi)) v_Skip
      rw [loopF_nx rfl st]
      exact ih
    · have hi : dInB (.str x) (.lst (acc.map .str)) = some false := by rw [dInB_strs, decide_eq_false hx]
      obtain ⟨s2', ih⟩ := on_loop (s0 := s0) xs (acc ++ [x]) (.fz (.str x)) (by rw [List.length_append, List.length_singleton]; omega)
      refine ⟨s2', ?_⟩
      rw [show onceA acc (x :: xs) = onceA (acc ++ [x]) xs from if_neg hx, List.map_cons]
      rw [List.map_append] at ih
      have o : okLt (acc.map D.str).length = true := okLt_by (by rw [List.length_map]; omega)
      have st : l1__law_once [s0, .ow (acc.map .str), .fz (.str x)] = .nx [s0, .ow (acc.map .str ++ [.str x]), .fz (.str x)] := by
        refine v_IfS (b := true) (v_Test (v_InOwT rfl rfl hi)) ?_
        generalize acc.map D.str = A at *
        clear hi
        show fApp 1 (fVar 2) _ = _
        walk_at "go"
      rw [loopF_nx rfl st]
      exact ih
theorem once_ok {xs : List Str} (h : xs.length ≤ 100) : m__law_once [.lst (xs.map .str)] = .ok (.lst ((once xs).map .str)) := by
  obtain ⟨z, lp⟩ := on_loop (s0 := .fz (.lst (xs.map .str))) xs [] .un (by simp; omega)
  have h0 : (fNew 1 fNil) [.fz (.lst (xs.map .str)), .un, .un] = .nx [.fz (.lst (xs.map .str)), .ow [], .un] := rfl
  have h1 : (fFor (fItems (fVar 0)) (pName 2) l1__law_once) [.fz (.lst (xs.map .str)), .ow [], .un] = .nx [.fz (.lst (xs.map .str)), .ow ((onceA [] xs).map .str), z] := v_For (v_Items rfl rfl) lp
  have h2 : (fFrz 1 (fRet (fVar 1))) [.fz (.lst (xs.map .str)), .ow ((onceA [] xs).map .str), z] = .rt (.lst ((once xs).map .str)) [.fz (.lst (xs.map .str)), .fz (.lst ((onceA [] xs).map .str)), z] := v_Frz rfl rfl (v_Ret rfl)
  exact (congrArg O.fin (show b__law_once [.fz (.lst (xs.map .str)), .un, .un] = _ from v_Seq h0 (v_thn_nx (v_Seq h1 (v_thn_nx h2))))).trans rfl
theorem noK_P (t : Nat) : (∀ p : Pt, noK t p.enc = true) ∧ ∀ r : Rw, noKs t r.enc = true := by
  have key : ∀ n : Nat, (∀ p : Pt, sizeOf p ≤ n → noK t p.enc = true) ∧ ∀ r : Rw, sizeOf r ≤ n → noKs t r.enc = true := by
    intro n
    induction n with
    | zero =>
      refine ⟨fun p h => ?_, fun r h => ?_⟩
      · cases p <;> simp at h
      · cases r <;> simp at h
    | succ n ih =>
      obtain ⟨ip, ir⟩ := ih
      have sK : ∀ ns : List Str, noKs t (ns.map .str) = true := fun ns => by
        induction ns with
        | nil => rfl
        | cons x xs ih => show (noK t (.str x) && noKs t (xs.map .str)) = true; rw [ih]; rfl
      refine ⟨fun p h => ?_, fun r h => ?_⟩
      · cases p with
        | pl w => rfl
        | put n => rfl
        | cut1 w b => rfl
        | cut3 w b s k => rfl
        | each k i => rfl
        | rep w m => rfl
        | map ns =>
          rw [Pt.enc]
          show (true && (noK t (.tup (ns.map .str)) && true)) = true
          show (true && (noKs t (ns.map .str) && true)) = true
          rw [sK]; rfl
        | arm w l r =>
          have h1 := ir l (by simp at h; omega)
          have h2 := ir r (by simp at h; omega)
          rw [Pt.enc]
          show (true && (noKs t l.enc && (noKs t r.enc && true))) = true
          rw [h1, h2]; rfl
        | pair m l r =>
          have h1 := ir l (by simp at h; omega)
          have h2 := ir r (by simp at h; omega)
          rw [Pt.enc]
          show (true && (true && (noKs t l.enc && (noKs t r.enc && true)))) = true
          rw [h1, h2]; rfl
        | short c l r =>
          have h1 := ir l (by simp at h; omega)
          have h2 := ir r (by simp at h; omega)
          rw [Pt.enc]
          show (true && (true && (noKs t l.enc && (noKs t r.enc && true)))) = true
          rw [h1, h2]; rfl
      · cases r with
        | one p =>
          have h1 := ip p (by simp at h; omega)
          rw [Rw.enc]
          show (noK t p.enc && true) = true
          rw [h1]; rfl
        | cons p r =>
          have h1 := ip p (by simp at h; omega)
          have h2 := ir r (by simp at h; omega)
          rw [Rw.enc]
          show (noK t p.enc && noKs t r.enc) = true
          rw [h1, h2]; rfl
  exact ⟨fun p => (key _).1 p (Nat.le_refl _), fun r => (key _).2 r (Nat.le_refl _)⟩
section
variable {r : Rw} {n : Nb}
theorem p_len9 : m_Program___len__ [r.obj n] = .ok (.int r.tx.length) := by
  have e : (fL dLen (fCons (fU (dFld "Program" "_texts") (fVar 0)) fNil)) [.fz (r.obj n)] = .ok (.int (r.tx.map D.str).length) := v_L (v_Cons (v_U rfl rfl) v_Nil) dLen_l
  rw [List.length_map] at e
  exact (congrArg O.fin (show b_Program___len__ [.fz (r.obj n)] = _ from v_Ret e)).trans rfl
theorem p_iter9 : mI_Program___iter__ [r.obj n] = .ok (r.tx.map D.str) := rfl
theorem p_fields : (fU (dFld "Program" "_parts") (fVar 0)) [.fz (r.obj n)] = .ok (.tup r.enc) := rfl
theorem p_con9 (h : Q9K r n) (w : Str) : m_Program___contains__ [r.obj n, .str w] = .ok (.bl (decide (w ∈ r.names))) := by
  have nm := names_ok h.wf (by have := h.dep; omega) (by have := h.cnt; omega)
  have e : (fB dIn (fVar 1) (fCall m_names_of (fCons (fU (dFld "Program" "_parts") (fVar 0)) fNil))) [.fz (r.obj n), .fz (.str w)] = .ok (.bl (decide (w ∈ r.names))) := v_B rfl (v_Call (v_Cons (show (fU (dFld "Program" "_parts") (fVar 0)) [.fz (r.obj n), .fz (.str w)] = .ok (.tup r.enc) from rfl) v_Nil) nm) (w_dIn dInB_strs)
  exact (congrArg O.fin (show b_Program___contains__ [.fz (r.obj n), .fz (.str w)] = _ from v_Ret e)).trans rfl
theorem f_rows9 : mF_Program_row_texts [r.obj n] = .ok (r.tx.map D.str) := rfl
theorem f_names9 (h : Q9K r n) : mF_Program_names [r.obj n] = .ok (r.names.map D.str) := by
  have nm := names_ok h.wf (by have := h.dep; omega) (by have := h.cnt; omega)
  show fCallT m_names_of (fCons (fU (dFld "Program" "_parts") (fVar 0)) fNil) [.fz (r.obj n)] = _
  refine v_CallT (v_Cons p_fields v_Nil) nm ?_
  have s : ∀ (t : Nat) (ns : List Str), noKs t (ns.map D.str) = true := fun t ns => by
    induction ns with
    | nil => rfl
    | cons x xs ih => show (noK t (.str x) && noKs t (xs.map .str)) = true; rw [ih]; rfl
  rw [s]
  show ((noKs _ r.enc && true) && true) = true
  rw [(noK_P _).2]
  rfl
end
theorem sokT : (∀ a ∈ NA, Sok a) ∧ (∀ c ∈ NC, Sok c) ∧ (∀ a ∈ NA, Sok (X9.tx ⟨1, a, a, a⟩)) ∧ (∀ a ∈ NA, ∀ b ∈ NA, Sok (X9.tx ⟨2, a, b, a⟩)) ∧ (∀ c ∈ NC, Sok (X9.tx ⟨3, c, c, c⟩)) ∧ (∀ a ∈ NA, Sok (X9.tx ⟨4, a, a, a⟩)) ∧ (∀ c ∈ NC, Sok (X9.tx ⟨5, c, c, c⟩)) ∧ Sok (X9.tx ⟨0, "", "", ""⟩) := by decide +kernel
theorem X9.sok {x : X9} (h : Ok9 x) : Sok x.tx ∧ ∀ n ∈ x.ns, Sok n := by
  obtain ⟨s1, s2, s3, s4, s5, s6, s7, s8⟩ := sokT
  refine X9.cases (P := fun x => Sok x.tx ∧ ∀ n ∈ x.ns, Sok n) h (fun _ _ _ => ⟨s8, fun n hn => (by cases hn)⟩) (fun a ha _ _ => ⟨s3 a ha, fun n hn => ?_⟩) (fun a ha b hb _ => ⟨s4 a ha b hb, fun n hn => ?_⟩) (fun _ _ c hc => ⟨s5 c hc, fun n hn => ?_⟩) (fun a ha _ _ => ⟨s6 a ha, fun n hn => ?_⟩) (fun _ _ c hc => ⟨s7 c hc, fun n hn => ?_⟩)
  · rw [List.mem_singleton.mp hn]; exact s1 a ha
  · rcases List.mem_cons.mp hn with rfl | hn
    · exact s1 _ ha
    · rw [List.mem_singleton.mp hn]; exact s1 b hb
  · rw [List.mem_singleton.mp hn]; exact s2 c hc
  · rw [List.mem_singleton.mp hn]; exact s1 a ha
  · rw [List.mem_singleton.mp hn]; exact s2 c hc
theorem onceA_mem : ∀ (l acc : List Str) (x : Str), x ∈ onceA acc l → x ∈ acc ∨ x ∈ l
  | [], acc, x, h => .inl h
  | y :: l, acc, x, h => by
    rw [onceA] at h
    split at h
    · rcases onceA_mem l acc x h with h | h
      · exact .inl h
      · exact .inr (List.mem_cons_of_mem _ h)
    · rcases onceA_mem l _ x h with h | h
      · rcases List.mem_append.mp h with h | h
        · exact .inl h
        · rw [List.mem_singleton.mp h]; exact .inr List.mem_cons_self
      · exact .inr (List.mem_cons_of_mem _ h)
theorem lenT : (∀ a ∈ NA, (X9.tx ⟨1, a, a, a⟩).length ≤ 40 ∧ (X9.tx ⟨4, a, a, a⟩).length ≤ 40) ∧ (∀ a ∈ NA, ∀ b ∈ NA, (X9.tx ⟨2, a, b, a⟩).length ≤ 40) ∧ (∀ c ∈ NC, (X9.tx ⟨3, c, c, c⟩).length ≤ 40 ∧ (X9.tx ⟨5, c, c, c⟩).length ≤ 40) ∧ (X9.tx ⟨0, "", "", ""⟩).length ≤ 40 := by decide +kernel
end LW
namespace LW
open PySem PySem.Spec PyProof.Rows DL
def chs9 : List Nat := [99, 100, 102, 103, 104, 107, 112, 113]
theorem it9 : dItems (.str "cdfghkpq") = some (chs9.map fun c => D.str ⟨#[c]⟩) := by kernel_rfl
section
variable {I : List X9} {n : Nb} {s4 s5 s6 : DS}
abbrev P9 (I : List X9) (n : Nb) : D := (R9K I).obj n
abbrev rows9 (I : List X9) : List D := (I.map X9.tx).map .str
abbrev nam9 (I : List X9) : List D := (once (I.flatMap X9.ns)).map .str
abbrev W9 (I : List X9) (n : Nb) (s4 s5 s6 : DS) : DSt := [.fz (P9 I n), .fz (.lst (rows9 I)), .fz (.lst (nam9 I)), .fz (.int (sumC I : Nat)), s4, s5, s6]
theorem sok_rows (h : V9K I) : ∀ t ∈ I.map X9.tx, Sok t := fun t ht => by
  obtain ⟨x, hx, rfl⟩ := List.mem_map.mp ht
  exact (X9.sok (h.ok x hx)).1
theorem sok_nam (h : V9K I) : ∀ t ∈ once (I.flatMap X9.ns), Sok t := fun t ht => by
  rcases onceA_mem _ _ _ ht with h' | h'
  · cases h'
  · obtain ⟨x, hx, hn⟩ := List.mem_flatMap.mp h'
    exact (X9.sok (h.ok x hx)).2 t hn
theorem len_tx {x : X9} (h : Ok9 x) : x.tx.length ≤ 40 := by
  obtain ⟨l1, l2, l3, l4⟩ := lenT
  exact X9.cases (P := fun x => x.tx.length ≤ 40) h (fun _ _ _ => l4) (fun a ha _ _ => (l1 a ha).1) (fun a ha b hb _ => l2 a ha b hb) (fun _ _ c hc => (l3 c hc).1) (fun a ha _ _ => (l1 a ha).2) (fun _ _ c hc => (l3 c hc).2)
theorem join9 (h : V9K I) {δ : DSt} {f : FE} (hf : f δ = .ok (.lst (rows9 I))) : (fJoin (fC (.str "; ")) f) δ = .ok (.str (R9K I).txt) := by
  unfold Rw.txt
  rw [R9K_tx h]
  have l := h.le
  have key : ∀ t ∈ I.map X9.tx, t.length ≤ 40 := fun t ht => by
    obtain ⟨x, hx, rfl⟩ := List.mem_map.mp ht
    exact len_tx (h.ok x hx)
  have s := sum_le (c := 40) (I.map X9.tx) key
  rw [List.length_map] at s
  have ks : (Str.ofString "; ").length = 2 := by decide +kernel
  exact v_Join rfl hf (dJoin_l (joinOk_by (by rw [ks, List.length_map]; omega)))
theorem r0 (h : V9K I) (q : Q9K (R9K I) n) : (fIfS (fOrB (fTest (fB dNe (fLenO "Program" m_Program___len__ (fVar 0)) (fL dLen (fCons (fVar 1) fNil)))) (fOrB (fTest (fB dNe (fProp "Program" m_Program_row_texts (fVar 0)) (fVar 1))) (fTest (fB dNe (fLc (fItO "Program" mI_Program___iter__ (fVar 0)) 4 fYes (fVar 4)) (fVar 1))))) (fRet (fC (.bl false))) fSkip) (W9 I n s4 s5 s6) = .nx (W9 I n s4 s5 s6) := by
  have et := R9K_tx h
  have hr : Eqb 63 (.lst (rows9 I)) := Eqb.strs (sok_rows h)
  have t1 : (fTest (fB dNe (fLenO "Program" m_Program___len__ (fVar 0)) (fL dLen (fCons (fVar 1) fNil)))) (W9 I n s4 s5 s6) = .ok false := by
    have l := p_len9 (r := R9K I) (n := n)
    rw [et] at l
    have hl := h.le
    refine v_Test (v_B (fLenO_e rfl l (by omega) (by rw [List.length_map]; omega)) (v_L (v_Cons rfl v_Nil) dLen_l) ?_)
    rw [List.length_map, List.length_map, List.length_map]
    exact dNe_refl (Eqb.int _ _)
  have t2 : (fTest (fB dNe (fProp "Program" m_Program_row_texts (fVar 0)) (fVar 1))) (W9 I n s4 s5 s6) = .ok false := by
    have l := p_rows (r := R9K I) (nb := n)
    rw [et] at l
    exact v_Test (v_B (v_Prop (show fVar 0 (W9 I n s4 s5 s6) = R.ok ((R9K I).obj n) from rfl) l) rfl (dNe_refl (hr.mono (by decide))))
  have t3 : (fTest (fB dNe (fLc (fItO "Program" mI_Program___iter__ (fVar 0)) 4 fYes (fVar 4)) (fVar 1))) (W9 I n s4 s5 s6) = .ok false := by
    have l := p_iter9 (r := R9K I) (n := n)
    rw [et] at l
    have lc : lcF 4 fYes (fVar 4) (W9 I n s4 s5 s6) (rows9 I) [] = .ok (rows9 I) := by
      have hl := h.le
      refine (v_lc_map (g := fun t : Str => D.str t) (h := fun t => D.str t) (xs := I.map X9.tx) (fun t ht => ?_) (by rw [List.length_map]; omega))
      exact IsAt.mk' (δ' := W9 I n (.fz (.str t)) s5 s6) rfl rfl rfl
    exact v_Test (v_B (v_Lc (v_ItO (show fVar 0 (W9 I n s4 s5 s6) = R.ok ((R9K I).obj n) from rfl) l) lc) rfl (dNe_refl (hr.mono (by decide))))
  exact v_IfS (b := false) (v_Or t1 fun _ => v_Or t2 fun _ => t3) v_Skip
theorem r1 (h : V9K I) (q : Q9K (R9K I) n) : (fIfS (fOrB (fTest (fB dNe (fProp "Program" m_Program_names (fVar 0)) (fVar 2))) (fOrB (fTest (fB dNe (fProp "Program" m_Program_parts (fVar 0)) (fVar 3))) (fTest (fB dNe (fProp "Program" m_Program_text (fVar 0)) (fJoin (fC (.str "; ")) (fVar 1)))))) (fRet (fC (.bl false))) fSkip) (W9 I n s4 s5 s6) = .nx (W9 I n s4 s5 s6) := by
  have hn : Eqb 63 (.lst (nam9 I)) := Eqb.strs (sok_nam h)
  have t1 : (fTest (fB dNe (fProp "Program" m_Program_names (fVar 0)) (fVar 2))) (W9 I n s4 s5 s6) = .ok false := by
    have l := p_names (nb := n) q.wf (by have := q.dep; omega) (by have := q.cnt; omega)
    rw [R9K_names h] at l
    exact v_Test (v_B (v_Prop (show fVar 0 (W9 I n s4 s5 s6) = R.ok ((R9K I).obj n) from rfl) l) rfl (dNe_refl (hn.mono (by decide))))
  have t2 : (fTest (fB dNe (fProp "Program" m_Program_parts (fVar 0)) (fVar 3))) (W9 I n s4 s5 s6) = .ok false := by
    have l := p_parts (nb := n) q.wf (by have := q.dep; omega)
    rw [R9K_cnt h] at l
    exact v_Test (v_B (v_Prop (show fVar 0 (W9 I n s4 s5 s6) = R.ok ((R9K I).obj n) from rfl) l) rfl (dNe_refl (Eqb.int _ _)))
  have t3 : (fTest (fB dNe (fProp "Program" m_Program_text (fVar 0)) (fJoin (fC (.str "; ")) (fVar 1)))) (W9 I n s4 s5 s6) = .ok false := by
    have l := p_text (nb := n) q.wf (by have := q.dep; omega) (by have := q.cnt; omega)
    exact v_Test (v_B (v_Prop (show fVar 0 (W9 I n s4 s5 s6) = R.ok ((R9K I).obj n) from rfl) l) (join9 h rfl) (w_dNe (b := true) (by rw [dEqB_ss, beq_self_eq_true])))
  exact v_IfS (b := false) (v_Or t1 fun _ => v_Or t2 fun _ => t3) v_Skip
theorem in9 (h : V9K I) (q : Q9K (R9K I) n) (a b : Nat) : l1__law_right (W9 I n s4 (.fz (.str ⟨#[a]⟩)) (.fz (.str ⟨#[b]⟩))) = .nx (W9 I n s4 (.fz (.str ⟨#[a]⟩)) (.fz (.str ⟨#[b]⟩))) := by
  have c := p_con9 q ((⟨#[a]⟩ : Str) ++ (⟨#[b]⟩ : Str))
  rw [R9K_names h] at c
  have w : (fB dAdd (fVar 5) (fVar 6)) (W9 I n s4 (.fz (.str ⟨#[a]⟩)) (.fz (.str ⟨#[b]⟩))) = .ok (.str ((⟨#[a]⟩ : Str) ++ (⟨#[b]⟩ : Str))) := v_B rfl rfl (dAdd_ss (okLe_by (show 1 + 1 ≤ _ by omega)))
  have e1 := v_B (F := dInO "Program" m_Program___contains__) w (show fVar 0 (W9 I n s4 (.fz (.str ⟨#[a]⟩)) (.fz (.str ⟨#[b]⟩))) = R.ok ((R9K I).obj n) from rfl) (dInO_e c)
  have e2 := v_B (F := dIn) w (show fVar 2 (W9 I n s4 (.fz (.str ⟨#[a]⟩)) (.fz (.str ⟨#[b]⟩))) = R.ok (.lst (nam9 I)) from rfl) (w_dIn dInB_strs)
  exact v_IfS (b := false) (v_Test (v_B e1 e2 (dNe_refl (Eqb.bl _ _)))) v_Skip
theorem lp1 (h : V9K I) (q : Q9K (R9K I) n) (a : Nat) : ∀ (l : List Nat) (s6 : DS), ∃ z, loopF (pName 6) l1__law_right (l.map fun c => D.str ⟨#[c]⟩) (W9 I n s4 (.fz (.str ⟨#[a]⟩)) s6) = .nx (W9 I n s4 (.fz (.str ⟨#[a]⟩)) z)
  | [], s6 => ⟨s6, rfl⟩
  | c :: l, s6 => by
    obtain ⟨z, ih⟩ := lp1 h q a l (.fz (.str ⟨#[c]⟩))
    exact ⟨z, by rw [List.map_cons, loopF_nx rfl (in9 h q a c)]; exact ih⟩
theorem lp2 (h : V9K I) (q : Q9K (R9K I) n) : ∀ (l : List Nat) (s5 s6 : DS), ∃ y z, loopF (pName 5) l2__law_right (l.map fun c => D.str ⟨#[c]⟩) (W9 I n s4 s5 s6) = .nx (W9 I n s4 y z)
  | [], s5, s6 => ⟨s5, s6, rfl⟩
  | c :: l, s5, s6 => by
    obtain ⟨z, e⟩ := lp1 (s4 := s4) h q c chs9 s6
    have st : l2__law_right (W9 I n s4 (.fz (.str ⟨#[c]⟩)) s6) = .nx (W9 I n s4 (.fz (.str ⟨#[c]⟩)) z) := v_For (v_Items rfl it9) e
    obtain ⟨y, z', ih⟩ := lp2 h q l (.fz (.str ⟨#[c]⟩)) z
    exact ⟨y, z', by rw [List.map_cons, loopF_nx rfl st]; exact ih⟩
theorem fin9 {P R N C : D} {δ : DSt} (e : b__law_right [.fz P, .fz R, .fz N, .fz C, .un, .un, .un] = .rt (.bl true) δ) : m__law_right [P, R, N, C] = .ok (.bl true) := (congrArg O.fin e).trans rfl
theorem right9 (h : V9K I) (q : Q9K (R9K I) n) : m__law_right [P9 I n, .lst (rows9 I), .lst (nam9 I), .int (sumC I : Nat)] = .ok (.bl true) := by
  obtain ⟨y, z, lp⟩ := lp2 (s4 := .un) h q chs9 .un .un
  have h2 : (fFor (fItems (fC (.str "cdfghkpq"))) (pName 5) l2__law_right) (W9 I n .un .un .un) = .nx (W9 I n .un y z) := v_For (v_Items rfl it9) lp
  have h3 : (fRet (fC (.bl true))) (W9 I n .un y z) = .rt (.bl true) (W9 I n .un y z) := rfl
  have e : b__law_right (W9 I n .un .un .un) = .rt (.bl true) (W9 I n .un y z) := v_Seq (r0 h q) (v_thn_nx (v_Seq (r1 h q) (v_thn_nx (v_Seq h2 (v_thn_nx h3)))))
  exact fin9 e
end
theorem dI_c9 {j m : Nat} : dInts j (m + 1) = .int j :: dInts ((j + 1 : Nat) : Int) m := by
  unfold dInts
  rw [List.range_succ_eq_map, List.map_cons, List.map_map]
  refine congr (congrArg _ (by simp)) (List.map_congr_left fun k _ => ?_)
  show D.int _ = D.int _
  congr 1
  simp only [Function.comp, Nat.succ_eq_add_one]
  omega
structure I9 (I : List X9) (k : Nat) : Prop where
  le : I.length ≤ k
  ok : ∀ i ∈ I, Ok9 i
  ar : sumA I ≤ 3
  ct : sumC I ≤ 24
  ne : 1 ≤ k → I ≠ []
theorem sumA_app : ∀ (A : List X9) (x : X9), sumA (A ++ [x]) = sumA A + x.ar
  | [], x => by show x.ar + 0 = 0 + x.ar; omega
  | y :: A, x => by show y.ar + sumA (A ++ [x]) = y.ar + sumA A + x.ar; rw [sumA_app A x]; omega
theorem sumC_app : ∀ (A : List X9) (x : X9), sumC (A ++ [x]) = sumC A + x.ct
  | [], x => by show x.ct + 0 = 0 + x.ct; omega
  | y :: A, x => by show y.ct + sumC (A ++ [x]) = y.ct + sumC A + x.ct; rw [sumC_app A x]; omega
theorem nsl9 {x : X9} (h : Ok9 x) : x.ns.length ≤ 2 :=
  X9.cases (P := fun x => x.ns.length ≤ 2) h (fun _ _ _ => by simp [X9.ns]) (fun a ha _ _ => by simp [X9.ns]) (fun a ha b hb _ => by simp [X9.ns]) (fun _ _ c hc => by simp [X9.ns]) (fun a ha _ _ => by simp [X9.ns]) (fun _ _ c hc => by simp [X9.ns])
theorem ct_le (x : X9) : 1 ≤ x.ct ∧ x.ct ≤ 3 ∧ x.ar ≤ 1 := by
  unfold X9.ct X9.ar
  split <;> split <;> omega
theorem nsum_len : ∀ (I : List X9), (∀ i ∈ I, Ok9 i) → (I.flatMap X9.ns).length ≤ 2 * I.length
  | [], _ => Nat.le_refl _
  | x :: I, h => by
    have h1 := nsl9 (h x (by simp))
    have h2 := nsum_len I fun i hi => h i (List.mem_cons_of_mem _ hi)
    rw [List.flatMap_cons, List.length_append, List.length_cons]
    omega
section
variable {s0 s6 s7 s8 s9 : DS} {dr : Nat → Int}
abbrev L9 (s0 : DS) (dr : Nat → Int) (I : List X9) (s6 s7 s8 s9 : DS) : DSt := [s0, .fz (.lst (drl dr 0 13)), .ow (rows9 I), .fz (.lst (nam9 I)), .fz (.int (sumC I : Nat)), .fz (.int (sumA I : Nat)), s6, s7, s8, s9]
theorem st9 (hd : DrF dr) {I : List X9} {k : Nat} (h : I9 I k) (hk : k < 12) : ∃ J s7', I9 J (k + 1) ∧ l1_law (L9 s0 dr I (.fz (.int k)) s7 s8 s9) = .nx (L9 s0 dr J (.fz (.int k)) s7' s8 s9) := by
  have hx := xOf_ok (hd (1 + k)).1
  have px := part_ok (hd (1 + k)).1
  have q : L2.atI (drl dr 0 13) ((1 : Int) + (k : Int)) = some (.int (dr (1 + k))) := by
    rw [show (1 : Int) + (k : Int) = ((1 + k : Nat) : Int) by omega]
    exact (drl_at (a := 0) (by omega) (by omega)).trans (by first | rfl | (congr 3; omega))
  have a0 : (fSet 7 (fCall m__law_part (fCons (fB dIx (fVar 1) (fB dAdd (fC (.int 1)) (fVar 6))) fNil))) (L9 s0 dr I (.fz (.int k)) s7 s8 s9) = .nx (L9 s0 dr I (.fz (.int k)) (.fz (pd9 (xOf (dr (1 + k))))) s8 s9) := v_Set (v_Call (v_Cons (v_B rfl (v_B rfl rfl dAdd_ii) (w_ixl q)) v_Nil) px) rfl
  generalize xOf (dr (1 + k)) = x at *
  clear px q
  have p0 : m__law_part [.int 0] = .ok (pd9 (xOf 0)) := part_ok (by decide)
  have o0 : Ok9 (xOf 0) := xOf_ok (by decide)
  have k0 : (xOf 0).ct = 1 ∧ (xOf 0).ar = 0 := by decide +kernel
  have t1 : (fOrB (fTest (fB dGt (fB dAdd (fVar 5) (fB dIx (fVar 7) (fC (.int 3)))) (fC (.int 3)))) (fTest (fB dGt (fB dAdd (fVar 4) (fB dIx (fVar 7) (fC (.int 2)))) (fC (.int 24))))) (L9 s0 dr I (.fz (.int k)) (.fz (pd9 x)) s8 s9) = .ok (decide ((sumA I : Int) + (x.ar : Int) > 3) || decide ((sumC I : Int) + (x.ct : Int) > 24)) :=
    v_Or (v_Test (v_B (v_B rfl (v_B rfl rfl rfl) dAdd_ii) rfl dGt_ii)) fun _ => v_Test (v_B (v_B rfl (v_B rfl rfl rfl) dAdd_ii) rfl dGt_ii)
  obtain ⟨y, hy, ya, a1⟩ : ∃ y, Ok9 y ∧ sumA I + y.ar ≤ 3 ∧ (fIfS (fOrB (fTest (fB dGt (fB dAdd (fVar 5) (fB dIx (fVar 7) (fC (.int 3)))) (fC (.int 3)))) (fTest (fB dGt (fB dAdd (fVar 4) (fB dIx (fVar 7) (fC (.int 2)))) (fC (.int 24))))) (fSet 7 (fCall m__law_part (fCons (fC (.int 0)) fNil))) fSkip) (L9 s0 dr I (.fz (.int k)) (.fz (pd9 x)) s8 s9) = .nx (L9 s0 dr I (.fz (.int k)) (.fz (pd9 y)) s8 s9) := by
    cases hb : (decide ((sumA I : Int) + (x.ar : Int) > 3) || decide ((sumC I : Int) + (x.ct : Int) > 24)) with
    | true =>
      rw [hb] at t1
      exact ⟨xOf 0, o0, by have := h.ar; omega, v_IfS t1 (v_Set (v_Call (v_Cons rfl v_Nil) p0) rfl)⟩
    | false =>
      rw [hb] at t1
      have := of_decide_eq_false (Bool.or_eq_false_iff.mp hb).1
      exact ⟨x, hx, by omega, v_IfS t1 v_Skip⟩
  clear t1
  have t2 : (fTest (fB dLe (fB dAdd (fVar 4) (fB dIx (fVar 7) (fC (.int 2)))) (fC (.int 24)))) (L9 s0 dr I (.fz (.int k)) (.fz (pd9 y)) s8 s9) = .ok (decide ((sumC I : Int) + (y.ct : Int) ≤ 24)) := v_Test (v_B (v_B rfl (v_B rfl rfl rfl) dAdd_ii) rfl dLe_ii)
  have yc := ct_le y
  cases hb : decide ((sumC I : Int) + (y.ct : Int) ≤ 24) with
  | false =>
    rw [hb] at t2
    have hc := of_decide_eq_false hb
    refine ⟨I, _, ⟨by have := h.le; omega, h.ok, h.ar, h.ct, fun _ e => ?_⟩, v_Seq a0 (v_thn_nx (v_Seq a1 (v_thn_nx (v_IfS t2 v_Skip))))⟩
    subst e
    have : sumC ([] : List X9) = 0 := rfl
    omega
  | true =>
    rw [hb] at t2
    have hc := of_decide_eq_true hb
    have hl := h.le
    have nl := nsum_len I h.ok
    have nl2 := nsl9 hy
    have ol := onceA_len (I.flatMap X9.ns) []
    have b0 : (fApp 2 (fB dIx (fVar 7) (fC (.int 0)))) (L9 s0 dr I (.fz (.int k)) (.fz (pd9 y)) s8 s9) = .nx [s0, .fz (.lst (drl dr 0 13)), .ow (rows9 (I ++ [y])), .fz (.lst (nam9 I)), .fz (.int (sumC I : Nat)), .fz (.int (sumA I : Nat)), .fz (.int k), .fz (pd9 y), s8, s9] := by
      rw [show rows9 (I ++ [y]) = rows9 I ++ [.str y.tx] by unfold rows9; rw [List.map_append, List.map_append]; rfl]
      have o : okLt (rows9 I).length = true := okLt_by (by rw [List.length_map, List.length_map]; omega)
      exact v_App rfl (v_B rfl rfl rfl) o rfl
    have b1 : (fSet 3 (fCall m__law_once (fCons (fB dAdd (fVar 3) (fB dIx (fVar 7) (fC (.int 1)))) fNil))) [s0, .fz (.lst (drl dr 0 13)), .ow (rows9 (I ++ [y])), .fz (.lst (nam9 I)), .fz (.int (sumC I : Nat)), .fz (.int (sumA I : Nat)), .fz (.int k), .fz (pd9 y), s8, s9] = .nx [s0, .fz (.lst (drl dr 0 13)), .ow (rows9 (I ++ [y])), .fz (.lst (nam9 (I ++ [y]))), .fz (.int (sumC I : Nat)), .fz (.int (sumA I : Nat)), .fz (.int k), .fz (pd9 y), s8, s9] := by
      have on := once_ok (xs := once (I.flatMap X9.ns) ++ y.ns) (by rw [List.length_append]; unfold once; rw [List.length_nil] at ol; omega)
      rw [once_once, show I.flatMap X9.ns ++ y.ns = (I ++ [y]).flatMap X9.ns by rw [List.flatMap_append, List.flatMap_cons, List.flatMap_nil, List.append_nil], List.map_append] at on
      refine v_Set (v_Call (v_Cons (v_B rfl (v_B rfl rfl rfl) (dAdd_ll (okLe_by ?_))) v_Nil) on) rfl
      rw [List.length_map, List.length_map]
      unfold once
      rw [List.length_nil] at ol
      omega
    have b2 : (fSet 4 (fB dAdd (fVar 4) (fB dIx (fVar 7) (fC (.int 2))))) [s0, .fz (.lst (drl dr 0 13)), .ow (rows9 (I ++ [y])), .fz (.lst (nam9 (I ++ [y]))), .fz (.int (sumC I : Nat)), .fz (.int (sumA I : Nat)), .fz (.int k), .fz (pd9 y), s8, s9] = .nx [s0, .fz (.lst (drl dr 0 13)), .ow (rows9 (I ++ [y])), .fz (.lst (nam9 (I ++ [y]))), .fz (.int (sumC (I ++ [y]) : Nat)), .fz (.int (sumA I : Nat)), .fz (.int k), .fz (pd9 y), s8, s9] := by
      rw [sumC_app, Int.natCast_add]
      exact v_Set (v_B rfl (v_B rfl rfl rfl) dAdd_ii) rfl
    have b3 : (fSet 5 (fB dAdd (fVar 5) (fB dIx (fVar 7) (fC (.int 3))))) [s0, .fz (.lst (drl dr 0 13)), .ow (rows9 (I ++ [y])), .fz (.lst (nam9 (I ++ [y]))), .fz (.int (sumC (I ++ [y]) : Nat)), .fz (.int (sumA I : Nat)), .fz (.int k), .fz (pd9 y), s8, s9] = .nx (L9 s0 dr (I ++ [y]) (.fz (.int k)) (.fz (pd9 y)) s8 s9) := by
      unfold L9
      rw [sumA_app, Int.natCast_add]
      exact v_Set (v_B rfl (v_B rfl rfl rfl) dAdd_ii) rfl
    refine ⟨I ++ [y], _, ⟨by rw [List.length_append, List.length_singleton]; omega, fun i hi => ?_, by rw [sumA_app]; exact ya, by rw [sumC_app]; omega, fun _ => by simp⟩, v_Seq a0 (v_thn_nx (v_Seq a1 (v_thn_nx (v_IfS t2 (v_Seq b0 (v_thn_nx (v_Seq b1 (v_thn_nx (v_Seq b2 (v_thn_nx b3))))))))))⟩
    rcases List.mem_append.mp hi with hi | hi
    · exact h.ok i hi
    · rw [List.mem_singleton.mp hi]; exact hy
theorem loop9 (hd : DrF dr) : ∀ (m k : Nat) (I : List X9) (s6 s7 : DS), k + m ≤ 12 → I9 I k → ∃ J s6' s7', I9 J (k + m) ∧ loopF (pName 6) l1_law (dInts k m) (L9 s0 dr I s6 s7 s8 s9) = .nx (L9 s0 dr J s6' s7' s8 s9)
  | 0, k, I, s6, s7, _, h => ⟨I, s6, s7, h, rfl⟩
  | m + 1, k, I, s6, s7, hm, h => by
    obtain ⟨J, t7, hJ, e⟩ := st9 (s0 := s0) (s7 := s7) (s8 := s8) (s9 := s9) hd h (by omega)
    obtain ⟨J', t6', t7', hJ', e'⟩ := loop9 hd m (k + 1) J (.fz (.int k)) t7 (by omega) hJ
    refine ⟨J', t6', t7', by rw [show k + (m + 1) = k + 1 + m by omega]; exact hJ', ?_⟩
    rw [dI_c9, loopF_nx rfl e]
    exact e'
end
abbrev V9 (s0 : DS) (dr : Nat → Int) (I : List X9) (s6 s7 s8 s9 : DS) : DSt := [s0, .fz (.lst (drl dr 0 13)), .fz (.lst (rows9 I)), .fz (.lst (nam9 I)), .fz (.int (sumC I : Nat)), .fz (.int (sumA I : Nat)), s6, s7, s8, s9]
theorem law_true (ns : List Int) (hn : ns.length ≤ 63) : m_law [.scr (ns.map .int)] = .ok (.bl true) := by
  obtain ⟨dr, hd, dw⟩ := draws_fn ns hn 13 (by omega)
  have dw : m__law_draws [.scr (ns.map .int), .int 13] = .ok (.lst (drl dr 0 13)) := dw
  have d0 := hd 0
  have a0 : L2.atI (drl dr 0 13) 0 = some (.int (dr 0)) := drl_at (a := 0) (by omega) (by omega)
  obtain ⟨m, hm⟩ := Int.eq_ofNat_of_zero_le (show 0 ≤ 1 + dr 0 % 12 by omega)
  have k0 : (fSet 1 (fCall m__law_draws (fCons (fVar 0) (fCons (fC (.int 13)) fNil)))) [.fz (.scr (ns.map .int)), .un, .un, .un, .un, .un, .un, .un, .un, .un] = .nx [.fz (.scr (ns.map .int)), .fz (.lst (drl dr 0 13)), .un, .un, .un, .un, .un, .un, .un, .un] := v_Set (v_Call (v_Cons rfl (v_Cons rfl v_Nil)) dw) rfl
  obtain ⟨I, t6, t7, hI, lp⟩ := loop9 (s0 := .fz (.scr (ns.map .int))) (s8 := .un) (s9 := .un) hd m 0 [] .un .un (by omega) ⟨Nat.le_refl _, fun i hi => (by cases hi), Nat.zero_le _, Nat.zero_le _, fun z => absurd z (by omega)⟩
  have v : V9K I := ⟨hI.ne (by omega), by have := hI.le; omega, hI.ok, hI.ar, hI.ct⟩
  obtain ⟨n, q⟩ := R9K_ok v
  have rt := right9 v q
  have rd := q.read
  have fn := f_names9 q
  rw [R9K_names v] at fn
  have fr := f_rows9 (r := R9K I) (n := n)
  rw [R9K_tx v] at fr
  have pn := p_names (nb := n) q.wf (by have := q.dep; omega) (by have := q.cnt; omega)
  rw [R9K_names v] at pn
  have pr := p_rows (r := R9K I) (nb := n)
  rw [R9K_tx v] at pr
  have rg : (fRange (fCons (fB dAdd (fC (.int 1)) (fB dMod (fL dIntS (fCons (fB dIx (fVar 1) (fC (.int 0))) fNil)) (fC (.int 12)))) fNil)) (L9 (.fz (.scr (ns.map .int))) dr [] .un .un .un .un) = .ok (dInts ((0 : Nat) : Int) m) := by
    refine v_Range (v_Cons (v_B rfl (v_B (v_L (v_Cons (v_B rfl rfl (w_ixl a0)) v_Nil) dIntS_i) rfl (dMod_ii (by decide))) dAdd_ii) v_Nil) ?_
    rw [hm]
    exact w_range1 (small62_by (by omega))
  have k5 : (fFor (fRange (fCons (fB dAdd (fC (.int 1)) (fB dMod (fL dIntS (fCons (fB dIx (fVar 1) (fC (.int 0))) fNil)) (fC (.int 12)))) fNil)) (pName 6) l1_law) (L9 (.fz (.scr (ns.map .int))) dr [] .un .un .un .un) = .nx (L9 (.fz (.scr (ns.map .int))) dr I t6 t7 .un .un) := v_For rg lp
  have k6 : (fFrz 2 (fSeq (fSet 8 (fCall (fun ds => m_Program_read (.fn "Program" :: ds)) (fCons (fJoin (fC (.str "; ")) (fVar 2)) fNil))) (fSeq (fIfS (fOrB (fNotB (fTest (fU (dIsi "list") (fProp "Program" m_Program_names (fVar 8))))) (fNotB (fTest (fU (dIsi "list") (fProp "Program" m_Program_row_texts (fVar 8)))))) (fRet (fC (.bl false))) fSkip) (fSeq (fIfS (fNotB (fTest (fCall m__law_right (fCons (fVar 8) (fCons (fVar 2) (fCons (fVar 3) (fCons (fVar 4) fNil))))))) (fRet (fC (.bl false))) fSkip) (fSeq (fNew 9 (fPropF "Program" mF_Program_names (fVar 8))) (fSeq (fApp 9 (fC (.str "zz"))) (fSeq (fNew 9 (fPropF "Program" mF_Program_row_texts (fVar 8))) (fSeq (fClear 9) (fRet (fCall m__law_right (fCons (fVar 8) (fCons (fVar 2) (fCons (fVar 3) (fCons (fVar 4) fNil)))))))))))))) (L9 (.fz (.scr (ns.map .int))) dr I t6 t7 .un .un) = .rt (.bl true) (V9 (.fz (.scr (ns.map .int))) dr I t6 t7 (.fz (P9 I n)) (.ow [])) := by
    have c0 : (fSet 8 (fCall (fun ds => m_Program_read (.fn "Program" :: ds)) (fCons (fJoin (fC (.str "; ")) (fVar 2)) fNil))) (V9 (.fz (.scr (ns.map .int))) dr I t6 t7 .un .un) = .nx (V9 (.fz (.scr (ns.map .int))) dr I t6 t7 (.fz (P9 I n)) .un) := v_Set (v_Call (v_Cons (join9 v rfl) v_Nil) rd) rfl
    have p8 : fVar 8 (V9 (.fz (.scr (ns.map .int))) dr I t6 t7 (.fz (P9 I n)) .un) = R.ok ((R9K I).obj n) := rfl
    have c1 : (fIfS (fOrB (fNotB (fTest (fU (dIsi "list") (fProp "Program" m_Program_names (fVar 8))))) (fNotB (fTest (fU (dIsi "list") (fProp "Program" m_Program_row_texts (fVar 8)))))) (fRet (fC (.bl false))) fSkip) (V9 (.fz (.scr (ns.map .int))) dr I t6 t7 (.fz (P9 I n)) .un) = .nx (V9 (.fz (.scr (ns.map .int))) dr I t6 t7 (.fz (P9 I n)) .un) := by
      have t1 : (fNotB (fTest (fU (dIsi "list") (fProp "Program" m_Program_names (fVar 8))))) (V9 (.fz (.scr (ns.map .int))) dr I t6 t7 (.fz (P9 I n)) .un) = .ok false := v_NotB (v_Test (v_U (v_Prop p8 pn) dIsi_l))
      have t2 : (fNotB (fTest (fU (dIsi "list") (fProp "Program" m_Program_row_texts (fVar 8))))) (V9 (.fz (.scr (ns.map .int))) dr I t6 t7 (.fz (P9 I n)) .un) = .ok false := v_NotB (v_Test (v_U (v_Prop p8 pr) dIsi_l))
      exact v_IfS (b := false) (v_Or t1 fun _ => t2) v_Skip
    have c2 : (fIfS (fNotB (fTest (fCall m__law_right (fCons (fVar 8) (fCons (fVar 2) (fCons (fVar 3) (fCons (fVar 4) fNil))))))) (fRet (fC (.bl false))) fSkip) (V9 (.fz (.scr (ns.map .int))) dr I t6 t7 (.fz (P9 I n)) .un) = .nx (V9 (.fz (.scr (ns.map .int))) dr I t6 t7 (.fz (P9 I n)) .un) := by
      have t1 : (fNotB (fTest (fCall m__law_right (fCons (fVar 8) (fCons (fVar 2) (fCons (fVar 3) (fCons (fVar 4) fNil))))))) (V9 (.fz (.scr (ns.map .int))) dr I t6 t7 (.fz (P9 I n)) .un) = .ok false := v_NotB (v_Test (v_Call (v_Cons rfl (v_Cons rfl (v_Cons rfl (v_Cons rfl v_Nil)))) rt))
      exact v_IfS t1 v_Skip
    have c3 : (fNew 9 (fPropF "Program" mF_Program_names (fVar 8))) (V9 (.fz (.scr (ns.map .int))) dr I t6 t7 (.fz (P9 I n)) .un) = .nx (V9 (.fz (.scr (ns.map .int))) dr I t6 t7 (.fz (P9 I n)) (.ow (nam9 I))) := v_New (v_PropF p8 fn) rfl
    have ol := onceA_len (I.flatMap X9.ns) []
    have nl := nsum_len I hI.ok
    have hl := hI.le
    have c4 : (fApp 9 (fC (.str "zz"))) (V9 (.fz (.scr (ns.map .int))) dr I t6 t7 (.fz (P9 I n)) (.ow (nam9 I))) = .nx (V9 (.fz (.scr (ns.map .int))) dr I t6 t7 (.fz (P9 I n)) (.ow (nam9 I ++ [.str "zz"]))) := v_App rfl rfl (okLt_by (by rw [List.length_map]; unfold once; rw [List.length_nil] at ol; omega)) rfl
    have p8' : fVar 8 (V9 (.fz (.scr (ns.map .int))) dr I t6 t7 (.fz (P9 I n)) (.ow (nam9 I ++ [.str "zz"]))) = R.ok ((R9K I).obj n) := rfl
    have c5 : (fNew 9 (fPropF "Program" mF_Program_row_texts (fVar 8))) (V9 (.fz (.scr (ns.map .int))) dr I t6 t7 (.fz (P9 I n)) (.ow (nam9 I ++ [.str "zz"]))) = .nx (V9 (.fz (.scr (ns.map .int))) dr I t6 t7 (.fz (P9 I n)) (.ow (rows9 I))) := v_New (v_PropF p8' fr) rfl
    have c6 : (fClear 9) (V9 (.fz (.scr (ns.map .int))) dr I t6 t7 (.fz (P9 I n)) (.ow (rows9 I))) = .nx (V9 (.fz (.scr (ns.map .int))) dr I t6 t7 (.fz (P9 I n)) (.ow [])) := v_Clear rfl
    have c7 : (fRet (fCall m__law_right (fCons (fVar 8) (fCons (fVar 2) (fCons (fVar 3) (fCons (fVar 4) fNil)))))) (V9 (.fz (.scr (ns.map .int))) dr I t6 t7 (.fz (P9 I n)) (.ow [])) = .rt (.bl true) (V9 (.fz (.scr (ns.map .int))) dr I t6 t7 (.fz (P9 I n)) (.ow [])) := v_Ret (v_Call (v_Cons rfl (v_Cons rfl (v_Cons rfl (v_Cons rfl v_Nil)))) rt)
    exact v_Frz (δ' := V9 (.fz (.scr (ns.map .int))) dr I t6 t7 .un .un) rfl rfl (v_Seq c0 (v_thn_nx (v_Seq c1 (v_thn_nx (v_Seq c2 (v_thn_nx (v_Seq c3 (v_thn_nx (v_Seq c4 (v_thn_nx (v_Seq c5 (v_thn_nx (v_Seq c6 (v_thn_nx c7))))))))))))))
  have s1 : (fNew 2 fNil) [.fz (.scr (ns.map .int)), .fz (.lst (drl dr 0 13)), .un, .un, .un, .un, .un, .un, .un, .un] = .nx [.fz (.scr (ns.map .int)), .fz (.lst (drl dr 0 13)), .ow [], .un, .un, .un, .un, .un, .un, .un] := rfl
  have s2 : (fSet 3 (fLst fNil)) [.fz (.scr (ns.map .int)), .fz (.lst (drl dr 0 13)), .ow [], .un, .un, .un, .un, .un, .un, .un] = .nx [.fz (.scr (ns.map .int)), .fz (.lst (drl dr 0 13)), .ow [], .fz (.lst []), .un, .un, .un, .un, .un, .un] := rfl
  have s3 : (fSet 4 (fC (.int 0))) [.fz (.scr (ns.map .int)), .fz (.lst (drl dr 0 13)), .ow [], .fz (.lst []), .un, .un, .un, .un, .un, .un] = .nx [.fz (.scr (ns.map .int)), .fz (.lst (drl dr 0 13)), .ow [], .fz (.lst []), .fz (.int 0), .un, .un, .un, .un, .un] := rfl
  have s4 : (fSet 5 (fC (.int 0))) [.fz (.scr (ns.map .int)), .fz (.lst (drl dr 0 13)), .ow [], .fz (.lst []), .fz (.int 0), .un, .un, .un, .un, .un] = .nx (L9 (.fz (.scr (ns.map .int))) dr [] .un .un .un .un) := rfl
  exact (congrArg O.fin (show b_law [.fz (.scr (ns.map .int)), .un, .un, .un, .un, .un, .un, .un, .un, .un] = _ from v_Seq k0 (v_thn_nx (v_Seq s1 (v_thn_nx (v_Seq s2 (v_thn_nx (v_Seq s3 (v_thn_nx (v_Seq s4 (v_thn_nx (v_Seq k5 (v_thn_nx k6))))))))))))).trans rfl
end LW
end
namespace LW
open PySem PySem.Spec PyProof.Rows L2 DL
theorem facts {w : World} {K : PySem.W.Frag} {h : Heap} {mg : Str → Option Value} {f : Addr} (X : K.In h) (TF : TabF K h) (G : h.Ns mainGlobals mg) (hfa : mg ("law" : Str) = some (.ref f)) (c : obsX fa fx fn fy K = valX fn fy) :
    ∃ (K : PySem.W.Frag) (fd : FuncData) (sp : Sp), K.In h ∧ TabF K h ∧ (∀ (s : Shared) (u : Value), BindsTo s fd ⟨[u], []⟩ [(("_law_script" : Str), u)]) ∧
      (∀ (H : Hp) (a : Addr) (ns : List Int), ns.length ≤ 63 → (∀ p ∈ tabsK K, H p.2 = some (.tbl #[])) → SqL K H a (ns.map V.int) → sp [.ref a] H (fun v _ => v = .bl true) fun _ _ _ => False) ∧
      ∀ base : Heap, K.In base → base.Ns mainGlobals mg → (∀ p ∈ tabsK K, LamX.TabB base mg p.1 p.2) → FnOk PySem.Challenge.pw_unlookedlists_k09_rows_and_names w K mg base (L2.CX PySem.Challenge.pw_unlookedlists_k09_rows_and_names w) 71 f fd ["_law_script"] sp := by
  obtain ⟨fd, hb, hF⟩ := ok_law (w := w) c ⟨h, X, G⟩
  have e := hfa.symm.trans (glo_of c ⟨h, X, G⟩ 0)
  cases e
  exact ⟨K, fd, _, X, TF, hb, fun H a ns hl hO hS => law_sp (m := 63) law_true H hO a ns hl hS, fun base _ _ tb => hF base tb⟩
end LW
theorem PySem.Challenge.cw_unlookedlists_k09_rows_and_names_holds : PySem.Challenge.rw_unlookedlists_k09_rows_and_names.Holds :=
  LW.early LW.facts
