import PyProof.Rows.All
import Wide.All
import OpenK.AllK
import Wide.FinOn
import HandS.ForMost
import HandS.Exc
import HandS.TryOnly
import HandS.ExcOwn
import HandS.WordsExc
import HandS.HeadHook1
import HandS.Slots
import HandS.Wide
import HandS.IsInst
import HandS.RaiseMore
import HandS.TupAny
import HandS.Defaults
import HandS.Star
import HandS.Style
import HandS.Head0
import HandS.Head1
import HandS.Head2
import HandS.Head3
import HandS.HeadEnd
import HandS.HeadHook2
import HandS.Property
import HandS.ClsMeth
import HandS.CallRecv
import HandS.SlotsOwn
import HandS.Gcd
import HandS.MakeKwOnly
import KE.KMathG
import HandS.Iter
import HandS.Conv
import KE.KRevSl
import HandS.SetKeys
import HandS.ExcInit
import HandS.ExcSuper
import HandS.Nested
import KE.KExcSuper
import HandS.More
import HandS.OwnIter
import HandS.TryMany
import HandS.ExcField
import KE.KExcIs
import PySem.Challenge.RW_unlookedlists_k04_missing_name_first
set_option Elab.async false
set_option linter.all false
set_option maxRecDepth 100000
set_option maxHeartbeats 4000000

/-! DData: the data of the mirrors (D), what a mirror gives (R), the slots of a mirror's frame (DS), the mirrors' own operations. Plain Lean. -/
namespace DL
open PySem

abbrev Ky : Type := Int ⊕ Str
/-- a value as data: lists and tuples by their items; scr: a list that is read alone (the script); obj: an instance of the class c by its fields; fn: the def f of the text; dic: a dict with keys that are ints or texts -/
inductive D where
  | non | bl (b : Bool) | int (i : Int) | str (x : Str)
  | tup (xs : List D) | lst (xs : List D) | scr (xs : List D)
  | obj (c : Str) (xs : List D) | fn (f : Str) | dic (ks : List Ky) (xs : List D)

/-- what a mirror gives: a value, an own error (its class, its fields), or nothing is said -/
inductive R (α : Type) where
  | ok (a : α) | exc (n : Str) (xs : List D) | bad
def R.bind {α β : Type} (r : R α) (f : α → R β) : R β := match r with
  | .ok a => f a
  | .exc n xs => .exc n xs
  | .bad => .bad
@[simp] theorem R.bind_ok {α β : Type} (a : α) (f : α → R β) : (R.ok a).bind f = f a := rfl
@[simp] theorem R.bind_exc {α β : Type} (n : Str) (xs : List D) (f : α → R β) : (R.exc n xs).bind f = .exc n xs := rfl
@[simp] theorem R.bind_bad {α β : Type} (f : α → R β) : (R.bad : R α).bind f = .bad := rfl

/-- a slot of a frame: nothing known; a value that is not changed any more; a list of the frame's own that it may change; an instance (its class, its fields) or a dict with text keys that it may change -/
inductive DS where
  | un | fz (d : D) | ow (xs : List D) | ob (c : Str) (fs : List (Str × D)) | od (ks : List Ky) (xs : List D)
def DS.mutb : DS → Bool
  | .un => false
  | .fz _ => false
  | _ => true
abbrev DSt := List DS
abbrev FE := DSt → R D
abbrev FL := DSt → R (List D)
abbrev FB := DSt → R Bool

/-! ### expressions -/
def fVar (i : Nat) : FE := fun δ => match δ[i]? with
  | some (.fz d) => .ok d
  | _ => .bad
def fC (d : D) : FE := fun _ => .ok d
def R.of {α : Type} (o : Option α) : R α := match o with
  | some a => .ok a
  | none => .bad
@[simp] theorem R.of_some {α : Type} (a : α) : R.of (some a) = .ok a := rfl
@[simp] theorem R.of_none {α : Type} : R.of (none : Option α) = .bad := rfl
def fU (F : D → Option D) (f : FE) : FE := fun δ => (f δ).bind fun x => R.of (F x)
def fB (F : D → D → Option D) (f g : FE) : FE := fun δ => (f δ).bind fun x => (g δ).bind fun y => R.of (F x y)
def fNil : FL := fun _ => .ok []
def fCons (f : FE) (fl : FL) : FL := fun δ => (f δ).bind fun x => (fl δ).bind fun xs => .ok (x :: xs)
/-- a call of what never raises; of a def -/
def fL (F : List D → Option D) (fl : FL) : FE := fun δ => (fl δ).bind fun xs => R.of (F xs)
def fCall (F : List D → R D) (fl : FL) : FE := fun δ => (fl δ).bind F
def fTup (fl : FL) : FE := fL (fun xs => some (.tup xs)) fl
def fLst (fl : FL) : FE := fL (fun xs => some (.lst xs)) fl
def fIf (c : FB) (f g : FE) : FE := fun δ => (c δ).bind fun b => match b with
  | true => f δ
  | false => g δ
/-! tests -/
def fTest (f : FE) : FB := fun δ => (f δ).bind fun d => match d with
  | .bl b => .ok b
  | _ => .bad
def fTru (f : FE) : FB := fun δ => (f δ).bind fun d => match d with
  | .bl b => .ok b
  | .lst xs => .ok (!xs.isEmpty)
  | .tup xs => .ok (!xs.isEmpty)
  | _ => .bad
def fNotB (c : FB) : FB := fun δ => (c δ).bind fun b => .ok (!b)
def fAndB (c d : FB) : FB := fun δ => (c δ).bind fun b => match b with
  | true => d δ
  | false => .ok false
def fOrB (c d : FB) : FB := fun δ => (c δ).bind fun b => match b with
  | true => .ok true
  | false => d δ
/-- a test as a value -/
def fVal (c : FB) : FE := fun δ => (c δ).bind fun b => .ok (.bl b)

/-! ### operators -/
/-- within the line of sizes -/
def okLe (n : Nat) : Bool := decide (n ≤ sizeLine)
def okLt (n : Nat) : Bool := decide (n < sizeLine)
theorem okLe_of {n : Nat} (h : okLe n = true) : n ≤ sizeLine := of_decide_eq_true h
theorem okLt_of {n : Nat} (h : okLt n = true) : n < sizeLine := of_decide_eq_true h
theorem okLe_by {n : Nat} (h : n ≤ 16777216) : okLe n = true := decide_eq_true (by rw [sizeLine_eq]; exact h)
theorem okLt_by {n : Nat} (h : n < 16777216) : okLt n = true := decide_eq_true (by rw [sizeLine_eq]; exact h)
/-- within 2 ^ k -/
def lim (k : Nat) (i : Int) : Bool := Nat.blt i.natAbs (2 ^ k)
def mulOk (i j : Int) : Bool := lim 64 i || lim 64 j || (lim 400 i && lim 400 j)
def repOk (n : Nat) (k : Int) : Bool := lim 63 k && okLe (n * k.toNat)
def dAdd : D → D → Option D
  | .int i, .int j => some (.int (i + j))
  | .str x, .str y => if okLe (x.length + y.length) = true then some (.str (x ++ y)) else none
  | .lst xs, .lst ys => if okLe (xs.length + ys.length) = true then some (.lst (xs ++ ys)) else none
  | .tup (x :: xs), .tup ys => if okLe ((x :: xs).length + ys.length) = true then some (.tup (x :: xs ++ ys)) else none
  | _, _ => none
def dSub : D → D → Option D
  | .int i, .int j => some (.int (i - j))
  | _, _ => none
def dMul : D → D → Option D
  | .int i, .int j => if mulOk i j = true then some (.int (i * j)) else none
  | .lst xs, .int k => if repOk xs.length k = true then some (.lst (List.replicate k.toNat xs).flatten) else none
  | _, _ => none
def divOk (j : Int) : Bool := decide (0 < j) && lim 400 j
def dFdiv : D → D → Option D
  | .int i, .int j => if divOk j = true then some (.int (i / j)) else none
  | _, _ => none
def dMod : D → D → Option D
  | .int i, .int j => if 0 < j then some (.int (i % j)) else none
  | _, _ => none
def powOk (i j : Int) : Bool := decide (0 ≤ j ∧ j ≤ 1000000 ∧ i.natAbs < 2 ^ 64)
theorem powOk_of {i j : Int} (h : powOk i j = true) : 0 ≤ j ∧ j ≤ 1000000 ∧ i.natAbs < 2 ^ 64 := of_decide_eq_true h
def dPow : D → D → Option D
  | .int i, .int j => if powOk i j = true then some (.int (i ^ j.toNat)) else none
  | _, _ => none
def dNeg : D → Option D
  | .int i => some (.int (-i))
  | _ => none
def dLt : D → D → Option D
  | .int i, .int j => some (.bl (decide (i < j)))
  | _, _ => none
def dLe : D → D → Option D
  | .int i, .int j => some (.bl (decide (i ≤ j)))
  | _, _ => none
def dGt : D → D → Option D
  | .int i, .int j => some (.bl (decide (j < i)))
  | _, _ => none
def dGe : D → D → Option D
  | .int i, .int j => some (.bl (decide (j ≤ i)))
  | _, _ => none
def D.isNon : D → Bool
  | .non => true
  | _ => false
def dIsN : D → Option D := fun d => some (.bl d.isNon)
def dNotN : D → Option D := fun d => some (.bl (!d.isNon))

/-! data that == reads: none, bools, ints, texts, lists, tuples -/
mutual
def D.py : D → Option PyData
  | .non => some .none
  | .bl b => some (.bool b)
  | .int i => some (.int i)
  | .str x => some (.str x)
  | .tup xs => (pyL xs).map .tuple
  | .lst xs => (pyL xs).map .list
  | _ => none
def pyL : List D → Option (List PyData)
  | [] => some []
  | d :: ds => match d.py, pyL ds with
    | some a, some as => some (a :: as)
    | _, _ => none
end
def dEqP (d e : D) : Option Bool := match d.py, e.py with
  | some a, some b => if (SeqAt.shaped a && SeqAt.shaped b) = true then some (PyData.eqv a b) else none
  | _, _ => none
def dEqB (d e : D) : Option Bool := match d, e with
  | .str x, .str y => some (x == y)
  | .int i, .int j => some (i == j)
  | d, e => dEqP d e
def dEq (d e : D) : Option D := (dEqB d e).map .bl
def dNe (d e : D) : Option D := (dEqB d e).map fun b => .bl (!b)
/-! in -/
def D.flat : D → Bool
  | .non => true
  | .bl _ => true
  | .int _ => true
  | .str _ => true
  | _ => false
def flatEq : D → D → Bool
  | .non, .non => true
  | .bl a, .bl b => a == b
  | .bl a, .int b => (if a then 1 else 0) == b
  | .int a, .bl b => a == (if b then 1 else 0)
  | .int a, .int b => a == b
  | .str a, .str b => a == b
  | _, _ => false
def inB (x : D) (xs : List D) : Bool := xs.any fun y => flatEq y x
def kIn (k : Ky) : List Ky → Bool
  | [] => false
  | x :: ks => if x = k then true else kIn k ks
def kGet : List Ky → List D → Ky → Option D
  | x :: ks, d :: ds, k => if x = k then some d else kGet ks ds k
  | _, _, _ => none
/-- a key -/
def D.key : D → Option Ky
  | .int i => some (.inl i)
  | .str x => some (.inr x)
  | _ => none
def dInB : D → D → Option Bool
  | x, .tup xs => if (x.flat && xs.all D.flat) = true then some (inB x xs) else none
  | x, .lst xs => if (x.flat && xs.all D.flat) = true then some (inB x xs) else none
  | .str x, .str y => some (!(Builtin.Str.occurrences y x 0 y.length 1).isEmpty)
  | x, .dic ks _ => x.key.map fun k => kIn k ks
  | _, _ => none
def dIn (x y : D) : Option D := (dInB x y).map .bl
def dNotIn (x y : D) : Option D := (dInB x y).map fun b => .bl (!b)

/-! ### items, slices -/
/-- a place from the front or the back -/
def dIx : D → D → Option D
  | .lst xs, .int i => L2.atI xs i
  | .tup xs, .int i => L2.atI xs i
  | .scr xs, .int i => L2.atI xs i
  | .str z, .int i => if okLe z.length = true then (L2.atI z.cps.toList i).map fun c => .str ⟨#[c]⟩ else none
  | .dic ks xs, k => k.key.bind fun k => kGet ks xs k
  | _, _ => none
/-- xs[lo:hi] -/
def cut {α : Type} (xs : List α) (lo hi : Option Int) : List α := (xs.drop (HT.sIx xs.length 0 lo)).take (HT.sIx xs.length xs.length hi - HT.sIx xs.length 0 lo)
def dLen : List D → Option D
  | [.lst xs] => some (.int xs.length)
  | [.tup xs] => some (.int xs.length)
  | [.scr xs] => some (.int xs.length)
  | [.str z] => if okLe z.length = true then some (.int z.length) else none
  | [.dic ks _] => some (.int ks.length)
  | _ => none
def dAbs : List D → Option D
  | [.int i] => some (.int (if i < 0 then -i else i))
  | _ => none
def dMax2 : List D → Option D
  | [.int i, .int j] => some (.int (if j > i then j else i))
  | _ => none
def dMin2 : List D → Option D
  | [.int i, .int j] => some (.int (if j < i then j else i))
  | _ => none
def dInt : List D → Option D
  | [.int i] => some (.int i)
  | _ => none
def dStr : List D → Option D
  | [.int i] => if i.natAbs.log2 < 1920 then some (.str (toString i)) else none
  | [.str x] => some (.str x)
  | _ => none
def dList : List D → Option D
  | [.lst xs] => some (.lst xs)
  | [.tup xs] => some (.lst xs)
  | _ => none
def dTuple : List D → Option D
  | [.lst xs] => some (.tup xs)
  | [.tup xs] => some (.tup xs)
  | _ => none
end DL

/-! DRep: how a heap bears the data of the mirrors; the state of a frame. -/
namespace DL
open PySem PySem.Spec PyProof.Rows L2

/-- the fields of the own classes, in the order in which __init__ stores them -/
def flds : Str → List Str := fun c =>
  if c = "Program" then ["_numbers", "_parts", "_texts"]
  else if c = "Undoer" then ["program"]
  else if c = "Forms" then ["program", "start", "modulus", "period"]
  else if c = "Reader" then ["tokens", "at", "depth"]
  else []
/-- the classes with __slots__ -/
def slotted (c : Str) : Bool := decide (c = "Numbers") || decide (c = "Piece")
/-- where the parameters of a class with __slots__ are stored (the slots stand by their names' order) -/
def ordS (c : Str) : List Nat := if c = "Numbers" then [6, 0, 5, 7, 3, 1, 2, 4] else [0, 1, 2, 3, 4, 5]
def stS : List Nat → List V → List (Option V) → List (Option V)
  | i :: is, v :: vs, ms => stS is vs (SlX.putS i v ms)
  | _, _, ms => ms
theorem ordS_nd (c : Str) : (ordS c).Nodup := by
  unfold ordS
  split <;> decide
theorem stS_keep : ∀ {is : List Nat} {vs : List V} {ms : List (Option V)} {i : Nat} {v : V}, i ∉ is → ms[i]? = some (some v) → (stS is vs ms)[i]? = some (some v)
  | [], _, _, _, _, _, h => by unfold stS; exact h
  | _ :: _, [], _, _, _, _, h => by unfold stS; exact h
  | j :: is, w :: vs, ms, i, v, n, h => by
    unfold stS
    exact stS_keep (fun z => n (List.mem_cons_of_mem _ z)) ((SlX.putS_ne (fun z => n (by rw [z]; exact List.mem_cons_self))).mpr h)
theorem stS_get : ∀ {is : List Nat} {vs : List V} {ms : List (Option V)} {j i : Nat} {v : V}, is.Nodup → is[j]? = some i → vs[j]? = some v → (stS is vs ms)[i]? = some (some v)
  | [], _, _, _, _, _, _, h, _ => by simp at h
  | _ :: _, [], _, _, _, _, _, _, h => by simp at h
  | i' :: is, w :: vs, ms, 0, i, v, n, h, q => by
    simp at h q
    subst h q
    unfold stS
    exact stS_keep (List.nodup_cons.mp n).1 (SlX.putS_get i' w ms)
  | i' :: is, w :: vs, ms, j + 1, i, v, n, h, q => by
    unfold stS
    exact stS_get (List.nodup_cons.mp n).2 (by simpa using h) (by simpa using q)
theorem stS_snoc : ∀ {is : List Nat} {vs : List V} {ms : List (Option V)} {i : Nat} {v : V}, is.length = vs.length → stS (is ++ [i]) (vs ++ [v]) ms = SlX.putS i v (stS is vs ms)
  | [], [], _, _, _, _ => rfl
  | [], _ :: _, _, _, _, h => by cases h
  | _ :: _, [], _, _, _, h => by cases h
  | j :: is, w :: vs, ms, i, v, h => by
    show stS (is ++ [i]) (vs ++ [v]) (SlX.putS j w ms) = _
    rw [stS_snoc (Nat.succ.inj h)]
    rfl

def LitL (K : PySem.W.Frag) (a : Addr) (xs : List V) : Prop :=
  ∃ (o : Obj) (its : Array Value) (n : Nat), K.lookup a = some o ∧ o.cls = .type "list" ∧ o.dict = none ∧ o.data = .seq its n ∧ its.size ≤ sizeLine ∧ Vals xs its.toList
def LitT (K : PySem.W.Frag) (a : Addr) (xs : List V) : Prop :=
  ∃ (o : Obj) (its : Array Value) (n : Nat), K.lookup a = some o ∧ o.cls = .type "tuple" ∧ o.data = .seq its n ∧ its.size ≤ sizeLine ∧ Vals xs its.toList
def ObjAt (K : PySem.W.Frag) (S : Addr → Prop) (H : Hp) (a : Addr) (c : Str) (xs : List V) : Prop :=
  ¬ S a ∧ ∃ dx, (slotted c = true ∧ ¬ S dx ∧ H a = some (SlX.SlO a (He.ga K c) dx (stS (ordS c) xs [])) ∧ H dx = some (.xd [])) ∨ (slotted c = false ∧ xs.length = (flds c).length ∧ H a = some (.ins (He.ga K c) dx ((flds c).zip xs)))

mutual
/-- v stands for d; S: the addresses that may change -/
inductive Rep (K : PySem.W.Frag) (S : Addr → Prop) (H : Hp) : V → D → Prop
  | non : Rep K S H .non .non
  | bl (b : Bool) : Rep K S H (.bl b) (.bl b)
  | int (i : Int) : Rep K S H (.int i) (.int i)
  | str (x : Str) : Rep K S H (.str x) (.str x)
  | lst {a : Addr} {xs : List V} {ds : List D} : H a = some (.lst xs) → ¬ S a → RepL K S H xs ds → Rep K S H (.ref a) (.lst ds)
  | tup {a : Addr} {xs : List V} {ds : List D} : H a = some (.tup xs) → ¬ S a → RepL K S H xs ds → Rep K S H (.ref a) (.tup ds)
  | ltp {a : Addr} {xs : List V} {ds : List D} : LitT K a xs → RepL K S H xs ds → Rep K S H (.ref a) (.tup ds)
  | scr {a : Addr} {o : Obj} {xs : List V} {ds : List D} : H a = some (.frz o (.lst xs)) → ¬ S a → RepL K S H xs ds → Rep K S H (.ref a) (.scr ds)
  | scl {a : Addr} {xs : List V} {ds : List D} : LitL K a xs → RepL K S H xs ds → Rep K S H (.ref a) (.scr ds)
  | obj {a : Addr} {c : Str} {xs : List V} {ds : List D} : ObjAt K S H a c xs → RepL K S H xs ds → Rep K S H (.ref a) (.obj c ds)
  | fn (f : Str) : Rep K S H (.ref (He.ga K f)) (.fn f)
  | dic {a : Addr} {ks : List Ky} {xs : List V} {ds : List D} : H a = some (.dK (ks.zip xs)) → ¬ S a → ks.length = xs.length → ks.Nodup → RepL K S H xs ds → Rep K S H (.ref a) (.dic ks ds)
inductive RepL (K : PySem.W.Frag) (S : Addr → Prop) (H : Hp) : List V → List D → Prop
  | nil : RepL K S H [] []
  | cons {v : V} {vs : List V} {d : D} {ds : List D} : Rep K S H v d → RepL K S H vs ds → RepL K S H (v :: vs) (d :: ds)
end

section
variable {K : PySem.W.Frag} {S S' : Addr → Prop} {H H' : Hp}
/- the master: what is kept off S, and what S may become -/
mutual
theorem Rep.to (k : ∀ b o, H b = some o → ¬ S b → H' b = some o) (g : ∀ b o, H b = some o → ¬ S b → ¬ S' b) : ∀ {v : V} {d : D}, Rep K S H v d → Rep K S' H' v d
  | _, _, .non => .non
  | _, _, .bl b => .bl b
  | _, _, .int i => .int i
  | _, _, .str x => .str x
  | _, _, .lst h n r => .lst (k _ _ h n) (g _ _ h n) (RepL.to k g r)
  | _, _, .tup h n r => .tup (k _ _ h n) (g _ _ h n) (RepL.to k g r)
  | _, _, .ltp h r => .ltp h (RepL.to k g r)
  | _, _, .scr h n r => .scr (k _ _ h n) (g _ _ h n) (RepL.to k g r)
  | _, _, .scl h r => .scl h (RepL.to k g r)
  | _, _, .obj h r => .obj (by
      obtain ⟨n, dx, h⟩ := h
      rcases h with ⟨e, nd, h, q⟩ | ⟨e, l, h⟩
      · exact ⟨g _ _ h n, dx, .inl ⟨e, g _ _ q nd, k _ _ h n, k _ _ q nd⟩⟩
      · exact ⟨g _ _ h n, dx, .inr ⟨e, l, k _ _ h n⟩⟩) (RepL.to k g r)
  | _, _, .fn f => .fn f
  | _, _, .dic h n l nd r => .dic (k _ _ h n) (g _ _ h n) l nd (RepL.to k g r)
theorem RepL.to (k : ∀ b o, H b = some o → ¬ S b → H' b = some o) (g : ∀ b o, H b = some o → ¬ S b → ¬ S' b) : ∀ {vs : List V} {ds : List D}, RepL K S H vs ds → RepL K S' H' vs ds
  | _, _, .nil => .nil
  | _, _, .cons h r => .cons (Rep.to k g h) (RepL.to k g r)
end
theorem Rep.mono (e : Same H H') {v : V} {d : D} (h : Rep K S H v d) : Rep K S H' v d := h.to (fun b o q _ => e b o q) fun _ _ _ n => n
theorem RepL.mono (e : Same H H') {vs : List V} {ds : List D} (h : RepL K S H vs ds) : RepL K S H' vs ds := h.to (fun b o q _ => e b o q) fun _ _ _ n => n
theorem Rep.less (e : ∀ b, S' b → S b) {v : V} {d : D} (h : Rep K S H v d) : Rep K S' H v d := h.to (fun _ _ q _ => q) fun b _ _ n z => n (e b z)
theorem RepL.less (e : ∀ b, S' b → S b) {vs : List V} {ds : List D} (h : RepL K S H vs ds) : RepL K S' H vs ds := h.to (fun _ _ q _ => q) fun b _ _ n z => n (e b z)
theorem RepL.length : ∀ {vs : List V} {ds : List D}, RepL K S H vs ds → vs.length = ds.length
  | _, _, .nil => rfl
  | _, _, .cons _ r => congrArg Nat.succ r.length
theorem RepL.get : ∀ {vs : List V} {ds : List D} {i : Nat} {d : D}, RepL K S H vs ds → ds[i]? = some d → ∃ v, vs[i]? = some v ∧ Rep K S H v d
  | _, _, _, _, .nil, e => by simp at e
  | _, _, 0, _, .cons h _, e => by simp at e; subst e; exact ⟨_, rfl, h⟩
  | _, _, i + 1, d, .cons _ r, e => by
    obtain ⟨v, h1, h2⟩ := RepL.get (i := i) (d := d) r (by simpa using e)
    exact ⟨v, by simpa using h1, h2⟩
theorem RepL.getV : ∀ {vs : List V} {ds : List D} {i : Nat} {v : V}, RepL K S H vs ds → vs[i]? = some v → ∃ d, ds[i]? = some d ∧ Rep K S H v d
  | _, _, _, _, .nil, e => by simp at e
  | _, _, 0, _, .cons h _, e => by simp at e; subst e; exact ⟨_, rfl, h⟩
  | _, _, i + 1, v, .cons _ r, e => by
    obtain ⟨d, h1, h2⟩ := RepL.getV (i := i) (v := v) r (by simpa using e)
    exact ⟨d, by simpa using h1, h2⟩
theorem RepL.append : ∀ {vs ws : List V} {ds es : List D}, RepL K S H vs ds → RepL K S H ws es → RepL K S H (vs ++ ws) (ds ++ es)
  | _, _, _, _, .nil, s => s
  | _, _, _, _, .cons h r, s => .cons h (r.append s)
theorem RepL.take : ∀ {vs : List V} {ds : List D} (n : Nat), RepL K S H vs ds → RepL K S H (vs.take n) (ds.take n)
  | _, _, 0, _ => .nil
  | _, _, _ + 1, .nil => .nil
  | _, _, n + 1, .cons h r => .cons h (r.take n)
theorem RepL.drop : ∀ {vs : List V} {ds : List D} (n : Nat), RepL K S H vs ds → RepL K S H (vs.drop n) (ds.drop n)
  | _, _, 0, r => r
  | _, _, _ + 1, .nil => .nil
  | _, _, n + 1, .cons _ r => r.drop n
theorem RepL.reverse {vs : List V} {ds : List D} (h : RepL K S H vs ds) : RepL K S H vs.reverse ds.reverse := by
  have go : ∀ {vs : List V} {ds : List D}, RepL K S H vs ds → RepL K S H vs.reverse ds.reverse := by
    intro vs
    induction vs with
    | nil => intro ds h; cases h; exact .nil
    | cons v vs ih =>
      intro ds h
      cases h with
      | cons h r => rw [List.reverse_cons, List.reverse_cons]; exact (ih r).append (.cons h .nil)
  exact go h
theorem RepL.flat {vs : List V} {ds : List D} (h : RepL K S H vs ds) : ∀ n : Nat, RepL K S H (List.replicate n vs).flatten (List.replicate n ds).flatten
  | 0 => .nil
  | n + 1 => by
    rw [List.replicate_succ, List.replicate_succ, List.flatten_cons, List.flatten_cons]
    exact h.append (h.flat n)
theorem RepL.cut {vs : List V} {ds : List D} (h : RepL K S H vs ds) (lo hi : Option Int) : RepL K S H (cutV vs lo hi) (DL.cut ds lo hi) := by
  unfold cutV DL.cut
  rw [h.length]
  exact (h.drop _).take _
theorem RepL.set {v : V} {d : D} (q : Rep K S H v d) : ∀ {vs : List V} {ds : List D} (i : Nat), RepL K S H vs ds → RepL K S H (vs.set i v) (ds.set i d)
  | _, _, _, .nil => .nil
  | _, _, 0, .cons _ r => .cons q r
  | _, _, i + 1, .cons h r => .cons h (RepL.set q i r)
theorem RepL.dropLast {vs : List V} {ds : List D} (h : RepL K S H vs ds) : RepL K S H vs.dropLast ds.dropLast := by
  rw [List.dropLast_eq_take, List.dropLast_eq_take, h.length]
  exact h.take _
end

/-! ### what == reads -/
mutual
theorem Rep.py {K : PySem.W.Frag} {S : Addr → Prop} {H : Hp} : ∀ {v : V} {d : D} {a : PyData}, Rep K S H v d → d.py = some a → Dp K H v a
  | _, _, _, .non, e => by cases e; exact .non
  | _, _, _, .bl b, e => by cases e; exact .bl b
  | _, _, _, .int i, e => by cases e; exact .int i
  | _, _, _, .str x, e => by cases e; exact .str x
  | _, _, _, .lst (ds := ds) h n r, e => by
    have e' : (pyL ds).map PyData.list = some _ := e
    obtain ⟨as, h1, h2⟩ := Option.map_eq_some_iff.mp e'
    subst h2
    exact .lst (SqL.of h) (RepL.py r h1)
  | _, _, _, .tup (ds := ds) h n r, e => by
    have e' : (pyL ds).map PyData.tuple = some _ := e
    obtain ⟨as, h1, h2⟩ := Option.map_eq_some_iff.mp e'
    subst h2
    exact .tup (SqT.of h) (RepL.py r h1)
  | _, _, _, .ltp (ds := ds) h r, e => by
    have e' : (pyL ds).map PyData.tuple = some _ := e
    obtain ⟨as, h1, h2⟩ := Option.map_eq_some_iff.mp e'
    subst h2
    exact .tup (.inr h) (RepL.py r h1)
  | _, _, _, .scr _ _ _, e => by cases e
  | _, _, _, .scl _ _, e => by cases e
  | _, _, _, .obj _ _, e => by cases e
  | _, _, _, .fn _, e => by cases e
  | _, _, _, .dic _ _ _ _ _, e => by cases e
theorem RepL.py {K : PySem.W.Frag} {S : Addr → Prop} {H : Hp} : ∀ {vs : List V} {ds : List D} {as : List PyData}, RepL K S H vs ds → pyL ds = some as → DpAll K H vs as
  | _, _, _, .nil, e => by cases e; exact .nil
  | _, _, _, .cons (d := d) (ds := ds) h r, e => by
    unfold pyL at e
    cases q1 : d.py with
    | none => rw [q1] at e; cases e
    | some a =>
      cases q2 : pyL ds with
      | none => rw [q1, q2] at e; cases e
      | some as =>
        rw [q1, q2] at e
        cases e
        exact .cons (Rep.py h q1) (RepL.py r q2)
end

/-! ### the state of a frame -/
def SlotOk (K : PySem.W.Frag) (S : Addr → Prop) (H : Hp) (o : Option V) : DS → Prop
  | .un => True
  | .fz d => ∃ v, o = some v ∧ Rep K S H v d
  | .ow ds => ∃ a xs, o = some (.ref a) ∧ H a = some (.lst xs) ∧ S a ∧ RepL K S H xs ds
  | .ob c fs => ∃ a dx vs, o = some (.ref a) ∧ H a = some (.ins (He.ga K c) dx vs) ∧ S a ∧ vs.map (·.1) = fs.map (·.1) ∧ RepL K S H (vs.map (·.2)) (fs.map (·.2))
  | .od ks ds => ∃ a xs, o = some (.ref a) ∧ H a = some (.dK (ks.zip xs)) ∧ S a ∧ ks.length = xs.length ∧ ks.Nodup ∧ RepL K S H xs ds
theorem SlotOk.addr {K : PySem.W.Frag} {S : Addr → Prop} {H : Hp} {o : Option V} : ∀ {t : DS}, SlotOk K S H o t → t.mutb = true → ∃ a u, o = some (.ref a) ∧ H a = some u ∧ S a
  | .ow _, ⟨a, _, q, h, z, _⟩, _ => ⟨a, _, q, h, z⟩
  | .ob _ _, ⟨a, _, _, q, h, z, _⟩, _ => ⟨a, _, q, h, z⟩
  | .od _ _, ⟨a, _, q, h, z, _⟩, _ => ⟨a, _, q, h, z⟩
  | .un, _, z => by cases z
  | .fz _, _, z => by cases z
/-- a slot seen from a later heap -/
theorem SlotOk.move {K : PySem.W.Frag} {S S' : Addr → Prop} {H H' : Hp} (k : ∀ b o, H b = some o → ¬ S b → H' b = some o) (g : ∀ b o, H b = some o → ¬ S b → ¬ S' b) {o : Option V} :
    ∀ {t : DS}, (∀ b, o = some (.ref b) → t.mutb = true → (∀ u, H b = some u → H' b = some u) ∧ S' b) → SlotOk K S H o t → SlotOk K S' H' o t
  | .un, _, _ => trivial
  | .fz d, _, ⟨v, q, r⟩ => ⟨v, q, r.to k g⟩
  | .ow ds, m, ⟨a, xs, q, h, z, r⟩ => ⟨a, xs, q, (m a q rfl).1 _ h, (m a q rfl).2, r.to k g⟩
  | .ob c fs, m, ⟨a, dx, vs, q, h, z, n, r⟩ => ⟨a, dx, vs, q, (m a q rfl).1 _ h, (m a q rfl).2, n, r.to k g⟩
  | .od ks ds, m, ⟨a, xs, q, h, z, n, d, r⟩ => ⟨a, xs, q, (m a q rfl).1 _ h, (m a q rfl).2, n, d, r.to k g⟩
structure StE (K : PySem.W.Frag) (S : Addr → Prop) (σ : L2.St) (H : Hp) (δ : DSt) : Prop where
  len : σ.length = δ.length
  slot : ∀ (i : Nat) (s : DS), δ[i]? = some s → ∃ o, σ[i]? = some o ∧ SlotOk K S H o s
  sep : ∀ (i j : Nat) (a : Addr) (s t : DS), δ[i]? = some s → δ[j]? = some t → s.mutb = true → t.mutb = true → σ[i]? = some (some (.ref a)) → σ[j]? = some (some (.ref a)) → i = j
  here : ∀ b, S b → ∃ o, H b = some o
section
variable {K : PySem.W.Frag} {S S' : Addr → Prop} {H H' : Hp} {σ : L2.St} {δ : DSt}
theorem SlotOk.mono (e : Same H H') {o : Option V} {s : DS} (h : SlotOk K S H o s) : SlotOk K S H' o s := h.move (fun b o q _ => e b o q) (fun _ _ _ n => n) fun b q m => by
  obtain ⟨a, u, h1, h2, h3⟩ := h.addr m
  rw [h1] at q
  cases q
  exact ⟨fun u q => e _ _ q, h3⟩
theorem StE.mono (e : Same H H') (s : StE K S σ H δ) : StE K S σ H' δ :=
  ⟨s.len, fun i t h => let ⟨o, h1, h2⟩ := s.slot i t h; ⟨o, h1, h2.mono e⟩, s.sep, fun b z => let ⟨o, h⟩ := s.here b z; ⟨o, e _ _ h⟩⟩
end
end DL

/-! DPass: calls whose errors may be told by the slots at which they leave. -/
namespace DL
open PySem PySem.Spec PyProof.Rows L2
/-- what the calls of a context let out, at every state of the slots -/
def PsA (CX : CXT) (X : Cx) (E : L2.St → XK) : Prop := ∀ σ, PassesAt CX X σ (E σ)
theorem PsA.of {CX : CXT} {X : Cx} {E : XK} (h : Passes CX X E) : PsA CX X fun _ => E := fun σ pins H s e s' => h pins σ H s e s'
theorem PsA.all {CX : CXT} {X : Cx} {E : XK} (h : PsA CX X fun _ => E) : Passes CX X E := fun pins σ H s e s' => h σ pins H s e s'
section
variable {X : Cx} {CX : CXT} {pins : List (Addr × Obj)} {σ : L2.St} {H : Hp} {s : Shared} {k : Nat} {sp : Sp} {E : L2.St → XK} {E1 : XK} {Q : VK}
theorem run_at {fa : Addr} {us : List Value} {vs : List V} (Fn : FnR X.prog X.w X.K X.mg X.base CX k fa sp) (room : Room k X.A) (out : PassesAt CX X σ E1) (I : Inv X pins σ H s) (rel : Vals vs us) (hq : sp vs H Q E1) :
    codeAny (model X.prog X.w) X.A (.call (.ref fa) ⟨us, []⟩) (fun r s' => match r with | .ok (.ret v) => EP X pins σ Q v s' | .ok _ => False | .error e => X.xe e s') s :=
  codeAny_mono (Fn X.A X.stack s H us vs Q E1 room I.env0 rel hq) fun r s' a => match r, a with
    | .error e, a => out pins H s e s' I a
    | .ok (.ret u), a => I.after a
    | .ok .next, a => a.elim
    | .ok .brk, a => a.elim
    | .ok .cont, a => a.elim
variable {C fa g : Addr} {m x : Str} {o b fe : Expr} {bs : List Expr} {ta tf : TE} {t : TA} {p apos pos : Pos} {pl : Sem Bool}
/-- the node of a method's call -/
abbrev MNode (X : Cx) (o : Expr) (m : Str) (apos : Pos) (es : List Expr) (pos : Pos) (pl : Sem Bool) : Sem Value := do
  let ov ← eval o X.env
  standAt apos.atName
  let (f, first) ← holding [ov] (getMethod ov m pl)
  callWith pos f first (backTo pos (starEach es X.env)) (backToKw pos (keywordEach [] X.env))
abbrev Plain1 (X : Cx) (b : Expr) (bs : List Expr) (pos : Pos) : Prop := starEach (b :: bs) X.env = (false, eval b X.env) :: starEach bs X.env ∧ (backTo pos (starEach bs X.env)).any (·.1) = false
theorem pa_methR (he : PE X o ta) (c : Cls X.K C) (hm : Meth X.K C m fa) (Fn : FnR X.prog X.w X.K X.mg X.base CX k fa sp) (room : Room k X.A) (out : PsA CX X E) (ha : PA X (b :: bs) t) (h1 : Plain1 X b bs pos)
    (ht : eval (.Call (.Attribute o m apos) (b :: bs) [] pos) X.env = MNode X o m apos (b :: bs) pos pl) : PE X (.Call (.Attribute o m apos) (b :: bs) [] pos) fun σ H Q => tMethR C m sp (E σ) ta t σ H Q :=
  ⟨fun pins s σ H Q I hq => PySem.W.methodCall_KW (pl := pl) (thn (he.run pins s σ H _ I hq) fun u s1 ⟨y, H1, I1, ry, a, dx, fs, ey, ea, l, q⟩ => by
    subst ey
    cases (show u = Value.ref a from ry)
    exact getmeth_ok I1 ea c hm l (PySem.W.callWith_K (first := [.ref a]) (h₀ := X.base) I.ok.mod.kin hm.kp (thn (ha.run pos pins s1 σ H1 _ I1 q) fun us s2 ⟨ws, H2, I2, rw', q2⟩ =>
      ⟨I2.kIn, wpAny_call (run_at (us := .ref a :: us) (vs := .ref a :: ws) Fn room (out σ) I2 (.cons rfl rw') q2)⟩) h1.1 h1.2)) ht⟩
theorem pa_methR0 (he : PE X o ta) (c : Cls X.K C) (hm : Meth X.K C m fa) (Fn : FnR X.prog X.w X.K X.mg X.base CX k fa sp) (room : Room k X.A) (out : PsA CX X E)
    (ht : eval (.Call (.Attribute o m apos) [] [] pos) X.env = MNode X o m apos [] pos pl) : PE X (.Call (.Attribute o m apos) [] [] pos) fun σ H Q => tMethR C m sp (E σ) ta tNil σ H Q :=
  ⟨fun pins s σ H Q I hq => PySem.W.methodCall_KW (pl := pl) (thn (he.run pins s σ H _ I hq) fun u s1 ⟨y, H1, I1, ry, a, dx, fs, ey, ea, l, q⟩ => by
    subst ey
    cases (show u = Value.ref a from ry)
    exact getmeth_ok I1 ea c hm l (PySem.W.callWith_K0 (first := [.ref a]) I1.kIn hm.kp (wpAny_call (run_at (us := [.ref a]) (vs := [.ref a]) Fn room (out σ) I1 (.cons rfl .nil) q)))) ht⟩
theorem pa_methSl (he : PE X o ta) (c : SlX.SCls X.K C) (hm : Meth X.K C m fa) (Fn : FnR X.prog X.w X.K X.mg X.base CX k fa sp) (room : Room k X.A) (out : PsA CX X E) (ha : PA X (b :: bs) t) (h1 : Plain1 X b bs pos)
    (ht : eval (.Call (.Attribute o m apos) (b :: bs) [] pos) X.env = MNode X o m apos (b :: bs) pos pl) : PE X (.Call (.Attribute o m apos) (b :: bs) [] pos) fun σ H Q => SlX.tMethSl C sp (E σ) ta t σ H Q :=
  ⟨fun pins s σ H Q I hq => PySem.W.methodCall_KW (pl := pl) (thn (he.run pins s σ H _ I hq) fun u s1 ⟨y, H1, I1, ry, a, dx, fs, ey, ea, q⟩ => by
    subst ey
    cases (show u = Value.ref a from ry)
    exact SlX.getmethsl_ok I1 ea c hm (PySem.W.callWith_K (first := [.ref a]) (h₀ := X.base) I.ok.mod.kin hm.kp (thn (ha.run pos pins s1 σ H1 _ I1 q) fun us s2 ⟨ws, H2, I2, rw', q2⟩ =>
      ⟨I2.kIn, wpAny_call (run_at (us := .ref a :: us) (vs := .ref a :: ws) Fn room (out σ) I2 (.cons rfl rw') q2)⟩) h1.1 h1.2)) ht⟩
theorem pa_methSl0 (he : PE X o ta) (c : SlX.SCls X.K C) (hm : Meth X.K C m fa) (Fn : FnR X.prog X.w X.K X.mg X.base CX k fa sp) (room : Room k X.A) (out : PsA CX X E)
    (ht : eval (.Call (.Attribute o m apos) [] [] pos) X.env = MNode X o m apos [] pos pl) : PE X (.Call (.Attribute o m apos) [] [] pos) fun σ H Q => SlX.tMethSl C sp (E σ) ta tNil σ H Q :=
  ⟨fun pins s σ H Q I hq => PySem.W.methodCall_KW (pl := pl) (thn (he.run pins s σ H _ I hq) fun u s1 ⟨y, H1, I1, ry, a, dx, fs, ey, ea, q⟩ => by
    subst ey
    cases (show u = Value.ref a from ry)
    exact SlX.getmethsl_ok I1 ea c hm (PySem.W.callWith_K0 (first := [.ref a]) I1.kIn hm.kp (wpAny_call (run_at (us := [.ref a]) (vs := [.ref a]) Fn room (out σ) I1 (.cons rfl .nil) q)))) ht⟩
theorem pa_cmeth {pm : Addr} {mc : Value} (he : PE X o ta) (r : ClX.CRead X.K C mc) (c : ClX.CMet X.K C mc m pm g) (Fn : FnR X.prog X.w X.K X.mg X.base CX k g sp) (room : Room k X.A) (out : PsA CX X E) (ha : PA X (b :: bs) t) (h1 : Plain1 X b bs pos)
    (ht : eval (.Call (.Attribute o m apos) (b :: bs) [] pos) X.env = MNode X o m apos (b :: bs) pos pl) : PE X (.Call (.Attribute o m apos) (b :: bs) [] pos) fun σ H Q => ClX.tCMeth C sp (E σ) ta t σ H Q :=
  ⟨fun pins s σ H Q I hq => PySem.W.methodCall_KW (pl := pl) (thn (he.run pins s σ H _ I hq) fun u s1 ⟨y, H1, I1, ry, ey, q⟩ => by
    subst ey
    cases (show u = Value.ref C from ry)
    exact ClX.getmethcm_ok I1 r c fun s2 I2 => ClX.callwith_cm I2 (ClX.base_none I1 (Nat.le_refl _)) c.fi (thn (ha.run pos _ s2 σ H1 _ I2 q) fun us s3 ⟨ws, H2, I3, rw', q2⟩ => ⟨⟨ClX.pin_at I3, I3.kIn⟩,
      thn (wpAny_call (PySem.W.method_call (ClX.pin_at I3) (run_at (us := .ref C :: us) (vs := .ref C :: ws) Fn room (out σ) I3 (.cons rfl rw') q2))) fun _ _ y => ClX.unpinE y⟩) h1.1 h1.2) ht⟩
theorem pa_callO (hf : PE X fe tf) (c : StX.CallO X.K C g) (Fn : FnR X.prog X.w X.K X.mg X.base CX k g sp) (room : Room k X.A) (out : PsA CX X E) (ha : PA X (b :: bs) t) (h1 : Plain1 X b bs pos)
    (ht : eval (.Call fe (b :: bs) [] pos) X.env = (do callWith pos (← eval fe X.env) [] (backTo pos (starEach (b :: bs) X.env)) (backToKw pos (keywordEach [] X.env)))) :
    PE X (.Call fe (b :: bs) [] pos) fun σ H Q => StX.tCallO X C sp (E σ) tf t σ H Q :=
  ⟨fun pins s σ H Q I hq => Call_ (thn (hf.run pins s σ H _ I hq) fun u s1 ⟨y, H1, I1, ry, a, ey, q⟩ => by
    subst ey
    cases (show u = Value.ref a from ry)
    refine StX.callO_with (thn (ha.run pos pins s1 σ H1 _ I1 q) fun us s2 ⟨ws, H2, I2, rw', hi, q2⟩ => ?_) h1.1 h1.2
    obtain ⟨ox, od, J, hd⟩ := StX.insC_at I2 hi
    exact ⟨⟨C, ox, od, J, hd⟩, wpAny_call (PySem.W.kco_code I2.kIn J hd c.at_ c.fn c.fi (run_at (us := .ref a :: us) (vs := .ref a :: ws) Fn room (out σ) I2 (.cons rfl rw') q2))⟩) ht⟩
variable {fI : Addr} {fd : FuncData} {ps : List Str}
theorem made_at {us : List Value} {vs : List V} (M : Mk X.K C fI) (Fn : FnOk X.prog X.w X.K X.mg X.base CX k fI fd ps sp) (room : Room (k + 1) X.A) (hb : Binds X.K fd ps []) (out : PassesAt CX X σ E1) (I : Inv X pins σ H s) (rel : Vals vs us)
    (hq : ∀ y dy, H y = none → H dy = none → dy ≠ y → sp (.ref y :: vs) (upd (upd H dy (.own y)) y (.ins C dy [])) (fun v H2 => v = .non ∧ Q (.ref y) H2) E1) : wpAny (model X.prog X.w) X.A (call (.ref C) us) (EP X pins σ Q) X.xe s := by
  have q1 := hq _ _ (I.hok.fresh (Nat.le_succ s.heap.objs.size)) (I.hok.fresh (Nat.le_refl _)) (Nat.ne_of_lt (Nat.lt_succ_self _))
  have I2 := Inv.made (C := C) I
  have rel2 : Vals (V.ref (s.heap.objs.size + 1) :: vs) (Value.ref (s.heap.objs.size + 1) :: us) := .cons rfl rel
  have len : (Value.ref (s.heap.objs.size + 1) :: us).length = ps.length := rel2.length.symm.trans (Fn.len _ _ _ _ q1)
  have bd := hb _ (Value.ref (s.heap.objs.size + 1) :: us) I2.kIn (by rw [List.append_nil]; exact len)
  rw [List.append_nil] at bd
  refine wpAny_call (make_map (f := fI) I.kIn M.makes M.init (beq_iff_eq.mp M.fn) (codeAny_mono (Fn.run _ X.stack _ _ ⟨Value.ref (s.heap.objs.size + 1) :: us, []⟩ _ _ _ E1 (room.make C us []) (I2.env0.make C us []) bd rel2 q1) fun r s' a => ?_))
  match r, a with
  | .error e, a => exact out pins _ _ e s' I2 a
  | .ok (.ret u), a =>
    obtain ⟨v, H', I3, rv, ev, q3⟩ := I2.after a
    subst ev
    exact ⟨rv, V.ref (s.heap.objs.size + 1), H', I3, rfl, q3⟩
  | .ok .next, a => exact a.elim
  | .ok .brk, a => exact a.elim
  | .ok .cont, a => exact a.elim
theorem pa_make (M : Mk X.K C fI) (Fn : FnOk X.prog X.w X.K X.mg X.base CX k fI fd ps sp) (room : Room (k + 1) X.A) (hg : Gl X x) (hm : X.mg x = some (.ref C)) (hb : Binds X.K fd ps []) (out : PsA CX X E) (ha : PA X (b :: bs) t)
    (hdb : (x == ("__debug__" : Str)) = false) (h1 : Plain1 X b bs pos) : PE X (.Call (.Name x p) (b :: bs) [] pos) fun σ H Q => tMake C sp [] (E σ) t σ H Q :=
  ⟨fun pins s σ H Q I hq => wpAny_Call_Name_kw (ld_glob I hg hm (PySem.W.callWith_K (h₀ := X.base) I.ok.mod.kin M.kp (thn (ha.run pos pins s σ H _ I hq) fun us s1 ⟨vs, H1, I1, rw', q⟩ => ⟨I1.kIn,
    made_at M Fn room hb (out σ) I1 rw' fun y dy a b c => by
      have := q y dy a b c
      rw [List.append_nil] at this
      exact this⟩) h1.1 h1.2) hdb)⟩
end
end DL

/-! DExpr: the rules of expressions over the data. -/
namespace DL
open PySem PySem.Spec PyProof.Rows L2
abbrev Sg := L2.St

/-- the fields of the own errors -/
def exF : Str → List Str := fun c =>
  if c = "BadText" then ["place"] else if c = "TooLarge" then ["what"] else if c = "MixedName" then ["name"] else if c = "MissingName" then ["name"]
  else if c = "OutOfRange" then ["number"] else if c = "Confused" then ["second", "first"] else if c = "NoSuchSize" then ["size"] else if c = "BadEntry" then ["entry"] else []
def ExR (K : PySem.W.Frag) (S : Addr → Prop) (H : Hp) (cls : Value) (dx : Option Addr) (n : Str) (xs : List D) : Prop :=
  cls = .ref (He.ga K n) ∧ ∃ a vs, dx = some a ∧ H a = some (.xd ((exF n).zip vs)) ∧ ¬ S a ∧ RepL K S H vs xs

def Res {α : Type} (K : PySem.W.Frag) (S : Addr → Prop) (H : Hp) (E : XK) (r : R α) (P : α → Prop) : Prop := match r with
  | .ok d => P d
  | .exc n xs => ∀ cls dx H', Same H H' → ExR K S H' cls dx n xs → E cls dx H'
  | .bad => False
abbrev E0s : Sg → XK := fun _ => E0
/-- an expression's, a list's, a test's reading -/
def tD (K : PySem.W.Frag) (E : Sg → XK) (f : FE) : TE := fun σ H Q => ∃ S δ, StE K S σ H δ ∧ Res K S H (E σ) (f δ) fun d => ∀ v H', Same H H' → Rep K S H' v d → Q v H'
def tDL (K : PySem.W.Frag) (E : Sg → XK) (f : FL) : TA := fun σ H Q => ∃ S δ, StE K S σ H δ ∧ Res K S H (E σ) (f δ) fun ds => ∀ vs H', Same H H' → RepL K S H' vs ds → Q vs H'
def tDB (K : PySem.W.Frag) (E : Sg → XK) (f : FB) : TT := fun σ H Q => ∃ S δ, StE K S σ H δ ∧ Res K S H (E σ) (f δ) fun b => ∀ H', Same H H' → Q b H'
def DE (X : Cx) (E : Sg → XK) (e : Expr) (f : FE) : Prop := PE X e (tD X.K E f)
structure DA (X : Cx) (E : Sg → XK) (es : List Expr) (f : FL) : Prop where
  pa : PA X es (tDL X.K E f)
  len : ∀ δ ds, f δ = .ok ds → ds.length = es.length
def DB (X : Cx) (E : Sg → XK) (e : Expr) (f : FB) : Prop := PT X e (tDB X.K E f)
def DW (X : Cx) (E : Sg → XK) (e : Expr) (f : FB) : Prop := PW X e (tDB X.K E f)

theorem PE.imp {X : Cx} {e : Expr} {t t' : TE} (h : PE X e t) (k : ∀ σ H Q, t' σ H Q → t σ H Q) : PE X e t' := ⟨fun pins s σ H Q I q => h.run pins s σ H Q I (k σ H Q q)⟩
theorem PA.imp {X : Cx} {es : List Expr} {t t' : TA} (h : PA X es t) (k : ∀ σ H Q, t' σ H Q → t σ H Q) : PA X es t' := ⟨fun pos pins s σ H Q I q => h.run pos pins s σ H Q I (k σ H Q q)⟩
theorem PT.imp {X : Cx} {e : Expr} {t t' : TT} (h : PT X e t) (k : ∀ σ H Q, t' σ H Q → t σ H Q) : PT X e t' := ⟨fun pins s σ H Q I q => h.run pins s σ H Q I (k σ H Q q)⟩
theorem PW.imp {X : Cx} {e : Expr} {t t' : TT} (h : PW X e t) (k : ∀ σ H Q, t' σ H Q → t σ H Q) : PW X e t' := ⟨fun wh pins s σ H Q I q => h.run wh pins s σ H Q I (k σ H Q q)⟩
theorem PS.imp {X : Cx} {st : Stmt} {t t' : TS} (h : PS X st t) (k : ∀ D σ H, t' D σ H → t D σ H) : PS X st t' := ⟨fun pins s σ H D I q => h.run pins s σ H D I (k D σ H q)⟩
theorem PSs.imp {X : Cx} {st : List Stmt} {t t' : TS} (h : PSs X st t) (k : ∀ D σ H, t' D σ H → t D σ H) : PSs X st t' := ⟨fun pins s σ H D I q => h.run pins s σ H D I (k D σ H q)⟩

section
variable {K : PySem.W.Frag} {S : Addr → Prop} {H H1 : Hp} {E : XK} {α β : Type}
theorem same_new {p : Addr} (h : H p = none) (o : HO) : Same H (upd H p o) := fun b u q => by rw [upd_ne (ne_of_none q h)]; exact q
theorem Res.imp {r : R α} {P P' : α → Prop} (h : Res K S H E r P) (k : ∀ a, P a → P' a) : Res K S H E r P' := by
  cases r with
  | ok a => exact k a h
  | exc n xs => exact h
  | bad => exact h
theorem Res.on {r : R α} {f : α → R β} {P : β → Prop} (h : Res K S H E (r.bind f) P) : Res K S H E r fun a => Res K S H E (f a) P := by
  cases r with
  | ok a => exact h
  | exc n xs => exact h
  | bad => exact h
theorem Res.mono {r : R α} {P : α → Prop} (e : Same H H1) (h : Res K S H E r P) : Res K S H1 E r P := by
  cases r with
  | ok a => exact h
  | exc n xs => exact fun cls dx H' e' x => h cls dx H' (e.trans e') x
  | bad => exact h
theorem Res.of {o : Option α} {P : α → Prop} (h : Res K S H E (R.of o) P) : ∃ a, o = some a ∧ P a := by
  cases o with
  | none => exact h.elim
  | some a => exact ⟨a, rfl, h⟩
end

section
variable {X : Cx} {E : Sg → XK} {pos : Pos} {a b c : Expr} {f g : FE} {es : List Expr} {fl : FL}
/-! ### names and constants -/
theorem de_var (i : Nat) {x : Str} (hN : X.N[i]? = some x := by rfl) (hv : Vis X.env.scope x := by first | exact Or.inl rfl | exact Or.inr (Or.inl rfl) | exact Or.inr (Or.inr rfl)) (hd : (x == ("__debug__" : Str)) = false := by decide)
    (hcd : (x == ("__classdict__" : Str)) = false := by decide) : DE X E (.Name x pos) (fVar i) := by
  refine PE.imp (pe_var hN hv hd hcd) fun σ H Q h => ?_
  obtain ⟨S, δ, st, r⟩ := h
  unfold fVar at r
  cases q : δ[i]? with
  | none => rw [q] at r; exact r.elim
  | some s =>
    rw [q] at r
    cases s with
    | un => exact r.elim
    | ow ds => exact r.elim
    | ob c fs => exact r.elim
    | od ks ds => exact r.elim
    | fz d =>
      obtain ⟨o, h1, v, h2, h3⟩ := st.slot i _ q
      subst h2
      exact ⟨v, h1, r v H (Same.refl _) h3⟩
theorem de_c {e : Expr} {v : V} {d : D} (h : PE X e (tC v)) (r : ∀ S H, Rep X.K S H v d) : DE X E e (fC d) := by
  refine PE.imp h fun σ H Q h => ?_
  obtain ⟨S, δ, st, q⟩ := h
  exact q v H (Same.refl _) (r S H)
theorem de_int {i j} : DE X E (.Constant (.int i) j pos) (fC (.int i)) := de_c pe_int fun _ _ => .int i
theorem de_bl {b j} : DE X E (.Constant (.bool b) j pos) (fC (.bl b)) := de_c pe_bl fun _ _ => .bl b
theorem de_non {j} : DE X E (.Constant .none j pos) (fC .non) := de_c pe_non fun _ _ => .non
theorem de_str {x j} : DE X E (.Constant (.str x) j pos) (fC (.str x)) := de_c pe_str fun _ _ => .str _
theorem de_glob {x : Str} {v : V} {d : D} {u : Value} (hg : Gl X x) (hm : X.mg x = some u) (r : RelV v u) (h : ∀ S H, Rep X.K S H v d) (hd : (x == ("__debug__" : Str)) = false := by decide) : DE X E (.Name x pos) (fC d) := de_c (pe_glob hg hm r hd) h

/-! ### argument lists -/
theorem da_nil : DA X E [] fNil := by
  refine ⟨PA.imp pa_nil fun σ H Q h => ?_, fun δ ds h => by cases h; rfl⟩
  obtain ⟨S, δ, st, q⟩ := h
  exact q [] H (Same.refl _) .nil
theorem da_cons (ha : DE X E a f) (hr : DA X E es fl) (hs : starEach (a :: es) X.env = (false, eval a X.env) :: starEach es X.env := by rfl) : DA X E (a :: es) (fCons f fl) := by
  refine ⟨PA.imp (pa_cons ha hr.pa hs) fun σ H Q h => ?_, fun δ ds h => ?_⟩
  · obtain ⟨S, δ, st, q⟩ := h
    have q1 := Res.on q
    refine ⟨S, δ, st, q1.imp fun d q2 v H1 e1 r1 => ?_⟩
    refine ⟨S, δ, st.mono e1, (Res.on q2).mono e1 |>.imp fun ds q3 vs H2 e2 r2 => ?_⟩
    exact q3 (v :: vs) H2 (e1.trans e2) (.cons (r1.mono e2) r2)
  · unfold fCons at h
    cases q : f δ with
    | ok d =>
      rw [q, R.bind_ok] at h
      cases q2 : fl δ with
      | ok es' =>
        rw [q2, R.bind_ok] at h
        cases h
        exact congrArg Nat.succ (hr.len _ _ q2)
      | exc n xs => rw [q2] at h; cases h
      | bad => rw [q2] at h; cases h
    | exc n xs => rw [q] at h; cases h
    | bad => rw [q] at h; cases h

/-! ### operations on values -/
def Dom (S : Addr → Prop) (H : Hp) : Prop := ∀ b, S b → ∃ o, H b = some o
theorem Dom.new {S : Addr → Prop} {H : Hp} (h : Dom S H) {p : Addr} (hp : H p = none) : ¬ S p := fun z => by
  obtain ⟨o, q⟩ := h p z
  rw [hp] at q; cases q
/-- what a value may give -/
def Giv (K : PySem.W.Frag) (S : Addr → Prop) (H : Hp) (z : D) (Q : VK) : Prop := ∀ v H', Same H H' → Rep K S H' v z → Q v H'
theorem Giv.here {K : PySem.W.Frag} {S : Addr → Prop} {H : Hp} {z : D} {Q : VK} (q : Giv K S H z Q) {v : V} (r : Rep K S H v z) : Q v H := q v H (Same.refl _) r
theorem Giv.lst {K : PySem.W.Frag} {S : Addr → Prop} {H : Hp} {zs : List D} {Q : VK} (q : Giv K S H (.lst zs) Q) (dm : Dom S H) {xs : List V} (r : RepL K S H xs zs) : ∀ p, H p = none → Q (.ref p) (upd H p (.lst xs)) := fun p hp =>
  q (.ref p) _ (same_new hp _) (.lst upd_same (dm.new hp) (r.mono (same_new hp _)))
theorem Giv.tup {K : PySem.W.Frag} {S : Addr → Prop} {H : Hp} {zs : List D} {Q : VK} (q : Giv K S H (.tup zs) Q) (dm : Dom S H) {xs : List V} (r : RepL K S H xs zs) : ∀ p, H p = none → Q (.ref p) (upd H p (.tup xs)) := fun p hp =>
  q (.ref p) _ (same_new hp _) (.tup upd_same (dm.new hp) (r.mono (same_new hp _)))
def OpD (X : Cx) (f : Value → Value → Sem Value) (F : D → D → Option D) : Prop :=
  OpR X f fun x y H Q => ∃ S d e z, Dom S H ∧ Rep X.K S H x d ∧ Rep X.K S H y e ∧ F d e = some z ∧ Giv X.K S H z Q
def UnD (X : Cx) (f : Value → Sem Value) (F : D → Option D) : Prop :=
  UnR X f fun x H Q => ∃ S d z, Dom S H ∧ Rep X.K S H x d ∧ F d = some z ∧ Giv X.K S H z Q
def CallD (X : Cx) (f : Value) (F : List D → Option D) : Prop :=
  CallR X f fun xs H Q => ∃ S ds z, Dom S H ∧ RepL X.K S H xs ds ∧ F ds = some z ∧ Giv X.K S H z Q
def IxD (X : Cx) (F : D → D → Option D) : Prop :=
  IxR X fun x y H Q => ∃ S d e z, Dom S H ∧ Rep X.K S H x d ∧ Rep X.K S H y e ∧ F d e = some z ∧ Giv X.K S H z Q

/-- two parts, then what is done with them -/
theorem two_of {K : PySem.W.Frag} {f g : FE} {F : D → D → Option D} {r : R2} {σ : Sg} {H : Hp} {Q : VK} (h : tD K E (fB F f g) σ H Q)
    (hr : ∀ x y H Q, (∃ S d e z, Dom S H ∧ Rep K S H x d ∧ Rep K S H y e ∧ F d e = some z ∧ Giv K S H z Q) → r x y H Q) : tOp r (tD K E f) (tD K E g) σ H Q := by
  obtain ⟨S, δ, st, q⟩ := h
  refine ⟨S, δ, st, (Res.on q).imp fun d q1 v H1 e1 r1 => ?_⟩
  refine ⟨S, δ, st.mono e1, ((Res.on q1).mono e1).imp fun e q2 u H2 e2 r2 => ?_⟩
  obtain ⟨z, hz, q3⟩ := Res.of q2
  exact hr v u H2 Q ⟨S, d, e, z, ((st.mono e1).mono e2).here, r1.mono e2, r2, hz, fun w H3 e3 r3 => q3 w H3 (e1.trans (e2.trans e3)) r3⟩
theorem de_op {op : Operator} {F : D → D → Option D} (ho : OpD X (binaryOp op) F) (ha : DE X E a f) (hb : DE X E b g) : DE X E (.BinOp a op b pos) (fB F f g) :=
  PE.imp (pe_op ho ha hb) fun σ H Q h => two_of h fun _ _ _ _ q => q
theorem de_cmp {op : CmpOp} {F : D → D → Option D} (ho : OpD X (compareOp op) F) (ha : DE X E a f) (hb : DE X E b g) (hm : behindInMarks op b = false) : DE X E (.Compare a [op] [b] pos) (fB F f g) :=
  PE.imp (pe_cmpR ho ha hb hm) fun σ H Q h => two_of h fun _ _ _ _ q => q
theorem de_ix {F : D → D → Option D} (ho : IxD X F) (ha : DE X E a f) (hb : DE X E b g) (hs : PlainIx b) : DE X E (.Subscript a b pos) (fB F f g) :=
  PE.imp (pe_ix ho ha hb hs) fun σ H Q h => two_of h fun _ _ _ _ q => q
theorem de_un {op : UnaryOp} {F : D → Option D} (ho : UnD X (unaryOp op) F) (ha : DE X E a f) : DE X E (.UnaryOp op a pos) (fU F f) := by
  refine PE.imp (pe_un ho ha) fun σ H Q h => ?_
  obtain ⟨S, δ, st, q⟩ := h
  refine ⟨S, δ, st, (Res.on q).imp fun d q1 v H1 e1 r1 => ?_⟩
  obtain ⟨z, hz, q2⟩ := Res.of q1
  exact ⟨S, d, z, (st.mono e1).here, r1, hz, fun w H2 e2 r2 => q2 w H2 (e1.trans e2) r2⟩
/-! ### displays -/
theorem de_tup {k} (h : DA X E es fl) (hl : es.length ≤ sizeLine := by exact Nat.le_of_ble_eq_true rfl) : DE X E (.Tuple es k pos) (fTup fl) := by
  refine PE.imp (pe_tup h.pa) fun σ H Q hq => ?_
  obtain ⟨S, δ, st, q⟩ := hq
  refine ⟨S, δ, st, ?_⟩
  have q1 := Res.on (show Res X.K S H (E σ) ((fl δ).bind fun xs => R.of (some (D.tup xs))) _ from q)
  cases e : fl δ with
  | bad => rw [e] at q1; exact q1.elim
  | exc n xs => rw [e] at q1; exact q1
  | ok ds =>
    rw [e] at q1
    intro vs H1 e1 r1
    have q2 : Giv X.K S H (.tup ds) Q := q1
    refine ⟨by rw [r1.length, h.len _ _ e]; exact hl, fun p hp => ?_⟩
    exact Giv.tup (fun w H2 e2 r2 => q2 w H2 (e1.trans e2) r2) (st.mono e1).here r1 p hp
theorem de_lst (h : DA X E es fl) (hl : es.length ≤ sizeLine := by exact Nat.le_of_ble_eq_true rfl) : DE X E (.List es pos) (fLst fl) := by
  refine PE.imp (pe_lst h.pa) fun σ H Q hq => ?_
  obtain ⟨S, δ, st, q⟩ := hq
  refine ⟨S, δ, st, ?_⟩
  have q1 := Res.on (show Res X.K S H (E σ) ((fl δ).bind fun xs => R.of (some (D.lst xs))) _ from q)
  cases e : fl δ with
  | bad => rw [e] at q1; exact q1.elim
  | exc n xs => rw [e] at q1; exact q1
  | ok ds =>
    rw [e] at q1
    intro vs H1 e1 r1
    have q2 : Giv X.K S H (.lst ds) Q := q1
    refine ⟨by rw [r1.length, h.len _ _ e]; exact hl, fun p hp => ?_⟩
    exact Giv.lst (fun w H2 e2 r2 => q2 w H2 (e1.trans e2) r2) (st.mono e1).here r1 p hp
/-! ### tests -/
theorem db_cmp {op : CmpOp} {F : D → D → Option D} (ho : OpD X (compareOp op) F) (ha : DE X E a f) (hb : DE X E b g) (hm : behindInMarks op b = false) : DB X E (.Compare a [op] [b] pos) (fTest (fB F f g)) := by
  refine PT.imp (pt_cmpR ho ha hb hm) fun σ H Q h => ?_
  obtain ⟨S, δ, st, q⟩ := h
  refine two_of (f := f) (g := g) (F := F) ⟨S, δ, st, (Res.on q).imp fun d q1 v H1 e1 r1 => ?_⟩ fun _ _ _ _ z => z
  cases r1 with
  | bl k => exact ⟨k, rfl, q1 H1 e1⟩
  | _ => exact q1.elim
theorem db_val (h : DE X E a f) (he : ∀ whole, isTrue a X.env whole = (do let v ← whole; standAt a.pos; holding [v] (truthy v)) := by intro _; rfl) : DB X E a (fTest f) := by
  refine PT.imp (pt_val h he) fun σ H Q hq => ?_
  obtain ⟨S, δ, st, q⟩ := hq
  refine ⟨S, δ, st, (Res.on q).imp fun d q1 v H1 e1 r1 => ?_⟩
  cases r1 with
  | bl k => exact ⟨k, rfl, q1 H1 e1⟩
  | _ => exact q1.elim
theorem db_not {c : FB} (h : DB X E a c) : DB X E (.UnaryOp .Not a pos) (fNotB c) := by
  refine PT.imp (pt_not h) fun σ H Q hq => ?_
  obtain ⟨S, δ, st, q⟩ := hq
  exact ⟨S, δ, st, (Res.on q).imp fun d q1 => q1⟩
variable {rest : List Expr} {p q : FB}
theorem dw_and1 (h : DB X E a p) : DW X E (.BoolOp .And [a] pos) p := pw_and1 h
theorem dw_or1 (h : DB X E a p) : DW X E (.BoolOp .Or [a] pos) p := pw_or1 h
theorem dw_and (h : DB X E a p) (k : DW X E (.BoolOp .And (b :: rest) pos) q) : DW X E (.BoolOp .And (a :: b :: rest) pos) (fAndB p q) := by
  refine PW.imp (pw_and h k) fun σ H Q hq => ?_
  obtain ⟨S, δ, st, r⟩ := hq
  refine ⟨S, δ, st, (Res.on r).imp fun d q1 H1 e1 => ?_⟩
  cases d with
  | true => exact ⟨S, δ, st.mono e1, (q1.mono e1).imp fun b q2 H2 e2 => q2 H2 (e1.trans e2)⟩
  | false => exact q1 H1 e1
theorem dw_or (h : DB X E a p) (k : DW X E (.BoolOp .Or (b :: rest) pos) q) : DW X E (.BoolOp .Or (a :: b :: rest) pos) (fOrB p q) := by
  refine PW.imp (pw_or h k) fun σ H Q hq => ?_
  obtain ⟨S, δ, st, r⟩ := hq
  refine ⟨S, δ, st, (Res.on r).imp fun d q1 H1 e1 => ?_⟩
  cases d with
  | true => exact q1 H1 e1
  | false => exact ⟨S, δ, st.mono e1, (q1.mono e1).imp fun b q2 H2 e2 => q2 H2 (e1.trans e2)⟩
theorem db_of (h : DW X E a p) : DB X E a p := PW.pt h
/-- not, and, or as values -/
theorem de_not (h : DE X E a f) : DE X E (.UnaryOp .Not a pos) (fVal (fNotB (fTest f))) := by
  refine PE.imp (pe_not h) fun σ H Q hq => ?_
  obtain ⟨S, δ, st, r⟩ := hq
  refine ⟨S, δ, st, (Res.on (Res.on (Res.on r))).imp fun d q1 v H1 e1 r1 => ?_⟩
  cases r1 with
  | bl k => exact ⟨k, rfl, q1 _ H1 e1 (.bl _)⟩
  | _ => exact q1.elim
theorem de_one {op} (h : DE X E a f) : DE X E (.BoolOp op [a] pos) f := pe_one h
def fAnd (f g : FE) : FE := fun δ => (f δ).bind fun d => match d with
  | .bl true => g δ
  | .bl false => .ok (.bl false)
  | _ => .bad
def fOr (f g : FE) : FE := fun δ => (f δ).bind fun d => match d with
  | .bl true => .ok (.bl true)
  | .bl false => g δ
  | _ => .bad
theorem de_and (h : DE X E a f) (k : DE X E (.BoolOp .And (b :: rest) pos) g) : DE X E (.BoolOp .And (a :: b :: rest) pos) (fAnd f g) := by
  refine PE.imp (pe_and h k) fun σ H Q hq => ?_
  obtain ⟨S, δ, st, r⟩ := hq
  refine ⟨S, δ, st, (Res.on r).imp fun d q1 v H1 e1 r1 => ?_⟩
  cases r1 with
  | bl k =>
    refine ⟨k, rfl, ?_⟩
    cases k with
    | true => exact ⟨S, δ, st.mono e1, (q1.mono e1).imp fun d q2 v H2 e2 r2 => q2 v H2 (e1.trans e2) r2⟩
    | false => exact q1 _ H1 e1 (.bl _)
  | _ => exact q1.elim
theorem de_or (h : DE X E a f) (k : DE X E (.BoolOp .Or (b :: rest) pos) g) : DE X E (.BoolOp .Or (a :: b :: rest) pos) (fOr f g) := by
  refine PE.imp (pe_or h k) fun σ H Q hq => ?_
  obtain ⟨S, δ, st, r⟩ := hq
  refine ⟨S, δ, st, (Res.on r).imp fun d q1 v H1 e1 r1 => ?_⟩
  cases r1 with
  | bl k =>
    refine ⟨k, rfl, ?_⟩
    cases k with
    | true => exact q1 _ H1 e1 (.bl _)
    | false => exact ⟨S, δ, st.mono e1, (q1.mono e1).imp fun d q2 v H2 e2 r2 => q2 v H2 (e1.trans e2) r2⟩
  | _ => exact q1.elim
theorem de_if {t : FB} (ht : DB X E c t) (ha : DE X E a f) (hb : DE X E b g) : DE X E (.IfExp c a b pos) (fIf t f g) := by
  refine PE.imp (pe_ifExp ht ha hb) fun σ H Q hq => ?_
  obtain ⟨S, δ, st, r⟩ := hq
  refine ⟨S, δ, st, (Res.on r).imp fun d q1 H1 e1 => ?_⟩
  cases d with
  | true => exact ⟨S, δ, st.mono e1, (q1.mono e1).imp fun d q2 v H2 e2 r2 => q2 v H2 (e1.trans e2) r2⟩
  | false => exact ⟨S, δ, st.mono e1, (q1.mono e1).imp fun d q2 v H2 e2 r2 => q2 v H2 (e1.trans e2) r2⟩
end
end DL

/-! DOps: the operators and built-ins over the data. -/
namespace DL
open PySem PySem.Spec PyProof.Rows L2
section
variable {X : Cx}
theorem Rep.seqT {K : PySem.W.Frag} {S : Addr → Prop} {H : Hp} {v : V} {ds : List D} (r : Rep K S H v (.tup ds)) : ∃ a xs, v = .ref a ∧ SqT K H a xs ∧ RepL K S H xs ds := by
  cases r with
  | tup h n r => exact ⟨_, _, rfl, SqT.of h, r⟩
  | ltp h r => exact ⟨_, _, rfl, .inr h, r⟩
theorem Rep.lstH {K : PySem.W.Frag} {S : Addr → Prop} {H : Hp} {v : V} {ds : List D} (r : Rep K S H v (.lst ds)) : ∃ a xs, v = .ref a ∧ H a = some (.lst xs) ∧ RepL K S H xs ds := by
  cases r with
  | lst h n r => exact ⟨_, _, rfl, h, r⟩
theorem Rep.scrH {K : PySem.W.Frag} {S : Addr → Prop} {H : Hp} {v : V} {ds : List D} (r : Rep K S H v (.scr ds)) : ∃ a xs, v = .ref a ∧ SqL K H a xs ∧ RepL K S H xs ds := by
  cases r with
  | scr h n r => exact ⟨_, _, rfl, .inl (.inr ⟨_, h⟩), r⟩
  | scl h r => exact ⟨_, _, rfl, .inr h, r⟩
theorem Rep.intE {K : PySem.W.Frag} {S : Addr → Prop} {H : Hp} {v : V} {i : Int} (r : Rep K S H v (.int i)) : v = .int i := by cases r; rfl
theorem Rep.strE {K : PySem.W.Frag} {S : Addr → Prop} {H : Hp} {v : V} {i : Str} (r : Rep K S H v (.str i)) : v = .str i := by cases r; rfl
theorem Rep.blE {K : PySem.W.Frag} {S : Addr → Prop} {H : Hp} {v : V} {i : Bool} (r : Rep K S H v (.bl i)) : v = .bl i := by cases r; rfl
theorem Rep.nonE {K : PySem.W.Frag} {S : Addr → Prop} {H : Hp} {v : V} (r : Rep K S H v .non) : v = .non := by cases r; rfl
theorem Rep.non_iff {K : PySem.W.Frag} {S : Addr → Prop} {H : Hp} {v : V} {d : D} (r : Rep K S H v d) : decide (v = .non) = d.isNon := by
  cases r <;> simp [D.isNon]

/-- an operation of two ints -/
theorem opd_int {f : Value → Value → Sem Value} {C : Int → Int → Prop} {g : Int → Int → V} {gD : Int → Int → D} {F : D → D → Option D} (h : OpR X f (rI C g)) (hg : ∀ S H i j, Rep X.K S H (g i j) (gD i j))
    (hF : ∀ d e z, F d e = some z → ∃ i j, d = .int i ∧ e = .int j ∧ C i j ∧ z = gD i j) : OpD X f F := by
  intro pins s σ H x y v u Q I rx ry q
  obtain ⟨S, d, e, z, dm, r1, r2, hz, q⟩ := q
  obtain ⟨i, j, rfl, rfl, hc, rfl⟩ := hF d e z hz
  exact h pins s σ H x y v u Q I rx ry ⟨i, j, r1.intE, r2.intE, hc, q.here (hg S H i j)⟩
theorem opd_int0 {f : Value → Value → Sem Value} {g : Int → Int → V} {gD : Int → Int → D} {F : D → D → Option D} (h : OpR X f (rI0 g)) (hg : ∀ S H i j, Rep X.K S H (g i j) (gD i j))
    (hF : ∀ d e z, F d e = some z → ∃ i j, d = .int i ∧ e = .int j ∧ z = gD i j) : OpD X f F := by
  intro pins s σ H x y v u Q I rx ry q
  obtain ⟨S, d, e, z, dm, r1, r2, hz, q⟩ := q
  obtain ⟨i, j, rfl, rfl, rfl⟩ := hF d e z hz
  exact h pins s σ H x y v u Q I rx ry ⟨i, j, r1.intE, r2.intE, q.here (hg S H i j)⟩
theorem opd_sub : OpD X (binaryOp .Sub) dSub := opd_int0 (gD := fun i j => .int (i - j)) op_sub (fun _ _ i j => .int _) fun d e z h => by
  cases d <;> cases e <;> simp [dSub] at h
  exact ⟨_, _, rfl, rfl, h.symm⟩
theorem opd_fdiv : OpD X (binaryOp .FloorDiv) dFdiv := opd_int (gD := fun i j => .int (i / j)) op_fdivW (fun _ _ i j => .int _) fun d e z h => by
  cases d <;> cases e <;> simp [dFdiv] at h
  obtain ⟨c1, c2⟩ := Bool.and_eq_true_iff.mp h.1
  exact ⟨_, _, rfl, rfl, wide_div (of_decide_eq_true c1) (Nat.blt_eq.mp c2) (by decide) (by decide), h.2.symm⟩
theorem opd_mod : OpD X (binaryOp .Mod) dMod := opd_int (gD := fun i j => .int (i % j)) op_mod (fun _ _ i j => .int _) fun d e z h => by
  cases d <;> cases e <;> simp [dMod] at h
  exact ⟨_, _, rfl, rfl, h.1, h.2.symm⟩
theorem opd_pow : OpD X (binaryOp .Pow) dPow := opd_int (gD := fun i j => .int (i ^ j.toNat)) op_pow (fun _ _ i j => .int _) fun d e z h => by
  cases d <;> cases e <;> simp only [dPow, Option.ite_none_right_eq_some, Option.some.injEq, reduceCtorEq] at h
  exact ⟨_, _, rfl, rfl, powOk_of h.1, h.2.symm⟩
theorem opd_lt : OpD X (compareOp .Lt) dLt := opd_int0 (gD := fun i j => .bl (decide (i < j))) op_lt (fun _ _ i j => .bl _) fun d e z h => by
  cases d <;> cases e <;> simp [dLt] at h
  exact ⟨_, _, rfl, rfl, h.symm⟩
theorem opd_le : OpD X (compareOp .LtE) dLe := opd_int0 (gD := fun i j => .bl (decide (i ≤ j))) op_le (fun _ _ i j => .bl _) fun d e z h => by
  cases d <;> cases e <;> simp [dLe] at h
  exact ⟨_, _, rfl, rfl, h.symm⟩
theorem opd_gt : OpD X (compareOp .Gt) dGt := opd_int0 (gD := fun i j => .bl (decide (j < i))) op_gt (fun _ _ i j => .bl _) fun d e z h => by
  cases d <;> cases e <;> simp [dGt] at h
  exact ⟨_, _, rfl, rfl, h.symm⟩
theorem opd_ge : OpD X (compareOp .GtE) dGe := opd_int0 (gD := fun i j => .bl (decide (j ≤ i))) op_ge (fun _ _ i j => .bl _) fun d e z h => by
  cases d <;> cases e <;> simp [dGe] at h
  exact ⟨_, _, rfl, rfl, h.symm⟩
theorem und_neg : UnD X (unaryOp .USub) dNeg := by
  intro pins s σ H x v Q I rx q
  obtain ⟨S, d, z, dm, r1, hz, q⟩ := q
  cases d <;> simp [dNeg] at hz
  subst hz
  exact un_neg pins s σ H x v Q I rx ⟨_, r1.intE, q.here (.int _)⟩
theorem lim_abs {k : Nat} {i : Int} (h : lim k i = true) : i.natAbs < 2 ^ k := Nat.blt_eq.mp h
theorem lim_of {k : Nat} {i : Int} (h : lim k i = true) : -(2 ^ k) < i ∧ i < 2 ^ k := by
  have h1 := lim_abs h
  have e : ((2 ^ k : Nat) : Int) = 2 ^ k := by simp
  omega
theorem opd_add : OpD X (binaryOp .Add) dAdd := by
  intro pins s σ H x y v u Q I rx ry q
  obtain ⟨S, d, e, z, dm, r1, r2, hz, q⟩ := q
  cases d with
  | int i =>
    cases e <;> simp [dAdd] at hz
    subst hz
    exact op_add pins s σ H x y v u Q I rx ry ⟨_, _, r1.intE, r2.intE, q.here (.int _)⟩
  | str i =>
    cases e <;> simp [dAdd] at hz
    obtain ⟨h1, h2⟩ := hz
    subst h2
    exact op_add_str pins s σ H x y v u Q I rx ry ⟨_, _, r1.strE, r2.strE, okLe_of h1, q.here (.str _)⟩
  | lst xs =>
    cases e <;> simp [dAdd] at hz
    obtain ⟨h1, h2⟩ := hz
    subst h2
    obtain ⟨a, vs, e1, e2, e3⟩ := r1.lstH
    obtain ⟨b, ws, e4, e5, e6⟩ := r2.lstH
    exact op_cat pins s σ H x y v u Q I rx ry ⟨a, b, vs, ws, e1, e4, e2, e5, by rw [e3.length, e6.length]; exact okLe_of h1, q.lst dm (e3.append e6)⟩
  | tup xs =>
    cases xs with
    | nil => cases e <;> simp [dAdd] at hz
    | cons x0 xs =>
      cases e <;> simp only [dAdd, Option.ite_none_right_eq_some, Option.some.injEq, reduceCtorEq] at hz
      rename_i ys
      obtain ⟨h1, h2⟩ := hz
      subst h2
      obtain ⟨a, vs, e1, e2, e3⟩ := r1.seqT
      obtain ⟨b, ws, e4, e5, e6⟩ := r2.seqT
      have l1 := e3.length
      have l2 := e6.length
      refine op_catT pins s σ H x y v u Q I rx ry ⟨a, b, vs, ws, e1, e4, e2, e5, ?_, by rw [l1, l2]; exact okLe_of h1, ?_, ?_⟩
      · intro z
        rw [z] at l1
        cases l1
      · intro z
        subst z
        cases e6
        rw [e1] at r1
        rw [List.append_nil] at q
        exact q.here r1
      · intro _ p hp
        exact q.tup dm (e3.append e6) p hp
  | _ => cases e <;> simp [dAdd] at hz
theorem opd_mul : OpD X (binaryOp .Mult) dMul := by
  intro pins s σ H x y v u Q I rx ry q
  obtain ⟨S, d, e, z, dm, r1, r2, hz, q⟩ := q
  cases d with
  | int i =>
    cases e <;> simp only [dMul, Option.ite_none_right_eq_some, Option.some.injEq, reduceCtorEq] at hz
    rename_i j
    obtain ⟨h1, h2⟩ := hz
    subst h2
    simp only [mulOk, Bool.or_eq_true, Bool.and_eq_true] at h1
    rcases h1 with (h1 | h1) | ⟨h1, h2⟩
    · exact op_mul pins s σ H x y v u Q I rx ry ⟨_, _, r1.intE, r2.intE, .inl (lim_of h1), q.here (.int _)⟩
    · exact op_mul pins s σ H x y v u Q I rx ry ⟨_, _, r1.intE, r2.intE, .inr (lim_of h1), q.here (.int _)⟩
    · exact op_mulW pins s σ H x y v u Q I rx ry ⟨_, _, r1.intE, r2.intE, wide_mul (lim_abs h1) (lim_abs h2) (by decide) (by decide) (by decide), q.here (.int _)⟩
  | lst xs =>
    cases e <;> simp only [dMul, Option.ite_none_right_eq_some, Option.some.injEq, reduceCtorEq] at hz
    obtain ⟨h5, h4⟩ := hz
    subst h4
    obtain ⟨h6, h3⟩ := Bool.and_eq_true_iff.mp (show (lim 63 _ && okLe _) = true from h5)
    obtain ⟨h1, h2⟩ := lim_of h6
    have h3 := okLe_of h3
    obtain ⟨a, vs, e1, e2, e3⟩ := r1.lstH
    exact op_rep pins s σ H x y v u Q I rx ry ⟨a, _, vs, e1, r2.intE, e2, Int.le_of_lt h1, h2, by rw [e3.length]; exact h3, q.lst dm (e3.flat _)⟩
  | _ => cases e <;> simp [dMul] at hz
theorem opd_eq (hu : X.A.units + 64 < cLine) : OpD X (compareOp .Eq) dEq := by
  intro pins s σ H x y v u Q I rx ry q
  obtain ⟨S, d, e, z, dm, r1, r2, hz, q⟩ := q
  unfold dEq dEqB at hz
  split at hz
  · simp only [Option.map_some, Option.some.injEq] at hz
    subst hz
    have e1 := r1.strE
    have e2 := r2.strE
    subst e1
    subst e2
    exact op_eq pins s σ H _ _ v u Q I rx ry ⟨rfl, by rw [dec_str]; exact q.here (.bl _)⟩
  · simp only [Option.map_some, Option.some.injEq] at hz
    subst hz
    have e1 := r1.intE
    have e2 := r2.intE
    subst e1
    subst e2
    exact op_eq pins s σ H _ _ v u Q I rx ry ⟨rfl, by rw [dec_int]; exact q.here (.bl _)⟩
  unfold dEqP at hz
  cases h1 : d.py with
  | none => rw [h1] at hz; cases hz
  | some a =>
    cases h2 : e.py with
    | none => rw [h1, h2] at hz; cases hz
    | some b =>
      rw [h1, h2] at hz
      by_cases c : (SeqAt.shaped a && SeqAt.shaped b) = true
      · simp only [c, if_true, Option.map_some, Option.some.injEq] at hz
        subst hz
        obtain ⟨c1, c2⟩ := Bool.and_eq_true_iff.mp c
        exact op_eqD hu pins s σ H x y v u Q I rx ry ⟨a, b, r1.py h1, r2.py h2, c1, c2, q.here (.bl _)⟩
      · simp only [c] at hz
        cases hz
theorem opd_ne (hu : X.A.units + 64 < cLine) : OpD X (compareOp .NotEq) dNe := by
  intro pins s σ H x y v u Q I rx ry q
  obtain ⟨S, d, e, z, dm, r1, r2, hz, q⟩ := q
  unfold dNe dEqB at hz
  split at hz
  · simp only [Option.map_some, Option.some.injEq] at hz
    subst hz
    have e1 := r1.strE
    have e2 := r2.strE
    subst e1
    subst e2
    exact op_ne pins s σ H _ _ v u Q I rx ry ⟨rfl, by rw [dec_str]; exact q.here (.bl _)⟩
  · simp only [Option.map_some, Option.some.injEq] at hz
    subst hz
    have e1 := r1.intE
    have e2 := r2.intE
    subst e1
    subst e2
    exact op_ne pins s σ H _ _ v u Q I rx ry ⟨rfl, by rw [dec_int]; exact q.here (.bl _)⟩
  unfold dEqP at hz
  cases h1 : d.py with
  | none => rw [h1] at hz; cases hz
  | some a =>
    cases h2 : e.py with
    | none => rw [h1, h2] at hz; cases hz
    | some b =>
      rw [h1, h2] at hz
      by_cases c : (SeqAt.shaped a && SeqAt.shaped b) = true
      · simp only [c, if_true, Option.map_some, Option.some.injEq] at hz
        subst hz
        obtain ⟨c1, c2⟩ := Bool.and_eq_true_iff.mp c
        exact op_neD hu pins s σ H x y v u Q I rx ry ⟨a, b, r1.py h1, r2.py h2, c1, c2, q.here (.bl _)⟩
      · simp only [c] at hz
        cases hz
/-- is None, is not None -/
theorem de_isN {E : Sg → XK} {a : Expr} {f : FE} {pos p2 : Pos} {j : Nat} (h : DE X E a f) : DE X E (.Compare a [.Is] [.Constant .none j p2] pos) (fU dIsN f) := by
  refine PE.imp (pe_cmp (pc_isN h)) fun σ H Q hq => ?_
  obtain ⟨S, δ, st, q⟩ := hq
  refine ⟨S, δ, st, (Res.on q).imp fun d q1 v H1 e1 r1 => ?_⟩
  have q2 : Giv X.K S H (.bl d.isNon) Q := q1
  show Q (.bl (decide (v = .non))) H1
  rw [r1.non_iff]
  exact q2 _ H1 e1 (.bl _)
theorem de_notN {E : Sg → XK} {a : Expr} {f : FE} {pos p2 : Pos} {j : Nat} (h : DE X E a f) : DE X E (.Compare a [.IsNot] [.Constant .none j p2] pos) (fU dNotN f) := by
  refine PE.imp (pe_cmp (pc_notN h)) fun σ H Q hq => ?_
  obtain ⟨S, δ, st, q⟩ := hq
  refine ⟨S, δ, st, (Res.on q).imp fun d q1 v H1 e1 r1 => ?_⟩
  have q2 : Giv X.K S H (.bl (!d.isNon)) Q := q1
  show Q (.bl (!decide (v = .non))) H1
  rw [r1.non_iff]
  exact q2 _ H1 e1 (.bl _)
/-! ### in -/
theorem Rep.flatV {K : PySem.W.Frag} {S : Addr → Prop} {H : Hp} {v : V} {d : D} (r : Rep K S H v d) (h : d.flat = true) : flatV v = true := by
  cases r <;> first | rfl | cases h
theorem Rep.eqV {K : PySem.W.Frag} {S : Addr → Prop} {H : Hp} {v w : V} {d e : D} (r : Rep K S H v d) (r2 : Rep K S H w e) (h : d.flat = true) (h2 : e.flat = true) : eqV v w = flatEq d e := by
  cases r <;> first | (cases r2 <;> first | rfl | cases h2) | cases h
theorem RepL.flatV {K : PySem.W.Frag} {S : Addr → Prop} {H : Hp} : ∀ {vs : List V} {ds : List D}, RepL K S H vs ds → ds.all D.flat = true → vs.all L2.flatV = true
  | _, _, .nil, _ => rfl
  | _, _, .cons h r, e => by
    rw [List.all_cons, Bool.and_eq_true] at e ⊢
    exact ⟨h.flatV e.1, r.flatV e.2⟩
theorem RepL.inV {K : PySem.W.Frag} {S : Addr → Prop} {H : Hp} {v : V} {d : D} (q : Rep K S H v d) (hd : d.flat = true) : ∀ {vs : List V} {ds : List D}, RepL K S H vs ds → ds.all D.flat = true → L2.inV v vs = inB d ds
  | _, _, .nil, _ => rfl
  | _, _, .cons h r, e => by
    rw [List.all_cons, Bool.and_eq_true] at e
    have e1 := RepL.inV q hd r e.2
    unfold L2.inV inB at e1 ⊢
    rw [List.any_cons, List.any_cons, e1, h.eqV q e.1 hd]
/-! a dict's keys -/
abbrev kvsOf (ks : List Ky) (vs : List V) : List (Key × V) := ks.zip vs
theorem Rep.keyV {K : PySem.W.Frag} {S : Addr → Prop} {H : Hp} {v : V} {d : D} {k : Ky} (r : Rep K S H v d) (h : d.key = some k) : v = kV k := by
  cases r <;> simp only [D.key, Option.some.injEq, reduceCtorEq] at h
  · subst h; rfl
  · subst h; rfl
theorem valV_of : ∀ {ks : List Ky} {vs : List V} {k : Ky}, ks.length = vs.length → (valV (kvsOf ks vs) k).isSome = kIn k ks
  | [], [], k, _ => by simp [valV, kIn]
  | [], _ :: _, _, h => by cases h
  | _ :: _, [], _, h => by cases h
  | x :: ks, v :: vs, k, h => by
    have ih := valV_of (k := k) (Nat.succ.inj h)
    show (valV ((x, v) :: kvsOf ks vs) k).isSome = if x = k then true else kIn k ks
    by_cases e : x = k
    · subst e
      rw [valV_pos (p := ((x : Key), v)) rfl, if_pos rfl]
      rfl
    · rw [valV_neg (p := ((x : Key), v)) e, ih, if_neg e]
theorem valV_get : ∀ {K : PySem.W.Frag} {S : Addr → Prop} {H : Hp} {ks : List Ky} {vs : List V} {ds : List D} {k : Ky} {d : D}, ks.length = vs.length → RepL K S H vs ds → kGet ks ds k = some d → ∃ v, valV (kvsOf ks vs) k = some v ∧ Rep K S H v d
  | _, _, _, [], _, _, _, _, _, _, h => by unfold kGet at h; cases h
  | _, _, _, _ :: _, [], _, _, _, l, _, _ => by cases l
  | _, _, _, x :: ks, v :: vs, _, k, d, l, .cons (d := e) (ds := es) r rs, h => by
    have h' : (if x = k then some e else kGet ks es k) = some d := h
    show ∃ w, valV ((x, v) :: kvsOf ks vs) k = some w ∧ _
    by_cases q : x = k
    · rw [if_pos q] at h'
      cases h'
      subst q
      exact ⟨v, valV_pos (p := ((x : Key), v)) rfl, r⟩
    · rw [if_neg q] at h'
      obtain ⟨w, h1, h2⟩ := valV_get (Nat.succ.inj l) rs h'
      exact ⟨w, by rw [valV_neg (p := ((x : Key), v)) q]; exact h1, h2⟩
theorem valV_no : ∀ {ks : List Ky} {vs : List V} {ds : List D} {k : Ky}, ks.length = vs.length → vs.length = ds.length → kGet ks ds k = none → valV (kvsOf ks vs) k = none
  | [], _, _, _, _, _, _ => by simp [valV]
  | _ :: _, [], _, _, l, _, _ => by cases l
  | _ :: _, _ :: _, [], _, _, l, _ => by cases l
  | x :: ks, v :: vs, e :: es, k, l, l2, h => by
    have h' : (if x = k then some e else kGet ks es k) = none := h
    show valV ((x, v) :: kvsOf ks vs) k = none
    by_cases q : x = k
    · rw [if_pos q] at h'; cases h'
    · rw [if_neg q] at h'
      rw [valV_neg (p := ((x : Key), v)) q]
      exact valV_no (Nat.succ.inj l) (Nat.succ.inj l2) h'
theorem op_inD (hu : X.A.units + 1 < cLine) : OpR X (compareOp .In) fun x y H Q => ∃ (a : Addr) (k : Ky) (ks : List Ky) (vs : List V), x = kV k ∧ y = .ref a ∧ H a = some (.dK (kvsOf ks vs)) ∧ ks.length = vs.length ∧ Q (.bl (kIn k ks)) H := by
  intro pins s σ H x y v u Q I rx ry h
  obtain ⟨a, k, ks, vs, rfl, rfl, h, l, q⟩ := h
  obtain rfl : u = Value.ref a := ry
  refine d_in hu I (DGet.k (k := k) h) rx fun s' I' => ?_
  rw [valV_of l]
  exact ⟨.bl _, H, I', rfl, q⟩
theorem op_notInD (hu : X.A.units + 1 < cLine) : OpR X (compareOp .NotIn) fun x y H Q => ∃ (a : Addr) (k : Ky) (ks : List Ky) (vs : List V), x = kV k ∧ y = .ref a ∧ H a = some (.dK (kvsOf ks vs)) ∧ ks.length = vs.length ∧ Q (.bl (!kIn k ks)) H := by
  intro pins s σ H x y v u Q I rx ry h
  obtain ⟨a, k, ks, vs, rfl, rfl, h, l, q⟩ := h
  obtain rfl : u = Value.ref a := ry
  refine d_notIn hu I (DGet.k (k := k) h) rx fun s' I' => ?_
  rw [valV_of l]
  exact ⟨.bl _, H, I', rfl, q⟩
/-- in, by what it answers -/
theorem opd_inG {op : CmpOp} {neg : Bool} (h1 : OpR X (compareOp op) (rIn X.K neg)) (h2 : OpR X (compareOp op) fun x y H Q => ∃ i j, x = .str i ∧ y = .str j ∧ Q (.bl (if neg then !(!(Builtin.Str.occurrences j i 0 j.length 1).isEmpty) else !(Builtin.Str.occurrences j i 0 j.length 1).isEmpty)) H)
    (h3 : OpR X (compareOp op) fun x y H Q => ∃ (a : Addr) (k : Ky) (ks : List Ky) (vs : List V), x = kV k ∧ y = .ref a ∧ H a = some (.dK (kvsOf ks vs)) ∧ ks.length = vs.length ∧ Q (.bl (if neg then !kIn k ks else kIn k ks)) H) :
    OpD X (compareOp op) fun x y => (dInB x y).map fun b => .bl (if neg then !b else b) := by
  intro pins s σ H x y v u Q I rx ry q
  obtain ⟨S, d, e, z, dm, r1, r2, hz, q⟩ := q
  obtain ⟨b, hb, ez⟩ := Option.map_eq_some_iff.mp hz
  subst ez
  have tl : ∀ a xs ds, y = .ref a → (SqL X.K H a xs ∨ SqT X.K H a xs) → RepL X.K S H xs ds → (d.flat && ds.all D.flat) = true → inB d ds = b → wpAny (model X.prog X.w) X.A (compareOp op v u) (EP X pins σ Q) X.xe s := by
    intro a xs ds e1 e2 e3 e4 e5
    obtain ⟨f1, f2⟩ := Bool.and_eq_true_iff.mp e4
    refine h1 pins s σ H x y v u Q I rx ry ⟨a, xs, e1, e2, r1.flatV f1, e3.flatV f2, ?_⟩
    rw [RepL.inV r1 f1 e3 f2, e5]
    exact q.here (.bl _)
  cases e with
  | tup ds =>
    obtain ⟨a, xs, e1, e2, e3⟩ := r2.seqT
    cases d <;> (simp only [dInB, Option.ite_none_right_eq_some, Option.some.injEq] at hb; exact tl a xs ds e1 (.inr e2) e3 hb.1 hb.2)
  | lst ds =>
    obtain ⟨a, xs, e1, e2, e3⟩ := r2.lstH
    cases d <;> (simp only [dInB, Option.ite_none_right_eq_some, Option.some.injEq] at hb; exact tl a xs ds e1 (.inl (SqL.of e2)) e3 hb.1 hb.2)
  | str j =>
    cases d <;> simp only [dInB, Option.some.injEq, reduceCtorEq] at hb
    subst hb
    exact h2 pins s σ H x y v u Q I rx ry ⟨_, _, r1.strE, r2.strE, q.here (.bl _)⟩
  | dic ks ds =>
    obtain ⟨k, hk, eb⟩ : ∃ k, d.key = some k ∧ kIn k ks = b := by
      cases d <;> simp [dInB, D.key] at hb
      all_goals exact ⟨_, rfl, by simpa using hb⟩
    subst eb
    cases r2 with
    | dic h n l nd r => exact h3 pins s σ H _ _ v u Q I rx ry ⟨_, k, ks, _, r1.keyV hk, rfl, h, l, q.here (.bl _)⟩
  | _ => cases d <;> simp [dInB] at hb
theorem opd_in (hu : X.A.units + 1 < cLine) : OpD X (compareOp .In) dIn := opd_inG (neg := false) op_in_seq op_in_str (op_inD hu)
theorem opd_notIn (hu : X.A.units + 1 < cLine) : OpD X (compareOp .NotIn) dNotIn := opd_inG (neg := true) op_notIn_seq op_notin_str (op_notInD hu)
/-! ### items -/
theorem repL_atI {K : PySem.W.Frag} {S : Addr → Prop} {H : Hp} {vs : List V} {ds : List D} {i : Int} {d : D} (r : RepL K S H vs ds) (h : L2.atI ds i = some d) : ∃ v, L2.atI vs i = some v ∧ Rep K S H v d := by
  unfold L2.atI at h ⊢
  rw [r.length]
  cases e : L2.ixN ds.length i with
  | none => rw [e] at h; cases h
  | some j =>
    rw [e] at h
    exact r.get (i := j) h
theorem ixd_all (hu : X.A.units + 1 < cLine) : IxD X dIx := by
  intro value slice pins s σ H x y v u Q I rx ry q hs
  obtain ⟨S, d, e, z, dm, r1, r2, hz, q⟩ := q
  cases d with
  | lst ds =>
    cases e <;> simp only [dIx, reduceCtorEq] at hz
    obtain ⟨a, xs, e1, e2, e3⟩ := r1.lstH
    obtain ⟨w, h1, h2⟩ := repL_atI e3 hz
    exact ix_list value slice pins s σ H x y v u Q I rx ry ⟨a, xs, _, w, e1, r2.intE, SqL.of e2, h1, q.here h2⟩ hs
  | tup ds =>
    cases e <;> simp only [dIx, reduceCtorEq] at hz
    obtain ⟨a, xs, e1, e2, e3⟩ := r1.seqT
    obtain ⟨w, h1, h2⟩ := repL_atI e3 hz
    exact ix_tup value slice pins s σ H x y v u Q I rx ry ⟨a, xs, _, w, e1, r2.intE, e2, h1, q.here h2⟩ hs
  | scr ds =>
    cases e <;> simp only [dIx, reduceCtorEq] at hz
    obtain ⟨a, xs, e1, e2, e3⟩ := r1.scrH
    obtain ⟨w, h1, h2⟩ := repL_atI e3 hz
    exact ix_list value slice pins s σ H x y v u Q I rx ry ⟨a, xs, _, w, e1, r2.intE, e2, h1, q.here h2⟩ hs
  | str i =>
    cases e <;> simp only [dIx, Option.ite_none_right_eq_some, reduceCtorEq] at hz
    obtain ⟨h1, h2⟩ := hz
    obtain ⟨c, h3, h4⟩ := Option.map_eq_some_iff.mp h2
    subst h4
    exact ix_str value slice pins s σ H x y v u Q I rx ry ⟨_, _, c, r1.strE, r2.intE, okLe_of h1, h3, q.here (.str _)⟩ hs
  | dic ks ds =>
    obtain ⟨k, hk, hz⟩ := Option.bind_eq_some_iff.mp (show (e.key.bind fun k => kGet ks ds k) = some z from hz)
    cases r1 with
    | dic h n l nd r =>
      rename_i a vs
      obtain ⟨w, h1, h2⟩ := valV_get l r hz
      obtain rfl : v = Value.ref a := rx
      have g : DGet H a y (some w) := by
        rw [r2.keyV hk, ← h1]
        exact DGet.k (k := k) h
      exact PyProof.Rows.tail_any (dict_typeIs I g) PySem.F.slot_dict_getitem.lookup (d_getItem hu I g ry fun w' s' I' r' => ⟨w, H, I', r', q.here h2⟩) hs
  | _ => cases e <;> simp [dIx] at hz
/-! ### built-ins -/
theorem vl1 {K : PySem.W.Frag} {S : Addr → Prop} {H : Hp} {xs : List V} {d : D} (r : RepL K S H xs [d]) : ∃ v, xs = [v] ∧ Rep K S H v d := by
  cases r with
  | cons h r => cases r; exact ⟨_, rfl, h⟩
theorem vl2 {K : PySem.W.Frag} {S : Addr → Prop} {H : Hp} {xs : List V} {d e : D} (r : RepL K S H xs [d, e]) : ∃ v w, xs = [v, w] ∧ Rep K S H v d ∧ Rep K S H w e := by
  cases r with
  | cons h r =>
    cases r with
    | cons h2 r => cases r; exact ⟨_, _, rfl, h, h2⟩
theorem one_of {F : List D → Option D} {G : D → Option D} (h : ∀ ds z, F ds = some z → ∃ d, ds = [d] ∧ G d = some z) {ds : List D} {z : D} (e : F ds = some z) : ∃ d, ds = [d] ∧ G d = some z := h ds z e
theorem cd_len : CallD X (.builtin "len") dLen := by
  intro pins s σ H xs us Q I r q
  obtain ⟨S, ds, z, dm, rl, hz, q⟩ := q
  match ds, hz with
  | [.lst ys], hz =>
    simp only [dLen, Option.some.injEq] at hz
    subst hz
    obtain ⟨v, rfl, r1⟩ := vl1 rl
    obtain ⟨a, ws, e1, e2, e3⟩ := r1.lstH
    exact call_len pins s σ H _ us Q I r ⟨v, ys.length, rfl, by rw [e1]; exact .inl ⟨ws, SqL.of e2, e3.length.symm⟩, q.here (.int _)⟩
  | [.tup ys], hz =>
    simp only [dLen, Option.some.injEq] at hz
    subst hz
    obtain ⟨v, rfl, r1⟩ := vl1 rl
    obtain ⟨a, ws, e1, e2, e3⟩ := r1.seqT
    exact call_len pins s σ H _ us Q I r ⟨v, ys.length, rfl, by rw [e1]; exact .inr ⟨ws, e2, e3.length.symm⟩, q.here (.int _)⟩
  | [.scr ys], hz =>
    simp only [dLen, Option.some.injEq] at hz
    subst hz
    obtain ⟨v, rfl, r1⟩ := vl1 rl
    obtain ⟨a, ws, e1, e2, e3⟩ := r1.scrH
    exact call_len pins s σ H _ us Q I r ⟨v, ys.length, rfl, by rw [e1]; exact .inl ⟨ws, e2, e3.length.symm⟩, q.here (.int _)⟩
  | [.str y], hz =>
    simp only [dLen, Option.ite_none_right_eq_some, Option.some.injEq] at hz
    obtain ⟨h1, h2⟩ := hz
    subst h2
    obtain ⟨v, rfl, r1⟩ := vl1 rl
    exact call_len pins s σ H _ us Q I r ⟨v, y.length, rfl, by rw [r1.strE]; exact ⟨okLe_of h1, rfl⟩, q.here (.int _)⟩
  | [.dic ks _], hz =>
    simp only [dLen, Option.some.injEq] at hz
    subst hz
    obtain ⟨v, rfl, r1⟩ := vl1 rl
    cases r1 with
    | dic h n l nd r' =>
      rename_i a vs
      refine call_lenD pins s σ H _ us Q I r ⟨a, _, rfl, h, ?_⟩
      have e : (kvsOf ks vs).length = ks.length := by
        show (ks.zip vs).length = _
        rw [List.length_zip, l, Nat.min_self]
      have e2 : Q (.int (kvsOf ks vs).length) H := by
        rw [e]
        exact q.here (.int _)
      exact e2
  | [], hz => cases hz
  | _ :: _ :: _, hz => simp [dLen] at hz
  | [.non], hz => simp [dLen] at hz
  | [.bl _], hz => simp [dLen] at hz
  | [.int _], hz => simp [dLen] at hz
  | [.obj _ _], hz => simp [dLen] at hz
  | [.fn _], hz => simp [dLen] at hz
theorem cd_abs : CallD X (.builtin "abs") dAbs := by
  intro pins s σ H xs us Q I r q
  obtain ⟨S, ds, z, dm, rl, hz, q⟩ := q
  unfold dAbs at hz
  split at hz
  · cases hz
    obtain ⟨v, rfl, r1⟩ := vl1 rl
    exact call_abs pins s σ H _ us Q I r ⟨_, by rw [r1.intE], q.here (.int _)⟩
  · cases hz
theorem cd_max2 (hc : X.calm = true) : CallD X (.builtin "max") dMax2 := by
  intro pins s σ H xs us Q I r q
  obtain ⟨S, ds, z, dm, rl, hz, q⟩ := q
  unfold dMax2 at hz
  split at hz
  · cases hz
    obtain ⟨v, w, rfl, r1, r2⟩ := vl2 rl
    exact call_max2 hc pins s σ H _ us Q I r ⟨_, _, by rw [r1.intE, r2.intE], q.here (.int _)⟩
  · cases hz
theorem cd_min2 (hc : X.calm = true) : CallD X (.builtin "min") dMin2 := by
  intro pins s σ H xs us Q I r q
  obtain ⟨S, ds, z, dm, rl, hz, q⟩ := q
  unfold dMin2 at hz
  split at hz
  · cases hz
    obtain ⟨v, w, rfl, r1, r2⟩ := vl2 rl
    exact call_min2 hc pins s σ H _ us Q I r ⟨_, _, by rw [r1.intE, r2.intE], q.here (.int _)⟩
  · cases hz
theorem cd_int : CallD X (.type "int") dInt := by
  intro pins s σ H xs us Q I r q
  obtain ⟨S, ds, z, dm, rl, hz, q⟩ := q
  unfold dInt at hz
  split at hz
  · cases hz
    obtain ⟨v, rfl, r1⟩ := vl1 rl
    exact call_int1 pins s σ H _ us Q I r (.inl ⟨_, by rw [r1.intE], q.here (.int _)⟩)
  · cases hz
theorem cd_str : CallD X (.type "str") dStr := by
  intro pins s σ H xs us Q I r q
  obtain ⟨S, ds, z, dm, rl, hz, q⟩ := q
  unfold dStr at hz
  split at hz
  · simp only [Option.ite_none_right_eq_some, Option.some.injEq] at hz
    obtain ⟨h1, h2⟩ := hz
    subst h2
    obtain ⟨v, rfl, r1⟩ := vl1 rl
    exact call_str_int pins s σ H _ us Q I r ⟨_, by rw [r1.intE], h1, q.here (.str _)⟩
  · cases hz
    obtain ⟨v, rfl, r1⟩ := vl1 rl
    exact SkE.call_str_str pins s σ H _ us Q I r ⟨_, by rw [r1.strE], q.here (.str _)⟩
  · cases hz
theorem cd_list : CallD X (.type "list") dList := by
  intro pins s σ H xs us Q I r q
  obtain ⟨S, ds, z, dm, rl, hz, q⟩ := q
  unfold dList at hz
  split at hz
  · cases hz
    obtain ⟨v, rfl, r1⟩ := vl1 rl
    obtain ⟨a, ws, e1, e2, e3⟩ := r1.lstH
    exact call_list_of pins s σ H _ us Q I r ⟨a, ws, by rw [e1], .inl (SqL.of e2), q.lst dm e3⟩
  · cases hz
    obtain ⟨v, rfl, r1⟩ := vl1 rl
    obtain ⟨a, ws, e1, e2, e3⟩ := r1.seqT
    exact call_list_of pins s σ H _ us Q I r ⟨a, ws, by rw [e1], .inr e2, q.lst dm e3⟩
  · cases hz
theorem cd_tuple : CallD X (.type "tuple") dTuple := by
  intro pins s σ H xs us Q I r q
  obtain ⟨S, ds, z, dm, rl, hz, q⟩ := q
  unfold dTuple at hz
  split at hz
  · cases hz
    obtain ⟨v, rfl, r1⟩ := vl1 rl
    obtain ⟨a, ws, e1, e2, e3⟩ := r1.lstH
    exact call_tuple_of pins s σ H _ us Q I r ⟨a, ws, by rw [e1], .inl ⟨SqL.of e2, q.tup dm e3⟩⟩
  · cases hz
    obtain ⟨v, rfl, r1⟩ := vl1 rl
    obtain ⟨a, ws, e1, e2, e3⟩ := r1.seqT
    exact call_tuple_of pins s σ H _ us Q I r ⟨a, ws, by rw [e1], .inr ⟨e2, by rw [← e1]; exact q.here r1⟩⟩
  · cases hz
theorem cb_of {E : Sg → XK} {σ : Sg} {H : Hp} {Q : VK} {f : Value} {F : List D → Option D} {fl : FL} (h : tD X.K E (fL F fl) σ H Q) :
    tCB (fun xs H Q => ∃ S ds z, Dom S H ∧ RepL X.K S H xs ds ∧ F ds = some z ∧ Giv X.K S H z Q) (tDL X.K E fl) σ H Q := by
  obtain ⟨S, δ, st, q⟩ := h
  refine ⟨S, δ, st, (Res.on q).imp fun ds q1 vs H1 e1 r1 => ?_⟩
  obtain ⟨z, hz, q2⟩ := Res.of q1
  exact ⟨S, ds, z, (st.mono e1).here, r1, hz, fun w H2 e2 r2 => q2 w H2 (e1.trans e2) r2⟩
theorem de_callB {E : Sg → XK} {x : Str} {p pos : Pos} {e : Expr} {es : List Expr} {fl : FL} {id : String} {F : List D → Option D} (hc : CallD X (.builtin id) F) (hg : Gl X x) (hm : X.mg x = none) (hv : bootBuiltins x = some (.builtin id)) (ha : DA X E (e :: es) fl)
    (hn : x ≠ "__name__" := by decide) (hdb : (x == ("__debug__" : Str)) = false := by decide) (he : starEach (e :: es) X.env = (false, eval e X.env) :: starEach es X.env := by rfl) (hpl : (backTo pos (starEach es X.env)).any (·.1) = false := by rfl) :
    DE X E (.Call (.Name x p) (e :: es) [] pos) (fL F fl) := PE.imp (pe_callB hc hg hm hv ha.pa hn hdb he hpl) fun σ H Q h => cb_of (f := .builtin id) h
theorem de_callTy {E : Sg → XK} {x : Str} {p pos : Pos} {e : Expr} {es : List Expr} {fl : FL} {T : String} {F : List D → Option D} (hc : CallD X (.type T) F) (hg : Gl X x) (hm : X.mg x = none) (hv : bootBuiltins x = some (.type T)) (ha : DA X E (e :: es) fl)
    (hn : x ≠ "__name__" := by decide) (hdb : (x == ("__debug__" : Str)) = false := by decide) (he : starEach (e :: es) X.env = (false, eval e X.env) :: starEach es X.env := by rfl) (hpl : (backTo pos (starEach es X.env)).any (·.1) = false := by rfl) :
    DE X E (.Call (.Name x p) (e :: es) [] pos) (fL F fl) := PE.imp (pe_callTy hc hg hm hv ha.pa hn hdb he hpl) fun σ H Q h => cb_of (f := .type T) h
end
end DL

/-! DStmt: the rules of statements over the data. -/
namespace DL
open PySem PySem.Spec PyProof.Rows L2

/-- how a statement ends -/
inductive O where
  | nx (δ : DSt) | rt (d : D) (δ : DSt) | bk (δ : DSt) | ct (δ : DSt) | exc (n : Str) (xs : List D) | bad
abbrev FS := DSt → O
def O.on {α : Type} (r : R α) (f : α → O) : O := match r with
  | .ok a => f a
  | .exc n xs => .exc n xs
  | .bad => .bad
@[simp] theorem O.on_ok {α : Type} (a : α) (f : α → O) : O.on (R.ok a) f = f a := rfl
@[simp] theorem O.on_exc {α : Type} (n : Str) (xs : List D) (f : α → O) : O.on (R.exc n xs) f = .exc n xs := rfl
@[simp] theorem O.on_bad {α : Type} (f : α → O) : O.on (R.bad : R α) f = .bad := rfl
/-- what stood and may not change stays -/
structure Ev (S : Addr → Prop) (H : Hp) (S' : Addr → Prop) (H' : Hp) : Prop where
  keep : ∀ b o, H b = some o → ¬ S b → H' b = some o
  off : ∀ b o, H b = some o → ¬ S b → ¬ S' b
theorem Ev.refl {S : Addr → Prop} {H : Hp} : Ev S H S H := ⟨fun _ _ h _ => h, fun _ _ _ n => n⟩
theorem Ev.trans {S S1 S2 : Addr → Prop} {H H1 H2 : Hp} (a : Ev S H S1 H1) (b : Ev S1 H1 S2 H2) : Ev S H S2 H2 :=
  ⟨fun c o h n => b.keep c o (a.keep c o h n) (a.off c o h n), fun c o h n => b.off c o (a.keep c o h n) (a.off c o h n)⟩
theorem Ev.same {S : Addr → Prop} {H H' : Hp} (e : Same H H') : Ev S H S H' := ⟨fun b o h _ => e b o h, fun _ _ _ n => n⟩
theorem Rep.ev {K : PySem.W.Frag} {S S' : Addr → Prop} {H H' : Hp} (e : Ev S H S' H') {v : V} {d : D} (r : Rep K S H v d) : Rep K S' H' v d := r.to e.keep e.off
theorem RepL.ev {K : PySem.W.Frag} {S S' : Addr → Prop} {H H' : Hp} (e : Ev S H S' H') {v : List V} {d : List D} (r : RepL K S H v d) : RepL K S' H' v d := r.to e.keep e.off

/-- what stood stays, but at M -/
def KeepM (M : Addr → Prop) (H0 H : Hp) : Prop := ∀ b o, H0 b = some o → ¬ M b → H b = some o
theorem KeepM.trans {M : Addr → Prop} {H0 H H' : Hp} (k : KeepM M H0 H) (e : Same H H') : KeepM M H0 H' := fun b o h n => e b o (k b o h n)
theorem KeepM.refl {M : Addr → Prop} {H : Hp} : KeepM M H H := fun _ _ h _ => h
abbrev NoM : Addr → Prop := fun _ => False
theorem KeepM.all {H0 H : Hp} (k : KeepM NoM H0 H) : Same H0 H := fun b o h => k b o h fun z => z
structure StS (K : PySem.W.Frag) (M : Addr → Prop) (S0 : Addr → Prop) (H0 : Hp) (S : Addr → Prop) (σ : Sg) (H : Hp) (δ : DSt) : Prop where
  st : StE K S σ H δ
  same : KeepM M H0 H
  sub : ∀ b, S0 b → S b
  dom : Dom S0 H0
  ms : ∀ b, M b → S0 b
  own : ∀ (i : Nat) (a : Addr) (t : DS), δ[i]? = some t → t.mutb = true → σ[i]? = some (some (.ref a)) → (H0 a = none ∧ ∀ c fs, t ≠ .ob c fs) ∨ (M a ∧ ∃ c fs, t = .ob c fs)
/-- an address that is free now was free -/
theorem StS.free {K : PySem.W.Frag} {M S0 S : Addr → Prop} {H0 H : Hp} {σ : Sg} {δ : DSt} (s : StS K M S0 H0 S σ H δ) {p : Addr} (hp : H p = none) : H0 p = none := by
  cases q : H0 p with
  | none => rfl
  | some o =>
    exfalso
    have nS : ¬ S p := fun z => by
      obtain ⟨o', h⟩ := s.st.here p z
      rw [hp] at h; cases h
    have := s.same p o q fun z => nS (s.sub p (s.ms p z))
    rw [hp] at this; cases this
def Fin (K : PySem.W.Frag) (M : Addr → Prop) (S0 : Addr → Prop) (H0 : Hp) (E : XK) (D : Ends) (S : Addr → Prop) (H : Hp) : O → Prop
  | .nx δ => ∀ S' σ' H', StS K M S0 H0 S' σ' H' δ → Ev S H S' H' → D.nx σ' H'
  | .rt d δ => ∀ S' σ' v H', StS K M S0 H0 S' σ' H' δ → Rep K S' H' v d → D.rt v H'
  | .bk δ => ∀ S' σ' H', StS K M S0 H0 S' σ' H' δ → Ev S H S' H' → D.bk σ' H'
  | .ct δ => ∀ S' σ' H', StS K M S0 H0 S' σ' H' δ → Ev S H S' H' → D.ct σ' H'
  | .exc n xs => ∀ cls dx H', KeepM M H0 H' → ExR K S0 H' cls dx n xs → E cls dx H'
  | .bad => False
def tS (K : PySem.W.Frag) (M : Addr → Prop) (S0 : Addr → Prop) (H0 : Hp) (E : XK) (F : FS) : TS := fun D σ H => ∃ S δ, StS K M S0 H0 S σ H δ ∧ Fin K M S0 H0 E D S H (F δ)
/-- the entry's heap, the caller's own, and what of it may be changed here -/
structure Ent where
  M : Addr → Prop
  S : Addr → Prop
  H : Hp
def DSt1 (X : Cx) (e : Ent) (E : XK) (st : Stmt) (F : FS) : Prop := PS X st (tS X.K e.M e.S e.H E F)
def DSts (X : Cx) (e : Ent) (E : XK) (st : List Stmt) (F : FS) : Prop := PSs X st (tS X.K e.M e.S e.H E F)

section
variable {K : PySem.W.Frag} {M S0 S S1 : Addr → Prop} {H0 H H1 : Hp} {E : XK} {Dn : Ends} {σ : Sg} {δ : DSt}
theorem ExR.to {cls : Value} {dx : Option Addr} {n : Str} {xs : List D} (h : ExR K S H cls dx n xs) (e : ∀ b, S0 b → S b) : ExR K S0 H cls dx n xs := by
  obtain ⟨h1, a, vs, h2, h3, h4, h5⟩ := h
  exact ⟨h1, a, vs, h2, h3, fun z => h4 (e a z), h5.less e⟩
theorem StS.mono (e : Same H H1) (s : StS K M S0 H0 S σ H δ) : StS K M S0 H0 S σ H1 δ := ⟨s.st.mono e, s.same.trans e, s.sub, s.dom, s.ms, s.own⟩
theorem Fin.ev {o : O} (e : Ev S H S1 H1) (h : Fin K M S0 H0 E Dn S H o) : Fin K M S0 H0 E Dn S1 H1 o := by
  cases o with
  | nx δ => exact fun S' σ' H' s e' => h S' σ' H' s (e.trans e')
  | rt d δ => exact h
  | bk δ => exact fun S' σ' H' s e' => h S' σ' H' s (e.trans e')
  | ct δ => exact fun S' σ' H' s e' => h S' σ' H' s (e.trans e')
  | exc n xs => exact h
  | bad => exact h
/-- an expression within a statement: what it gives goes on -/
theorem Fin.on {α : Type} {r : R α} {f : α → O} (s : StS K M S0 H0 S σ H δ) (h : Fin K M S0 H0 E Dn S H (O.on r f)) {P : α → Prop} (k : ∀ a, Fin K M S0 H0 E Dn S H (f a) → P a) : Res K S H E r P := by
  cases r with
  | ok a => exact k a h
  | exc n xs => exact fun cls dx H' e x => h cls dx H' (s.same.trans e) (x.to s.sub)
  | bad => exact h
end

section
variable {X : Cx} {e0 : Ent} {E : XK} {pos : Pos} {st : Stmt} {rest : List Stmt} {F G : FS} {a b c : Expr} {f g : FE} {es : List Expr} {fl : FL}
/-! ### blocks -/
def fSkip : FS := fun δ => .nx δ
def fSeq (F G : FS) : FS := fun δ => match F δ with
  | .nx δ' => G δ'
  | o => o
theorem dss_nil : DSts X e0 E [] fSkip := by
  refine PSs.imp pss_nil fun D σ H h => ?_
  obtain ⟨S, δ, s, q⟩ := h
  exact q S σ H s .refl
theorem dss_cons (h : DSt1 X e0 E st F) (k : DSts X e0 E rest G) : DSts X e0 E (st :: rest) (fSeq F G) := by
  refine PSs.imp (pss_cons h k) fun D σ H hq => ?_
  obtain ⟨S, δ, s, q⟩ := hq
  refine ⟨S, δ, s, ?_⟩
  unfold fSeq at q
  cases r : F δ with
  | nx δ' =>
    rw [r] at q
    exact fun S' σ' H' s' e' => ⟨S', δ', s', q.ev e'⟩
  | rt d δ => rw [r] at q; exact q
  | bk d => rw [r] at q; exact q
  | ct d => rw [r] at q; exact q
  | exc n xs => rw [r] at q; exact q
  | bad => rw [r] at q; exact q
theorem dss_one (h : DSt1 X e0 E st F) : DSts X e0 E [st] F := pss_one h
theorem ds_pass : DSt1 X e0 E (.Pass pos) fSkip := by
  refine PS.imp ps_pass fun D σ H h => ?_
  obtain ⟨S, δ, s, q⟩ := h
  exact q S σ H s .refl
theorem ds_break : DSt1 X e0 E (.Break pos) (fun δ => .bk δ) := by
  refine PS.imp ps_break fun D σ H h => ?_
  obtain ⟨S, δ, s, q⟩ := h
  exact q S σ H s .refl
theorem ds_cont : DSt1 X e0 E (.Continue pos) (fun δ => .ct δ) := by
  refine PS.imp ps_continue fun D σ H h => ?_
  obtain ⟨S, δ, s, q⟩ := h
  exact q S σ H s .refl
def fRet (f : FE) : FS := fun δ => O.on (f δ) fun d => .rt d δ
theorem ds_ret (h : DE X (fun _ => E) a f) : DSt1 X e0 E (.Return (some a) pos) (fRet f) := by
  refine PS.imp (ps_ret h) fun D σ H hq => ?_
  obtain ⟨S, δ, s, q⟩ := hq
  exact ⟨S, δ, s.st, Fin.on s q fun d q v H' e' r => q S σ v H' (s.mono e') r⟩
theorem ds_retN : DSt1 X e0 E (.Return none pos) (fun δ => .rt .non δ) := by
  refine PS.imp ps_retN fun D σ H hq => ?_
  obtain ⟨S, δ, s, q⟩ := hq
  exact q S σ .non H s .non
def fIfS (c : FB) (F G : FS) : FS := fun δ => O.on (c δ) fun b => match b with
  | true => F δ
  | false => G δ
theorem ds_if {t : FB} {A B : List Stmt} (hc : DB X (fun _ => E) c t) (ha : DSts X e0 E A F) (hb : DSts X e0 E B G) : DSt1 X e0 E (.If c A B pos) (fIfS t F G) := by
  refine PS.imp (ps_if hc ha hb) fun D σ H hq => ?_
  obtain ⟨S, δ, s, q⟩ := hq
  refine ⟨S, δ, s.st, Fin.on s q fun b q H' e' => ?_⟩
  cases b with
  | true => exact ⟨S, δ, s.mono e', q.ev (.same e')⟩
  | false => exact ⟨S, δ, s.mono e', q.ev (.same e')⟩
def fExp (f : FE) : FS := fun δ => O.on (f δ) fun _ => .nx δ
theorem ds_expr (h : DE X (fun _ => E) a f) (hs : swapsWith a none pos.line X.env = pure false := by rfl) : DSt1 X e0 E (.Expr a pos) (fExp f) := by
  refine PS.imp (ps_expr h hs) fun D σ H hq => ?_
  obtain ⟨S, δ, s, q⟩ := hq
  exact ⟨S, δ, s.st, Fin.on s q fun d q v H' e' r => q S σ H' (s.mono e') (.same e')⟩
/-! ### stores -/
theorem set_get {α : Type} {xs : List α} {i j : Nat} {v w : α} (h : (xs.set i v)[j]? = some w) : (j = i ∧ w = v) ∨ (j ≠ i ∧ xs[j]? = some w) := by
  by_cases e : j = i
  · subst e
    rw [List.getElem?_set_self'] at h
    cases q : xs[j]? with
    | none => rw [q] at h; cases h
    | some z => rw [q] at h; exact .inl ⟨rfl, (Option.some.inj h).symm⟩
  · rw [List.getElem?_set_ne (Ne.symm e)] at h
    exact .inr ⟨e, h⟩
theorem StE.set {K : PySem.W.Frag} {S : Addr → Prop} {H : Hp} {σ : Sg} {δ : DSt} (s : StE K S σ H δ) (i : Nat) {v : V} {d : D} (r : Rep K S H v d) : StE K S (σ.set i (some v)) H (δ.set i (.fz d)) := by
  refine ⟨by rw [List.length_set, List.length_set, s.len], fun j t h => ?_, fun j k a t u h1 h2 m1 m2 h3 h4 => ?_, s.here⟩
  · rcases set_get h with ⟨rfl, rfl⟩ | ⟨hne, h⟩
    · have hl : j < δ.length := by
        have := (List.getElem?_eq_some_iff.mp h).1
        rwa [List.length_set] at this
      exact ⟨some v, List.getElem?_set_self (by rw [s.len]; exact hl), v, rfl, r⟩
    · obtain ⟨o, h1, h2⟩ := s.slot j t h
      exact ⟨o, by rw [List.getElem?_set_ne (Ne.symm hne)]; exact h1, h2⟩
  · rcases set_get h1 with ⟨_, e⟩ | ⟨n1, h1⟩
    · subst e; cases m1
    · rcases set_get h2 with ⟨_, e⟩ | ⟨n2, h2⟩
      · subst e; cases m2
      · rw [List.getElem?_set_ne (Ne.symm n1)] at h3
        rw [List.getElem?_set_ne (Ne.symm n2)] at h4
        exact s.sep j k a t u h1 h2 m1 m2 h3 h4
theorem StS.set {K : PySem.W.Frag} {M S0 S : Addr → Prop} {H0 H : Hp} {σ : Sg} {δ : DSt} (s : StS K M S0 H0 S σ H δ) (i : Nat) {v : V} {d : D} (r : Rep K S H v d) : StS K M S0 H0 S (σ.set i (some v)) H (δ.set i (.fz d)) := by
  refine ⟨s.st.set i r, s.same, s.sub, s.dom, s.ms, fun j a t h1 m h2 => ?_⟩
  rcases set_get h1 with ⟨_, e⟩ | ⟨n1, h1⟩
  · subst e; cases m
  · rw [List.getElem?_set_ne (Ne.symm n1)] at h2
    exact s.own j a t h1 m h2
/-- a new thing of the frame's own at p -/
theorem StS.newT {K : PySem.W.Frag} {M S0 S : Addr → Prop} {H0 H : Hp} {σ : Sg} {δ : DSt} (s : StS K M S0 H0 S σ H δ) (i : Nat) {p : Addr} {H' : Hp} {t0 : DS} {u0 : HO} (hp : H p = none) (e : Same H H') (hv : H' p = some u0) (hm : t0.mutb = true) (hno : ∀ c fs, t0 ≠ .ob c fs)
    (r : SlotOk K (fun b => S b ∨ b = p) H' (some (.ref p)) t0) :
    StS K M S0 H0 (fun b => S b ∨ b = p) (σ.set i (some (.ref p))) H' (δ.set i t0) ∧ Ev S H (fun b => S b ∨ b = p) H' := by
  have ev : Ev S H (fun b => S b ∨ b = p) H' := ⟨fun b o h _ => e b o h, fun b o h n z => z.elim n fun z => by rw [z, hp] at h; cases h⟩
  have h0 : H0 p = none := s.free hp
  refine ⟨⟨⟨by rw [List.length_set, List.length_set, s.st.len], fun j t h => ?_, fun j k a t u h1 h2 m1 m2 h3 h4 => ?_, fun b z => ?_⟩, s.same.trans e, fun b z => .inl (s.sub b z), s.dom, s.ms, fun j a t h1 m h2 => ?_⟩, ev⟩
  · rcases set_get h with ⟨rfl, rfl⟩ | ⟨hne, h⟩
    · have hl : j < δ.length := by
        have := (List.getElem?_eq_some_iff.mp h).1
        rwa [List.length_set] at this
      exact ⟨_, List.getElem?_set_self (by rw [s.st.len]; exact hl), r⟩
    · obtain ⟨o, h1, h2⟩ := s.st.slot j t h
      refine ⟨o, by rw [List.getElem?_set_ne (Ne.symm hne)]; exact h1, h2.move ev.keep ev.off fun b q m => ?_⟩
      obtain ⟨a, u, w1, w2, w3⟩ := h2.addr m
      rw [w1] at q
      cases q
      exact ⟨fun u q => e _ _ q, .inl w3⟩
  · have ne : ∀ (j : Nat) (t : DS), δ[j]? = some t → t.mutb = true → σ[j]? = some (some (V.ref p)) → False := fun j t q1 m q2 => by
      obtain ⟨o, w1, w2⟩ := s.st.slot j _ q1
      obtain ⟨a, u, w3, w4, _⟩ := w2.addr m
      rw [q2] at w1
      cases w1
      cases w3
      rw [hp] at w4; cases w4
    rcases set_get h1 with ⟨e1, _⟩ | ⟨n1, h1⟩
    · rcases set_get h2 with ⟨e2, _⟩ | ⟨n2, h2⟩
      · rw [e1, e2]
      · exfalso
        rw [List.getElem?_set_ne (Ne.symm n2)] at h4
        rcases set_get h3 with ⟨_, z⟩ | ⟨z, _⟩
        · cases z
          exact ne _ _ h2 m2 h4
        · exact z e1
    · rcases set_get h2 with ⟨e2, _⟩ | ⟨n2, h2⟩
      · exfalso
        rw [List.getElem?_set_ne (Ne.symm n1)] at h3
        rcases set_get h4 with ⟨_, z⟩ | ⟨z, _⟩
        · cases z
          exact ne _ _ h1 m1 h3
        · exact z e2
      · rw [List.getElem?_set_ne (Ne.symm n1)] at h3
        rw [List.getElem?_set_ne (Ne.symm n2)] at h4
        exact s.st.sep j k a t u h1 h2 m1 m2 h3 h4
  · rcases z with z | z
    · obtain ⟨o, h⟩ := s.st.here b z
      exact ⟨o, e _ _ h⟩
    · exact ⟨_, by rw [z]; exact hv⟩
  · rcases set_get h1 with ⟨e1, e2⟩ | ⟨n1, h1⟩
    · rcases set_get h2 with ⟨_, z⟩ | ⟨z, _⟩
      · cases z
        subst e2
        exact .inl ⟨h0, hno⟩
      · exact absurd e1 z
    · rw [List.getElem?_set_ne (Ne.symm n1)] at h2
      exact s.own j a t h1 m h2
/-- a list of the frame's own is laid -/
theorem StS.newG {K : PySem.W.Frag} {M S0 S : Addr → Prop} {H0 H : Hp} {σ : Sg} {δ : DSt} (s : StS K M S0 H0 S σ H δ) (i : Nat) {p : Addr} {H' : Hp} {vs : List V} {ds : List D} (hp : H p = none) (e : Same H H') (hv : H' p = some (.lst vs)) (r : RepL K (fun b => S b ∨ b = p) H' vs ds) :
    StS K M S0 H0 (fun b => S b ∨ b = p) (σ.set i (some (.ref p))) H' (δ.set i (.ow ds)) ∧ Ev S H (fun b => S b ∨ b = p) H' := s.newT i hp e hv rfl (fun _ _ z => by cases z) ⟨p, vs, rfl, hv, .inr rfl, r⟩
theorem StS.new {K : PySem.W.Frag} {M S0 S : Addr → Prop} {H0 H : Hp} {σ : Sg} {δ : DSt} (s : StS K M S0 H0 S σ H δ) (i : Nat) {p : Addr} {vs : List V} {ds : List D} (hp : H p = none) (r : RepL K S H vs ds) :
    StS K M S0 H0 (fun b => S b ∨ b = p) (σ.set i (some (.ref p))) (upd H p (.lst vs)) (δ.set i (.ow ds)) ∧ Ev S H (fun b => S b ∨ b = p) (upd H p (.lst vs)) := by
  have e : Same H (upd H p (.lst vs)) := same_new hp _
  exact s.newG i hp e upd_same (r.ev ⟨fun b o h _ => e b o h, fun b o h n z => z.elim n fun z => by rw [z, hp] at h; cases h⟩)
/-- the own thing at slot i is changed -/
theorem StS.chgT {K : PySem.W.Frag} {M S0 S : Addr → Prop} {H0 H H' : Hp} {σ : Sg} {δ : DSt} (s : StS K M S0 H0 S σ H δ) {i : Nat} {a : Addr} {t t0 : DS} {u0 : HO} (h : δ[i]? = some t) (hm : t.mutb = true) (hs : σ[i]? = some (some (.ref a)))
    (k : KeepM (· = a) H H') (hv : H' a = some u0) (hm0 : t0.mutb = true) (hob : (∃ c fs, t = .ob c fs) ↔ ∃ c fs, t0 = .ob c fs) (r : SlotOk K S H' (some (.ref a)) t0) : StS K M S0 H0 S σ H' (δ.set i t0) ∧ Ev S H S H' := by
  obtain ⟨o, w1, w2⟩ := s.st.slot i _ h
  obtain ⟨a', u, w3, w4, w5⟩ := w2.addr hm
  rw [hs] at w1
  cases w1
  cases w3
  have ev : Ev S H S H' := ⟨fun b o h n => k b o h fun z => n (by rw [z]; exact w5), fun _ _ _ n => n⟩
  refine ⟨⟨⟨by rw [List.length_set, s.st.len], fun j t hj => ?_, fun j k b t u h1 h2 m1 m2 h3 h4 => ?_, fun b z => ?_⟩, fun b o q n => ?_, s.sub, s.dom, s.ms, fun j b t h1 m h2 => ?_⟩, ev⟩
  · rcases set_get hj with ⟨rfl, rfl⟩ | ⟨hne, hj⟩
    · exact ⟨_, hs, r⟩
    · obtain ⟨o, h1, h2⟩ := s.st.slot j t hj
      refine ⟨o, h1, h2.move ev.keep ev.off fun b q m => ?_⟩
      obtain ⟨b', u, q1, q2, q3⟩ := h2.addr m
      rw [q1] at q
      cases q
      subst q1
      have nab : b ≠ a := fun z => hne (s.st.sep j i a t _ hj h m hm (by rw [← z]; exact h1) hs)
      exact ⟨fun u q => k _ _ q nab, q3⟩
  · have back : ∀ {j : Nat} {t' : DS}, (δ.set i t0)[j]? = some t' → t'.mutb = true → ∃ t'' : DS, δ[j]? = some t'' ∧ t''.mutb = true := fun {j t'} q m => by
      rcases set_get q with ⟨rfl, _⟩ | ⟨_, q⟩
      · exact ⟨_, h, hm⟩
      · exact ⟨_, q, m⟩
    obtain ⟨_, q1, p1⟩ := back h1 m1
    obtain ⟨_, q2, p2⟩ := back h2 m2
    exact s.st.sep j k b _ _ q1 q2 p1 p2 h3 h4
  · by_cases e : b = a
    · exact ⟨_, by rw [e]; exact hv⟩
    · obtain ⟨o, h⟩ := s.st.here b z
      exact ⟨o, k _ _ h e⟩
  · have : b ≠ a := fun z => by
      rw [z] at q n
      rcases s.own i a t h hm hs with ⟨w, _⟩ | ⟨w, _⟩
      · rw [w] at q; cases q
      · exact n w
    exact k b o (s.same b o q n) this
  · rcases set_get h1 with ⟨rfl, e⟩ | ⟨_, h1⟩
    · rw [hs] at h2
      cases h2
      subst e
      rcases s.own _ a _ h hm hs with ⟨w, w2⟩ | ⟨w, w2⟩
      · exact .inl ⟨w, fun c fs z => let ⟨c, fs, z⟩ := hob.mpr ⟨c, fs, z⟩; w2 c fs z⟩
      · exact .inr ⟨w, hob.mp w2⟩
    · exact s.own j b t h1 m h2
theorem keepM_upd {H : Hp} {a : Addr} {u : HO} : KeepM (· = a) H (upd H a u) := fun b o h n => by rw [upd_ne n]; exact h
/-- the own list at slot i is changed -/
theorem StS.chg {K : PySem.W.Frag} {M S0 S : Addr → Prop} {H0 H : Hp} {σ : Sg} {δ : DSt} (s : StS K M S0 H0 S σ H δ) {i : Nat} {a : Addr} {xs : List V} {ds : List D} (h : δ[i]? = some (.ow ds)) (hs : σ[i]? = some (some (.ref a))) {ys : List V} {es : List D}
    (r : RepL K S H ys es) : StS K M S0 H0 S σ (upd H a (.lst ys)) (δ.set i (.ow es)) ∧ Ev S H S (upd H a (.lst ys)) := by
  obtain ⟨o, w1, a', xs', w2, w3, w4, w5⟩ := s.st.slot i _ h
  rw [hs] at w1
  cases w1
  cases w2
  exact s.chgT h rfl hs keepM_upd upd_same rfl ⟨fun ⟨_, _, z⟩ => (by cases z), fun ⟨_, _, z⟩ => (by cases z)⟩ ⟨a, ys, rfl, upd_same, w4, r.ev ⟨fun b o h n => by rw [upd_ne (fun z => n (by rw [z]; exact w4))]; exact h, fun _ _ _ n => n⟩⟩
/-- from now on the list, the dict at slot i is not changed any more -/
def frz (i : Nat) (δ : DSt) : DSt := match δ[i]? with
  | some (.ow ds) => δ.set i (.fz (.lst ds))
  | some (.od ks ds) => δ.set i (.fz (.dic ks ds))
  | _ => δ
theorem StS.frzT {K : PySem.W.Frag} {M S0 S : Addr → Prop} {H0 H : Hp} {σ : Sg} {δ : DSt} (s : StS K M S0 H0 S σ H δ) {i : Nat} {a : Addr} {t : DS} {d : D} (h : δ[i]? = some t) (hm : t.mutb = true) (hno : ∀ c fs, t ≠ .ob c fs) (w1 : σ[i]? = some (some (.ref a)))
    (r : Rep K (fun b => S b ∧ b ≠ a) H (.ref a) d) : StS K M S0 H0 (fun b => S b ∧ b ≠ a) σ H (δ.set i (.fz d)) ∧ Ev S H (fun b => S b ∧ b ≠ a) H := by
  have h0 : H0 a = none := (s.own i a t h hm w1).elim (fun z => z.1) fun ⟨_, c, fs, z⟩ => absurd z (hno c fs)
  have ev : Ev S H (fun b => S b ∧ b ≠ a) H := ⟨fun _ _ h _ => h, fun _ _ _ n z => n z.1⟩
  refine ⟨⟨⟨by rw [List.length_set, s.st.len], fun j t hj => ?_, fun j k b f g h1 h2 m1 m2 h3 h4 => ?_, fun b z => s.st.here b z.1⟩, s.same, fun b z => ⟨s.sub b z, fun q => ?_⟩, s.dom, s.ms, fun j b f h1 m h2 => ?_⟩, ev⟩
  · rcases set_get hj with ⟨rfl, rfl⟩ | ⟨hne, hj⟩
    · exact ⟨_, w1, _, rfl, r⟩
    · obtain ⟨o, h1, h2⟩ := s.st.slot j t hj
      refine ⟨o, h1, h2.move ev.keep ev.off fun b q m => ?_⟩
      obtain ⟨b', u, q1, q2, q3⟩ := h2.addr m
      rw [q1] at q
      cases q
      subst q1
      have nab : b ≠ a := fun z => hne (s.st.sep j i a _ _ hj h m hm (by rw [← z]; exact h1) w1)
      exact ⟨fun _ q => q, q3, nab⟩
  · rcases set_get h1 with ⟨_, q⟩ | ⟨_, h1⟩
    · subst q; cases m1
    · rcases set_get h2 with ⟨_, q⟩ | ⟨_, h2⟩
      · subst q; cases m2
      · exact s.st.sep j k b f g h1 h2 m1 m2 h3 h4
  · obtain ⟨o, q'⟩ := s.dom b z
    rw [q, h0] at q'
    cases q'
  · rcases set_get h1 with ⟨_, q⟩ | ⟨_, h1⟩
    · subst q; cases m
    · exact s.own j b f h1 m h2
theorem StS.frz {K : PySem.W.Frag} {M S0 S : Addr → Prop} {H0 H : Hp} {σ : Sg} {δ : DSt} (s : StS K M S0 H0 S σ H δ) (i : Nat) : ∃ S', StS K M S0 H0 S' σ H (DL.frz i δ) ∧ Ev S H S' H := by
  unfold DL.frz
  cases h : δ[i]? with
  | none => exact ⟨S, s, .refl⟩
  | some t =>
    cases t with
    | un => exact ⟨S, s, .refl⟩
    | fz d => exact ⟨S, s, .refl⟩
    | ob c fs => exact ⟨S, s, .refl⟩
    | ow ds =>
      obtain ⟨o, w1, a, xs, w2, w3, w4, w5⟩ := s.st.slot i _ h
      subst w2
      have ev : Ev S H (fun b => S b ∧ b ≠ a) H := ⟨fun _ _ h _ => h, fun _ _ _ n z => n z.1⟩
      exact ⟨_, s.frzT h rfl (fun _ _ z => by cases z) w1 (.lst w3 (fun z => z.2 rfl) (w5.ev ev))⟩
    | od ks ds =>
      obtain ⟨o, w1, a, xs, w2, w3, w4, w5, w6, w7⟩ := s.st.slot i _ h
      subst w2
      have ev : Ev S H (fun b => S b ∧ b ≠ a) H := ⟨fun _ _ h _ => h, fun _ _ _ n z => n z.1⟩
      exact ⟨_, s.frzT h rfl (fun _ _ z => by cases z) w1 (.dic w3 (fun z => z.2 rfl) w5 w6 (w7.ev ev))⟩
/-- a freeze ahead of a block, of a statement -/
def fFrz (i : Nat) (F : FS) : FS := fun δ => F (frz i δ)
theorem dss_frz (i : Nat) (h : DSts X e0 E rest F) : DSts X e0 E rest (fFrz i F) := by
  refine PSs.imp h fun D σ H hq => ?_
  obtain ⟨S, δ, s, q⟩ := hq
  obtain ⟨S', s', e'⟩ := s.frz i
  exact ⟨S', frz i δ, s', q.ev e'⟩
theorem ds_frz (i : Nat) (h : DSt1 X e0 E st F) : DSt1 X e0 E st (fun δ => F (frz i δ)) := by
  refine PS.imp h fun D σ H hq => ?_
  obtain ⟨S, δ, s, q⟩ := hq
  obtain ⟨S', s', e'⟩ := s.frz i
  exact ⟨S', frz i δ, s', q.ev e'⟩
/-- name = e -/
def fSet (i : Nat) (f : FE) : FS := fun δ => O.on (f δ) fun d => .nx (δ.set i (.fz d))
theorem ds_set {i : Nat} {x : Str} {pos' : Pos} (hN : X.N.Nodup) (hi : X.N[i]? = some x) (hx : Loc X.env.scope x) (h : DE X (fun _ => E) a f) (hs : swapsWith a (some (.Name x pos')) pos.line X.env = pure false := by rfl)
    (hf : X.fn x = true ∨ X.env.scope.names.lookup x = some .local := by first | exact .inl rfl | exact .inr rfl | assumption) : DSt1 X e0 E (.Assign [.Name x pos'] a pos) (fSet i f) := by
  refine PS.imp (ps_set hN hi hx h hs hf) fun D σ H hq => ?_
  obtain ⟨S, δ, s, q⟩ := hq
  exact ⟨S, δ, s.st, Fin.on s q fun d q v H' e' r => q S _ H' ((s.mono e').set i r) (.same e')⟩
/-- name = [..], the frame's own from now on -/
def fNew (i : Nat) (fl : FL) : FS := fun δ => O.on (fl δ) fun ds => .nx (δ.set i (.ow ds))
theorem ds_new {i : Nat} {x : Str} {pos' p : Pos} (hN : X.N.Nodup) (hi : X.N[i]? = some x) (hx : Loc X.env.scope x) (h : DA X (fun _ => E) es fl) (hs : swapsWith (.List es p) (some (.Name x pos')) pos.line X.env = pure false := by rfl)
    (hl : es.length ≤ sizeLine := by exact Nat.le_of_ble_eq_true rfl) (hf : X.fn x = true ∨ X.env.scope.names.lookup x = some .local := by first | exact .inl rfl | exact .inr rfl | assumption) : DSt1 X e0 E (.Assign [.Name x pos'] (.List es p) pos) (fNew i fl) := by
  refine PS.imp (ps_set hN hi hx (pe_lst h.pa) hs hf) fun D σ H hq => ?_
  obtain ⟨S, δ, s, q⟩ := hq
  refine ⟨S, δ, s.st, ?_⟩
  have len := h.len δ
  unfold fNew at q
  cases r : fl δ with
  | bad => rw [r] at q; exact q.elim
  | exc n xs =>
    rw [r] at q
    exact fun cls dx H' e x => q cls dx H' (s.same.trans e) (x.to s.sub)
  | ok ds =>
    rw [r] at q
    intro vs H1 e1 r1
    refine ⟨by rw [r1.length, len ds r]; exact hl, fun p hp => ?_⟩
    obtain ⟨s2, e2⟩ := (s.mono e1).new i hp r1
    exact q _ _ _ s2 ((Ev.same e1).trans e2)
/-- the own list at slot i: x.append(e), x.extend(e), y = x.pop(), x[k] = e -/
def fOwn (i : Nat) (δ : DSt) : R (List D) := match δ[i]? with
  | some (.ow ds) => .ok ds
  | _ => .bad
theorem fOwn_ne {i : Nat} {δ : DSt} {n : Str} {xs : List D} (h : fOwn i δ = .exc n xs) : False := by
  unfold fOwn at h
  split at h <;> cases h
theorem fOwn_at {i : Nat} {δ : DSt} {ds : List D} (h : fOwn i δ = .ok ds) : δ[i]? = some (.ow ds) := by
  unfold fOwn at h
  cases q : δ[i]? with
  | none => rw [q] at h; cases h
  | some t =>
    rw [q] at h
    cases t with
    | ow es => cases h; rfl
    | _ => cases h
def fApp (i : Nat) (f : FE) : FS := fun δ => O.on (fOwn i δ) fun ds => O.on (f δ) fun d => if okLt ds.length = true then .nx (δ.set i (.ow (ds ++ [d]))) else .bad
theorem ds_app {i : Nat} {call : Expr} (hb : ∀ t, PA X [a] t → PE X call (tBM X.K "list" rAppend (tVar i) t)) (h : DE X (fun _ => E) a f) (hst : starEach (a :: []) X.env = (false, eval a X.env) :: starEach [] X.env := by rfl)
    (hs : swapsWith call none pos.line X.env = pure false := by rfl) : DSt1 X e0 E (.Expr call pos) (fApp i f) := by
  refine PS.imp (ps_expr (hb _ (pa_cons h pa_nil hst)) hs) fun D σ H hq => ?_
  obtain ⟨S, δ, s, q⟩ := hq
  unfold fApp at q
  cases r : fOwn i δ with
  | bad => rw [r] at q; exact q.elim
  | exc n xs => exact (fOwn_ne r).elim
  | ok ds =>
    rw [r] at q
    have hd := fOwn_at r
    obtain ⟨o, w1, b, xs, w2, w3, w4, w5⟩ := s.st.slot i _ hd
    subst w2
    refine ⟨.ref b, w1, .inl ⟨rfl, _, SqL.of w3⟩, S, δ, s.st, Fin.on (f := fun d => if okLt ds.length = true then .nx (δ.set i (.ow (ds ++ [d]))) else .bad) s q fun d q v H' e' r1 => ?_⟩
    by_cases c : okLt ds.length = true
    · simp only [c, if_true] at q
      refine ⟨b, xs, v, rfl, rfl, e' _ _ w3, by rw [w5.length]; exact okLt_of c, ?_⟩
      obtain ⟨s2, e2⟩ := (s.mono e').chg (xs := xs) hd w1 (ys := xs ++ [v]) (es := ds ++ [d]) ((w5.mono e').append (.cons r1 .nil))
      exact q S σ _ s2 ((Ev.same e').trans e2)
    · simp only [c, if_false] at q
      exact q.elim
end
end DL

/-! DLoop: loops, targets, match. -/
namespace DL
open PySem PySem.Spec PyProof.Rows L2

/-! ### targets -/
abbrev FP := DSt → D → Option DSt
abbrev FPs := DSt → List D → Option DSt
def tG (K : PySem.W.Frag) (M S0 : Addr → Prop) (H0 : Hp) (put : FP) : TG := fun v σ H Q => ∃ S δ d δ', StS K M S0 H0 S σ H δ ∧ Rep K S H v d ∧ put δ d = some δ' ∧ ∀ σ', StS K M S0 H0 S σ' H δ' → Q σ' H
def tGs (K : PySem.W.Frag) (M S0 : Addr → Prop) (H0 : Hp) (put : FPs) : TGs := fun vs σ H Q => ∃ S δ ds δ', StS K M S0 H0 S σ H δ ∧ RepL K S H vs ds ∧ put δ ds = some δ' ∧ ∀ σ', StS K M S0 H0 S σ' H δ' → Q σ' H
def DG (X : Cx) (e0 : Ent) (tg : Expr) (put : FP) : Prop := PG X tg (tG X.K e0.M e0.S e0.H put)
def DGs (X : Cx) (e0 : Ent) (tgs : List Expr) (put : FPs) : Prop := PGs X tgs (tGs X.K e0.M e0.S e0.H put)
theorem PG.imp {X : Cx} {e : Expr} {t t' : TG} (h : PG X e t) (k : ∀ v σ H Q, t' v σ H Q → t v σ H Q) : PG X e t' := ⟨fun pins s σ H v u Q I r q => h.run pins s σ H v u Q I r (k v σ H Q q)⟩
theorem PGs.imp {X : Cx} {es : List Expr} {t t' : TGs} (h : PGs X es t) (k : ∀ v σ H Q, t' v σ H Q → t v σ H Q) : PGs X es t' := ⟨fun pins s σ H v u Q I r q => h.run pins s σ H v u Q I r (k v σ H Q q)⟩
def pName (i : Nat) : FP := fun δ d => some (δ.set i (.fz d))
def pNil : FPs := fun δ ds => match ds with
  | [] => some δ
  | _ => none
def pCons (p : FP) (ps : FPs) : FPs := fun δ ds => match ds with
  | d :: ds => (p δ d).bind fun δ' => ps δ' ds
  | [] => none
def pTup (n : Nat) (ps : FPs) : FP := fun δ d => match d with
  | .tup ds => if ds.length = n then ps δ ds else none
  | _ => none
section
variable {X : Cx} {e0 : Ent} {E : XK} {Eσ : Sg → XK} {pos : Pos} {st : Stmt} {rest : List Stmt} {F G : FS} {a b c tg : Expr} {f g : FE} {es : List Expr} {fl : FL}
theorem dg_name (i : Nat) {x : Str} (hN : X.N.Nodup) (hi : X.N[i]? = some x) (hx : Loc X.env.scope x) (hf : X.fn x = true ∨ X.env.scope.names.lookup x = some .local := by first | exact .inl rfl | exact .inr rfl | assumption) : DG X e0 (.Name x pos) (pName i) := by
  refine PG.imp (pg_name hN hi hx hf) fun v σ H Q h => ?_
  obtain ⟨S, δ, d, δ', s, r, e, q⟩ := h
  cases e
  exact q _ (s.set i r)
theorem dgs_nil : DGs X e0 [] pNil := by
  refine PGs.imp pgs_nil fun vs σ H Q h => ?_
  obtain ⟨S, δ, ds, δ', s, r, e, q⟩ := h
  cases r with
  | nil => cases e; exact ⟨rfl, q _ s⟩
  | cons _ _ => cases e
theorem dgs_cons {p : FP} {ps : FPs} (h : DG X e0 a p) (k : DGs X e0 es ps) (hs : (assignEach (a :: es) X.env).map (·.2) = assign a X.env :: (assignEach es X.env).map (·.2) := by rfl) : DGs X e0 (a :: es) (pCons p ps) := by
  refine PGs.imp (pgs_cons h k hs) fun vs σ H Q h => ?_
  obtain ⟨S, δ, ds, δ', s, r, e, q⟩ := h
  cases r with
  | nil => cases e
  | cons r0 r1 =>
    obtain ⟨δ1, e1, e2⟩ := Option.bind_eq_some_iff.mp e
    exact ⟨_, _, rfl, S, δ, _, δ1, s, r0, e1, fun σ' s' => ⟨S, δ1, _, δ', s', r1, e2, q⟩⟩
theorem dg_tup {k n : Nat} {ps : FPs} (hc : X.calm = true) (h : DGs X e0 es ps) (hn : (assignEach es X.env).length = n := by rfl) (hst : (assignEach es X.env).findIdx? (·.1) = none := by rfl) : DG X e0 (.Tuple es k pos) (pTup n ps) := by
  refine PG.imp (pg_tup hc h hn hst) fun v σ H Q h => ?_
  obtain ⟨S, δ, d, δ', s, r, e, q⟩ := h
  unfold pTup at e
  split at e
  · rename_i ds
    by_cases c : ds.length = n
    · rw [if_pos c] at e
      obtain ⟨b, xs, e1, e2, e3⟩ := r.seqT
      exact ⟨b, xs, e1, e2, by rw [e3.length]; exact c, S, δ, ds, δ', s, e3, e, q⟩
    · rw [if_neg c] at e; cases e
  · cases e
/-- target = e, a target of any form -/
def fAsg (p : FP) (f : FE) : FS := fun δ => O.on (f δ) fun d => match p δ d with
  | some δ' => .nx δ'
  | none => .bad
theorem ds_asg {p : FP} (h : DE X (fun _ => E) a f) (hg : DG X e0 tg p) (hs : swapsWithSole [tg] a pos.line X.env = pure false := by rfl) (hw : swappedStores [tg] a X.env = pure none := by rfl)
    (h1 : (assignEach [tg] X.env).map (·.2) = [assign tg X.env] := by rfl) : DSt1 X e0 E (.Assign [tg] a pos) (fAsg p f) := by
  refine PS.imp (ps_asg h hg hs hw h1) fun D σ H hq => ?_
  obtain ⟨S, δ, s, q⟩ := hq
  refine ⟨S, δ, s.st, Fin.on (f := fun d => match p δ d with
    | some δ' => .nx δ'
    | none => .bad) s q fun d q v H' e' r => ?_⟩
  cases e : p δ d with
  | none => rw [e] at q; exact q.elim
  | some δ' =>
    rw [e] at q
    exact ⟨S, δ, d, δ', s.mono e', r, e, fun σ' s' => q S σ' H' s' (.same e')⟩
/-- x op= e -/
def fAug (F : D → D → Option D) (i : Nat) (f : FE) : FS := fun δ => O.on (fVar i δ) fun x => O.on (f δ) fun y => O.on (R.of (F x y)) fun z => .nx (δ.set i (.fz z))
theorem ds_aug {i : Nat} {x : Str} {op : Operator} {F : D → D → Option D} {pos' : Pos} (hN : X.N.Nodup) (hi : X.N[i]? = some x) (hx : Loc X.env.scope x) (h : DE X (fun _ => E) a f) (ho : OpD X (inplaceOp op) F)
    (hf : X.fn x = true ∨ X.env.scope.names.lookup x = some .local := by first | exact .inl rfl | exact .inr rfl | assumption) : DSt1 X e0 E (.AugAssign (.Name x pos') op a pos) (fAug F i f) := by
  refine PS.imp (ps_aug hN hi hx h ho hf) fun D σ H hq => ?_
  obtain ⟨S, δ, s, q⟩ := hq
  unfold fAug at q
  cases r : fVar i δ with
  | bad => rw [r] at q; exact q.elim
  | exc n xs =>
    unfold fVar at r
    split at r <;> cases r
  | ok d =>
    rw [r] at q
    unfold fVar at r
    split at r
    · rename_i d' hd
      cases r
      obtain ⟨o, w1, v, w2, w3⟩ := s.st.slot i _ hd
      subst w2
      refine ⟨v, w1, S, δ, s.st, Fin.on (f := fun y => O.on (R.of (F d y)) fun z => .nx (δ.set i (.fz z))) s q fun e q w H' e' r1 => ?_⟩
      cases z : F d e with
      | none => rw [z] at q; exact q.elim
      | some k =>
        rw [z] at q
        exact ⟨S, d, e, k, (s.mono e').st.here, w3.mono e', r1, z, fun u H2 e2 r2 => q S _ H2 (((s.mono e').mono e2).set i r2) (.same (e'.trans e2))⟩
    · cases r

/-! ### iterables -/
def ItOk (K : PySem.W.Frag) (S : Addr → Prop) (H : Hp) (J : It) (ds : List D) : Prop :=
  ∀ S' H', Ev S H S' H' → Dom S' H' → ∀ i : Nat, (i < ds.length → J.go i H' ∧ ∀ x H2, J.yld i H' x H2 → Same H' H2 ∧ ∃ d, ds[i]? = some d ∧ Rep K S' H2 x d) ∧ (ds.length ≤ i → J.stop i H')
def tI (K : PySem.W.Frag) (E : Sg → XK) (f : FL) : TI := fun σ H R => ∃ S δ, StE K S σ H δ ∧ Res K S H (E σ) (f δ) fun ds => ∀ J H', Same H H' → ItOk K S H' J ds → R J H'
def DI (X : Cx) (E : Sg → XK) (tg iter : Expr) (f : FL) : Prop := PI X tg iter (tI X.K E f)
theorem PI.imp {X : Cx} {tg e : Expr} {t t' : TI} (h : PI X tg e t) (k : ∀ σ H R, t' σ H R → t σ H R) : PI X tg e t' := ⟨fun pins s σ H R I q => h.run pins s σ H R I (k σ H R q)⟩
def dItems : D → Option (List D)
  | .lst xs => some xs
  | .tup xs => some xs
  | .scr xs => some xs
  | .str z => some (z.cps.toList.map fun c => .str ⟨#[c]⟩)
  | _ => none
def fItems (f : FE) : FL := fun δ => (f δ).bind fun d => R.of (dItems d)
/-- a list, a tuple, a text walked -/
theorem di_seq (h : DE X Eσ a f) : DI X Eσ tg a (fItems f) := by
  refine ⟨fun pins s σ H R I hq => ?_⟩
  obtain ⟨S, δ, st, q⟩ := hq
  have key : Res X.K S H (Eσ σ) (f δ) fun d => ∀ v H', Same H H' → Rep X.K S H' v d → ∃ ds, dItems d = some ds ∧ ∀ J H2, Same H H2 → ItOk X.K S H2 J ds → R J H2 := (Res.on q).imp fun d q1 v H' e' r => by
    obtain ⟨ds, h1, h2⟩ := Res.of q1
    exact ⟨ds, h1, h2⟩
  have ans := h.run pins s σ H (fun v H1 => Same H H1 ∧ ∃ d ds, Rep X.K S H1 v d ∧ dItems d = some ds ∧ ∀ J H2, Same H H2 → ItOk X.K S H2 J ds → R J H2) I ⟨S, δ, st, key.imp fun d q1 v H' e' r => by
    obtain ⟨ds, h1, h2⟩ := q1 v H' e' r
    exact ⟨e', d, ds, r, h1, h2⟩⟩
  refine thn ans fun v s1 ⟨x, H1, I1, r1, e1, d, ds, rx, hd, q1⟩ => ?_
  have lst : ∀ (b : Addr) (xs : List V) (ds : List D), x = .ref b → SqL X.K H1 b xs → (∀ S' H', Ev S H1 S' H' → SqL X.K H' b xs) → RepL X.K S H1 xs ds → (∀ J H2, Same H H2 → ItOk X.K S H2 J ds → R J H2) → wpAny (model X.prog X.w) X.A (pyIter v) (PIE X pins σ tg R) X.xe s1 := by
    intro b xs ds ex hs hev rl q2
    subst ex
    obtain rfl : v = Value.ref b := r1
    obtain ⟨its, rv, p, hz⟩ := I1.list hs
    refine wpAny_pyIter_list p.isList ?_
    refine ⟨s1.heap.objs.size, [s1.heap.objs.size], _, Itl X.K b, H1, rfl, I1.kept (t' := s1.toks) fun b o e => Heap.get?_push_of_some _ e, turn_list b _, ⟨_, Heap.get?_push_size _ rfl, rfl, rfl⟩, fun b hb => ?_, ?_⟩
    · have e : b = s1.heap.objs.size := by simpa using hb
      subst e
      exact I1.fpOk (Nat.le_refl _) (I1.hok.fresh (Nat.le_refl _))
    · refine q2 _ H1 e1 fun S' H' ev dm i => ⟨fun hi => ?_, fun hi => ⟨xs, hev S' H' ev, by rw [rl.length]; exact hi⟩⟩
      obtain ⟨y, hy, ry⟩ := rl.get (i := i) (d := ds[i]) (by simp [hi])
      refine ⟨⟨xs, y, hev S' H' ev, hy⟩, fun z H2 yz => ?_⟩
      obtain ⟨e3, hz⟩ := yz
      subst e3
      have := hz xs (hev S' _ ev)
      rw [hy] at this
      cases this
      exact ⟨Same.refl _, ds[i], by simp [hi], ry.ev ev⟩
  have tup : ∀ (b : Addr) (xs : List V) (ds : List D), x = .ref b → SqT X.K H1 b xs → (∀ S' H', Ev S H1 S' H' → SqT X.K H' b xs) → RepL X.K S H1 xs ds → (∀ J H2, Same H H2 → ItOk X.K S H2 J ds → R J H2) → wpAny (model X.prog X.w) X.A (pyIter v) (PIE X pins σ tg R) X.xe s1 := by
    intro b xs ds ex hs hev rl q2
    subst ex
    obtain rfl : v = Value.ref b := r1
    obtain ⟨its, rv, p, hz⟩ := I1.tuple hs
    refine wpAny_pyIter_tuple (show s1.heap.IsTuple b its.toArray from p) ?_
    refine ⟨s1.heap.objs.size, [s1.heap.objs.size], _, Itt X.K b, H1, rfl, I1.kept (t' := s1.toks) fun b o e => Heap.get?_push_of_some _ e, turn_tuple b _, ⟨_, Heap.get?_push_size _ rfl, rfl, rfl⟩, fun b hb => ?_, ?_⟩
    · have e : b = s1.heap.objs.size := by simpa using hb
      subst e
      exact I1.fpOk (Nat.le_refl _) (I1.hok.fresh (Nat.le_refl _))
    · refine q2 _ H1 e1 fun S' H' ev dm i => ⟨fun hi => ?_, fun hi => ⟨xs, hev S' H' ev, by rw [rl.length]; exact hi⟩⟩
      obtain ⟨y, hy, ry⟩ := rl.get (i := i) (d := ds[i]) (by simp [hi])
      refine ⟨⟨xs, y, hev S' H' ev, hy⟩, fun z H2 yz => ?_⟩
      obtain ⟨e3, hz⟩ := yz
      subst e3
      have := hz xs (hev S' _ ev)
      rw [hy] at this
      cases this
      exact ⟨Same.refl _, ds[i], by simp [hi], ry.ev ev⟩
  cases rx with
  | lst h n r =>
    cases hd
    exact lst _ _ _ rfl (SqL.of h) (fun S' H' ev => SqL.of (ev.keep _ _ h n)) r q1
  | scr h n r =>
    cases hd
    exact lst _ _ _ rfl (.inl (.inr ⟨_, h⟩)) (fun S' H' ev => .inl (.inr ⟨_, ev.keep _ _ h n⟩)) r q1
  | scl h r =>
    cases hd
    exact lst _ _ _ rfl (.inr h) (fun S' H' ev => .inr h) r q1
  | tup h n r =>
    cases hd
    exact tup _ _ _ rfl (SqT.of h) (fun S' H' ev => SqT.of (ev.keep _ _ h n)) r q1
  | ltp h r =>
    cases hd
    exact tup _ _ _ rfl (.inr h) (fun S' H' ev => .inr h) r q1
  | str z =>
    cases hd
    obtain ⟨tk, rfl⟩ := (show ∃ t, v = Value.str z t from r1)
    have fin : R (Its z) H1 := by
      refine q1 _ H1 e1 fun S' H' ev dm i => ?_
      have hl : (z.cps.toList.map fun c => D.str ⟨#[c]⟩).length = z.cps.size := by simp
      refine ⟨fun hi => ?_, fun hi => by rw [hl] at hi; exact hi⟩
      rw [hl] at hi
      refine ⟨hi, fun w H2 yz => ?_⟩
      obtain ⟨e3, c, hc, rfl⟩ := yz
      subst e3
      refine ⟨Same.refl _, .str ⟨#[c]⟩, ?_, .str _⟩
      rw [List.getElem?_map, Array.getElem?_toList, hc]
      rfl
    cases ha : z.cps.all (· < 128)
    · exact wpAny_pyIter_wide ha (pi_one (tk := s1.toks) I1 _ (turn_str _ z tk "str_iterator" (.inr rfl)) ⟨_, Heap.get?_push_size _ rfl, rfl, rfl⟩ fin)
    · exact wpAny_pyIter_ascii ha (pi_one (tk := s1.toks) I1 _ (turn_str _ z tk "str_ascii_iterator" (.inl rfl)) ⟨_, Heap.get?_push_size _ rfl, rfl, rfl⟩ fin)
  | _ => cases hd
/-- ranges -/
def dInts (lo : Int) (n : Nat) : List D := (List.range n).map fun i : Nat => .int (lo + i)
theorem itOk_r {K : PySem.W.Frag} {S : Addr → Prop} {H : Hp} {lo : Int} {n : Nat} : ItOk K S H (Itr lo n) (dInts lo n) := fun S' H' ev dm i => by
  have hl : (dInts lo n).length = n := by simp [dInts]
  rw [hl]
  refine ⟨fun hi => ⟨hi, fun x H2 y => ?_⟩, fun hi => hi⟩
  obtain ⟨rfl, rfl⟩ := y
  exact ⟨Same.refl _, .int (lo + i), by simp [dInts, hi], .int _⟩
def small62 (i : Int) : Bool := Nat.blt i.natAbs (2 ^ 62)
theorem small62_of {i : Int} (h : small62 i = true) : -(2 ^ 62) ≤ i ∧ i < 2 ^ 62 := by
  have h1 : i.natAbs < 2 ^ 62 := Nat.blt_eq.mp h
  omega
theorem small62_by {i : Int} (h : i.natAbs < 4611686018427387904) : small62 i = true := Nat.blt_eq.mpr h
def dRange : List D → Option (List D)
  | [.int j] => if small62 j = true then some (dInts 0 j.toNat) else none
  | [.int i, .int j] => if (small62 i && small62 j) = true then some (dInts i (j - i).toNat) else none
  | _ => none
def fRange (fl : FL) : FL := fun δ => (fl δ).bind fun ds => R.of (dRange ds)
theorem di_range1 {p : Pos} (hg : Gl X "range") (hm : X.mg "range" = none) (ha : DA X Eσ [a] fl) (hs : starEach [a] X.env = [(false, eval a X.env)] := by rfl) : DI X Eσ tg (.Call (.Name "range" p) [a] [] pos) (fRange fl) := by
  refine PI.imp (pi_range1 hg hm ha.pa hs) fun σ H R h => ?_
  obtain ⟨S, δ, st, q⟩ := h
  refine ⟨S, δ, st, ?_⟩
  have q' := Res.on q
  cases r : fl δ with
  | bad => rw [r] at q'; exact q'.elim
  | exc n xs => rw [r] at q'; exact q'
  | ok ds =>
    rw [r] at q'
    intro vs H' e' rl
    obtain ⟨es, h1, h2⟩ := Res.of q'
    have hl := ha.len δ ds r
    match ds, hl with
    | [d], _ =>
      cases d <;> simp only [dRange, Option.ite_none_right_eq_some, Option.some.injEq, reduceCtorEq] at h1
      obtain ⟨c, rfl⟩ := h1
      obtain ⟨v, rfl, r1⟩ := vl1 rl
      obtain ⟨c1, c2⟩ := small62_of c
      exact ⟨_, by rw [r1.intE], c1, c2, h2 _ H' e' itOk_r⟩
theorem di_range2 {p : Pos} (hg : Gl X "range") (hm : X.mg "range" = none) (ha : DA X Eσ [a, b] fl) (hs : starEach [a, b] X.env = [(false, eval a X.env), (false, eval b X.env)] := by rfl) (hs2 : starEach [b] X.env = [(false, eval b X.env)] := by rfl) :
    DI X Eσ tg (.Call (.Name "range" p) [a, b] [] pos) (fRange fl) := by
  refine PI.imp (pi_range2 hg hm ha.pa hs hs2) fun σ H R h => ?_
  obtain ⟨S, δ, st, q⟩ := h
  refine ⟨S, δ, st, ?_⟩
  have q' := Res.on q
  cases r : fl δ with
  | bad => rw [r] at q'; exact q'.elim
  | exc n xs => rw [r] at q'; exact q'
  | ok ds =>
    rw [r] at q'
    intro vs H' e' rl
    obtain ⟨es, h1, h2⟩ := Res.of q'
    have hl := ha.len δ ds r
    match ds, hl with
    | [d, e], _ =>
      cases d <;> cases e <;> simp only [dRange, Option.ite_none_right_eq_some, Option.some.injEq, reduceCtorEq] at h1
      obtain ⟨c, rfl⟩ := h1
      obtain ⟨v, w, rfl, r1, r2⟩ := vl2 rl
      obtain ⟨c1, c2⟩ := Bool.and_eq_true_iff.mp c
      obtain ⟨c3, c4⟩ := small62_of c1
      obtain ⟨c5, c6⟩ := small62_of c2
      exact ⟨_, _, by rw [r1.intE, r2.intE], ⟨c3, c4, c5, c6⟩, h2 _ H' e' itOk_r⟩
/-! ### for -/
def loopF (put : FP) (body : FS) : List D → DSt → O
  | [], δ => .nx δ
  | d :: ds, δ => match put δ d with
    | none => .bad
    | some δ1 => match body δ1 with
      | .nx δ2 => loopF put body ds δ2
      | .ct δ2 => loopF put body ds δ2
      | .bk δ2 => .nx δ2
      | .rt d δ2 => .rt d δ2
      | .exc n xs => .exc n xs
      | .bad => .bad
def fFor (fi : FL) (put : FP) (body : FS) : FS := fun δ => O.on (fi δ) fun ds => loopF put body ds δ
theorem ds_for {iter : Expr} {body : List Stmt} {fi : FL} {put : FP} (hp : PassesOwn (model X.prog X.w) X.A X.env X.xe) (hc : X.calm = true) (hi : DI X (fun _ => E) tg iter fi) (hg : DG X e0 tg put) (hb : DSts X e0 E body F)
    (hs : ∀ x, foldedSetIterable iter X.env x = pure x := by intro _; rfl) : DSt1 X e0 E (.For tg iter body [] pos) (fFor fi put F) := by
  refine PS.imp (ps_for hp hc hi hg hb hs) fun D σ H hq => ?_
  obtain ⟨S, δ, s, q⟩ := hq
  refine ⟨S, δ, s.st, Fin.on (f := fun ds => loopF put F ds δ) s q fun ds q J H1 e1 io => ?_⟩
  refine ⟨fun i m σ' H' => ∃ S' δ', StS X.K e0.M e0.S e0.H S' σ' H' δ' ∧ Ev S H1 S' H' ∧ m = ds.length - i ∧ i ≤ ds.length ∧ Fin X.K e0.M e0.S e0.H E D S' H' (loopF put F (ds.drop i) δ'),
    ⟨ds.length, S, δ, s.mono e1, .refl, rfl, Nat.zero_le _, q.ev (.same e1)⟩, ?_⟩
  rintro i m σ' H' ⟨S', δ', s', ev, rfl, hi, q'⟩
  obtain ⟨go, stop⟩ := io S' H' ev s'.st.here i
  by_cases hlt : i < ds.length
  · obtain ⟨g1, g2⟩ := go hlt
    refine .inr ⟨g1, fun σ2 H2 => ∃ m', m' < ds.length - i ∧ ∃ S2 δ2, StS X.K e0.M e0.S e0.H S2 σ2 H2 δ2 ∧ Ev S H1 S2 H2 ∧ m' = ds.length - (i + 1) ∧ i + 1 ≤ ds.length ∧ Fin X.K e0.M e0.S e0.H E D S2 H2 (loopF put F (ds.drop (i + 1)) δ2), fun _ _ z => z, fun x H2 y => ?_⟩
    obtain ⟨e2, d, hd, rx⟩ := g2 x H2 y
    rw [List.drop_eq_getElem_cons hlt] at q'
    have ed : d = ds[i] := by
      rw [List.getElem?_eq_getElem hlt] at hd
      exact (Option.some.inj hd).symm
    subst ed
    unfold loopF at q'
    cases pd : put δ' ds[i] with
    | none => rw [pd] at q'; exact q'.elim
    | some δ1 =>
      rw [pd] at q'
      dsimp only at q'
      refine ⟨S', δ', _, δ1, s'.mono e2, rx, pd, fun σ2 s2 => ⟨S', δ1, s2, ?_⟩⟩
      have again : ∀ {S3 : Addr → Prop} {σ3 : Sg} {H3 : Hp} {δ2 : DSt}, Fin X.K e0.M e0.S e0.H E D S' H' (loopF put F (ds.drop (i + 1)) δ2) → StS X.K e0.M e0.S e0.H S3 σ3 H3 δ2 → Ev S' H2 S3 H3 →
          ∃ m', m' < ds.length - i ∧ ∃ S2 δ2, StS X.K e0.M e0.S e0.H S2 σ3 H3 δ2 ∧ Ev S H1 S2 H3 ∧ m' = ds.length - (i + 1) ∧ i + 1 ≤ ds.length ∧ Fin X.K e0.M e0.S e0.H E D S2 H3 (loopF put F (ds.drop (i + 1)) δ2) :=
        fun {S3 σ3 H3 δ2} z s3 e3 => ⟨ds.length - (i + 1), by omega, S3, δ2, s3, ev.trans ((Ev.same e2).trans e3), rfl, hlt, z.ev ((Ev.same e2).trans e3)⟩
      cases bd : F δ1 with
      | nx δ2 => rw [bd] at q'; exact fun S3 σ3 H3 s3 e3 => again q' s3 e3
      | ct δ2 => rw [bd] at q'; exact fun S3 σ3 H3 s3 e3 => again q' s3 e3
      | bk δ2 => rw [bd] at q'; exact fun S3 σ3 H3 s3 e3 => q' S3 σ3 H3 s3 ((Ev.same e2).trans e3)
      | rt d δ2 => rw [bd] at q'; exact q'
      | exc n xs => rw [bd] at q'; exact q'
      | bad => rw [bd] at q'; exact q'
  · have e : i = ds.length := by omega
    subst e
    rw [List.drop_length] at q'
    exact .inl ⟨stop (Nat.le_refl _), q' S' σ' H' s' .refl⟩
/-! ### while -/
def whileF (c : FB) (body : FS) : Nat → DSt → O
  | 0, _ => .bad
  | n + 1, δ => O.on (c δ) fun b => match b with
    | false => .nx δ
    | true => match body δ with
      | .nx δ2 => whileF c body n δ2
      | .ct δ2 => whileF c body n δ2
      | .bk δ2 => .nx δ2
      | .rt d δ2 => .rt d δ2
      | .exc n xs => .exc n xs
      | .bad => .bad
theorem ds_while {t : FB} {body : List Stmt} (n : Nat) (hp : PassesOwn (model X.prog X.w) X.A X.env X.xe) (hc : DB X (fun _ => E) c t) (hb : DSts X e0 E body F) : DSt1 X e0 E (.While c body [] pos) (whileF t F n) := by
  refine PS.imp (ps_while hp hc hb) fun D σ H hq => ?_
  obtain ⟨S, δ, s, q⟩ := hq
  refine ⟨fun m σ' H' => ∃ S' δ', StS X.K e0.M e0.S e0.H S' σ' H' δ' ∧ Ev S H S' H' ∧ Fin X.K e0.M e0.S e0.H E D S' H' (whileF t F m δ'), ⟨n, S, δ, s, .refl, q⟩, ?_⟩
  rintro m σ' H' ⟨S', δ', s', ev, q'⟩
  cases m with
  | zero => exact q'.elim
  | succ m =>
    unfold whileF at q'
    refine ⟨S', δ', s'.st, Fin.on s' q' fun b q2 H2 e2 => ?_⟩
    cases b with
    | false => exact q2 S' σ' H2 (s'.mono e2) (.same e2)
    | true =>
      rw [if_pos rfl]
      refine ⟨fun σ3 H3 => ∃ m', m' < m + 1 ∧ ∃ S3 δ3, StS X.K e0.M e0.S e0.H S3 σ3 H3 δ3 ∧ Ev S H S3 H3 ∧ Fin X.K e0.M e0.S e0.H E D S3 H3 (whileF t F m' δ3), fun _ _ z => z, S', δ', s'.mono e2, ?_⟩
      have again : ∀ {S3 : Addr → Prop} {σ3 : Sg} {H3 : Hp} {δ2 : DSt}, Fin X.K e0.M e0.S e0.H E D S' H' (whileF t F m δ2) → StS X.K e0.M e0.S e0.H S3 σ3 H3 δ2 → Ev S' H2 S3 H3 →
          ∃ m', m' < m + 1 ∧ ∃ S3 δ3, StS X.K e0.M e0.S e0.H S3 σ3 H3 δ3 ∧ Ev S H S3 H3 ∧ Fin X.K e0.M e0.S e0.H E D S3 H3 (whileF t F m' δ3) := fun {S3 σ3 H3 δ2} z s3 e3 => ⟨m, Nat.lt_succ_self _, S3, δ2, s3, ev.trans ((Ev.same e2).trans e3), z.ev ((Ev.same e2).trans e3)⟩
      cases bd : F δ' with
      | nx δ2 => simp only [bd] at q2; exact fun S3 σ3 H3 s3 e3 => again q2 s3 e3
      | ct δ2 => simp only [bd] at q2; exact fun S3 σ3 H3 s3 e3 => again q2 s3 e3
      | bk δ2 => simp only [bd] at q2; exact fun S3 σ3 H3 s3 e3 => q2 S3 σ3 H3 s3 ((Ev.same e2).trans e3)
      | rt d δ2 => simp only [bd] at q2; exact q2
      | exc n xs => simp only [bd] at q2; exact q2
      | bad => simp only [bd] at q2; exact q2.elim
/-! ### match upon a text -/
def DM (X : Cx) (e0 : Ent) (E : XK) (cs : List MatchCase) (G : Str → FS) : Prop :=
  ∀ (pins : List (Addr × Obj)) (s : Shared) (σ : Sg) (H : Hp) (D : Ends) (z : Str) (t : Tok) (first : Bool), Inv X pins σ H s → tS X.K e0.M e0.S e0.H E (G z) D σ H → wpAny (model X.prog X.w) X.A (matchCases cs X.env (.str z t) first) (SP X pins D) X.xe s
theorem dm_nil : DM X e0 E [] (fun _ => fSkip) := fun pins s σ H D z t first I h => by
  obtain ⟨S, δ, st, q⟩ := h
  exact wpAny_matchCases_nil ⟨σ, H, I, q S σ H st .refl⟩
/-- case "w": -/
theorem dm_val {w : Str} {j : Nat} {p1 p2 : Pos} {body : List Stmt} {cs : List MatchCase} {G : Str → FS} (hb : DSts X e0 E body F) (h : DM X e0 E cs G) : DM X e0 E (⟨.MatchValue (.Constant (.str w) j p1) p2, none, body⟩ :: cs) (fun z => if z = w then F else G z) := fun pins s σ H D z t first I q => by
  refine wpAny_matchCases_cons (wpAny_matchPattern_Value (Calls.Constant_str (eq_str (wpAny_truthy_bool ?_))))
  have I' := I.tok (s.toks + 1)
  by_cases e : z = w
  · subst e
    simp only [beq_self_eq_true, if_true] at q ⊢
    exact wpAny_assignInOrder_none (hb.run pins _ σ H D I' q)
  · have e' : (z == w) = false := beq_eq_false_iff_ne.mpr e
    simp only [e', if_neg e] at q ⊢
    exact h pins _ σ H D z t false I' q
/-- case _: -/
theorem dm_any {p : Pos} {body : List Stmt} {cs : List MatchCase} (hb : DSts X e0 E body F) : DM X e0 E (⟨.MatchAs none none p, none, body⟩ :: cs) (fun _ => F) := fun pins s σ H D z t first I q =>
  wpAny_matchCases_cons (wpAny_matchPattern_Capture (wpAny_assignInOrder_none (hb.run pins s σ H D I q)))
/-- case "a" | "b": -/
def DOr (X : Cx) (ps : List Pattern) (ws : List Str) : Prop :=
  ∀ (pins : List (Addr × Obj)) (s : Shared) (σ : Sg) (H : Hp) (z : Str) (t : Tok) (Q : Option (List (Str × Value)) → Shared → Prop), Inv X pins σ H s → (∀ s', Inv X pins σ H s' → Q (if z ∈ ws then some [] else none) s') →
    wpAny (model X.prog X.w) X.A (matchFirst ps X.env (.str z t)) Q X.xe s
theorem dor_nil : DOr X [] [] := fun pins s σ H z t Q I q => wpAny_matchFirst_nil (by simpa using q s I)
theorem dor_cons {w : Str} {j : Nat} {p1 p2 : Pos} {ps : List Pattern} {ws : List Str} (h : DOr X ps ws) : DOr X (.MatchValue (.Constant (.str w) j p1) p2 :: ps) (w :: ws) := fun pins s σ H z t Q I q => by
  refine wpAny_matchFirst_cons (wpAny_matchPattern_Value (Calls.Constant_str (eq_str (wpAny_truthy_bool ?_))))
  have I' := I.tok (s.toks + 1)
  by_cases e : z = w
  · subst e
    simp only [beq_self_eq_true, if_true]
    have := q _ I'
    simpa using this
  · have e' : (z == w) = false := beq_eq_false_iff_ne.mpr e
    simp only [e']
    refine h pins _ σ H z t Q I' fun s' I2 => ?_
    have := q s' I2
    simpa [e] using this
theorem dm_or {ps : List Pattern} {ws : List Str} {p : Pos} {body : List Stmt} {cs : List MatchCase} {G : Str → FS} (ho : DOr X ps ws) (hn : namesOfAll (ps.take 1) = [] := by rfl) (hb : DSts X e0 E body F) (h : DM X e0 E cs G) :
    DM X e0 E (⟨.MatchOr ps p, none, body⟩ :: cs) (fun z => if z ∈ ws then F else G z) := fun pins s σ H D z t first I q => by
  refine wpAny_matchCases_cons (wpAny_matchPattern_Or (ho pins s σ H z t _ I fun s' I' => ?_))
  by_cases e : z ∈ ws
  · simp only [e, if_true, hn, List.filterMap_nil, List.map_nil] at q ⊢
    exact wpAny_assignInOrder_none (hb.run pins _ σ H D I' q)
  · simp only [e, if_false] at q ⊢
    exact h pins _ σ H D z t false I' q
def fMatch (f : FE) (G : Str → FS) : FS := fun δ => O.on (f δ) fun d => match d with
  | .str z => G z δ
  | _ => .bad
theorem ds_match {cs : List MatchCase} {G : Str → FS} (h : DE X (fun _ => E) a f) (hm : DM X e0 E cs G) : DSt1 X e0 E (.Match a cs pos) (fMatch f G) := by
  refine ⟨fun pins s σ H D I hq => ?_⟩
  obtain ⟨S, δ, st, q⟩ := hq
  refine wpAny_Match (thn (h.run pins s σ H (fun v H1 => ∃ z, v = .str z ∧ tS X.K e0.M e0.S e0.H E (G z) D σ H1) I ⟨S, δ, st.st, Fin.on (f := fun d => match d with
    | .str z => G z δ
    | _ => .bad) st q fun d q2 v H1 e1 r => ?_⟩) fun v s1 ⟨x, H1, I1, r1, z, ex, q1⟩ => ?_)
  · cases r with
    | str z => exact ⟨z, rfl, S, δ, st.mono e1, q2.ev (.same e1)⟩
    | _ => exact q2.elim
  · subst ex
    obtain ⟨t, rfl⟩ := r1
    exact hm pins s1 σ H1 D z t true I1 q1
end
end DL

/-! DCall: defs and their calls, comprehensions, slices, methods of lists. -/
namespace DL
open PySem PySem.Spec PyProof.Rows L2

/-! ### what a def promises: its mirror -/
def spD (K : PySem.W.Frag) (n : Nat) (G : List D → R D) : Sp := fun vs H Q E => ∃ S ds, Dom S H ∧ RepL K S H vs ds ∧ ds.length = n ∧ Res K S H E (G ds) fun d => ∀ v H', Same H H' → Rep K S H' v d → Q v H'
def FnG (P : Program) (w : World) (K : PySem.W.Frag) (mg : Str → Option Value) (base : Heap) (k : Nat) (f : Addr) (n : Nat) (G : List D → R D) : Prop := FnR P w K mg base (L2.CX P w) k f (spD K n G)
/-- what a body's context has -/
structure Bd (X : Cx) (E : Sg → XK) (k : Nat) : Prop where
  room : Room k X.A
  pass : PsA (L2.CX X.prog X.w) X E
  calm : X.calm = true
  own : PassesOwn (model X.prog X.w) X.A X.env X.xe
theorem Bd.blk {X : Cx} {Eσ : Sg → XK} {k : Nat} (b : Bd X Eσ k) {s : Shared} {H : Hp} {scope : Scope} {cenv : Env} {fp : List Addr} : Bd (X.blk s H scope cenv fp) (fun _ => E0) k := ⟨b.room, PsA.of passL, b.calm, PassesOwn.never⟩
theorem Bd.hu {X : Cx} {Eσ : Sg → XK} {k : Nat} (b : Bd X Eσ k) : X.A.units + 1 < cLine := hu_of b.room
theorem Bd.hu64 {X : Cx} {Eσ : Sg → XK} {k : Nat} (b : Bd X Eσ k) : X.A.units + 64 < cLine := b.room.units
section
variable {P : Program} {w : World} {K : PySem.W.Frag} {mg : Str → Option Value} {base : Heap}
theorem fng_zero {f : Addr} {n : Nat} {k : Nat} : FnG P w K mg base k f n (fun _ => .bad) := fun A outer s H us vs Q E hr e0 r h => by
  obtain ⟨S, ds, _, _, _, q⟩ := h
  exact q.elim
theorem FnG.mono {f : Addr} {n j k : Nat} {G : List D → R D} (F : FnG P w K mg base j f n G) (h : j ≤ k) : FnG P w K mg base k f n G := FnR.mono F h
/-- a mirror's run: the parameters, the other slots -/
def runD (m : Nat) (F : FS) (ds : List D) : R D := match F (ds.map DS.fz ++ List.replicate (m - ds.length) DS.un) with
  | .rt d _ => .ok d
  | .nx _ => .ok .non
  | .exc n xs => .exc n xs
  | _ => .bad
theorem start_st {S : Addr → Prop} {H : Hp} {N : List Str} {vs : List V} {ds : List D} (r : RepL K S H vs ds) (dm : Dom S H) (hl : ds.length ≤ N.length) :
    StS K NoM S H S (L2.start N vs) H (ds.map DS.fz ++ List.replicate (N.length - ds.length) DS.un) := by
  have l := r.length
  have no : ∀ (i : Nat) (t : DS), (ds.map DS.fz ++ List.replicate (N.length - ds.length) DS.un)[i]? = some t → t.mutb = true → False := fun i t h z => by
    have m := List.mem_of_getElem? h
    rcases List.mem_append.mp m with m | m
    · obtain ⟨d, _, e⟩ := List.mem_map.mp m
      subst e
      cases z
    · rw [List.eq_of_mem_replicate m] at z
      cases z
  refine ⟨⟨?_, fun i s h => ?_, fun i j a t u h1 _ m _ _ _ => (no i t h1 m).elim, dm⟩, KeepM.refl, fun _ z => z, dm, fun _ z => z.elim, fun i a t h1 m _ => (no i t h1 m).elim⟩
  · unfold L2.start
    rw [List.length_append, List.length_append, List.length_map, List.length_map, List.length_replicate, List.length_replicate, l]
  · by_cases hi : i < ds.length
    · rw [List.getElem?_append_left (by simpa using hi), List.getElem?_map] at h
      cases e : ds[i]? with
      | none => rw [e] at h; cases h
      | some d =>
        rw [e] at h
        cases h
        obtain ⟨v, h1, h2⟩ := r.get e
        refine ⟨some v, ?_, v, rfl, h2⟩
        unfold L2.start
        rw [List.getElem?_append_left (by rw [List.length_map, l]; exact hi), List.getElem?_map, h1]
        rfl
    · rw [List.getElem?_append_right (by simpa using hi)] at h
      rw [List.getElem?_replicate] at h
      split at h
      · rename_i hlt
        cases h
        refine ⟨none, ?_, trivial⟩
        unfold L2.start
        rw [List.length_map] at hlt
        rw [List.getElem?_append_right (by rw [List.length_map, l]; omega), List.getElem?_replicate, List.length_map, l, if_pos hlt]
      · cases h
/-- a def of the text keeps its mirror's promise -/
theorem fnok_of {x qual : Str} {params : Arguments} {body : List Stmt} {scope : Scope} {dvs : List V} {kws : List (Str × V)} {f : Addr} {fd : FuncData} {N ps : List Str} {k : Nat} {F : FS} (Fd : FunD K x qual params body scope dvs kws f fd) (Sc : FnScope N ps scope)
    (hbody : ∀ (cdv : Value) (A : Around) (outer : List Env) (s : Shared) (e0 : Ent) (H : Hp) (E : XK), Bd (cxOf (L2.CX P w) P w K mg base N qual scope f cdv A outer s H E) (fun _ => E) k →
      Takes (cxOf (L2.CX P w) P w K mg base N qual scope f cdv A outer s H E) (fun cls d _ H => E cls d H) → DSts (cxOf (L2.CX P w) P w K mg base N qual scope f cdv A outer s H E) e0 E body F) : FnOk P w K mg base (L2.CX P w) (k + 1) f fd ps (spD K ps.length (runD N.length F)) := by
  have hpl : ps.length ≤ N.length := by have := congrArg List.length Sc.pre; rw [List.length_take] at this; omega
  refine FunD.ok Fd Sc (fun vs H Q E h => ?_) (fun cdv A outer s H vs Q E hr h => ?_)
  · obtain ⟨S, ds, _, r, hl, _⟩ := h
    rw [r.length, hl]
  · obtain ⟨S, ds, dm, r, hl, q⟩ := h
    have tk : Takes (cxOf (L2.CX P w) P w K mg base N qual scope f cdv A outer s H E) (fun cls d _ H => E cls d H) := takes_of rfl rfl rfl rfl
    refine ⟨_, hbody cdv A outer s ⟨NoM, S, H⟩ H E ⟨hr, PsA.of (passes_call tk fun _ _ _ _ z => z), rfl, passes_of rfl⟩ tk, S, _, start_st r dm (by omega), ?_⟩
    unfold runD at q
    show Fin K NoM S H E _ S H (F _)
    cases e : F (ds.map DS.fz ++ List.replicate (N.length - ds.length) DS.un) with
    | rt d δ =>
      rw [e] at q
      exact fun S' σ' v H' s' r' => q v H' s'.same.all (r'.less s'.sub)
    | nx δ =>
      rw [e] at q
      exact fun S' σ' H' s' _ => q .non H' s'.same.all .non
    | exc n xs =>
      rw [e] at q
      exact fun cls dx H' k x => q cls dx H' k.all x
    | bk δ => rw [e] at q; exact q.elim
    | ct δ => rw [e] at q; exact q.elim
    | bad => rw [e] at q; exact q.elim
theorem fng_of {x qual : Str} {params : Arguments} {body : List Stmt} {scope : Scope} {dvs : List V} {kws : List (Str × V)} {f : Addr} {fd : FuncData} {N ps : List Str} {k : Nat} {F : FS} (Fd : FunD K x qual params body scope dvs kws f fd) (Sc : FnScope N ps scope)
    (hb : Binds K fd ps []) (hbody : ∀ (cdv : Value) (A : Around) (outer : List Env) (s : Shared) (e0 : Ent) (H : Hp) (E : XK), Bd (cxOf (L2.CX P w) P w K mg base N qual scope f cdv A outer s H E) (fun _ => E) k →
      Takes (cxOf (L2.CX P w) P w K mg base N qual scope f cdv A outer s H E) (fun cls d _ H => E cls d H) → DSts (cxOf (L2.CX P w) P w K mg base N qual scope f cdv A outer s H E) e0 E body F) : FnG P w K mg base (k + 1) f ps.length (runD N.length F) := by
  have G2 := (fnok_of (P := P) (w := w) (mg := mg) (base := base) Fd Sc hbody).raw hb (.nil : Vals [] [])
  exact FnR.imp G2 fun vs H Q E h => by rw [List.append_nil]; exact h
end
section
variable {X : Cx} {e0 : Ent} {E : XK} {Eσ : Sg → XK} {k : Nat} {pos p : Pos} {x : Str} {st : Stmt} {rest : List Stmt} {F : FS} {a b c tg : Expr} {f g : FE} {es : List Expr} {fl : FL}
theorem sp_of {n : Nat} {G : List D → R D} {σ : Sg} {H : Hp} {Q : VK} (ha : DA X Eσ es fl) (hn : es.length = n) (h : tD X.K Eσ (fCall G fl) σ H Q) : tDL X.K Eσ fl σ H fun vs H1 => spD X.K n G vs H1 Q (Eσ σ) := by
  obtain ⟨S, δ, st, q⟩ := h
  refine ⟨S, δ, st, ?_⟩
  have q' := Res.on q
  cases r : fl δ with
  | bad => rw [r] at q'; exact q'.elim
  | exc n xs => rw [r] at q'; exact q'
  | ok ds =>
    rw [r] at q'
    exact fun vs H1 e1 r1 => ⟨S, ds, (st.mono e1).here, r1, (ha.len δ ds r).trans hn, (Res.mono e1 (show Res X.K S H (Eσ σ) (G ds) (fun d => ∀ v H', Same H H' → Rep X.K S H' v d → Q v H') from q')).imp fun d q2 v H2 e2 r2 => q2 v H2 (e1.trans e2) r2⟩
/-- f(e, ..) -/
theorem de_call {fa : Addr} {n : Nat} {G : List D → R D} (Fn : FnG X.prog X.w X.K X.mg X.base k fa n G) (B : Bd X Eσ k) (hg : Gl X x) (hm : X.mg x = some (.ref fa)) (hk : PySem.W.keepIn X.K (.ref fa) = true) (ha : DA X Eσ (a :: es) fl)
    (hn : (a :: es).length = n := by rfl) (hdb : (x == ("__debug__" : Str)) = false := by decide) (he : starEach (a :: es) X.env = (false, eval a X.env) :: starEach es X.env := by rfl) (hpl : (backTo pos (starEach es X.env)).any (·.1) = false := by rfl) :
    DE X Eσ (.Call (.Name x p) (a :: es) [] pos) (fCall G fl) := by
  refine ⟨fun pins s σ H Q I h => ?_⟩
  refine wpAny_Call_Name_kw (ld_glob I hg hm ?_ hdb)
  refine PySem.W.callWith_K (h₀ := X.base) I.ok.mod.kin hk (thn (ha.pa.run pos pins s σ H _ I (sp_of ha hn h)) fun us s1 ⟨vs, H1, I1, r, q⟩ => ⟨I1.kIn, ?_⟩) he hpl
  exact wpAny_call (run_at Fn B.room (B.pass σ) I1 r q)
theorem de_call0 {fa : Addr} {G : List D → R D} (Fn : FnG X.prog X.w X.K X.mg X.base k fa 0 G) (B : Bd X Eσ k) (hg : Gl X x) (hm : X.mg x = some (.ref fa)) (hk : PySem.W.keepIn X.K (.ref fa) = true) (hdb : (x == ("__debug__" : Str)) = false := by decide) :
    DE X Eσ (.Call (.Name x p) [] [] pos) (fCall G fNil) := by
  refine ⟨fun pins s σ H Q I h => ?_⟩
  refine wpAny_Call_Name_kw (ld_glob I hg hm ?_ hdb)
  obtain ⟨S, δ, st, q⟩ := h
  exact PySem.W.callWith_K0 I.kIn hk (wpAny_call (run_at (us := []) (vs := []) Fn B.room (B.pass σ) I .nil ⟨S, [], st.here, .nil, rfl, q⟩))

/-! ### slices -/
abbrev FO := DSt → R (Option Int)
def tDO (K : PySem.W.Frag) (E : Sg → XK) (f : FO) : TO := fun σ H Q => ∃ S δ, StE K S σ H δ ∧ Res K S H (E σ) (f δ) fun o => ∀ H', Same H H' → Q o H'
def DO (X : Cx) (E : Sg → XK) (e : Option Expr) (f : FO) : Prop := PO X e (tDO X.K E f)
theorem PO.imp {X : Cx} {e : Option Expr} {t t' : TO} (h : PO X e t) (k : ∀ σ H Q, t' σ H Q → t σ H Q) : PO X e t' := ⟨fun pins s σ H Q I q => h.run pins s σ H Q I (k σ H Q q)⟩
def fNo : FO := fun _ => .ok none
def fSome (f : FE) : FO := fun δ => (f δ).bind fun d => match d with
  | .int i => .ok (some i)
  | _ => .bad
theorem do_no : DO X Eσ none fNo := by
  refine PO.imp po_none fun σ H Q h => ?_
  obtain ⟨S, δ, st, q⟩ := h
  exact q H (Same.refl _)
theorem do_some (h : DE X Eσ a f) : DO X Eσ (some a) (fSome f) := by
  refine PO.imp (po_some h) fun σ H Q h => ?_
  obtain ⟨S, δ, st, q⟩ := h
  refine ⟨S, δ, st, (Res.on q).imp fun d q1 v H1 e1 r1 => ?_⟩
  cases r1 with
  | int i => exact ⟨i, rfl, q1 H1 e1⟩
  | _ => exact q1.elim
def dCut : D → Option Int → Option Int → Option D
  | .lst xs, lo, hi => some (.lst (cut xs lo hi))
  | .tup xs, lo, hi => some (.tup (cut xs lo hi))
  | .str z, lo, hi => if okLe z.length = true then some (.str (cutS z lo hi)) else none
  | _, _, _ => none
def fSl (f : FE) (l h : FO) : FE := fun δ => (f δ).bind fun d => (l δ).bind fun lo => (h δ).bind fun hi => R.of (dCut d lo hi)
theorem cutV_all {vs : List V} {lo hi : Option Int} (h : HT.sIx vs.length 0 lo = 0 ∧ HT.sIx vs.length vs.length hi = vs.length) : cutV vs lo hi = vs := by
  unfold cutV
  rw [h.1, h.2, List.drop_zero, Nat.sub_zero, List.take_length]
theorem sl_all : SlR X fun x lo hi H Q => ∃ S d z, Dom S H ∧ Rep X.K S H x d ∧ dCut d lo hi = some z ∧ Giv X.K S H z Q := by
  intro pins s σ H x v vl vu lo hi sl Q I rx hs pl pu q
  obtain ⟨S, d, z, dm, r, hz, q⟩ := q
  cases d with
  | lst ds =>
    simp only [dCut, Option.some.injEq] at hz
    subst hz
    obtain ⟨b, xs, e1, e2, e3⟩ := r.lstH
    exact sl_list pins s σ H x v vl vu lo hi sl Q I rx hs pl pu ⟨b, xs, e1, SqL.of e2, q.lst dm (e3.cut lo hi)⟩
  | tup ds =>
    simp only [dCut, Option.some.injEq] at hz
    subst hz
    obtain ⟨b, xs, e1, e2, e3⟩ := r.seqT
    refine sl_tupA pins s σ H x v vl vu lo hi sl Q I rx hs pl pu ⟨b, xs, e1, e2, fun hw => ?_, fun _ => q.tup dm (e3.cut lo hi)⟩
    have e4 := e3.cut lo hi
    rw [cutV_all hw] at e4
    have e5 : cut ds lo hi = ds := by
      unfold cut
      rw [← e3.length, hw.1, hw.2, List.drop_zero, Nat.sub_zero, e3.length, List.take_length]
    rw [e5] at q
    rw [← e1]
    exact q.here r
  | str y =>
    simp only [dCut, Option.ite_none_right_eq_some, Option.some.injEq] at hz
    obtain ⟨h1, rfl⟩ := hz
    exact sl_str pins s σ H x v vl vu lo hi sl Q I rx hs pl pu ⟨y, r.strE, okLe_of h1, q.here (.str _)⟩
  | _ => simp [dCut] at hz
theorem de_slice {lo hi : Option Expr} {p2 : Pos} {l h : FO} (ha : DE X Eσ a f) (hl : DO X Eσ lo l) (hh : DO X Eσ hi h) : DE X Eσ (.Subscript a (.Slice lo hi none p2) pos) (fSl f l h) := by
  refine PE.imp (pe_slice sl_all ha hl hh) fun σ H Q hq => ?_
  obtain ⟨S, δ, st, q⟩ := hq
  refine ⟨S, δ, st, (Res.on q).imp fun d q1 v H1 e1 r1 => ?_⟩
  refine ⟨S, δ, st.mono e1, ((Res.on q1).mono e1).imp fun lo' q2 H2 e2 => ?_⟩
  refine ⟨S, δ, (st.mono e1).mono e2, ((Res.on q2).mono (e1.trans e2)).imp fun hi' q3 H3 e3 => ?_⟩
  obtain ⟨z, hz, q4⟩ := Res.of q3
  have e := e1.trans (e2.trans e3)
  exact ⟨S, d, z, (st.mono e).here, (r1.mono e2).mono e3, hz, fun w H4 e4 r4 => q4 w H4 (e.trans e4) r4⟩
/-- x[lo:hi] of the own list at slot i -/
def fSlOw (i : Nat) (l h : FO) : FE := fun δ => (fOwn i δ).bind fun ds => (l δ).bind fun lo => (h δ).bind fun hi => .ok (.lst (cut ds lo hi))
theorem de_sliceOw {lo hi : Option Expr} {p1 p2 : Pos} {l h : FO} (i : Nat) (hl : DO X Eσ lo l) (hh : DO X Eσ hi h) (hN : X.N[i]? = some x := by rfl) (hv : Vis X.env.scope x := by first | exact Or.inl rfl | exact Or.inr (Or.inl rfl) | exact Or.inr (Or.inr rfl))
    (hd : (x == ("__debug__" : Str)) = false := by decide) (hcd : (x == ("__classdict__" : Str)) = false := by decide) : DE X Eσ (.Subscript (.Name x p1) (.Slice lo hi none p2) pos) (fSlOw i l h) := by
  refine PE.imp (pe_slice sl_list (pe_var hN hv hd hcd) hl hh) fun σ H Q hq => ?_
  obtain ⟨S, δ, st, q⟩ := hq
  unfold fSlOw at q
  cases r : fOwn i δ with
  | bad => rw [r] at q; exact q.elim
  | exc n xs => exact (fOwn_ne r).elim
  | ok ds =>
    rw [r] at q
    obtain ⟨o, w1, b, xs, w2, w3, w4, w5⟩ := st.slot i _ (fOwn_at r)
    subst w2
    have q0 : Res X.K S H (Eσ σ) ((l δ).bind fun lo => (h δ).bind fun hi => .ok (.lst (cut ds lo hi))) fun d => ∀ v H', Same H H' → Rep X.K S H' v d → Q v H' := q
    refine ⟨_, w1, S, δ, st, (Res.on q0).imp fun lo' q2 H2 e2 => ?_⟩
    refine ⟨S, δ, st.mono e2, ((Res.on q2).mono e2).imp fun hi' q3 H3 e3 => ?_⟩
    refine ⟨b, xs, rfl, SqL.of (e3 _ _ (e2 _ _ w3)), ?_⟩
    have e := e2.trans e3
    exact Giv.lst (zs := cut ds lo' hi') (fun w H4 e4 r4 => q3 w H4 (e.trans e4) r4) (st.mono e).here ((w5.mono e).cut lo' hi')
/-- len(x), x the own list at slot i -/
def fLenOw (i : Nat) : FE := fun δ => (fOwn i δ).bind fun ds => .ok (.int ds.length)

/-! ### methods of the own list -/
def fExt (i : Nat) (f : FE) : FS := fun δ => O.on (fOwn i δ) fun ds => O.on (f δ) fun d => match d with
  | .lst es => if okLe (ds.length + es.length) = true then .nx (δ.set i (.ow (ds ++ es))) else .bad
  | _ => .bad
theorem ds_ext {i : Nat} {call : Expr} (hb : ∀ t, PA X [a] t → PE X call (tBM X.K "list" rExtend (tVar i) t)) (h : DE X (fun _ => E) a f) (hst : starEach (a :: []) X.env = (false, eval a X.env) :: starEach [] X.env := by rfl)
    (hs : swapsWith call none pos.line X.env = pure false := by rfl) : DSt1 X e0 E (.Expr call pos) (fExt i f) := by
  refine PS.imp (ps_expr (hb _ (pa_cons h pa_nil hst)) hs) fun D σ H hq => ?_
  obtain ⟨S, δ, s, q⟩ := hq
  unfold fExt at q
  cases r : fOwn i δ with
  | bad => rw [r] at q; exact q.elim
  | exc n xs => exact (fOwn_ne r).elim
  | ok ds =>
    rw [r] at q
    have hd := fOwn_at r
    obtain ⟨o, w1, b, xs, w2, w3, w4, w5⟩ := s.st.slot i _ hd
    subst w2
    refine ⟨.ref b, w1, .inl ⟨rfl, _, SqL.of w3⟩, S, δ, s.st, Fin.on (f := fun d => match d with
      | .lst es => if okLe (ds.length + es.length) = true then .nx (δ.set i (.ow (ds ++ es))) else .bad
      | _ => .bad) s q fun d q v H' e' r1 => ?_⟩
    cases d with
    | lst es =>
      by_cases c : okLe (ds.length + es.length) = true
      · simp only [c, if_true] at q
        obtain ⟨b2, ys, e1, e2, e3⟩ := r1.lstH
        subst e1
        refine ⟨b, b2, xs, ys, rfl, rfl, e' _ _ w3, e2, by rw [w5.length, e3.length]; exact okLe_of c, ?_⟩
        obtain ⟨s2, ev⟩ := (s.mono e').chg (xs := xs) hd w1 (ys := xs ++ ys) (es := ds ++ es) ((w5.mono e').append e3)
        exact q S σ _ s2 ((Ev.same e').trans ev)
      · simp only [c, if_false] at q
        exact q.elim
    | _ => exact q.elim
/-- y = x.pop() -/
def fPop (j i : Nat) : FS := fun δ => O.on (fOwn i δ) fun ds => match ds.getLast? with
  | some d => .nx ((δ.set i (.ow ds.dropLast)).set j (.fz d))
  | none => .bad
theorem ds_pop {i j : Nat} {y : Str} {pos' : Pos} {call : Expr} (hb : PE X call (tBM0 X.K "list" rPop (tVar i))) (hN : X.N.Nodup) (hj : X.N[j]? = some y) (hy : Loc X.env.scope y) (hs : swapsWith call (some (.Name y pos')) pos.line X.env = pure false := by rfl)
    (hf : X.fn y = true ∨ X.env.scope.names.lookup y = some .local := by first | exact .inl rfl | exact .inr rfl | assumption) : DSt1 X e0 E (.Assign [.Name y pos'] call pos) (fPop j i) := by
  refine PS.imp (ps_set hN hj hy hb hs hf) fun D σ H hq => ?_
  obtain ⟨S, δ, s, q⟩ := hq
  unfold fPop at q
  cases r : fOwn i δ with
  | bad => rw [r] at q; exact q.elim
  | exc n xs => exact (fOwn_ne r).elim
  | ok ds =>
    rw [r] at q
    have hd := fOwn_at r
    obtain ⟨o, w1, b, xs, w2, w3, w4, w5⟩ := s.st.slot i _ hd
    subst w2
    have q1 : Fin X.K e0.M e0.S e0.H E D S H (match ds.getLast? with
      | some d => .nx ((δ.set i (.ow ds.dropLast)).set j (.fz d))
      | none => .bad) := q
    cases e : ds.getLast? with
    | none => rw [e] at q1; exact q1.elim
    | some d =>
      rw [e] at q1
      have e2 : ds[ds.length - 1]? = some d := by rw [← List.getLast?_eq_getElem?]; exact e
      obtain ⟨v, h1, h2⟩ := w5.get e2
      refine ⟨.ref b, w1, .inl ⟨rfl, _, SqL.of w3⟩, b, xs, v, rfl, rfl, w3, by rw [w5.length]; exact h1, ?_⟩
      obtain ⟨s2, ev⟩ := s.chg (xs := xs) hd w1 (ys := xs.dropLast) (es := ds.dropLast) w5.dropLast
      exact q1 S _ _ (s2.set j (h2.ev ev)) ev
/-- x[k] = e -/
def fPut (i : Nat) (fk fe : FE) : FS := fun δ => O.on (fe δ) fun d => O.on (fOwn i δ) fun ds => O.on (fk δ) fun k => match k with
  | .int n => match L2.ixN ds.length n with
    | some j => .nx (δ.set i (.ow (ds.set j d)))
    | none => .bad
  | _ => .bad
theorem ds_put {i : Nat} {p1 p2 : Pos} (ha : DE X (fun _ => E) a f) (hk : DE X (fun _ => E) b g) (hN : X.N[i]? = some x := by rfl) (hv : Vis X.env.scope x := by first | exact Or.inl rfl | exact Or.inr (Or.inl rfl) | exact Or.inr (Or.inr rfl))
    (hd : (x == ("__debug__" : Str)) = false := by decide) (hcd : (x == ("__classdict__" : Str)) = false := by decide)
    (hs : swapsWithSole [.Subscript (.Name x p1) b p2] a pos.line X.env = pure false := by rfl) (hw : swappedStores [.Subscript (.Name x p1) b p2] a X.env = pure none := by rfl)
    (h1 : (assignEach [.Subscript (.Name x p1) b p2] X.env).map (·.2) = [assign (.Subscript (.Name x p1) b p2) X.env] := by rfl)
    (hx : ∀ v, assign (.Subscript (.Name x p1) b p2) X.env v = (do
      let ov ← holding [v] (eval (.Name x p1) X.env)
      let iv ← holding [v, ov] (eval b X.env)
      standAt p2
      holding [v, ov, iv] (setItem ov iv v)
      release [v, ov, iv] []) := by intro _; rfl) : DSt1 X e0 E (.Assign [.Subscript (.Name x p1) b p2] a pos) (fPut i g f) := by
  refine PS.imp (ps_asg ha (pg_sub (pe_var hN hv hd hcd) hk set_list hx) hs hw h1) fun D σ H hq => ?_
  obtain ⟨S, δ, s, q⟩ := hq
  refine ⟨S, δ, s.st, Fin.on (f := fun d => O.on (fOwn i δ) fun ds => O.on (g δ) fun k => match k with
    | .int n => match L2.ixN ds.length n with
      | some j => .nx (δ.set i (.ow (ds.set j d)))
      | none => .bad
    | _ => .bad) s q fun d q v H1 e1 r1 => ?_⟩
  cases r : fOwn i δ with
  | bad => rw [r] at q; exact q.elim
  | exc n xs => exact (fOwn_ne r).elim
  | ok ds =>
    rw [r] at q
    have hd := fOwn_at r
    obtain ⟨o, w1, b', xs, w2, w3, w4, w5⟩ := s.st.slot i _ hd
    subst w2
    refine ⟨.ref b', w1, S, δ, (s.mono e1).st, Fin.on (f := fun k => match k with
      | .int n => match L2.ixN ds.length n with
        | some j => .nx (δ.set i (.ow (ds.set j d)))
        | none => .bad
      | _ => .bad) (s.mono e1) (q.ev (.same e1)) fun k q2 kv H2 e2 r2 => ?_⟩
    cases r2 with
    | int n =>
      have q3 : Fin X.K e0.M e0.S e0.H E D S H1 (match L2.ixN ds.length n with
        | some j => .nx (δ.set i (.ow (ds.set j d)))
        | none => .bad) := q2
      cases ej : L2.ixN ds.length n with
      | none => rw [ej] at q3; exact q3.elim
      | some j =>
        rw [ej] at q3
        have e := e1.trans e2
        refine ⟨b', xs, n, j, rfl, rfl, e _ _ w3, by rw [w5.length]; exact ej, ?_⟩
        obtain ⟨s2, ev⟩ := (s.mono e).chg (xs := xs) hd w1 (ys := xs.set j v) (es := ds.set j d) (RepL.set (r1.mono e2) j (w5.mono e))
        exact q3 S σ _ s2 ((Ev.same e2).trans ev)
    | _ => exact q2.elim
end
end DL

/-! DMore: isinstance, in and len of an own list, star defs, comprehensions, join. -/
namespace DL
open PySem PySem.Spec PyProof.Rows L2

/-! ### isinstance of a built-in type -/
def D.tyN : D → Option String
  | .non => some "NoneType"
  | .bl _ => some "bool"
  | .int _ => some "int"
  | .str _ => some "str"
  | .lst _ => some "list"
  | .scr _ => some "list"
  | .tup _ => some "tuple"
  | _ => none
inductive IsTy : String → Prop
  | int : IsTy "int"
  | bool : IsTy "bool"
  | str : IsTy "str"
  | list : IsTy "list"
  | tuple : IsTy "tuple"
def isT (t T : String) : Bool := decide (t = T) || (decide (t = "bool") && decide (T = "int"))
def dIsi (T : String) (d : D) : Option D := d.tyN.map fun t => .bl (isT t T)
theorem kitB_is {T : String} (h : IsTy T) : ∀ t, (t = "NoneType" ∨ t = "bool" ∨ t = "int" ∨ t = "str" ∨ t = "list" ∨ t = "tuple") → kitB t T = some (isT t T) := by
  intro t ht
  cases h <;> (rcases ht with rfl | rfl | rfl | rfl | rfl | rfl <;> decide +kernel)
theorem Rep.tyX {K : PySem.W.Frag} {S : Addr → Prop} {H : Hp} {v : V} {d : D} {t : String} (r : Rep K S H v d) (h : d.tyN = some t) : TyX K H v (.type t) ∧ (t = "NoneType" ∨ t = "bool" ∨ t = "int" ∨ t = "str" ∨ t = "list" ∨ t = "tuple") := by
  cases r with
  | non => cases h; exact ⟨.base .non, by simp⟩
  | bl b => cases h; exact ⟨.base (.bl b), by simp⟩
  | int i => cases h; exact ⟨.base (.int i), by simp⟩
  | str x => cases h; exact ⟨.base (.str x), by simp⟩
  | lst e n r => cases h; exact ⟨.base (.lst e), by simp⟩
  | tup e n r => cases h; exact ⟨.base (.tup e), by simp⟩
  | ltp e r => cases h; obtain ⟨o, its, n, e, c, _⟩ := e; exact ⟨.kTuple e c, by simp⟩
  | scr e n r => cases h; exact ⟨.base (.frz e), by simp⟩
  | scl e r => cases h; obtain ⟨o, its, n, e, c, _⟩ := e; exact ⟨.kList e c, by simp⟩
  | _ => cases h
section
variable {X : Cx} {e0 : Ent} {E : XK} {Eσ : Sg → XK} {k : Nat} {pos p : Pos} {x : Str} {st : Stmt} {rest : List Stmt} {F : FS} {a b c tg : Expr} {f g : FE} {es : List Expr} {fl : FL}
theorem de_isi {T : String} {xT : Str} {p2 : Pos} (hT : IsTy T) (hg : Gl X "isinstance") (hm : X.mg "isinstance" = none) (hgT : Gl X xT) (hmT : X.mg xT = none) (hvT : bootBuiltins xT = some (.type T)) (ha : DE X Eσ a f)
    (hn : xT ≠ "__name__" := by decide) (hd : (xT == ("__debug__" : Str)) = false := by decide)
    (hs2 : starEach [.Name xT p2] X.env = (false, eval (.Name xT p2) X.env) :: starEach [] X.env := by rfl) (hs1 : starEach [a, .Name xT p2] X.env = (false, eval a X.env) :: starEach [.Name xT p2] X.env := by rfl)
    (hpl : (backTo pos (starEach [.Name xT p2] X.env)).any (·.1) = false := by rfl) : DE X Eσ (.Call (.Name "isinstance" p) [a, .Name xT p2] [] pos) (fU (dIsi T) f) := by
  refine PE.imp (pe_callB call_isi hg hm PyProof.Rows.boot_isinstance (pa_cons ha (pa_cons (pe_bltn (v := .ty T) hgT hmT hvT rfl hn hd) pa_nil hs2) hs1) (by decide) (by decide) hs1 hpl) fun σ H Q h => ?_
  obtain ⟨S, δ, st, q⟩ := h
  refine ⟨S, δ, st, (Res.on q).imp fun d q1 v H1 e1 r1 => ?_⟩
  obtain ⟨z, hz, q2⟩ := Res.of q1
  obtain ⟨t, ht, ez⟩ := Option.map_eq_some_iff.mp hz
  subst ez
  obtain ⟨w1, w2⟩ := r1.tyX ht
  exact ⟨v, .ty T, .type t, .type T, isT t T, rfl, .ty T, w1, kit_ty (kitB_is hT t w2), q2 _ H1 e1 (.bl _)⟩
/-! ### the own list: in, not in, len -/
def fInOw (neg : Bool) (f : FE) (i : Nat) : FE := fun δ => (f δ).bind fun d => (fOwn i δ).bind fun ds => if (d.flat && ds.all D.flat) = true then .ok (.bl (if neg then !inB d ds else inB d ds)) else .bad
theorem inOw_of {neg : Bool} {i : Nat} {σ : Sg} {H : Hp} {Q : VK} (hq : tD X.K Eσ (fInOw neg f i) σ H Q) : tOp (rIn X.K neg) (tD X.K Eσ f) (tVar i) σ H Q := by
  obtain ⟨S, δ, st, q⟩ := hq
  refine ⟨S, δ, st, (Res.on q).imp fun d q1 v H1 e1 r1 => ?_⟩
  cases r : fOwn i δ with
  | bad => rw [r] at q1; exact q1.elim
  | exc n xs => exact (fOwn_ne r).elim
  | ok ds =>
    rw [r] at q1
    obtain ⟨o, w1, b, xs, w2, w3, w4, w5⟩ := st.slot i _ (fOwn_at r)
    subst w2
    have q2 : Res X.K S H (Eσ σ) (if (d.flat && ds.all D.flat) = true then R.ok (D.bl (if neg then !inB d ds else inB d ds)) else .bad) fun d => ∀ v H', Same H H' → Rep X.K S H' v d → Q v H' := q1
    by_cases c : (d.flat && ds.all D.flat) = true
    · rw [if_pos c] at q2
      obtain ⟨c1, c2⟩ := Bool.and_eq_true_iff.mp c
      have w6 := w5.mono e1
      refine ⟨_, w1, b, xs, rfl, .inl (SqL.of (e1 _ _ w3)), r1.flatV c1, w6.flatV c2, ?_⟩
      rw [RepL.inV r1 c1 w6 c2]
      exact q2 _ H1 e1 (.bl _)
    · rw [if_neg c] at q2
      exact q2.elim
theorem de_inOwG {op : CmpOp} {neg : Bool} {p1 : Pos} (i : Nat) (h1 : OpR X (compareOp op) (rIn X.K neg)) (ha : DE X Eσ a f) (hm : behindInMarks op (.Name x p1) = false) (hN : X.N[i]? = some x) (hv : Vis X.env.scope x)
    (hd : (x == ("__debug__" : Str)) = false) (hcd : (x == ("__classdict__" : Str)) = false) : DE X Eσ (.Compare a [op] [.Name x p1] pos) (fInOw neg f i) :=
  PE.imp (pe_cmpR h1 ha (pe_var hN hv hd hcd) hm) fun σ H Q hq => inOw_of hq
theorem test_bl {f : FE} {σ : Sg} {H : Hp} {Q : Bool → Hp → Prop} (hq : tDB X.K Eσ (fTest f) σ H Q) : tD X.K Eσ f σ H fun x H' => ∃ k, x = .bl k ∧ Q k H' := by
  obtain ⟨S, δ, st, q⟩ := hq
  refine ⟨S, δ, st, (Res.on q).imp fun d q1 v H1 e1 r1 => ?_⟩
  cases r1 with
  | bl k => exact ⟨k, rfl, q1 H1 e1⟩
  | _ => exact q1.elim
theorem db_inOwG {op : CmpOp} {neg : Bool} {p1 : Pos} (i : Nat) (h1 : OpR X (compareOp op) (rIn X.K neg)) (ha : DE X Eσ a f) (hm : behindInMarks op (.Name x p1) = false) (hN : X.N[i]? = some x) (hv : Vis X.env.scope x)
    (hd : (x == ("__debug__" : Str)) = false) (hcd : (x == ("__classdict__" : Str)) = false) : DB X Eσ (.Compare a [op] [.Name x p1] pos) (fTest (fInOw neg f i)) :=
  PT.imp (pt_cmpR h1 ha (pe_var hN hv hd hcd) hm) fun σ H Q hq => inOw_of (test_bl hq)
theorem isN_of {f : FE} {σ : Sg} {H : Hp} {Q : VK} (h : tD X.K Eσ (fU dIsN f) σ H Q) : tIsN (tD X.K Eσ f) σ H Q := by
  obtain ⟨S, δ, st, q⟩ := h
  refine ⟨S, δ, st, (Res.on q).imp fun d q1 v H1 e1 r1 => ?_⟩
  have q2 : Giv X.K S H (.bl d.isNon) Q := q1
  show Q (.bl (decide (v = .non))) H1
  rw [r1.non_iff]
  exact q2 _ H1 e1 (.bl _)
theorem notN_of {f : FE} {σ : Sg} {H : Hp} {Q : VK} (h : tD X.K Eσ (fU dNotN f) σ H Q) : tNotN (tD X.K Eσ f) σ H Q := by
  obtain ⟨S, δ, st, q⟩ := h
  refine ⟨S, δ, st, (Res.on q).imp fun d q1 v H1 e1 r1 => ?_⟩
  have q2 : Giv X.K S H (.bl (!d.isNon)) Q := q1
  show Q (.bl (!decide (v = .non))) H1
  rw [r1.non_iff]
  exact q2 _ H1 e1 (.bl _)
theorem db_isN {p2 : Pos} {j : Nat} (h : DE X Eσ a f) : DB X Eσ (.Compare a [.Is] [.Constant .none j p2] pos) (fTest (fU dIsN f)) := PT.imp (pt_cmp (pc_isN h)) fun σ H Q hq => isN_of (test_bl hq)
theorem db_notN {p2 : Pos} {j : Nat} (h : DE X Eσ a f) : DB X Eσ (.Compare a [.IsNot] [.Constant .none j p2] pos) (fTest (fU dNotN f)) := PT.imp (pt_cmp (pc_notN h)) fun σ H Q hq => notN_of (test_bl hq)
theorem db_inOw {p1 : Pos} (i : Nat) (ha : DE X Eσ a f) (hN : X.N[i]? = some x := by rfl) (hv : Vis X.env.scope x := by first | exact Or.inl rfl | exact Or.inr (Or.inl rfl) | exact Or.inr (Or.inr rfl)) (hm : behindInMarks .In (.Name x p1) = false := by rfl)
    (hd : (x == ("__debug__" : Str)) = false := by decide) (hcd : (x == ("__classdict__" : Str)) = false := by decide) : DB X Eσ (.Compare a [.In] [.Name x p1] pos) (fTest (fInOw false f i)) := db_inOwG i op_in_seq ha hm hN hv hd hcd
theorem db_ninOw {p1 : Pos} (i : Nat) (ha : DE X Eσ a f) (hN : X.N[i]? = some x := by rfl) (hv : Vis X.env.scope x := by first | exact Or.inl rfl | exact Or.inr (Or.inl rfl) | exact Or.inr (Or.inr rfl)) (hm : behindInMarks .NotIn (.Name x p1) = false := by rfl)
    (hd : (x == ("__debug__" : Str)) = false := by decide) (hcd : (x == ("__classdict__" : Str)) = false := by decide) : DB X Eσ (.Compare a [.NotIn] [.Name x p1] pos) (fTest (fInOw true f i)) := db_inOwG i op_notIn_seq ha hm hN hv hd hcd
theorem de_inOw {p1 : Pos} (i : Nat) (ha : DE X Eσ a f) (hN : X.N[i]? = some x := by rfl) (hv : Vis X.env.scope x := by first | exact Or.inl rfl | exact Or.inr (Or.inl rfl) | exact Or.inr (Or.inr rfl)) (hm : behindInMarks .In (.Name x p1) = false := by rfl)
    (hd : (x == ("__debug__" : Str)) = false := by decide) (hcd : (x == ("__classdict__" : Str)) = false := by decide) : DE X Eσ (.Compare a [.In] [.Name x p1] pos) (fInOw false f i) := de_inOwG i op_in_seq ha hm hN hv hd hcd
theorem de_ninOw {p1 : Pos} (i : Nat) (ha : DE X Eσ a f) (hN : X.N[i]? = some x := by rfl) (hv : Vis X.env.scope x := by first | exact Or.inl rfl | exact Or.inr (Or.inl rfl) | exact Or.inr (Or.inr rfl)) (hm : behindInMarks .NotIn (.Name x p1) = false := by rfl)
    (hd : (x == ("__debug__" : Str)) = false := by decide) (hcd : (x == ("__classdict__" : Str)) = false := by decide) : DE X Eσ (.Compare a [.NotIn] [.Name x p1] pos) (fInOw true f i) := de_inOwG i op_notIn_seq ha hm hN hv hd hcd
/-! ### the own list: an item, its length -/
def fIxOw (i : Nat) (f : FE) : FE := fun δ => (fOwn i δ).bind fun ds => (f δ).bind fun d => R.of (dIx (.lst ds) d)
theorem de_ixOw {p1 : Pos} (i : Nat) (hb : DE X Eσ b g) (hs : PlainIx b) (hN : X.N[i]? = some x := by rfl) (hv : Vis X.env.scope x := by first | exact Or.inl rfl | exact Or.inr (Or.inl rfl) | exact Or.inr (Or.inr rfl))
    (hd : (x == ("__debug__" : Str)) = false := by decide) (hcd : (x == ("__classdict__" : Str)) = false := by decide) : DE X Eσ (.Subscript (.Name x p1) b pos) (fIxOw i g) := by
  refine PE.imp (pe_ix ix_list (pe_var hN hv hd hcd) hb hs) fun σ H Q hq => ?_
  obtain ⟨S, δ, st, q⟩ := hq
  unfold fIxOw at q
  cases r : fOwn i δ with
  | bad => rw [r] at q; exact q.elim
  | exc n xs => exact (fOwn_ne r).elim
  | ok ds =>
    rw [r] at q
    obtain ⟨o, w1, b', xs, w2, w3, w4, w5⟩ := st.slot i _ (fOwn_at r)
    subst w2
    have q0 : Res X.K S H (Eσ σ) ((g δ).bind fun d => R.of (dIx (.lst ds) d)) fun d => ∀ v H', Same H H' → Rep X.K S H' v d → Q v H' := q
    refine ⟨_, w1, S, δ, st, (Res.on q0).imp fun d q1 v H1 e1 r1 => ?_⟩
    obtain ⟨z, hz, q2⟩ := Res.of q1
    cases d <;> simp only [dIx, reduceCtorEq] at hz
    obtain ⟨w, h1, h2⟩ := repL_atI (w5.mono e1) hz
    exact ⟨b', xs, _, w, rfl, r1.intE, SqL.of (e1 _ _ w3), h1, q2 _ H1 e1 h2⟩
theorem de_lenOw {p1 : Pos} (i : Nat) (hg : Gl X "len") (hm : X.mg "len" = none) (hN : X.N[i]? = some x := by rfl) (hv : Vis X.env.scope x := by first | exact Or.inl rfl | exact Or.inr (Or.inl rfl) | exact Or.inr (Or.inr rfl))
    (hd : (x == ("__debug__" : Str)) = false := by decide) (hcd : (x == ("__classdict__" : Str)) = false := by decide)
    (he : starEach [.Name x p1] X.env = (false, eval (.Name x p1) X.env) :: starEach [] X.env := by rfl) (hpl : (backTo pos (starEach [] X.env)).any (·.1) = false := by rfl) : DE X Eσ (.Call (.Name "len" p) [.Name x p1] [] pos) (fLenOw i) := by
  refine PE.imp (pe_callB call_len_seq hg hm PySem.boot_len (pa_cons (pe_var hN hv hd hcd) pa_nil he) (by decide) (by decide) he hpl) fun σ H Q hq => ?_
  obtain ⟨S, δ, st, q⟩ := hq
  unfold fLenOw at q
  cases r : fOwn i δ with
  | bad => rw [r] at q; exact q.elim
  | exc n xs => exact (fOwn_ne r).elim
  | ok ds =>
    rw [r] at q
    obtain ⟨o, w1, b', xs, w2, w3, w4, w5⟩ := st.slot i _ (fOwn_at r)
    subst w2
    refine ⟨_, w1, b', xs, rfl, .inl (SqL.of w3), ?_⟩
    rw [w5.length]
    exact q _ H (Same.refl _) (.int _)
/-! ### def f(a, .., *v) -/
def starD (n m : Nat) (F : FS) (ds : List D) : R D := if (decide (n ≤ ds.length) && okLe ds.length) = true then runD m F (ds.take n ++ [.tup (ds.drop n)]) else .bad
/-- a promise of any number of arguments -/
def spV (K : PySem.W.Frag) (G : List D → R D) : Sp := fun vs H Q E => ∃ S ds, Dom S H ∧ RepL K S H vs ds ∧ Res K S H E (G ds) fun d => ∀ v H', Same H H' → Rep K S H' v d → Q v H'
def FnV (P : Program) (w : World) (K : PySem.W.Frag) (mg : Str → Option Value) (base : Heap) (k : Nat) (f : Addr) (G : List D → R D) : Prop := FnR P w K mg base (L2.CX P w) k f (spV K G)
theorem FnV.mono {P : Program} {w : World} {K : PySem.W.Frag} {mg : Str → Option Value} {base : Heap} {f : Addr} {j k : Nat} {G : List D → R D} (F : FnV P w K mg base j f G) (h : j ≤ k) : FnV P w K mg base k f G := FnR.mono F h
theorem FnV.at {P : Program} {w : World} {K : PySem.W.Frag} {mg : Str → Option Value} {base : Heap} {f : Addr} {k : Nat} {G : List D → R D} (F : FnV P w K mg base k f G) (n : Nat) : FnG P w K mg base k f n G := FnR.imp F fun vs H Q E ⟨S, ds, dm, r, _, q⟩ => ⟨S, ds, dm, r, q⟩
theorem fnv_star {P : Program} {w : World} {K : PySem.W.Frag} {mg : Str → Option Value} {base : Heap} {x qual : Str} {params : Arguments} {body : List Stmt} {scope : Scope} {kws : List (Str × V)} {f : Addr} {fd : FuncData} {N ps : List Str} {pv : Str} {k : Nat} {F : FS}
    (Fd : FunD K x qual params body scope [] kws f fd) (Sc : FnScope N (ps ++ [pv]) scope)
    (hb : ∀ (kV doc pm : Value) (an : Option Addr) (cdv ct : Value) (us rest : List Value), us.length = ps.length → bindArgs (PySem.W.fnOf x qual params body scope .none kV doc pm an cdv ct) ⟨us ++ rest, []⟩ = (newTuple rest >>= fun t => pure (ps.zip us ++ [(pv, t)])))
    (hbody : ∀ (cdv : Value) (A : Around) (outer : List Env) (s : Shared) (e0 : Ent) (H : Hp) (E : XK), Bd (cxOf (L2.CX P w) P w K mg base N qual scope f cdv A outer s H E) (fun _ => E) k →
      Takes (cxOf (L2.CX P w) P w K mg base N qual scope f cdv A outer s H E) (fun cls d _ H => E cls d H) → DSts (cxOf (L2.CX P w) P w K mg base N qual scope f cdv A outer s H E) e0 E body F) : FnV P w K mg base (k + 1) f (starD ps.length N.length F) := by
  have hpl : ps.length + 1 ≤ N.length := by have := congrArg List.length Sc.pre; rw [List.length_take, List.length_append] at this; simp only [List.length_singleton] at this; omega
  obtain ⟨oc, od, dV, kV, doc, pm, an, cdv, ct, osl, rfl, lk, hcd, hD, _⟩ := Fd.ex
  rcases hD with ⟨_, rfl⟩ | ⟨z, _⟩
  · have G := StX.fn_star (k := k) (sp := fun vs H Q E => ∃ S ds, Dom S H ∧ RepL K S H vs ds ∧ ds.length = ps.length + 1 ∧ Res K S H E (runD N.length F ds) fun d => ∀ v H', Same H H' → Rep K S H' v d → Q v H') (P := P) (w := w) (mg := mg) (base := base) (CX := L2.CX P w) (ps := ps) (pv := pv) lk hcd Sc (StX.cxUp) (hb kV doc pm an cdv ct) (fun A outer s H vs Q E hr h => ?_)
    · refine FnR.imp G fun vs H Q E h => ?_
      obtain ⟨S, ds, dm, r, q⟩ := h
      unfold starD at q
      by_cases c0 : (decide (ps.length ≤ ds.length) && okLe ds.length) = true
      · rw [if_pos c0] at q
        have c : ps.length ≤ ds.length ∧ ds.length ≤ sizeLine := ⟨of_decide_eq_true (Bool.and_eq_true_iff.mp c0).1, okLe_of (Bool.and_eq_true_iff.mp c0).2⟩
        have l := r.length
        refine ⟨vs.take ps.length, vs.drop ps.length, (List.take_append_drop _ _).symm, by rw [List.length_take, l]; omega, by rw [List.length_drop, l]; omega, fun p hp => ?_⟩
        have e : Same H (upd H p (.tup (vs.drop ps.length))) := same_new hp _
        refine ⟨S, ds.take ps.length ++ [.tup (ds.drop ps.length)], fun b z => let ⟨o, ho⟩ := dm b z; ⟨o, e _ _ ho⟩, ((r.take _).mono e).append (.cons (.tup upd_same (dm.new hp) ((r.drop _).mono e)) .nil), by rw [List.length_append, List.length_take]; simp only [List.length_singleton]; omega, (q.mono e).imp fun d q2 v H2 e2 r2 => q2 v H2 (e.trans e2) r2⟩
      · rw [if_neg c0] at q
        exact q.elim
    · obtain ⟨S, ds, dm, r, hl, q⟩ := h
      have tk : Takes (cxOf (L2.CX P w) P w K mg base N qual scope f cdv A outer s H E) (fun cls d _ H => E cls d H) := takes_of rfl rfl rfl rfl
      refine ⟨_, hbody cdv A outer s ⟨NoM, S, H⟩ H E ⟨hr, PsA.of (passes_call tk fun _ _ _ _ z => z), rfl, passes_of rfl⟩ tk, S, _, start_st r dm (by omega), ?_⟩
      unfold runD at q
      show Fin K NoM S H E _ S H (F _)
      cases e : F (ds.map DS.fz ++ List.replicate (N.length - ds.length) DS.un) with
      | rt d δ => rw [e] at q; exact fun S' σ' v H' s' r' => q v H' s'.same.all (r'.less s'.sub)
      | nx δ => rw [e] at q; exact fun S' σ' H' s' _ => q .non H' s'.same.all .non
      | exc n xs => rw [e] at q; exact fun cls dx H' k x => q cls dx H' k.all x
      | bk δ => rw [e] at q; exact q.elim
      | ct δ => rw [e] at q; exact q.elim
      | bad => rw [e] at q; exact q.elim
  · exact absurd rfl z
end
end DL

/-! DComp: list comprehensions with one name as the target. -/
namespace DL
open PySem PySem.Spec PyProof.Rows L2

/-- no own error leaves a comprehension -/
def R.quiet {α : Type} (r : R α) : R α := match r with
  | .ok a => .ok a
  | _ => .bad
def lcF (i : Nat) (t : FB) (f : FE) (δ : DSt) : List D → List D → R (List D)
  | [], acc => .ok acc
  | d :: ds, acc => (t (δ.set i (.fz d))).quiet.bind fun b => match b with
    | true => (f (δ.set i (.fz d))).quiet.bind fun y => if okLt acc.length = true then lcF i t f δ ds (acc ++ [y]) else .bad
    | false => lcF i t f δ ds acc
def fLcL (fi : FL) (i : Nat) (t : FB) (f : FE) : FL := fun δ => (fi δ).bind fun ds => lcF i t f δ ds []
def fLc (fi : FL) (i : Nat) (t : FB) (f : FE) : FE := fun δ => (fLcL fi i t f δ).bind fun ds => .ok (.lst ds)
theorem quiet_on {α β : Type} {r : R α} {f : α → R β} {b : β} (h : r.quiet.bind f = .ok b) : ∃ a, r = .ok a ∧ f a = .ok b := by
  cases r with
  | ok a => exact ⟨a, rfl, h⟩
  | exc n xs => cases h
  | bad => cases h
theorem lcF_noexc {i : Nat} {t : FB} {f : FE} {δ : DSt} : ∀ (ds acc : List D) (n : Str) (xs : List D), lcF i t f δ ds acc ≠ .exc n xs
  | [], acc, n, xs => by unfold lcF; exact fun z => by cases z
  | d :: ds, acc, n, xs => by
    unfold lcF
    intro z
    cases q : t (δ.set i (.fz d)) with
    | bad => rw [q] at z; cases z
    | exc n xs => rw [q] at z; cases z
    | ok b =>
      rw [q] at z
      cases b with
      | false => exact lcF_noexc ds acc n xs z
      | true =>
        have z' : ((f (δ.set i (.fz d))).quiet.bind fun y => if okLt acc.length = true then lcF i t f δ ds (acc ++ [y]) else .bad) = .exc n xs := z
        cases q2 : f (δ.set i (.fz d)) with
        | bad => rw [q2] at z'; cases z'
        | exc n xs => rw [q2] at z'; cases z'
        | ok y =>
          rw [q2] at z'
          have z2 : (if okLt acc.length = true then lcF i t f δ ds (acc ++ [y]) else .bad) = .exc n xs := z'
          by_cases c : okLt acc.length = true
          · rw [if_pos c] at z2; exact lcF_noexc ds _ n xs z2
          · rw [if_neg c] at z2; cases z2
/-- the tests of a comprehension -/
def tDT (K : PySem.W.Frag) (f : FB) : TT := tDB K (fun _ _ _ _ => False) f
def DTs (X : Cx) (ifs : List Expr) (f : FB) : Prop := PTs X ifs (tDB X.K E0s f)
def fYes : FB := fun _ => .ok true
theorem dts_nil {X : Cx} : DTs X [] fYes := by
  refine ⟨fun pins s σ H Q I h => ?_⟩
  obtain ⟨S, δ, st, q⟩ := h
  exact pts_nil.run pins s σ H Q I (q H (Same.refl _))
theorem dts_one {X : Cx} {c : Expr} {t : FB} (h : DB X E0s c t) : DTs X [c] t := pts_one h
section
variable {X : Cx} {e0 : Ent} {E : XK} {Eσ : Sg → XK} {pos p : Pos} {x y : Str} {a b c tg elt iter : Expr} {f g : FE} {fi : FL} {t : FB} {ifs : List Expr} {scope : Scope} {own : List (Str × Nat)} {i : Nat}
/-- the reading: D the new list -/
theorem lc_read {σ : Sg} {H : Hp} {Q : VK} {S : Addr → Prop} {δ : DSt} (st : StE X.K S σ H δ) {ds : List D} {J : It} {H1 : Hp} (e1 : Same H H1) (io : ItOk X.K S H1 J ds) {res : List D} (hr : lcF i t f δ ds [] = .ok res)
    (hq : ∀ D H', H1 D = none → Same H H' → (∃ vs, H' D = some (.lst vs) ∧ ¬ S D ∧ RepL X.K (fun b => S b ∨ b = D) H' vs res) → StE X.K (fun b => S b ∨ b = D) σ H' δ → Q (.ref D) H') :
    ∀ D, H1 D = none → ∃ W : Nat → Nat → Hp → Prop, (∃ m, W 0 m (upd H1 D (.lst []))) ∧ ∀ k m H, W k m H →
      (J.stop k H ∧ Q (.ref D) H) ∨ (J.go k H ∧ ∃ Nx : Hp → Prop, (∀ H', Nx H' → ∃ m', m' < m ∧ W (k + 1) m' H') ∧ ∀ x H', J.yld k H x H' → gName i x (wipe σ [i]) H' fun σ2 H2 => wipe σ2 [i] = wipe σ [i] ∧ tDB X.K E0s t σ2 H2 fun b H3 =>
        if b = true then tD X.K E0s f σ2 H3 fun y H4 => ∃ acc, H4 D = some (.lst acc) ∧ acc.length < sizeLine ∧ Nx (upd H4 D (.lst (acc ++ [y]))) else Nx H3) := by
  intro D hD
  have hDH : H D = none := by
    cases q : H D with
    | none => rfl
    | some o => have := e1 D o q; rw [hD] at this; cases this
  have nSD : ¬ S D := fun z => by obtain ⟨o, q⟩ := st.here D z; rw [hDH] at q; cases q
  -- what holds between the turns
  let Good : Nat → List DL.D → Hp → Prop := fun k acc H' => Same H H' ∧ Ev S H1 (fun b => S b ∨ b = D) H' ∧ (∃ vs, H' D = some (.lst vs) ∧ RepL X.K (fun b => S b ∨ b = D) H' vs acc) ∧ StE X.K (fun b => S b ∨ b = D) σ H' δ ∧ lcF i t f δ (ds.drop k) acc = .ok res
  have grow : ∀ H', Same H H' → (∃ o, H' D = some o) → StE X.K (fun b => S b ∨ b = D) σ H' δ := fun H' e hd => by
    have s1 := st.mono e
    refine ⟨s1.len, fun j u h => ?_, s1.sep, fun b z => ?_⟩
    · obtain ⟨o, h1, h2⟩ := st.slot j u h
      refine ⟨o, h1, ?_⟩
      have ev : Ev S H (fun b => S b ∨ b = D) H' := ⟨fun b o h _ => e b o h, fun b o h n z => z.elim n fun z => by rw [z, hDH] at h; cases h⟩
      refine h2.move ev.keep ev.off fun b q m => ?_
      obtain ⟨b', u, q1, q2, q3⟩ := h2.addr m
      rw [q1] at q
      cases q
      exact ⟨fun u q => e _ _ q, .inl q3⟩
    · rcases z with z | z
      · exact s1.here b z
      · rw [z]; exact hd
  refine ⟨fun k m H' => m = ds.length - k ∧ k ≤ ds.length ∧ ∃ acc, Good k acc H', ⟨ds.length, rfl, Nat.zero_le _, [], ?_⟩, ?_⟩
  · have e2 : Same H (upd H1 D (.lst [])) := e1.trans (same_new hD _)
    exact ⟨e2, ⟨fun b o h _ => same_new hD _ b o h, fun b o h n z => z.elim n fun z => by rw [z, hD] at h; cases h⟩, ⟨[], upd_same, .nil⟩, grow _ e2 ⟨_, upd_same⟩, by rw [List.drop_zero]; exact hr⟩
  · rintro k m H' ⟨rfl, hk, acc, e2, ev, ⟨vs, hv, rv⟩, s2, hl⟩
    obtain ⟨go, stop⟩ := io _ H' ev s2.here k
    by_cases hlt : k < ds.length
    · obtain ⟨g1, g2⟩ := go hlt
      refine .inr ⟨g1, fun H3 => ∃ acc', Good (k + 1) acc' H3, fun H3 z => ⟨ds.length - (k + 1), by omega, rfl, hlt, z⟩, fun z H3 yz => ?_⟩
      obtain ⟨e3, d, hd, rz⟩ := g2 z H3 yz
      rw [List.drop_eq_getElem_cons hlt] at hl
      have ed : d = ds[k] := by
        rw [List.getElem?_eq_getElem hlt] at hd
        exact (Option.some.inj hd).symm
      subst ed
      unfold lcF at hl
      obtain ⟨bb, ht, hl2⟩ := quiet_on hl
      have es : wipe σ [i] = σ.set i none := rfl
      have s3 : StE X.K (fun b => S b ∨ b = D) ((wipe σ [i]).set i (some z)) H3 (δ.set i (.fz ds[k])) := by
        rw [es, List.set_set]
        exact (s2.mono e3).set i rz
      refine ⟨?_, _, _, s3, ?_⟩
      · show ((σ.set i none).set i (some z)).set i none = σ.set i none
        rw [List.set_set, List.set_set]
      rw [ht]
      intro H4 e4
      cases bb with
      | true =>
        rw [if_pos rfl]
        obtain ⟨yv, hf, hl3⟩ := quiet_on (show ((f (δ.set i (.fz ds[k]))).quiet.bind fun y => if okLt acc.length = true then lcF i t f δ (ds.drop (k + 1)) (acc ++ [y]) else .bad) = .ok res from hl2)
        refine ⟨_, _, s3.mono e4, ?_⟩
        rw [hf]
        intro w H5 e5 rw5
        by_cases c : okLt acc.length = true
        · rw [if_pos c] at hl3
          have e35 := e3.trans (e4.trans e5)
          have hv5 := e35 _ _ hv
          have evU : Ev (fun b => S b ∨ b = D) H5 (fun b => S b ∨ b = D) (upd H5 D (.lst (vs ++ [w]))) := ⟨fun b o h n => by rw [upd_ne (fun z => n (.inr z))]; exact h, fun _ _ _ n => n⟩
          have eH : Same H (upd H5 D (.lst (vs ++ [w]))) := fun b o h => by
            rw [upd_ne (fun z => by rw [z, hDH] at h; cases h)]
            exact e35 _ _ (e2 _ _ h)
          refine ⟨vs, hv5, by rw [rv.length]; exact okLt_of c, acc ++ [yv], eH, ev.trans ((Ev.same e35).trans evU), ⟨vs ++ [w], upd_same, (((rv.mono e35).append (.cons rw5 .nil)).ev evU)⟩, grow _ eH ⟨_, upd_same⟩, hl3⟩
        · rw [if_neg c] at hl3; cases hl3
      | false =>
        rw [if_neg Bool.false_ne_true]
        have e34 := e3.trans e4
        exact ⟨acc, e2.trans e34, ev.trans (Ev.same e34), ⟨vs, e34 _ _ hv, rv.mono e34⟩, s2.mono e34, hl2⟩
    · have e : k = ds.length := by omega
      subst e
      rw [List.drop_length] at hl
      unfold lcF at hl
      cases hl
      exact .inl ⟨stop (Nat.le_refl _), hq D H' hD e2 ⟨vs, hv, nSD, rv⟩ s2⟩
theorem lc_tl {σ : Sg} {H : Hp} {Q : VK} {S : Addr → Prop} {δ : DSt} (st : StE X.K S σ H δ) (h : Res X.K S H (Eσ σ) (fLcL fi i t f δ) fun res => ∀ D H', Same H H' → H D = none → (∃ vs, H' D = some (.lst vs) ∧ ¬ S D ∧ RepL X.K (fun b => S b ∨ b = D) H' vs res) → StE X.K (fun b => S b ∨ b = D) σ H' δ → Q (.ref D) H') :
    tLc (tI X.K Eσ fi) (gName i) (tDB X.K E0s t) (tD X.K E0s f) [i] σ H Q := by
  refine ⟨S, δ, st, (Res.on (show Res X.K S H (Eσ σ) ((fi δ).bind fun ds => lcF i t f δ ds []) _ from h)).imp fun ds q J H1 e1 io => ?_⟩
  cases r : lcF i t f δ ds [] with
  | bad => rw [r] at q; exact q.elim
  | exc n xs => exact absurd r (lcF_noexc _ _ _ _)
  | ok res =>
    rw [r] at q
    exact lc_read st e1 io r fun D H' hD e' h3 s' => q D H' e' (by
      cases z : H D with
      | none => rfl
      | some o => have := e1 D o z; rw [hD] at this; cases this) h3 s'
theorem de_lc (hc : X.calm = true) (hN : X.N.Nodup) (hi : DI X Eσ tg iter fi) (ok : BlkOk X.N X.env.scope scope own) (ho : own.map (·.2) = [i])
    (hg : ∀ (s : Shared) (H : Hp) (C : Addr) (cl : List (Str × Addr)) (fp : List Addr), PG (X.blk s H scope (compEnvC scope cl C X.env) fp) tg (gName i))
    (ht : ∀ (s : Shared) (H : Hp) (C : Addr) (cl : List (Str × Addr)) (fp : List Addr), DTs (X.blk s H scope (compEnvC scope cl C X.env) fp) ifs t)
    (he : ∀ (s : Shared) (H : Hp) (C : Addr) (cl : List (Str × Addr)) (fp : List Addr), DE (X.blk s H scope (compEnvC scope cl C X.env) fp) E0s elt f) (hs : ∀ x, foldedSetIterable iter X.env x = pure x := by intro _; rfl) :
    DE X Eσ (.ListComp elt [⟨tg, iter, ifs, 0⟩] scope pos) (fLc fi i t f) := by
  refine PE.imp (pe_lc (tt := tDB X.K E0s t) (te := tD X.K E0s f) hc hN hi ok hg ht he hs) fun σ H Q h => ?_
  obtain ⟨S, δ, st, q⟩ := h
  rw [ho]
  refine lc_tl st ((Res.on (show Res X.K S H (Eσ σ) ((fLcL fi i t f δ).bind fun ds => R.ok (D.lst ds)) _ from q)).imp fun res q2 D H' e' hD h3 s' => ?_)
  obtain ⟨vs, h1, h2, h3⟩ := h3
  have q3 : ∀ v H', Same H H' → Rep X.K S H' v (.lst res) → Q v H' := q2
  exact q3 _ H' e' (.lst h1 h2 (h3.less fun b z => .inl z))
/-- y = [..]: frozen, or the frame's own -/
theorem ds_setLc {j : Nat} {py spos : Pos} (hc : X.calm = true) (hN : X.N.Nodup) (hy : X.N[j]? = some y) (hyl : X.env.scope.names.lookup y = some .local) (hsw : swapsWith (.ListComp elt [⟨tg, iter, ifs, 0⟩] scope pos) (some (.Name y py)) spos.line X.env = pure true)
    (hi : DI X (fun _ => E) tg iter fi) (ok : BlkOk X.N X.env.scope scope own) (ho : own.map (·.2) = [i])
    (hg : ∀ (s : Shared) (H : Hp) (C : Addr) (cl : List (Str × Addr)) (fp : List Addr), PG (X.blk s H scope (compEnvC scope cl C X.env) fp) tg (gName i))
    (ht : ∀ (s : Shared) (H : Hp) (C : Addr) (cl : List (Str × Addr)) (fp : List Addr), DTs (X.blk s H scope (compEnvC scope cl C X.env) fp) ifs t)
    (he : ∀ (s : Shared) (H : Hp) (C : Addr) (cl : List (Str × Addr)) (fp : List Addr), DE (X.blk s H scope (compEnvC scope cl C X.env) fp) E0s elt f) (hs : ∀ x, foldedSetIterable iter X.env x = pure x := by intro _; rfl) :
    DSt1 X e0 E (.Assign [.Name y py] (.ListComp elt [⟨tg, iter, ifs, 0⟩] scope pos) spos) (fSet j (fLc fi i t f)) := by
  refine PS.imp (ps_setLc (tt := tDB X.K E0s t) (te := tD X.K E0s f) hc hN hy hyl hsw hi ok hg ht he hs) fun Dn σ H h => ?_
  obtain ⟨S, δ, s, q⟩ := h
  rw [ho]
  have q0 : Fin X.K e0.M e0.S e0.H E Dn S H (O.on ((fLcL fi i t f δ).bind fun ds => R.ok (D.lst ds)) fun d => .nx (δ.set j (.fz d))) := q
  have q1 : Fin X.K e0.M e0.S e0.H E Dn S H (O.on (fLcL fi i t f δ) fun ds => .nx (δ.set j (.fz (.lst ds)))) := by
    cases r : fLcL fi i t f δ with
    | ok a => rw [r] at q0; exact q0
    | exc n xs => rw [r] at q0; exact q0
    | bad => rw [r] at q0; exact q0
  refine lc_tl s.st (Fin.on (f := fun ds => .nx (δ.set j (.fz (.lst ds)))) s q1 fun res q2 D H' e' hD h3 s' => ?_)
  obtain ⟨vs, h1, h2, h3⟩ := h3
  exact q2 S _ H' ((s.mono e').set j (.lst h1 h2 (h3.less fun b z => .inl z))) (.same e')
theorem ds_newLc {j : Nat} {py spos : Pos} (hc : X.calm = true) (hN : X.N.Nodup) (hy : X.N[j]? = some y) (hyl : X.env.scope.names.lookup y = some .local) (hsw : swapsWith (.ListComp elt [⟨tg, iter, ifs, 0⟩] scope pos) (some (.Name y py)) spos.line X.env = pure true)
    (hi : DI X (fun _ => E) tg iter fi) (ok : BlkOk X.N X.env.scope scope own) (ho : own.map (·.2) = [i])
    (hg : ∀ (s : Shared) (H : Hp) (C : Addr) (cl : List (Str × Addr)) (fp : List Addr), PG (X.blk s H scope (compEnvC scope cl C X.env) fp) tg (gName i))
    (ht : ∀ (s : Shared) (H : Hp) (C : Addr) (cl : List (Str × Addr)) (fp : List Addr), DTs (X.blk s H scope (compEnvC scope cl C X.env) fp) ifs t)
    (he : ∀ (s : Shared) (H : Hp) (C : Addr) (cl : List (Str × Addr)) (fp : List Addr), DE (X.blk s H scope (compEnvC scope cl C X.env) fp) E0s elt f) (hs : ∀ x, foldedSetIterable iter X.env x = pure x := by intro _; rfl) :
    DSt1 X e0 E (.Assign [.Name y py] (.ListComp elt [⟨tg, iter, ifs, 0⟩] scope pos) spos) (fNew j (fLcL fi i t f)) := by
  refine PS.imp (ps_setLc (tt := tDB X.K E0s t) (te := tD X.K E0s f) hc hN hy hyl hsw hi ok hg ht he hs) fun Dn σ H h => ?_
  obtain ⟨S, δ, s, q⟩ := h
  rw [ho]
  refine lc_tl s.st (Fin.on (f := fun ds => .nx (δ.set j (.ow ds))) s q fun res q2 D H' e' hD h3 s' => ?_)
  obtain ⟨vs, h1, h2, h3⟩ := h3
  obtain ⟨s2, ev⟩ := s.newG j hD e' h1 h3
  exact q2 _ _ H' s2 ev
end
end DL

/-! DStr: joined texts. -/
namespace DL
open PySem PySem.Spec PyProof.Rows L2
def strsOf : List D → Option (List Str)
  | [] => some []
  | .str x :: ds => (strsOf ds).map (x :: ·)
  | _ :: _ => none
/-- within the line of a joined text -/
def joinOk (a : Str) (ys : List Str) : Bool := Nat.ble ((ys.map (·.length)).sum + ys.length * a.length) 16777216
def dJoin (a : Str) : D → Option D
  | .lst ds => match strsOf ds with
    | some ys => if joinOk a ys = true then some (.str (Str.join a ys)) else none
    | none => none
  | .tup ds => match strsOf ds with
    | some ys => if joinOk a ys = true then some (.str (Str.join a ys)) else none
    | none => none
  | _ => none
def rJoin (g : FE) (δ : DSt) : D → R D
  | .str a => (g δ).bind fun e => R.of (dJoin a e)
  | _ => .bad
def fJoin (f g : FE) : FE := fun δ => (f δ).bind (rJoin g δ)
theorem strsOf_map : ∀ ys : List Str, strsOf (ys.map .str) = some ys
  | [] => rfl
  | y :: ys => by
    show (strsOf (ys.map .str)).map (y :: ·) = _
    rw [strsOf_map ys]
    rfl
theorem repL_strs {K : PySem.W.Frag} {S : Addr → Prop} {H : Hp} : ∀ {ds : List D} {ys : List Str} {vs : List V}, strsOf ds = some ys → RepL K S H vs ds → vs = ys.map V.str
  | [], ys, vs, h, r => by cases h; cases r; rfl
  | d :: ds, ys, vs, h, r => by
    cases r with
    | cons r1 r2 =>
      cases d with
      | str x =>
        have h' : (strsOf ds).map (x :: ·) = some ys := h
        cases e : strsOf ds with
        | none => rw [e] at h'; cases h'
        | some zs =>
          rw [e] at h'
          cases h'
          rw [r1.strE, repL_strs e r2]
          rfl
      | _ => cases h
section
variable {X : Cx} {e0 : Ent} {E : XK} {Eσ : Sg → XK} {pos apos : Pos} {a b : Expr} {f g : FE}
theorem de_join (ha : DE X Eσ a f) (hb : DE X Eσ b g) (hs : starEach [b] X.env = [(false, eval b X.env)] := by rfl) (hbase : attributeBase a "join" X.env (eval a X.env) = eval a X.env := by rfl) (hline : (apos.endLine == pos.line) = true := by rfl) :
    DE X Eσ (.Call (.Attribute a "join" apos) [b] [] pos) (fJoin f g) := by
  refine PE.imp (pe_join ha hb hs hbase hline) fun σ H Q hq => ?_
  obtain ⟨S, δ, st, q⟩ := hq
  refine ⟨S, δ, st, (Res.on q).imp fun d q1 v H1 e1 r1 => ?_⟩
  cases d with
  | str x =>
    refine ⟨⟨x, r1.strE⟩, S, δ, st.mono e1, ((Res.on (show Res X.K S H (Eσ σ) ((g δ).bind fun e => R.of (dJoin x e)) _ from q1)).mono e1).imp fun e q2 u H2 e2 r2 => ?_⟩
    obtain ⟨z, hz, q3⟩ := Res.of q2
    have key : ∀ ds : List D, (match strsOf ds with | some ys => if joinOk x ys = true then some (D.str (Str.join x ys)) else none | none => none) = some z → ∃ ys, strsOf ds = some ys ∧ (ys.map (·.length)).sum + ys.length * x.length ≤ 16777216 ∧ z = .str (Str.join x ys) := fun ds h => by
      cases e : strsOf ds with
      | none => rw [e] at h; cases h
      | some ys =>
        rw [e] at h
        by_cases c : joinOk x ys = true
        · simp only [c, if_true, Option.some.injEq] at h
          exact ⟨ys, rfl, Nat.le_of_ble_eq_true c, h.symm⟩
        · simp only [c] at h
          cases h
    cases e with
    | lst ds =>
      obtain ⟨ys, h1, h2, rfl⟩ := key ds hz
      obtain ⟨p, xs, w1, w2, w3⟩ := r2.lstH
      subst w1
      refine ⟨x, p, ys, r1.strE, rfl, .inl ?_, h2, ?_⟩
      · rw [← repL_strs h1 w3]; exact SqL.of w2
      · rw [TL.join_eq]
        exact q3 _ H2 (e1.trans e2) (.str _)
    | tup ds =>
      obtain ⟨ys, h1, h2, rfl⟩ := key ds hz
      obtain ⟨p, xs, w1, w2, w3⟩ := r2.seqT
      subst w1
      refine ⟨x, p, ys, r1.strE, rfl, .inr ?_, h2, ?_⟩
      · rw [← repL_strs h1 w3]; exact w2
      · rw [TL.join_eq]
        exact q3 _ H2 (e1.trans e2) (.str _)
    | _ => cases hz
  | _ => exact q1.elim
end
end DL

/-! DObj: instances of the own classes. -/
namespace DL
open PySem PySem.Spec PyProof.Rows L2

/-! ### fields -/
def putD (f : Str) (d : D) : List (Str × D) → List (Str × D)
  | [] => [(f, d)]
  | (g, x) :: r => if g = f then (g, d) :: r else (g, x) :: putD f d r
def RepF (K : PySem.W.Frag) (S : Addr → Prop) (H : Hp) (vs : List (Str × V)) (fs : List (Str × D)) : Prop := vs.map (·.1) = fs.map (·.1) ∧ RepL K S H (vs.map (·.2)) (fs.map (·.2))
section
variable {K : PySem.W.Frag} {S S' : Addr → Prop} {H H' : Hp}
theorem RepF.nil : RepF K S H [] [] := ⟨rfl, .nil⟩
theorem RepF.uncons {p : Str × V} {vs : List (Str × V)} {q : Str × D} {fs : List (Str × D)} (h : RepF K S H (p :: vs) (q :: fs)) : p.1 = q.1 ∧ Rep K S H p.2 q.2 ∧ RepF K S H vs fs := by
  obtain ⟨h1, h2⟩ := h
  rw [List.map_cons, List.map_cons] at h1 h2
  injection h1 with e1 e2
  cases h2 with
  | cons r rs => exact ⟨e1, r, e2, rs⟩
theorem RepF.cons {g : Str} {v : V} {d : D} {vs : List (Str × V)} {fs : List (Str × D)} (r : Rep K S H v d) (h : RepF K S H vs fs) : RepF K S H ((g, v) :: vs) ((g, d) :: fs) :=
  ⟨by rw [List.map_cons, List.map_cons, h.1], by rw [List.map_cons, List.map_cons]; exact .cons r h.2⟩
theorem RepF.len {vs : List (Str × V)} {fs : List (Str × D)} (h : RepF K S H vs fs) : vs.length = fs.length := by
  have := h.2.length
  rwa [List.length_map, List.length_map] at this
theorem RepF.ev {vs : List (Str × V)} {fs : List (Str × D)} (e : Ev S H S' H') (h : RepF K S H vs fs) : RepF K S' H' vs fs := ⟨h.1, h.2.ev e⟩
theorem RepF.get : ∀ {vs : List (Str × V)} {fs : List (Str × D)} {f : Str} {d : D}, RepF K S H vs fs → fs.lookup f = some d → ∃ v, vs.lookup f = some v ∧ Rep K S H v d
  | _, [], f, d, _, e => by cases e
  | [], _ :: _, f, d, h, _ => by have := h.1; cases this
  | (g, v) :: vs, (g2, x) :: fs, f, d, h, e => by
    obtain ⟨e1, r, h2⟩ := h.uncons
    cases e1
    by_cases c : f = g
    · subst c
      have : some x = some d := by rw [← e, List.lookup_cons_self]
      cases this
      exact ⟨v, List.lookup_cons_self, r⟩
    · have c2 : (f == g) = false := beq_eq_false_iff_ne.mpr c
      have e2 : fs.lookup f = some d := by rw [← e]; show _ = List.lookup f ((g, x) :: fs); rw [List.lookup_cons, c2]
      obtain ⟨w, w1, w2⟩ := RepF.get h2 e2
      exact ⟨w, by rw [List.lookup_cons, c2]; exact w1, w2⟩
theorem RepF.no : ∀ {vs : List (Str × V)} {fs : List (Str × D)} {f : Str}, RepF K S H vs fs → fs.lookup f = none → vs.lookup f = none
  | [], _, f, _, _ => rfl
  | _ :: _, [], f, h, _ => by have := h.1; cases this
  | (g, v) :: vs, (g2, x) :: fs, f, h, e => by
    obtain ⟨e1, r, h2⟩ := h.uncons
    cases e1
    by_cases c : f = g
    · subst c
      rw [List.lookup_cons_self] at e
      cases e
    · have c2 : (f == g) = false := beq_eq_false_iff_ne.mpr c
      have e2 : fs.lookup f = none := by rw [← e]; show _ = List.lookup f ((g, x) :: fs); rw [List.lookup_cons, c2]
      show List.lookup f ((g, v) :: vs) = none
      rw [List.lookup_cons, c2]
      exact RepF.no h2 e2
theorem RepF.put {f : Str} {v : V} {d : D} (r : Rep K S H v d) : ∀ {vs : List (Str × V)} {fs : List (Str × D)}, RepF K S H vs fs → RepF K S H (putF f v vs) (putD f d fs)
  | [], [], _ => .cons r .nil
  | [], _ :: _, h => by have := h.1; cases this
  | _ :: _, [], h => by have := h.1; cases this
  | (g, w) :: vs, (g2, x) :: fs, h => by
    obtain ⟨e1, r2, h2⟩ := h.uncons
    cases e1
    unfold putF putD
    by_cases c : g = f
    · rw [if_pos c, if_pos c]
      exact .cons r h2
    · rw [if_neg c, if_neg c]
      exact .cons r2 (RepF.put r h2)
/-- the fields of a frozen instance -/
theorem RepF.zip : ∀ {ns : List Str} {vs : List V} {ds : List D}, RepL K S H vs ds → RepF K S H (ns.zip vs) (ns.zip ds)
  | [], _, _, _ => .nil
  | _ :: _, _, _, .nil => .nil
  | _ :: _, _, _, .cons r h => .cons r (RepF.zip h)
theorem zip_maps : ∀ {vs : List (Str × V)}, (vs.map (·.1)).zip (vs.map (·.2)) = vs
  | [] => rfl
  | (g, v) :: vs => by
    show (g, v) :: (vs.map (·.1)).zip (vs.map (·.2)) = _
    rw [zip_maps]
theorem Rep.objI {v : V} {c : Str} {ds : List D} (h : Rep K S H v (.obj c ds)) (hs : slotted c = false) : ∃ a dx vs, v = .ref a ∧ ¬ S a ∧ H a = some (.ins (He.ga K c) dx ((flds c).zip vs)) ∧ RepL K S H vs ds := by
  cases h with
  | obj o r =>
    obtain ⟨n, dx, h⟩ := o
    rcases h with ⟨e, _⟩ | ⟨_, _, h⟩
    · rw [hs] at e; cases e
    · exact ⟨_, dx, _, rfl, n, h, r⟩
theorem Rep.objS {v : V} {c : Str} {ds : List D} (h : Rep K S H v (.obj c ds)) (hs : slotted c = true) : ∃ a dx vs, v = .ref a ∧ SlX.Slt H a (He.ga K c) dx (stS (ordS c) vs []) ∧ RepL K S H vs ds := by
  cases h with
  | obj o r =>
    obtain ⟨n, dx, h⟩ := o
    rcases h with ⟨_, _, h, q⟩ | ⟨e, _⟩
    · exact ⟨_, dx, _, rfl, .inr ⟨h, q⟩, r⟩
    · rw [hs] at e; cases e
end

/-! ### what is read -/
/-- the own instance at slot i, of the class c -/
def fOb (c : Str) (i : Nat) (δ : DSt) : R (List (Str × D)) := match δ[i]? with
  | some (.ob c' fs) => if c' = c then .ok fs else .bad
  | _ => .bad
theorem fOb_at {c : Str} {i : Nat} {δ : DSt} {fs : List (Str × D)} (h : fOb c i δ = .ok fs) : δ[i]? = some (.ob c fs) := by
  unfold fOb at h
  split at h
  · split at h
    · rename_i c' fs' e1 e2
      cases h
      rw [e1, e2]
    · cases h
  · cases h
theorem fOb_ne {c : Str} {i : Nat} {δ : DSt} {n : Str} {xs : List D} (h : fOb c i δ = .exc n xs) : False := by
  unfold fOb at h
  split at h
  · split at h <;> cases h
  · cases h
def fFld (c : Str) (i : Nat) (f : Str) : FE := fun δ => (fOb c i δ).bind fun fs => R.of (fs.lookup f)
def dFld (c f : Str) : D → Option D
  | .obj c' xs => if c' = c then ((flds c).zip xs).lookup f else none
  | _ => none
def dSlot (c : Str) (i : Nat) : D → Option D
  | .obj c' xs => if c' = c then xs[i]? else none
  | _ => none
section
variable {X : Cx} {e0 : Ent} {E : XK} {Eσ : Sg → XK} {k : Nat} {pos p : Pos} {x : Str} {st : Stmt} {rest : List Stmt} {F : FS} {a b : Expr} {f g : FE} {es : List Expr} {fl : FL} {c m : Str} {i : Nat}
theorem de_fldO {fd : Str} (C : Cls X.K (He.ga X.K c)) (n : NoAttr X.K (He.ga X.K c) fd) (i : Nat) (hN : X.N[i]? = some x := by rfl) (hv : Vis X.env.scope x := by first | exact Or.inl rfl | exact Or.inr (Or.inl rfl) | exact Or.inr (Or.inr rfl))
    (hd : (x == ("__debug__" : Str)) = false := by decide) (hcd : (x == ("__classdict__" : Str)) = false := by decide)
    (hb : attributeBase (.Name x p) fd X.env (eval (.Name x p) X.env) = eval (.Name x p) X.env := by rfl) : DE X Eσ (.Attribute (.Name x p) fd pos) (fFld c i fd) := by
  refine PE.imp (pe_fld (pe_var hN hv hd hcd) hb) fun σ H Q hq => ?_
  obtain ⟨S, δ, st, q⟩ := hq
  unfold fFld at q
  cases r : fOb c i δ with
  | bad => rw [r] at q; exact q.elim
  | exc n xs => exact (fOb_ne r).elim
  | ok fs =>
    rw [r] at q
    obtain ⟨o, w1, a, dx, vs, w2, w3, w4, w5, w6⟩ := st.slot i _ (fOb_at r)
    subst w2
    obtain ⟨d, hd, q1⟩ := Res.of (show Res X.K S H (Eσ σ) (R.of (fs.lookup fd)) (fun d => ∀ v H', Same H H' → Rep X.K S H' v d → Q v H') from q)
    obtain ⟨v, l, rv⟩ := RepF.get ⟨w5, w6⟩ hd
    exact ⟨_, w1, a, _, dx, vs, v, rfl, w3, C, n, l, q1 v H (Same.refl _) rv⟩
theorem de_fld {fd : Str} (hs : slotted c = false) (C : Cls X.K (He.ga X.K c)) (n : NoAttr X.K (He.ga X.K c) fd) (h : DE X Eσ a f) (hb : attributeBase a fd X.env (eval a X.env) = eval a X.env := by rfl) : DE X Eσ (.Attribute a fd pos) (fU (dFld c fd) f) := by
  refine PE.imp (pe_fld h hb) fun σ H Q hq => ?_
  obtain ⟨S, δ, st, q⟩ := hq
  refine ⟨S, δ, st, (Res.on q).imp fun d q1 v H1 e1 r1 => ?_⟩
  obtain ⟨z, hz, q2⟩ := Res.of q1
  cases d <;> simp only [dFld, reduceCtorEq] at hz
  rename_i c' xs
  by_cases e : c' = c
  · subst e
    rw [if_pos rfl] at hz
    obtain ⟨a, dx, vs, w1, _, w2, w3⟩ := r1.objI hs
    subst w1
    obtain ⟨v, l, rv⟩ := RepF.get (RepF.zip w3) hz
    exact ⟨a, _, dx, _, v, rfl, w2, C, n, l, q2 v H1 e1 rv⟩
  · rw [if_neg e] at hz; cases hz
theorem de_slot {fd : Str} {pa : Addr} {j : Nat} (i : Nat) (hs : slotted c = true) (C : SlX.SCls X.K (He.ga X.K c)) (n : SlX.Slot1 X.K (He.ga X.K c) fd pa j) (hj : (ordS c)[i]? = some j) (h : DE X Eσ a f) (hb : attributeBase a fd X.env (eval a X.env) = eval a X.env := by rfl) : DE X Eσ (.Attribute a fd pos) (fU (dSlot c i) f) := by
  refine PE.imp (SlX.pe_sl h hb) fun σ H Q hq => ?_
  obtain ⟨S, δ, st, q⟩ := hq
  refine ⟨S, δ, st, (Res.on q).imp fun d q1 v H1 e1 r1 => ?_⟩
  obtain ⟨z, hz, q2⟩ := Res.of q1
  cases d <;> simp only [dSlot, reduceCtorEq] at hz
  rename_i c' xs
  by_cases e : c' = c
  · subst e
    rw [if_pos rfl] at hz
    obtain ⟨a, dx, vs, w1, w2, w3⟩ := r1.objS hs
    subst w1
    obtain ⟨v, l, rv⟩ := w3.get hz
    exact ⟨a, _, dx, _, _, j, v, rfl, w2, C, n, stS_get (ordS_nd _) hj l, q2 v H1 e1 rv⟩
  · rw [if_neg e] at hz; cases hz
/-! ### what is stored -/
def oFld (c : Str) (i : Nat) (fd : Str) (δ : DSt) (d : D) : O := O.on (fOb c i δ) fun fs => if fs.length < 900 then .nx (δ.set i (.ob c (putD fd d fs))) else .bad
/-- self.f = e -/
def fPutF (c : Str) (i : Nat) (fd : Str) (g : FE) : FS := fun δ => O.on (g δ) fun d => oFld c i fd δ d
theorem put_at {K : PySem.W.Frag} {M S0 S : Addr → Prop} {H0 H : Hp} {σ : Sg} {δ : DSt} {D : Ends} {fd : Str} {d : DL.D} {v : V} (s : StS K M S0 H0 S σ H δ) (q : Fin K M S0 H0 E D S H (oFld c i fd δ d)) (rv : Rep K S H v d) :
    ∃ a dx vs, σ[i]? = some (some (.ref a)) ∧ H a = some (.ins (He.ga K c) dx vs) ∧ vs.length < 1000 ∧ D.nx σ (upd H a (.ins (He.ga K c) dx (putF fd v vs))) := by
  unfold oFld at q
  cases r : fOb c i δ with
  | bad => rw [r] at q; exact q.elim
  | exc n xs => exact (fOb_ne r).elim
  | ok fs =>
    rw [r] at q
    have q : Fin K M S0 H0 E D S H (if fs.length < 900 then .nx (δ.set i (.ob c (putD fd d fs))) else .bad) := q
    have hd := fOb_at r
    obtain ⟨o, w1, a, dx, vs, w2, w3, w4, w5, w6⟩ := s.st.slot i _ hd
    subst w2
    by_cases hl : fs.length < 900
    · rw [if_pos hl] at q
      have rf : RepF K S H vs fs := ⟨w5, w6⟩
      have ev : Ev S H S (upd H a (.ins (He.ga K c) dx (putF fd v vs))) := ⟨fun b o h n => by rw [upd_ne (fun z => n (by rw [z]; exact w4))]; exact h, fun _ _ _ n => n⟩
      have rf2 := (rf.put (f := fd) rv).ev ev
      obtain ⟨s2, e2⟩ := s.chgT (t0 := .ob c (putD fd d fs)) hd rfl w1 keepM_upd upd_same rfl ⟨fun _ => ⟨_, _, rfl⟩, fun _ => ⟨_, _, rfl⟩⟩ ⟨a, dx, _, rfl, upd_same, w4, rf2.1, rf2.2⟩
      exact ⟨a, dx, vs, w1, w3, by rw [rf.len]; omega, q S σ _ s2 e2⟩
    · rw [if_neg hl] at q; exact q.elim
theorem ds_fldO {fd : Str} {pos' : Pos} (C : Cls X.K (He.ga X.K c)) (n : NoAttr X.K (He.ga X.K c) fd) (i : Nat) (h : DE X (fun _ => E) b g) (hN : X.N[i]? = some x := by rfl) (hv : Vis X.env.scope x := by first | exact Or.inl rfl | exact Or.inr (Or.inl rfl) | exact Or.inr (Or.inr rfl))
    (hd : (x == ("__debug__" : Str)) = false := by decide) (hcd : (x == ("__classdict__" : Str)) = false := by decide)
    (hs : swapsWith b (some (.Attribute (.Name x p) fd pos')) pos.line X.env = pure false := by rfl) : DSt1 X e0 E (.Assign [.Attribute (.Name x p) fd pos'] b pos) (fPutF c i fd g) := by
  refine PS.imp (ps_fld (pe_var hN hv hd hcd) h hs) fun D σ H hq => ?_
  obtain ⟨S, δ, s, q⟩ := hq
  refine ⟨S, δ, s.st, Fin.on s q fun d q1 v H1 e1 r1 => ?_⟩
  obtain ⟨a, dx, vs, w1, w2, w3, w4⟩ := put_at (s.mono e1) (q1.ev (.same e1)) r1
  exact ⟨_, w1, a, _, dx, vs, rfl, w2, C, n, w3, w4⟩
/-- self.f op= e -/
def fAugF (G : D → D → Option D) (c : Str) (i : Nat) (fd : Str) (g : FE) : FS := fun δ => O.on (fFld c i fd δ) fun d => O.on (g δ) fun e => O.on (R.of (G d e)) fun z => oFld c i fd δ z
theorem ds_augF {op : Operator} {G : D → D → Option D} {fd : Str} {pos' : Pos} (C : Cls X.K (He.ga X.K c)) (n : NoAttr X.K (He.ga X.K c) fd) (ho : OpD X (inplaceOp op) G) (i : Nat) (h : DE X (fun _ => E) b g) (hN : X.N[i]? = some x := by rfl)
    (hv : Vis X.env.scope x := by first | exact Or.inl rfl | exact Or.inr (Or.inl rfl) | exact Or.inr (Or.inr rfl)) (hd : (x == ("__debug__" : Str)) = false := by decide) (hcd : (x == ("__classdict__" : Str)) = false := by decide) :
    DSt1 X e0 E (.AugAssign (.Attribute (.Name x p) fd pos') op b pos) (fAugF G c i fd g) := by
  refine PS.imp (ps_fldaug (rd := fun x y H Q => ∃ S d e z, Dom S H ∧ Rep X.K S H x d ∧ Rep X.K S H y e ∧ G d e = some z ∧ Giv X.K S H z Q) (pe_var hN hv hd hcd) h (fun pins s σ H x y u v Q I rx ry q => ho pins s σ H x y u v Q I rx ry q)) fun D σ H hq => ?_
  obtain ⟨S, δ, s, q⟩ := hq
  unfold fAugF fFld at q
  cases r : fOb c i δ with
  | bad => rw [r] at q; exact q.elim
  | exc n xs => exact (fOb_ne r).elim
  | ok fs =>
    rw [r] at q
    have q : Fin X.K e0.M e0.S e0.H E D S H (O.on (R.of (fs.lookup fd)) fun d => O.on (g δ) fun e => O.on (R.of (G d e)) fun z => oFld c i fd δ z) := q
    obtain ⟨o, w1, a, dx, vs, w2, w3, w4, w5, w6⟩ := s.st.slot i _ (fOb_at r)
    subst w2
    cases hl : fs.lookup fd with
    | none => rw [hl] at q; exact q.elim
    | some d =>
      rw [hl] at q
      obtain ⟨v, l, rv⟩ := RepF.get ⟨w5, w6⟩ hl
      refine ⟨_, w1, a, _, dx, vs, v, rfl, w3, C, n, l, S, δ, s.st, Fin.on (f := fun e => O.on (R.of (G d e)) fun z => oFld c i fd δ z) s q fun e q1 y H2 e2 r2 => ?_⟩
      cases hz : G d e with
      | none => rw [hz] at q1; exact q1.elim
      | some z =>
        rw [hz] at q1
        refine ⟨S, d, e, z, (s.mono e2).st.here, rv.mono e2, r2, hz, fun w H3 e3 r3 => ?_⟩
        obtain ⟨a', dx', vs', u1, u2, u3, u4⟩ := put_at ((s.mono e2).mono e3) (q1.ev (.same (e2.trans e3))) r3
        rw [w1] at u1
        cases u1
        exact ⟨dx', vs', u2, u3, u4⟩
end
end DL

/-! DMeth: expressions that change an own instance, methods, instances made. -/
namespace DL
open PySem PySem.Spec PyProof.Rows L2

/-! ### expressions with an effect upon the frame's state -/
abbrev FX := DSt → R (D × DSt)
abbrev FXL := DSt → R (List D × DSt)
def ResX {α : Type} (K : PySem.W.Frag) (M S0 : Addr → Prop) (H0 : Hp) (E : XK) (r : R (α × DSt)) (P : α → DSt → Prop) : Prop := match r with
  | .ok (d, δ) => P d δ
  | .exc n xs => ∀ cls dx H', KeepM M H0 H' → ExR K S0 H' cls dx n xs → E cls dx H'
  | .bad => False
def tDX (K : PySem.W.Frag) (M S0 : Addr → Prop) (H0 : Hp) (E : XK) (f : FX) : TE := fun σ H Q => ∃ S δ, StS K M S0 H0 S σ H δ ∧ ResX K M S0 H0 E (f δ) fun d δ' => ∀ v H', StS K M S0 H0 S σ H' δ' → Ev S H S H' → Rep K S H' v d → Q v H'
def tDXL (K : PySem.W.Frag) (M S0 : Addr → Prop) (H0 : Hp) (E : XK) (f : FXL) : TA := fun σ H Q => ∃ S δ, StS K M S0 H0 S σ H δ ∧ ResX K M S0 H0 E (f δ) fun ds δ' => ∀ vs H', StS K M S0 H0 S σ H' δ' → Ev S H S H' → RepL K S H' vs ds → Q vs H'
def DX (X : Cx) (e0 : Ent) (E : XK) (e : Expr) (f : FX) : Prop := PE X e (tDX X.K e0.M e0.S e0.H E f)
structure DXA (X : Cx) (e0 : Ent) (E : XK) (es : List Expr) (f : FXL) : Prop where
  pa : PA X es (tDXL X.K e0.M e0.S e0.H E f)
  len : ∀ δ ds δ', f δ = .ok (ds, δ') → ds.length = es.length
section
variable {K : PySem.W.Frag} {M S0 S : Addr → Prop} {H0 H : Hp} {E : XK} {Eσ : Sg → XK} {Dn : Ends} {σ : Sg} {δ : DSt} {α β : Type}
theorem ResX.imp {r : R (α × DSt)} {P P' : α → DSt → Prop} (h : ResX K M S0 H0 E r P) (k : ∀ a δ, P a δ → P' a δ) : ResX K M S0 H0 E r P' := by
  cases r with
  | ok a => exact k a.1 a.2 h
  | exc n xs => exact h
  | bad => exact h
theorem ResX.on {r : R (α × DSt)} {f : α × DSt → R (β × DSt)} {P : β → DSt → Prop} (h : ResX K M S0 H0 E (r.bind f) P) : ResX K M S0 H0 E r fun a δ => ResX K M S0 H0 E (f (a, δ)) P := by
  cases r with
  | ok a => exact h
  | exc n xs => exact h
  | bad => exact h
/-- a pure part first -/
theorem ResX.of {r : R α} {f : α → R (β × DSt)} {P : β → DSt → Prop} (s : StS K M S0 H0 S σ H δ) (h : ResX K M S0 H0 E (r.bind f) P) : Res K S H E r fun a => ResX K M S0 H0 E (f a) P := by
  cases r with
  | ok a => exact h
  | exc n xs => exact fun cls dx H' e x => h cls dx H' (s.same.trans e) (x.to s.sub)
  | bad => exact h
theorem Fin.onX {r : R (α × DSt)} {f : α × DSt → O} (h : Fin K M S0 H0 E Dn S H (O.on r f)) {P : α → DSt → Prop} (k : ∀ a δ, Fin K M S0 H0 E Dn S H (f (a, δ)) → P a δ) : ResX K M S0 H0 E r P := by
  cases r with
  | ok a => exact k a.1 a.2 h
  | exc n xs => exact h
  | bad => exact h
end
section
variable {X : Cx} {e0 : Ent} {E : XK} {Eσ : Sg → XK} {k j : Nat} {pos p apos : Pos} {x : Str} {st : Stmt} {rest : List Stmt} {F : FS} {a b o : Expr} {f g : FE} {fx gx : FX} {es : List Expr} {fl : FL} {fxl : FXL} {c m : Str} {i : Nat}
def fPure (f : FE) : FX := fun δ => (f δ).bind fun d => .ok (d, δ)
theorem dx_of (h : DE X (fun _ => E) a f) : DX X e0 E a (fPure f) := by
  refine PE.imp h fun σ H Q hq => ?_
  obtain ⟨S, δ, s, q⟩ := hq
  exact ⟨S, δ, s.st, (ResX.of s q).imp fun d q1 v H1 e1 r1 => q1 v H1 (s.mono e1) (.same e1) r1⟩
def fNilX : FXL := fun δ => .ok ([], δ)
def fConsX (f : FX) (fl : FXL) : FXL := fun δ => (f δ).bind fun p => (fl p.2).bind fun q => .ok (p.1 :: q.1, q.2)
theorem dxa_nil : DXA X e0 E [] fNilX := by
  refine ⟨PA.imp pa_nil fun σ H Q h => ?_, fun δ ds δ' h => by cases h; rfl⟩
  obtain ⟨S, δ, s, q⟩ := h
  exact q [] H s .refl .nil
theorem dxa_cons (ha : DX X e0 E a fx) (hr : DXA X e0 E es fxl) (hs : starEach (a :: es) X.env = (false, eval a X.env) :: starEach es X.env := by rfl) : DXA X e0 E (a :: es) (fConsX fx fxl) := by
  refine ⟨PA.imp (pa_cons ha hr.pa hs) fun σ H Q h => ?_, fun δ ds δ' h => ?_⟩
  · obtain ⟨S, δ, s, q⟩ := h
    refine ⟨S, δ, s, (ResX.on (show ResX X.K e0.M e0.S e0.H E ((fx δ).bind fun p => (fxl p.2).bind fun q => R.ok (p.1 :: q.1, q.2)) _ from q)).imp fun d δ1 q2 v H1 s1 e1 r1 => ?_⟩
    refine ⟨S, δ1, s1, (ResX.on (show ResX X.K e0.M e0.S e0.H E ((fxl δ1).bind fun q => R.ok (d :: q.1, q.2)) _ from q2)).imp fun ds δ2 q3 vs H2 s2 e2 r2 => ?_⟩
    exact q3 (v :: vs) H2 s2 (e1.trans e2) (.cons (r1.ev e2) r2)
  · unfold fConsX at h
    cases q : fx δ with
    | ok p =>
      rw [q, R.bind_ok] at h
      cases q2 : fxl p.2 with
      | ok es' =>
        rw [q2, R.bind_ok] at h
        cases h
        exact congrArg Nat.succ (hr.len _ _ _ q2)
      | exc n xs => rw [q2] at h; cases h
      | bad => rw [q2] at h; cases h
    | exc n xs => rw [q] at h; cases h
    | bad => rw [q] at h; cases h
def fTupX (fl : FXL) : FX := fun δ => (fl δ).bind fun p => .ok (.tup p.1, p.2)
theorem dx_tup {j} (h : DXA X e0 E es fxl) (hl : es.length ≤ sizeLine := by exact Nat.le_of_ble_eq_true rfl) : DX X e0 E (.Tuple es j pos) (fTupX fxl) := by
  refine PE.imp (pe_tup h.pa) fun σ H Q hq => ?_
  obtain ⟨S, δ, s, q⟩ := hq
  refine ⟨S, δ, s, ?_⟩
  have q1 := ResX.on (show ResX X.K e0.M e0.S e0.H E ((fxl δ).bind fun p => R.ok (D.tup p.1, p.2)) _ from q)
  cases e : fxl δ with
  | bad => rw [e] at q1; exact q1.elim
  | exc n xs => rw [e] at q1; exact q1
  | ok ds =>
    rw [e] at q1
    intro vs H1 s1 e1 r1
    refine ⟨by rw [r1.length, h.len _ _ _ e]; exact hl, fun p hp => ?_⟩
    have e2 : Same H1 (upd H1 p (.tup vs)) := same_new hp _
    have nS : ¬ S p := fun z => by
      obtain ⟨o, w⟩ := s1.st.here p z
      rw [hp] at w; cases w
    exact q1 _ _ (s1.mono e2) (e1.trans (.same e2)) (.tup upd_same nS (r1.mono e2))
/-- statements -/
def fRetX (f : FX) : FS := fun δ => O.on (f δ) fun p => .rt p.1 p.2
theorem ds_retX (h : DX X e0 E a fx) : DSt1 X e0 E (.Return (some a) pos) (fRetX fx) := by
  refine PS.imp (ps_ret h) fun D σ H hq => ?_
  obtain ⟨S, δ, s, q⟩ := hq
  exact ⟨S, δ, s, Fin.onX q fun d δ' q1 v H' s' e' r => q1 S σ v H' s' r⟩
def fExpX (f : FX) : FS := fun δ => O.on (f δ) fun p => .nx p.2
theorem ds_exprX (h : DX X e0 E a fx) (hs : swapsWith a none pos.line X.env = pure false := by rfl) : DSt1 X e0 E (.Expr a pos) (fExpX fx) := by
  refine PS.imp (ps_expr h hs) fun D σ H hq => ?_
  obtain ⟨S, δ, s, q⟩ := hq
  exact ⟨S, δ, s, Fin.onX q fun d δ' q1 v H' s' e' r => q1 S σ H' s' e'⟩
def fSetX (i : Nat) (f : FX) : FS := fun δ => O.on (f δ) fun p => .nx (p.2.set i (.fz p.1))
theorem ds_setX {i : Nat} {x : Str} {pos' : Pos} (hN : X.N.Nodup) (hi : X.N[i]? = some x) (hx : Loc X.env.scope x) (h : DX X e0 E a fx) (hs : swapsWith a (some (.Name x pos')) pos.line X.env = pure false := by rfl)
    (hf : X.fn x = true ∨ X.env.scope.names.lookup x = some .local := by first | exact .inl rfl | exact .inr rfl | assumption) : DSt1 X e0 E (.Assign [.Name x pos'] a pos) (fSetX i fx) := by
  refine PS.imp (ps_set hN hi hx h hs hf) fun D σ H hq => ?_
  obtain ⟨S, δ, s, q⟩ := hq
  exact ⟨S, δ, s, Fin.onX q fun d δ' q1 v H' s' e' r => q1 S _ H' (s'.set i r) e'⟩
/-- name = [..], the frame's own -/
def fNewX (i : Nat) (fl : FXL) : FS := fun δ => O.on (fl δ) fun p => .nx (p.2.set i (.ow p.1))
theorem ds_newX {i : Nat} {x : Str} {pos' p : Pos} (hN : X.N.Nodup) (hi : X.N[i]? = some x) (hx : Loc X.env.scope x) (h : DXA X e0 E es fxl) (hs : swapsWith (.List es p) (some (.Name x pos')) pos.line X.env = pure false := by rfl)
    (hl : es.length ≤ sizeLine := by exact Nat.le_of_ble_eq_true rfl) (hf : X.fn x = true ∨ X.env.scope.names.lookup x = some .local := by first | exact .inl rfl | exact .inr rfl | assumption) : DSt1 X e0 E (.Assign [.Name x pos'] (.List es p) pos) (fNewX i fxl) := by
  refine PS.imp (ps_set hN hi hx (pe_lst h.pa) hs hf) fun D σ H hq => ?_
  obtain ⟨S, δ, s, q⟩ := hq
  refine ⟨S, δ, s, ?_⟩
  unfold fNewX at q
  cases r : fxl δ with
  | bad => rw [r] at q; exact q.elim
  | exc n xs => rw [r] at q; exact q
  | ok ds =>
    rw [r] at q
    intro vs H1 s1 e1 r1
    refine ⟨by rw [r1.length, h.len _ _ _ r]; exact hl, fun p hp => ?_⟩
    obtain ⟨s2, e2⟩ := s1.new i hp r1
    exact q _ _ _ s2 (e1.trans e2)
/-- x.append(e) -/
def oAppX (i : Nat) (p : D × DSt) : O := O.on (fOwn i p.2) fun ds => if okLt ds.length = true then .nx (p.2.set i (.ow (ds ++ [p.1]))) else .bad
def fAppX (i : Nat) (f : FX) : FS := fun δ => O.on (fOwn i δ) fun _ => O.on (f δ) fun p => oAppX i p
theorem ds_appX {i : Nat} {call : Expr} (hb : ∀ t, PA X [a] t → PE X call (tBM X.K "list" rAppend (tVar i) t)) (h : DX X e0 E a fx) (hst : starEach (a :: []) X.env = (false, eval a X.env) :: starEach [] X.env := by rfl)
    (hs : swapsWith call none pos.line X.env = pure false := by rfl) : DSt1 X e0 E (.Expr call pos) (fAppX i fx) := by
  refine PS.imp (ps_expr (hb _ (pa_cons h pa_nil hst)) hs) fun D σ H hq => ?_
  obtain ⟨S, δ, s, q⟩ := hq
  unfold fAppX at q
  cases r : fOwn i δ with
  | bad => rw [r] at q; exact q.elim
  | exc n xs => exact (fOwn_ne r).elim
  | ok ds0 =>
    rw [r] at q
    obtain ⟨o, w1, b, xs, w2, w3, w4, w5⟩ := s.st.slot i _ (fOwn_at r)
    subst w2
    refine ⟨.ref b, w1, .inl ⟨rfl, _, SqL.of w3⟩, S, δ, s, Fin.onX (f := fun p => oAppX i p) q fun d δ' q v H' s' e' r1 => ?_⟩
    have q : Fin X.K e0.M e0.S e0.H E D S H (O.on (fOwn i δ') fun ds => if okLt ds.length = true then .nx (δ'.set i (.ow (ds ++ [d]))) else .bad) := q
    cases r' : fOwn i δ' with
    | bad => rw [r'] at q; exact q.elim
    | exc n xs => exact (fOwn_ne r').elim
    | ok ds =>
      rw [r'] at q
      have q : Fin X.K e0.M e0.S e0.H E D S H (if okLt ds.length = true then .nx (δ'.set i (.ow (ds ++ [d]))) else .bad) := q
      have hd := fOwn_at r'
      obtain ⟨o, u1, b', ys, u2, u3, u4, u5⟩ := s'.st.slot i _ hd
      subst u2
      rw [w1] at u1
      cases u1
      by_cases cc : okLt ds.length = true
      · rw [if_pos cc] at q
        refine ⟨b, ys, v, rfl, rfl, u3, by rw [u5.length]; exact okLt_of cc, ?_⟩
        obtain ⟨s2, e2⟩ := s'.chg (xs := ys) hd w1 (ys := ys ++ [v]) (es := ds ++ [d]) (u5.append (.cons r1 .nil))
        exact q S σ _ s2 (e'.trans e2)
      · rw [if_neg cc] at q; exact q.elim

/-! ### methods that may change their instance -/
abbrev MF := List (Str × D) → List D → R (D × List (Str × D))
def ResM (K : PySem.W.Frag) (a : Addr) (S : Addr → Prop) (H : Hp) (E : XK) (r : R (D × List (Str × D))) (P : D → List (Str × D) → Prop) : Prop := match r with
  | .ok (d, fs) => P d fs
  | .exc n xs => ∀ cls dx H', KeepM (· = a) H H' → ExR K S H' cls dx n xs → E cls dx H'
  | .bad => False
def spM (K : PySem.W.Frag) (c : Str) (n : Nat) (G : MF) : Sp := fun vs H Q E => ∃ S a dx fv fs ds ws, vs = .ref a :: ws ∧ Dom S H ∧ S a ∧ H a = some (.ins (He.ga K c) dx fv) ∧ RepF K S H fv fs ∧ RepL K S H ws ds ∧ ds.length = n ∧
  ResM K a S H E (G fs ds) fun d fs' => ∀ v H' dx' fv', KeepM (· = a) H H' → H' a = some (.ins (He.ga K c) dx' fv') → RepF K S H' fv' fs' → Rep K S H' v d → Q v H'
def FnM (P : Program) (w : World) (K : PySem.W.Frag) (mg : Str → Option Value) (base : Heap) (k : Nat) (f : Addr) (c : Str) (n : Nat) (G : MF) : Prop := FnR P w K mg base (L2.CX P w) k f (spM K c n G)
def selfOf (c : Str) (d : D) (δ : DSt) : R (D × List (Str × D)) := (fOb c 0 δ).bind fun fs => .ok (d, fs)
/-- a method's mirror: the instance, the parameters, the other slots -/
def runM (c : Str) (m : Nat) (F : FS) : MF := fun fs ds => match F (.ob c fs :: (ds.map DS.fz ++ List.replicate (m - 1 - ds.length) DS.un)) with
  | .rt d δ => selfOf c d δ
  | .nx δ => selfOf c .non δ
  | .exc n xs => .exc n xs
  | _ => .bad
section
variable {P : Program} {w : World} {K : PySem.W.Frag} {mg : Str → Option Value} {base : Heap}
theorem fnm_zero {f : Addr} {c : Str} {n k : Nat} : FnM P w K mg base k f c n (fun _ _ => .bad) := fun A outer s H us vs Q E hr e0 r h => by
  obtain ⟨S, a, dx, fv, fs, ds, ws, _, _, _, _, _, _, _, q⟩ := h
  exact q.elim
theorem FnM.mono {f : Addr} {c : Str} {n j k : Nat} {G : MF} (F : FnM P w K mg base j f c n G) (h : j ≤ k) : FnM P w K mg base k f c n G := FnR.mono F h
theorem start_stM {S : Addr → Prop} {H : Hp} {N : List Str} {a dx : Addr} {c : Str} {fv : List (Str × V)} {fs : List (Str × D)} {vs : List V} {ds : List D} (r : RepL K S H vs ds) (dm : Dom S H) (ha : S a) (hi : H a = some (.ins (He.ga K c) dx fv)) (rf : RepF K S H fv fs) (hl : ds.length + 1 ≤ N.length) :
    StS K (· = a) S H S (L2.start N (.ref a :: vs)) H (.ob c fs :: (ds.map DS.fz ++ List.replicate (N.length - 1 - ds.length) DS.un)) := by
  have l := r.length
  have hst : L2.start N (.ref a :: vs) = some (.ref a) :: (vs.map some ++ List.replicate (N.length - 1 - vs.length) none) := by
    unfold L2.start
    rw [List.map_cons, List.cons_append, List.length_cons]
    congr 3
    omega
  have tl : ∀ (i : Nat) (t : DS), (ds.map DS.fz ++ List.replicate (N.length - 1 - ds.length) DS.un)[i]? = some t → t.mutb = false := fun i t h => by
    have m := List.mem_of_getElem? h
    rcases List.mem_append.mp m with m | m
    · obtain ⟨d, _, e⟩ := List.mem_map.mp m
      subst e
      rfl
    · rw [List.eq_of_mem_replicate m]; rfl
  have zero : ∀ (i : Nat) (t : DS), (DS.ob c fs :: (ds.map DS.fz ++ List.replicate (N.length - 1 - ds.length) DS.un))[i]? = some t → t.mutb = true → i = 0 ∧ t = .ob c fs := fun i t h m => by
    cases i with
    | zero => cases h; exact ⟨rfl, rfl⟩
    | succ i =>
      rw [List.getElem?_cons_succ] at h
      rw [tl i t h] at m
      cases m
  refine ⟨⟨?_, fun i t h => ?_, fun i j b t u h1 h2 m1 m2 _ _ => by rw [(zero i t h1 m1).1, (zero j u h2 m2).1], dm⟩, KeepM.refl, fun _ z => z, dm, fun b z => by rw [z]; exact ha, fun i b t h1 m h2 => ?_⟩
  · rw [hst]
    simp only [List.length_cons, List.length_append, List.length_map, List.length_replicate, l]
  · rw [hst]
    cases i with
    | zero =>
      cases h
      exact ⟨_, rfl, a, dx, fv, rfl, hi, ha, rf.1, rf.2⟩
    | succ i =>
      rw [List.getElem?_cons_succ] at h ⊢
      by_cases hi : i < ds.length
      · rw [List.getElem?_append_left (by simpa using hi), List.getElem?_map] at h
        cases e : ds[i]? with
        | none => rw [e] at h; cases h
        | some d =>
          rw [e] at h
          cases h
          obtain ⟨v, h1, h2⟩ := r.get e
          refine ⟨some v, ?_, v, rfl, h2⟩
          rw [List.getElem?_append_left (by rw [List.length_map, l]; exact hi), List.getElem?_map, h1]
          rfl
      · rw [List.getElem?_append_right (by simpa using hi), List.getElem?_replicate] at h
        split at h
        · rename_i hlt
          cases h
          refine ⟨none, ?_, trivial⟩
          rw [List.length_map] at hlt
          rw [List.getElem?_append_right (by rw [List.length_map, l]; omega), List.getElem?_replicate, List.length_map, l, if_pos hlt]
        · cases h
  · obtain ⟨e1, e2⟩ := zero i t h1 m
    subst e1
    rw [hst] at h2
    cases h2
    exact .inr ⟨rfl, c, fs, e2⟩
theorem fnokm_of {x qual : Str} {params : Arguments} {body : List Stmt} {scope : Scope} {dvs : List V} {kws : List (Str × V)} {f : Addr} {fd : FuncData} {N ps : List Str} {c : Str} {n k : Nat} {F : FS} (Fd : FunD K x qual params body scope dvs kws f fd) (Sc : FnScope N ps scope) (hn : ps.length = n + 1)
    (hbody : ∀ (cdv : Value) (A : Around) (outer : List Env) (s : Shared) (e0 : Ent) (H : Hp) (E : XK), Bd (cxOf (L2.CX P w) P w K mg base N qual scope f cdv A outer s H E) (fun _ => E) k →
      Takes (cxOf (L2.CX P w) P w K mg base N qual scope f cdv A outer s H E) (fun cls d _ H => E cls d H) → DSts (cxOf (L2.CX P w) P w K mg base N qual scope f cdv A outer s H E) e0 E body F) : FnOk P w K mg base (L2.CX P w) (k + 1) f fd ps (spM K c n (runM c N.length F)) := by
  have hpl : ps.length ≤ N.length := by have := congrArg List.length Sc.pre; rw [List.length_take] at this; omega
  refine FunD.ok (CX := L2.CX P w) Fd Sc (fun vs H Q E h => ?_) (fun cdv A outer s H vs Q E hr h => ?_)
  · obtain ⟨S, a, dx, fv, fs, ds, ws, e, _, _, _, _, r, hl, _⟩ := h
    rw [e, List.length_cons, r.length, hl, hn]
  · obtain ⟨S, a, dx, fv, fs, ds, ws, e, dm, ha, hi, rf, r, hl, q⟩ := h
    subst e
    have tk : Takes (cxOf (L2.CX P w) P w K mg base N qual scope f cdv A outer s H E) (fun cls d _ H => E cls d H) := takes_of rfl rfl rfl rfl
    refine ⟨_, hbody cdv A outer s ⟨(· = a), S, H⟩ H E ⟨hr, PsA.of (passes_call tk fun _ _ _ _ z => z), rfl, passes_of rfl⟩ tk, S, _, start_stM r dm ha hi rf (by omega), ?_⟩
    unfold runM at q
    have back : ∀ {d : D} {δ : DSt} {S' : Addr → Prop} {σ' : Sg} {H' : Hp} {v : V}, StS K (· = a) S H S' σ' H' δ → Rep K S' H' v d → ResM K a S H E (selfOf c d δ) (fun d fs' => ∀ v H' dx' fv', KeepM (· = a) H H' → H' a = some (.ins (He.ga K c) dx' fv') → RepF K S H' fv' fs' → Rep K S H' v d → Q v H') → Q v H' := fun {d δ S' σ' H' v} s' rv z => by
      unfold selfOf at z
      cases e1 : fOb c 0 δ with
      | bad => rw [e1] at z; exact z.elim
      | exc n xs => exact (fOb_ne e1).elim
      | ok fs' =>
        rw [e1] at z
        obtain ⟨o, w1, a', dx', fv', w2, w3, w4, w5, w6⟩ := s'.st.slot 0 _ (fOb_at e1)
        subst w2
        rcases s'.own 0 a' _ (fOb_at e1) rfl w1 with ⟨_, y⟩ | ⟨y, _⟩
        · exact absurd rfl (y c fs')
        · have y : a' = a := y
          subst y
          exact z v H' dx' fv' s'.same w3 ⟨w5, w6.less s'.sub⟩ (rv.less s'.sub)
    show Fin K (· = a) S H E _ S H (F _)
    cases e : F (.ob c fs :: (ds.map DS.fz ++ List.replicate (N.length - 1 - ds.length) DS.un)) with
    | rt d δ =>
      rw [e] at q
      exact fun S' σ' v H' s' r' => back s' r' q
    | nx δ =>
      rw [e] at q
      exact fun S' σ' H' s' _ => back s' .non q
    | exc n xs =>
      rw [e] at q
      exact q
    | bk δ => rw [e] at q; exact q.elim
    | ct δ => rw [e] at q; exact q.elim
    | bad => rw [e] at q; exact q.elim
theorem FnOk.rawM {f : Addr} {fd : FuncData} {ps : List Str} {c : Str} {n k : Nat} {G : MF} (F : FnOk P w K mg base (L2.CX P w) k f fd ps (spM K c n G)) (hb : Binds K fd ps []) : FnM P w K mg base k f c n G :=
  FnR.imp (F.raw hb (.nil : Vals [] [])) fun vs H Q E h => by rw [List.append_nil]; exact h
end
/-! ### o.m(..), o the own instance at slot i -/
def noF (m : Str) (fs : List (Str × D)) : Bool := (fs.lookup m).isNone
def rMeth (c m : Str) (i : Nat) (G : MF) (δ : DSt) (fs : List (Str × D)) (ds : List D) : R (D × DSt) := (G fs ds).bind fun p => .ok (p.1, δ.set i (.ob c p.2))
def fMeth (c m : Str) (i : Nat) (G : MF) (fl : FL) : FX := fun δ => (fOb c i δ).bind fun fs => if noF m fs = true then (fl δ).bind fun ds => rMeth c m i G δ fs ds else .bad
theorem noF_of {m : Str} {fs : List (Str × D)} (h : noF m fs = true) : fs.lookup m = none := by
  unfold noF at h
  cases e : fs.lookup m with
  | none => rfl
  | some d => rw [e] at h; cases h
/-- the call's promise at the caller -/
theorem meth_sp {K : PySem.W.Frag} {M S0 S : Addr → Prop} {H0 H : Hp} {σ : Sg} {δ : DSt} {n : Nat} {G : MF} {fs : List (Str × D)} {ds : List D} {a dx : Addr} {fv : List (Str × V)} {ws : List V} {Q : VK} (s : StS K M S0 H0 S σ H δ) (hd : δ[i]? = some (.ob c fs)) (w1 : σ[i]? = some (some (.ref a)))
    (hi : H a = some (.ins (He.ga K c) dx fv)) (rf : RepF K S H fv fs) (r : RepL K S H ws ds) (hn : ds.length = n)
    (q : ResX K M S0 H0 E ((G fs ds).bind fun p => .ok (p.1, δ.set i (.ob c p.2))) fun d δ' => ∀ v H', StS K M S0 H0 S σ H' δ' → Ev S H S H' → Rep K S H' v d → Q v H') : spM K c n G (.ref a :: ws) H Q E := by
  obtain ⟨o, u1, a', dx', fv', u2, u3, u4, u5, u6⟩ := s.st.slot i _ hd
  rw [w1] at u1
  cases u1
  cases u2
  refine ⟨S, a, dx, fv, fs, ds, ws, rfl, s.st.here, u4, hi, rf, r, hn, ?_⟩
  cases e : G fs ds with
  | bad => rw [e] at q; exact q.elim
  | exc n xs =>
    rw [e] at q
    have q : ∀ cls dx H', KeepM M H0 H' → ExR K S0 H' cls dx n xs → E cls dx H' := q
    intro cls dx H' kp x
    refine q cls dx H' (fun b o h nM => ?_) (x.to s.sub)
    have nb : b ≠ a := fun z => by
      rw [z] at h nM
      rcases s.own i a _ hd rfl w1 with ⟨y, _⟩ | ⟨y, _⟩
      · rw [y] at h; cases h
      · exact nM y
    exact kp b o (s.same b o h nM) nb
  | ok p =>
    rw [e] at q
    intro v H' dx' fv' kp hi' rf' rv
    obtain ⟨s2, e2⟩ := s.chgT (t0 := .ob c p.2) hd rfl w1 kp hi' rfl ⟨fun _ => ⟨_, _, rfl⟩, fun _ => ⟨_, _, rfl⟩⟩ ⟨a, dx', fv', rfl, hi', u4, rf'.1, rf'.2⟩
    exact q v H' s2 e2 rv
theorem dx_meth {fa : Addr} {n : Nat} {G : MF} {pl : Sem Bool} (i : Nat) (C : Cls X.K (He.ga X.K c)) (hm : Meth X.K (He.ga X.K c) m fa) (Fn : FnM X.prog X.w X.K X.mg X.base k fa c n G) (B : Bd X (fun _ => E) k) (ha : DA X (fun _ => E) (b :: es) fl) (hn : (b :: es).length = n := by rfl)
    (hN : X.N[i]? = some x := by rfl) (hv : Vis X.env.scope x := by first | exact Or.inl rfl | exact Or.inr (Or.inl rfl) | exact Or.inr (Or.inr rfl)) (hd : (x == ("__debug__" : Str)) = false := by decide) (hcd : (x == ("__classdict__" : Str)) = false := by decide)
    (hst : starEach (b :: es) X.env = (false, eval b X.env) :: starEach es X.env := by rfl) (hpl : (backTo pos (starEach es X.env)).any (·.1) = false := by rfl)
    (ht : eval (.Call (.Attribute (.Name x p) m apos) (b :: es) [] pos) X.env = (do
      let ov ← eval (.Name x p) X.env
      standAt apos.atName
      let (f, first) ← holding [ov] (getMethod ov m pl)
      callWith pos f first (backTo pos (starEach (b :: es) X.env)) (backToKw pos (keywordEach [] X.env))) := by rfl) :
    DX X e0 E (.Call (.Attribute (.Name x p) m apos) (b :: es) [] pos) (fMeth c m i G fl) := by
  refine PE.imp (pa_methR (E := fun _ => E) (pe_var hN hv hd hcd) C hm Fn B.room B.pass ha.pa ⟨hst, hpl⟩ ht) fun σ H Q hq => ?_
  obtain ⟨S, δ, s, q⟩ := hq
  unfold fMeth at q
  cases r : fOb c i δ with
  | bad => rw [r] at q; exact q.elim
  | exc n xs => exact (fOb_ne r).elim
  | ok fs =>
    rw [r, R.bind_ok] at q
    have hd := fOb_at r
    obtain ⟨o, w1, a, dx, fv, w2, w3, w4, w5, w6⟩ := s.st.slot i _ hd
    subst w2
    have rf : RepF X.K S H fv fs := ⟨w5, w6⟩
    by_cases nf : noF m fs = true
    · rw [if_pos nf] at q
      refine ⟨_, w1, a, dx, fv, rfl, w3, rf.no (noF_of nf), S, δ, s.st, ?_⟩
      have q1 := ResX.of s q
      cases rl : fl δ with
      | bad => rw [rl] at q1; exact q1.elim
      | exc n xs => rw [rl] at q1; exact q1
      | ok ds =>
        rw [rl] at q1
        intro vs H1 e1 r1
        have ev : Ev S H S H1 := .same e1
        exact meth_sp (s.mono e1) hd w1 (e1 _ _ w3) (rf.ev ev) r1 ((ha.len δ ds rl).trans hn) ((show ResX X.K e0.M e0.S e0.H E ((G fs ds).bind fun p => .ok (p.1, δ.set i (.ob c p.2))) _ from q1).imp fun d δ' q2 v H' s' e' r' => q2 v H' s' (ev.trans e') r')
    · rw [if_neg nf] at q; exact q.elim
theorem dx_meth0 {fa : Addr} {G : MF} {pl : Sem Bool} (i : Nat) (C : Cls X.K (He.ga X.K c)) (hm : Meth X.K (He.ga X.K c) m fa) (Fn : FnM X.prog X.w X.K X.mg X.base k fa c 0 G) (B : Bd X (fun _ => E) k)
    (hN : X.N[i]? = some x := by rfl) (hv : Vis X.env.scope x := by first | exact Or.inl rfl | exact Or.inr (Or.inl rfl) | exact Or.inr (Or.inr rfl)) (hd : (x == ("__debug__" : Str)) = false := by decide) (hcd : (x == ("__classdict__" : Str)) = false := by decide)
    (ht : eval (.Call (.Attribute (.Name x p) m apos) [] [] pos) X.env = (do
      let ov ← eval (.Name x p) X.env
      standAt apos.atName
      let (f, first) ← holding [ov] (getMethod ov m pl)
      callWith pos f first (backTo pos (starEach [] X.env)) (backToKw pos (keywordEach [] X.env))) := by rfl) :
    DX X e0 E (.Call (.Attribute (.Name x p) m apos) [] [] pos) (fMeth c m i G fNil) := by
  refine PE.imp (pa_methR0 (E := fun _ => E) (pe_var hN hv hd hcd) C hm Fn B.room B.pass ht) fun σ H Q hq => ?_
  obtain ⟨S, δ, s, q⟩ := hq
  unfold fMeth at q
  cases r : fOb c i δ with
  | bad => rw [r] at q; exact q.elim
  | exc n xs => exact (fOb_ne r).elim
  | ok fs =>
    rw [r, R.bind_ok] at q
    have hd := fOb_at r
    obtain ⟨o, w1, a, dx, fv, w2, w3, w4, w5, w6⟩ := s.st.slot i _ hd
    subst w2
    have rf : RepF X.K S H fv fs := ⟨w5, w6⟩
    by_cases nf : noF m fs = true
    · rw [if_pos nf] at q
      exact ⟨_, w1, a, dx, fv, rfl, w3, rf.no (noF_of nf), meth_sp s hd w1 w3 rf .nil rfl q⟩
    · rw [if_neg nf] at q; exact q.elim
/-! ### a method that only looks: the instance as data -/
/-- flat data alone, no error -/
def rFlat : R D → R D
  | .ok d => if d.flat = true then .ok d else .bad
  | _ => .bad
def fView (c m : Str) (i : Nat) (G : List D → R D) (fl : FL) : FE := fun δ => (fOb c i δ).bind fun fs => if (noF m fs && decide (fs.map (·.1) = flds c)) = true then (fl δ).bind fun ds => rFlat (G (.obj c (fs.map (·.2)) :: ds)) else .bad
theorem Rep.flatAny {K : PySem.W.Frag} {S S' : Addr → Prop} {H H' : Hp} {v : V} {d : D} (r : Rep K S H v d) (h : d.flat = true) : Rep K S' H' v d := by
  cases r with
  | non => exact .non
  | bl b => exact .bl b
  | int i => exact .int i
  | str x => exact .str x
  | _ => cases h
theorem de_view0 {fa : Addr} {G : List D → R D} {pl : Sem Bool} (i : Nat) (hs : slotted c = false) (C : Cls X.K (He.ga X.K c)) (hm : Meth X.K (He.ga X.K c) m fa) (Fn : FnG X.prog X.w X.K X.mg X.base k fa 1 G) (B : Bd X Eσ k)
    (hN : X.N[i]? = some x := by rfl) (hv : Vis X.env.scope x := by first | exact Or.inl rfl | exact Or.inr (Or.inl rfl) | exact Or.inr (Or.inr rfl)) (hd : (x == ("__debug__" : Str)) = false := by decide) (hcd : (x == ("__classdict__" : Str)) = false := by decide)
    (ht : eval (.Call (.Attribute (.Name x p) m apos) [] [] pos) X.env = (do
      let ov ← eval (.Name x p) X.env
      standAt apos.atName
      let (f, first) ← holding [ov] (getMethod ov m pl)
      callWith pos f first (backTo pos (starEach [] X.env)) (backToKw pos (keywordEach [] X.env))) := by rfl) :
    DE X Eσ (.Call (.Attribute (.Name x p) m apos) [] [] pos) (fView c m i G fNil) := by
  refine PE.imp (pa_methR0 (pe_var hN hv hd hcd) C hm Fn B.room B.pass ht) fun σ H Q hq => ?_
  obtain ⟨S, δ, s, q⟩ := hq
  unfold fView at q
  cases r : fOb c i δ with
  | bad => rw [r] at q; exact q.elim
  | exc n xs => exact (fOb_ne r).elim
  | ok fs =>
    rw [r, R.bind_ok] at q
    have hd := fOb_at r
    obtain ⟨o, w1, a, dx, fv, w2, w3, w4, w5, w6⟩ := s.slot i _ hd
    subst w2
    have rf : RepF X.K S H fv fs := ⟨w5, w6⟩
    by_cases nf : (noF m fs && decide (fs.map (·.1) = flds c)) = true
    · rw [if_pos nf] at q
      obtain ⟨n1, n2⟩ := Bool.and_eq_true_iff.mp nf
      have n2 : fs.map (·.1) = flds c := of_decide_eq_true n2
      refine ⟨_, w1, a, dx, fv, rfl, w3, rf.no (noF_of n1), ?_⟩
      have ev : Ev S H (fun b => S b ∧ b ≠ a) H := ⟨fun _ _ h _ => h, fun _ _ _ n z => n z.1⟩
      have e3 : (flds c).zip (fv.map (·.2)) = fv := by rw [← n2, ← w5]; exact zip_maps
      have q : Res X.K S H (Eσ σ) (rFlat (G [.obj c (fs.map (·.2))])) (fun d => ∀ v H', Same H H' → Rep X.K S H' v d → Q v H') := q
      refine ⟨fun b => S b ∧ b ≠ a, [.obj c (fs.map (·.2))], fun b z => s.here b z.1, .cons (.obj ⟨fun z => z.2 rfl, dx, .inr ⟨hs, by rw [← n2, ← w5, List.length_map, List.length_map], by rw [e3]; exact w3⟩⟩ (w6.ev ev)) .nil, rfl, ?_⟩
      cases e : G [.obj c (fs.map (·.2))] with
      | bad => rw [e] at q; exact q.elim
      | exc n xs => rw [e] at q; exact q.elim
      | ok d =>
        rw [e] at q
        have q : Res X.K S H (Eσ σ) (if d.flat = true then R.ok d else .bad) (fun d => ∀ v H', Same H H' → Rep X.K S H' v d → Q v H') := q
        by_cases cf : d.flat = true
        · rw [if_pos cf] at q
          exact fun v H' e' r' => q v H' e' (r'.flatAny cf)
        · rw [if_neg cf] at q; exact q.elim
    · rw [if_neg nf] at q; exact q.elim
/-! ### C(..): a new instance, frozen -/
def rMake (c : Str) (G : MF) (ds : List D) : R D := (G [] ds).bind fun p => match p.1 with
  | .non => if p.2.map (·.1) = flds c then .ok (.obj c (p.2.map (·.2))) else .bad
  | _ => .bad
def fMake (c : Str) (G : MF) (fl : FL) : FE := fun δ => (fl δ).bind fun ds => rMake c G ds
/-- a new instance's first heap -/
theorem made_same {H : Hp} {x dx C : Addr} (hx : H x = none) (hdx : H dx = none) (ne : dx ≠ x) : Same H (upd (upd H dx (.own x)) x (.ins C dx [])) := fun b o h => by
  have n1 : b ≠ x := fun z => by rw [z, hx] at h; cases h
  have n2 : b ≠ dx := fun z => by rw [z, hdx] at h; cases h
  rw [upd_ne n1, upd_ne n2]
  exact h
theorem made_sp {K : PySem.W.Frag} {S : Addr → Prop} {H : Hp} {n : Nat} {G : MF} {ds : List D} {x dx : Addr} {ws : List V} {Q : VK} (dm : Dom S H) (hx : H x = none) (hdx : H dx = none) (ne : dx ≠ x) (r : RepL K S H ws ds) (hn : ds.length = n)
    (q : ResM K x (fun b => S b ∨ b = x) (upd (upd H dx (.own x)) x (.ins (He.ga K c) dx [])) E (G [] ds) fun d fs' => ∀ v H' dx' fv', KeepM (· = x) (upd (upd H dx (.own x)) x (.ins (He.ga K c) dx [])) H' → H' x = some (.ins (He.ga K c) dx' fv') → RepF K (fun b => S b ∨ b = x) H' fv' fs' → Rep K (fun b => S b ∨ b = x) H' v d → Q v H') :
    spM K c n G (.ref x :: ws) (upd (upd H dx (.own x)) x (.ins (He.ga K c) dx [])) Q E := by
  have sm := made_same (C := He.ga K c) hx hdx ne
  have ev : Ev S H (fun b => S b ∨ b = x) (upd (upd H dx (.own x)) x (.ins (He.ga K c) dx [])) := ⟨fun b o h _ => sm b o h, fun b o h n z => z.elim n fun z => by rw [z, hx] at h; cases h⟩
  refine ⟨_, x, dx, [], [], ds, ws, rfl, fun b z => ?_, .inr rfl, upd_same, .nil, r.ev ev, hn, q⟩
  rcases z with z | z
  · obtain ⟨o, h⟩ := dm b z
    exact ⟨o, sm _ _ h⟩
  · exact ⟨_, by rw [z]; exact upd_same⟩
theorem keep_fresh {H H1 H' : Hp} {x : Addr} (sm : Same H H1) (hx : H x = none) (k : KeepM (· = x) H1 H') : Same H H' := fun b o h => k b o (sm b o h) fun z => by
  rw [z, hx] at h; cases h
theorem make_end {K : PySem.W.Frag} {S : Addr → Prop} {H : Hp} {n : Nat} {G : MF} {ds : List D} {x dx : Addr} {ws : List V} {Q : VK} (hs : slotted c = false) (dm : Dom S H) (hx : H x = none) (hdx : H dx = none) (ne : dx ≠ x) (r : RepL K S H ws ds) (hn : ds.length = n)
    (q : Res K S H E (rMake c G ds) fun d => ∀ v H', Same H H' → Rep K S H' v d → Q v H') : spM K c n G (.ref x :: ws) (upd (upd H dx (.own x)) x (.ins (He.ga K c) dx [])) (fun v H2 => v = .non ∧ Q (.ref x) H2) E := by
  have sm := made_same (C := He.ga K c) hx hdx ne
  refine made_sp dm hx hdx ne r hn ?_
  unfold rMake at q
  cases e : G [] ds with
  | bad => rw [e] at q; exact q.elim
  | exc z xs =>
    rw [e] at q
    have q : ∀ cls dx H', Same H H' → ExR K S H' cls dx z xs → E cls dx H' := q
    exact fun cls dx H' k x => q cls dx H' (keep_fresh sm hx k) (x.to fun b z => .inl z)
  | ok p =>
    rw [e, R.bind_ok] at q
    obtain ⟨d, fs⟩ := p
    cases d with
    | non =>
      have q : Res K S H E (if fs.map (·.1) = flds c then R.ok (.obj c (fs.map (·.2))) else .bad) (fun d => ∀ v H', Same H H' → Rep K S H' v d → Q v H') := q
      by_cases hf : fs.map (·.1) = flds c
      · rw [if_pos hf] at q
        intro v H' dx' fv' k hi rf rv
        have nS : ¬ S x := fun z => by
          obtain ⟨o, h⟩ := dm x z
          rw [hx] at h; cases h
        have e3 : (flds c).zip (fv'.map (·.2)) = fv' := by rw [← hf, ← rf.1]; exact zip_maps
        refine ⟨by cases rv; rfl, q (.ref x) H' (keep_fresh sm hx k) (.obj ⟨nS, dx', .inr ⟨hs, by rw [← hf, ← rf.1, List.length_map, List.length_map], by rw [e3]; exact hi⟩⟩ (rf.2.less fun b z => .inl z))⟩
      · rw [if_neg hf] at q; exact q.elim
    | _ => exact q.elim
theorem de_make {fi : Addr} {fd : FuncData} {ps : List Str} {n : Nat} {G : MF} (hs : slotted c = false) (M : Mk X.K (He.ga X.K c) fi) (Fn : FnOk X.prog X.w X.K X.mg X.base (L2.CX X.prog X.w) k fi fd ps (spM X.K c n G)) (hb : Binds X.K fd ps []) (hr : Room (k + 1) X.A) (B : Bd X Eσ j) (hg : Gl X x) (hm : X.mg x = some (.ref (He.ga X.K c)))
    (ha : DA X Eσ (b :: es) fl) (hn : (b :: es).length = n := by rfl) (hdb : (x == ("__debug__" : Str)) = false := by decide) (he : starEach (b :: es) X.env = (false, eval b X.env) :: starEach es X.env := by rfl) (hpl : (backTo pos (starEach es X.env)).any (·.1) = false := by rfl) :
    DE X Eσ (.Call (.Name x p) (b :: es) [] pos) (fMake c G fl) := by
  refine PE.imp (pa_make M Fn hr hg hm hb B.pass ha.pa hdb ⟨he, hpl⟩) fun σ H Q hq => ?_
  obtain ⟨S, δ, st, q⟩ := hq
  refine ⟨S, δ, st, ?_⟩
  have q1 := Res.on (show Res X.K S H (Eσ σ) ((fl δ).bind fun ds => rMake c G ds) _ from q)
  cases r : fl δ with
  | bad => rw [r] at q1; exact q1.elim
  | exc n xs => rw [r] at q1; exact q1
  | ok ds =>
    rw [r] at q1
    intro vs H1 e1 r1 xa dxa h1 h2 h3
    rw [List.append_nil]
    exact make_end hs (st.mono e1).here h1 h2 h3 r1 ((ha.len δ ds r).trans hn) ((Res.mono e1 (show Res X.K S H (Eσ σ) (rMake c G ds) _ from q1)).imp fun d q2 v H' e' r' => q2 v H' (e1.trans e') r')
/-! ### C(..).m() -/
def rMakeM (m : Str) (G G2 : MF) (ds : List D) : R D := (G [] ds).bind fun p => match p.1 with
  | .non => if noF m p.2 = true then (G2 p.2 []).bind fun q => .ok q.1 else .bad
  | _ => .bad
def fMakeM (m : Str) (G G2 : MF) (fl : FL) : FE := fun δ => (fl δ).bind (rMakeM m G G2)
end
end DL

/-! DFrz: instances as data: their methods and properties; classes called. -/
namespace DL
open PySem PySem.Spec PyProof.Rows L2
section
variable {X : Cx} {e0 : Ent} {E : XK} {Eσ : Sg → XK} {k j : Nat} {pos p p2 apos : Pos} {x : Str} {st : Stmt} {rest : List Stmt} {F : FS} {a b o : Expr} {f g fo : FE} {es : List Expr} {fl : FL} {c m : Str} {i : Nat}
/-! ### C(..).m() -/
theorem de_makeM {fi fa : Addr} {fd : FuncData} {ps : List Str} {n : Nat} {G G2 : MF} {pl : Sem Bool} (C : Cls X.K (He.ga X.K c)) (hmm : Meth X.K (He.ga X.K c) m fa) (Fm : FnM X.prog X.w X.K X.mg X.base k fa c 0 G2) (M : Mk X.K (He.ga X.K c) fi)
    (Fn : FnOk X.prog X.w X.K X.mg X.base (L2.CX X.prog X.w) j fi fd ps (spM X.K c n G)) (hb : Binds X.K fd ps []) (hr : Room (j + 1) X.A) (hg : Gl X x) (hm : X.mg x = some (.ref (He.ga X.K c)))
    (B : Bd X Eσ k) (ha : DA X Eσ (b :: es) fl) (hn : (b :: es).length = n := by rfl) (hdb : (x == ("__debug__" : Str)) = false := by decide) (he : starEach (b :: es) X.env = (false, eval b X.env) :: starEach es X.env := by rfl) (hpl : (backTo p2 (starEach es X.env)).any (·.1) = false := by rfl)
    (ht : eval (.Call (.Attribute (.Call (.Name x p) (b :: es) [] p2) m apos) [] [] pos) X.env = (do
      let ov ← eval (.Call (.Name x p) (b :: es) [] p2) X.env
      standAt apos.atName
      let (f, first) ← holding [ov] (getMethod ov m pl)
      callWith pos f first (backTo pos (starEach [] X.env)) (backToKw pos (keywordEach [] X.env))) := by rfl) :
    DE X Eσ (.Call (.Attribute (.Call (.Name x p) (b :: es) [] p2) m apos) [] [] pos) (fMakeM m G G2 fl) := by
  refine PE.imp (pa_methR0 (pa_make M Fn hr hg hm hb B.pass ha.pa hdb ⟨he, hpl⟩) C hmm Fm B.room B.pass ht) fun σ H Q hq => ?_
  obtain ⟨S, δ, st, q⟩ := hq
  refine ⟨S, δ, st, ?_⟩
  unfold fMakeM at q
  have q1 := Res.on q
  cases r : fl δ with
  | bad => rw [r] at q1; exact q1.elim
  | exc n xs => rw [r] at q1; exact q1
  | ok ds =>
    rw [r] at q1
    intro vs H1 e1 r1 xa dxa h1 h2 h3
    rw [List.append_nil]
    have sm := made_same (C := He.ga X.K c) h1 h2 h3
    have hx0 : H xa = none := by
      cases z : H xa with
      | none => rfl
      | some u => have := e1 xa u z; rw [h1] at this; cases this
    refine made_sp (st.mono e1).here h1 h2 h3 r1 ((ha.len δ ds r).trans hn) ?_
    have q1 : Res X.K S H (Eσ σ) (rMakeM m G G2 ds) (fun d => ∀ v H', Same H H' → Rep X.K S H' v d → Q v H') := q1
    unfold rMakeM at q1
    cases e : G [] ds with
    | bad => rw [e] at q1; exact q1.elim
    | exc z xs =>
      rw [e] at q1
      exact fun cls dx H' kp w => (show ∀ cls dx H', Same H H' → ExR X.K S H' cls dx z xs → Eσ σ cls dx H' from q1) cls dx H' (e1.trans (keep_fresh sm h1 kp)) (w.to fun b z => .inl z)
    | ok pr =>
      rw [e] at q1
      obtain ⟨d, fs⟩ := pr
      cases d with
      | non =>
        intro v H' dx' fv' kp hi rf rv
        refine ⟨by cases rv; rfl, xa, dx', fv', rfl, hi, ?_⟩
        have q2 : Res X.K S H (Eσ σ) (if noF m fs = true then (G2 fs []).bind fun q => R.ok q.1 else .bad) (fun d => ∀ v H', Same H H' → Rep X.K S H' v d → Q v H') := q1
        by_cases nf : noF m fs = true
        · rw [if_pos nf] at q2
          refine ⟨rf.no (noF_of nf), fun b => S b ∨ b = xa, xa, dx', fv', fs, [], [], rfl, fun b z => ?_, .inr rfl, hi, rf, .nil, rfl, ?_⟩
          · rcases z with z | z
            · obtain ⟨u, hu⟩ := st.here b z
              exact ⟨u, keep_fresh sm h1 kp _ _ (e1 _ _ hu)⟩
            · exact ⟨_, by rw [z]; exact hi⟩
          · have ek : Same H H' := e1.trans (keep_fresh sm h1 kp)
            cases e2 : G2 fs [] with
            | bad => rw [e2] at q2; exact q2.elim
            | exc z xs =>
              rw [e2] at q2
              exact fun cls dx H2 kp2 w => (show ∀ cls dx H', Same H H' → ExR X.K S H' cls dx z xs → Eσ σ cls dx H' from q2) cls dx H2 (keep_fresh ek hx0 kp2) (w.to fun b z => .inl z)
            | ok pr2 =>
              rw [e2] at q2
              exact fun v2 H2 dx2 fv2 kp2 _ _ rv2 => (show ∀ v H', Same H H' → Rep X.K S H' v pr2.1 → Q v H' from q2) v2 H2 (keep_fresh ek hx0 kp2) (rv2.less fun b z => .inl z)
        · rw [if_neg nf] at q2; exact q2.elim
      | _ => exact q1.elim
/-! ### o.m(..), o an instance as data -/
def isOb (c : Str) : D → Bool
  | .obj c' _ => decide (c' = c)
  | _ => false
theorem isOb_of {c : Str} {d : D} (h : isOb c d = true) : ∃ xs, d = .obj c xs := by
  cases d with
  | obj c' xs => exact ⟨xs, by rw [show c' = c from of_decide_eq_true h]⟩
  | _ => cases h
def fMethF (c : Str) (G : List D → R D) (fo : FE) (fl : FL) : FE := fun δ => (fo δ).bind fun o => if isOb c o = true then (fl δ).bind fun ds => G (o :: ds) else .bad
theorem zip_no {ns : List Str} {vs : List V} {m : Str} (h : m ∉ ns) : (ns.zip vs).lookup m = none := by
  induction ns generalizing vs with
  | nil => rfl
  | cons n ns ih =>
    cases vs with
    | nil => rfl
    | cons v vs =>
      have h1 : m ≠ n := fun z => h (by rw [z]; exact List.mem_cons_self)
      have c2 : (m == n) = false := beq_eq_false_iff_ne.mpr h1
      show List.lookup m ((n, v) :: ns.zip vs) = none
      rw [List.lookup_cons, c2]
      exact ih fun z => h (List.mem_cons_of_mem _ z)
theorem meth_f {n : Nat} {G : List D → R D} {σ : Sg} {H : Hp} {Q : VK} {od : D} {v : V} {H1 : Hp} {S : Addr → Prop} {δ : DSt} (st : StE X.K S σ H δ) (e1 : Same H H1) (rv : Rep X.K S H1 v od) (ha : DA X Eσ es fl) (hn : es.length = n)
    (q : Res X.K S H (Eσ σ) ((fl δ).bind fun ds => G (od :: ds)) fun d => ∀ v H', Same H H' → Rep X.K S H' v d → Q v H') : tDL X.K Eσ fl σ H1 fun ws H2 => spD X.K (n + 1) G (v :: ws) H2 Q (Eσ σ) := by
  refine ⟨S, δ, st.mono e1, ?_⟩
  have q' := Res.on (q.mono e1)
  cases r : fl δ with
  | bad => rw [r] at q'; exact q'.elim
  | exc n xs => rw [r] at q'; exact q'
  | ok ds =>
    rw [r] at q'
    exact fun ws H2 e2 r2 => ⟨S, od :: ds, ((st.mono e1).mono e2).here, .cons (rv.mono e2) r2, by rw [List.length_cons, ha.len δ ds r, hn], (Res.mono e2 (show Res X.K S H1 (Eσ σ) (G (od :: ds)) (fun d => ∀ v H', Same H H' → Rep X.K S H' v d → Q v H') from q')).imp fun d q2 v H3 e3 r3 => q2 v H3 (e1.trans (e2.trans e3)) r3⟩
theorem meth_f0 {G : List D → R D} {σ : Sg} {H : Hp} {Q : VK} {od : D} {v : V} {H1 : Hp} {S : Addr → Prop} {δ : DSt} (st : StE X.K S σ H δ) (e1 : Same H H1) (rv : Rep X.K S H1 v od)
    (q : Res X.K S H E (G [od]) fun d => ∀ v H', Same H H' → Rep X.K S H' v d → Q v H') : spD X.K 1 G [v] H1 Q E :=
  ⟨S, [od], (st.mono e1).here, .cons rv .nil, rfl, (q.mono e1).imp fun d q2 v H3 e3 r3 => q2 v H3 (e1.trans e3) r3⟩
theorem de_methF {fa : Addr} {n : Nat} {G : List D → R D} {pl : Sem Bool} (hs : slotted c = false) (C : Cls X.K (He.ga X.K c)) (hm : Meth X.K (He.ga X.K c) m fa) (Fn : FnG X.prog X.w X.K X.mg X.base k fa (n + 1) G) (B : Bd X Eσ k) (hmf : m ∉ flds c) (ho : DE X Eσ o fo) (ha : DA X Eσ (b :: es) fl) (hn : (b :: es).length = n := by rfl)
    (hst : starEach (b :: es) X.env = (false, eval b X.env) :: starEach es X.env := by rfl) (hpl : (backTo pos (starEach es X.env)).any (·.1) = false := by rfl)
    (ht : eval (.Call (.Attribute o m apos) (b :: es) [] pos) X.env = (do
      let ov ← eval o X.env
      standAt apos.atName
      let (f, first) ← holding [ov] (getMethod ov m pl)
      callWith pos f first (backTo pos (starEach (b :: es) X.env)) (backToKw pos (keywordEach [] X.env))) := by rfl) :
    DE X Eσ (.Call (.Attribute o m apos) (b :: es) [] pos) (fMethF c G fo fl) := by
  refine PE.imp (pa_methR ho C hm Fn B.room B.pass ha.pa ⟨hst, hpl⟩ ht) fun σ H Q hq => ?_
  obtain ⟨S, δ, st, q⟩ := hq
  refine ⟨S, δ, st, (Res.on q).imp fun od q1 v H1 e1 r1 => ?_⟩
  by_cases io : isOb c od = true
  · rw [if_pos io] at q1
    obtain ⟨xs, rfl⟩ := isOb_of io
    obtain ⟨a, dx, vs, w1, _, w2, w3⟩ := r1.objI hs
    subst w1
    exact ⟨a, dx, _, rfl, w2, zip_no hmf, meth_f st e1 r1 ha hn q1⟩
  · rw [if_neg io] at q1; exact q1.elim
theorem de_methF0 {fa : Addr} {G : List D → R D} {pl : Sem Bool} (hs : slotted c = false) (C : Cls X.K (He.ga X.K c)) (hm : Meth X.K (He.ga X.K c) m fa) (Fn : FnG X.prog X.w X.K X.mg X.base k fa 1 G) (B : Bd X Eσ k) (hmf : m ∉ flds c) (ho : DE X Eσ o fo)
    (ht : eval (.Call (.Attribute o m apos) [] [] pos) X.env = (do
      let ov ← eval o X.env
      standAt apos.atName
      let (f, first) ← holding [ov] (getMethod ov m pl)
      callWith pos f first (backTo pos (starEach [] X.env)) (backToKw pos (keywordEach [] X.env))) := by rfl) :
    DE X Eσ (.Call (.Attribute o m apos) [] [] pos) (fMethF c G fo fNil) := by
  refine PE.imp (pa_methR0 ho C hm Fn B.room B.pass ht) fun σ H Q hq => ?_
  obtain ⟨S, δ, st, q⟩ := hq
  refine ⟨S, δ, st, (Res.on q).imp fun od q1 v H1 e1 r1 => ?_⟩
  by_cases io : isOb c od = true
  · rw [if_pos io] at q1
    obtain ⟨xs, rfl⟩ := isOb_of io
    obtain ⟨a, dx, vs, w1, _, w2, w3⟩ := r1.objI hs
    subst w1
    exact ⟨a, dx, _, rfl, w2, zip_no hmf, meth_f0 st e1 r1 q1⟩
  · rw [if_neg io] at q1; exact q1.elim
/-- .. of a class with slots -/
theorem de_methS {fa : Addr} {n : Nat} {G : List D → R D} {pl : Sem Bool} (hs : slotted c = true) (C : SlX.SCls X.K (He.ga X.K c)) (hm : Meth X.K (He.ga X.K c) m fa) (Fn : FnG X.prog X.w X.K X.mg X.base k fa (n + 1) G) (B : Bd X Eσ k) (ho : DE X Eσ o fo) (ha : DA X Eσ (b :: es) fl) (hn : (b :: es).length = n := by rfl)
    (hst : starEach (b :: es) X.env = (false, eval b X.env) :: starEach es X.env := by rfl) (hpl : (backTo pos (starEach es X.env)).any (·.1) = false := by rfl)
    (ht : eval (.Call (.Attribute o m apos) (b :: es) [] pos) X.env = (do
      let ov ← eval o X.env
      standAt apos.atName
      let (f, first) ← holding [ov] (getMethod ov m pl)
      callWith pos f first (backTo pos (starEach (b :: es) X.env)) (backToKw pos (keywordEach [] X.env))) := by rfl) :
    DE X Eσ (.Call (.Attribute o m apos) (b :: es) [] pos) (fMethF c G fo fl) := by
  refine PE.imp (pa_methSl ho C hm Fn B.room B.pass ha.pa ⟨hst, hpl⟩ ht) fun σ H Q hq => ?_
  obtain ⟨S, δ, st, q⟩ := hq
  refine ⟨S, δ, st, (Res.on q).imp fun od q1 v H1 e1 r1 => ?_⟩
  by_cases io : isOb c od = true
  · rw [if_pos io] at q1
    obtain ⟨xs, rfl⟩ := isOb_of io
    obtain ⟨a, dx, vs, w1, w2, w3⟩ := r1.objS hs
    subst w1
    exact ⟨a, dx, _, rfl, w2, meth_f st e1 r1 ha hn q1⟩
  · rw [if_neg io] at q1; exact q1.elim
theorem de_methS0 {fa : Addr} {G : List D → R D} {pl : Sem Bool} (hs : slotted c = true) (C : SlX.SCls X.K (He.ga X.K c)) (hm : Meth X.K (He.ga X.K c) m fa) (Fn : FnG X.prog X.w X.K X.mg X.base k fa 1 G) (B : Bd X Eσ k) (ho : DE X Eσ o fo)
    (ht : eval (.Call (.Attribute o m apos) [] [] pos) X.env = (do
      let ov ← eval o X.env
      standAt apos.atName
      let (f, first) ← holding [ov] (getMethod ov m pl)
      callWith pos f first (backTo pos (starEach [] X.env)) (backToKw pos (keywordEach [] X.env))) := by rfl) :
    DE X Eσ (.Call (.Attribute o m apos) [] [] pos) (fMethF c G fo fNil) := by
  refine PE.imp (pa_methSl0 ho C hm Fn B.room B.pass ht) fun σ H Q hq => ?_
  obtain ⟨S, δ, st, q⟩ := hq
  refine ⟨S, δ, st, (Res.on q).imp fun od q1 v H1 e1 r1 => ?_⟩
  by_cases io : isOb c od = true
  · rw [if_pos io] at q1
    obtain ⟨xs, rfl⟩ := isOb_of io
    obtain ⟨a, dx, vs, w1, w2, w3⟩ := r1.objS hs
    subst w1
    exact ⟨a, dx, _, rfl, w2, meth_f0 st e1 r1 q1⟩
  · rw [if_neg io] at q1; exact q1.elim
/-! ### o.f, a property -/
def fProp (c : Str) (G : List D → R D) (fo : FE) : FE := fun δ => (fo δ).bind fun o => if isOb c o = true then (G [o]).quiet else .bad
theorem quiet_sp {K : PySem.W.Frag} {S : Addr → Prop} {H : Hp} {r : R D} {P : D → Prop} (h : Res K S H E r.quiet P) : Res K S H E0 r P := by
  cases r with
  | ok d => exact h
  | exc n xs => exact h.elim
  | bad => exact h
theorem de_propF {pa fa : Addr} {fd : FuncData} {ps : List Str} {G : List D → R D} {fn : Str} (hs : slotted c = false) (C : Cls X.K (He.ga X.K c)) (hp : PropOf X.K (He.ga X.K c) fn pa fa) (Fn : FnOk X.prog X.w X.K X.mg X.base (L2.CX X.prog X.w) k fa fd ps (spD X.K 1 G)) (hb : Binds X.K fd ps []) (hr : Room (k + 1) X.A) (ho : DE X Eσ o fo)
    (hab : attributeBase o fn X.env (eval o X.env) = eval o X.env := by rfl) : DE X Eσ (.Attribute o fn pos) (fProp c G fo) := by
  refine PE.imp (pe_prop ho C hp Fn hr hb .nil passL hab) fun σ H Q hq => ?_
  obtain ⟨S, δ, st, q⟩ := hq
  refine ⟨S, δ, st, (Res.on q).imp fun od q1 v H1 e1 r1 => ?_⟩
  by_cases io : isOb c od = true
  · rw [if_pos io] at q1
    obtain ⟨xs, rfl⟩ := isOb_of io
    obtain ⟨a, dx, vs, w1, _, w2, w3⟩ := r1.objI hs
    subst w1
    exact ⟨a, dx, _, rfl, w2, meth_f0 st e1 r1 (quiet_sp q1)⟩
  · rw [if_neg io] at q1; exact q1.elim
theorem de_propS {pa fa : Addr} {G : List D → R D} {fn : Str} (hs : slotted c = true) (C : SlX.SCls X.K (He.ga X.K c)) (hp : PropOf X.K (He.ga X.K c) fn pa fa) (Fn : FnG X.prog X.w X.K X.mg X.base k fa 1 G) (hr : Room (k + 1) X.A) (ho : DE X Eσ o fo)
    (hab : attributeBase o fn X.env (eval o X.env) = eval o X.env := by rfl) : DE X Eσ (.Attribute o fn pos) (fProp c G fo) := by
  refine PE.imp (SlX.pe_propSl (E := E0) ho C hp.at_ hp.get hp.tak hp.rec_ Fn hr (fun H s e s' z => by
    obtain ⟨_, _, _, _, _, _, _, _, _, _, _, _, w⟩ := z
    exact w.elim) hab) fun σ H Q hq => ?_
  obtain ⟨S, δ, st, q⟩ := hq
  refine ⟨S, δ, st, (Res.on q).imp fun od q1 v H1 e1 r1 => ?_⟩
  by_cases io : isOb c od = true
  · rw [if_pos io] at q1
    obtain ⟨xs, rfl⟩ := isOb_of io
    obtain ⟨a, dx, vs, w1, w2, w3⟩ := r1.objS hs
    subst w1
    exact ⟨a, dx, _, rfl, w2, meth_f0 st e1 r1 (quiet_sp q1)⟩
  · rw [if_neg io] at q1; exact q1.elim
/-! ### C.m(..), a classmethod; cls(..) -/
theorem de_cls (hg : Gl X x) (hm : X.mg x = some (.ref (He.ga X.K x))) (hd : (x == ("__debug__" : Str)) = false := by decide) : DE X Eσ (.Name x pos) (fC (.fn x)) := de_glob (v := .ref (He.ga X.K x)) hg hm rfl (fun _ _ => .fn _) hd
theorem de_cmeth {mc : Value} {pa fa : Addr} {n : Nat} {G : List D → R D} {pl : Sem Bool} (r : ClX.CRead X.K (He.ga X.K c) mc) (cm : ClX.CMet X.K (He.ga X.K c) mc m pa fa) (Fn : FnG X.prog X.w X.K X.mg X.base k fa (n + 1) G) (B : Bd X Eσ k) (hg : Gl X c) (hm : X.mg c = some (.ref (He.ga X.K c))) (ha : DA X Eσ (b :: es) fl) (hn : (b :: es).length = n := by rfl)
    (hdb : (c == ("__debug__" : Str)) = false := by decide) (hst : starEach (b :: es) X.env = (false, eval b X.env) :: starEach es X.env := by rfl) (hpl : (backTo pos (starEach es X.env)).any (·.1) = false := by rfl)
    (ht : eval (.Call (.Attribute (.Name c p) m apos) (b :: es) [] pos) X.env = (do
      let ov ← eval (.Name c p) X.env
      standAt apos.atName
      let (f, first) ← holding [ov] (getMethod ov m pl)
      callWith pos f first (backTo pos (starEach (b :: es) X.env)) (backToKw pos (keywordEach [] X.env))) := by rfl) :
    DE X Eσ (.Call (.Attribute (.Name c p) m apos) (b :: es) [] pos) (fCall (fun ds => G (.fn c :: ds)) fl) := by
  refine PE.imp (pa_cmeth (pe_glob (v := .ref (He.ga X.K c)) hg hm rfl hdb) r cm Fn B.room B.pass ha.pa ⟨hst, hpl⟩ ht) fun σ H Q hq => ?_
  obtain ⟨S, δ, st, q⟩ := hq
  exact ⟨rfl, meth_f st (Same.refl _) (.fn c) ha hn q⟩
def fMakeL (c : Str) (i : Nat) (G : MF) (fl : FL) : FE := fun δ => (fVar i δ).bind fun d => match d with
  | .fn c' => if c' = c then fMake c G fl δ else .bad
  | _ => .bad
theorem de_makeL {fi : Addr} {fd : FuncData} {ps : List Str} {n : Nat} {G : MF} (i : Nat) (hs : slotted c = false) (M : Mk X.K (He.ga X.K c) fi) (Fn : FnOk X.prog X.w X.K X.mg X.base (L2.CX X.prog X.w) k fi fd ps (spM X.K c n G)) (hb : Binds X.K fd ps []) (hr : Room (k + 1) X.A) (B : Bd X Eσ j)
    (ha : DA X Eσ (b :: es) fl) (hn : (b :: es).length = n := by rfl) (hN : X.N[i]? = some x := by rfl) (hv : Vis X.env.scope x := by first | exact Or.inl rfl | exact Or.inr (Or.inl rfl) | exact Or.inr (Or.inr rfl))
    (hdb : (x == ("__debug__" : Str)) = false := by decide) (hcd : (x == ("__classdict__" : Str)) = false := by decide) (he : starEach (b :: es) X.env = (false, eval b X.env) :: starEach es X.env := by rfl) (hpl : (backTo pos (starEach es X.env)).any (·.1) = false := by rfl) :
    DE X Eσ (.Call (.Name x p) (b :: es) [] pos) (fMakeL c i G fl) := by
  refine ⟨fun pins s σ H Q I h => ?_⟩
  obtain ⟨S, δ, st, q⟩ := h
  unfold fMakeL fVar at q
  cases hd : δ[i]? with
  | none => rw [hd] at q; exact q.elim
  | some t =>
    rw [hd] at q
    cases t with
    | fz d =>
      obtain ⟨o, w1, v, w2, w3⟩ := st.slot i _ hd
      subst w2
      cases d with
      | fn c' =>
        have q : Res X.K S H (Eσ σ) (if c' = c then fMake c G fl δ else .bad) (fun d => ∀ v H', Same H H' → Rep X.K S H' v d → Q v H') := q
        by_cases ec : c' = c
        · rw [if_pos ec] at q
          subst ec
          cases w3
          refine wpAny_Call_Name_kw (thn ((pe_var (pos := p) hN hv hdb hcd).run pins s σ H (fun v H1 => v = .ref (He.ga X.K c') ∧ H1 = H) I ⟨_, w1, rfl, rfl⟩) fun u s1 ⟨v, H1, I1, r1, q1⟩ => ?_)
          obtain ⟨rfl, rfl⟩ := q1
          cases r1
          have q1 := Res.on (show Res X.K S H1 (Eσ σ) ((fl δ).bind fun ds => rMake c' G ds) _ from q)
          have key : tDL X.K Eσ fl σ H1 fun vs H2 => ∀ xa dxa, H2 xa = none → H2 dxa = none → dxa ≠ xa → spM X.K c' n G (.ref xa :: (vs ++ [])) (upd (upd H2 dxa (.own xa)) xa (.ins (He.ga X.K c') dxa [])) (fun v H3 => v = .non ∧ Q (.ref xa) H3) (Eσ σ) := by
            refine ⟨S, δ, st, ?_⟩
            cases r : fl δ with
            | bad => rw [r] at q1; exact q1.elim
            | exc n xs => rw [r] at q1; exact q1
            | ok ds =>
              rw [r] at q1
              intro vs H2 e1 r1 xa dxa h1 h2 h3
              rw [List.append_nil]
              exact make_end hs (st.mono e1).here h1 h2 h3 r1 ((ha.len δ ds r).trans hn) ((Res.mono e1 (show Res X.K S H1 (Eσ σ) (rMake c' G ds) _ from q1)).imp fun d q2 v H' e' r' => q2 v H' (e1.trans e') r')
          refine PySem.W.callWith_K (h₀ := X.base) I.ok.mod.kin M.kp (thn (ha.pa.run pos pins s1 σ H1 _ I1 key) fun us s2 ⟨vs, H2, I2, r, q2⟩ => ⟨I2.kIn, ?_⟩) he hpl
          exact made_at M Fn hr hb (B.pass σ) I2 r fun y dy a b c => by
            have := q2 y dy a b c
            rw [List.append_nil] at this
            exact this
        · rw [if_neg ec] at q; exact q.elim
      | _ => exact q.elim
    | _ => exact q.elim
end
end DL

/-! DAux: what is not said; constants of the module; gcd, lcm; texts. -/
namespace DL
open PySem PySem.Spec PyProof.Rows L2
section
variable {X : Cx} {e0 : Ent} {E : XK} {Eσ : Sg → XK} {k j : Nat} {pos p p2 apos : Pos} {x : Str} {st : Stmt} {rest : List Stmt} {F : FS} {a b o : Expr} {f g fo : FE} {es : List Expr} {fl : FL} {c m : Str} {i : Nat}
/-! ### what is not reached -/
def fBad : FS := fun _ => .bad
theorem ds_bad : DSt1 X e0 E st fBad := ⟨fun pins s σ H D I h => by
  obtain ⟨S, δ, _, q⟩ := h
  exact q.elim⟩
theorem dss_bad {ss : List Stmt} : DSts X e0 E ss fBad := ⟨fun pins s σ H D I h => by
  obtain ⟨S, δ, _, q⟩ := h
  exact q.elim⟩
def eBad : FE := fun _ => .bad
theorem de_bad : DE X Eσ a eBad := ⟨fun pins s σ H Q I h => by
  obtain ⟨S, δ, _, q⟩ := h
  exact q.elim⟩
/-! ### constants of the module -/
theorem de_kstr {z : Str} (hm : ∃ t, X.mg x = some (.str z t)) (hg : Gl X x) (hd : (x == ("__debug__" : Str)) = false := by decide) : DE X Eσ (.Name x pos) (fC (.str z)) := by
  obtain ⟨t, h⟩ := hm
  exact de_glob (v := .str z) hg h ⟨t, rfl⟩ (fun _ _ => .str z) hd
theorem de_kint {z : Int} (hm : ∃ t, X.mg x = some (.int z t)) (hg : Gl X x) (hd : (x == ("__debug__" : Str)) = false := by decide) : DE X Eσ (.Name x pos) (fC (.int z)) := by
  obtain ⟨t, h⟩ := hm
  exact de_glob (v := .int z) hg h ⟨t, rfl⟩ (fun _ _ => .int z) hd
/-- a tuple of texts -/
def KTup (K : PySem.W.Frag) (a : Addr) (zs : List Str) : Prop := LitT K a (zs.map V.str)
theorem repL_strD {K : PySem.W.Frag} {S : Addr → Prop} {H : Hp} : ∀ zs : List Str, RepL K S H (zs.map V.str) (zs.map D.str)
  | [] => .nil
  | z :: zs => .cons (.str z) (repL_strD zs)
theorem de_ktup {zs : List Str} (ht : KTup X.K (He.ga X.K x) zs) (hm : X.mg x = some (.ref (He.ga X.K x))) (hg : Gl X x) (hd : (x == ("__debug__" : Str)) = false := by decide) : DE X Eσ (.Name x pos) (fC (.tup (zs.map .str))) :=
  de_glob (v := .ref (He.ga X.K x)) hg hm rfl (fun _ _ => .ltp ht (repL_strD zs)) hd
/-! ### gcd, lcm -/
def dGcd : List D → Option D
  | [.int a, .int b] => some (.int (Nat.gcd a.natAbs b.natAbs : Nat))
  | _ => none
def dLcm : List D → Option D
  | [.int a, .int b] => if (lim 64 a && lim 64 b) = true then some (.int (Nat.lcm a.natAbs b.natAbs : Nat)) else none
  | [.int a, .int b, .int c] => if (lim 64 a && (lim 64 b && lim 64 c)) = true then some (.int (Nat.lcm (Nat.lcm a.natAbs b.natAbs) c.natAbs : Nat)) else none
  | _ => none
theorem cd_gcd : CallD X (.builtin "math.gcd") dGcd := by
  intro pins s σ H xs us Q I r q
  obtain ⟨S, ds, z, dm, rl, hz, q⟩ := q
  unfold dGcd at hz
  split at hz
  · cases hz
    obtain ⟨v1, v2, rfl, r1, r2⟩ := vl2 rl
    exact cr_gcd pins s σ H _ us Q I r ⟨_, _, by rw [r1.intE, r2.intE], q.here (.int _)⟩
  · cases hz
theorem lcm_fits {n : Nat} (h : n < 2 ^ 200) : ((n : Nat) : Int).natAbs.log2 < bitsLine := by
  rw [Int.natAbs_natCast]
  by_cases z : n = 0
  · subst z; decide
  · exact Nat.lt_of_lt_of_le ((Nat.log2_lt z).mpr h) (by decide)
theorem lcm_lt {a b j k : Nat} (ha : a < 2 ^ j) (hb : b < 2 ^ k) : Nat.lcm a b < 2 ^ (j + k) := by
  by_cases z : a = 0
  · subst z; rw [Nat.lcm_zero_left]; exact Nat.two_pow_pos _
  · by_cases y : b = 0
    · subst y; rw [Nat.lcm_zero_right]; exact Nat.two_pow_pos _
    · have h1 : Nat.lcm a b ≤ a * b := Nat.le_of_dvd (Nat.mul_pos (Nat.pos_of_ne_zero z) (Nat.pos_of_ne_zero y)) (Nat.lcm_dvd_mul a b)
      rw [Nat.pow_add]
      exact Nat.lt_of_le_of_lt h1 (Nat.mul_lt_mul'' ha hb)
theorem args_lcm3 (a b c : Value) : argsOk "math.lcm" ⟨[a, b, c], []⟩ := by unfold argsOk; kernel_rfl
theorem run_lcm3 (a : Int) (t : Tok) (b : Int) (u : Tok) (c : Int) (v : Tok) (h1 : ¬ (max 1 a.natAbs).log2 / 30 + 1 > 450) (h2 : ¬ (max ((Nat.lcm 1 a.natAbs)) b.natAbs).log2 / 30 + 1 > 450) (h3 : ¬ (max ((Nat.lcm 1 a.natAbs).lcm b.natAbs) c.natAbs).log2 / 30 + 1 > 450)
    (hz : (((((Nat.lcm 1 a.natAbs).lcm b.natAbs).lcm c.natAbs : Nat) : Int)).natAbs.log2 < bitsLine) :
    PySem.Gives (Builtin.«math.lcm» ⟨[.int a t, .int b u, .int c v], []⟩) (.int (((((Nat.lcm 1 a.natAbs).lcm b.natAbs).lcm c.natAbs : Nat) : Int))) :=
  .of_wp fun M A E s Q h => by
    obtain ⟨hp, g, d, tk, os⟩ := s
    wp_walk
    rw [if_neg h2]
    wp_walk
    rw [if_neg h3]
    wp_walk
    all_goals (try (refine wpAny_ite_false (decide_eq_false (Nat.not_le.mpr hz)) ?_; wp_walk))
    exact ⟨_, rfl, h⟩
theorem log_le {n k : Nat} (h : n < 2 ^ (k + 1)) : n.log2 ≤ k := PySem.W.mg_log h
theorem vl3 {K : PySem.W.Frag} {S : Addr → Prop} {H : Hp} {xs : List V} {d e f : D} (r : RepL K S H xs [d, e, f]) : ∃ v w u, xs = [v, w, u] ∧ Rep K S H v d ∧ Rep K S H w e ∧ Rep K S H u f := by
  cases r with
  | cons r1 r => cases r with
    | cons r2 r => cases r with
      | cons r3 r => cases r; exact ⟨_, _, _, rfl, r1, r2, r3⟩
theorem cd_lcm : CallD X (.builtin "math.lcm") dLcm := by
  intro pins s σ H xs us Q I r q
  obtain ⟨S, ds, z, dm, rl, hz, q⟩ := q
  unfold dLcm at hz
  split at hz
  · rename_i a b
    by_cases cl : (lim 64 a && lim 64 b) = true
    · rw [if_pos cl] at hz
      cases hz
      obtain ⟨c1, c2⟩ := Bool.and_eq_true_iff.mp cl
      have c1 := lim_abs c1
      have c2 := lim_abs c2
      obtain ⟨v1, v2, rfl, r1, r2⟩ := vl2 rl
      rw [r1.intE, r2.intE] at r
      obtain ⟨t, u, rfl⟩ := Vals.int2 r
      have e : (Nat.lcm 1 a.natAbs).lcm b.natAbs = Nat.lcm a.natAbs b.natAbs := by rw [Nat.lcm_one_left]
      exact PySem.W.mg_lcm_v c1 c2 (by rw [e]) (lcm_fits (Nat.lt_trans (lcm_lt c1 c2) (by decide))) ⟨.int _, H, I.tok _, ⟨_, rfl⟩, q.here (.int _)⟩
    · rw [if_neg cl] at hz; cases hz
  · rename_i a b c
    by_cases cl : (lim 64 a && (lim 64 b && lim 64 c)) = true
    · rw [if_pos cl] at hz
      cases hz
      obtain ⟨c1, c23⟩ := Bool.and_eq_true_iff.mp cl
      obtain ⟨c2, c3⟩ := Bool.and_eq_true_iff.mp c23
      have c1 := lim_abs c1
      have c2 := lim_abs c2
      have c3 := lim_abs c3
      obtain ⟨v1, v2, v3, rfl, r1, r2, r3⟩ := vl3 rl
      rw [r1.intE, r2.intE, r3.intE] at r
      obtain ⟨t, u, w, rfl⟩ : ∃ t u w, us = [.int a t, .int b u, .int c w] := by
        cases r with
        | cons p1 r => cases r with
          | cons p2 r => cases r with
            | cons p3 r =>
              cases r
              obtain ⟨t, rfl⟩ := p1
              obtain ⟨u, rfl⟩ := p2
              obtain ⟨w, rfl⟩ := p3
              exact ⟨t, u, w, rfl⟩
      have e : (Nat.lcm 1 a.natAbs) = a.natAbs := Nat.lcm_one_left _
      have l1 := lcm_lt c1 c2
      have l2 := lcm_lt l1 c3
      have h1 : (max 1 a.natAbs).log2 ≤ 63 := log_le (by show max 1 a.natAbs < 2 ^ 64; omega)
      have h2 : (max (Nat.lcm 1 a.natAbs) b.natAbs).log2 ≤ 63 := log_le (by rw [e]; show max a.natAbs b.natAbs < 2 ^ 64; omega)
      have h3 : (max ((Nat.lcm 1 a.natAbs).lcm b.natAbs) c.natAbs).log2 ≤ 127 := log_le (by rw [e]; show max (Nat.lcm a.natAbs b.natAbs) c.natAbs < 2 ^ 128; omega)
      have g := run_lcm3 a t b u c w (by omega) (by omega) (by omega) (by rw [e]; exact lcm_fits (Nat.lt_of_lt_of_le l2 (by decide)))
      rw [e] at g
      exact PySem.call_function_meets PySem.W.MGF.kind_lcm PySem.W.MGF.plain_lcm PySem.W.MGF.entry_lcm (args_lcm3 _ _ _) g.meets ⟨.int _, H, I.tok _, ⟨_, rfl⟩, q.here (.int _)⟩
    · rw [if_neg cl] at hz; cases hz
  · cases hz
theorem de_callM {id : String} {G : List D → Option D} (hc : CallD X (.builtin id) G) (hg : Gl X x) (hm : X.mg x = some (.builtin id)) (ha : DA X Eσ (b :: es) fl) (hdb : (x == ("__debug__" : Str)) = false := by decide)
    (he : starEach (b :: es) X.env = (false, eval b X.env) :: starEach es X.env := by rfl) (hpl : (backTo pos (starEach es X.env)).any (·.1) = false := by rfl) : DE X Eσ (.Call (.Name x p) (b :: es) [] pos) (fL G fl) :=
  PE.imp (pe_callBfun hc hg hm ha.pa hdb he hpl) fun σ H Q h => cb_of (f := .builtin id) h
/-! ### int of a text -/
def dIntS : List D → Option D
  | [.int i] => some (.int i)
  | [.str z] => match intText? z with
    | some n => if Nat.ble z.length 640 = true then some (.int n) else none
    | none => none
  | _ => none
theorem cd_intS : CallD X (.type "int") dIntS := by
  intro pins s σ H xs us Q I r q
  obtain ⟨S, ds, z, dm, rl, hz, q⟩ := q
  unfold dIntS at hz
  split at hz
  · cases hz
    obtain ⟨v, rfl, r1⟩ := vl1 rl
    exact call_int1 pins s σ H _ us Q I r (.inl ⟨_, by rw [r1.intE], q.here (.int _)⟩)
  · rename_i z'
    obtain ⟨v, rfl, r1⟩ := vl1 rl
    cases e : intText? z' with
    | none => rw [e] at hz; cases hz
    | some n =>
      rw [e] at hz
      by_cases cl : Nat.ble z'.length 640 = true
      · simp only [cl, if_true, Option.some.injEq] at hz
        subst hz
        exact call_int_str pins s σ H _ us Q I r ⟨z', n, by rw [r1.strE], e, Nat.le_of_ble_eq_true cl, q.here (.int _)⟩
      · simp only [cl] at hz
        cases hz
  · cases hz
/-! ### x += e -/
def dAddS : D → D → Option D
  | .int i, .int j => some (.int (i + j))
  | .str x, .str y => if okLe (x.length + y.length) = true then some (.str (x ++ y)) else none
  | _, _ => none
theorem iopd_add : OpD X (inplaceOp .Add) dAddS := by
  intro pins s σ H x y v u Q I rx ry q
  obtain ⟨S, d, e, z, dm, r1, r2, hz, q⟩ := q
  unfold dAddS at hz
  split at hz
  · cases hz
    exact iop_add pins s σ H x y v u Q I rx ry ⟨_, _, r1.intE, r2.intE, q.here (.int _)⟩
  · rename_i x' y'
    by_cases cl : okLe (x'.length + y'.length) = true
    · rw [if_pos cl] at hz
      cases hz
      exact iop_add_str pins s σ H x y v u Q I rx ry ⟨_, _, r1.strE, r2.strE, okLe_of cl, q.here (.str _)⟩
    · rw [if_neg cl] at hz
      cases hz
  · cases hz
theorem iopd_sub : OpD X (inplaceOp .Sub) dSub := by
  intro pins s σ H x y v u Q I rx ry q
  obtain ⟨S, d, e, z, dm, r1, r2, hz, q⟩ := q
  unfold dSub at hz
  split at hz
  · cases hz
    exact iop_sub pins s σ H x y v u Q I rx ry ⟨_, _, r1.intE, r2.intE, q.here (.int _)⟩
  · cases hz
end
theorem fng_bad {P : Program} {w : World} {K : PySem.W.Frag} {mg : Str → Option Value} {base : Heap} {k n m : Nat} {f : Addr} : FnG P w K mg base k f n (runD m fBad) := fng_zero
end DL

/-! DNum: classes with slots made. -/
namespace DL
open PySem PySem.Spec PyProof.Rows L2
section
variable {X : Cx} {E : XK} {Eσ : Sg → XK} {pos pos' : Pos} {a o e : Expr} {rest : List Stmt} {c f : Str} {p : Addr}
/-- k of the slots is are stored -/
def tRun (C : Addr) (is : List Nat) (k : Nat) : TS := fun D σ H => ∃ (a dx : Addr) (pre post : List V) (more : List (Option V)), σ = some (.ref a) :: ((pre ++ post).map some ++ more) ∧ pre.length = k ∧ (pre ++ post).length = is.length ∧ dx ≠ a ∧ SlX.Slt H a C dx (stS (is.take k) pre []) ∧ D.nx σ (SlX.slH H a C dx (stS is (pre ++ post) []))
theorem stS_len : ∀ {is : List Nat} {vs : List V} {ms : List (Option V)}, ms.length ≤ (stS is vs ms).length
  | [], _, _ => by unfold stS; exact Nat.le_refl _
  | _ :: _, [], _ => by unfold stS; exact Nat.le_refl _
  | i :: is, v :: vs, ms => by
    unfold stS
    refine Nat.le_trans ?_ stS_len
    unfold SlX.putS
    rw [List.length_set, List.length_append]
    omega
theorem run_end {C : Addr} {is : List Nat} {n : Nat} (hn : is.length = n) (h0 : n ≠ 0) : PSs X [] (tRun C is n) := by
  refine PSs.imp pss_nil fun D σ H h => ?_
  obtain ⟨a, dx, pre, post, more, e1, e2, e3, ne, hs, q⟩ := h
  have e4 : post = [] := by
    rw [List.length_append] at e3
    exact List.length_eq_zero_iff.mp (by omega)
  subst e4
  rw [List.append_nil] at q
  rw [List.take_of_length_le (by omega)] at hs
  rcases hs with ⟨_, z⟩ | ⟨h1, h2⟩
  · exfalso
    match is, pre, e2, hn with
    | [], _, _, hn => exact h0 hn.symm
    | _ :: _, [], e2, hn => exact h0 e2.symm
    | i :: is, v :: pre, _, _ =>
      have l : (SlX.putS i v []).length ≤ (stS (i :: is) (v :: pre) []).length := stS_len (ms := SlX.putS i v [])
      rw [z] at l
      unfold SlX.putS at l
      rw [List.length_set, List.length_append, List.length_replicate] at l
      simp at l
  · have e5 : SlX.slH H a C dx (stS is pre []) = H := by
      funext b
      by_cases hb : b = a
      · subst hb; exact (upd_same).trans h1.symm
      · by_cases hd : b = dx
        · subst hd
          unfold SlX.slH
          rw [upd_ne hb]
          exact (upd_same).trans h2.symm
        · exact SlX.slH_ne hb hd
    rw [e5] at q
    exact q
theorem run_step {C : Addr} {is : List Nat} {k i : Nat} (S : SlX.SCls X.K C) (t : SlX.Slot1 X.K C f p i) (ho : PE X o (tVar 0)) (he : PE X e (tVar (k + 1))) (hr : PSs X rest (tRun C is (k + 1))) (hi : is[k]? = some i)
    (hs : swapsWith e (some (.Attribute o f pos')) pos.line X.env = pure false := by rfl) : PSs X (.Assign [.Attribute o f pos'] e pos :: rest) (tRun C is k) := by
  refine PSs.imp (pss_cons (SlX.ps_sl ho he hs) hr) fun D σ H h => ?_
  obtain ⟨a, dx, pre, post, more, e1, e2, e3, ne, hsl, q⟩ := h
  have hk : k < is.length := (List.getElem?_eq_some_iff.mp hi).1
  cases post with
  | nil =>
    rw [List.append_nil] at e3
    omega
  | cons v post =>
    refine ⟨v, ?_, .ref a, ?_, a, C, dx, p, stS (is.take k) pre [], i, rfl, hsl, S, t, ?_⟩
    · rw [e1, List.getElem?_cons_succ, List.map_append, List.append_assoc, List.getElem?_append_right (by rw [List.length_map]; omega), List.length_map, e2, Nat.sub_self]
      rfl
    · rw [e1]; rfl
    · have ep : SlX.putS i v (stS (is.take k) pre []) = stS (is.take (k + 1)) (pre ++ [v]) [] := by
        rw [List.take_succ, hi]
        exact (stS_snoc (by rw [List.length_take, e2]; omega)).symm
      rw [ep]
      have ea : pre ++ [v] ++ post = pre ++ v :: post := by rw [List.append_assoc]; rfl
      refine ⟨a, dx, pre ++ [v], post, more, by rw [ea]; exact e1, by rw [List.length_append, e2]; rfl, by rw [ea]; exact e3, ne, SlX.slH_slt ne, ?_⟩
      rw [ea, SlX.slH_twice ne]
      exact q
end
def spSl (K : PySem.W.Frag) (c : Str) (n : Nat) : Sp := fun vs H Q _ => ∃ (a dx : Addr) (ws : List V), vs = .ref a :: ws ∧ ws.length = n ∧ dx ≠ a ∧ H a = some (.ins (He.ga K c) dx []) ∧ Q .non (SlX.slH H a (He.ga K c) dx (stS (ordS c) ws []))
section
variable {P : Program} {w : World} {K : PySem.W.Frag} {mg : Str → Option Value} {base : Heap}
theorem fnok_sl {x qual : Str} {params : Arguments} {body : List Stmt} {scope : Scope} {dvs : List V} {kws : List (Str × V)} {f : Addr} {fd : FuncData} {N ps : List Str} {c : Str} {n k : Nat} (Fd : FunD K x qual params body scope dvs kws f fd) (Sc : FnScope N ps scope) (hn : ps.length = n + 1)
    (hbody : ∀ (cdv : Value) (A : Around) (outer : List Env) (s : Shared) (H : Hp) (E : XK), PSs (cxOf (L2.CX P w) P w K mg base N qual scope f cdv A outer s H E) body (tRun (He.ga K c) (ordS c) 0)) (ho : (ordS c).length = n) : FnOk P w K mg base (L2.CX P w) (k + 1) f fd ps (spSl K c n) := by
  refine FunD.ok (CX := L2.CX P w) Fd Sc (fun vs H Q E h => ?_) (fun cdv A outer s H vs Q E hr h => ?_)
  · obtain ⟨a, dx, ws, e, hl, _⟩ := h
    rw [e, List.length_cons, hl, hn]
  · obtain ⟨a, dx, ws, e, hl, ne, hi, q⟩ := h
    subst e
    refine ⟨_, hbody cdv A outer s H E, a, dx, [], ws, List.replicate (N.length - (ws.length + 1)) none, ?_, rfl, hl.trans ho.symm, ne, .inl ⟨hi, rfl⟩, q⟩
    unfold L2.start
    rw [List.map_cons, List.length_cons]
    rfl
end
section
variable {X : Cx} {E : XK} {Eσ : Sg → XK} {k : Nat} {pos p : Pos} {x : Str} {b : Expr} {es : List Expr} {fl : FL} {c : Str}
/-- C(e, ..), C with slots, its fields in the order of its parameters -/
def fMakeS (c : Str) (n : Nat) (fl : FL) : FE := fun δ => (fl δ).bind fun ds => if ds.length = n then .ok (.obj c ds) else .bad
theorem makeS_end {K : PySem.W.Frag} {S : Addr → Prop} {H : Hp} {n : Nat} {ds : List D} {xa dx : Addr} {ws : List V} {Q : VK} (hs : slotted c = true) (dm : Dom S H) (hx : H xa = none) (hdx : H dx = none) (ne : dx ≠ xa) (r : RepL K S H ws ds) (hn : ds.length = n)
    (q : ∀ v H', Same H H' → Rep K S H' v (.obj c ds) → Q v H') : spSl K c n (.ref xa :: ws) (upd (upd H dx (.own xa)) xa (.ins (He.ga K c) dx [])) (fun v H2 => v = .non ∧ Q (.ref xa) H2) E := by
  refine ⟨xa, dx, ws, rfl, r.length.trans hn, ne, upd_same, rfl, ?_⟩
  have sm : Same H (SlX.slH (upd (upd H dx (.own xa)) xa (.ins (He.ga K c) dx [])) xa (He.ga K c) dx (stS (ordS c) ws [])) := fun b' o h => by
    have n1 : b' ≠ xa := fun z => by rw [z, hx] at h; cases h
    have n2 : b' ≠ dx := fun z => by rw [z, hdx] at h; cases h
    rw [SlX.slH_ne n1 n2, upd_ne n1, upd_ne n2]
    exact h
  have nS : ∀ y, H y = none → ¬ S y := fun y hy z => by
    obtain ⟨o, h⟩ := dm y z
    rw [hy] at h; cases h
  refine q _ _ sm (.obj ⟨nS xa hx, dx, .inl ⟨hs, nS dx hdx, upd_same, ?_⟩⟩ (r.mono sm))
  unfold SlX.slH
  rw [upd_ne ne]
  exact upd_same
theorem de_makeS {fi : Addr} {fd : FuncData} {ps : List Str} {n : Nat} (hs : slotted c = true) (M : Mk X.K (He.ga X.K c) fi) (Fn : FnOk X.prog X.w X.K X.mg X.base (L2.CX X.prog X.w) k fi fd ps (spSl X.K c n)) (hb : Binds X.K fd ps []) (hr : Room (k + 1) X.A) (hx : PsA (L2.CX X.prog X.w) X Eσ) (hg : Gl X x) (hm : X.mg x = some (.ref (He.ga X.K c)))
    (ha : DA X Eσ (b :: es) fl) (hdb : (x == ("__debug__" : Str)) = false := by decide) (he : starEach (b :: es) X.env = (false, eval b X.env) :: starEach es X.env := by rfl) (hpl : (backTo pos (starEach es X.env)).any (·.1) = false := by rfl) :
    DE X Eσ (.Call (.Name x p) (b :: es) [] pos) (fMakeS c n fl) := by
  refine PE.imp (pe_make (E := E0) M Fn hr hg hm hb .nil passL ha.pa hdb he hpl) fun σ H Q hq => ?_
  obtain ⟨S, δ, st, q⟩ := hq
  refine ⟨S, δ, st, ?_⟩
  have q1 := Res.on (show Res X.K S H (Eσ σ) ((fl δ).bind fun ds => if ds.length = n then R.ok (D.obj c ds) else .bad) _ from q)
  cases r : fl δ with
  | bad => rw [r] at q1; exact q1.elim
  | exc n xs => rw [r] at q1; exact q1
  | ok ds =>
    rw [r] at q1
    have q1 : Res X.K S H (Eσ σ) (if ds.length = n then R.ok (D.obj c ds) else .bad) (fun d => ∀ v H', Same H H' → Rep X.K S H' v d → Q v H') := q1
    by_cases cl : ds.length = n
    · rw [if_pos cl] at q1
      intro vs H1 e1 r1 xa dxa h1 h2 h3
      rw [List.append_nil]
      exact makeS_end hs (st.mono e1).here h1 h2 h3 r1 cl fun v H' e' r' => q1 v H' (e1.trans e') r'
    · rw [if_neg cl] at q1; exact q1.elim
/-! C(k = e, ..) -/
structure DK (X : Cx) (E : Sg → XK) (kws : List Keyword) (f : FL) : Prop where
  pk : PK X kws (tDL X.K E f)
  len : ∀ δ ds, f δ = .ok ds → ds.length = kws.length
theorem PK.imp {kws : List Keyword} {t t' : TA} (h : PK X kws t) (j : ∀ σ H Q, t' σ H Q → t σ H Q) : PK X kws t' := ⟨fun pos pins s σ H Q I q => h.run pos pins s σ H Q I (j σ H Q q)⟩
theorem dk_nil : DK X Eσ [] fNil := by
  refine ⟨PK.imp pk_nil fun σ H Q h => ?_, fun δ ds h => by cases h; rfl⟩
  obtain ⟨S, δ, st, q⟩ := h
  exact q [] H (Same.refl _) .nil
theorem dk_cons {nm : Option Str} {kpos : Pos} {f : FE} {kws : List Keyword} (ha : DE X Eσ b f) (hr : DK X Eσ kws fl) : DK X Eσ (⟨nm, b, kpos⟩ :: kws) (fCons f fl) := by
  refine ⟨PK.imp (pk_cons ha hr.pk) fun σ H Q h => ?_, fun δ ds h => ?_⟩
  · obtain ⟨S, δ, st, q⟩ := h
    refine ⟨S, δ, st, (Res.on (show Res X.K S H (Eσ σ) ((f δ).bind fun d => (fl δ).bind fun ds => R.ok (d :: ds)) _ from q)).imp fun d q2 v H1 e1 r1 => ?_⟩
    refine ⟨S, δ, st.mono e1, (Res.on q2).mono e1 |>.imp fun ds q3 vs H2 e2 r2 => ?_⟩
    exact q3 (v :: vs) H2 (e1.trans e2) (.cons (r1.mono e2) r2)
  · unfold fCons at h
    cases q : f δ with
    | ok d =>
      rw [q, R.bind_ok] at h
      cases q2 : fl δ with
      | ok es' =>
        rw [q2, R.bind_ok] at h
        cases h
        exact congrArg Nat.succ (hr.len _ _ q2)
      | exc n xs => rw [q2] at h; cases h
      | bad => rw [q2] at h; cases h
    | exc n xs => rw [q] at h; cases h
    | bad => rw [q] at h; cases h
def rMakeSK (c : Str) (n : Nat) (gD : List D → List D) (ds : List D) : R D := if (gD ds).length = n then .ok (.obj c (gD ds)) else .bad
def fMakeSK (c : Str) (n : Nat) (gD : List D → List D) (fl : FL) : FE := fun δ => (fl δ).bind (rMakeSK c n gD)
/-- how the values of the keywords and the defaults are put together -/
def Puts (gV : List V → List V → List V) (gD : List D → List D) (m : Nat) : Prop := ∀ (K : PySem.W.Frag) (S : Addr → Prop) (H : Hp) (zs : List V) (ds : List D) (v : V), RepL K S H zs ds → ds.length = m → ∃ ws, gV [v] zs = v :: ws ∧ RepL K S H ws (gD ds)
theorem de_makeSK {fi : Addr} {fd : FuncData} {ps ks : List Str} {n : Nat} {kws : List Keyword} {g : List Value → List Value → List Value} {gV : List V → List V → List V} {gD : List D → List D} (hs : slotted c = true) (M : Mk X.K (He.ga X.K c) fi)
    (Fn : FnOk X.prog X.w X.K X.mg X.base (L2.CX X.prog X.w) k fi fd ps (spSl X.K c n)) (hb : KBn X.K fd ps 1 ks g gV) (hp : Puts gV gD kws.length) (hkl : kws.length = ks.length) (hr : Room (k + 1) X.A) (hx : PsA (L2.CX X.prog X.w) X Eσ) (hg : Gl X x) (hm : X.mg x = some (.ref (He.ga X.K c))) (hkw : DK X Eσ kws fl)
    (hall : (backToKw pos (keywordEach kws X.env)).all (·.1.isSome) = true := by rfl) (hks : (backToKw pos (keywordEach kws X.env)).filterMap (·.1) = ks := by rfl) (hdb : (x == ("__debug__" : Str)) = false := by decide)
    (hpl : ((backTo pos (starEach [] X.env)).any (·.1) || (backToKw pos (keywordEach kws X.env)).any (·.1.isNone)) = false := by rfl) :
    DE X Eσ (.Call (.Name x p) [] kws pos) (fMakeSK c n gD fl) := by
  refine PE.imp (pe_makeK0 (E := E0) M Fn hr hg hm hb passL hkw.pk hall hks hdb hpl) fun σ H Q hq => ?_
  obtain ⟨S, δ, st, q⟩ := hq
  refine ⟨S, δ, st, ?_⟩
  have q1 := Res.on (show Res X.K S H (Eσ σ) ((fl δ).bind (rMakeSK c n gD)) _ from q)
  cases r : fl δ with
  | bad => rw [r] at q1; exact q1.elim
  | exc n xs => rw [r] at q1; exact q1
  | ok ds =>
    rw [r] at q1
    have q1 : Res X.K S H (Eσ σ) (rMakeSK c n gD ds) (fun d => ∀ v H', Same H H' → Rep X.K S H' v d → Q v H') := q1
    unfold rMakeSK at q1
    have lds := hkw.len δ ds r
    by_cases cl : (gD ds).length = n
    · rw [if_pos cl] at q1
      intro zs H1 e1 r1
      refine ⟨rfl, r1.length.trans (lds.trans hkl), fun xa dxa h1 h2 h3 => ?_⟩
      obtain ⟨ws, w1, w2⟩ := hp X.K S H1 zs ds (.ref xa) r1 lds
      rw [w1]
      exact makeS_end hs (st.mono e1).here h1 h2 h3 w2 cl fun v H' e' r' => q1 v H' (e1.trans e') r'
    · rw [if_neg cl] at q1; exact q1.elim
/-! the keyword parameters: those that are written (true), the others by their defaults (ints) -/
def mrg {α : Type} : List Bool → List α → List α → List α
  | true :: m, ys, z :: zs => z :: mrg m ys zs
  | false :: m, y :: ys, zs => y :: mrg m ys zs
  | _, _, _ => []
theorem mrg_vals : ∀ (m : List Bool) {mz zs : List V} {mv ws : List Value}, Vals mz mv → Vals zs ws → Vals (mrg m mz zs) (mrg m mv ws)
  | [], _, _, _, _, _, _ => by unfold mrg; exact .nil
  | true :: m, _, _, _, _, _, .nil => by unfold mrg; exact .nil
  | true :: m, _, _, _, _, h, .cons r k => by unfold mrg; exact .cons r (mrg_vals m h k)
  | false :: m, _, _, _, _, .nil, _ => by unfold mrg; exact .nil
  | false :: m, _, _, _, _, .cons r h, k => by unfold mrg; exact .cons r (mrg_vals m h k)
theorem mrg_rep {K : PySem.W.Frag} {S : Addr → Prop} {H : Hp} : ∀ (m : List Bool) {ms zs : List V} {md ds : List D}, RepL K S H ms md → RepL K S H zs ds → RepL K S H (mrg m ms zs) (mrg m md ds)
  | [], _, _, _, _, _, _ => by unfold mrg; exact .nil
  | true :: m, _, _, _, _, _, .nil => by unfold mrg; exact .nil
  | true :: m, _, _, _, _, h, .cons r k => by unfold mrg; exact .cons r (mrg_rep m h k)
  | false :: m, _, _, _, _, .nil, _ => by unfold mrg; exact .nil
  | false :: m, _, _, _, _, .cons r h, k => by unfold mrg; exact .cons r (mrg_rep m h k)
theorem repL_ints {K : PySem.W.Frag} {S : Addr → Prop} {H : Hp} : ∀ is : List Int, RepL K S H (is.map V.int) (is.map D.int)
  | [] => .nil
  | i :: is => .cons (.int i) (repL_ints is)
def gMrg (m : List Bool) (is : List Int) : List D → List D := fun zs => mrg m (is.map .int) zs
theorem mrg_puts (m : List Bool) (is : List Int) (n : Nat) : Puts (fun vs zs => vs ++ mrg m (is.map V.int) zs) (gMrg m is) n := fun K S H zs ds v r hl =>
  ⟨mrg m (is.map V.int) zs, rfl, mrg_rep m (repL_ints is) r⟩
end
end DL

/-! DOwn: isinstance of own classes; operators that are own defs. -/
namespace DL
open PySem PySem.Spec PyProof.Rows L2
/-- what is known of a class c: slots or none -/
def ClsAny (K : PySem.W.Frag) (c : Str) : Prop := (slotted c = false ∧ Cls K (He.ga K c)) ∨ (slotted c = true ∧ SlX.SCls K (He.ga K c))
/-- an instance off the heap -/
theorem obj_inst {X : Cx} {pins : List (Addr × Obj)} {σ : L2.St} {H : Hp} {s : Shared} {S : Addr → Prop} {v : V} {c : Str} {xs : List D} (I : Inv X pins σ H s) (r : Rep X.K S H v (.obj c xs)) : ∃ a ox od, v = .ref a ∧ PySem.W.InstAt s.heap a ox (He.ga X.K c) (some od) := by
  cases e : slotted c with
  | true =>
    obtain ⟨a, dx, vs, rfl, h, _⟩ := r.objS e
    obtain ⟨sl, od, _, J, _⟩ := SlX.slt_inst I h
    exact ⟨a, _, od, rfl, J⟩
  | false =>
    obtain ⟨a, dx, vs, rfl, _, h, _⟩ := r.objI e
    obtain ⟨mA, O, _⟩ := ins_get I.hok h
    obtain ⟨od, J, _⟩ := O.look
    exact ⟨a, _, od, rfl, J⟩
/-! ### isinstance -/
def tyF (d : D) : Option D := if d.tyN.isSome = true then some (.bl false) else none
theorem tyF_some {d z : D} (h : tyF d = some z) : d.tyN.isSome = true ∧ z = .bl false := by
  unfold tyF at h
  by_cases e : d.tyN.isSome = true
  · rw [if_pos e] at h
    cases h
    exact ⟨e, rfl⟩
  · rw [if_neg e] at h; cases h
def dIsC (c : Str) (d : D) : Option D := match d with
  | .obj c' _ => if c' = c then some (.bl true) else none
  | d => tyF d
section
variable {X : Cx} {E : XK} {Eσ : Sg → XK} {k : Nat} {pos p p2 : Pos} {a b : Expr} {f g : FE} {c : Str}
theorem kit_self {K : PySem.W.Frag} {t : Value} : PySem.W.kitOne K t t = some true := by
  unfold PySem.W.kitOne
  rw [if_pos (beq_self_eq_true t)]
def noneOf (K : PySem.W.Frag) (C : Addr) : Bool := (["NoneType", "bool", "int", "str", "list", "tuple"] : List String).all fun t => decide (PySem.W.kitOne K (.type t) (.ref C) = some false)
theorem isC_at {pins : List (Addr × Obj)} {σ : L2.St} {H : Hp} {s : Shared} {us : List Value} {xs : List V} {Q : VK} {S : Addr → Prop} {v : V} {d z : D} (Ca : ClsAny X.K c) (Si : SlX.SIsi X.K (He.ga X.K c)) (hn : noneOf X.K (He.ga X.K c) = true)
    (I : Inv X pins σ H s) (ex : xs = [v, .ref (He.ga X.K c)]) (r : Vals xs us) (rv : Rep X.K S H v d) (hz : dIsC c d = some z) (q : ∀ b, z = .bl b → Q (.bl b) H) :
    wpAny (model X.prog X.w) X.A (call (.builtin "isinstance") us) (EP X pins σ Q) X.xe s := by
  subst ex
  by_cases ho : ∃ xs, d = .obj c xs
  · obtain ⟨xs, rfl⟩ := ho
    have ez : z = .bl true := by
      have : some (D.bl true) = some z := by rw [← hz]; exact (if_pos rfl).symm
      cases this; rfl
    rcases Ca with ⟨hs, C⟩ | ⟨hs, C⟩
    · obtain ⟨a, dx, vs, rfl, _, h, _⟩ := rv.objI hs
      exact call_isi pins s σ H _ us Q I r ⟨_, _, _, _, true, rfl, .own _, .base (.ins h C Si.ca Si.cn Si.ct Si.cm), kit_self, q _ ez⟩
    · obtain ⟨a, dx, vs, rfl, h, _⟩ := rv.objS hs
      exact SlX.call_isiSl (.ref (He.ga X.K c)) pins s σ H _ us Q I r ⟨a, _, dx, _, _, true, rfl, rfl, fun w e => e, h, C, Si, kit_self, q _ ez⟩
  · have hd : d.tyN.isSome = true ∧ z = .bl false := by
      cases d with
      | obj c' xs =>
        exfalso
        have hz' : (if c' = c then some (D.bl true) else none) = some z := hz
        by_cases e : c' = c
        · exact ho ⟨xs, by rw [e]⟩
        · rw [if_neg e] at hz'; cases hz'
      | _ => exact tyF_some hz
    obtain ⟨ht, ez⟩ := hd
    obtain ⟨t, et⟩ := Option.isSome_iff_exists.mp ht
    obtain ⟨w1, w2⟩ := rv.tyX et
    have hk : PySem.W.kitOne X.K (.type t) (.ref (He.ga X.K c)) = some false := by
      refine of_decide_eq_true (List.all_eq_true.mp hn t ?_)
      rcases w2 with rfl | rfl | rfl | rfl | rfl | rfl <;> simp
    exact call_isi pins s σ H _ us Q I r ⟨_, _, _, _, false, rfl, .own _, w1, hk, q _ ez⟩
theorem cd_isC (Ca : ClsAny X.K c) (Si : SlX.SIsi X.K (He.ga X.K c)) (hn : noneOf X.K (He.ga X.K c) = true) : CallR X (.builtin "isinstance") fun xs H Q => ∃ S v d z, xs = [v, .ref (He.ga X.K c)] ∧ Rep X.K S H v d ∧ dIsC c d = some z ∧ ∀ b, z = .bl b → Q (.bl b) H := by
  intro pins s σ H xs us Q I r h
  obtain ⟨S, v, d, z, ex, rv, hz, q⟩ := h
  exact isC_at Ca Si hn I ex r rv hz q
theorem de_isC (Ca : ClsAny X.K c) (Si : SlX.SIsi X.K (He.ga X.K c)) (hn : noneOf X.K (He.ga X.K c) = true) (hg : Gl X "isinstance") (hm : X.mg "isinstance" = none) (hgT : Gl X c) (hmT : X.mg c = some (.ref (He.ga X.K c))) (ha : DE X Eσ a f) (hd : (c == ("__debug__" : Str)) = false := by decide)
    (hs2 : starEach [.Name c p2] X.env = (false, eval (.Name c p2) X.env) :: starEach [] X.env := by rfl) (hs1 : starEach [a, .Name c p2] X.env = (false, eval a X.env) :: starEach [.Name c p2] X.env := by rfl)
    (hpl : (backTo pos (starEach [.Name c p2] X.env)).any (·.1) = false := by rfl) : DE X Eσ (.Call (.Name "isinstance" p) [a, .Name c p2] [] pos) (fU (dIsC c) f) := by
  refine PE.imp (pe_callB (cd_isC Ca Si hn) hg hm PyProof.Rows.boot_isinstance (pa_cons ha (pa_cons (pe_glob (v := .ref (He.ga X.K c)) hgT hmT rfl hd) pa_nil hs2) hs1) (by decide) (by decide) hs1 hpl) fun σ H Q h => ?_
  obtain ⟨S, δ, st, q⟩ := h
  refine ⟨S, δ, st, (Res.on q).imp fun d q1 v H1 e1 r1 => ?_⟩
  obtain ⟨z, hz, q2⟩ := Res.of q1
  exact ⟨S, v, d, z, rfl, r1, hz, fun b e => q2 _ H1 e1 (by rw [e]; exact .bl b)⟩
/-! ### a op b by an own def -/
def rBin (c : Str) (G : List D → R D) (x y : D) : R D := if isOb c x && isOb c y then G [x, y] else .bad
def fBin (c : Str) (G : List D → R D) (f g : FE) : FE := fun δ => (f δ).bind fun x => (g δ).bind fun y => rBin c G x y
theorem op_bin {op : Operator} {fa : Addr} {G : List D → R D} (h1 : PySem.W.selfFirst X.K (He.ga X.K c) = true) (hm : PySem.W.findIn X.K (.ref (He.ga X.K c)) (PySem.dunder op.info.2) = some (some (.ref fa))) (hf : PySem.W.isFn X.K (.ref fa) = true)
    (Fn : FnG X.prog X.w X.K X.mg X.base k fa 2 G) (B : Bd X Eσ k) {pins : List (Addr × Obj)} {s : Shared} {σ : Sg} {H : Hp} {x y : V} {v u : Value} {Q : VK} (I : Inv X pins σ H s) (rx : RelV x v) (ry : RelV y u)
    (h : ∃ S d e, Dom S H ∧ Rep X.K S H x d ∧ Rep X.K S H y e ∧ Res X.K S H (Eσ σ) (rBin c G d e) fun z => Giv X.K S H z Q) : wpAny (model X.prog X.w) X.A (binaryOp op v u) (EP X pins σ Q) X.xe s := by
  obtain ⟨S, d, e, dm, r1, r2, q⟩ := h
  unfold rBin at q
  by_cases cl : (isOb c d && isOb c e) = true
  · rw [if_pos cl] at q
    obtain ⟨c1, c2⟩ := Bool.and_eq_true_iff.mp cl
    obtain ⟨xs, rfl⟩ := isOb_of c1
    obtain ⟨ys, rfl⟩ := isOb_of c2
    obtain ⟨a1, ox, od, rfl, J⟩ := obj_inst I r1
    obtain ⟨a2, ox2, od2, rfl, J2⟩ := obj_inst I r2
    cases (show v = Value.ref a1 from rx)
    cases (show u = Value.ref a2 from ry)
    obtain ⟨m, hF⟩ := I.fr
    refine PySem.W.binop_K hF I.ok.mod.kin J J2.type h1 hm hf ?_
    refine wpAny_mono (wpAny_call (run_at (us := [.ref a1, .ref a2]) (vs := [.ref a1, .ref a2]) (Q := Q) Fn B.room (B.pass σ) I (.cons rfl (.cons rfl .nil)) ⟨S, _, dm, .cons r1 (.cons r2 .nil), rfl, q⟩)) (fun w s' z => ?_) fun _ _ x => x
    obtain ⟨z', H', I', rz, qz⟩ := z
    exact SlX.cmpback rz ⟨z', H', I', rz, qz⟩
  · rw [if_neg cl] at q
    exact q.elim
theorem de_bin {op : Operator} {fa : Addr} {m : Str} {G : List D → R D} (h1 : PySem.W.selfFirst X.K (He.ga X.K c) = true) (hm : Meth X.K (He.ga X.K c) m fa) (Fn : FnG X.prog X.w X.K X.mg X.base k fa 2 G) (B : Bd X Eσ k)
    (ha : DE X Eσ a f) (hb : DE X Eσ b g) (he : (PySem.dunder op.info.2 : Str) = m := by rfl) : DE X Eσ (.BinOp a op b pos) (fBin c G f g) := by
  refine ⟨fun pins s σ H Q I h => wpAny_BinOp (binT ha hb I (?_ : tD X.K Eσ f σ H fun x H1 => tD X.K Eσ g σ H1 fun y H2 => ∃ S d e, Dom S H2 ∧ Rep X.K S H2 x d ∧ Rep X.K S H2 y e ∧ Res X.K S H2 (Eσ σ) (rBin c G d e) fun z => Giv X.K S H2 z Q)
    fun v u s2 x y H2 I2 rx ry q => op_bin (c := c) (op := op) h1 (by rw [he]; exact hm.at_) hm.fn Fn B I2 rx ry q)⟩
  obtain ⟨S, δ, st, q⟩ := h
  refine ⟨S, δ, st, (Res.on q).imp fun d q1 v H1 e1 r1 => ?_⟩
  refine ⟨S, δ, st.mono e1, ((Res.on q1).mono e1).imp fun e q2 u H2 e2 r2 => ?_⟩
  exact ⟨S, d, e, ((st.mono e1).mono e2).here, r1.mono e2, r2, (q2.mono (e1.trans e2)).imp fun z q3 w H3 e3 r3 => q3 w H3 (e1.trans (e2.trans e3)) r3⟩
end
end DL

/-! DStep: range and slices with a step. -/
namespace DL
open PySem PySem.Spec PyProof.Rows L2
/-- xs[lo:hi:st] -/
def stIx (n : Nat) (lo hi st : Option Int) : List Nat := sliceRange (PySem.sliceBounds lo hi st n).1 (PySem.sliceBounds lo hi st n).2.1 (PySem.sliceBounds lo hi st n).2.2
def pickG {α : Type} (xs : List α) (lo hi st : Option Int) : List α := (stIx xs.length lo hi st).filterMap (xs[·]?)
theorem RepL.pick {K : PySem.W.Frag} {S : Addr → Prop} {H : Hp} {vs : List V} {ds : List D} (r : RepL K S H vs ds) : ∀ is : List Nat, RepL K S H (is.filterMap (vs[·]?)) (is.filterMap (ds[·]?))
  | [] => .nil
  | i :: is => by
    cases e : ds[i]? with
    | some d =>
      obtain ⟨v, h1, h2⟩ := r.get e
      rw [List.filterMap_cons_some h1, List.filterMap_cons_some e]
      exact .cons h2 (RepL.pick r is)
    | none =>
      have h1 : vs[i]? = none := List.getElem?_eq_none (by rw [r.length]; exact List.getElem?_eq_none_iff.mp e)
      rw [List.filterMap_cons_none h1, List.filterMap_cons_none e]
      exact RepL.pick r is
theorem vals_get {xs : List V} {us : List Value} (r : Vals xs us) : ∀ i : Nat, (∃ x u, xs[i]? = some x ∧ us[i]? = some u ∧ RelV x u) ∨ (xs[i]? = none ∧ us[i]? = none) := by
  induction r with
  | nil => intro i; exact .inr ⟨by simp, by simp⟩
  | cons h r ih =>
    intro i
    cases i with
    | zero => exact .inl ⟨_, _, rfl, rfl, h⟩
    | succ i => simpa using ih i
theorem vals_pick {xs : List V} {us : List Value} (r : Vals xs us) : ∀ is : List Nat, Vals (is.filterMap (xs[·]?)) (is.filterMap (us[·]?))
  | [] => .nil
  | i :: is => by
    rcases vals_get r i with ⟨x, u, h1, h2, h3⟩ | ⟨h1, h2⟩
    · rw [List.filterMap_cons_some h1, List.filterMap_cons_some h2]
      exact .cons h3 (vals_pick r is)
    · rw [List.filterMap_cons_none h1, List.filterMap_cons_none h2]
      exact vals_pick r is
section
variable {X : Cx} {E : XK} {Eσ : Sg → XK} {pos p p2 : Pos} {a b c e : Expr} {f g : FE} {fl : FL} {tg : Expr}
def tSlS (K : PySem.W.Frag) (te : TE) (tl th ts : TO) : TE := fun σ H Q => te σ H fun x H1 => tl σ H1 fun lo H2 => th σ H2 fun hi H3 => ts σ H3 fun o H4 => ∃ a xs c, x = .ref a ∧ SqL K H4 a xs ∧ o = some c ∧ c ≠ 0 ∧ ∀ p, H4 p = none → Q (.ref p) (upd H4 p (.lst (pickG xs lo hi (some c))))
theorem pe_sliceS {lo hi : Option Expr} {te : TE} {tl th ts : TO} (he : PE X e te) (hl : PO X lo tl) (hh : PO X hi th) (hst : PO X (some c) ts) : PE X (.Subscript e (.Slice lo hi (some c) p) pos) (tSlS X.K te tl th ts) := by
  refine ⟨fun pins s σ H Q I h => ?_⟩
  refine Subscript_ (thn (he.run pins s σ H _ I h) fun v s1 ⟨x, H1, I1, r1, q1⟩ => ?_)
  refine wpAny_Slice (thn (hl.run pins s1 σ H1 _ I1 q1) fun vl s2 ⟨l, H2, I2, pl, q2⟩ => ?_)
  refine thn (hh.run pins s2 σ H2 _ I2 q2) fun vu s3 ⟨u, H3, I3, pu, q3⟩ => ?_
  refine thn (hst.run pins s3 σ H3 _ I3 q3) fun vs s4 ⟨o, H4, I4, ps, q4⟩ => ?_
  obtain ⟨a, xs, k, ex, hx, eo, nz, q⟩ := q4
  subst ex eo
  cases r1
  have I5 : Inv X pins σ H4 { s4 with heap := s4.heap.push { cls := .type "slice", data := .fields #[vl, vu, vs] } } := I4.kept (t' := s4.toks) fun b ob q => Heap.get?_push_of_some _ q
  obtain ⟨its, r, ht, hz⟩ := I5.list hx
  have hlen := r.length
  show wpAny (model X.prog X.w) X.A (subscriptTail e (.Slice lo hi (some c) p) (.ref a) (.ref s4.heap.objs.size)) (EP X pins σ Q) X.xe { s4 with heap := s4.heap.push { cls := .type "slice", data := .fields #[vl, vu, vs] } }
  refine tail_any (ops := [.ref a, .ref s4.heap.objs.size]) ht.isList.typeIs (PySem.slot_list_getitem.lookup) ?_ (by with_unfolding_all rfl)
  refine wpAny_getItem_list_slice ht.isList (Heap.IsSliceOf.new _ vl vu vs) pl pu ps (fun z => nz (Option.some.inj z)) ?_ (by rw [List.size_toArray]; omega)
  have ep : PySem.slicePick its.toArray l u (some k) = ((stIx xs.length l u (some k)).filterMap (its[·]?)).toArray := by
    unfold PySem.slicePick stIx
    rw [List.size_toArray, hlen]
    simp
  have hle := PySem.slicePick_size_le its.toArray l u (some k)
  rw [ep] at hle ⊢
  refine ⟨.ref _, _, I5.laid (t' := s4.toks) (o := .lst (pickG xs l u (some k))) (fun b ob q => Heap.get?_push_of_some _ q) (Nat.le_refl _) ?_, rfl, q _ (I5.hok.fresh (Nat.le_refl _))⟩
  have rv := vals_pick r (stIx xs.length l u (some k))
  refine ⟨?_, _, 0, rv, Heap.get?_push_size _ rfl⟩
  have l1 : (pickG xs l u (some k)).length = ((stIx xs.length l u (some k)).filterMap (its[·]?)).length := rv.length
  rw [l1]
  simp only [List.size_toArray] at hle
  omega
def dPick : D → Option Int → Option Int → D → Option D
  | .lst xs, lo, hi, .int c => if c = 0 then none else some (.lst (pickG xs lo hi (some c)))
  | _, _, _, _ => none
def fSlS (f : FE) (l h : FO) (g : FE) : FE := fun δ => (f δ).bind fun d => (l δ).bind fun lo => (h δ).bind fun hi => (g δ).bind fun c => R.of (dPick d lo hi c)
theorem de_sliceS {lo hi : Option Expr} {l h : FO} (ha : DE X Eσ a f) (hl : DO X Eσ lo l) (hh : DO X Eσ hi h) (hc : DE X Eσ c g) : DE X Eσ (.Subscript a (.Slice lo hi (some c) p) pos) (fSlS f l h g) := by
  refine PE.imp (pe_sliceS ha hl hh (do_some hc)) fun σ H Q hq => ?_
  obtain ⟨S, δ, st, q⟩ := hq
  refine ⟨S, δ, st, (Res.on q).imp fun d q1 v H1 e1 r1 => ?_⟩
  refine ⟨S, δ, st.mono e1, ((Res.on q1).mono e1).imp fun lo' q2 H2 e2 => ?_⟩
  refine ⟨S, δ, (st.mono e1).mono e2, ((Res.on q2).mono (e1.trans e2)).imp fun hi' q3 H3 e3 => ?_⟩
  refine ⟨S, δ, ((st.mono e1).mono e2).mono e3, ?_⟩
  have q4 := (Res.on q3).mono ((e1.trans e2).trans e3)
  unfold fSome
  cases eg : g δ with
  | bad => rw [eg] at q4; exact q4.elim
  | exc n xs => rw [eg] at q4; exact q4
  | ok cd =>
    rw [eg] at q4
    obtain ⟨z, hz, q5⟩ := Res.of q4
    cases d <;> cases cd <;> simp only [dPick, Option.ite_none_left_eq_some, Option.some.injEq, reduceCtorEq] at hz
    rename_i xs i
    obtain ⟨nz, rfl⟩ := hz
    intro H4 e4
    obtain ⟨la, vs, ev, hv, rv⟩ := r1.lstH
    have em := (e2.trans e3).trans e4
    refine ⟨la, vs, i, ev, SqL.of (em _ _ hv), rfl, nz, fun p hp => ?_⟩
    have dm := ((((st.mono e1).mono e2).mono e3).mono e4).here
    refine Giv.lst (Q := Q) (S := S) (fun w H5 e5 r5 => q5 w H5 (e1.trans (em.trans e5)) r5) dm ?_ p hp
    unfold pickG
    rw [rv.length]
    exact (rv.mono em).pick _
/-! ### range with a step -/
def dInt3 (lo c : Int) (n : Nat) : List D := (List.range n).map fun i : Nat => .int (lo + i * c)
theorem itOk_c {K : PySem.W.Frag} {S : Addr → Prop} {H : Hp} {lo c : Int} {n : Nat} : ItOk K S H (Itc lo c n) (dInt3 lo c n) := fun S' H' ev dm i => by
  have hl : (dInt3 lo c n).length = n := by simp [dInt3]
  rw [hl]
  refine ⟨fun hi => ⟨hi, fun x H2 y => ?_⟩, fun hi => hi⟩
  obtain ⟨rfl, rfl⟩ := y
  exact ⟨Same.refl _, .int (lo + i * c), by simp [dInt3, hi], .int _⟩
def rg3Ok (i j c : Int) : Bool := decide (c ≠ 0) && (decide (c.natAbs < 1073741824) && Builtin.Range.small i j c)
def dRange3 : List D → Option (List D)
  | [.int i, .int j, .int c] => if rg3Ok i j c = true then some (dInt3 i c (Builtin.Range.rangeSize i j c).toNat) else none
  | _ => none
def fRange3 (fl : FL) : FL := fun δ => (fl δ).bind fun ds => R.of (dRange3 ds)
theorem range_nn (i j c : Int) (hc : c ≠ 0) : 0 ≤ Builtin.Range.rangeSize i j c := by
  unfold Builtin.Range.rangeSize
  split
  · split
    · have := Int.ediv_nonneg (a := j - i - 1) (b := c) (by omega) (by omega); omega
    · exact Int.le_refl _
  · split
    · have := Int.ediv_nonneg (a := i - j - 1) (b := -c) (by omega) (by omega); omega
    · exact Int.le_refl _
theorem di_range3 {p : Pos} (hg : Gl X "range") (hm : X.mg "range" = none) (ha : DA X Eσ [a, b, c] fl) (hs : starEach [a, b, c] X.env = (false, eval a X.env) :: starEach [b, c] X.env := by rfl) (hpl : (backTo pos (starEach [b, c] X.env)).any (·.1) = false := by rfl) :
    DI X Eσ tg (.Call (.Name "range" p) [a, b, c] [] pos) (fRange3 fl) := by
  refine PI.imp (pi_range3 hg hm ha.pa hs hpl) fun σ H R h => ?_
  obtain ⟨S, δ, st, q⟩ := h
  refine ⟨S, δ, st, ?_⟩
  have q' := Res.on q
  cases r : fl δ with
  | bad => rw [r] at q'; exact q'.elim
  | exc n xs => rw [r] at q'; exact q'
  | ok ds =>
    rw [r] at q'
    intro vs H' e' rl
    obtain ⟨es, h1, h2⟩ := Res.of q'
    unfold dRange3 at h1
    split at h1
    · rename_i i j k
      by_cases cl : rg3Ok i j k = true
      · rw [if_pos cl] at h1
        cases h1
        obtain ⟨c1, c23⟩ := Bool.and_eq_true_iff.mp cl
        obtain ⟨c2, c3⟩ := Bool.and_eq_true_iff.mp c23
        obtain ⟨v1, v2, v3, rfl, r1, r2, r3⟩ := vl3 rl
        have nn := range_nn i j k (of_decide_eq_true c1)
        refine ⟨i, j, k, (Builtin.Range.rangeSize i j k).toNat, by rw [r1.intE, r2.intE, r3.intE], ⟨of_decide_eq_true c1, of_decide_eq_true c2, c3, by omega⟩, h2 _ H' e' itOk_c⟩
      · rw [if_neg cl] at h1; cases h1
    · cases h1
end
end DL

/-! DDict: own dicts; tests with effects. -/
namespace DL
open PySem PySem.Spec PyProof.Rows L2
section
variable {X : Cx} {e0 : Ent} {E : XK} {Eσ : Sg → XK} {k j : Nat} {pos p p2 apos cpos : Pos} {x : Str} {st : Stmt} {rest : List Stmt} {F G : FS} {a b c o : Expr} {f g : FE} {fx fy : FX} {es : List Expr} {fl : FL} {i : Nat}
/-! ### {} -/
def fDic0 : FE := fun _ => .ok (.dic [] [])
theorem de_dic0 : DE X Eσ (.Dict [] [] pos) fDic0 := by
  refine PE.imp pe_dnewK fun σ H Q h => ?_
  obtain ⟨S, δ, st, q⟩ := h
  intro p hp
  refine q (.ref p) _ (same_new hp _) (.dic (ks := []) upd_same ?_ rfl .nil .nil)
  intro z
  obtain ⟨o, h⟩ := st.here p z
  rw [hp] at h; cases h
def fNewD (i : Nat) : FS := fun δ => .nx (δ.set i (.od [] []))
theorem ds_newD {pos' : Pos} (hN : X.N.Nodup) (hi : X.N[i]? = some x) (hx : Loc X.env.scope x) (hs : swapsWith (.Dict [] [] p) (some (.Name x pos')) pos.line X.env = pure false := by rfl)
    (hf : X.fn x = true ∨ X.env.scope.names.lookup x = some .local := by first | exact .inl rfl | exact .inr rfl | assumption) : DSt1 X e0 E (.Assign [.Name x pos'] (.Dict [] [] p) pos) (fNewD i) := by
  refine PS.imp (ps_set hN hi hx pe_dnewK hs hf) fun D σ H hq => ?_
  obtain ⟨S, δ, s, q⟩ := hq
  intro p hp
  obtain ⟨s2, e2⟩ := s.newT i (t0 := .od [] []) hp (same_new hp _) upd_same rfl (fun _ _ z => by cases z) ⟨p, [], rfl, upd_same, .inr rfl, rfl, .nil, .nil⟩
  exact q _ _ _ s2 e2
/-! ### d.setdefault(k, v), d the own dict at slot i -/
def fOd (i : Nat) (δ : DSt) : R (List Ky × List D) := match δ[i]? with
  | some (.od ks xs) => .ok (ks, xs)
  | _ => .bad
theorem fOd_at {δ : DSt} {r : List Ky × List D} (h : fOd i δ = .ok r) : δ[i]? = some (.od r.1 r.2) := by
  unfold fOd at h
  split at h
  · rename_i ks xs e
    cases h
    exact e
  · cases h
theorem fOd_ne {δ : DSt} {n : Str} {xs : List D} (h : fOd i δ = .exc n xs) : False := by
  unfold fOd at h
  split at h <;> cases h
def rSetk (i : Nat) (δ : DSt) (r : List Ky × List D) (v : D) (k : Ky) : R (D × DSt) := if okLt r.1.length = true then (match kGet r.1 r.2 k with
  | some d => .ok (d, δ)
  | none => .ok (v, δ.set i (.od (r.1 ++ [k]) (r.2 ++ [v])))) else .bad
def rSetd (i : Nat) (δ : DSt) (r : List Ky × List D) (kd v : D) : R (D × DSt) := (R.of kd.key).bind (rSetk i δ r v)
def fSetd (i : Nat) (f g : FE) : FX := fun δ => (fOd i δ).bind fun r => (f δ).bind fun kd => (g δ).bind fun v => rSetd i δ r kd v
theorem putK_new {ks : List Ky} {vs : List V} {k : Ky} {v : V} (l : ks.length = vs.length) (h : valV (kvsOf ks vs) k = none) : putK (kvsOf ks vs) k v = kvsOf (ks ++ [k]) (vs ++ [v]) := by
  unfold putK
  have e : ¬ (((kvsOf ks vs).any fun kv => decide (kv.1 = k)) = true) := fun z => by
    obtain ⟨q, hq, hk⟩ := List.any_eq_true.mp z
    unfold valV at h
    have := List.find?_eq_none.mp (Option.map_eq_none_iff.mp h) q hq
    exact this hk
  rw [if_neg e]
  unfold kvsOf
  rw [List.zip_append l]
  rfl
theorem kIn_of_mem : ∀ {ks : List Ky} {k : Ky}, k ∈ ks → kIn k ks = true
  | x :: ks, k, h => by
    unfold kIn
    by_cases e : x = k
    · rw [if_pos e]
    · rw [if_neg e]
      rcases List.mem_cons.mp h with z | z
      · exact absurd z.symm e
      · exact kIn_of_mem z
theorem kGet_in : ∀ {ks : List Ky} {ds : List D} {k : Ky}, ks.length = ds.length → kGet ks ds k = none → kIn k ks = false
  | [], _, _, _, _ => rfl
  | _ :: _, [], _, l, _ => by cases l
  | x :: ks, d :: ds, k, l, h => by
    unfold kGet at h
    unfold kIn
    by_cases e : x = k
    · rw [if_pos e] at h; cases h
    · rw [if_neg e] at h ⊢
      exact kGet_in (Nat.succ.inj l) h
theorem dx_setd (hN : X.N[i]? = some x) (hv : Vis X.env.scope x) (hd : (x == ("__debug__" : Str)) = false) (hcd : (x == ("__classdict__" : Str)) = false) (hk : DE X (fun _ => E) a f) (he : DE X (fun _ => E) b g) (m : M2 X (.Name x p) "setdefault" apos a b cpos) :
    DX X e0 E (.Call (.Attribute (.Name x p) "setdefault" apos) [a, b] [] cpos) (fSetd i f g) := by
  refine PE.imp (pe_dsetd (pe_var hN hv hd hcd) hk he m) fun σ H Q hq => ?_
  obtain ⟨S, δ, s, q⟩ := hq
  unfold fSetd at q
  cases r : fOd i δ with
  | bad => rw [r] at q; exact q.elim
  | exc n xs => exact (fOd_ne r).elim
  | ok pr =>
    rw [r, R.bind_ok] at q
    have hd := fOd_at r
    obtain ⟨ov, w1, la, vs, rfl, h1, zS, l, nd, rl⟩ := s.st.slot i _ hd
    refine ⟨_, w1, la, rfl, .inl ⟨_, .inl h1⟩, ?_⟩
    refine ⟨S, δ, s.st, (ResX.of s q).imp fun kd q1 y H1 e1 r1 => ?_⟩
    refine ⟨S, δ, s.st.mono e1, ((ResX.of s q1).mono e1).imp fun vd q2 z H2 e2 r2 => ?_⟩
    unfold rSetd at q2
    cases ek : kd.key with
    | none => rw [ek] at q2; exact q2.elim
    | some ky =>
      rw [ek, R.of_some, R.bind_ok] at q2
      have em := e1.trans e2
      have h3 := em _ _ h1
      have ev2 : Ev S H S H2 := .same em
      have lz : vs.length = pr.2.length := rl.length
      unfold rSetk at q2
      by_cases cl : okLt pr.1.length = true
      · rw [if_pos cl] at q2
        refine ⟨_, ky, h3, (r1.mono e2).keyV ek, ?_, fun v hv => ?_, fun hv => ?_⟩
        · rw [List.length_zip, l, Nat.min_self, ← l]
          exact okLt_of cl
        · cases eg : kGet pr.1 pr.2 ky with
          | some d =>
            rw [eg] at q2
            obtain ⟨v', g1, g2⟩ := valV_get l rl eg
            rw [show valV (kvsOf pr.1 vs) ky = some v from hv] at g1
            cases g1
            exact q2 v H2 (s.mono em) ev2 (g2.ev ev2)
          | none =>
            rw [valV_no l lz eg] at hv
            cases hv
        · cases eg : kGet pr.1 pr.2 ky with
          | some d =>
            obtain ⟨v', g1, g2⟩ := valV_get l rl eg
            rw [show valV (kvsOf pr.1 vs) ky = none from hv] at g1
            cases g1
          | none =>
            rw [eg] at q2
            have nk : ky ∉ pr.1 := fun z => by
              have := kGet_in (l.trans lz) eg
              rw [kIn_of_mem z] at this
              cases this
            rw [putK_new l hv]
            have s2 := s.mono em
            have rs : RepL X.K S (upd H2 la (.dK (kvsOf (pr.1 ++ [ky]) (vs ++ [z])))) (vs ++ [z]) (pr.2 ++ [vd]) := by
              have e3 : Ev S H2 S (upd H2 la (.dK (kvsOf (pr.1 ++ [ky]) (vs ++ [z])))) := ⟨fun b o h n => by rw [upd_ne (fun z' => n (by rw [z']; exact zS))]; exact h, fun _ _ _ n => n⟩
              exact ((rl.ev ev2).ev e3).append (.cons (r2.ev e3) .nil)
            obtain ⟨s3, ev3⟩ := s2.chgT (i := i) (t := .od pr.1 pr.2) (t0 := .od (pr.1 ++ [ky]) (pr.2 ++ [vd])) hd rfl w1 keepM_upd upd_same rfl ⟨fun ⟨_, _, z⟩ => (by cases z), fun ⟨_, _, z⟩ => (by cases z)⟩
              ⟨la, vs ++ [z], rfl, upd_same, zS, by rw [List.length_append, List.length_append, l]; rfl, by
                rw [List.nodup_append]
                exact ⟨nd, List.nodup_cons.mpr ⟨List.not_mem_nil, List.nodup_nil⟩, fun a ha b hb => by
                  rw [List.mem_singleton.mp hb]
                  exact fun e => nk (e ▸ ha)⟩, rs⟩
            exact q2 z _ s3 (ev2.trans ev3) (r2.ev (Ev.mk (fun b o h n => by rw [upd_ne (fun z' => n (by rw [z']; exact zS))]; exact h) fun _ _ _ n => n))
      · rw [if_neg cl] at q2
        exact q2.elim
/-! ### d[k] = v, d the own dict at slot i -/
def rPutk (i : Nat) (δ : DSt) (r : List Ky × List D) (v : D) (k : Ky) : O := if okLt r.1.length = true then (match kGet r.1 r.2 k with
  | some _ => .nx (δ.set i (.od r.1 ((r.1.zip r.2).map fun q => if q.1 = k then v else q.2)))
  | none => .nx (δ.set i (.od (r.1 ++ [k]) (r.2 ++ [v])))) else .bad
def fPutD (i : Nat) (f g : FE) : FS := fun δ => O.on (g δ) fun v => O.on (fOd i δ) fun r => O.on (f δ) fun kd => O.on (R.of kd.key) fun k => rPutk i δ r v k
/-! ### tests with effects -/
abbrev FBX := DSt → R (Bool × DSt)
def tDBX (K : PySem.W.Frag) (M S0 : Addr → Prop) (H0 : Hp) (E : XK) (f : FBX) : TT := fun σ H Q => ∃ S δ, StS K M S0 H0 S σ H δ ∧ ResX K M S0 H0 E (f δ) fun b δ' => ∀ H', StS K M S0 H0 S σ H' δ' → Ev S H S H' → Q b H'
def DBX (X : Cx) (e0 : Ent) (E : XK) (e : Expr) (f : FBX) : Prop := PT X e (tDBX X.K e0.M e0.S e0.H E f)
def rBl (δ : DSt) (z : D) : R (Bool × DSt) := match z with
  | .bl b => .ok (b, δ)
  | _ => .bad
def fCmpX (F : D → D → Option D) (f : FX) (g : FE) : FBX := fun δ => (f δ).bind fun p => (g p.2).bind fun y => (R.of (F p.1 y)).bind (rBl p.2)
theorem dbx_cmp {op : CmpOp} {Fo : D → D → Option D} (ho : OpD X (compareOp op) Fo) (ha : DX X e0 E a fx) (hb : DE X (fun _ => E) b g) (hm : behindInMarks op b = false) : DBX X e0 E (.Compare a [op] [b] pos) (fCmpX Fo fx g) := by
  refine PT.imp (pt_cmpR ho ha hb hm) fun σ H Q hq => ?_
  obtain ⟨S, δ, s, q⟩ := hq
  refine ⟨S, δ, s, (ResX.on (f := fun p => (g p.2).bind fun y => (R.of (Fo p.1 y)).bind (rBl p.2)) q).imp fun d δ' q1 v H1 s1 e1 r1 => ?_⟩
  refine ⟨S, δ', s1.st, (ResX.of s1 q1).imp fun e q2 u H2 e2 r2 => ?_⟩
  cases ef : Fo d e with
  | none => rw [ef] at q2; exact q2.elim
  | some z =>
    rw [ef, R.of_some, R.bind_ok] at q2
    refine ⟨S, d, e, z, (s1.st.mono e2).here, r1.mono e2, r2, ef, fun w H3 e3 r3 => ?_⟩
    cases r3 with
    | bl k => exact ⟨k, rfl, q2 H3 ((s1.mono e2).mono e3) (e1.trans ((Ev.same e2).trans (.same e3)))⟩
    | _ => exact q2.elim
def oIfX (F G : FS) (p : Bool × DSt) : O := match p.1 with
  | true => F p.2
  | false => G p.2
def fIfX (c : FBX) (F G : FS) : FS := fun δ => O.on (c δ) (oIfX F G)
theorem ds_ifX {t : FBX} {A B : List Stmt} (hc : DBX X e0 E c t) (ha : DSts X e0 E A F) (hb : DSts X e0 E B G) : DSt1 X e0 E (.If c A B pos) (fIfX t F G) := by
  refine PS.imp (ps_if hc ha hb) fun D σ H hq => ?_
  obtain ⟨S, δ, s, q⟩ := hq
  refine ⟨S, δ, s, Fin.onX (f := oIfX F G) q fun b δ' q1 H' s' e' => ?_⟩
  cases b with
  | true => exact ⟨S, δ', s', Fin.ev e' q1⟩
  | false => exact ⟨S, δ', s', Fin.ev e' q1⟩
end
end DL

/-! DKw: defs with **kw, called with keywords. -/
namespace DL
open PySem PySem.Spec PyProof.Rows L2
section
variable {P : Program} {w : World} {A : Around} {Ex : Value → Shared → Prop} {d : Addr}
theorem noKey {es : Array DictEntry} {kvs : List (Key × Value)} {k : Str} (hp : PySem.Pairs (mixKind P w) es.toList kvs) (hs : ∀ q ∈ kvs, ∃ x, q.1 = Sum.inr x) (hn : (Sum.inr k : Key) ∉ kvs.map (·.1)) : es.findIdx? (·.key.isStr k) = none ∧ es.any (·.refKey) = false := by
  have go : ∀ {l : List DictEntry} {kvs : List (Key × Value)}, PySem.Pairs (mixKind P w) l kvs → (∀ q ∈ kvs, ∃ x, q.1 = Sum.inr x) → (Sum.inr k : Key) ∉ kvs.map (·.1) → ∀ e ∈ l, e.key.isStr k = false ∧ e.refKey = false := by
    intro l kvs h
    induction h with
    | nil => intro _ _ e he; cases he
    | @cons e0 kv es' kvs' h1 h2 _ ih =>
      intro hs hn e he
      rcases List.mem_cons.mp he with rfl | he
      · obtain ⟨x, hx⟩ := hs kv List.mem_cons_self
        rw [hx] at h1
        have h1 : keyIs (Sum.inr x : Key) e.key = true := h1
        rcases keyIs_shape h1 with ⟨i, t, z, _⟩ | ⟨y, t, z, ek⟩
        · cases z
        · cases z
          have nk : ¬ x = k := fun z => hn (by rw [List.map_cons, hx, z]; exact List.mem_cons_self)
          constructor
          · rw [ek]; exact beq_eq_false_iff_ne.mpr nk
          · simp [DictEntry.refKey, ek]
      · exact ih (fun q hq => hs q (List.mem_cons_of_mem _ hq)) (fun z => hn (by rw [List.map_cons]; exact List.mem_cons_of_mem _ z)) e he
  have g := go hp hs hn
  constructor
  · rw [Array.findIdx?_eq_none_iff]
    intro e he
    rw [(g e (Array.mem_toList_iff.mpr he)).1]
  · rw [Array.any_eq_false']
    intro e he
    rw [(g e (Array.mem_toList_iff.mpr he)).2]
    simp
/-- a new text key of a dict of text keys -/
theorem ns_dict {s : Shared} {kvs : List (Key × Value)} {k : Str} {v : Value} {Q : Unit → Shared → Prop} (hd : s.heap.DictOf (mixKind P w) d kvs) (hs : ∀ q ∈ kvs, ∃ x, q.1 = Sum.inr x) (hn : (Sum.inr k : Key) ∉ kvs.map (·.1))
    (hq : ∀ h', h'.DictOf (mixKind P w) d (kvs ++ [(Sum.inr k, v)]) → Heap.SameBut d s.heap h' → Q () { s with heap := h', toks := s.toks + 1 }) : wpAny (model P w) A (nsSet d k v) Q Ex s := by
  obtain ⟨o, es, ep, ho, hx, hdt, hk, hp, nd⟩ := hd
  obtain ⟨n1, n2⟩ := noKey hp hs hn
  have c : aRefKeyMayBeTheName k es = false := by
    rw [aRefKeyMayBeTheName_eq]
    unfold aRefKeyMayBeTheNameByArray
    rw [n2, Bool.and_false]
  unfold nsSet
  refine wpAny_bind (wpAny_bind (wpAny_askSetting (wpAny_pure (wpAny_bind (wpAny_mkText ?_)))))
  refine wpAny_bind (wpAny_loadPart (o := o) ho ?_)
  rw [hdt]
  dsimp only
  rw [c]
  refine wpAny_updatePart (o := o) ho (hq _ ?_ (Heap.SameBut.update ..))
  obtain ⟨oc, od, dt, sl⟩ := o
  dsimp only at hdt
  subst hdt
  refine ⟨_, es.push ⟨(mixKind P w).hash (Sum.inr k), .str k s.toks, v⟩, ep + 1, Heap.get?_update_self _ ho ?_, ?_, ?_, KeysOf.push hk (mixKind_str P w k s.toks) v, ?_, ?_⟩
  · simp only [Obj.putName_eq, Obj.putNameByArray, n1]
    rfl
  · simp only [Obj.putName_eq, Obj.putNameByArray, n1]
    exact hx
  · simp only [Obj.putName_eq, Obj.putNameByArray, n1]
    rfl
  · rw [Array.toList_push]
    exact hp.append (mixKind_str P w k s.toks) _ v
  · rw [List.map_append, List.nodup_append]
    exact ⟨nd, List.nodup_cons.mpr ⟨List.not_mem_nil, List.nodup_nil⟩, fun a ha b hb => by
      rw [List.mem_singleton.mp hb]
      exact fun e => hn (by rw [← show a = (Sum.inr k : Key) from e]; exact ha)⟩
/-- all of them -/
theorem ns_fill {Q : PUnit → Shared → Prop} : ∀ (ex : List (Str × Value)) (s : Shared) (kvs : List (Key × Value)), s.heap.DictOf (mixKind P w) d kvs → (∀ q ∈ kvs, ∃ x, q.1 = Sum.inr x) → (kvs.map (·.1) ++ ex.map (fun q => (Sum.inr q.1 : Key))).Nodup →
    (∀ h' t', h'.DictOf (mixKind P w) d (kvs ++ ex.map fun q => (Sum.inr q.1, q.2)) → Heap.SameBut d s.heap h' → Q ⟨⟩ { s with heap := h', toks := t' }) →
    wpAny (model P w) A (forIn ex PUnit.unit fun x _ => (nsSet d x.1 x.2 >>= fun _ => pure (ForInStep.yield PUnit.unit))) Q Ex s
  | [], s, kvs, h, _, _, q => by
    rw [List.forIn_nil]
    exact wpAny_pure (q s.heap s.toks (by rw [List.map_nil, List.append_nil]; exact h) ⟨rfl, fun _ _ => rfl⟩)
  | x :: ex, s, kvs, h, hs, nd, q => by
    rw [List.forIn_cons]
    rw [List.map_cons] at nd
    have hn : (Sum.inr x.1 : Key) ∉ kvs.map (·.1) := fun z => by
      rw [List.nodup_append] at nd
      exact nd.2.2 _ z _ List.mem_cons_self rfl
    refine wpAny_bind (wpAny_bind (ns_dict h hs hn fun h' hd' sb => wpAny_pure ?_))
    refine ns_fill ex { s with heap := h', toks := s.toks + 1 } (kvs ++ [(Sum.inr x.1, x.2)]) hd' (fun y hy => ?_) ?_ fun h'' t'' hd'' sb'' => ?_
    · rcases List.mem_append.mp hy with z | z
      · exact hs y z
      · rw [List.mem_singleton.mp z]; exact ⟨_, rfl⟩
    · rw [List.map_append, List.append_assoc]
      exact nd
    · refine q h'' t'' ?_ ⟨sb''.1.trans sb.1, fun b hb => (sb''.2 b hb).trans (sb.2 b hb)⟩
      rw [List.append_assoc] at hd''
      exact hd''
end
/-! ### the promise of a def with **kw, called with the keywords ks -/
def FnK (P : Program) (w : World) (K : PySem.W.Frag) (mg : Str → Option Value) (base : Heap) (k : Nat) (f : Addr) (ks : List Str) (n : Nat) (G : List D → R D) : Prop :=
  ∀ (A : Around) (outer : List Env) (s : Shared) (H : Hp) (us ws : List Value) (vs zs : List V) (Q : VK) (E : XK) (S : Addr → Prop) (ds es : List D), Room k A → Env0 P w K mg base A outer s H → Vals vs us → Vals zs ws → Dom S H → RepL K S H vs ds → RepL K S H zs es → ds.length = n → es.length = ks.length →
    (Res K S H E (G (ds ++ [.dic (ks.map Sum.inr) es])) fun d => ∀ v H', Same H H' → Rep K S H' v d → Q v H') → codeAny (model P w) A (.call (.ref f) ⟨us, ks.zip ws⟩) (CR (L2.CX P w) outer P w H s Q E) s
theorem FnK.mono {P : Program} {w : World} {K : PySem.W.Frag} {mg : Str → Option Value} {base : Heap} {f : Addr} {j k n : Nat} {ks : List Str} {G : List D → R D} (F : FnK P w K mg base j f ks n G) (h : j ≤ k) : FnK P w K mg base k f ks n G :=
  fun A outer s H us ws vs zs Q E S ds es hr => F A outer s H us ws vs zs Q E S ds es (hr.mono h)
theorem nodup_inr {ks : List Str} (nd : ks.Nodup) : (ks.map (Sum.inr : Str → Ky)).Nodup := by
  rw [List.nodup_iff_pairwise_ne] at *
  exact List.Pairwise.map _ (fun a b h z => h (Sum.inr.inj z)) nd
theorem kv_zip : ∀ {ks : List Str} {zs : List V} {ws : List Value}, Vals zs ws → KV ((ks.map Sum.inr).zip zs) ((ks.zip ws).map fun q => ((Sum.inr q.1 : Key), q.2))
  | [], _, _, _ => .nil
  | _ :: _, _, _, .nil => .nil
  | k :: ks, _, _, .cons r rs => .cons ⟨rfl, r⟩ (kv_zip rs)
theorem fnk_of {P : Program} {w : World} {K : PySem.W.Frag} {mg : Str → Option Value} {base : Heap} {x qual : Str} {params : Arguments} {body : List Stmt} {scope : Scope} {kws : List (Str × V)} {f : Addr} {fd : FuncData} {N ps ks : List Str} {pv : Str} {k : Nat} {F : FS}
    (Fd : FunD K x qual params body scope [] kws f fd) (Sc : FnScope N (ps ++ [pv]) scope) (nd : ks.Nodup) (hk : ks.length ≤ 1000)
    (hb : ∀ (kV doc pm : Value) (an : Option Addr) (cdv ct : Value) (us ws : List Value), us.length = ps.length → ws.length = ks.length → bindArgs (PySem.W.fnOf x qual params body scope .none kV doc pm an cdv ct) ⟨us, ks.zip ws⟩ =
      ((alloc ({ cls := .type "dict", data := .dict #[] } : Obj) : Sem Addr) >>= fun d => (forIn (ks.zip ws) PUnit.unit fun x _ => (nsSet d x.1 x.2 >>= fun _ => pure (ForInStep.yield PUnit.unit))) >>= fun _ => pure (ps.zip us ++ [(pv, Value.ref d)])))
    (hbody : ∀ (cdv : Value) (A : Around) (outer : List Env) (s : Shared) (e0 : Ent) (H : Hp) (E : XK), Bd (cxOf (L2.CX P w) P w K mg base N qual scope f cdv A outer s H E) (fun _ => E) k →
      Takes (cxOf (L2.CX P w) P w K mg base N qual scope f cdv A outer s H E) (fun cls d _ H => E cls d H) → DSts (cxOf (L2.CX P w) P w K mg base N qual scope f cdv A outer s H E) e0 E body F) : FnK P w K mg base (k + 1) f ks ps.length (runD N.length F) := by
  have hpl : ps.length + 1 ≤ N.length := by have := congrArg List.length Sc.pre; rw [List.length_take, List.length_append] at this; simp only [List.length_singleton] at this; omega
  obtain ⟨oc, od, dV, kV, doc, pm, an, cdv, ct, osl, rfl, lk, hcd, hD, _⟩ := Fd.ex
  rcases hD with ⟨_, rfl⟩ | ⟨z, _⟩
  · intro A outer s H us ws vs zs Q E S ds es hr e0 r rz dm rl rle hl hle q
    have hn : H s.heap.objs.size = Option.none := e0.hok.fresh (Nat.le_refl _)
    have lu : us.length = ps.length := by rw [← r.length, rl.length, hl]
    have lz : zs.length = ks.length := by rw [rle.length, hle]
    have lw : ws.length = ks.length := by rw [← rz.length, lz]
    refine StX.run_bnd lk hcd Sc hr e0 (G := fun xs H2 => ∃ p, H p = Option.none ∧ xs = vs ++ [V.ref p] ∧ H2 = upd H p (.dK ((ks.map Sum.inr).zip zs))) (fun A' Ex Q' h => ?_) fun s2 H2 xs ⟨p, hp, ex, eH⟩ hr' => ?_
    · rw [hb kV doc pm an cdv ct us ws lu lw]
      refine wpAny_bind (wpAny_alloc (wpAny_bind (ns_fill (P := P) (w := w) (d := s.heap.objs.size) (ks.zip ws) { s with heap := s.heap.push ({ cls := .type "dict", data := .dict #[] } : Obj) } [] (Heap.DictOf.new s.heap) (fun q hq => by cases hq) ?_ fun h' t' hd sb => wpAny_pure ?_)))
      · rw [List.map_nil, List.nil_append]
        have e : (ks.zip ws).map (fun q => (Sum.inr q.1 : Key)) = ks.map Sum.inr := by
          rw [show (fun q : Str × Value => (Sum.inr q.1 : Key)) = Sum.inr ∘ Prod.fst from rfl, ← List.map_map, List.map_fst_zip (by rw [lw]; exact Nat.le_refl _)]
        rw [e]
        exact nodup_inr nd
      · have sz : (s.heap.push ({ cls := .type "dict", data := .dict #[] } : Obj)).objs.size = s.heap.objs.size + 1 := Heap.size_push _ _
        have kp : ∀ b y, s.heap.get? b = some y → h'.get? b = some y := fun b y e => (sb.2 b (Nat.ne_of_lt (Heap.lt_size e))).trans (Heap.get?_push_of_some _ e)
        have big := StX.env0_big e0
        have kvl : ((ks.map (Sum.inr : Str → Ky)).zip zs).length ≤ sizeLine := by
          rw [List.length_zip, List.length_map, lz, Nat.min_self, sizeLine_eq]
          omega
        have new : ObjOk P w (upd H s.heap.objs.size (.dK ((ks.map Sum.inr).zip zs))) h' s.heap.objs.size (.dK ((ks.map Sum.inr).zip zs)) :=
          ⟨kvl, beq_eq_false_iff_ne.mpr (Ne.symm (Nat.ne_of_lt big)), _, kv_zip rz, by rw [List.nil_append] at hd; exact hd⟩
        have e2 : Env0 P w K mg base A outer { s with heap := h', toks := t' } (upd H s.heap.objs.size (.dK ((ks.map Sum.inr).zip zs))) := by
          refine ⟨e0.frames, e0.mod, fun b y e => ⟨kp b y (e0.bs b y e).1, ?_⟩, ?_, Heap.FunFrames.of_keeps (fun b y e _ => ⟨y, kp b y e, rfl⟩) e0.funs, fun b hb => ?_, e0.hok.laid kp (Nat.le_refl _) new, e0.bare⟩
          · rw [upd_ne (Nat.ne_of_lt (Heap.lt_size (e0.bs b y e).1))]
            exact (e0.bs b y e).2
          · show base.objs.size ≤ h'.objs.size
            have s0 := e0.bsz
            have s1 : h'.objs.size = s.heap.objs.size + 1 := (show h'.objs.size = (s.heap.push ({ cls := .type "dict", data := .dict #[] } : Obj)).objs.size from sb.1).trans sz
            omega
          · obtain ⟨_, y, hy, _⟩ := e0.funs.mem hb
            rw [upd_ne (Nat.ne_of_lt (Heap.lt_size hy))]
            exact e0.frf b hb
        have un : Un (frs outer) [] H (upd H s.heap.objs.size (.dK ((ks.map Sum.inr).zip zs))) s.heap h' := Un.laid kp (Nat.le_refl _) hn
        have z := h _ _ (vs ++ [V.ref s.heap.objs.size]) (us ++ [Value.ref s.heap.objs.size]) e2 un rfl (fun e s' => StX.cxUp outer s H _ _ E e s' un kp rfl) (r.append (.cons rfl .nil))
          (by rw [List.length_append, List.length_append, rl.length, hl] <;> rfl) ⟨_, hn, rfl, rfl⟩
        rw [List.zip_append lu.symm] at z
        exact z
    · subst ex eH
      have tk : Takes (cxOf (L2.CX P w) P w K mg base N qual scope f cdv A outer s2 (upd H p (.dK ((ks.map Sum.inr).zip zs))) E) (fun cls d _ H => E cls d H) := takes_of rfl rfl rfl rfl
      have e : Same H (upd H p (.dK ((ks.map Sum.inr).zip zs))) := same_new hp _
      have dm2 : Dom S (upd H p (.dK ((ks.map Sum.inr).zip zs))) := fun b z => let ⟨o, ho⟩ := dm b z; ⟨o, e _ _ ho⟩
      have rd : Rep K S (upd H p (.dK ((ks.map Sum.inr).zip zs))) (.ref p) (.dic (ks.map Sum.inr) es) := .dic upd_same (dm.new hp) (by rw [List.length_map, lz]) (nodup_inr nd) (rle.mono e)
      refine ⟨_, hbody cdv A outer s2 ⟨NoM, S, upd H p (.dK ((ks.map Sum.inr).zip zs))⟩ _ E ⟨hr', PsA.of (passes_call tk fun _ _ _ _ z => z), rfl, passes_of rfl⟩ tk, S, _, start_st ((rl.mono e).append (.cons rd .nil)) dm2 (by rw [List.length_append, hl]; exact hpl), ?_⟩
      unfold runD at q
      show Fin K NoM S _ E _ S _ (F _)
      cases ef : F ((ds ++ [D.dic (ks.map Sum.inr) es]).map DS.fz ++ List.replicate (N.length - (ds ++ [D.dic (ks.map Sum.inr) es]).length) DS.un) with
      | rt d δ => rw [ef] at q; exact fun S' σ' v H' s' r' => q v H' (e.trans s'.same.all) (r'.less s'.sub)
      | nx δ => rw [ef] at q; exact fun S' σ' H' s' _ => q .non H' (e.trans s'.same.all) .non
      | exc n xs => rw [ef] at q; exact fun cls dx H' k x => q cls dx H' (e.trans k.all) x
      | bk δ => rw [ef] at q; exact q.elim
      | ct δ => rw [ef] at q; exact q.elim
      | bad => rw [ef] at q; exact q.elim
  · exact absurd rfl z
section
variable {X : Cx} {E : XK} {Eσ : Sg → XK} {k : Nat} {pos p : Pos} {x : Str} {a : Expr} {es : List Expr} {kws : List Keyword} {fl fk : FL}
/-- f(e, .., k = v, ..), f a def with **kw -/
def rCallK (ks : List Str) (G : List D → R D) (ds es : List D) : R D := G (ds ++ [.dic (ks.map Sum.inr) es])
def fCallK (ks : List Str) (G : List D → R D) (fl fk : FL) : FE := fun δ => (fl δ).bind fun ds => (fk δ).bind fun es => rCallK ks G ds es
theorem de_callK {fa : Addr} {n : Nat} {ks : List Str} {G : List D → R D} (Fn : FnK X.prog X.w X.K X.mg X.base k fa ks n G) (B : Bd X Eσ k) (hg : Gl X x) (hm : X.mg x = some (.ref fa)) (hk : PySem.W.keepIn X.K (.ref fa) = true) (ha : DA X Eσ (a :: es) fl) (hkw : DK X Eσ kws fk)
    (hn : (a :: es).length = n := by rfl) (hl : kws.length = ks.length := by rfl) (hall : (backToKw pos (keywordEach kws X.env)).all (·.1.isSome) = true := by rfl) (hks : (backToKw pos (keywordEach kws X.env)).filterMap (·.1) = ks := by rfl)
    (hdb : (x == ("__debug__" : Str)) = false := by decide) (he : starEach (a :: es) X.env = (false, eval a X.env) :: starEach es X.env := by rfl)
    (hpl : ((backTo pos (starEach (a :: es) X.env)).any (·.1) || (backToKw pos (keywordEach kws X.env)).any (·.1.isNone)) = false := by rfl) : DE X Eσ (.Call (.Name x p) (a :: es) kws pos) (fCallK ks G fl fk) := by
  refine ⟨fun pins s σ H Q I h => ?_⟩
  obtain ⟨S, δ, st, q⟩ := h
  refine wpAny_Call_Name_kw (ld_glob I hg hm ?_ hdb)
  have q1 := Res.on q
  refine PySem.W.callWith_KW (h₀ := X.base) I.ok.mod.kin hk hall (thn (ha.pa.run pos pins s σ H (fun vs H1 => ∃ ds, fl δ = .ok ds ∧ Same H H1 ∧ RepL X.K S H1 vs ds) I ⟨S, δ, st, ?_⟩) fun us s1 ⟨vs, H1, I1, r, ds, hds, e1, rl⟩ => ?_) hpl he
  · cases r0 : fl δ with
    | bad => rw [r0] at q1; exact q1.elim
    | exc m xs => rw [r0] at q1; exact q1
    | ok ds => exact fun vs H1 e1 rl => ⟨ds, rfl, e1, rl⟩
  · rw [hds] at q1
    have q2 := Res.on (show Res X.K S H (Eσ σ) ((fk δ).bind fun es => rCallK ks G ds es) _ from q1)
    refine thn (hkw.pk.run pos pins s1 σ H1 (fun zs H2 => ∃ es, fk δ = .ok es ∧ Same H1 H2 ∧ RepL X.K S H2 zs es) I1 ⟨S, δ, st.mono e1, ?_⟩) fun ws s2 ⟨zs, H2, I2, rz, es', hes, e2, rle⟩ => ⟨I2.kIn, ?_⟩
    · cases r0 : fk δ with
      | bad => rw [r0] at q2; exact q2.elim
      | exc m xs => rw [r0] at q2; exact Res.mono e1 (r := (R.exc m xs : R (List D))) (P := fun ds => ∀ vs H', Same H1 H' → RepL X.K S H' vs ds → _) q2
      | ok ds' => exact fun vs H2 e2 rl => ⟨ds', rfl, e2, rl⟩
    · rw [hes] at q2
      rw [hks]
      have e := e1.trans e2
      have dm := (st.mono e).here
      have q4 : Res X.K S H (Eσ σ) (G (ds ++ [.dic (ks.map Sum.inr) es'])) (fun d => ∀ v H', Same H H' → Rep X.K S H' v d → Q v H') := q2
      refine wpAny_call (codeAny_mono (Fn X.A X.stack s2 H2 us ws vs zs Q (Eσ σ) S ds es' B.room I2.env0 r rz dm (rl.mono e2) rle ((ha.len _ _ hds).trans hn) ((hkw.len _ _ hes).trans hl) ((q4.mono e).imp fun d q3 v H' e' r' => q3 v H' (e.trans e') r')) fun r s' hq => ?_)
      cases r with
      | error er => exact B.pass σ pins H2 s2 er s' I2 hq
      | ok fl =>
        cases fl with
        | ret u => exact I2.after hq
        | next => exact False.elim hq
        | brk => exact False.elim hq
        | cont => exact False.elim hq
end
end DL

/-! DFun: defs as values, staticmethods, instances called. -/
namespace DL
open PySem PySem.Spec PyProof.Rows L2
section
variable {X : Cx} {E : XK} {Eσ : Sg → XK} {k : Nat} {pos p apos : Pos} {x c m : Str} {a b : Expr} {es : List Expr} {f g : FE} {fl : FL}
/-! ### x(e, ..), x a local that holds a def of the table -/
abbrev Tb : Type := List (Str × (List D → R D))
def TbOk (P : Program) (w : World) (K : PySem.W.Frag) (mg : Str → Option Value) (base : Heap) (k n : Nat) (tb : Tb) : Prop := ∀ q ∈ tb, FnG P w K mg base k (He.ga K q.1) n q.2 ∧ PySem.W.keepIn K (.ref (He.ga K q.1)) = true
theorem tbOk_nil {P : Program} {w : World} {K : PySem.W.Frag} {mg : Str → Option Value} {base : Heap} {n : Nat} : TbOk P w K mg base k n [] := fun q hq => by cases hq
theorem tbOk_cons {P : Program} {w : World} {K : PySem.W.Frag} {mg : Str → Option Value} {base : Heap} {n : Nat} {q : Str × (List D → R D)} {tb : Tb} (F : FnG P w K mg base k (He.ga K q.1) n q.2) (h : PySem.W.keepIn K (.ref (He.ga K q.1)) = true) (t : TbOk P w K mg base k n tb) : TbOk P w K mg base k n (q :: tb) := fun r hr => by
  rcases List.mem_cons.mp hr with rfl | hr
  · exact ⟨F, h⟩
  · exact t r hr
def tbGet : Tb → Str → Option (List D → R D)
  | [], _ => none
  | q :: tb, f => if q.1 = f then some q.2 else tbGet tb f
theorem tbGet_mem : ∀ {tb : Tb} {f : Str} {G : List D → R D}, tbGet tb f = some G → ∃ q ∈ tb, q.1 = f ∧ q.2 = G
  | q :: tb, f, G, h => by
    unfold tbGet at h
    by_cases e : q.1 = f
    · rw [if_pos e] at h
      cases h
      exact ⟨q, List.mem_cons_self, e, rfl⟩
    · rw [if_neg e] at h
      obtain ⟨r, h1, h2⟩ := tbGet_mem h
      exact ⟨r, List.mem_cons_of_mem _ h1, h2⟩
def tbOf (tb : Tb) : D → Option (List D → R D)
  | .fn f => tbGet tb f
  | _ => none
def fCallV (tb : Tb) (i : Nat) (fl : FL) : FE := fun δ => (fVar i δ).bind fun d => (R.of (tbOf tb d)).bind fun G => (fl δ).bind G
theorem fVar_fz {i : Nat} {δ : DSt} {d : D} (h : fVar i δ = .ok d) : δ[i]? = some (.fz d) := by
  unfold fVar at h
  split at h
  · rename_i e q
    cases h
    exact q
  · cases h
theorem fVar_ne {i : Nat} {δ : DSt} {n : Str} {xs : List D} (h : fVar i δ = .exc n xs) : False := by
  unfold fVar at h
  split at h <;> cases h
theorem de_callV {tb : Tb} {n : Nat} (i : Nat) (T : TbOk X.prog X.w X.K X.mg X.base k n tb) (B : Bd X Eσ k) (hN : X.N[i]? = some x) (hv : Vis X.env.scope x) (ha : DA X Eσ (a :: es) fl) (hn : (a :: es).length = n := by rfl) (hd : (x == ("__debug__" : Str)) = false := by decide) (hcd : (x == ("__classdict__" : Str)) = false := by decide)
    (he : starEach (a :: es) X.env = (false, eval a X.env) :: starEach es X.env := by rfl) (hpl : (backTo pos (starEach es X.env)).any (·.1) = false := by rfl) : DE X Eσ (.Call (.Name x p) (a :: es) [] pos) (fCallV tb i fl) := by
  refine ⟨fun pins s σ H Q I h => ?_⟩
  obtain ⟨S, δ, st, q⟩ := h
  unfold fCallV at q
  cases r : fVar i δ with
  | bad => rw [r] at q; exact q.elim
  | exc m xs => exact (fVar_ne r).elim
  | ok d =>
    rw [r, R.bind_ok] at q
    cases et : tbOf tb d with
    | none => rw [et] at q; exact q.elim
    | some G =>
      rw [et, R.of_some, R.bind_ok] at q
      obtain ⟨o, w1, v, rfl, rv⟩ := st.slot i _ (fVar_fz r)
      cases d <;> simp only [tbOf, reduceCtorEq] at et
      rename_i fnm
      obtain ⟨e, he', ef, eG⟩ := tbGet_mem et
      subst ef eG
      obtain ⟨Fn, kp⟩ := T e he'
      cases rv
      refine wpAny_Call_Name_kw (thn ((pe_var (pos := p) hN hv hd hcd).run pins s σ H (fun v H1 => v = .ref (He.ga X.K e.1) ∧ H1 = H) I ⟨_, w1, rfl, rfl⟩) fun u s1 ⟨v, H1, I1, r1, q1⟩ => ?_)
      obtain ⟨rfl, rfl⟩ := q1
      cases (show u = Value.ref (He.ga X.K e.1) from r1)
      have q2 := Res.on q
      refine PySem.W.callWith_K (h₀ := X.base) I.ok.mod.kin kp (thn (ha.pa.run pos pins s1 σ H1 (fun vs H2 => ∃ ds, fl δ = .ok ds ∧ Same H1 H2 ∧ RepL X.K S H2 vs ds) I1 ⟨S, δ, st, ?_⟩) fun us s2 ⟨vs, H2, I2, r2, ds, hds, e2, rl⟩ => ⟨I2.kIn, ?_⟩) he hpl
      · cases r0 : fl δ with
        | bad => rw [r0] at q2; exact q2.elim
        | exc m xs => rw [r0] at q2; exact q2
        | ok ds => exact fun vs H2 e2 rl => ⟨ds, rfl, e2, rl⟩
      · rw [hds] at q2
        have q3 : Res X.K S H1 (Eσ σ) (e.2 ds) (fun d => ∀ v H', Same H1 H' → Rep X.K S H' v d → Q v H') := q2
        exact wpAny_call (run_at (us := [] ++ us) (vs := vs) Fn B.room (B.pass σ) I2 r2 ⟨S, ds, (st.mono e2).here, rl, (ha.len _ _ hds).trans hn, (q3.mono e2).imp fun d q4 v H' e' r' => q4 v H' (e2.trans e') r'⟩)
/-! ### C.m(), m a staticmethod -/
structure SMet (K : PySem.W.Frag) (C : Addr) (mc : Value) (m : Str) (p g : Addr) : Prop where
  at_ : PySem.W.findCls K (.ref C) mc m = some (.get (.builtin "staticmethod.__get__") (.ref p) .none (.ref C))
  rc : ∃ rest, PySem.W.recIn K p "staticmethod" = some (.ref g :: rest)
  kp : PySem.W.keepIn K (.ref g) = true
theorem de_smeth0 {mc : Value} {pa fa : Addr} {G : List D → R D} {pl : Sem Bool} (r : ClX.CRead X.K (He.ga X.K c) mc) (cm : SMet X.K (He.ga X.K c) mc m pa fa) (Fn : FnG X.prog X.w X.K X.mg X.base k fa 0 G) (B : Bd X Eσ k) (hg : Gl X c) (hm : X.mg c = some (.ref (He.ga X.K c)))
    (hdb : (c == ("__debug__" : Str)) = false := by decide)
    (ht : eval (.Call (.Attribute (.Name c p) m apos) [] [] pos) X.env = (do
      let ov ← eval (.Name c p) X.env
      standAt apos.atName
      let (f, first) ← holding [ov] (getMethod ov m pl)
      callWith pos f first (backTo pos (starEach [] X.env)) (backToKw pos (keywordEach [] X.env))) := by rfl) :
    DE X Eσ (.Call (.Attribute (.Name c p) m apos) [] [] pos) (fCall G fNil) := by
  refine ⟨fun pins s σ H Q I h => ?_⟩
  obtain ⟨S, δ, st, q⟩ := h
  refine PySem.W.methodCall_KW (pl := pl) (thn ((pe_glob (v := .ref (He.ga X.K c)) hg hm rfl hdb).run pins s σ H (fun v H1 => v = .ref (He.ga X.K c) ∧ H1 = H) I ⟨rfl, rfl⟩) fun u s1 ⟨x, H1, I1, rx, ex, eh⟩ => ?_) ht
  subst ex eh
  cases (show u = Value.ref (He.ga X.K c) from rx)
  obtain ⟨rest, hp⟩ := cm.rc
  refine PySem.W.method_cls I1.kIn r.ga (PySem.W.cls_bind I1.kIn r.rd cm.at_ (wpAny_call (PySem.W.sm_get (s := { s1 with toks := s1.toks + 1 }) I1.kIn hp (PySem.W.handed_on rfl ?_))))
  have I2 := I1.tok (s1.toks + 1)
  exact PySem.W.callWith_K0 I2.kIn cm.kp (wpAny_call (run_at (us := []) (vs := []) Fn B.room (B.pass σ) I2 .nil ⟨S, [], st.here, .nil, rfl, q⟩))
/-! ### o(e, ..), o an instance -/
def rCallO (c : Str) (G : List D → R D) (fl : FL) (δ : DSt) (o : D) : R D := if isOb c o = true then (fl δ).bind fun ds => G (o :: ds) else .bad
def fCallO (c : Str) (G : List D → R D) (fo : FE) (fl : FL) : FE := fun δ => (fo δ).bind (rCallO c G fl δ)
theorem de_callO {fa : Addr} {n : Nat} {G : List D → R D} {fo : FE} {o : Expr} (c0 : StX.CallO X.K (He.ga X.K c) fa) (Fn : FnG X.prog X.w X.K X.mg X.base k fa (n + 1) G) (B : Bd X Eσ k) (ho : DE X Eσ o fo) (ha : DA X Eσ (a :: es) fl) (hn : (a :: es).length = n := by rfl)
    (ht : eval (.Call o (a :: es) [] pos) X.env = (do callWith pos (← eval o X.env) [] (backTo pos (starEach (a :: es) X.env)) (backToKw pos (keywordEach [] X.env))) := by rfl)
    (he : starEach (a :: es) X.env = (false, eval a X.env) :: starEach es X.env := by rfl) (hpl : (backTo pos (starEach es X.env)).any (·.1) = false := by rfl) : DE X Eσ (.Call o (a :: es) [] pos) (fCallO c G fo fl) := by
  refine PE.imp (pa_callO ho c0 Fn B.room B.pass ha.pa ⟨he, hpl⟩ ht) fun σ H Q hq => ?_
  obtain ⟨S, δ, st, q⟩ := hq
  refine ⟨S, δ, st, (Res.on q).imp fun od q1 v H1 e1 rv => ?_⟩
  unfold rCallO at q1
  by_cases cl : isOb c od = true
  · rw [if_pos cl] at q1
    obtain ⟨xs, rfl⟩ := isOb_of cl
    have ins : ∃ a, v = .ref a ∧ ∀ H', Same H1 H' → StX.InsC X H' a (He.ga X.K c) := by
      cases es : slotted c with
      | true =>
        obtain ⟨a1, dx, vs, rfl, hS, _⟩ := rv.objS es
        refine ⟨a1, rfl, fun H' e' => .inl ⟨dx, stS (ordS c) vs [], ?_⟩⟩
        rcases hS with ⟨z1, z2⟩ | ⟨z1, z2⟩
        · exact .inl ⟨e' _ _ z1, z2⟩
        · exact .inr ⟨e' _ _ z1, e' _ _ z2⟩
      | false =>
        obtain ⟨a1, dx, vs, rfl, _, hI, _⟩ := rv.objI es
        exact ⟨a1, rfl, fun H' e' => .inr ⟨dx, _, e' _ _ hI⟩⟩
    obtain ⟨a1, rfl, hi⟩ := ins
    refine ⟨a1, rfl, ?_⟩
    have q2 := (Res.on q1).mono e1
    refine ⟨S, δ, st.mono e1, ?_⟩
    cases r : fl δ with
    | bad => rw [r] at q2; exact q2.elim
    | exc m xs => rw [r] at q2; exact q2
    | ok ds =>
      rw [r] at q2
      intro vs H2 e2 r2
      have q3 : Res X.K S H (Eσ σ) (G (.obj c xs :: ds)) (fun d => ∀ v H', Same H H' → Rep X.K S H' v d → Q v H') := by
        rw [r] at q1
        exact q1
      exact ⟨hi _ e2, S, _, ((st.mono e1).mono e2).here, .cons (rv.mono e2) r2, by rw [List.length_cons, ha.len _ _ r, hn], (q3.mono (e1.trans e2)).imp fun d q4 w H3 e3 r3 => q4 w H3 (e1.trans (e2.trans e3)) r3⟩
  · rw [if_neg cl] at q1
    exact q1.elim
end
end DL

/-! DComp2: comprehensions of two clauses. -/
namespace DL
open PySem PySem.Spec PyProof.Rows L2
def lc2F (i : Nat) (t : FB) (fi1 : FL) (i1 : Nat) (t1 : FB) (f : FE) (δ : DSt) : List D → List D → R (List D)
  | [], acc => .ok acc
  | d :: ds, acc => (t (δ.set i (.fz d))).quiet.bind fun b => match b with
    | true => (fi1 (δ.set i (.fz d))).quiet.bind fun es => (lcF i1 t1 f (δ.set i (.fz d)) es acc).bind fun acc' => lc2F i t fi1 i1 t1 f δ ds acc'
    | false => lc2F i t fi1 i1 t1 f δ ds acc
def fLc2L (fi : FL) (i : Nat) (t : FB) (fi1 : FL) (i1 : Nat) (t1 : FB) (f : FE) : FL := fun δ => (fi δ).bind fun ds => lc2F i t fi1 i1 t1 f (δ.set i1 .un) ds []
def fLc2 (fi : FL) (i : Nat) (t : FB) (fi1 : FL) (i1 : Nat) (t1 : FB) (f : FE) : FE := fun δ => (fLc2L fi i t fi1 i1 t1 f δ).bind fun ds => .ok (.lst ds)
theorem bind_on {α β : Type} {r : R α} {f : α → R β} {b : β} (h : r.bind f = .ok b) : ∃ a, r = .ok a ∧ f a = .ok b := by
  cases r with
  | ok a => exact ⟨a, rfl, h⟩
  | exc n xs => cases h
  | bad => cases h
theorem lc2F_noexc {i i1 : Nat} {t t1 : FB} {fi1 : FL} {f : FE} {δ : DSt} : ∀ (ds acc : List D) (n : Str) (xs : List D), lc2F i t fi1 i1 t1 f δ ds acc ≠ .exc n xs
  | [], acc, n, xs => by unfold lc2F; exact fun z => by cases z
  | d :: ds, acc, n, xs => by
    unfold lc2F
    intro z
    cases q : t (δ.set i (.fz d)) with
    | bad => rw [q] at z; cases z
    | exc n xs => rw [q] at z; cases z
    | ok b =>
      rw [q] at z
      cases b with
      | false => exact lc2F_noexc ds acc n xs z
      | true =>
        have z' : ((fi1 (δ.set i (.fz d))).quiet.bind fun es => (lcF i1 t1 f (δ.set i (.fz d)) es acc).bind fun acc' => lc2F i t fi1 i1 t1 f δ ds acc') = .exc n xs := z
        cases q2 : fi1 (δ.set i (.fz d)) with
        | bad => rw [q2] at z'; cases z'
        | exc n xs => rw [q2] at z'; cases z'
        | ok es =>
          rw [q2] at z'
          have z2 : ((lcF i1 t1 f (δ.set i (.fz d)) es acc).bind fun acc' => lc2F i t fi1 i1 t1 f δ ds acc') = .exc n xs := z'
          cases q3 : lcF i1 t1 f (δ.set i (.fz d)) es acc with
          | bad => rw [q3] at z2; cases z2
          | exc n' xs' => exact lcF_noexc _ _ _ _ q3
          | ok acc' =>
            rw [q3] at z2
            exact lc2F_noexc ds acc' n xs z2
/-- a name of which nothing is known any more -/
theorem StE.unset {K : PySem.W.Frag} {S : Addr → Prop} {H : Hp} {σ : Sg} {δ : DSt} (s : StE K S σ H δ) (i : Nat) : StE K S (σ.set i none) H (δ.set i .un) := by
  refine ⟨by rw [List.length_set, List.length_set]; exact s.len, fun j t h => ?_, fun j k a t u h1 h2 m1 m2 h3 h4 => ?_, s.here⟩
  · rcases set_get h with ⟨rfl, rfl⟩ | ⟨hne, h⟩
    · have hl : j < σ.length := by
        have := (List.getElem?_eq_some_iff.mp h).1
        rw [List.length_set] at this
        rw [s.len]; exact this
      exact ⟨none, by rw [List.getElem?_set_self hl], trivial⟩
    · obtain ⟨o, h1, h2⟩ := s.slot j t h
      exact ⟨o, by rw [List.getElem?_set_ne (Ne.symm hne)]; exact h1, h2⟩
  · rcases set_get h1 with ⟨rfl, rfl⟩ | ⟨n1, h1⟩
    · cases m1
    · rcases set_get h2 with ⟨rfl, rfl⟩ | ⟨n2, h2⟩
      · cases m2
      · rw [List.getElem?_set_ne (Ne.symm n1)] at h3
        rw [List.getElem?_set_ne (Ne.symm n2)] at h4
        exact s.sep j k a t u h1 h2 m1 m2 h3 h4
section
variable {X : Cx} {e0 : Ent} {E : XK} {Eσ : Sg → XK} {pos p : Pos} {x y : Str} {a b c tg elt iter tg1 iter1 : Expr} {f g : FE} {fi fi1 : FL} {t t1 : FB} {ifs ifs1 : List Expr} {scope : Scope} {own : List (Str × Nat)} {i i1 : Nat}
theorem set_three {α : Type} {xs : List α} {i j : Nat} {a b c : α} (h : i ≠ j) : ((xs.set i a).set j b).set i c = (xs.set j b).set i c := by
  rw [List.set_comm _ _ h, List.set_set]
theorem lc2_read {σ : Sg} {H : Hp} {Q : VK} {S : Addr → Prop} {δ : DSt} (hne : i ≠ i1) (st : StE X.K S σ H δ) {ds : List D} {J : It} {H1 : Hp} (e1 : Same H H1) (io : ItOk X.K S H1 J ds) {res : List D} (hr : lc2F i t fi1 i1 t1 f (δ.set i1 .un) ds [] = .ok res)
    (hq : ∀ D H', H1 D = none → Same H H' → (∃ vs, H' D = some (.lst vs) ∧ ¬ S D ∧ RepL X.K (fun b => S b ∨ b = D) H' vs res) → StE X.K (fun b => S b ∨ b = D) σ H' δ → Q (.ref D) H') :
    ∀ D, H1 D = none → ∃ W : Nat → Nat → Hp → Prop, (∃ m, W 0 m (upd H1 D (.lst []))) ∧ ∀ k m H, W k m H →
      (J.stop k H ∧ Q (.ref D) H) ∨ (J.go k H ∧ ∃ Nx : Hp → Prop, (∀ H', Nx H' → ∃ m', m' < m ∧ W (k + 1) m' H') ∧ ∀ x H', J.yld k H x H' → gName i x (wipe σ [i, i1]) H' fun σ2 H2 => wipe σ2 [i, i1] = wipe σ [i, i1] ∧ tDB X.K E0s t σ2 H2 fun b H3 =>
        if b = true then tI X.K E0s fi1 σ2 H3 fun J1 H4 => ∃ W1 : Nat → Nat → Hp → Prop, (∃ m, W1 0 m H4) ∧ ∀ j k H, W1 j k H →
          (J1.stop j H ∧ Nx H) ∨ (J1.go j H ∧ ∃ Nx1 : Hp → Prop, (∀ H', Nx1 H' → ∃ k', k' < k ∧ W1 (j + 1) k' H') ∧ ∀ x H', J1.yld j H x H' → gName i1 x (wipe σ2 [i1]) H' fun σ3 H5 => wipe σ3 [i1] = wipe σ2 [i1] ∧ tDB X.K E0s t1 σ3 H5 fun b H6 =>
            if b = true then tD X.K E0s f σ3 H6 fun y H7 => ∃ acc, H7 D = some (.lst acc) ∧ acc.length < sizeLine ∧ Nx1 (upd H7 D (.lst (acc ++ [y]))) else Nx1 H6)
        else Nx H3) := by
  intro D hD
  have hDH : H D = none := by
    cases q : H D with
    | none => rfl
    | some o => have := e1 D o q; rw [hD] at this; cases this
  have nSD : ¬ S D := fun z => by obtain ⟨o, q⟩ := st.here D z; rw [hDH] at q; cases q
  have grow : ∀ H', Same H H' → (∃ o, H' D = some o) → StE X.K (fun b => S b ∨ b = D) σ H' δ := fun H' e hd => by
    have s1 := st.mono e
    refine ⟨s1.len, fun j u h => ?_, s1.sep, fun b z => ?_⟩
    · obtain ⟨o, h1, h2⟩ := st.slot j u h
      refine ⟨o, h1, ?_⟩
      have ev : Ev S H (fun b => S b ∨ b = D) H' := ⟨fun b o h _ => e b o h, fun b o h n z => z.elim n fun z => by rw [z, hDH] at h; cases h⟩
      refine h2.move ev.keep ev.off fun b q m => ?_
      obtain ⟨b', u, q1, q2, q3⟩ := h2.addr m
      rw [q1] at q
      cases q
      exact ⟨fun u q => e _ _ q, .inl q3⟩
    · rcases z with z | z
      · exact s1.here b z
      · rw [z]; exact hd
  -- the frame within an outer turn
  have frame : ∀ {H' : Hp} {z : V} {d : DL.D}, StE X.K (fun b => S b ∨ b = D) σ H' δ → Rep X.K (fun b => S b ∨ b = D) H' z d → StE X.K (fun b => S b ∨ b = D) ((wipe σ [i, i1]).set i (some z)) H' ((δ.set i1 .un).set i (.fz d)) := fun {H' z d} s r => by
    have q := (s.unset i1).set i r
    have e : (wipe σ [i, i1]).set i (some z) = (σ.set i1 none).set i (some z) := List.set_set ..
    rw [e]
    exact q
  let Good : Nat → List DL.D → Hp → Prop := fun k acc H' => Same H H' ∧ Ev S H1 (fun b => S b ∨ b = D) H' ∧ (∃ vs, H' D = some (.lst vs) ∧ RepL X.K (fun b => S b ∨ b = D) H' vs acc) ∧ StE X.K (fun b => S b ∨ b = D) σ H' δ ∧ lc2F i t fi1 i1 t1 f (δ.set i1 .un) (ds.drop k) acc = .ok res
  refine ⟨fun k m H' => m = ds.length - k ∧ k ≤ ds.length ∧ ∃ acc, Good k acc H', ⟨ds.length, rfl, Nat.zero_le _, [], ?_⟩, ?_⟩
  · have e2 : Same H (upd H1 D (.lst [])) := e1.trans (same_new hD _)
    exact ⟨e2, ⟨fun b o h _ => same_new hD _ b o h, fun b o h n z => z.elim n fun z => by rw [z, hD] at h; cases h⟩, ⟨[], upd_same, .nil⟩, grow _ e2 ⟨_, upd_same⟩, by rw [List.drop_zero]; exact hr⟩
  · rintro k m H' ⟨rfl, hk, acc, e2, ev, ⟨vs, hv, rv⟩, s2, hl⟩
    obtain ⟨go, stop⟩ := io _ H' ev s2.here k
    by_cases hlt : k < ds.length
    · obtain ⟨g1, g2⟩ := go hlt
      refine .inr ⟨g1, fun H3 => ∃ acc', Good (k + 1) acc' H3, fun H3 z => ⟨ds.length - (k + 1), by omega, rfl, hlt, z⟩, fun z H3 yz => ?_⟩
      obtain ⟨e3, d, hd, rz⟩ := g2 z H3 yz
      rw [List.drop_eq_getElem_cons hlt] at hl
      have ed : d = ds[k] := by
        rw [List.getElem?_eq_getElem hlt] at hd
        exact (Option.some.inj hd).symm
      subst ed
      unfold lc2F at hl
      obtain ⟨bb, ht, hl2⟩ := quiet_on hl
      have s3 := frame (s2.mono e3) rz
      refine ⟨?_, _, _, s3, ?_⟩
      · show ((((σ.set i1 none).set i none).set i (some z)).set i1 none).set i none = (σ.set i1 none).set i none
        rw [List.set_set, List.set_comm _ _ hne, List.set_set, List.set_set]
      rw [ht]
      intro H4 e4
      cases bb with
      | true =>
        rw [if_pos rfl]
        obtain ⟨es, hes, hl3⟩ := quiet_on (show ((fi1 ((δ.set i1 .un).set i (.fz ds[k]))).quiet.bind fun es => (lcF i1 t1 f ((δ.set i1 .un).set i (.fz ds[k])) es acc).bind fun acc' => lc2F i t fi1 i1 t1 f (δ.set i1 .un) (ds.drop (k + 1)) acc') = .ok res from hl2)
        obtain ⟨accE, hE, hl4⟩ := bind_on hl3
        refine ⟨_, _, s3.mono e4, ?_⟩
        rw [hes]
        intro J1 H5 e5 io1
        have e35 := e3.trans (e4.trans e5)
        refine ⟨fun j m H6 => m = es.length - j ∧ j ≤ es.length ∧ ∃ acc', Same H H6 ∧ Ev S H1 (fun b => S b ∨ b = D) H6 ∧ Ev (fun b => S b ∨ b = D) H5 (fun b => S b ∨ b = D) H6 ∧ (∃ vs, H6 D = some (.lst vs) ∧ RepL X.K (fun b => S b ∨ b = D) H6 vs acc') ∧ StE X.K (fun b => S b ∨ b = D) σ H6 δ ∧ Rep X.K (fun b => S b ∨ b = D) H6 z ds[k] ∧
          lcF i1 t1 f ((δ.set i1 .un).set i (.fz ds[k])) (es.drop j) acc' = .ok accE, ⟨es.length, rfl, Nat.zero_le _, acc, e2.trans e35, ev.trans (Ev.same e35), .refl, ⟨vs, e35 _ _ hv, rv.mono e35⟩, s2.mono e35, rz.mono (e4.trans e5), by rw [List.drop_zero]; exact hE⟩, ?_⟩
        rintro j m H6 ⟨rfl, hj, acc', f2, fv, fw, ⟨vs', hv', rv'⟩, s6, rz6, hE'⟩
        obtain ⟨go1, stop1⟩ := io1 _ H6 fw s6.here j
        by_cases jlt : j < es.length
        · obtain ⟨k1, k2⟩ := go1 jlt
          refine .inr ⟨k1, _, fun H7 z => ⟨es.length - (j + 1), by omega, rfl, jlt, z⟩, fun z1 H7 yz1 => ?_⟩
          obtain ⟨e7, d1, hd1, rz1⟩ := k2 z1 H7 yz1
          rw [List.drop_eq_getElem_cons jlt] at hE'
          have ed1 : d1 = es[j] := by
            rw [List.getElem?_eq_getElem jlt] at hd1
            exact (Option.some.inj hd1).symm
          subst ed1
          unfold lcF at hE'
          obtain ⟨b1, ht1, hm2⟩ := quiet_on hE'
          have s7 := (frame (s6.mono e7) (rz6.mono e7)).set i1 rz1
          have ew : (wipe ((wipe σ [i, i1]).set i (some z)) [i1]).set i1 (some z1) = ((wipe σ [i, i1]).set i (some z)).set i1 (some z1) := List.set_set ..
          refine ⟨?_, _, _, by rw [ew]; exact s7, ?_⟩
          · show ((((wipe σ [i, i1]).set i (some z)).set i1 none).set i1 (some z1)).set i1 none = ((wipe σ [i, i1]).set i (some z)).set i1 none
            rw [List.set_set, List.set_set]
          rw [ht1]
          intro H8 e8
          cases b1 with
          | true =>
            rw [if_pos rfl]
            obtain ⟨yv, hf, hm3⟩ := quiet_on (show ((f (((δ.set i1 .un).set i (.fz ds[k])).set i1 (.fz es[j]))).quiet.bind fun y => if okLt acc'.length = true then lcF i1 t1 f ((δ.set i1 .un).set i (.fz ds[k])) (es.drop (j + 1)) (acc' ++ [y]) else .bad) = .ok accE from hm2)
            refine ⟨_, _, by rw [ew]; exact s7.mono e8, ?_⟩
            rw [hf]
            intro w H9 e9 rw9
            by_cases c : okLt acc'.length = true
            · rw [if_pos c] at hm3
              have e79 := e7.trans (e8.trans e9)
              have hv9 := e79 _ _ hv'
              have evU : Ev (fun b => S b ∨ b = D) H9 (fun b => S b ∨ b = D) (upd H9 D (.lst (vs' ++ [w]))) := ⟨fun b o h n => by rw [upd_ne (fun z => n (.inr z))]; exact h, fun _ _ _ n => n⟩
              have eH : Same H (upd H9 D (.lst (vs' ++ [w]))) := fun b o h => by
                rw [upd_ne (fun z => by rw [z, hDH] at h; cases h)]
                exact e79 _ _ (f2 _ _ h)
              refine ⟨vs', hv9, by rw [rv'.length]; exact okLt_of c, acc' ++ [yv], eH, fv.trans ((Ev.same e79).trans evU), fw.trans ((Ev.same e79).trans evU), ⟨vs' ++ [w], upd_same, (((rv'.mono e79).append (.cons rw9 .nil)).ev evU)⟩, grow _ eH ⟨_, upd_same⟩, (rz6.mono e79).ev evU, hm3⟩
            · rw [if_neg c] at hm3; cases hm3
          | false =>
            rw [if_neg Bool.false_ne_true]
            have e78 := e7.trans e8
            exact ⟨acc', f2.trans e78, fv.trans (Ev.same e78), fw.trans (Ev.same e78), ⟨vs', e78 _ _ hv', rv'.mono e78⟩, s6.mono e78, rz6.mono e78, hm2⟩
        · have e : j = es.length := by omega
          subst e
          rw [List.drop_length] at hE'
          unfold lcF at hE'
          have ea : acc' = accE := by cases hE'; rfl
          subst ea
          exact .inl ⟨stop1 (Nat.le_refl _), acc', f2, fv, ⟨vs', hv', rv'⟩, s6, hl4⟩
      | false =>
        rw [if_neg Bool.false_ne_true]
        have e34 := e3.trans e4
        exact ⟨acc, e2.trans e34, ev.trans (Ev.same e34), ⟨vs, e34 _ _ hv, rv.mono e34⟩, s2.mono e34, hl2⟩
    · have e : k = ds.length := by omega
      subst e
      rw [List.drop_length] at hl
      unfold lc2F at hl
      cases hl
      exact .inl ⟨stop (Nat.le_refl _), hq D H' hD e2 ⟨vs, hv, nSD, rv⟩ s2⟩
theorem lc2_tl {σ : Sg} {H : Hp} {Q : VK} {S : Addr → Prop} {δ : DSt} (hne : i ≠ i1) (st : StE X.K S σ H δ) (h : Res X.K S H (Eσ σ) (fLc2L fi i t fi1 i1 t1 f δ) fun res => ∀ D H', Same H H' → H D = none → (∃ vs, H' D = some (.lst vs) ∧ ¬ S D ∧ RepL X.K (fun b => S b ∨ b = D) H' vs res) → StE X.K (fun b => S b ∨ b = D) σ H' δ → Q (.ref D) H') :
    tLc2 (tI X.K Eσ fi) (gName i) (tDB X.K E0s t) (tI X.K E0s fi1) (gName i1) (tDB X.K E0s t1) (tD X.K E0s f) [i, i1] [i1] σ H Q := by
  refine ⟨S, δ, st, (Res.on (show Res X.K S H (Eσ σ) ((fi δ).bind fun ds => lc2F i t fi1 i1 t1 f (δ.set i1 .un) ds []) _ from h)).imp fun ds q J H1 e1 io => ?_⟩
  cases r : lc2F i t fi1 i1 t1 f (δ.set i1 .un) ds [] with
  | bad => rw [r] at q; exact q.elim
  | exc n xs => exact absurd r (lc2F_noexc _ _ _ _)
  | ok res =>
    rw [r] at q
    exact lc2_read hne st e1 io r fun D H' hD e' h3 s' => q D H' e' (by
      cases z : H D with
      | none => rfl
      | some o => have := e1 D o z; rw [hD] at this; cases this) h3 s'
theorem de_lc2 (hne : i ≠ i1) (hc : X.calm = true) (hN : X.N.Nodup) (hi : DI X Eσ tg iter fi) (ok : BlkOk X.N X.env.scope scope own) (ho : own.map (·.2) = [i, i1])
    (hg : ∀ (s : Shared) (H : Hp) (C : Addr) (cl : List (Str × Addr)) (fp : List Addr), PG (X.blk s H scope (compEnvC scope cl C X.env) fp) tg (gName i))
    (ht : ∀ (s : Shared) (H : Hp) (C : Addr) (cl : List (Str × Addr)) (fp : List Addr), DTs (X.blk s H scope (compEnvC scope cl C X.env) fp) ifs t)
    (hi1 : ∀ (s : Shared) (H : Hp) (C : Addr) (cl : List (Str × Addr)) (fp : List Addr), DI (X.blk s H scope (compEnvC scope cl C X.env) fp) E0s tg1 iter1 fi1)
    (hg1 : ∀ (s : Shared) (H : Hp) (C : Addr) (cl : List (Str × Addr)) (fp : List Addr), PG (X.blk s H scope (compEnvC scope cl C X.env) fp) tg1 (gName i1))
    (ht1 : ∀ (s : Shared) (H : Hp) (C : Addr) (cl : List (Str × Addr)) (fp : List Addr), DTs (X.blk s H scope (compEnvC scope cl C X.env) fp) ifs1 t1)
    (he : ∀ (s : Shared) (H : Hp) (C : Addr) (cl : List (Str × Addr)) (fp : List Addr), DE (X.blk s H scope (compEnvC scope cl C X.env) fp) E0s elt f)
    (hs : ∀ x, foldedSetIterable iter X.env x = pure x := by intro _; rfl) (hs1 : ∀ env x, foldedSetIterable iter1 env x = pure x := by intro _ _; rfl) :
    DE X Eσ (.ListComp elt [⟨tg, iter, ifs, 0⟩, ⟨tg1, iter1, ifs1, 0⟩] scope pos) (fLc2 fi i t fi1 i1 t1 f) := by
  refine PE.imp (pe_lc2 (wi := tI X.K Eσ fi) (wi1 := tI X.K E0s fi1) (tt := tDB X.K E0s t) (tt1 := tDB X.K E0s t1) (te := tD X.K E0s f) (vs1 := [i1]) hc hN hi ok (fun j hj => by rw [ho, List.mem_singleton.mp hj]; simp) hg ht hi1 hg1 ht1 he hs hs1) fun σ H Q h => ?_
  obtain ⟨S, δ, st, q⟩ := h
  rw [ho]
  refine lc2_tl hne st ((Res.on (show Res X.K S H (Eσ σ) ((fLc2L fi i t fi1 i1 t1 f δ).bind fun ds => R.ok (D.lst ds)) _ from q)).imp fun res q2 D H' e' hD h3 s' => ?_)
  obtain ⟨vs, h1, h2, h3⟩ := h3
  have q3 : ∀ v H', Same H H' → Rep X.K S H' v (.lst res) → Q v H' := q2
  exact q3 _ H' e' (.lst h1 h2 (h3.less fun b z => .inl z))
theorem ds_setLc2 {j : Nat} {py spos : Pos} (hne : i ≠ i1) (hc : X.calm = true) (hN : X.N.Nodup) (hy : X.N[j]? = some y) (hyl : X.env.scope.names.lookup y = some .local) (hsw : swapsWith (.ListComp elt [⟨tg, iter, ifs, 0⟩, ⟨tg1, iter1, ifs1, 0⟩] scope pos) (some (.Name y py)) spos.line X.env = pure true)
    (hi : DI X (fun _ => E) tg iter fi) (ok : BlkOk X.N X.env.scope scope own) (ho : own.map (·.2) = [i, i1])
    (hg : ∀ (s : Shared) (H : Hp) (C : Addr) (cl : List (Str × Addr)) (fp : List Addr), PG (X.blk s H scope (compEnvC scope cl C X.env) fp) tg (gName i))
    (ht : ∀ (s : Shared) (H : Hp) (C : Addr) (cl : List (Str × Addr)) (fp : List Addr), DTs (X.blk s H scope (compEnvC scope cl C X.env) fp) ifs t)
    (hi1 : ∀ (s : Shared) (H : Hp) (C : Addr) (cl : List (Str × Addr)) (fp : List Addr), DI (X.blk s H scope (compEnvC scope cl C X.env) fp) E0s tg1 iter1 fi1)
    (hg1 : ∀ (s : Shared) (H : Hp) (C : Addr) (cl : List (Str × Addr)) (fp : List Addr), PG (X.blk s H scope (compEnvC scope cl C X.env) fp) tg1 (gName i1))
    (ht1 : ∀ (s : Shared) (H : Hp) (C : Addr) (cl : List (Str × Addr)) (fp : List Addr), DTs (X.blk s H scope (compEnvC scope cl C X.env) fp) ifs1 t1)
    (he : ∀ (s : Shared) (H : Hp) (C : Addr) (cl : List (Str × Addr)) (fp : List Addr), DE (X.blk s H scope (compEnvC scope cl C X.env) fp) E0s elt f)
    (hs : ∀ x, foldedSetIterable iter X.env x = pure x := by intro _; rfl) (hs1 : ∀ env x, foldedSetIterable iter1 env x = pure x := by intro _ _; rfl) :
    DSt1 X e0 E (.Assign [.Name y py] (.ListComp elt [⟨tg, iter, ifs, 0⟩, ⟨tg1, iter1, ifs1, 0⟩] scope pos) spos) (fSet j (fLc2 fi i t fi1 i1 t1 f)) := by
  refine PS.imp (ps_setLc2 (wi := tI X.K (fun _ => E) fi) (wi1 := tI X.K E0s fi1) (tt := tDB X.K E0s t) (tt1 := tDB X.K E0s t1) (te := tD X.K E0s f) (vs1 := [i1]) hc hN hy hyl hsw hi ok (fun j hj => by rw [ho, List.mem_singleton.mp hj]; simp) hg ht hi1 hg1 ht1 he hs hs1) fun Dn σ H h => ?_
  obtain ⟨S, δ, s, q⟩ := h
  rw [ho]
  have q0 : Fin X.K e0.M e0.S e0.H E Dn S H (O.on ((fLc2L fi i t fi1 i1 t1 f δ).bind fun ds => R.ok (D.lst ds)) fun d => .nx (δ.set j (.fz d))) := q
  have q1 : Fin X.K e0.M e0.S e0.H E Dn S H (O.on (fLc2L fi i t fi1 i1 t1 f δ) fun ds => .nx (δ.set j (.fz (.lst ds)))) := by
    cases r : fLc2L fi i t fi1 i1 t1 f δ with
    | ok a => rw [r] at q0; exact q0
    | exc n xs => rw [r] at q0; exact q0
    | bad => rw [r] at q0; exact q0
  refine lc2_tl hne s.st (Fin.on (f := fun ds => .nx (δ.set j (.fz (.lst ds)))) s q1 fun res q2 D H' e' hD h3 s' => ?_)
  obtain ⟨vs, h1, h2, h3⟩ := h3
  exact q2 S _ H' ((s.mono e').set j (.lst h1 h2 (h3.less fun b z => .inl z))) (.same e')
end
/-- a block inside a block: no free names -/
theorem blkOk_n {N : List Str} {sc scope : Scope} {own : List (Str × Nat)} (h : blkC N { kind := .function, names := [], isGenerator := false, isCoroutine := false } scope own = true) : BlkOk N sc scope own := by
  have o := blkOk_by h
  refine ⟨o.kind, o.uniq, o.ix, fun y hy e => ?_, o.own⟩
  rcases o.free y hy e with k | k <;> cases k
end DL

/-! DPar: a, b = x, y; name = list(e). -/
namespace DL
open PySem PySem.Spec PyProof.Rows L2
section
variable {X : Cx} {e0 : Ent} {E : XK} {Eσ : Sg → XK} {pos : Pos} {a b : Expr} {f : FE} {fl : FL}
def fPar (i j : Nat) (fl : FL) : FS := fun δ => O.on (fl δ) fun ds => match ds with
  | [d, e] => .nx ((δ.set i (.fz d)).set j (.fz e))
  | _ => .bad
theorem fPar_e {i j : Nat} {δ : DSt} {d e : D} (h : fl δ = .ok [d, e]) : fPar i j fl δ = .nx ((δ.set i (.fz d)).set j (.fz e)) := by
  unfold fPar
  rw [h]
  rfl
theorem ds_par {i j : Nat} {x y : Str} {px py pt : Pos} {kt k2 pt2} (hc : X.calm = true) (hN : X.N.Nodup) (hi : X.N[i]? = some x) (hj : X.N[j]? = some y) (hij : i ≠ j) (hx : X.env.scope.names.lookup x = some .local) (hy : X.env.scope.names.lookup y = some .local) (ha : DA X (fun _ => E) [a, b] fl)
    (hw : swappedStores [.Tuple [.Name x px, .Name y py] kt pt] (.Tuple [a, b] k2 pt2) X.env = pure (some [x, y]) := by rfl)
    (hs : swapsWithSole [.Tuple [.Name x px, .Name y py] kt pt] (.Tuple [a, b] k2 pt2) pos.line X.env = pure false := by rfl) :
    DSt1 X e0 E (.Assign [.Tuple [.Name x px, .Name y py] kt pt] (.Tuple [a, b] k2 pt2) pos) (fPar i j fl) := by
  refine PS.imp (ps_par hc hN hi hj hij hx hy ha.pa hw hs) fun D σ H hq => ?_
  obtain ⟨S, δ, s, q⟩ := hq
  refine ⟨S, δ, s.st, Fin.on (f := fun ds => match ds with
    | [d, e] => .nx ((δ.set i (.fz d)).set j (.fz e))
    | _ => .bad) s q fun ds q vs H' e' r => ?_⟩
  cases r with
  | nil => exact q.elim
  | cons r1 r2 =>
    cases r2 with
    | nil => exact q.elim
    | cons r2 r3 =>
      cases r3 with
      | nil => exact ⟨_, _, rfl, q S _ H' (((s.mono e').set i r1).set j r2) (.same e')⟩
      | cons _ _ => exact q.elim
/-- name = list(e), the frame's own from now on -/
def dItL : D → Option (List D)
  | .lst ds => some ds
  | .tup ds => some ds
  | _ => none
def fNewL (i : Nat) (f : FE) : FS := fun δ => O.on (f δ) fun d => O.on (R.of (dItL d)) fun ds => .nx (δ.set i (.ow ds))
theorem fNewL_e {i : Nat} {δ : DSt} {ds : List D} (h : f δ = .ok (.lst ds)) : fNewL i f δ = .nx (δ.set i (.ow ds)) := by
  unfold fNewL
  rw [h]
  rfl
theorem ds_newL {i : Nat} {x : Str} {pos' p pos2 : Pos} (hN : X.N.Nodup) (hi : X.N[i]? = some x) (hx : Loc X.env.scope x) (h : DE X (fun _ => E) a f) (hg : Gl X "list") (hm : X.mg "list" = none)
    (he : starEach [a] X.env = (false, eval a X.env) :: starEach [] X.env := by rfl) (hpl : (backTo pos2 (starEach [] X.env)).any (·.1) = false := by rfl)
    (hs : swapsWith (.Call (.Name "list" p) [a] [] pos2) (some (.Name x pos')) pos.line X.env = pure false := by rfl)
    (hf : X.fn x = true ∨ X.env.scope.names.lookup x = some .local := by first | exact .inl rfl | exact .inr rfl | assumption) : DSt1 X e0 E (.Assign [.Name x pos'] (.Call (.Name "list" p) [a] [] pos2) pos) (fNewL i f) := by
  refine PS.imp (ps_set hN hi hx (pe_callTy call_list_of hg hm (by decide +kernel) (da_cons h da_nil he).pa (by decide +kernel) (by decide +kernel) he hpl) hs hf) fun D σ H hq => ?_
  obtain ⟨S, δ, s, q⟩ := hq
  refine ⟨S, δ, s.st, ?_⟩
  unfold fNewL at q
  show Res X.K S H E ((f δ).bind fun x => (fNil δ).bind fun xs => .ok (x :: xs)) _
  cases r : f δ with
  | bad => rw [r] at q; exact q.elim
  | exc n xs =>
    rw [r] at q
    exact fun cls dx H' e x => q cls dx H' (s.same.trans e) (x.to s.sub)
  | ok d =>
    rw [r] at q
    intro vs H1 e1 r1
    cases r1 with
    | cons rv rn =>
      cases rn
      cases d with
      | lst ds =>
        obtain ⟨b, ws, w1, w2, w3⟩ := rv.lstH
        exact ⟨b, ws, by rw [w1], .inl (SqL.of w2), fun p hp => by
          obtain ⟨s2, e2⟩ := (s.mono e1).new i hp w3
          exact q _ _ _ s2 ((Ev.same e1).trans e2)⟩
      | tup ds =>
        obtain ⟨b, ws, w1, w2, w3⟩ := rv.seqT
        exact ⟨b, ws, by rw [w1], .inr w2, fun p hp => by
          obtain ⟨s2, e2⟩ := (s.mono e1).new i hp w3
          exact q _ _ _ s2 ((Ev.same e1).trans e2)⟩
      | _ => exact q.elim
end
end DL

/-! DLen: len(o) by an own __len__. -/
namespace DL
open PySem PySem.Spec PyProof.Rows L2
section
variable {X : Cx} {E : XK} {Eσ : Sg → XK} {k : Nat} {pos p : Pos} {a : Expr} {f : FE} {c : Str}
/-- what the own __len__ gives, a number that fits -/
def lenR (r : R D) : R D := match r with
  | .ok (.int n) => if (decide (0 ≤ n) && decide (n < 4611686018427387904)) = true then .ok (.int n) else .bad
  | _ => .bad
def rLenO (c : Str) (G : List D → R D) (x : D) : R D := if isOb c x = true then lenR (G [x]) else .bad
def fLenO (c : Str) (G : List D → R D) (f : FE) : FE := fun δ => (f δ).bind (rLenO c G)
theorem fLenO_e {G : List D → R D} {δ : DSt} {xs : List D} {n : Int} (h : f δ = .ok (.obj c xs)) (k : G [.obj c xs] = .ok (.int n)) (h0 : 0 ≤ n) (h1 : n < 4611686018427387904) : fLenO c G f δ = .ok (.int n) := by
  unfold fLenO
  rw [h]
  show rLenO c G (.obj c xs) = _
  unfold rLenO isOb
  rw [if_pos (by simp), k]
  unfold lenR
  dsimp only
  rw [if_pos (by rw [decide_eq_true h0, decide_eq_true h1]; rfl)]
theorem run_in1 {CX : CXT} {pins : List (Addr × Obj)} {σ : L2.St} {H : Hp} {s : Shared} {sp : Sp} {E1 : XK} {Q : VK} {fa : Addr} {us : List Value} {vs : List V} (Fn : FnR X.prog X.w X.K X.mg X.base CX k fa sp) (room : Room (k + 1) X.A) (out : PassesAt CX X σ E1) (I : Inv X pins σ H s) (rel : Vals vs us) (hq : sp vs H Q E1) :
    codeAny (model X.prog X.w) X.A.in1 (.call (.ref fa) ⟨us, []⟩) (fun r s' => match r with | .ok (.ret v) => EP X pins σ Q v s' | .ok _ => False | .error e => X.xe e s') s := by
  have sb : Sub X k X.A.in1 := Sub.in1 (⟨room, rfl⟩ : Sub X (k + 1) X.A)
  have e0 : Env0 X.prog X.w X.K X.mg X.base X.A.in1 X.stack s H := by
    have e := I.env0
    exact ⟨by rw [sb.fr]; exact e.frames, e.mod, e.bs, e.bsz, e.funs, e.frf, e.hok, e.bare⟩
  exact codeAny_mono (Fn X.A.in1 X.stack s H us vs Q E1 sb.room e0 rel hq) fun r s' a => match r, a with
    | .error e, a => out pins H s e s' I a
    | .ok (.ret u), a => I.after a
    | .ok .next, a => a.elim
    | .ok .brk, a => a.elim
    | .ok .cont, a => a.elim
theorem call_lenO {fa : Addr} {m : Str} {G : List D → R D} (hm : Meth X.K (He.ga X.K c) m fa) (Fn : FnG X.prog X.w X.K X.mg X.base k fa 1 G) (room : Room (k + 1) X.A) (he : ("__len__" : Str) = m := by rfl) : CallR X (.builtin "len") fun xs H Q => ∃ S v d, xs = [v] ∧ Dom S H ∧ Rep X.K S H v d ∧ Res X.K S H E0 (rLenO c G d) fun z => Giv X.K S H z Q := by
  subst he
  intro pins s σ H xs us Q I r h
  obtain ⟨S, v, d, rfl, dm, rv, q⟩ := h
  obtain ⟨u, rfl, ru⟩ := vals1 r
  unfold rLenO at q
  by_cases cl : isOb c d = true
  · rw [if_pos cl] at q
    obtain ⟨ds, rfl⟩ := isOb_of cl
    obtain ⟨a1, ox, od, rfl, J⟩ := obj_inst I rv
    cases (show u = Value.ref a1 from ru)
    unfold lenR at q
    cases e : G [.obj c ds] with
    | bad => rw [e] at q; exact q.elim
    | exc n xs => rw [e] at q; exact q.elim
    | ok z =>
      rw [e] at q
      cases z with
      | int n =>
        dsimp only at q
        by_cases cn : (decide (0 ≤ n) && decide (n < 4611686018427387904)) = true
        · rw [if_pos cn] at q
          obtain ⟨n0, n1⟩ := Bool.and_eq_true_iff.mp cn
          have n0 := of_decide_eq_true n0
          have n1 := of_decide_eq_true n1
          refine Calls.call_function_entry kind_len plain_len entry_len (args_len1 _) ?_
          unfold Builtin.«len»
          refine wpAny_bind (m := oneArg "len" _) (wpAny_pure ?_)
          have hsp : spD X.K 1 G [.ref a1] H (fun w H' => w = .int n ∧ Q (.int n) H') E0 := ⟨S, [.obj c ds], dm, .cons rv .nil, rfl, by
            rw [e]
            exact fun w H' e1 r1 => by
              have := r1.intE
              subst this
              exact ⟨rfl, q _ H' e1 r1⟩⟩
          refine wpAny_bind (m := callSpecial? (.ref a1) (Str.ofString "__len__")) (PySem.W.special_fn I.kIn J hm.at_ (beq_iff_eq.mp hm.fn) (wpAny_mono (wpAny_call (run_in1 (us := [.ref a1]) (vs := [.ref a1]) Fn room (PsA.of (X := X) passL σ) I (.cons rfl .nil) hsp)) (fun w s' z => ?_) fun _ _ x => x))
          obtain ⟨z', H', I', rz, ez, qz⟩ := z
          subst ez
          obtain ⟨t, rfl⟩ := rz
          refine wpAny_bind (wpAny_holding (wpAny_pure ?_))
          refine wpAny_bind (wpAny_letGo ?_)
          show wpAny _ _ (if n < 0 then _ else _) _ _ _
          rw [if_neg (by omega)]
          show wpAny _ _ (if n ≥ 2 ^ 63 then _ else _) _ _ _
          rw [if_neg (by omega)]
          exact wpAny_bind (wpAny_mkInt (wpAny_pure ⟨_, rfl, ⟨.int n, H', I'.tok _, ⟨_, rfl⟩, qz⟩⟩))
        · rw [if_neg cn] at q; exact q.elim
      | _ => exact q.elim
  · rw [if_neg cl] at q
    exact q.elim
theorem de_lenO {fa : Addr} {m : Str} {G : List D → R D} (hm : Meth X.K (He.ga X.K c) m fa) (Fn : FnG X.prog X.w X.K X.mg X.base k fa 1 G) (room : Room (k + 1) X.A) (ha : DE X Eσ a f) (hg : Gl X "len") (hml : X.mg "len" = none) (he : ("__len__" : Str) = m := by rfl)
    (hs1 : starEach [a] X.env = (false, eval a X.env) :: starEach [] X.env := by rfl) (hpl : (backTo pos (starEach [] X.env)).any (·.1) = false := by rfl) : DE X Eσ (.Call (.Name "len" p) [a] [] pos) (fLenO c G f) := by
  refine PE.imp (pe_callB (call_lenO hm Fn room he) hg hml PySem.boot_len (pa_cons ha pa_nil hs1) (by decide) (by decide) hs1 hpl) fun σ H Q h => ?_
  obtain ⟨S, δ, st, q⟩ := h
  refine ⟨S, δ, st, (Res.on q).imp fun d q1 v H1 e1 r1 => ?_⟩
  refine ⟨S, v, d, rfl, (st.mono e1).here, r1.mono (Same.refl _), ?_⟩
  cases e : rLenO c G d with
  | bad => rw [e] at q1; exact q1.elim
  | exc n xs =>
    exfalso
    unfold rLenO at e
    by_cases cl : isOb c d = true
    · rw [if_pos cl] at e
      unfold lenR at e
      split at e
      · split at e <;> cases e
      · cases e
    · rw [if_neg cl] at e; cases e
  | ok z =>
    rw [e] at q1
    exact fun w H2 e2 r2 => q1 w H2 (e1.trans e2) r2
end
end DL

/-! DStar: v(*e), v a variable that holds a def. -/
namespace DL
open PySem PySem.Spec PyProof.Rows L2
section
variable {X : Cx} {Eσ : Sg → XK} {k : Nat} {pos p sp_ : Pos} {a : Expr} {f : FE} {x : Str}
/-- the table of the defs with n parameters -/
def tbN : List (Nat × Tb) → Nat → Tb
  | [], _ => []
  | (m, tb) :: r, n => if m = n then tb else tbN r n
def fCallVS (ts : List (Nat × Tb)) (i : Nat) (f : FE) : FE := fun δ => (fVar i δ).bind fun d => match f δ with
  | .ok e => (R.of (dItL e)).bind fun ds => (R.of (tbOf (tbN ts ds.length) d)).bind fun G => G ds
  | _ => .bad
theorem fCallVS_e {ts : List (Nat × Tb)} {i : Nat} {δ : DSt} {d : D} {ds : List D} {G : List D → R D} {z : D} (h : fVar i δ = .ok d) (k : f δ = .ok (.lst ds)) (l : tbOf (tbN ts ds.length) d = some G) (m : G ds = .ok z) : fCallVS ts i f δ = .ok z := by
  unfold fCallVS
  rw [h, R.bind_ok, k]
  show (R.of (tbOf (tbN ts ds.length) d)).bind (fun G => G ds) = _
  rw [l, R.of_some, R.bind_ok, m]
theorem tsNil {P : Program} {w : World} {K : PySem.W.Frag} {mg : Str → Option Value} {base : Heap} : ∀ q ∈ ([] : List (Nat × Tb)), TbOk P w K mg base k q.1 q.2 := fun q hq => by cases hq
theorem tsCons {P : Program} {w : World} {K : PySem.W.Frag} {mg : Str → Option Value} {base : Heap} {n : Nat} {tb : Tb} {ts : List (Nat × Tb)} (h : TbOk P w K mg base k n tb) (t : ∀ q ∈ ts, TbOk P w K mg base k q.1 q.2) : ∀ q ∈ ((n, tb) :: ts), TbOk P w K mg base k q.1 q.2 := fun q hq => by
  rcases List.mem_cons.mp hq with rfl | hq
  · exact h
  · exact t q hq
theorem tbN_ok {P : Program} {w : World} {K : PySem.W.Frag} {mg : Str → Option Value} {base : Heap} : ∀ {ts : List (Nat × Tb)}, (∀ q ∈ ts, TbOk P w K mg base k q.1 q.2) → ∀ n, TbOk P w K mg base k n (tbN ts n)
  | [], _, n => fun q hq => by cases hq
  | (m, tb) :: r, h, n => by
    unfold tbN
    split
    · rename_i e
      subst e
      exact h (m, tb) List.mem_cons_self
    · exact tbN_ok (fun q hq => h q (List.mem_cons_of_mem _ hq)) n
theorem de_callVS {ts : List (Nat × Tb)} (i : Nat) (T : ∀ q ∈ ts, TbOk X.prog X.w X.K X.mg X.base k q.1 q.2) (B : Bd X Eσ k) (hN : X.N[i]? = some x) (hv : Vis X.env.scope x) (ha : DE X Eσ a f) (hd : (x == ("__debug__" : Str)) = false := by decide) (hcd : (x == ("__classdict__" : Str)) = false := by decide)
    (hst : starEach [.Starred a sp_] X.env = [(true, eval a X.env)] := by rfl) : DE X Eσ (.Call (.Name x p) [.Starred a sp_] [] pos) (fCallVS ts i f) := by
  refine ⟨fun pins s σ H Q I h => ?_⟩
  obtain ⟨S, δ, st, q⟩ := h
  unfold fCallVS at q
  cases r : fVar i δ with
  | bad => rw [r] at q; exact q.elim
  | exc m xs => exact (fVar_ne r).elim
  | ok d =>
    rw [r, R.bind_ok] at q
    cases r2 : f δ with
    | bad => rw [r2] at q; exact q.elim
    | exc m xs => rw [r2] at q; exact q.elim
    | ok e =>
      rw [r2] at q
      dsimp only at q
      cases ei : dItL e with
      | none => rw [ei] at q; exact q.elim
      | some ds =>
        rw [ei, R.of_some, R.bind_ok] at q
        cases et : tbOf (tbN ts ds.length) d with
        | none => rw [et] at q; exact q.elim
        | some G =>
          rw [et, R.of_some, R.bind_ok] at q
          obtain ⟨o, w1, v, rfl, rv⟩ := st.slot i _ (fVar_fz r)
          cases d <;> simp only [tbOf, reduceCtorEq] at et
          rename_i fnm
          obtain ⟨e1, he', ef, eG⟩ := tbGet_mem et
          subst ef eG
          obtain ⟨Fn, kp⟩ := tbN_ok T ds.length e1 he'
          cases rv
          refine wpAny_Call_Name_kw (thn ((pe_var (pos := p) hN hv hd hcd).run pins s σ H (fun v H1 => v = .ref (He.ga X.K e1.1) ∧ H1 = H) I ⟨_, w1, rfl, rfl⟩) fun u s1 ⟨v, H1, I1, r1, q1⟩ => ?_)
          obtain ⟨rfl, rfl⟩ := q1
          cases (show u = Value.ref (He.ga X.K e1.1) from r1)
          refine PySem.W.callWith_S (h₀ := X.base) I.ok.mod.kin kp (thn (ha.run pins s1 σ H1 (fun v H2 => Same H1 H2 ∧ Rep X.K S H2 v e) I1 ⟨S, δ, st, ?_⟩) fun v s2 ⟨y, H2, I2, ry, e2, ryr⟩ => ?_) hst
          · rw [r2]
            exact fun v H2 e2 rl => ⟨e2, rl⟩
          · have sq : ∃ b ws, y = V.ref b ∧ (SqT X.K H2 b ws ∨ SqL X.K H2 b ws) ∧ RepL X.K S H2 ws ds := by
              cases e with
              | lst es =>
                cases ei
                obtain ⟨b, ws, g1, g2, g3⟩ := ryr.lstH
                exact ⟨b, ws, g1, .inr (SqL.of g2), g3⟩
              | tup es =>
                cases ei
                obtain ⟨b, ws, g1, g2, g3⟩ := ryr.seqT
                exact ⟨b, ws, g1, .inl g2, g3⟩
              | _ => cases ei
            obtain ⟨b, ws, rfl, hsq, rl⟩ := sq
            obtain rfl : v = Value.ref b := ry
            have q3 : Res X.K S H1 (Eσ σ) (e1.2 ds) (fun d => ∀ v H', Same H1 H' → Rep X.K S H' v d → Q v H') := q
            exact StX.star_any I2 hsq fun us s3 I3 rv => ⟨I3.kIn, wpAny_call (run_at (us := [] ++ us) (vs := ws) Fn B.room (B.pass σ) I3 rv ⟨S, ds, (st.mono e2).here, rl, rfl, (q3.mono e2).imp fun d q4 v H' e' r' => q4 v H' (e2.trans e') r'⟩)⟩
end
end DL

/-! DExc: an own error made: __init__ says super().__init__(text), then stores its arguments. -/
namespace DL
open PySem PySem.Spec PyProof.Rows L2 NdefX
section
open PySem.W
variable {prog : Program} {w : World} {A : Around} {E : Value → Shared → Prop} {h : Heap} {g : Array GenState} {d : Drawn} {t : Nat} {os : OsState}
variable {nm q : Str} {C N : Addr} {bs bm : List Value} {hdct : Bool} {sn : List Str} {sub : List Value} {ab : Bool} {col : Option Bool} {dd : Option Addr} {k0 k1 k2 k3 k5 : Option Value}
/-- ValueError.__init__, bound, called -/
theorem call_mw {u e t0 : Addr} {rest : List Value} {Q : Value → Shared → Prop} (hT : HandSPX.refsVE bm = true)
    (hC : h.get? C = some (excClassObj nm q C N bs bm hdct sn sub ab col dd k0 k1 k2 k3 k5 "ValueError.__new__")) (he : h.get? e = some (HandSPX.excO C t0)) (hu : h.get? u = some (kxs_mw "ValueError.__init__" e)) (hr : rest.length ≤ sizeLine)
    (hq : ∀ h' t1, (∀ b o, b ≠ e → h.get? b = some o → h'.get? b = some o) → h'.get? e = some (HandSPX.excO C t1) → Q .none ⟨h', g, d, t, os⟩) :
    wpAny (model prog w) A (call (.ref u) rest) Q E ⟨h, g, d, t, os⟩ := by
  refine wpAny_call (codeAny_of_tree ?_)
  show wpAny _ A.in1 (callAny (.ref u) ⟨rest, []⟩) _ _ _
  simp only [callAny]
  refine wpAny_bind (wpAny_load hu ?_)
  simp only [kxs_mw, show (Value.type "method-wrapper" == Value.type "method" || Value.type "method-wrapper" == Value.type "builtin_function_or_method" || Value.type "method-wrapper" == Value.type "method-wrapper") = true by decide, if_true]
  refine W.KFB.if_so (by decide) ?_
  refine wpAny_bind (PySem.ESX.check_bound F.excBase_ValueError hC he rfl ?_)
  refine wpAny_bind (wpAny_pure (wpAny_pure ?_))
  refine ⟨Code.quiet_builtin _ (by decide +kernel), codeAny_builtin F.excBase_ValueError.initEntry ?_⟩
  rw [Around.under_plainId F.excBase_ValueError.init.plain _]
  wp_walk
  exact hq _ h.objs.size (fun b o hb ho => (Heap.get?_update_other _ _ (Ne.symm hb)).trans (Heap.get?_push_of_some _ ho)) ((Heap.get?_update_self _ (Heap.get?_push_of_some _ he) rfl).trans rfl)
end
/-- what the written part says of an own error's __init__, the def F at fI -/
structure InitK (P : Program) (K : PySem.W.Frag) (C fI cc : Addr) (F : NF) : Prop where
  oex : OexC K C
  lk : ∃ oc od doc pm ctv osl, K.lookup fI = some ⟨oc, od, .func (F.fd doc pm ctv), osl⟩
  cl : F.cl = [(("__class__" : Str), cc)]
  code : PySem.W.codeIn K (.ref F.c) F.qual = true
  file : ∃ oc od vs sl file tf, K.lookup F.c = some ⟨oc, od, .fields vs, sl⟩ ∧ vs[2]? = some (.str file tf) ∧ ((P.main.file : Str) == file) = true
  cell : ∃ oc od sl, K.lookup cc = some ⟨oc, od, .cell (some (.ref C)), sl⟩
  along : ∃ cd, PySem.W.clsIn K C = some cd ∧ PySem.W.alongIn K ("__init__" : Str) ((cd.mro.dropWhile (· != .ref C)).drop 1) = some (some (.builtin "ValueError.__init__"))
  sub : PySem.W.mroIn K C (.ref C) = some true
  isV : PySem.W.mroIn K C (.type "ValueError") = some true
  opq : PySem.W.nsIn K cStatics "thirdparty.any" = some none
  top : (P.main.scope.names.lookup ("super" : Str)).isSome = false
/-- super().__init__(msg) -/
abbrev sInitE (p0 p1 p2 p3 p4 : Pos) (j : Nat) (msg : Str) : Expr := .Call (.Attribute (.Call (.Name "super" p0) [] [] p1) "__init__" p2) [.Constant (.str msg) j p3] [] p4
abbrev sInit (p0 p1 p2 p3 p4 p5 : Pos) (j : Nat) (msg : Str) : Stmt := .Expr (sInitE p0 p1 p2 p3 p4 j msg) p5
/-- the names of such a def; how its first statement is read -/
structure InitS (ps : List Str) (F : NF) (p0 p1 p2 p3 p4 p5 : Pos) (j : Nat) (msg : Str) : Prop where
  sc : NScope (ps ++ [("__class__" : Str)]) ps [("__class__" : Str)] F.scope
  sup : F.scope.names.lookup ("super" : Str) = some .globalImplicit
  par : ∃ ar, (F.params.posonlyargs ++ F.params.args).head? = some ar ∧ ps.head? = some ar.arg
  int : ∀ f L, interactive (envF F f L) = false
  swp : ∀ f L, swapsWith (sInitE p0 p1 p2 p3 p4 j msg) none p5.line (envF F f L) = pure false
  ev : ∀ f L, ∃ pl, eval (sInitE p0 p1 p2 p3 p4 j msg) (envF F f L) = (do
      let ov ← attributeBase (.Call (.Name "super" p0) [] [] p1) "__init__" (envF F f L) (eval (.Call (.Name "super" p0) [] [] p1) (envF F f L))
      standAt p2.atName
      let (f', first) ← holding [ov] (getMethod ov "__init__" pl)
      callWith p4 f' first (backTo p4 (starEach [.Constant (.str msg) j p3] (envF F f L))) [])
  args : ∀ f L, starEach [.Constant (.str msg) j p3] (envF F f L) = (false, eval (.Constant (.str msg) j p3) (envF F f L)) :: starEach [] (envF F f L)
section
variable {CX : CXT} {P : Program} {w : World} {K : PySem.W.Frag} {mg : Str → Option Value} {base : Heap} {ps : List Str} {F : NF} {fI C cc : Addr} {A : Around} {outer : List Env} {s : Shared} {H : Hp} {E : XK} {k : Nat}
theorem cells_init (T : InitK P K C fI cc F) (e0 : Env0 P w K mg base A outer s H) : CellsAt F.cl [("__class__" : Str)] [some (.ref C)] s.heap H := by
  obtain ⟨oc, od, sl, lc⟩ := T.cell
  have hb := e0.bs _ _ (e0.mod.kin _ _ lc)
  rw [T.cl]
  refine ⟨rfl, fun y c e => ?_, fun x y c e1 e2 => ?_, fun i y e => ?_⟩
  · have : c = cc := by
      by_cases hy : y = "__class__"
      · subst hy; simpa [List.lookup] using e.symm
      · have : (y == ("__class__" : Str)) = false := by simpa using hy
        simp [List.lookup, this] at e
    subst this
    exact ⟨hb.2, _, ⟨_, hb.1, rfl⟩⟩
  · have key : ∀ {z : Str}, List.lookup z [(("__class__" : Str), cc)] = some c → z = "__class__" := fun {z} e => by
      by_cases hz : z = "__class__"
      · exact hz
      · have : (z == ("__class__" : Str)) = false := by simpa using hz
        simp [List.lookup, this] at e
    rw [key e1, key e2]
  · have : i = 0 ∧ y = "__class__" := by
      cases i with
      | zero => exact ⟨rfl, by simpa using e.symm⟩
      | succ i => simp at e
    obtain ⟨rfl, rfl⟩ := this
    refine ⟨cc, by simp [List.lookup], fun v hv => ⟨.ref C, ?_, ⟨_, hb.1, rfl⟩⟩⟩
    simp at hv
    subst hv
    rfl
theorem run_super (T : InitK P K C fI cc F) {p0 p1 p2 p3 p4 p5 : Pos} {j : Nat} {msg : Str} (S : InitS ps F p0 p1 p2 p3 p4 p5 j msg) {a : Addr} {vs : List V} {body : List Stmt} {Q : Flow → Shared → Prop} {s1 : Shared}
    (hp : ∀ x, ps.head? = some x → (startF (ps ++ [("__class__" : Str)]) vs [some (.ref C)])[0]? = some (some (.ref a)))
    (I : Inv (ncx CX P w K mg base (ps ++ [("__class__" : Str)]) F fI A outer s H E) [] (startF (ps ++ [("__class__" : Str)]) vs [some (.ref C)]) H s1) (ea : H a = some (exo a C none)) (hm : mg "super" = none)
    (hq : ∀ s2, Inv (ncx CX P w K mg base (ps ++ [("__class__" : Str)]) F fI A outer s H E) [] (startF (ps ++ [("__class__" : Str)]) vs [some (.ref C)]) H s2 → Q .next s2) :
    _root_.PySem.wpAt (model P w) (A.deeper (envF F fI s.heap.objs.size)) (.func body (envF F fI s.heap.objs.size)) (exec (sInit p0 p1 p2 p3 p4 p5 j msg) (envF F fI s.heap.objs.size)) Q (ncx CX P w K mg base (ps ++ [("__class__" : Str)]) F fI A outer s H E).xe s1 := by
  obtain ⟨oc, od, doc, pm, ctv, osl, lk⟩ := T.lk
  obtain ⟨oc2, od2, fv, sl2, file, tf, lf, hv2, hfile⟩ := T.file
  obtain ⟨oc3, od3, sl3, lc⟩ := T.cell
  obtain ⟨ar, har, hp0⟩ := S.par
  have KX : K.In s1.heap := I.kIn
  have hk : F.scope.kind = .function := S.sc.kind
  have hx0 : (ps ++ [("__class__" : Str)])[0]? = some ar.arg := by
    cases ps with
    | nil => cases hp0
    | cons x r => simpa using hp0
  have hself := hp _ hp0
  have hks : (envF F fI s.heap.objs.size).kindOf "super" = some .globalImplicit := S.sup
  have hkc : (envF F fI s.heap.objs.size).kindOf "__class__" = some .free := S.sc.frk _ (by simp)
  obtain ⟨pl, hev⟩ := S.ev fI s.heap.objs.size
  refine ks_wpAt_Expr_any (ks_wpAt_MethodCall ?_ hev) (S.int _ _) (S.swp _ _)
  refine ks_wpAt_super_base hks hkc rfl rfl (KX _ _ lk) rfl har rfl (KX _ _ lf) rfl hv2 hfile T.top ?_
  obtain ⟨mb, b1, b2⟩ := I.mod.blt
  refine W.ks_loadName_global (env := envF F fI s.heap.objs.size) hk hks (Calls.loadGlobal_builtin (env := envF F fI s.heap.objs.size) (I.mod.glob.keeps I.bk) hm (b1.keeps I.bk) ((b2 "super" (by decide)).trans (by kernel_rfl)) ⟨rfl, ?_⟩)
  refine wpAny_loadName_free (env := envF F fI s.heap.objs.size) hk hkc (by show List.lookup _ F.cl = some cc; rw [T.cl]; rfl) ⟨_, KX _ _ lc, rfl⟩ ?_
  obtain ⟨m, hns, hlk⟩ := id I.loc
  have hloc : F.scope.names.lookup ar.arg = some .local := S.sc.par _ (by
    cases ps with
    | nil => cases hp0
    | cons x r => simp at hp0; rw [← hp0]; exact List.mem_cons_self)
  obtain ⟨uu, ru, lk0⟩ := hlk 0 ar.arg (.ref a) hx0 hself (.inl hloc)
  cases (show uu = Value.ref a from ru)
  have hma : m ar.arg = some (.ref a) := by
    rcases lk0 with ⟨_, e⟩ | ⟨k, _⟩
    · exact e
    · have k : F.scope.names.lookup ar.arg = some .cell ∨ F.scope.names.lookup ar.arg = some .free := k
      rw [hloc] at k
      rcases k with k | k <;> cases k
  refine wpAny_loadName_local (env := envF F fI s.heap.objs.size) hk hloc hns hma ?_
  obtain ⟨nm, q, N, bs, bm, sn, sub, ab, col, dd, k0, k1, k2, k3, k5, hC, hbm⟩ := T.oex.cls
  have hcl : PySem.W.clsIn K C = some { name := nm, bases := bs, mro := .ref C :: bm, ns := N, qualname := q, hasDict := true, slotNames := sn, subclasses := sub, abstract := ab, collection := col, hasDel := false } := by unfold PySem.W.clsIn; rw [hC] <;> rfl
  obtain ⟨t1, hea⟩ := exo_at I.hok ea
  have hCs := KX _ _ hC
  refine ks_wpAny_isType_cls (cd := _) hCs rfl ⟨rfl, ?_⟩
  obtain ⟨cd, hcd, hal⟩ := T.along
  have hcde := hcd.symm.trans hcl
  obtain ⟨hp, gs, dr, tk, os⟩ := s1
  have hInst : ∀ {M : Model} {h' : Heap}, (∀ b o, hp.get? b = some o → h'.get? b = some o) → ∀ {B : Value} {r : Bool}, PySem.W.mroIn K C B = some r → PySem.W.Looks M h' (isInstance (.ref a) B) r := fun {M h'} kp {B r} e =>
    have J : PySem.W.InstAt h' a (HandSPX.excO C t1) C none := ⟨kp _ _ hea, rfl, rfl, trivial⟩
    J.type.andThen (PySem.W.looks_mroIn (KX.keeps kp) e)
  have hne : a ≠ C := fun z => by
    have := (I.bk _ _ (I.mod.kin _ _ hC)).symm.trans (z ▸ hea)
    cases this
  refine ks_wpAny_call_super (cdD := _) hCs rfl hea rfl (fun c e => by cases e) (PySem.W.looks_mroIn KX T.sub) (fun h1 hso kp1 => ?_)
  have I1 := I.kept (h' := h1) (t' := tk + 1) kp1
  have KX1 : K.In h1 := KX.keeps kp1
  refine PySem.W.kxs_getMethod PySem.W.kxs_ValueError hso (PySem.W.looks_opaque KX1 T.opq) (l₀ := cd.mro) ((PySem.W.looks_clsIn KX1 hcd).andThen .now) rfl KX1 hal (hInst kp1 T.isV) hne (by decide) ?_
  have kp2 : ∀ b o, hp.get? b = some o → (h1.push (PySem.W.kxs_mw "ValueError.__init__" a)).get? b = some o := fun b o e => Heap.get?_push_of_some _ (kp1 b o e)
  have I2 := ClX.pin_new (t' := tk + 1) (o := PySem.W.kxs_mw "ValueError.__init__" a) (h' := h1.push (PySem.W.kxs_mw "ValueError.__init__" a)) I1 (fun _ _ z => Heap.get?_push_of_some _ z) (Nat.le_refl _) (Heap.get?_push_size h1 rfl) (fun v z => nomatch z)
  have ha : PA (ncx CX P w K mg base (ps ++ [("__class__" : Str)]) F fI A outer s H E) [.Constant (.str msg) j p3] (tCons (tC (.str msg)) tNil) := pa_cons pe_str pa_nil (S.args _ _)
  have run := ha.run p4 [(h1.objs.size, PySem.W.kxs_mw "ValueError.__init__" a)] _ _ H (fun vs' H' => vs' = [V.str msg] ∧ H = H') I2 ⟨rfl, rfl⟩
  have hsa := S.args fI s.heap.objs.size
  have run : wpAny (model P w) (A.deeper (envF F fI s.heap.objs.size)) (spliced (backTo p4 (starEach [.Constant (.str msg) j p3] (envF F fI s.heap.objs.size)))) _ _ _ := run
  rw [hsa] at run ⊢
  refine PySem.W.kxs_callWith (i := "ValueError.__init__") (x := a) (by rfl) (Calls.evalArgs_plain (wpAny_mono run (fun us s3 hh => ?_) fun _ _ z => z))
  obtain ⟨vs', H', I3, r3, ev, eH⟩ := hh
  subst ev eH
  obtain ⟨hp3, gs3, dr3, tk3, os3⟩ := s3
  obtain ⟨t3, he3⟩ := exo_at I3.hok ea
  refine ⟨ClX.pin_at I3, call_mw hbm (I3.kIn _ _ hC) he3 (ClX.pin_at I3) (by rw [show ([] ++ us : List Value) = us from rfl, ← Paired.length r3, sizeLine_eq]; show 1 ≤ 16777216; decide) fun h' t4 k x => ?_⟩
  have J := I3.write (t' := tk3) (x := a) (e := a) (o := exo a C none) (h' := h') (by rw [ea]; exact True.intro) (.inl rfl) k ⟨_, x⟩ (exo_ok x)
  have eu : upd H a (exo a C none) = H := funext fun b => by
    by_cases hb : b = a
    · rw [hb, upd_same, ea]
    · exact upd_ne hb
  rw [eu] at J
  exact hq _ ⟨J.ok, J.os, J.bare, J.base, J.loc, J.cell, J.free, J.freeC, fun p hp => J.pin p (List.mem_append_left _ (by simpa using hp)), J.hok, J.len⟩
/-- the promise of an own error's __init__: its arguments become its fields, the last in front -/
def spI (C : Addr) (fs : List Str) : Sp := fun vs H Q _ => ∃ a ws, vs = .ref a :: ws ∧ ws.length = fs.length ∧ H a = some (exo a C none) ∧ ∀ dx, H dx = none → dx ≠ a → Q .non (upd (upd H dx (exd dx ((fs.zip ws).reverse))) a (exo a C (some dx)))
theorem init_of {fs : List Str} {self : Str} {p0 p1 p2 p3 p4 p5 : Pos} {j : Nat} {msg : Str} {rest : List Stmt} (T : InitK P K C fI cc F) (S : InitS (self :: fs) F p0 p1 p2 p3 p4 p5 j msg) (hm : mg "super" = none) (hbody : F.body = sInit p0 p1 p2 p3 p4 p5 j msg :: rest)
    (hrest : ∀ (A : Around) (outer : List Env) (s : Shared) (H : Hp) (E : XK) (a : Addr) (ws : List V) (Q : VK), ws.length = fs.length → H a = some (exo a C none) → (∀ dx, H dx = none → dx ≠ a → Q .non (upd (upd H dx (exd dx ((fs.zip ws).reverse))) a (exo a C (some dx)))) →
      ∃ t, PSs (ncx CX P w K mg base (self :: fs ++ [("__class__" : Str)]) F fI A outer s H E) rest t ∧ t { nx := fun _ H' => Q .non H', rt := Q } (startF (self :: fs ++ [("__class__" : Str)]) (.ref a :: ws) [some (.ref C)]) H) :
    ∃ fd, FnOk P w K mg base CX (k + 1) fI fd (self :: fs) (spI C fs) ∧ ∃ oc od osl doc pm ctv, fd = F.fd doc pm ctv ∧ K.lookup fI = some ⟨oc, od, .func fd, osl⟩ := by
  obtain ⟨oc, od, doc, pm, ctv, osl, lk⟩ := T.lk
  refine ⟨F.fd doc pm ctv, ⟨fun vs H Q E ⟨a, ws, e, l, _⟩ => by rw [e, List.length_cons, List.length_cons, l], fun A outer s H args us vs Q E hr e0 hb r hsp => ?_⟩, oc, od, osl, doc, pm, ctv, rfl, lk⟩
  obtain ⟨a, ws, ev, hl, ea, hq⟩ := hsp
  subst ev
  have lim : s.heap.NoLimit := e0.mod.nolimit.keeps fun b o e => (e0.bs b o e).1
  have KX : K.In s.heap := e0.mod.kin.keeps fun b o e => (e0.bs b o e).1
  refine codeAny_call_function hr.depth (KX _ _ lk) rfl S.sc.co S.sc.gen rfl (PySem.W.codeRec_of KX T.code) (hb _ _ _ _ ?_)
  refine wpAny_newFunctionEnv S.sc.nocell (fun ⟨n, _⟩ hy => S.sc.par n (List.of_mem_zip hy).1) (fun h1 hns hsb => ⟨lim.fresh _ hsb, ?_⟩) S.sc.kind
  show codeAny _ _ (.func F.body (envF F fI s.heap.objs.size)) _ _
  have kp : ∀ b o, s.heap.get? b = some o → h1.get? b = some o := fun b o e => hsb.extBut b o (Nat.ne_of_lt (Heap.lt_size e)) (Heap.get?_push_of_some _ e)
  have I := inv_startN (CX := CX) (f := fI) (tk := s.toks + ((self :: fs).zip us).length) (E := E) S.sc hr.hd e0 (by rw [List.length_cons, List.length_cons, hl]) r (cells_init T e0) hns kp
  obtain ⟨t, ht, hqt⟩ := hrest A outer s H E a ws Q hl ea hq
  rw [hbody]
  refine ks_codeAny_funcAt (ks_wpAt_execs_cons (run_super T S (fun x _ => rfl) I ea hm fun s2 I2 => wpAt_of_wpAny ?_))
  refine wpAny_mono (ht.run [] s2 _ H _ I2 hqt) (fun fl s' hs => ?_) fun e s' hs => hs
  cases fl with
  | ret u =>
    obtain ⟨v, σ', H', J, rv, q⟩ := hs
    exact ⟨v, H', J.os, J.bare, J.base, J.hok, rv, q⟩
  | next =>
    obtain ⟨σ', H', J, q⟩ := hs
    exact ⟨.non, H', J.os, J.bare, J.base, J.hok, rfl, q⟩
  | brk => exact hs.choose_spec.choose_spec.2.elim
  | cont => exact hs.choose_spec.choose_spec.2.elim
theorem init_one {f self : Str} {p0 p1 p2 p3 p4 p5 q0 q1 q2 q3 : Pos} {j : Nat} {msg : Str} (hbody : F.body = [sInit p0 p1 p2 p3 p4 p5 j msg, .Assign [.Attribute (.Name self q0) f q1] (.Name f q2) q3]) (T : InitK P K C fI cc F) (S : InitS [self, f] F p0 p1 p2 p3 p4 p5 j msg) (hm : mg "super" = none)
    (hno : PySem.W.findIn K (.ref C) f = some none)
    (hsw : ∀ g L, swapsWith (.Name f q2) (some (.Attribute (.Name self q0) f q1)) q3.line (envF F g L) = pure false) (n1 : (self == ("__debug__" : Str)) = false) (n2 : (self == ("__classdict__" : Str)) = false) (n3 : (f == ("__debug__" : Str)) = false) (n4 : (f == ("__classdict__" : Str)) = false) :
    ∃ fd, FnOk P w K mg base CX (k + 1) fI fd [self, f] (spI C [f]) ∧ ∃ oc od osl doc pm ctv, fd = F.fd doc pm ctv ∧ K.lookup fI = some ⟨oc, od, .func fd, osl⟩ := by
  refine init_of T S hm hbody fun A outer s H E a ws Q hl ea hq => ?_
  match ws, hl with
  | [y], _ =>
    refine ⟨_, pss_one (ps_ost (pe_var (i := 0) rfl (.inl (S.sc.par self (by simp))) n1 n2) (pe_var (i := 1) rfl (.inl (S.sc.par f (by simp))) n3 n4) (hsw _ _)), ?_⟩
    exact ⟨y, rfl, .ref a, rfl, a, C, rfl, T.oex, hno, .inl ⟨ea, fun dx h1 h2 => hq dx h1 h2⟩⟩
theorem init_two {f g self : Str} {p0 p1 p2 p3 p4 p5 q0 q1 q2 q3 r0 r1 r2 r3 : Pos} {j : Nat} {msg : Str} (hbody : F.body = [sInit p0 p1 p2 p3 p4 p5 j msg, .Assign [.Attribute (.Name self q0) f q1] (.Name f q2) q3, .Assign [.Attribute (.Name self r0) g r1] (.Name g r2) r3]) (T : InitK P K C fI cc F) (S : InitS [self, f, g] F p0 p1 p2 p3 p4 p5 j msg) (hm : mg "super" = none)
    (hno : PySem.W.findIn K (.ref C) f = some none) (hno2 : PySem.W.findIn K (.ref C) g = some none)
    (hsw : ∀ g' L, swapsWith (.Name f q2) (some (.Attribute (.Name self q0) f q1)) q3.line (envF F g' L) = pure false) (hsw2 : ∀ g' L, swapsWith (.Name g r2) (some (.Attribute (.Name self r0) g r1)) r3.line (envF F g' L) = pure false)
    (n1 : (self == ("__debug__" : Str)) = false) (n2 : (self == ("__classdict__" : Str)) = false) (n3 : (f == ("__debug__" : Str)) = false) (n4 : (f == ("__classdict__" : Str)) = false) (n5 : (g == ("__debug__" : Str)) = false) (n6 : (g == ("__classdict__" : Str)) = false) :
    ∃ fd, FnOk P w K mg base CX (k + 1) fI fd [self, f, g] (spI C [f, g]) ∧ ∃ oc od osl doc pm ctv, fd = F.fd doc pm ctv ∧ K.lookup fI = some ⟨oc, od, .func fd, osl⟩ := by
  refine init_of T S hm hbody fun A outer s H E a ws Q hl ea hq => ?_
  match ws, hl with
  | [y, z], _ =>
    refine ⟨_, pss_cons (ps_ost (pe_var (i := 0) rfl (.inl (S.sc.par self (by simp))) n1 n2) (pe_var (i := 1) rfl (.inl (S.sc.par f (by simp))) n3 n4) (hsw _ _)) (pss_one (ps_ost (pe_var (i := 0) rfl (.inl (S.sc.par self (by simp))) n1 n2) (pe_var (i := 2) rfl (.inl (S.sc.par g (by simp))) n5 n6) (hsw2 _ _))), ?_⟩
    refine ⟨y, rfl, .ref a, rfl, a, C, rfl, T.oex, hno, .inl ⟨ea, fun dx h1 h2 => ?_⟩⟩
    refine ⟨z, rfl, .ref a, rfl, a, C, rfl, T.oex, hno2, .inr ⟨dx, [(f, y)], upd_same, (upd_ne h2).trans upd_same, by simp, ?_⟩⟩
    have e : upd (upd (upd H dx (exd dx [(f, y)])) a (exo a C (some dx))) dx (exd dx [(g, z), (f, y)]) = upd (upd H dx (exd dx [(g, z), (f, y)])) a (exo a C (some dx)) := funext fun b => by
      by_cases hd : b = dx
      · subst hd
        rw [upd_same, upd_ne h2, upd_same]
      · rw [upd_ne hd]
        by_cases ha : b = a
        · subst ha
          rw [upd_same, upd_same]
        · rw [upd_ne ha, upd_ne ha, upd_ne hd, upd_ne hd]
    show Q .non (upd (upd (upd H dx (exd dx [(f, y)])) a (exo a C (some dx))) dx (exd dx [(g, z), (f, y)]))
    rw [e]
    exact hq dx h1 h2
end
/-! ### raise C(e, ..) -/
structure ExOk (P : Program) (w : World) (K : PySem.W.Frag) (mg : Str → Option Value) (base : Heap) (n self : Str) (fs : List Str) : Prop where
  fn : ∃ fd, FnOk P w K mg base (L2.CX P w) 1 (He.ma K (He.ga K n) "__init__") fd (self :: fs) (spI (He.ga K n) fs) ∧ Binds K fd (self :: fs) []
  oex : OexC K (He.ga K n)
  at_ : PySem.W.findIn K (.ref (He.ga K n)) "__init__" = some (some (.ref (He.ma K (He.ga K n) "__init__")))
  ty : PySem.W.typeIn K (.ref (He.ma K (He.ga K n) "__init__")) = some (.type "function")
def fRaise (n : Str) (fl : FL) : FS := fun δ => O.on (fl δ) fun ds => .exc n ds.reverse
section
variable {X : Cx} {e0 : Ent} {E : XK} {k : Nat} {b : Expr} {es : List Expr} {fl : FL} {p p1 pos : Pos} {n : Str}
theorem zr : ∀ (l : List Str) (m : List V), l.length = m.length → (l.zip m).reverse = l.reverse.zip m.reverse
  | [], [], _ => rfl
  | a :: l, b :: m, h => by
    have h' : l.length = m.length := Nat.succ.inj h
    rw [List.zip_cons_cons, List.reverse_cons, List.reverse_cons, List.reverse_cons, zr l m h', List.zip_append (by rw [List.length_reverse, List.length_reverse, h'])]
    rfl
  | [], _ :: _, h => by cases h
  | _ :: _, [], h => by cases h
theorem ds_raise {fs : List Str} {self : Str} (hfs : fs.reverse = exF n) (hlf : fs.length ≤ 900) (x : ExOk X.prog X.w X.K X.mg X.base n self fs) (hr : Room 2 X.A) (hc : X.calm = true) (tk : Takes X (fun cls d _ H => E cls d H)) (hg : Gl X n) (hm : X.mg n = some (.ref (He.ga X.K n)))
    (ha : DA X (fun _ => E) (b :: es) fl) (hn : (b :: es).length = fs.length := by rfl) (hdb : (n == ("__debug__" : Str)) = false := by decide) (he : starEach (b :: es) X.env = (false, eval b X.env) :: starEach es X.env := by rfl) (hpl : (backTo p1 (starEach es X.env)).any (·.1) = false := by rfl) :
    DSt1 X e0 E (.Raise (some (.Call (.Name n p) (b :: es) [] p1)) none pos) (fRaise n fl) := by
  obtain ⟨⟨fd, Fn, hb⟩, T, iC, tI⟩ := x
  refine PS.imp (ps_raise hc tk (pmk_oex T iC tI Fn hr hb (.nil : Vals [] []) passL hg hm ha.pa hdb he hpl)) fun D σ H h => ?_
  obtain ⟨S, δ, st, q⟩ := h
  have q1 := Fin.on st (show Fin X.K e0.M e0.S e0.H E D S H (O.on (fl δ) fun ds => .exc n ds.reverse) from q) (P := fun ds => ∀ cls dx H', KeepM e0.M e0.H H' → ExR X.K e0.S H' cls dx n ds.reverse → E cls dx H') fun ds q2 => q2
  refine ⟨S, δ, st.st, ?_⟩
  cases r : fl δ with
  | bad => rw [r] at q1; exact q1.elim
  | exc m xs => rw [r] at q1; exact q1
  | ok ds =>
    rw [r] at q1
    have q1 : ∀ cls dx H', KeepM e0.M e0.H H' → ExR X.K e0.S H' cls dx n ds.reverse → E cls dx H' := q1
    intro vs H1 e1 r1
    have lv : vs.length = fs.length := r1.length.trans ((ha.len δ ds r).trans hn)
    refine ⟨by rw [lv]; omega, fun a na => ?_⟩
    rw [List.append_nil]
    refine ⟨a, vs, rfl, lv, upd_same, fun dx hd ne => ⟨rfl, dx, (fs.zip vs).reverse, upd_same, (upd_ne ne).trans upd_same, ?_, ?_⟩⟩
    · rwa [upd_ne ne] at hd
    · have hd1 : H1 dx = none := by rwa [upd_ne ne] at hd
      have sm : Same H1 (upd (del (upd (upd (upd H1 a (exo a (He.ga X.K n) none)) dx (exd dx (fs.zip vs).reverse)) a (exo a (He.ga X.K n) (some dx))) a) dx (.xd (fs.zip vs).reverse)) := fun c o hc => by
        have ca : c ≠ a := ne_of_none hc na
        have cd : c ≠ dx := ne_of_none hc hd1
        rw [upd_ne cd, del_ne ca, upd_ne ca, upd_ne cd, upd_ne ca]
        exact hc
      refine q1 _ _ _ (fun c o hc nM => sm _ _ (e1 _ _ (st.same c o hc nM))) ⟨rfl, dx, vs.reverse, rfl, ?_, fun z => ?_, ?_⟩
      · rw [upd_same, zr _ _ lv.symm, hfs]
      · obtain ⟨o, ho⟩ := st.st.here dx (st.sub dx z)
        have := e1 _ _ ho
        rw [hd1] at this
        cases this
      · exact ((r1.mono sm).less (fun b z => st.sub b z)).reverse
end
end DL

/-! DTry: try with except clauses, each with or without a name. -/
namespace DL
open PySem PySem.Spec PyProof.Rows L2
/-! ### the clauses, over the words -/
abbrev HdL : Type := List (Value × Option Nat × (Addr → Value → Option Addr → TS))
def endG : Option Nat → Ends → Ends
  | none, D => D
  | some i, D => { nx := fun σ1 H1 => D.nx (σ1.set i none) H1, rt := D.rt, bk := fun σ1 H1 => D.bk (σ1.set i none) H1, ct := fun σ1 H1 => D.ct (σ1.set i none) H1 }
def setG : Option Nat → Addr → Sg → Sg
  | none, _, σ => σ
  | some i, a, σ => σ.set i (some (.ref a))
def wG (K : PySem.W.Frag) (W0 : WX) (D : Ends) : HdL → WX
  | [] => W0
  | q :: r => fun cls d σ H => ∃ b, PySem.W.exmOne K cls q.1 = some b ∧ (b = true → ∀ a, H a = none → q.2.2 a cls d (endG q.2.1 D) (setG q.2.1 a σ) H) ∧ (b = false → wG K W0 D r cls d σ H)
inductive HdG (X : Cx) : List ExceptHandler → HdL → Prop
  | nil : HdG X [] []
  | only {x : Str} {c : Value} {ts : Addr → Value → Option Addr → TS} {b1 : Stmt} {bs : List Stmt} {np hp : Pos} {hds : List ExceptHandler} {l : HdL} (nm : Names X x c)
      (su : ∀ (a : Addr) (oe : Obj) (cls : Value) (d : Option Addr) (pn : List (Addr × Obj)), Zc cls d oe → (∃ vs, oe.data = .fields vs) → PSs (X.suite a ((a, oe) :: pn)) (b1 :: bs) (ts a cls d)) (r : HdG X hds l) :
      HdG X (.ExceptHandler (some (.Name x np)) none (b1 :: bs) hp :: hds) ((c, none, ts) :: l)
  | as_ {x n : Str} {i : Nat} {c : Value} {ts : Addr → Value → Option Addr → TS} {b1 : Stmt} {bs : List Stmt} {np hp : Pos} {hds : List ExceptHandler} {l : HdL} (nm : Names X x c) (nd : X.N.Nodup) (hi : X.N[i]? = some n) (hl : X.env.kindOf n = some .local)
      (su : ∀ (a : Addr) (oe : Obj) (cls : Value) (d : Option Addr) (pn : List (Addr × Obj)), Zc cls d oe → (∃ vs, oe.data = .fields vs) → PSs (X.suite a ((a, oe) :: pn)) (b1 :: bs) (ts a cls d)) (r : HdG X hds l) :
      HdG X (.ExceptHandler (some (.Name x np)) (some n) (b1 :: bs) hp :: hds) ((c, some i, ts) :: l)
section
variable {X : Cx} {body : List Stmt} {hd1 : ExceptHandler} {hds : List ExceptHandler} {l : HdL} {pos : Pos} {tb : WX → TS} {W0 : WX}
theorem ps_tryG (stk : X.stack = X.env :: X.outer) (frm : X.env.frame = some X.env.locals) (tk : Takes X W0)
    (hb : ∀ (W : WX) (pn : List (Addr × Obj)) (xe : Value → Shared → Prop), Takes (X.tr pn xe) W → PassesOwn (model X.prog X.w) X.A X.env xe → PSs (X.tr pn xe) body (tb W))
    (hh : HdG X (hd1 :: hds) l) : PS X (.Try body (hd1 :: hds) [] [] pos) (fun D σ H => tb (wG X.K W0 D l) D σ H) := by
  refine ⟨fun pins s σ H D I q0 => ?_⟩
  have okX := I.ok
  have frs0 : X.A.frames = some (X.env :: X.outer) := by rw [okX.frames, stk]
  refine wpAny_Try_except ?_
  refine wpAny_mono ((hb (wG X.K W0 D l) (X.pn ++ pins) (fun e t1 => wpAny (model X.prog X.w) X.A (noteFrame e X.env) (fun _ t2 => wpAny (model X.prog X.w) X.A (setFlight e none) (fun _ t3 =>
    wpAny (model X.prog X.w) X.A (handleBy e X.env (hd1 :: hds)) (SP X pins D) X.xe t3) X.xe t2) X.xe t1) (fun u s9 air => ?_) PassesOwn.looking).run [] s σ H D (I.toTry _) q0) (fun f t1 h1 => ?_) (fun e t1 z => z)
  · obtain ⟨a, B, sI, pins9, σ9, H9, cls, d, rfl, J0, nb, up, sky, na, os, ag, wish⟩ := air
    have J : Inv X pins σ9 H9 sI := J0.ofTry okX
    rw [stk] at sky
    show wpAny (model X.prog X.w) X.A (noteFrame (.ref a) X.env) _ _ _
    refine Sky.land Zc.steady frs0 frm sky fun hp3 fly upB => ?_
    have upA := up.trans upB
    have J3 : Inv X pins σ9 H9 { s9 with heap := hp3 } := J.landed nb fly.1 upA os ag
    obtain ⟨ox, vx, atX, zX, datX⟩ := fly.there
    have away : a ∉ frs (X.env :: X.outer) := fun hm => by
      obtain ⟨_, ob, e9, hn⟩ := fly.2.2.1.mem hm
      rw [atX] at e9; cases e9
      exact hn _ datX
    have nL : a ≠ X.env.locals := fun z => away (List.mem_filterMap.mpr ⟨X.env, List.mem_cons_self, by rw [frm, z]⟩)
    have nF : a ∉ X.fs := fun hm => by
      obtain ⟨e, he, q⟩ := List.mem_filterMap.mp hm
      exact away (List.mem_filterMap.mpr ⟨e, List.mem_cons_of_mem _ he, q⟩)
    have S3 := J3.suite atX datX na nL nF
    have ask : ∀ {x : Str} {c : Value} {np : Pos} {Q E1 : Value → Shared → Prop}, Names X x c → Q c { s9 with heap := hp3 } → wpAny (model X.prog X.w) (X.A.mark (some (.ref a))) (eval (.Name x np) X.env) Q E1 { s9 with heap := hp3 } := fun {x c np Q E1} nm q => by
      obtain ⟨g1, g2, g3 | ⟨g3, g4, g5⟩⟩ := nm
      · exact ld_glob (X := X.suite a ((a, ox) :: (X.pn ++ pins))) S3 g1 g3 q g2
      · exact ld_blt (X := X.suite a ((a, ox) :: (X.pn ++ pins))) S3 g1 g3 g4 q g5 g2
    have typ1 : PySem.W.Looks (model X.prog X.w) hp3 (typeOf (.ref a)) cls := fun A1 Q1 E1 s1 k q => wpAny_typeOf_ref (k _ _ atX) (by rw [zX.1]; exact q)
    have try1 : ∀ {hs1 : List ExceptHandler} {l1 : HdL}, HdG X hs1 l1 → wG X.K W0 D l1 cls d σ9 H9 →
        wpAny (model X.prog X.w) X.A (handleBy (.ref a) X.env hs1) (SP X pins D) X.xe { s9 with heap := hp3 } := by
      intro hs1 l1 hk
      induction hk with
      | nil =>
        intro wish1
        refine wpAny_handleBy_nil ?_
        obtain ⟨_, _, _, o7, vs7, T7, _, _, g1, _, g3, g4, _⟩ := id fly
        unfold PySem.passOn
        refine wpAny_bind (wpAny_field g1 g3 g4 ?_)
        rw [if_neg (show ¬ ((Value.ref T7 == Value.none) = true) from by simp)]
        have out : wpAny (model X.prog X.w) X.A (setFlight (.ref a) X.env.frame) (fun _ t4 => wpAny (model X.prog X.w) X.A (throw (.ref a) : Sem Flow) (SP X pins D) X.xe t4) X.xe { s9 with heap := hp3 } := by
          rw [frm]
          exact HandSPX.setFlight_upZ fly fun hp4 held upC => wpAny_throw (tk _ _ ⟨a, B, sI, pins, σ9, H9, cls, d, rfl, J, nb, upA.trans upC, .inr (.inr (by rw [stk]; exact held)), na, os, ag, wish1⟩)
        first
          | exact wpAny_bind (wpAny_pure (wpAny_bind out))
          | exact wpAny_bind out
      | @only x c ts b1 bs np hpp hds2 l2 nm su r ih =>
        intro wish1
        obtain ⟨b, ex1, yes, no⟩ := wish1
        refine wpAny_handleBy_cons (codeAny_handlers_test ?_) (by intro q; cases q)
        refine ask nm ((PySem.W.exm_one (M := model X.prog X.w) J3.kIn typ1 ex1).here ?_)
        cases b with
        | false => exact ih (no rfl)
        | true =>
          refine codeAny_handlers_suite (HandSPX.lands_againZ fly fun hp4 fly4 upC => ?_)
          have J4 : Inv X pins σ9 H9 { s9 with heap := hp4 } := J.landed nb fly4.1 (upA.trans upC) os ag
          obtain ⟨o4, v4, at4, z4, dat4⟩ := fly4.there
          refine wpAny_mono ((su a o4 cls d (X.pn ++ pins) z4 ⟨_, dat4⟩).run [] _ _ H9 _ (J4.suite at4 dat4 na nL nF) (yes rfl a na)) (fun f t6 h6 => ?_) (fun _ _ z => z.elim)
          cases f with
          | ret u => obtain ⟨v6, σ6, H6, S6, r6, q6⟩ := h6; exact ⟨_, _, _, S6.unsuite okX, r6, q6⟩
          | next => obtain ⟨σ6, H6, S6, q6⟩ := h6; exact ⟨_, _, S6.unsuite okX, q6⟩
          | brk => obtain ⟨σ6, H6, S6, q6⟩ := h6; exact ⟨_, _, S6.unsuite okX, q6⟩
          | cont => obtain ⟨σ6, H6, S6, q6⟩ := h6; exact ⟨_, _, S6.unsuite okX, q6⟩
      | @as_ x n i c ts b1 bs np hpp hds2 l2 nm nd hi hl su r ih =>
        intro wish1
        obtain ⟨b, ex1, yes, no⟩ := wish1
        refine wpAny_handleBy_cons (codeAny_handlers_test ?_) (by intro q; cases q)
        refine ask nm ((PySem.W.exm_one (M := model X.prog X.w) J3.kIn typ1 ex1).here ?_)
        cases b with
        | false => exact ih (no rfl)
        | true =>
          refine codeAny_handlers_suite_as (HandSPX.lands_againZ fly fun hp4 fly4 upC => ?_)
          have J4 : Inv X pins σ9 H9 { s9 with heap := hp4 } := J.landed nb fly4.1 (upA.trans upC) os ag
          obtain ⟨o4, v4, at4, z4, dat4⟩ := fly4.there
          refine store_ok (X := X.suite a ((a, o4) :: (X.pn ++ pins))) (v := .ref a) (J4.suite at4 dat4 na nL nF) nd hi (.inl hl) rfl (fun t5 S5 => ?_) (.inr hl)
          refine wpAny_mono ((su a o4 cls d (X.pn ++ pins) z4 ⟨_, dat4⟩).run [] t5 _ H9 _ S5 (yes rfl a na)) (fun f t6 h6 => ?_) (fun _ _ z => z.elim)
          have bye : ∀ {σ6 : Sg} {H6 : Hp} {Q : Shared → Prop}, Inv (X.suite a ((a, o4) :: (X.pn ++ pins))) [] σ6 H6 t6 → (∀ t7, Inv X pins (σ6.set i none) H6 t7 → Q t7) →
              wpAny (model X.prog X.w) X.A (do bindName X.env n .none; unbindBehindTheSuite X.env n hpp) (fun _ t7 => Q t7) X.xe t6 := fun {σ6 H6 Q} S6 q7 => gone_ok (S6.unsuite okX) nd hi hl q7
          cases f with
          | ret u => obtain ⟨v6, σ6, H6, S6, r6, q6⟩ := h6; exact bye S6 fun t7 J7 => ⟨_, _, _, J7, r6, q6⟩
          | next => obtain ⟨σ6, H6, S6, q6⟩ := h6; exact bye S6 fun t7 J7 => ⟨_, _, J7, q6⟩
          | brk => obtain ⟨σ6, H6, S6, q6⟩ := h6; exact bye S6 fun t7 J7 => ⟨_, _, J7, q6⟩
          | cont => obtain ⟨σ6, H6, S6, q6⟩ := h6; exact bye S6 fun t7 J7 => ⟨_, _, J7, q6⟩
    exact try1 hh wish
  · cases f with
    | ret u => obtain ⟨v, σ1, H1, J1, r1, q1⟩ := h1; exact ⟨v, σ1, H1, J1.ofTry okX, r1, q1⟩
    | next => obtain ⟨σ1, H1, J1, q1⟩ := h1; exact wpAny_execs_nil ⟨σ1, H1, J1.ofTry okX, q1⟩
    | brk => obtain ⟨σ1, H1, J1, q1⟩ := h1; exact ⟨σ1, H1, J1.ofTry okX, q1⟩
    | cont => obtain ⟨σ1, H1, J1, q1⟩ := h1; exact ⟨σ1, H1, J1.ofTry okX, q1⟩
end
/-! ### the body of a try: one statement -/
def FinW (K : PySem.W.Frag) (e0 : Ent) (W : WX) (σ : Sg) (D : Ends) (S : Addr → Prop) (H : Hp) : O → Prop
  | .nx δ => ∀ S' σ' H', StS K e0.M e0.S e0.H S' σ' H' δ → Ev S H S' H' → D.nx σ' H'
  | .rt d δ => ∀ S' σ' v H', StS K e0.M e0.S e0.H S' σ' H' δ → Rep K S' H' v d → D.rt v H'
  | .bk δ => ∀ S' σ' H', StS K e0.M e0.S e0.H S' σ' H' δ → Ev S H S' H' → D.bk σ' H'
  | .ct δ => ∀ S' σ' H', StS K e0.M e0.S e0.H S' σ' H' δ → Ev S H S' H' → D.ct σ' H'
  | .exc n xs => ∀ cls dx H', Same H H' → ExR K S H' cls dx n xs → W cls dx σ H'
  | .bad => False
def tW (K : PySem.W.Frag) (e0 : Ent) (W : WX) (F : FS) : TS := fun D σ H => ∃ S δ, StS K e0.M e0.S e0.H S σ H δ ∧ FinW K e0 W σ D S H (F δ)
theorem FinW.same {K : PySem.W.Frag} {e0 : Ent} {W : WX} {σ : Sg} {D : Ends} {S : Addr → Prop} {H H1 : Hp} {o : O} (e : Same H H1) (h : FinW K e0 W σ D S H o) : FinW K e0 W σ D S H1 o := by
  cases o with
  | nx δ => exact fun S' σ' H' s e' => h S' σ' H' s ((Ev.same e).trans e')
  | rt d δ => exact h
  | bk δ => exact fun S' σ' H' s e' => h S' σ' H' s ((Ev.same e).trans e')
  | ct δ => exact fun S' σ' H' s e' => h S' σ' H' s ((Ev.same e).trans e')
  | exc n xs => exact fun cls dx H' e' x => h cls dx H' (e.trans e') x
  | bad => exact h
section
variable {X : Cx} {e0 : Ent} {W : WX} {a c : Expr} {f : FE} {pos : Pos} {F G : FS}
theorem FinW.on {α : Type} {K : PySem.W.Frag} {σ : Sg} {D : Ends} {S : Addr → Prop} {H : Hp} {r : R α} {g : α → O} (h : FinW K e0 W σ D S H (O.on r g)) {P : α → Prop} (k : ∀ x, FinW K e0 W σ D S H (g x) → P x) : Res K S H (WE W σ) r P := by
  cases r with
  | ok x => exact k x h
  | exc n xs => exact h
  | bad => exact h
theorem bo_set {i : Nat} {x : Str} {pos' : Pos} (hN : X.N.Nodup) (hi : X.N[i]? = some x) (hx : Loc X.env.scope x) (h : DE X (WE W) a f) (hs : swapsWith a (some (.Name x pos')) pos.line X.env = pure false := by rfl)
    (hf : X.fn x = true ∨ X.env.scope.names.lookup x = some .local := by first | exact .inl rfl | exact .inr rfl | assumption) : PS X (.Assign [.Name x pos'] a pos) (tW X.K e0 W (fSet i f)) :=
  PS.imp (ps_set hN hi hx h hs hf) fun D σ H hq => by
    obtain ⟨S, δ, s, q⟩ := hq
    exact ⟨S, δ, s.st, FinW.on q fun d q1 v H' e' r => q1 S _ H' ((s.mono e').set i r) (.same e')⟩
theorem bo_expr (h : DE X (WE W) a f) (hs : swapsWith a none pos.line X.env = pure false := by rfl) : PS X (.Expr a pos) (tW X.K e0 W (fExp f)) :=
  PS.imp (ps_expr h hs) fun D σ H hq => by
    obtain ⟨S, δ, s, q⟩ := hq
    exact ⟨S, δ, s.st, FinW.on q fun d q1 v H' e' r => q1 S σ H' (s.mono e') (.same e')⟩
theorem bo_if {t : FB} {A B : List Stmt} (hc : DB X (WE W) c t) (ha : PSs X A (tW X.K e0 W F)) (hb : PSs X B (tW X.K e0 W G)) : PS X (.If c A B pos) (tW X.K e0 W (fIfS t F G)) :=
  PS.imp (ps_if hc ha hb) fun D σ H hq => by
    obtain ⟨S, δ, s, q⟩ := hq
    refine ⟨S, δ, s.st, FinW.on q fun b q1 H' e' => ?_⟩
    cases b with
    | true => exact ⟨S, δ, s.mono e', q1.same e'⟩
    | false => exact ⟨S, δ, s.mono e', q1.same e'⟩
theorem Bd.tr {E : Sg → XK} {k : Nat} (B : Bd X E k) {pn : List (Addr × Obj)} {xe : Value → Shared → Prop} (tk : Takes (X.tr pn xe) W) (ow : PassesOwn (model X.prog X.w) X.A X.env xe) : Bd (X.tr pn xe) (WE W) k := ⟨B.room, fun σ => passAt tk σ, B.calm, ow⟩
end
/-! ### the clauses over the data -/
abbrev HM : Type := (Str → Option Bool) × (Str → List D → FS)
def fHs : List HM → Str → List D → FS
  | [] => fun n xs _ => .exc n xs
  | q :: r => fun n xs δ => match q.1 n with
    | some true => q.2 n xs δ
    | some false => fHs r n xs δ
    | none => .bad
def tryO (hs : List HM) (δ : DSt) : O → O
  | .exc n xs => fHs hs n xs δ
  | o => o
def fTry (F : FS) (hs : List HM) : FS := fun δ => tryO hs δ (F δ)
structure HdD (X : Cx) (e0 : Ent) (E : XK) (hds : List ExceptHandler) (hs : List HM) : Prop where
  x : ∃ l, HdG X hds l ∧ ∀ (De : Ends) (σ : Sg) (H : Hp) (S : Addr → Prop) (δ : DSt) (n : Str) (xs : List D) (cls : Value) (d : Option Addr), StS X.K e0.M e0.S e0.H S σ H δ → ExR X.K S H cls d n xs → Fin X.K e0.M e0.S e0.H E De S H (fHs hs n xs δ) →
    wG X.K (fun cls d _ H => E cls d H) De l cls d σ H
/-- a class's answers -/
abbrev XT : Type := List (Str × Bool)
def XTok (K : PySem.W.Frag) (c : Value) (t : XT) : Prop := ∀ q ∈ t, PySem.W.exmOne K (.ref (He.ga K q.1)) c = some q.2
theorem xt_nil {K : PySem.W.Frag} {c : Value} : XTok K c [] := fun q h => by cases h
theorem xt_cons {K : PySem.W.Frag} {c : Value} {n : Str} {b : Bool} {t : XT} (h : PySem.W.exmOne K (.ref (He.ga K n)) c = some b) (r : XTok K c t) : XTok K c ((n, b) :: t) := fun q hq => by
  rcases List.mem_cons.mp hq with e | hq
  · rw [e]; exact h
  · exact r q hq
theorem lookup_mem {t : XT} {n : Str} {b : Bool} (h : t.lookup n = some b) : (n, b) ∈ t := by
  induction t with
  | nil => cases h
  | cons q t ih =>
    obtain ⟨m, c⟩ := q
    rw [List.lookup_cons] at h
    split at h
    · rename_i e
      have e : n = m := eq_of_beq e
      cases h
      rw [e]; exact List.mem_cons_self
    · exact List.mem_cons_of_mem _ (ih h)
section
variable {X : Cx} {e0 : Ent} {E : XK} {x : Str} {c : Value} {b1 : Stmt} {bs : List Stmt} {np hp : Pos} {hds : List ExceptHandler} {hs : List HM} {t : XT} {pos : Pos} {G : FS}
theorem names_bt {T : String} (hg : Gl X x) (hd : (x == ("__debug__" : Str)) = false) (hm : X.mg x = none) (hv : bootBuiltins x = some (.type T)) (hn : x ≠ "__name__") : Names X x (.type T) := ⟨hg, hd, .inr ⟨hm, hv, hn⟩⟩
theorem hdd_nil : HdD X e0 E [] [] := ⟨[], .nil, fun D σ H S δ n xs cls d s ex q => q cls d H s.same (ex.to s.sub)⟩
theorem hdd_only (nm : Names X x c) (ht : XTok X.K c t) (su : ∀ (a : Addr) (pn : List (Addr × Obj)), DSts (X.suite a pn) e0 E (b1 :: bs) G) (r : HdD X e0 E hds hs) :
    HdD X e0 E (.ExceptHandler (some (.Name x np)) none (b1 :: bs) hp :: hds) ((fun n => t.lookup n, fun _ _ => G) :: hs) := by
  obtain ⟨l, g, w⟩ := r
  refine ⟨(c, none, fun a cls d => tS X.K e0.M e0.S e0.H E G) :: l, .only nm (fun a oe cls d pn _ _ => su a _) g, fun D σ H S δ n xs cls d s ex q => ?_⟩
  have ec := ex.1
  subst ec
  unfold fHs at q
  dsimp only at q
  cases e : t.lookup n with
  | none => rw [e] at q; exact q.elim
  | some b =>
    rw [e] at q
    refine ⟨b, ht _ (lookup_mem e), fun eb a na => ?_, fun eb => ?_⟩
    · subst eb; exact ⟨S, δ, s, q⟩
    · subst eb; exact w D σ H S δ n xs _ d s ex q
theorem ds_try {body : Stmt} {hd1 : ExceptHandler} {F : FS} (stk : X.stack = X.env :: X.outer) (frm : X.env.frame = some X.env.locals) (tk : Takes X (fun cls d _ H => E cls d H))
    (hb : ∀ (W : WX) (pn : List (Addr × Obj)) (xe : Value → Shared → Prop), Takes (X.tr pn xe) W → PassesOwn (model X.prog X.w) X.A X.env xe → PS (X.tr pn xe) body (tW X.K e0 W F)) (hh : HdD X e0 E (hd1 :: hds) hs) :
    DSt1 X e0 E (.Try [body] (hd1 :: hds) [] [] pos) (fTry F hs) := by
  obtain ⟨l, g, w⟩ := hh
  refine PS.imp (ps_tryG stk frm tk (fun W pn xe t1 t2 => pss_one (hb W pn xe t1 t2)) g) fun D σ H hq => ?_
  obtain ⟨S, δ, s, q⟩ := hq
  refine ⟨S, δ, s, ?_⟩
  unfold fTry at q
  cases e : F δ with
  | exc n xs =>
    rw [e] at q
    exact fun cls d H' e' ex => w D σ H' S δ n xs cls d (s.mono e') ex (Fin.ev (.same e') q)
  | nx δ' => rw [e] at q; exact q
  | rt d δ' => rw [e] at q; exact q
  | bk δ' => rw [e] at q; exact q
  | ct δ' => rw [e] at q; exact q
  | bad => rw [e] at q; exact q
end
/-- isinstance of an error of the class n with the class m -/
structure ExI (K : PySem.W.Frag) (n m : Str) : Prop where
  x : XfC K (He.ga K n)
  cl : (PySem.W.clsIn K (He.ga K n)).isSome = true
  ha : PySem.W.findIn K (.ref (He.ga K n)) "__class__" = some (some (.builtin "object.__class__"))
  hn : PySem.W.specialIn K (.builtin "object.__class__") "__get__" = some (some (.builtin "getset_descriptor.__get__"))
  tk : PySem.W.takesIn K (.builtin "object.__class__") = some true
  hm : PySem.W.mroIn K (He.ga K n) (.type "object") = some true
  kit : PySem.W.kitOne K (.ref (He.ga K n)) (.ref (He.ga K m)) = some true
/-! ### a suite with the error's name: stores alone -/
def fldOf (m fld : Str) (xs : List D) : R D := R.of (((exF m).zip xs).lookup fld)
theorem zip_lookup {K : PySem.W.Frag} {S : Addr → Prop} {H : Hp} {fld : Str} {r : D} : ∀ {fs : List Str} {vs : List V} {xs : List D}, RepL K S H vs xs → (fs.zip xs).lookup fld = some r → ∃ v, (fs.zip vs).lookup fld = some v ∧ Rep K S H v r
  | [], _, _, _, h => by cases h
  | f :: fs, [], [], _, h => by cases h
  | f :: fs, v :: vs, x :: xs, .cons h1 h2, h => by
    rw [List.zip_cons_cons, List.lookup_cons] at h
    rw [List.zip_cons_cons, List.lookup_cons]
    cases e : (fld == f) with
    | true => rw [e] at h; cases h; exact ⟨v, rfl, h1⟩
    | false => rw [e] at h; exact zip_lookup h2 h
def tZ (K : PySem.W.Frag) (i : Nat) (a : Addr) (cls : Value) (d : Option Addr) (m : Str) (f : List D → FE) : TE := fun σ H Q => ∃ xs S δ, StE K S σ H δ ∧ σ[i]? = some (some (.ref a)) ∧ ExR K S H cls d m xs ∧ ∃ r, f xs δ = .ok r ∧ ∀ v H', Same H H' → Rep K S H' v r → Q v H'
def tZL (K : PySem.W.Frag) (i : Nat) (a : Addr) (cls : Value) (d : Option Addr) (m : Str) (f : List D → FL) : TA := fun σ H Q => ∃ xs S δ, StE K S σ H δ ∧ σ[i]? = some (some (.ref a)) ∧ ExR K S H cls d m xs ∧ ∃ r, f xs δ = .ok r ∧ ∀ v H', Same H H' → RepL K S H' v r → Q v H'
def DZ (X : Cx) (i : Nat) (m : Str) (e : Expr) (f : List D → FE) : Prop := ∀ (a : Addr) (oe : Obj) (cls : Value) (d : Option Addr) (pn : List (Addr × Obj)), Zc cls d oe → (∃ vs, oe.data = .fields vs) → PE (X.suite a ((a, oe) :: pn)) e (tZ X.K i a cls d m f)
structure DZA (X : Cx) (i : Nat) (m : Str) (es : List Expr) (f : List D → FL) : Prop where
  pa : ∀ (a : Addr) (oe : Obj) (cls : Value) (d : Option Addr) (pn : List (Addr × Obj)), Zc cls d oe → (∃ vs, oe.data = .fields vs) → PA (X.suite a ((a, oe) :: pn)) es (tZL X.K i a cls d m f)
  len : ∀ xs δ ds, f xs δ = .ok ds → ds.length = es.length
section
variable {X : Cx} {i : Nat} {m n : Str} {e : Expr} {es : List Expr} {f : List D → FE} {fl : List D → FL} {pos p p2 : Pos}
theorem ExR.mono {K : PySem.W.Frag} {S : Addr → Prop} {H H1 : Hp} {cls : Value} {d : Option Addr} {xs : List D} (h : ExR K S H cls d n xs) (k : Same H H1) : ExR K S H1 cls d n xs := by
  obtain ⟨h1, a, vs, h2, h3, h4, h5⟩ := h
  exact ⟨h1, a, vs, h2, k _ _ h3, h4, h5.mono k⟩
theorem dz_of {g : FE} (h : ∀ (a : Addr) (pn : List (Addr × Obj)), DE (X.suite a pn) E0s e g) : DZ X i m e fun _ => g := fun a oe cls d pn _ _ => PE.imp (h a _) fun σ H Q hq => by
  obtain ⟨xs, S, δ, st, _, _, r, er, k⟩ := hq
  have er : g δ = .ok r := er
  exact ⟨S, δ, st, by rw [er]; exact k⟩
theorem dz_att {fld : Str} (T : XfC X.K (He.ga X.K m)) (no : PySem.W.findIn X.K (.ref (He.ga X.K m)) fld = some none) (hN : X.N[i]? = some n) (hv : Vis X.env.scope n) (hd : (n == ("__debug__" : Str)) = false := by decide) (hcd : (n == ("__classdict__" : Str)) = false := by decide)
    (hb : attributeBase (.Name n p) fld X.env (eval (.Name n p) X.env) = eval (.Name n p) X.env := by rfl) : DZ X i m (.Attribute (.Name n p) fld pos) fun xs _ => fldOf m fld xs := fun a oe cls d pn z1 z2 =>
  PE.imp (pe_xf T no z1 z2 (pe_var (X := X.suite a ((a, oe) :: pn)) hN hv hd hcd) hb) fun σ H Q hq => by
    obtain ⟨xs, S, δ, st, es, ⟨ec, dd, vs, ed, eh, ns, rl⟩, r, er, k⟩ := hq
    have er : R.of (((exF m).zip xs).lookup fld) = .ok r := er
    cases q : ((exF m).zip xs).lookup fld with
    | none => rw [q] at er; cases er
    | some r' =>
      rw [q] at er
      cases er
      obtain ⟨v, lv, rv⟩ := zip_lookup rl q
      exact ⟨_, es, rfl, ec, dd, _, v, ed, eh, lv, k v H (fun _ _ h => h) rv⟩
theorem dz_isi {L : Str} (Z : ExI X.K m L) (hN : X.N[i]? = some n) (hv : Vis X.env.scope n) (hg : Gl X "isinstance") (hmi : X.mg "isinstance" = none) (hgL : Gl X L) (hmL : X.mg L = some (.ref (He.ga X.K L)))
    (hdL : (L == ("__debug__" : Str)) = false := by decide) (hd : (n == ("__debug__" : Str)) = false := by decide) (hcd : (n == ("__classdict__" : Str)) = false := by decide)
    (hs1 : starEach [.Name n p, .Name L p2] X.env = (false, eval (.Name n p) X.env) :: starEach [.Name L p2] X.env := by rfl) (hs2 : starEach [.Name L p2] X.env = (false, eval (.Name L p2) X.env) :: starEach [] X.env := by rfl)
    (hpl : (backTo pos (starEach [.Name L p2] X.env)).any (·.1) = false := by rfl) {p3 : Pos} : DZ X i m (.Call (.Name "isinstance" p3) [.Name n p, .Name L p2] [] pos) fun _ => fC (.bl true) := fun a oe cls d pn z1 z2 => by
  have cr : CallR (X.suite a ((a, oe) :: pn)) (.builtin "isinstance") (fun vs H Q => vs = [.ref a, .ref (He.ga X.K L)] ∧ cls = .ref (He.ga X.K m) ∧ (∃ dd fs, d = some dd ∧ H dd = some (.xd fs)) ∧ Q (.bl true) H) := by
    intro pins s σ H vs us Q I r hq
    obtain ⟨ev, ec, ⟨dd, fs, ed, eh⟩, q⟩ := hq
    subst ev ec ed
    obtain ⟨u1, u2, rfl, r1, r2⟩ := vals2 r
    cases (show u1 = Value.ref a from r1)
    cases (show u2 = Value.ref (He.ga X.K L) from r2)
    obtain ⟨ap, _⟩ := I.pin (a, oe) (List.mem_append_left _ List.mem_cons_self)
    obtain ⟨vv, dv⟩ := z2
    obtain ⟨mA, hns, _⟩ := (show ObjOk X.prog X.w H s.heap dd (.xd fs) from I.hok dd _ eh)
    obtain ⟨od, ho, _⟩ := lookIn_ns hns
    have J : PySem.W.InstAt s.heap a oe (He.ga X.K m) (some od) := ⟨ap, z1.1, by unfold PySem.W.notCls; rw [dv] <;> rfl, by rw [z1.2]; exact ho⟩
    exact PySem.W.kia_one (PySem.W.kitx_exc Z.cl Z.x.ga Z.x.gg Z.x.exC Z.ha Z.hn Z.tk Z.hm) I.kIn J Z.kit (by intro z; cases z) fun tk => ⟨.bl true, H, I.tok tk, rfl, q⟩
  refine PE.imp (pe_callB cr hg hmi PyProof.Rows.boot_isinstance (pa_cons (pe_var (X := X.suite a ((a, oe) :: pn)) hN hv hd hcd) (pa_cons (pe_glob (X := X.suite a ((a, oe) :: pn)) (v := .ref (He.ga X.K L)) hgL hmL rfl hdL) pa_nil hs2) hs1) (by decide) (by decide) hs1 hpl) fun σ H Q hq => ?_
  obtain ⟨xs, S, δ, st, es, ⟨ec, dd, vs, ed, eh, _, _⟩, r, er, k⟩ := hq
  cases er
  exact ⟨_, es, rfl, ec, ⟨dd, _, ed, eh⟩, k _ _ (fun _ _ h => h) (.bl _)⟩
theorem dza_nil : DZA X i m [] fun _ => fNil := ⟨fun a oe cls d pn _ _ => PA.imp (pa_nil (X := X.suite a ((a, oe) :: pn))) fun σ H Q hq => by
    obtain ⟨xs, S, δ, st, _, _, r, er, k⟩ := hq
    have er : R.ok [] = R.ok r := er
    cases er
    exact k [] H (fun _ _ h => h) .nil, fun xs δ ds h => by
    have h : R.ok [] = R.ok ds := h
    cases h; rfl⟩
theorem dza_cons (ha : DZ X i m e f) (hr : DZA X i m es fl) (hs : starEach (e :: es) X.env = (false, eval e X.env) :: starEach es X.env := by rfl) : DZA X i m (e :: es) fun xs => fCons (f xs) (fl xs) := by
  have split : ∀ xs δ rs, fCons (f xs) (fl xs) δ = .ok rs → ∃ r rs', f xs δ = .ok r ∧ fl xs δ = .ok rs' ∧ rs = r :: rs' := fun xs δ rs h => by
    unfold fCons at h
    cases q : f xs δ with
    | ok d =>
      rw [q, R.bind_ok] at h
      cases q2 : fl xs δ with
      | ok es' => rw [q2, R.bind_ok] at h; cases h; exact ⟨d, es', rfl, rfl, rfl⟩
      | exc n xs => rw [q2] at h; cases h
      | bad => rw [q2] at h; cases h
    | exc n xs => rw [q] at h; cases h
    | bad => rw [q] at h; cases h
  refine ⟨fun a oe cls d pn z1 z2 => PA.imp (pa_cons (ha a oe cls d pn z1 z2) (hr.pa a oe cls d pn z1 z2) hs) fun σ H Q hq => ?_, fun xs δ ds h => ?_⟩
  · obtain ⟨xs, S, δ, st, es1, ex, rs, er, k⟩ := hq
    obtain ⟨r, rs', e1, e2, rfl⟩ := split xs δ rs er
    exact ⟨xs, S, δ, st, es1, ex, r, e1, fun v H1 k1 r1 => ⟨xs, S, δ, st.mono k1, es1, ex.mono k1, rs', e2, fun vs H2 k2 r2 => k (v :: vs) H2 (k1.trans k2) (.cons (r1.mono k2) r2)⟩⟩
  · obtain ⟨r, rs', e1, e2, rfl⟩ := split xs δ ds h
    exact congrArg Nat.succ (hr.len _ _ _ e2)
theorem dz_lst (h : DZA X i m es fl) (hl : es.length ≤ sizeLine := by exact Nat.le_of_ble_eq_true rfl) : DZ X i m (.List es pos) fun xs => fLst (fl xs) := fun a oe cls d pn z1 z2 =>
  PE.imp (pe_lst (h.pa a oe cls d pn z1 z2)) fun σ H Q hq => by
    obtain ⟨xs, S, δ, st, es1, ex, r, er, k⟩ := hq
    have er : ((fl xs δ).bind fun xs => R.of (some (D.lst xs))) = R.ok r := er
    cases q : fl xs δ with
    | bad => rw [q] at er; cases er
    | exc n ys => rw [q] at er; cases er
    | ok ds =>
      rw [q] at er
      have er : R.ok (D.lst ds) = R.ok r := er
      cases er
      refine ⟨xs, S, δ, st, es1, ex, ds, q, fun vs H1 e1 r1 => ⟨by rw [r1.length, h.len _ _ _ q]; exact hl, fun p hp => ?_⟩⟩
      exact Giv.lst (fun w H2 e2 r2 => k w H2 (e1.trans e2) r2) (st.mono e1).here r1 p hp
end
/-! ### the suite's statements -/
def tZs (K : PySem.W.Frag) (e0 : Ent) (i : Nat) (a : Addr) (cls : Value) (d : Option Addr) (m : Str) (G : List D → FS) : TS := fun De σ H => ∃ xs S δ, StS K e0.M e0.S e0.H S σ H δ ∧ σ[i]? = some (some (.ref a)) ∧ ExR K S H cls d m xs ∧ ∃ δ1, G xs δ = .nx δ1 ∧
  ∀ S' σ' H', StS K e0.M e0.S e0.H S' σ' H' δ1 → Ev S H S' H' → De.nx σ' H'
def DZs (X : Cx) (e0 : Ent) (i : Nat) (m : Str) (st : List Stmt) (G : List D → FS) : Prop := ∀ (a : Addr) (oe : Obj) (cls : Value) (d : Option Addr) (pn : List (Addr × Obj)), Zc cls d oe → (∃ vs, oe.data = .fields vs) → PSs (X.suite a ((a, oe) :: pn)) st (tZs X.K e0 i a cls d m G)
theorem StS.gone {K : PySem.W.Frag} {M S0 S : Addr → Prop} {H0 H : Hp} {σ : Sg} {δ : DSt} (s : StS K M S0 H0 S σ H δ) (i : Nat) (o : Option V) : StS K M S0 H0 S (σ.set i o) H (δ.set i .un) := by
  refine ⟨⟨by rw [List.length_set, List.length_set, s.st.len], fun j t h => ?_, fun j k a t u h1 h2 m1 m2 h3 h4 => ?_, s.st.here⟩, s.same, s.sub, s.dom, s.ms, fun j a t h1 m1 h2 => ?_⟩
  · rcases set_get h with ⟨rfl, rfl⟩ | ⟨hne, h⟩
    · have hl : j < δ.length := by
        have := (List.getElem?_eq_some_iff.mp h).1
        rwa [List.length_set] at this
      exact ⟨o, List.getElem?_set_self (by rw [s.st.len]; exact hl), True.intro⟩
    · obtain ⟨o', w1, w2⟩ := s.st.slot j t h
      exact ⟨o', by rw [List.getElem?_set_ne (Ne.symm hne)]; exact w1, w2⟩
  · rcases set_get h1 with ⟨_, e⟩ | ⟨n1, h1⟩
    · subst e; cases m1
    · rcases set_get h2 with ⟨_, e⟩ | ⟨n2, h2⟩
      · subst e; cases m2
      · rw [List.getElem?_set_ne (Ne.symm n1)] at h3
        rw [List.getElem?_set_ne (Ne.symm n2)] at h4
        exact s.st.sep j k a t u h1 h2 m1 m2 h3 h4
  · rcases set_get h1 with ⟨_, e⟩ | ⟨n1, h1⟩
    · subst e; cases m1
    · rw [List.getElem?_set_ne (Ne.symm n1)] at h2
      exact s.own j a t h1 m1 h2
section
variable {X : Cx} {e0 : Ent} {E : XK} {i j : Nat} {m x y : Str} {e : Expr} {f : List D → FE} {G : List D → FS} {c : Value} {b1 : Stmt} {bs st : List Stmt} {np hp pos : Pos} {hds : List ExceptHandler} {hs : List HM} {t : XT}
theorem zs_nil : DZs X e0 i m [] fun _ => fSkip := fun a oe cls d pn _ _ => PSs.imp pss_nil fun De σ H hq => by
  obtain ⟨xs, S, δ, s, _, _, δ1, e1, k⟩ := hq
  have e1 : O.nx δ = .nx δ1 := e1
  cases e1
  exact k S σ H s .refl
theorem zs_set {pos' : Pos} (hN : X.N.Nodup) (hj : X.N[j]? = some y) (hy : Loc X.env.scope y) (ne : j ≠ i) (h : DZ X i m e f) (r : DZs X e0 i m st G) (hsw : swapsWith e (some (.Name y pos')) pos.line X.env = pure false := by rfl)
    (hf : X.fn y = true ∨ X.env.scope.names.lookup y = some .local := by first | exact .inl rfl | exact .inr rfl | assumption) : DZs X e0 i m (.Assign [.Name y pos'] e pos :: st) fun xs => fSeq (fSet j (f xs)) (G xs) := fun a oe cls d pn z1 z2 =>
  PSs.imp (pss_cons (ps_set (X := X.suite a ((a, oe) :: pn)) hN hj hy (h a oe cls d pn z1 z2) hsw hf) (r a oe cls d pn z1 z2)) fun De σ H hq => by
    obtain ⟨xs, S, δ, s, es, ex, δ1, e1, k⟩ := hq
    have e1 : fSeq (fSet j (f xs)) (G xs) δ = .nx δ1 := e1
    unfold fSeq fSet at e1
    cases q : f xs δ with
    | bad => rw [q] at e1; cases e1
    | exc n ys => rw [q] at e1; cases e1
    | ok d1 =>
      rw [q] at e1
      exact ⟨xs, S, δ, s.st, es, ex, d1, q, fun v H1 k1 r1 => ⟨xs, S, δ.set j (.fz d1), (s.mono k1).set j r1, by rw [List.getElem?_set_ne ne]; exact es, ex.mono k1, δ1, e1, fun S' σ' H' s' ev => k S' σ' H' s' ((Ev.same k1).trans ev)⟩⟩
def fAs (i : Nat) (F : FS) : FS := fun δ => match δ[i]? with
  | none => .bad
  | some _ => match F (δ.set i .un) with
    | .nx δ' => .nx (δ'.set i .un)
    | _ => .bad
theorem hdd_as (nm : Names X x c) (nd : X.N.Nodup) (hi : X.N[i]? = some y) (hl : X.env.kindOf y = some .local) (ht : XTok X.K c t) (one : t.all (fun q => !q.2 || decide (q.1 = m)) = true) (su : DZs X e0 i m (b1 :: bs) G) (r : HdD X e0 E hds hs) :
    HdD X e0 E (.ExceptHandler (some (.Name x np)) (some y) (b1 :: bs) hp :: hds) ((fun n => t.lookup n, fun _ xs => fAs i (G xs)) :: hs) := by
  obtain ⟨l, g, w⟩ := r
  refine ⟨(c, some i, fun a cls d => tZs X.K e0 i a cls d m G) :: l, .as_ nm nd hi hl (fun a oe cls d pn z1 z2 => su a oe cls d pn z1 z2) g, fun De σ H S δ n xs cls d s ex q => ?_⟩
  have ec := ex.1
  subst ec
  unfold fHs at q
  dsimp only at q
  cases e : t.lookup n with
  | none => rw [e] at q; exact q.elim
  | some b =>
    rw [e] at q
    have hm := lookup_mem e
    refine ⟨b, ht _ hm, fun eb a na => ?_, fun eb => ?_⟩
    · subst eb
      have en := List.all_eq_true.mp one _ hm
      have en : n = m := by simpa using en
      subst en
      have q : Fin X.K e0.M e0.S e0.H E De S H (fAs i (G xs) δ) := q
      unfold fAs at q
      cases e2 : δ[i]? with
      | none => rw [e2] at q; exact q.elim
      | some t0 =>
        rw [e2] at q
        dsimp only at q
        have lt : i < σ.length := by rw [s.st.len]; exact (List.getElem?_eq_some_iff.mp e2).1
        refine ⟨xs, S, δ.set i .un, s.gone i _, List.getElem?_set_self lt, ex, ?_⟩
        cases e3 : G xs (δ.set i .un) with
        | nx δ1 =>
          rw [e3] at q
          exact ⟨δ1, rfl, fun S' σ' H' s' ev => q S' _ H' (s'.gone i none) ev⟩
        | rt d1 δ1 => rw [e3] at q; exact q.elim
        | bk δ1 => rw [e3] at q; exact q.elim
        | ct δ1 => rw [e3] at q; exact q.elim
        | exc n1 ys => rw [e3] at q; exact q.elim
        | bad => rw [e3] at q; exact q.elim
    · subst eb; exact w De σ H S δ n xs _ d s ex q
end
end DL

/-! DHead: the head's facts for the data's rules, the end of a law. -/
namespace DL
open PySem PySem.Spec PyProof.Rows L2

/-- the j-th statement of a class's body -/
def inCls (s : Stmt) (j : Nat) : Stmt := match s with
  | .ClassDef _ _ _ body _ _ _ _ _ _ _ => body.getD j (.Pass ⟨0, 0, 0, 0⟩)
  | _ => .Pass ⟨0, 0, 0, 0⟩
/-! ### facts about the own classes -/
/-- what a descriptor's record holds first -/
def recA (K : PySem.W.Frag) (p : Addr) (t : String) : Addr := match PySem.W.recIn K p t with
  | some (.ref g :: _) => g
  | _ => 0
theorem recA_ok {K : PySem.W.Frag} {p : Addr} {t : String} (h : (match PySem.W.recIn K p t with | some (.ref _ :: _) => true | _ => false) = true) : ∃ rest, PySem.W.recIn K p t = some (.ref (recA K p t) :: rest) := by
  unfold recA
  split at h
  · rename_i g rest e
    exact ⟨rest, by rw [e]⟩
  · cases h
inductive Fx where
  | scls (c : Str)
  | slot (c f : Str) (i : Nat)
  | prop (c f : Str)
  | cmet (c m : Str)
  | blt (x : Str) (id : String)
  | ktup (x : Str) (zs : List Str)
  | isi (c : Str)
  | selff (c : Str)
  | smet (c m : Str)
  | callo (c : Str)
  | exm (n m : Str) (b : Bool)
  | exb (n : Str) (t : String) (b : Bool)
  | xfa (n f : Str)
  | exi (n m : Str)
abbrev typ : Value := .type "type"
def sclsB (K : PySem.W.Frag) (C : Addr) : Bool := PySem.W.isClsIn K C && (PySem.W.plainOver K C && (PySem.W.plainGet K C Str.empty && decide (PySem.W.findIn K (.ref C) "__setattr__" = some (some (Value.builtin "object.__setattr__")))))
def slotB (K : PySem.W.Frag) (C p : Addr) (f : Str) (i : Nat) : Bool := decide (PySem.W.slotIn K p C = some i) && (decide (i < 1000) && (decide (PySem.W.findIn K (.ref C) f = some (some (.ref p))) &&
  (decide (PySem.W.specialIn K (.ref p) "__get__" = some (some (Value.builtin "member_descriptor.__get__"))) && (decide (PySem.W.takesIn K (.ref p) = some true) && decide (PySem.W.typeIn K (.ref p) = some (Value.type "member_descriptor"))))))
def propB (K : PySem.W.Frag) (C p : Addr) (f : Str) : Bool := decide (PySem.W.findIn K (.ref C) f = some (some (.ref p))) && (decide (PySem.W.specialIn K (.ref p) "__get__" = some (some (Value.builtin "property.__get__"))) && (decide (PySem.W.takesIn K (.ref p) = some true) &&
  (match PySem.W.recIn K p "property" with | some (.ref _ :: _) => true | _ => false)))
def isGet (r : Option PySem.W.CFound) (p C : Addr) : Bool := match r with
  | some (.get (.builtin g) (.ref q) .none (.ref D)) => decide (g = "classmethod.__get__") && (decide (q = p) && decide (D = C))
  | _ => false
theorem isGet_ok {r : Option PySem.W.CFound} {p C : Addr} (h : isGet r p C = true) : r = some (.get (.builtin "classmethod.__get__") (.ref p) .none (.ref C)) := by
  unfold isGet at h
  split at h
  · obtain ⟨h1, h2⟩ := Bool.and_eq_true_iff.mp h
    obtain ⟨h2, h3⟩ := Bool.and_eq_true_iff.mp h2
    rw [of_decide_eq_true h1, of_decide_eq_true h2, of_decide_eq_true h3]
  · cases h
def cmetB (K : PySem.W.Frag) (C p : Addr) (m : Str) : Bool := isGet (PySem.W.findCls K (.ref C) typ m) p C && ((match PySem.W.recIn K p "classmethod" with | some (.ref _ :: _) => true | _ => false) && (PySem.W.fnIn K (recA K p "classmethod") &&
  (PySem.W.readsIn K C typ && decide (PySem.W.specialIn K (.ref C) "__getattribute__" = some (some (Value.builtin "type.__getattribute__"))))))
def txtIs : List Str → List Value → Bool
  | [], [] => true
  | z :: zs, .str y _ :: us => decide (y = z) && txtIs zs us
  | _, _ => false
def ktupB (zs : List Str) : Option Obj → Bool
  | some ⟨.type t, _, .seq its _, _⟩ => decide (t = "tuple") && (Nat.ble its.size 1000 && txtIs zs its.toList)
  | _ => false
def isiB (K : PySem.W.Frag) (C : Addr) : Bool := decide (PySem.W.findIn K (.ref C) "__class__" = some (some (Value.builtin "object.__class__"))) && (decide (PySem.W.specialIn K (Value.builtin "object.__class__") "__get__" = some (some (Value.builtin "getset_descriptor.__get__"))) &&
  (decide (PySem.W.takesIn K (Value.builtin "object.__class__") = some true) && (decide (PySem.W.mroIn K C (.type "object") = some true) && noneOf K C)))
def isGetS (r : Option PySem.W.CFound) (p C : Addr) : Bool := match r with
  | some (.get (.builtin g) (.ref q) .none (.ref D)) => decide (g = "staticmethod.__get__") && (decide (q = p) && decide (D = C))
  | _ => false
theorem isGetS_ok {r : Option PySem.W.CFound} {p C : Addr} (h : isGetS r p C = true) : r = some (.get (.builtin "staticmethod.__get__") (.ref p) .none (.ref C)) := by
  unfold isGetS at h
  split at h
  · obtain ⟨h1, h2⟩ := Bool.and_eq_true_iff.mp h
    obtain ⟨h2, h3⟩ := Bool.and_eq_true_iff.mp h2
    rw [of_decide_eq_true h1, of_decide_eq_true h2, of_decide_eq_true h3]
  · cases h
def smetB (K : PySem.W.Frag) (C p : Addr) (m : Str) : Bool := isGetS (PySem.W.findCls K (.ref C) typ m) p C && ((match PySem.W.recIn K p "staticmethod" with | some (.ref _ :: _) => true | _ => false) && (PySem.W.keepIn K (.ref (recA K p "staticmethod")) &&
  (PySem.W.readsIn K C typ && decide (PySem.W.specialIn K (.ref C) "__getattribute__" = some (some (Value.builtin "type.__getattribute__"))))))
def calloB (K : PySem.W.Frag) (C g : Addr) : Bool := decide (PySem.W.findIn K (.ref C) "__call__" = some (some (.ref g))) && (PySem.W.isFn K (.ref g) && PySem.W.fnIn K g)
def xfaB (K : PySem.W.Frag) (C : Addr) (f : Str) : Bool := xfB K C && decide (PySem.W.findIn K (.ref C) f = some none)
def exiB (K : PySem.W.Frag) (C L : Addr) : Bool := xfB K C && ((PySem.W.clsIn K C).isSome && (decide (PySem.W.findIn K (.ref C) "__class__" = some (some (Value.builtin "object.__class__"))) && (decide (PySem.W.specialIn K (.builtin "object.__class__") "__get__" = some (some (Value.builtin "getset_descriptor.__get__"))) &&
  (decide (PySem.W.takesIn K (.builtin "object.__class__") = some true) && (decide (PySem.W.mroIn K C (.type "object") = some true) && decide (PySem.W.kitOne K (.ref C) (.ref L) = some true))))))
def Fx.ok (K : PySem.W.Frag) : Fx → Bool
  | .scls c => sclsB K (He.ga K c)
  | .slot c f i => slotB K (He.ga K c) (He.ma K (He.ga K c) f) f i
  | .prop c f => propB K (He.ga K c) (He.ma K (He.ga K c) f) f
  | .cmet c m => cmetB K (He.ga K c) (He.ma K (He.ga K c) m) m
  | .blt x id => decide (PySem.W.nsIn K mainGlobals x = some (some (Value.builtin id)))
  | .ktup x zs => ktupB zs (K.lookup (He.ga K x))
  | .isi c => isiB K (He.ga K c)
  | .selff c => PySem.W.selfFirst K (He.ga K c)
  | .smet c m => smetB K (He.ga K c) (He.ma K (He.ga K c) m) m
  | .callo c => calloB K (He.ga K c) (He.ma K (He.ga K c) "__call__")
  | .exm n m b => decide (PySem.W.exmOne K (.ref (He.ga K n)) (.ref (He.ga K m)) = some b)
  | .exb n t b => decide (PySem.W.exmOne K (.ref (He.ga K n)) (.type t) = some b)
  | .xfa n f => xfaB K (He.ga K n) f
  | .exi n m => exiB K (He.ga K n) (He.ga K m)
theorem two {a b : Bool} (h : (a && b) = true) : a = true ∧ b = true := Bool.and_eq_true_iff.mp h
theorem scls_ok {K : PySem.W.Frag} {C : Addr} (h : sclsB K C = true) : SlX.SCls K C := by
  obtain ⟨h1, h⟩ := two h
  obtain ⟨h2, h⟩ := two h
  obtain ⟨h3, h4⟩ := two h
  exact ⟨h3, h1, h2, of_decide_eq_true h4⟩
theorem slot_ok {K : PySem.W.Frag} {C p : Addr} {f : Str} {i : Nat} (h : slotB K C p f i = true) : SlX.Slot1 K C f p i := by
  obtain ⟨h1, h⟩ := two h
  obtain ⟨h2, h⟩ := two h
  obtain ⟨h3, h⟩ := two h
  obtain ⟨h4, h⟩ := two h
  obtain ⟨h5, h6⟩ := two h
  exact ⟨of_decide_eq_true h3, of_decide_eq_true h4, of_decide_eq_true h5, of_decide_eq_true h6, of_decide_eq_true h1, of_decide_eq_true h2⟩
theorem prop_ok {K : PySem.W.Frag} {C p : Addr} {f : Str} (h : propB K C p f = true) : PropOf K C f p (recA K p "property") := by
  obtain ⟨h1, h⟩ := two h
  obtain ⟨h2, h⟩ := two h
  obtain ⟨h3, h4⟩ := two h
  exact ⟨of_decide_eq_true h1, of_decide_eq_true h2, of_decide_eq_true h3, recA_ok h4⟩
theorem cmet_ok {K : PySem.W.Frag} {C p : Addr} {m : Str} (h : cmetB K C p m = true) : ClX.CRead K C typ ∧ ClX.CMet K C typ m p (recA K p "classmethod") := by
  obtain ⟨h1, h⟩ := two h
  obtain ⟨h2, h⟩ := two h
  obtain ⟨h3, h⟩ := two h
  obtain ⟨h4, h5⟩ := two h
  exact ⟨⟨h4, of_decide_eq_true h5⟩, isGet_ok h1, recA_ok h2, h3⟩
theorem txtIs_ok : ∀ {zs : List Str} {us : List Value}, txtIs zs us = true → Vals (zs.map V.str) us
  | [], [], _ => .nil
  | z :: zs, .str y t :: us, h => by
    obtain ⟨h1, h2⟩ := two h
    have e : y = z := of_decide_eq_true h1
    subst e
    exact .cons ⟨t, rfl⟩ (txtIs_ok h2)
  | [], _ :: _, h => by cases h
theorem ktup_ok {K : PySem.W.Frag} {a : Addr} {zs : List Str} (h : ktupB zs (K.lookup a) = true) : KTup K a zs := by
  generalize hq : K.lookup a = q at h
  unfold ktupB at h
  split at h
  · rename_i t d its n sl
    obtain ⟨h1, h2⟩ := two h
    obtain ⟨h2, h3⟩ := two h2
    have e : t = "tuple" := of_decide_eq_true h1
    subst e
    exact ⟨_, its, n, hq, rfl, rfl, Nat.le_trans (Nat.le_of_ble_eq_true h2) (by rw [sizeLine_eq]; decide), txtIs_ok h3⟩
  · cases h
/-! ### defs behind a descriptor -/
structure DefY where
  cls : Str
  at_ : Str
  kind : String
  name : Str
  qual : Str
  params : Arguments
  body : List Stmt
  scope : Scope
  flds : List Str
  file : Str
  ini : Bool
def DefY.adr (K : PySem.W.Frag) (d : DefY) : Addr := match d.ini with
  | true => He.ma K (He.ga K d.cls) "__init__"
  | false => recA K (He.ma K (He.ga K d.cls) d.at_) d.kind
abbrev FnY : Type := Option (Scope × FuncBody × Arguments × List (Str × Addr) × Addr × Addr × Str × Str)
def tellF (u : FuncData) : FnY := some (u.scope, u.body, u.params, u.closure, u.builtins, u.globals, u.name, u.qualname)
def tellO : Option Obj → FnY
  | some ⟨_, _, .func u, _⟩ => tellF u
  | _ => none
def plainO (K : PySem.W.Frag) (q : Str) : Option Obj → Bool
  | some ⟨_, _, .func u, _⟩ => He.dflB K u.defaults [] && (He.kwdB K u.kwdefaults [] && PySem.W.codeIn K u.code q)
  | _ => false
/-! an own error's __init__: a def with the cell __class__ -/
def tellE : Option Obj → FnY
  | some ⟨_, _, .func u, _⟩ => some (u.scope, u.body, u.params, [], u.builtins, u.globals, u.name, u.qualname)
  | _ => none
def DefY.tell (K : PySem.W.Frag) (d : DefY) : FnY := match d.ini with
  | true => tellE (K.lookup (d.adr K))
  | false => tellO (K.lookup (d.adr K))
def oexO (C : Addr) : Option Obj → Bool
  | some ⟨.type t, _, .cls cd, sl⟩ => decide (t = "type") && (match cd.mro, sl.toList with
    | .ref C' :: bm, [_, _, _, _, some (.builtin n), _] => decide (C' = C) && (decide (n = "ValueError.__new__") && (cd.hasDict && (!cd.hasDel && HandSPX.refsVE bm)))
    | _, _ => false)
  | _ => false
def cellO (C : Addr) : Option Obj → Bool
  | some ⟨_, _, .cell (some (.ref D)), _⟩ => decide (D = C)
  | _ => false
def fileO (file : Str) : Option Obj → Bool
  | some ⟨_, _, .fields vs, _⟩ => (match (vs[2]? : Option Value) with
    | some (Value.str f _) => file == f
    | _ => false)
  | _ => false
def iniO (K : PySem.W.Frag) (C : Addr) (q file : Str) : Option Obj → Bool
  | some ⟨_, _, .func u, _⟩ => (match u.closure, u.code, u.defaults, u.kwdefaults, u.annotations with
    | [(x, cc)], .ref c, .none, .none, none => decide (x = "__class__") && (PySem.W.codeIn K (.ref c) q && (cellO C (K.lookup cc) && fileO file (K.lookup c)))
    | _, _, _, _, _ => false)
  | _ => false
def iniB (K : PySem.W.Frag) (d : DefY) (C fI : Addr) : Bool := oexO C (K.lookup C) && (decide (PySem.W.findIn K (.ref C) "__setattr__" = some (some (Value.builtin "object.__setattr__"))) && (decide (PySem.W.subIn K (.ref C) (.type "BaseException") = some true) && (decide (PySem.W.typeIn K (.ref C) = some (.type "type")) &&
  (PySem.W.keepIn K (.ref C) && (decide (PySem.W.findIn K (.ref C) "__init__" = some (some (.ref fI))) && (decide (PySem.W.typeIn K (.ref fI) = some (.type "function")) && (d.flds.all (fun f => decide (PySem.W.findIn K (.ref C) f = some none)) &&
  (iniO K C d.qual d.file (K.lookup fI) && (decide (((PySem.W.clsIn K C).bind fun cd => PySem.W.alongIn K ("__init__" : Str) ((cd.mro.dropWhile (· != .ref C)).drop 1)) = some (some (Value.builtin "ValueError.__init__"))) &&
  (decide (PySem.W.mroIn K C (.ref C) = some true) && (decide (PySem.W.mroIn K C (.type "ValueError") = some true) && decide (PySem.W.nsIn K cStatics "thirdparty.any" = some none))))))))))))
def DefY.val (d : DefY) : FnY := some (d.scope, .stmts d.body, d.params, [], builtinsNs, mainGlobals, d.name, d.qual)
def DefY.ok (K : PySem.W.Frag) (d : DefY) : Bool := match d.ini with
  | true => iniB K d (He.ga K d.cls) (d.adr K)
  | false => plainO K d.qual (K.lookup (d.adr K)) && PySem.W.keepIn K (.ref (d.adr K))
theorem DefY.fun_ {K : PySem.W.Frag} {d : DefY} (hk : d.ini = false) (e : d.tell K = d.val) (c : d.ok K = true) : ∃ fd, FunD K d.name d.qual d.params d.body d.scope [] [] (d.adr K) fd := by
  unfold DefY.tell at e
  unfold DefY.ok at c
  rw [hk] at e c
  obtain ⟨c1, c2⟩ := two c
  generalize hq : K.lookup (d.adr K) = q at e c1
  unfold plainO at c1
  split at c1
  · rename_i oc od u osl
    obtain ⟨u1, u2, u3, u4, u5, u6, u7, u8, u9, u10, u11, u12, u13, u14, u15⟩ := u
    have e2 : tellF _ = d.val := e
    unfold tellF DefY.val at e2
    simp only [Option.some.injEq, Prod.mk.injEq] at e2
    obtain ⟨e3, e4, e5, e6, e7, e8, e9, e10⟩ := e2
    obtain ⟨k1, k2⟩ := two c1
    obtain ⟨k2, k3⟩ := two k2
    subst e3 e4 e5 e6 e7 e8 e9 e10
    exact ⟨_, ⟨oc, od, u8, u9, u10, u11, u12, u13, u14, osl, rfl, hq, k3, He.dflB_ok k1, He.kwdB_ok k2⟩, c2⟩
  · cases c1
/-! ### the Hook: facts by names, defs -/
abbrev AlX : Type := Bool × He.AlD × List FnY
def obsX (fa : List He.Fa) (fx : List Fx) (fn : List He.DefD) (fy : List DefY) (K : PySem.W.Frag) : AlX := ((fx.all fun f => f.ok K) && (fy.all fun d => d.ok K), He.obsD fa fn K, fy.map fun d => d.tell K)
def valX (fn : List He.DefD) (fy : List DefY) : AlX := (true, He.valD fn, fy.map DefY.val)
/-- the addresses not yet seen, each once; what is seen is the bits of a number -/
def newB : Nat → List Addr → List Addr
  | _, [] => []
  | m, a :: r => match Nat.testBit m a with
    | true => newB m r
    | false => a :: newB (m ||| 1 <<< a) r
def refsB (g : Addr → Option Obj) (a : Addr) : List Addr := match g a with
  | some o => He.refsD o
  | none => []
def bitsB : Nat → List Addr → Nat
  | m, [] => m
  | m, a :: r => bitsB (m ||| 1 <<< a) r
/-- n steps on: what is seen (bits), all that is found, what was found last -/
def growB (g : Addr → Option Obj) : Nat → Nat → List Addr → List Addr → List Addr
  | 0, _, all, _ => all
  | n + 1, m, all, last => (fun new => growB g n (bitsB m new) (all ++ new) new) (newB m (last.flatMap (refsB g)))
def asB (g : Addr → Option Obj) (n : Nat) : List Addr := cStatics :: growB g n (1 <<< mainGlobals) [mainGlobals] [mainGlobals]
def obsXG (n : Nat) (fa : List He.Fa) (fx : List Fx) (fn : List He.DefD) (fy : List DefY) (g : Addr → Option Obj) : AlX := obsX fa fx fn fy (He.frG g (asB g n))
def hookX (n : Nat) (fa : List He.Fa) (fx : List Fx) (fn : List He.DefD) (fy : List DefY) : PySem.W.Hook where
  α := AlX
  obs := fun s => obsXG n fa fx fn fy s.heap.get?
  val := fun _ => valX fn fy
  says := fun _ h => ∃ K : PySem.W.Frag, K.In h ∧ obsX fa fx fn fy K = valX fn fy
  of := fun _ _ e => ⟨_, He.frG_in, e⟩
  keeps := fun _ _ _ ⟨K, hK, c⟩ k => ⟨K, PySem.W.Frag.In.keeps hK k, c⟩
theorem obsXG_eq {n : Nat} {fa : List He.Fa} {fx : List Fx} {fn : List He.DefD} {fy : List DefY} {g : Addr → Option Obj} {s : Shared} (h : ∀ a, g a = s.heap.get? a) : obsXG n fa fx fn fy g = (hookX n fa fx fn fy).obs s := by
  have e : g = s.heap.get? := funext h
  rw [e] <;> rfl
/-- one run seen in parts -/
theorem map_two {α β γ : Type} {o : Option α} {f : α → β} {g : α → γ} {b : β} {c : γ} (h : o.map f = some b) (k : o.map g = some c) : o.map (fun x => (f x, g x)) = some (b, c) := by
  cases o with
  | none => cases h
  | some a =>
    cases h
    cases k
    rfl
def obs1 (fx : List Fx) (fy : List DefY) (K : PySem.W.Frag) : Bool × List FnY := ((fx.all fun f => f.ok K) && (fy.all fun d => d.ok K), fy.map fun d => d.tell K)
def obs1G (n : Nat) (fx : List Fx) (fy : List DefY) (g : Addr → Option Obj) : Bool × List FnY := obs1 fx fy (He.frG g (asB g n))
def obs2G (n : Nat) (fa : List He.Fa) (fn : List He.DefD) (g : Addr → Option Obj) : He.AlD := He.obsD fa fn (He.frG g (asB g n))
theorem map_obs {α : Type} {o : Option α} {n : Nat} {fa : List He.Fa} {fx : List Fx} {fn : List He.DefD} {fy : List DefY} {g : α → Addr → Option Obj} (h : o.map (fun x => obs1G n fx fy (g x)) = some (true, fy.map DefY.val)) (k : o.map (fun x => obs2G n fa fn (g x)) = some (He.valD fn)) :
    o.map (fun x => obsXG n fa fx fn fy (g x)) = some (valX fn fy) := by
  cases o with
  | none => cases h
  | some a =>
    have h1 : obs1G n fx fy (g a) = (true, fy.map DefY.val) := Option.some.inj h
    have h2 : obs2G n fa fn (g a) = He.valD fn := Option.some.inj k
    show some (obsXG n fa fx fn fy (g a)) = _
    have h3 := congrArg Prod.fst h1
    have h4 := congrArg Prod.snd h1
    unfold obsXG obsX valX
    exact congrArg some (Prod.ext h3 (Prod.ext h2 h4))
theorem map_all {α β γ δ : Type} {o : Option α} {f : α → β} {g : α → γ} {h : α → δ} {b : β} {c : γ} {d : δ} (h1 : o.map (fun x => (f x, g x)) = some (b, c)) (h2 : o.map h = some d) : o.map (fun x => (f x, g x, h x)) = some (b, c, d) := by
  cases o with
  | none => cases h2
  | some a =>
    cases h1
    cases h2
    rfl
/-- what is known of the top -/
structure Tx (fa : List He.Fa) (fx : List Fx) (fn : List He.DefD) (fy : List DefY) (K : PySem.W.Frag) (mg : Str → Option Value) : Prop where
  c : obsX fa fx fn fy K = valX fn fy
  at_ : ∃ h : Heap, K.In h ∧ h.Ns mainGlobals mg
section
variable {fa : List He.Fa} {fx : List Fx} {fn : List He.DefD} {fy : List DefY} {K : PySem.W.Frag} {mg : Str → Option Value}
theorem Tx.says (T : Tx fa fx fn fy K mg) : He.SaysD fa fn K := congrArg (fun z : AlX => z.2.1) T.c
theorem Tx.extra (T : Tx fa fx fn fy K mg) (i : Nat) {f : Fx} (h : fx[i]? = some f) : f.ok K = true := by
  have e : ((fx.all fun f => f.ok K) && (fy.all fun d => d.ok K)) = true := congrArg (fun z : AlX => z.1) T.c
  exact List.all_eq_true.mp (two e).1 f (List.mem_of_getElem? h)
theorem Tx.exm (T : Tx fa fx fn fy K mg) (i : Nat) {n m : Str} {b : Bool} (h : fx[i]? = some (.exm n m b) := by rfl) : PySem.W.exmOne K (.ref (He.ga K n)) (.ref (He.ga K m)) = some b := of_decide_eq_true (T.extra i h)
theorem Tx.exb (T : Tx fa fx fn fy K mg) (i : Nat) {n : Str} {t : String} {b : Bool} (h : fx[i]? = some (.exb n t b) := by rfl) : PySem.W.exmOne K (.ref (He.ga K n)) (.type t) = some b := of_decide_eq_true (T.extra i h)
theorem Tx.xfa (T : Tx fa fx fn fy K mg) (i : Nat) {n f : Str} (h : fx[i]? = some (.xfa n f) := by rfl) : XfC K (He.ga K n) ∧ PySem.W.findIn K (.ref (He.ga K n)) f = some none := by
  obtain ⟨h1, h2⟩ := two (show xfaB K (He.ga K n) f = true from T.extra i h)
  exact ⟨xfB_ok h1, of_decide_eq_true h2⟩
theorem Tx.exi (T : Tx fa fx fn fy K mg) (i : Nat) {n m : Str} (h : fx[i]? = some (.exi n m) := by rfl) : ExI K n m := by
  obtain ⟨h1, q⟩ := two (show exiB K (He.ga K n) (He.ga K m) = true from T.extra i h)
  obtain ⟨h2, q⟩ := two q
  obtain ⟨h3, q⟩ := two q
  obtain ⟨h4, q⟩ := two q
  obtain ⟨h5, q⟩ := two q
  obtain ⟨h6, h7⟩ := two q
  exact ⟨xfB_ok h1, h2, of_decide_eq_true h3, of_decide_eq_true h4, of_decide_eq_true h5, of_decide_eq_true h6, of_decide_eq_true h7⟩
theorem Tx.defy (T : Tx fa fx fn fy K mg) (i : Nat) {d : DefY} (h : fy[i]? = some d := by rfl) (hk : d.ini = false := by rfl) : ∃ fd, FunD K d.name d.qual d.params d.body d.scope [] [] (d.adr K) fd := by
  have e : ((fx.all fun f => f.ok K) && (fy.all fun d => d.ok K)) = true := congrArg (fun z : AlX => z.1) T.c
  have c := List.all_eq_true.mp (two e).2 d (List.mem_of_getElem? h)
  have e2 : (fy.map fun d => d.tell K) = fy.map DefY.val := congrArg (fun z : AlX => z.2.2) T.c
  have e3 := congrArg (fun l => l[i]?) e2
  simp only [List.getElem?_map, h, Option.map_some, Option.some.injEq] at e3
  exact DefY.fun_ hk e3 c
theorem oexO_ok {C : Addr} {o : Option Obj} (h : oexO C o = true) : ∃ nm q N bs bm sn sub ab col dd k0 k1 k2 k3 k5, o = some (excClassObj nm q C N bs bm true sn sub ab col dd k0 k1 k2 k3 k5 "ValueError.__new__") ∧ HandSPX.refsVE bm = true := by
  unfold oexO at h
  split at h
  · rename_i t dd cd sl
    obtain ⟨h1, h2⟩ := two h
    have e1 : t = "type" := of_decide_eq_true h1
    subst e1
    split at h2
    · rename_i C' bm k0 k1 k2 k3 n k5 em es
      obtain ⟨a1, h2⟩ := two h2
      obtain ⟨a2, h2⟩ := two h2
      obtain ⟨a3, h2⟩ := two h2
      obtain ⟨a4, a5⟩ := two h2
      have e1 : C' = C := of_decide_eq_true a1
      have e2 : n = "ValueError.__new__" := of_decide_eq_true a2
      subst e1 e2
      obtain ⟨c1, c2, c3, c4, c5, c6, c7, c8, c9, c10, c11⟩ := cd
      obtain ⟨l⟩ := sl
      dsimp only at em es a3 a4
      subst em es a3
      have a4 : c11 = false := by simpa using a4
      subst a4
      exact ⟨_, _, _, _, bm, _, _, _, _, dd, k0, k1, k2, k3, k5, rfl, a5⟩
    · cases h2
  · cases h
theorem iniO_ok {K : PySem.W.Frag} {C : Addr} {q file : Str} {o : Option Obj} (h : iniO K C q file o = true) : ∃ oc od u sl cc c, o = some ⟨oc, od, .func u, sl⟩ ∧ u.closure = [(("__class__" : Str), cc)] ∧ u.code = .ref c ∧ u.defaults = .none ∧ u.kwdefaults = .none ∧ u.annotations = none ∧
    PySem.W.codeIn K (.ref c) q = true ∧ cellO C (K.lookup cc) = true ∧ fileO file (K.lookup c) = true := by
  unfold iniO at h
  split at h
  · rename_i oc od u sl
    split at h
    · rename_i x cc c e1 e2 e3 e4 e5
      obtain ⟨a1, h⟩ := two h
      obtain ⟨a2, h⟩ := two h
      obtain ⟨a3, a4⟩ := two h
      have e : x = "__class__" := of_decide_eq_true a1
      subst e
      exact ⟨oc, od, u, sl, cc, c, rfl, e1, e2, e3, e4, e5, a2, a3, a4⟩
    · cases h
  · cases h
theorem cellO_ok {C : Addr} {o : Option Obj} (h : cellO C o = true) : ∃ oc od sl, o = some ⟨oc, od, .cell (some (.ref C)), sl⟩ := by
  unfold cellO at h
  split at h
  · rename_i oc od D sl
    have e : D = C := of_decide_eq_true h
    subst e
    exact ⟨_, _, _, rfl⟩
  · cases h
theorem fileO_ok {file : Str} {o : Option Obj} (h : fileO file o = true) : ∃ oc od vs sl f tf, o = some ⟨oc, od, .fields vs, sl⟩ ∧ vs[2]? = some (Value.str f tf) ∧ (file == f) = true := by
  unfold fileO at h
  split at h
  · rename_i oc od vs sl
    split at h
    · rename_i f tf e
      exact ⟨_, _, vs, _, f, tf, rfl, e, h⟩
    · cases h
  · cases h
/-- all that an own error's raise asks of the written part -/
theorem Tx.exc (T : Tx fa fx fn fy K mg) (P : Program) (i : Nat) {d : DefY} (h : fy[i]? = some d := by rfl) (hk : d.ini = true := by rfl) (hf : d.file = P.main.file := by rfl) (ht : (P.main.scope.names.lookup ("super" : Str)).isSome = false := by kernel_rfl) :
    ∃ cc c, InitK P K (He.ga K d.cls) (He.ma K (He.ga K d.cls) "__init__") cc ⟨d.name, d.qual, d.params, d.body, d.scope, [(("__class__" : Str), cc)], c⟩ ∧ PySem.W.findIn K (.ref (He.ga K d.cls)) "__init__" = some (some (.ref (He.ma K (He.ga K d.cls) "__init__"))) ∧
      PySem.W.typeIn K (.ref (He.ma K (He.ga K d.cls) "__init__")) = some (.type "function") ∧ ∀ f ∈ d.flds, PySem.W.findIn K (.ref (He.ga K d.cls)) f = some none := by
  have e : ((fx.all fun f => f.ok K) && (fy.all fun d => d.ok K)) = true := congrArg (fun z : AlX => z.1) T.c
  have c := List.all_eq_true.mp (two e).2 d (List.mem_of_getElem? h)
  have e2 : (fy.map fun d => d.tell K) = fy.map DefY.val := congrArg (fun z : AlX => z.2.2) T.c
  have e3 := congrArg (fun l => l[i]?) e2
  simp only [List.getElem?_map, h, Option.map_some, Option.some.injEq] at e3
  unfold DefY.tell DefY.adr at e3
  unfold DefY.ok DefY.adr at c
  simp only [hk] at c e3
  generalize He.ma K (He.ga K d.cls) "__init__" = fI at *
  generalize He.ga K d.cls = C at *
  obtain ⟨a1, c⟩ := two c
  obtain ⟨a2, c⟩ := two c
  obtain ⟨a3, c⟩ := two c
  obtain ⟨a4, c⟩ := two c
  obtain ⟨a5, c⟩ := two c
  obtain ⟨a6, c⟩ := two c
  obtain ⟨a7, c⟩ := two c
  obtain ⟨a8, c⟩ := two c
  obtain ⟨a9, c⟩ := two c
  obtain ⟨a10, c⟩ := two c
  obtain ⟨a11, c⟩ := two c
  obtain ⟨a12, a13⟩ := two c
  obtain ⟨oc, od, u, sl, cc, cd, hl, u1, u2, u3, u4, u5, u6, u7, u8⟩ := iniO_ok a9
  refine ⟨cc, cd, ⟨⟨oexO_ok a1, of_decide_eq_true a2, of_decide_eq_true a3, of_decide_eq_true a4, a5⟩, ?_, rfl, u6, ?_, cellO_ok u7, ?_, of_decide_eq_true a11, of_decide_eq_true a12, of_decide_eq_true a13, ht⟩, of_decide_eq_true a6, of_decide_eq_true a7, fun f hf => of_decide_eq_true (List.all_eq_true.mp a8 f hf)⟩
  · rw [hl] at e3
    obtain ⟨v1, v2, v3, v4, v5, v6, v7, v8, v9, v10, v11, v12, v13, v14, v15⟩ := u
    dsimp only at u1 u2 u3 u4 u5
    subst u1 u2 u3 u4 u5
    unfold tellE DefY.val at e3
    simp only [Option.some.injEq, Prod.mk.injEq] at e3
    obtain ⟨r1, r2, r3, _, r5, r6, r7, r8⟩ := e3
    subst r1 r2 r3 r5 r6 r7 r8
    exact ⟨oc, od, _, _, _, sl, hl⟩
  · obtain ⟨o1, o2, vs, s2, f, tf, w1, w2, w3⟩ := fileO_ok u8
    exact ⟨o1, o2, vs, s2, f, tf, w1, w2, hf ▸ w3⟩
  · have := of_decide_eq_true a10
    cases hc : PySem.W.clsIn K C with
    | none => rw [hc] at this; cases this
    | some cd2 =>
      rw [hc] at this
      exact ⟨cd2, rfl, this⟩
theorem Tx.scls (T : Tx fa fx fn fy K mg) (i : Nat) {c : Str} (h : fx[i]? = some (.scls c) := by rfl) : SlX.SCls K (He.ga K c) := scls_ok (T.extra i h)
theorem Tx.slot (T : Tx fa fx fn fy K mg) (i : Nat) {c f : Str} {j : Nat} (h : fx[i]? = some (.slot c f j) := by rfl) : SlX.Slot1 K (He.ga K c) f (He.ma K (He.ga K c) f) j := slot_ok (T.extra i h)
theorem Tx.prop (T : Tx fa fx fn fy K mg) (i : Nat) {c f : Str} (h : fx[i]? = some (.prop c f) := by rfl) : PropOf K (He.ga K c) f (He.ma K (He.ga K c) f) (recA K (He.ma K (He.ga K c) f) "property") := prop_ok (T.extra i h)
theorem Tx.cmet (T : Tx fa fx fn fy K mg) (i : Nat) {c m : Str} (h : fx[i]? = some (.cmet c m) := by rfl) : ClX.CRead K (He.ga K c) typ ∧ ClX.CMet K (He.ga K c) typ m (He.ma K (He.ga K c) m) (recA K (He.ma K (He.ga K c) m) "classmethod") := cmet_ok (T.extra i h)
theorem isi_ok {K : PySem.W.Frag} {C : Addr} (h : isiB K C = true) : SlX.SIsi K C ∧ noneOf K C = true := by
  obtain ⟨h1, h⟩ := two h
  obtain ⟨h2, h⟩ := two h
  obtain ⟨h3, h⟩ := two h
  obtain ⟨h4, h5⟩ := two h
  exact ⟨⟨of_decide_eq_true h1, of_decide_eq_true h2, of_decide_eq_true h3, of_decide_eq_true h4⟩, h5⟩
theorem smet_ok {K : PySem.W.Frag} {C p : Addr} {m : Str} (h : smetB K C p m = true) : ClX.CRead K C typ ∧ SMet K C typ m p (recA K p "staticmethod") := by
  obtain ⟨h1, h⟩ := two h
  obtain ⟨h2, h⟩ := two h
  obtain ⟨h3, h⟩ := two h
  obtain ⟨h4, h5⟩ := two h
  exact ⟨⟨h4, of_decide_eq_true h5⟩, isGetS_ok h1, recA_ok h2, h3⟩
theorem callo_ok {K : PySem.W.Frag} {C g : Addr} (h : calloB K C g = true) : StX.CallO K C g := by
  obtain ⟨h1, h⟩ := two h
  obtain ⟨h2, h3⟩ := two h
  exact ⟨of_decide_eq_true h1, h2, h3⟩
theorem Tx.isi (T : Tx fa fx fn fy K mg) (i : Nat) {c : Str} (h : fx[i]? = some (.isi c) := by rfl) : SlX.SIsi K (He.ga K c) ∧ noneOf K (He.ga K c) = true := isi_ok (T.extra i h)
theorem Tx.selff (T : Tx fa fx fn fy K mg) (i : Nat) {c : Str} (h : fx[i]? = some (.selff c) := by rfl) : PySem.W.selfFirst K (He.ga K c) = true := T.extra i h
theorem Tx.smet (T : Tx fa fx fn fy K mg) (i : Nat) {c m : Str} (h : fx[i]? = some (.smet c m) := by rfl) : ClX.CRead K (He.ga K c) typ ∧ SMet K (He.ga K c) typ m (He.ma K (He.ga K c) m) (recA K (He.ma K (He.ga K c) m) "staticmethod") := smet_ok (T.extra i h)
theorem Tx.callo (T : Tx fa fx fn fy K mg) (i : Nat) {c : Str} (h : fx[i]? = some (.callo c) := by rfl) : StX.CallO K (He.ga K c) (He.ma K (He.ga K c) "__call__") := callo_ok (T.extra i h)
theorem Tx.blt (T : Tx fa fx fn fy K mg) (i : Nat) {x : Str} {id : String} (h : fx[i]? = some (.blt x id) := by rfl) : mg x = some (.builtin id) := by
  obtain ⟨hp, X, G⟩ := T.at_
  exact PySem.W.mg_of X G (of_decide_eq_true (T.extra i h))
theorem Tx.ktup (T : Tx fa fx fn fy K mg) (i : Nat) {x : Str} {zs : List Str} (h : fx[i]? = some (.ktup x zs) := by rfl) : KTup K (He.ga K x) zs := ktup_ok (T.extra i h)
theorem Tx.kstr (T : Tx fa fx fn fy K mg) (i : Nat) {x z : Str} (h : fa[i]? = some (.str x z) := by rfl) : ∃ t, mg x = some (.str z t) := by
  obtain ⟨hp, X, G⟩ := T.at_
  exact He.str_ok X G (T.says.fact i h)
theorem Tx.kint (T : Tx fa fx fn fy K mg) (i : Nat) {x : Str} {z : Int} (h : fa[i]? = some (.int x z) := by rfl) : ∃ t, mg x = some (.int z t) := by
  obtain ⟨hp, X, G⟩ := T.at_
  exact He.int_ok X G (T.says.fact i h)
theorem Tx.cls (T : Tx fa fx fn fy K mg) (i : Nat) {c : Str} (h : fa[i]? = some (.cls c) := by rfl) : Cls K (He.ga K c) := He.cls_ok (T.says.fact i h)
theorem Tx.noat (T : Tx fa fx fn fy K mg) (i : Nat) {c f : Str} (h : fa[i]? = some (.noat c f) := by rfl) : NoAttr K (He.ga K c) f := He.noat_ok (T.says.fact i h)
theorem Tx.meth (T : Tx fa fx fn fy K mg) (i : Nat) {c m : Str} (h : fa[i]? = some (.meth c m) := by rfl) : Meth K (He.ga K c) m (He.ma K (He.ga K c) m) := He.meth_ok (T.says.fact i h)
theorem Tx.mkr (T : Tx fa fx fn fy K mg) (i : Nat) {c : Str} (h : fa[i]? = some (.mkr c) := by rfl) : Mk K (He.ga K c) (He.ma K (He.ga K c) "__init__") := He.mkr_ok (T.says.fact i h)
theorem Tx.glo (T : Tx fa fx fn fy K mg) (i : Nat) {x : Str} (h : fa[i]? = some (.glo x) := by rfl) : mg x = some (.ref (He.ga K x)) := by
  obtain ⟨hp, X, G⟩ := T.at_
  exact He.glo_ok X G (T.says.fact i h)
theorem Tx.free (T : Tx fa fx fn fy K mg) (i : Nat) {x : Str} (h : fa[i]? = some (.free x) := by rfl) : mg x = none := by
  obtain ⟨hp, X, G⟩ := T.at_
  exact He.free_ok X G (T.says.fact i h)
theorem Tx.def_ (T : Tx fa fx fn fy K mg) (i : Nat) {d : He.DefD} (h : fn[i]? = some d := by rfl) : ∃ fd, FunD K d.name d.qual d.params d.body d.scope (d.dvs K) (d.kws K) (He.fAd K d.at_) fd := T.says.def_ i h
theorem Tx.kp (T : Tx fa fx fn fy K mg) (i : Nat) {d : He.DefD} (h : fn[i]? = some d := by rfl) : PySem.W.keepIn K (.ref (He.fAd K d.at_)) = true := by
  obtain ⟨fd, F⟩ := T.says.def_ i h
  exact F.kp
end
/-! ### the law's end -/
theorem cx_no {P : Program} {w : World} {l : List Env} {H : Hp} {s : Shared} {e : Value} {s' : Shared} (h : L2.CX P w l H s (fun _ _ _ => False) e s') : False := by
  obtain ⟨_, _, _, _, _, _, _, _, _, _, _, _, z⟩ := h
  exact z.elim
theorem rep_ints {K : PySem.W.Frag} {S : Addr → Prop} {H : Hp} : ∀ ns : List Int, RepL K S H (ns.map V.int) (ns.map D.int)
  | [] => .nil
  | n :: ns => .cons (.int n) (rep_ints ns)
/-- the law's promise out of its mirror's -/
theorem law_sp {K : PySem.W.Frag} {G : List D → R D} {m : Nat} (h : ∀ ns : List Int, ns.length ≤ m → G [.scr (ns.map .int)] = .ok (.bl true)) (H : Hp) (hO : Only H) (a : Addr) (ns : List Int) (hl : ns.length ≤ m) (hS : SqL K H a (ns.map V.int)) :
    spD K 1 G [.ref a] H (fun v _ => v = .bl true) (fun _ _ _ => False) := by
  have fin : ∀ d, G [d] = .ok (.bl true) → Rep K (fun _ => False) H (.ref a) d → spD K 1 G [.ref a] H (fun v _ => v = .bl true) (fun _ _ _ => False) := fun d e r => by
    refine ⟨fun _ => False, [d], fun _ z => z.elim, .cons r .nil, rfl, ?_⟩
    rw [e]
    intro v H' _ r'
    cases r' with
    | bl b => rfl
  rcases hS with (h1 | ⟨o, h1⟩) | h1
  · rcases hO a with z | ⟨o, xs, z⟩
    · rw [z] at h1; cases h1
    · rw [z] at h1; cases h1
  · exact fin _ (h ns hl) (.scr h1 (fun z => z) (rep_ints ns))
  · exact fin _ (h ns hl) (.scl h1 (rep_ints ns))
/-- the law's call, by its promise; what leaves a def may hang on the world -/
theorem walk_ofX {l : PySem.W.OpenLaw} {n k : Nat} {q : Program} {loose : List Str} {XP : (Str → Option Value) → Heap → Prop} {YP : World → Heap → Prop} {d : DefRec} {x : Str}
    (hn : l.most = some n) (hn2 : n ≤ sizeLine) (hdf : d.params.defaults = []) (hr : Room k callerA)
    (F : ∀ (w : World) (mg : Str → Option Value) (fa : Addr) (h : Heap), YP w h → h.Ns mainGlobals mg → mg d.name = some (.ref fa) →
      ∃ (K : PySem.W.Frag) (fd : FuncData) (sp : Sp), K.In h ∧ (∀ (s : Shared) (u : Value), BindsTo s fd ⟨[u], []⟩ [(x, u)]) ∧
        (∀ (H : Hp) (a : Addr) (ns : List Int), ns.length ≤ n → Only H → SqL K H a (ns.map V.int) → sp [.ref a] H (fun v _ => v = .bl true) fun _ _ _ => False) ∧
        ∀ base : Heap, K.In base → base.Ns mainGlobals mg → FnOk l.prog w K mg base (L2.CX l.prog w) k fa fd [x] sp) :
    PySem.W.WalkO q loose XP YP l.row.toRowW d [] (fun f vs => PySem.call f vs) := by
  refine Att.attach_call hn hdf fun w s₀ s₁ mg mb fa o pm cd doc a vs ns G Y ho hd hcd hmg hobj hints hlen hg => ?_
  obtain ⟨K, fd, sp, KX, hb, hsp, hF⟩ := F w mg fa _ Y G.T.g hmg
  exact law_call KX G.T.g G.T.b G.T.builtins G.T.nolimit hg hobj hints (Nat.le_trans hlen hn2) hr hF hb (fun H hO hS => hsp H a ns hlen hO hS) fun H e s' z => cx_no z
end DL

namespace LW
open PySem PySem.Spec PyProof.Rows L2 DL
def topS (i : Nat) : Stmt := PySem.Challenge.pw_unlookedlists_k04_missing_name_first.main.body.getD i (.Pass ⟨0, 0, 0, 0⟩)
abbrev s_item : Stmt := topS 4
abbrev N_item : List Str := ["place"]
abbrev P_item : List Str := ["place"]
def dd_item : He.DefD := ⟨("item", none), "item", "item", defArgs s_item, defBody s_item, defScope s_item, [], []⟩
abbrev s_call : Stmt := topS 5
abbrev N_call : List Str := ["name", "arguments"]
abbrev P_call : List Str := ["name", "arguments"]
def dd_call : He.DefD := ⟨("call", none), "call", "call", defArgs s_call, defBody s_call, defScope s_call, [], []⟩
abbrev s_names_in : Stmt := topS 6
abbrev N_names_in : List Str := ["term", "found", "argument", "name"]
abbrev P_names_in : List Str := ["term"]
def dd_names_in : He.DefD := ⟨("names_in", none), "names_in", "names_in", defArgs s_names_in, defBody s_names_in, defScope s_names_in, [], []⟩
abbrev s_value_of : Stmt := topS 7
abbrev N_value_of : List Str := ["term", "items", "meaning", "known", "arguments", "argument"]
abbrev P_value_of : List Str := ["term", "items", "meaning"]
def dd_value_of : He.DefD := ⟨("value_of", none), "value_of", "value_of", defArgs s_value_of, defBody s_value_of, defScope s_value_of, [], []⟩
abbrev s_value : Stmt := topS 8
abbrev N_value : List Str := ["term", "items", "meaning", "name"]
abbrev P_value : List Str := ["term", "items", "meaning"]
def dd_value : He.DefD := ⟨("value", none), "value", "value", defArgs s_value, defBody s_value, defScope s_value, [], []⟩
abbrev s__law_draws : Stmt := topS 10
abbrev N__law_draws : List Str := ["_law_script", "_law_many", "_law_draws_here", "_law_k", "_law_cell", "_law_step", "_law_mixed"]
abbrev P__law_draws : List Str := ["_law_script", "_law_many"]
def dd__law_draws : He.DefD := ⟨("_law_draws", none), "_law_draws", "_law_draws", defArgs s__law_draws, defBody s__law_draws, defScope s__law_draws, [], []⟩
abbrev s__law_once : Stmt := topS 11
abbrev N__law_once : List Str := ["_law_names", "_law_found", "_law_name"]
abbrev P__law_once : List Str := ["_law_names"]
def dd__law_once : He.DefD := ⟨("_law_once", none), "_law_once", "_law_once", defArgs s__law_once, defBody s__law_once, defScope s__law_once, [], []⟩
abbrev s__law_f : Stmt := topS 12
abbrev N__law_f : List Str := ["_law_one"]
abbrev P__law_f : List Str := ["_law_one"]
def dd__law_f : He.DefD := ⟨("_law_f", none), "_law_f", "_law_f", defArgs s__law_f, defBody s__law_f, defScope s__law_f, [], []⟩
abbrev s__law_g : Stmt := topS 13
abbrev N__law_g : List Str := ["_law_one"]
abbrev P__law_g : List Str := ["_law_one"]
def dd__law_g : He.DefD := ⟨("_law_g", none), "_law_g", "_law_g", defArgs s__law_g, defBody s__law_g, defScope s__law_g, [], []⟩
abbrev s__law_h : Stmt := topS 14
abbrev N__law_h : List Str := ["_law_left", "_law_right_here"]
abbrev P__law_h : List Str := ["_law_left", "_law_right_here"]
def dd__law_h : He.DefD := ⟨("_law_h", none), "_law_h", "_law_h", defArgs s__law_h, defBody s__law_h, defScope s__law_h, [], []⟩
abbrev s__law_one_fails : Stmt := topS 15
abbrev N__law_one_fails : List Str := ["_law_one"]
abbrev P__law_one_fails : List Str := ["_law_one"]
def dd__law_one_fails : He.DefD := ⟨("_law_one_fails", none), "_law_one_fails", "_law_one_fails", defArgs s__law_one_fails, defBody s__law_one_fails, defScope s__law_one_fails, [], []⟩
abbrev s__law_two_fail : Stmt := topS 16
abbrev N__law_two_fail : List Str := ["_law_left", "_law_right_here"]
abbrev P__law_two_fail : List Str := ["_law_left", "_law_right_here"]
def dd__law_two_fail : He.DefD := ⟨("_law_two_fail", none), "_law_two_fail", "_law_two_fail", defArgs s__law_two_fail, defBody s__law_two_fail, defScope s__law_two_fail, [], []⟩
abbrev s__law_ask : Stmt := topS 17
abbrev N__law_ask : List Str := ["_law_term", "_law_things", "_law_given"]
abbrev P__law_ask : List Str := ["_law_term", "_law_things", "_law_given"]
def dd__law_ask : He.DefD := ⟨("_law_ask", none), "_law_ask", "_law_ask", defArgs s__law_ask, defBody s__law_ask, defScope s__law_ask, [], []⟩
abbrev s__law_missing : Stmt := topS 18
abbrev N__law_missing : List Str := ["_law_names", "_law_known", "_law_name"]
abbrev P__law_missing : List Str := ["_law_names", "_law_known"]
def dd__law_missing : He.DefD := ⟨("_law_missing", none), "_law_missing", "_law_missing", defArgs s__law_missing, defBody s__law_missing, defScope s__law_missing, [], []⟩
abbrev s__law_right : Stmt := topS 19
abbrev N__law_right : List Str := ["_law_entry", "_law_things", "_law_given", "_law_known", "_law_missing_here", "_law_told", "_law_base", "error"]
abbrev P__law_right : List Str := ["_law_entry", "_law_things", "_law_given"]
def dd__law_right : He.DefD := ⟨("_law_right", none), "_law_right", "_law_right", defArgs s__law_right, defBody s__law_right, defScope s__law_right, [], []⟩
abbrev s_law : Stmt := topS 20
abbrev N_law : List Str := ["_law_script", "_law_draws_here", "_law_many", "_law_things", "_law_k", "_law_entries", "_law_draw", "_law_kind", "_law_rest", "_law_last", "_law_before", "_law_right_here", "_law_left", "_law_only", "_law_entry", "_law_given"]
abbrev P_law : List Str := ["_law_script"]
def dd_law : He.DefD := ⟨("law", none), "law", "law", defArgs s_law, defBody s_law, defScope s_law, [], []⟩
def P : Program := PySem.Challenge.pw_unlookedlists_k04_missing_name_first
abbrev s_ex_MissingName : Stmt := inCls (topS 2) 0
def dy_ex_MissingName : DefY := ⟨"MissingName", "__init__", "init", "__init__", "MissingName.__init__", defArgs s_ex_MissingName, defBody s_ex_MissingName, defScope s_ex_MissingName, ["name"], P.main.file, true⟩
def fa : List He.Fa := [.glo "law", .glo "names_in", .free "len", .glo "value_of", .free "super", .glo "MissingName", .free "min", .free "range", .free "abs", .free "int", .glo "value", .glo "_law_one_fails", .glo "_law_two_fail", .glo "_law_missing", .glo "_law_h", .glo "_law_g", .glo "_law_f", .glo "_law_ask", .free "ZeroDivisionError", .free "isinstance", .glo "ListError", .free "str", .glo "_law_draws", .free "max", .glo "_law_once", .glo "call", .glo "item", .glo "_law_right"]
def fx : List Fx := [.exb "MissingName" "ZeroDivisionError" false, .exm "MissingName" "MissingName" true, .exi "MissingName" "ListError", .xfa "MissingName" "name"]
def fn : List He.DefD := [dd_item, dd_call, dd_names_in, dd_value_of, dd_value, dd__law_draws, dd__law_once, dd__law_f, dd__law_g, dd__law_h, dd__law_one_fails, dd__law_two_fail, dd__law_ask, dd__law_missing, dd__law_right, dd_law]
def fy : List DefY := [dy_ex_MissingName]
abbrev TT (K : PySem.W.Frag) (mg : Str → Option Value) : Prop := Tx fa fx fn fy K mg
abbrev RR : PySem.W.OpenRow := PySem.W.OpenLaw.row PySem.Challenge.rw_unlookedlists_k04_missing_name_first
abbrev qv : Program := PySem.W.view RR.prog [20]
def loose : List PySem.Str := ([PySem.Str.ofString "__name__", PySem.Str.ofString "ListError", PySem.Str.ofString "MissingName", PySem.Str.ofString "item", PySem.Str.ofString "call", PySem.Str.ofString "names_in", PySem.Str.ofString "value_of", PySem.Str.ofString "value", PySem.Str.ofString "_law_draws", PySem.Str.ofString "_law_once", PySem.Str.ofString "_law_f", PySem.Str.ofString "_law_g", PySem.Str.ofString "_law_h", PySem.Str.ofString "_law_one_fails", PySem.Str.ofString "_law_two_fail", PySem.Str.ofString "_law_ask", PySem.Str.ofString "_law_missing", PySem.Str.ofString "_law_right"] : List PySem.Str)
abbrev hk : PySem.W.Hook := hookX 5 fa fx fn fy
def ob (s : PySem.W.SharedT) : AlX := obsXG 5 fa fx fn fy (HandSHeadRun.getT s)
theorem ob_eq (s : PySem.W.SharedT) : ob s = hk.obs s.abs := obsXG_eq (HandSHeadRun.getT_eq s)
theorem run (w : World) : HandSHeadRun.RunEq RR qv hk ob 20000 loose w := by
  intro os
  kernel_rfl
def FactsT : Prop := ∀ {w : World} {K : PySem.W.Frag} {h : Heap} {mg : Str → Option Value} {f : Addr}, K.In h → h.Ns mainGlobals mg → mg ("law" : Str) = some (.ref f) → obsX fa fx fn fy K = valX fn fy →
    ∃ (K : PySem.W.Frag) (fd : FuncData) (sp : Sp), K.In h ∧ (∀ (s : Shared) (u : Value), BindsTo s fd ⟨[u], []⟩ [(("_law_script" : Str), u)]) ∧
      (∀ (H : Hp) (a : Addr) (ns : List Int), ns.length ≤ 63 → Only H → SqL K H a (ns.map V.int) → sp [.ref a] H (fun v _ => v = .bl true) fun _ _ _ => False) ∧
      ∀ base : Heap, K.In base → base.Ns mainGlobals mg → FnOk PySem.Challenge.pw_unlookedlists_k04_missing_name_first w K mg base (L2.CX PySem.Challenge.pw_unlookedlists_k04_missing_name_first w) 65 f fd ["_law_script"] sp
end LW
section
open PySem PySem.W PySem.Calls PyProof.Rows
set_option maxRecDepth 100000 in
set_option maxHeartbeats 0 in
theorem LW.early (LWF : LW.FactsT) : PySem.Challenge.rw_unlookedlists_k04_missing_name_first.Holds := by
  w_on; o_law
  refine HandSHeadRun.head_any (r := OpenLaw.row PySem.Challenge.rw_unlookedlists_k04_missing_name_first) (q := LW.qv) (H := LW.hk) (ob := LW.ob) (M := 20000) (loose := LW.loose) (d := HandSHeadRun.topDef (OpenLaw.row PySem.Challenge.rw_unlookedlists_k04_missing_name_first).prog 20) (kwd := []) LW.ob_eq
    (by kernel_rfl) (fun s => by kernel_rfl) LW.run (by kernel_rfl) (by kernel_rfl) (by kernel_rfl) (by rfl) (by first | assumption | decide +kernel) (by decide +kernel) ⟨rfl, rfl, rfl, rfl, rfl, by decide +kernel⟩ ?hw ?hc
  case hw => w_witness2
  case hc =>
    refine DL.walk_ofX (l := PySem.Challenge.rw_unlookedlists_k04_missing_name_first) (n := 63) (k := 65) (x := "_law_script") rfl (by decide) (by kernel_rfl) ⟨rfl, by decide, by decide⟩ ?F
    intro w mg fa h Y G hmg0
    obtain ⟨K, KX, c⟩ := Y
    have hmg : mg ("law" : PySem.Str) = some (.ref fa) := by
      have e : (HandSHeadRun.topDef (OpenLaw.row PySem.Challenge.rw_unlookedlists_k04_missing_name_first).prog 20).name = ("law" : PySem.Str) := by kernel_rfl
      rw [← e]
      exact hmg0
    exact LWF KX G hmg c
end
namespace LW
open PySem PySem.Spec PyProof.Rows L2 DL
theorem sc_item : FnScope N_item P_item (defScope s_item) := ⟨rfl, rfl, rfl, by decide +kernel, rfl, by decide +kernel, by decide +kernel⟩
theorem sc_call : FnScope N_call P_call (defScope s_call) := ⟨rfl, rfl, rfl, by decide +kernel, rfl, by decide +kernel, by decide +kernel⟩
theorem sc_names_in : FnScope N_names_in P_names_in (defScope s_names_in) := ⟨rfl, rfl, rfl, by decide +kernel, rfl, by decide +kernel, by decide +kernel⟩
theorem sc_value_of : FnScope N_value_of P_value_of (defScope s_value_of) := ⟨rfl, rfl, rfl, by decide +kernel, rfl, by decide +kernel, by decide +kernel⟩
theorem sc_value : FnScope N_value P_value (defScope s_value) := ⟨rfl, rfl, rfl, by decide +kernel, rfl, by decide +kernel, by decide +kernel⟩
theorem sc__law_draws : FnScope N__law_draws P__law_draws (defScope s__law_draws) := ⟨rfl, rfl, rfl, by decide +kernel, rfl, by decide +kernel, by decide +kernel⟩
theorem sc__law_once : FnScope N__law_once P__law_once (defScope s__law_once) := ⟨rfl, rfl, rfl, by decide +kernel, rfl, by decide +kernel, by decide +kernel⟩
theorem sc__law_f : FnScope N__law_f P__law_f (defScope s__law_f) := ⟨rfl, rfl, rfl, by decide +kernel, rfl, by decide +kernel, by decide +kernel⟩
theorem sc__law_g : FnScope N__law_g P__law_g (defScope s__law_g) := ⟨rfl, rfl, rfl, by decide +kernel, rfl, by decide +kernel, by decide +kernel⟩
theorem sc__law_h : FnScope N__law_h P__law_h (defScope s__law_h) := ⟨rfl, rfl, rfl, by decide +kernel, rfl, by decide +kernel, by decide +kernel⟩
theorem sc__law_one_fails : FnScope N__law_one_fails P__law_one_fails (defScope s__law_one_fails) := ⟨rfl, rfl, rfl, by decide +kernel, rfl, by decide +kernel, by decide +kernel⟩
theorem sc__law_two_fail : FnScope N__law_two_fail P__law_two_fail (defScope s__law_two_fail) := ⟨rfl, rfl, rfl, by decide +kernel, rfl, by decide +kernel, by decide +kernel⟩
theorem sc__law_ask : FnScope N__law_ask P__law_ask (defScope s__law_ask) := ⟨rfl, rfl, rfl, by decide +kernel, rfl, by decide +kernel, by decide +kernel⟩
theorem sc__law_missing : FnScope N__law_missing P__law_missing (defScope s__law_missing) := ⟨rfl, rfl, rfl, by decide +kernel, rfl, by decide +kernel, by decide +kernel⟩
theorem sc__law_right : FnScope N__law_right P__law_right (defScope s__law_right) := ⟨rfl, rfl, rfl, by decide +kernel, rfl, by decide +kernel, by decide +kernel⟩
theorem sc_law : FnScope N_law P_law (defScope s_law) := ⟨rfl, rfl, rfl, by decide +kernel, rfl, by decide +kernel, by decide +kernel⟩
section
variable {w : World} {K : PySem.W.Frag} {mg : Str → Option Value} {base : Heap}
theorem ex_MissingName (T : TT K mg) : ExOk P w K mg base "MissingName" "self" ["name"] := by
  obtain ⟨cc, c, I, h1, h2, h3⟩ := T.exc P 0 (d := dy_ex_MissingName) rfl rfl rfl (by kernel_rfl)
  obtain ⟨fd, Fo, oc, od, osl, doc, pm, ctv, rfl, lk⟩ := init_one (k := 0) (w := w) (mg := mg) (base := base) (CX := L2.CX P w) rfl I ⟨(show NdefX.NScope _ _ _ dy_ex_MissingName.scope from NdefX.nscope_by (by decide +kernel)), (show List.lookup _ dy_ex_MissingName.scope.names = _ from by decide +kernel), ⟨_, rfl, rfl⟩, fun _ _ => rfl, fun _ _ => rfl, fun _ _ => ⟨_, rfl⟩, fun _ _ => rfl⟩ (T.free 4) (h3 "name" (by simp [dy_ex_MissingName])) (fun _ _ => rfl) (by decide) (by decide) (by decide) (by decide)
  exact ⟨⟨_, Fo, Binds.all fun us hl => match us, hl with | [_, _], _ => rfl⟩, I.oex, h1, h2⟩
def b_item : FS := (fRet (fTup (fCons (fC (.str "item")) (fCons (fVar 0) fNil))))
def m_item : List D → R D := runD 1 b_item
theorem ok_item (T : TT K mg) : FnG P w K mg base 1 (He.ga K "item") 1 m_item := by
  obtain ⟨fd, Fd⟩ := T.def_ 0 (d := dd_item) rfl
  exact fng_of (N := N_item) Fd sc_item (FunD.bindsN Fd fun _ _ _ _ _ _ us hl => match us, hl with | [_], _ => rfl) (fun cdv A outer s e0 H E B tk => (dss_one (ds_ret (de_tup (da_cons de_str (da_cons (de_var 0) da_nil))))))
def b_call : FS := (fRet (fTup (fCons (fC (.str "call")) (fCons (fVar 0) (fCons (fVar 1) fNil)))))
def m_call : List D → R D := starD 1 2 b_call
theorem ok_call (T : TT K mg) : FnV P w K mg base 1 (He.ga K "call") m_call := by
  obtain ⟨fd, Fd⟩ := T.def_ 1 (d := dd_call) rfl
  exact fnv_star (ps := ["name"]) (N := N_call) Fd sc_call (fun _ _ _ _ _ _ us rest hl => match us, hl with | [_], _ => by cases rest <;> rfl) (fun cdv A outer s e0 H E B tk => (dss_one (ds_ret (de_tup (da_cons de_str (da_cons (de_var 0) (da_cons (de_var 1) da_nil)))))))
def l1_names_in (r_names_in : List D → R D) : FS := (fIfS (fTest (fInOw true (fVar 3) 1)) (fApp 1 (fVar 3)) fSkip)
def l2_names_in (r_names_in : List D → R D) : FS := (fFor (fItems (fCall r_names_in (fCons (fVar 2) fNil))) (pName 3) (l1_names_in r_names_in))
def b_names_in (r_names_in : List D → R D) : FS := (fSeq (fIfS (fTest (fB dEq (fB dIx (fVar 0) (fC (.int 0))) (fC (.str "item")))) (fRet (fLst fNil)) fSkip) (fSeq (fNew 1 (fCons (fB dIx (fVar 0) (fC (.int 1))) fNil)) (fSeq (fFor (fItems (fB dIx (fVar 0) (fC (.int 2)))) (pName 2) (l2_names_in r_names_in)) (fFrz 1 (fRet (fVar 1))))))
def m_names_in : Nat → List D → R D
  | 0 => fun _ => .bad
  | n + 1 => runD 4 (b_names_in (m_names_in n))
theorem st_names_in (T : TT K mg) {n : Nat} (hn : 0 ≤ n) {r_names_in : List D → R D} (h_names_in : FnG P w K mg base (0 + n) (He.ga K "names_in") 1 r_names_in) : FnG P w K mg base (0 + n + 1) (He.ga K "names_in") 1 (runD 4 (b_names_in r_names_in)) := by
  obtain ⟨fd, Fd⟩ := T.def_ 2 (d := dd_names_in) rfl
  exact fng_of (N := N_names_in) Fd sc_names_in (FunD.bindsN Fd fun _ _ _ _ _ _ us hl => match us, hl with | [_], _ => rfl) (fun cdv A outer s e0 H E B tk => (dss_cons (ds_if (db_cmp (opd_eq B.hu64) (de_ix (ixd_all B.hu) (de_var 0) de_int (fun _ _ => rfl)) de_str (nomark _)) (dss_one (ds_ret (de_lst da_nil))) dss_nil) (dss_cons (ds_new (i := 1) sc_names_in.nd rfl (by first | exact .inl rfl | exact .inr rfl) (da_cons (de_ix (ixd_all B.hu) (de_var 0) de_int (fun _ _ => rfl)) da_nil)) (dss_cons (ds_for B.own B.calm (di_seq (de_ix (ixd_all B.hu) (de_var 0) de_int (fun _ _ => rfl))) (dg_name 2 sc_names_in.nd rfl (by first | exact .inl rfl | exact .inr rfl)) (dss_one (ds_for B.own B.calm (di_seq (de_call h_names_in B rfl (T.glo 1) (T.kp 2 (d := dd_names_in)) (da_cons (de_var 2) da_nil))) (dg_name 3 sc_names_in.nd rfl (by first | exact .inl rfl | exact .inr rfl)) (dss_one (ds_if (db_ninOw 1 (de_var 3)) (dss_one (ds_app (i := 1) (fun _ h => pe_bm PySem.F.plainAttrs_list PySem.F.slot_list_append PySem.F.type_list_append mt_append (pv 1) h) (de_var 3))) dss_nil))))) (dss_frz 1 (dss_one (ds_ret (de_var 1))))))))
theorem all_names_in (T : TT K mg) : ∀ n : Nat, FnG P w K mg base (0 + n) (He.ga K "names_in") 1 (m_names_in n)
  | 0 => fng_zero
  | n + 1 => by
    have ih := all_names_in T n
    exact st_names_in T (Nat.zero_le _) ih
theorem ok_names_in (T : TT K mg) (n : Nat) : FnG P w K mg base (0 + n) (He.ga K "names_in") 1 (m_names_in n) := (all_names_in T n)
def b__law_f : FS := (fRet (fLst (fCons (fVar 0) (fCons (fC (.int 1)) fNil))))
def m__law_f : List D → R D := runD 1 b__law_f
theorem ok__law_f (T : TT K mg) : FnG P w K mg base 1 (He.ga K "_law_f") 1 m__law_f := by
  obtain ⟨fd, Fd⟩ := T.def_ 7 (d := dd__law_f) rfl
  exact fng_of (N := N__law_f) Fd sc__law_f (FunD.bindsN Fd fun _ _ _ _ _ _ us hl => match us, hl with | [_], _ => rfl) (fun cdv A outer s e0 H E B tk => (dss_one (ds_ret (de_lst (da_cons (de_var 0) (da_cons de_int da_nil))))))
def b__law_g : FS := (fRet (fTup (fCons (fVar 0) (fCons (fC (.str "g")) fNil))))
def m__law_g : List D → R D := runD 1 b__law_g
theorem ok__law_g (T : TT K mg) : FnG P w K mg base 1 (He.ga K "_law_g") 1 m__law_g := by
  obtain ⟨fd, Fd⟩ := T.def_ 8 (d := dd__law_g) rfl
  exact fng_of (N := N__law_g) Fd sc__law_g (FunD.bindsN Fd fun _ _ _ _ _ _ us hl => match us, hl with | [_], _ => rfl) (fun cdv A outer s e0 H E B tk => (dss_one (ds_ret (de_tup (da_cons (de_var 0) (da_cons de_str da_nil))))))
def b__law_h : FS := (fRet (fTup (fCons (fVar 1) (fCons (fVar 0) fNil))))
def m__law_h : List D → R D := runD 2 b__law_h
theorem ok__law_h (T : TT K mg) : FnG P w K mg base 1 (He.ga K "_law_h") 2 m__law_h := by
  obtain ⟨fd, Fd⟩ := T.def_ 9 (d := dd__law_h) rfl
  exact fng_of (N := N__law_h) Fd sc__law_h (FunD.bindsN Fd fun _ _ _ _ _ _ us hl => match us, hl with | [_, _], _ => rfl) (fun cdv A outer s e0 H E B tk => (dss_one (ds_ret (de_tup (da_cons (de_var 1) (da_cons (de_var 0) da_nil))))))
def b__law_one_fails : FS := (fRet (fB dFdiv (fC (.int 1)) (fC (.int 0))))
def m__law_one_fails : List D → R D := runD 1 b__law_one_fails
theorem ok__law_one_fails (T : TT K mg) : FnG P w K mg base 1 (He.ga K "_law_one_fails") 1 m__law_one_fails := by
  obtain ⟨fd, Fd⟩ := T.def_ 10 (d := dd__law_one_fails) rfl
  exact fng_of (N := N__law_one_fails) Fd sc__law_one_fails (FunD.bindsN Fd fun _ _ _ _ _ _ us hl => match us, hl with | [_], _ => rfl) (fun cdv A outer s e0 H E B tk => (dss_one (ds_ret (de_op opd_fdiv de_int de_int))))
def b__law_two_fail : FS := (fRet (fB dFdiv (fC (.int 1)) (fC (.int 0))))
def m__law_two_fail : List D → R D := runD 2 b__law_two_fail
theorem ok__law_two_fail (T : TT K mg) : FnG P w K mg base 1 (He.ga K "_law_two_fail") 2 m__law_two_fail := by
  obtain ⟨fd, Fd⟩ := T.def_ 11 (d := dd__law_two_fail) rfl
  exact fng_of (N := N__law_two_fail) Fd sc__law_two_fail (FunD.bindsN Fd fun _ _ _ _ _ _ us hl => match us, hl with | [_, _], _ => rfl) (fun cdv A outer s e0 H E B tk => (dss_one (ds_ret (de_op opd_fdiv de_int de_int))))
def b_value_of (r_value_of : List D → R D) : FS := (fSeq (fIfS (fTest (fB dEq (fB dIx (fVar 0) (fC (.int 0))) (fC (.str "item")))) (fRet (fB dIx (fVar 1) (fB dIx (fVar 0) (fC (.int 1))))) fSkip) (fSeq (fSet 3 (fB dIx (fVar 2) (fB dIx (fVar 0) (fC (.int 1))))) (fSeq (fIfS (fTest (fB dEq (fL dLen (fCons (fB dIx (fVar 0) (fC (.int 2))) fNil)) (fC (.int 0)))) (fRet (fVar 3)) fSkip) (fSeq (fSet 4 (fLc (fItems (fB dIx (fVar 0) (fC (.int 2)))) 5 fYes (fCall r_value_of (fCons (fVar 5) (fCons (fVar 1) (fCons (fVar 2) fNil)))))) (fRet (fCallVS [(1, [("_law_f", m__law_f), ("_law_g", m__law_g), ("_law_one_fails", m__law_one_fails)]), (2, [("_law_h", m__law_h), ("_law_two_fail", m__law_two_fail)])] 3 (fVar 4)))))))
def m_value_of : Nat → List D → R D
  | 0 => fun _ => .bad
  | n + 1 => runD 6 (b_value_of (m_value_of n))
theorem st_value_of (T : TT K mg) {n : Nat} (hn : 0 ≤ n) {r_value_of : List D → R D} (h_value_of : FnG P w K mg base (1 + n) (He.ga K "value_of") 3 r_value_of) : FnG P w K mg base (1 + n + 1) (He.ga K "value_of") 3 (runD 6 (b_value_of r_value_of)) := by
  obtain ⟨fd, Fd⟩ := T.def_ 3 (d := dd_value_of) rfl
  exact fng_of (N := N_value_of) Fd sc_value_of (FunD.bindsN Fd fun _ _ _ _ _ _ us hl => match us, hl with | [_, _, _], _ => rfl) (fun cdv A outer s e0 H E B tk => (dss_cons (ds_if (db_cmp (opd_eq B.hu64) (de_ix (ixd_all B.hu) (de_var 0) de_int (fun _ _ => rfl)) de_str (nomark _)) (dss_one (ds_ret (de_ix (ixd_all B.hu) (de_var 1) (de_ix (ixd_all B.hu) (de_var 0) de_int (fun _ _ => rfl)) (fun _ _ => rfl)))) dss_nil) (dss_cons (ds_set (i := 3) sc_value_of.nd rfl (by first | exact .inl rfl | exact .inr rfl) (de_ix (ixd_all B.hu) (de_var 2) (de_ix (ixd_all B.hu) (de_var 0) de_int (fun _ _ => rfl)) (fun _ _ => rfl))) (dss_cons (ds_if (db_cmp (opd_eq B.hu64) (de_callB cd_len rfl (T.free 2) (by decide +kernel) (da_cons (de_ix (ixd_all B.hu) (de_var 0) de_int (fun _ _ => rfl)) da_nil)) de_int (nomark _)) (dss_one (ds_ret (de_var 3))) dss_nil) (dss_cons (ds_setLc (j := 4) B.calm sc_value_of.nd rfl rfl (sw_true rfl rfl rfl (by decide +kernel)) (di_seq (de_ix (ixd_all B.hu) (de_var 0) de_int (fun _ _ => rfl))) (own := [("argument", 5)]) (blkOk_by (N := N_value_of) (sc := defScope s_value_of) (by decide +kernel)) rfl (fun _ _ _ _ _ => pg_name (i := 5) sc_value_of.nd rfl (Or.inl rfl)) (fun _ _ _ _ _ => dts_nil) (fun _ _ _ _ _ => (de_call h_value_of (B.blk) rfl (T.glo 3) (T.kp 3 (d := dd_value_of)) (da_cons (de_var 5) (da_cons (de_var 1) (da_cons (de_var 2) da_nil)))))) (dss_one (ds_ret (de_callVS 3 (tsCons (n := 1) (tbOk_cons (q := ("_law_f", m__law_f)) ((ok__law_f T).mono (by omega)) (T.kp 7 (d := dd__law_f)) (tbOk_cons (q := ("_law_g", m__law_g)) ((ok__law_g T).mono (by omega)) (T.kp 8 (d := dd__law_g)) (tbOk_cons (q := ("_law_one_fails", m__law_one_fails)) ((ok__law_one_fails T).mono (by omega)) (T.kp 10 (d := dd__law_one_fails)) tbOk_nil))) (tsCons (n := 2) (tbOk_cons (q := ("_law_h", m__law_h)) ((ok__law_h T).mono (by omega)) (T.kp 9 (d := dd__law_h)) (tbOk_cons (q := ("_law_two_fail", m__law_two_fail)) ((ok__law_two_fail T).mono (by omega)) (T.kp 11 (d := dd__law_two_fail)) tbOk_nil)) (tsNil))) B rfl (by first | exact Or.inl rfl | exact Or.inr (Or.inl rfl) | exact Or.inr (Or.inr rfl)) (de_var 4)))))))))
theorem all_value_of (T : TT K mg) : ∀ n : Nat, FnG P w K mg base (1 + n) (He.ga K "value_of") 3 (m_value_of n)
  | 0 => fng_zero
  | n + 1 => by
    have ih := all_value_of T n
    exact st_value_of T (Nat.zero_le _) ih
theorem ok_value_of (T : TT K mg) (n : Nat) : FnG P w K mg base (1 + n) (He.ga K "value_of") 3 (m_value_of n) := (all_value_of T n)
def l1_value : FS := (fIfS (fTest (fB dNotIn (fVar 3) (fVar 2))) (fRaise "MissingName" (fCons (fVar 3) fNil)) fSkip)
def b_value : FS := (fSeq (fFor (fItems (fCall (m_names_in 60) (fCons (fVar 0) fNil))) (pName 3) l1_value) (fRet (fCall (m_value_of 60) (fCons (fVar 0) (fCons (fVar 1) (fCons (fVar 2) fNil))))))
def m_value : List D → R D := runD 4 b_value
theorem bd_value (T : TT K mg) (cdv : Value) (A : Around) (outer : List Env) (s : Shared) (e0 : Ent) (H : Hp) (E : XK) (k : Nat) (fa : Addr) (hk : 61 ≤ k) (B : Bd (cxOf (L2.CX P w) P w K mg base N_value dd_value.qual dd_value.scope fa cdv A outer s H E) (fun _ => E) k) (tk : Takes (cxOf (L2.CX P w) P w K mg base N_value dd_value.qual dd_value.scope fa cdv A outer s H E) (fun cls d _ H => E cls d H)) : DSts (cxOf (L2.CX P w) P w K mg base N_value dd_value.qual dd_value.scope fa cdv A outer s H E) e0 E dd_value.body b_value := (dss_cons (ds_for B.own B.calm (di_seq (de_call ((ok_names_in T 60).mono (by omega)) B rfl (T.glo 1) (T.kp 2 (d := dd_names_in)) (da_cons (de_var 0) da_nil))) (dg_name 3 sc_value.nd rfl (by first | exact .inl rfl | exact .inr rfl)) (dss_one (ds_if (db_cmp (opd_notIn B.hu) (de_var 3) (de_var 2) (by with_unfolding_all rfl)) (dss_one (ds_raise (fs := ["name"]) rfl (by decide) (ex_MissingName T) (B.room.mono (by omega)) B.calm tk rfl (T.glo 5) (da_cons (de_var 3) da_nil))) dss_nil))) (dss_one (ds_ret (de_call ((ok_value_of T 60).mono (by omega)) B rfl (T.glo 3) (T.kp 3 (d := dd_value_of)) (da_cons (de_var 0) (da_cons (de_var 1) (da_cons (de_var 2) da_nil)))))))
theorem ok_value_0 (T : TT K mg) : FnK P w K mg base 62 (He.ga K "value") ["f", "g", "c"] 2 m_value := by
  obtain ⟨fd, Fd⟩ := T.def_ 4 (d := dd_value) rfl
  exact fnk_of (N := N_value) (ps := ["term", "items"]) (ks := ["f", "g", "c"]) (pv := "meaning") Fd sc_value (by decide +kernel) (by decide) (fun _ _ _ _ _ _ us ws h1 h2 => match us, ws, h1, h2 with | [_, _], [_, _, _], _, _ => rfl) (fun cdv A outer s e0 H E B tk => bd_value T cdv A outer s e0 H E _ _ (by decide) B tk)
theorem ok_value_1 (T : TT K mg) : FnK P w K mg base 62 (He.ga K "value") [] 2 m_value := by
  obtain ⟨fd, Fd⟩ := T.def_ 4 (d := dd_value) rfl
  exact fnk_of (N := N_value) (ps := ["term", "items"]) (ks := []) (pv := "meaning") Fd sc_value (by decide +kernel) (by decide) (fun _ _ _ _ _ _ us ws h1 h2 => match us, ws, h1, h2 with | [_, _], [], _, _ => rfl) (fun cdv A outer s e0 H E B tk => bd_value T cdv A outer s e0 H E _ _ (by decide) B tk)
theorem ok_value_2 (T : TT K mg) : FnK P w K mg base 62 (He.ga K "value") ["f"] 2 m_value := by
  obtain ⟨fd, Fd⟩ := T.def_ 4 (d := dd_value) rfl
  exact fnk_of (N := N_value) (ps := ["term", "items"]) (ks := ["f"]) (pv := "meaning") Fd sc_value (by decide +kernel) (by decide) (fun _ _ _ _ _ _ us ws h1 h2 => match us, ws, h1, h2 with | [_, _], [_], _, _ => rfl) (fun cdv A outer s e0 H E B tk => bd_value T cdv A outer s e0 H E _ _ (by decide) B tk)
theorem ok_value_3 (T : TT K mg) : FnK P w K mg base 62 (He.ga K "value") ["g", "h"] 2 m_value := by
  obtain ⟨fd, Fd⟩ := T.def_ 4 (d := dd_value) rfl
  exact fnk_of (N := N_value) (ps := ["term", "items"]) (ks := ["g", "h"]) (pv := "meaning") Fd sc_value (by decide +kernel) (by decide) (fun _ _ _ _ _ _ us ws h1 h2 => match us, ws, h1, h2 with | [_, _], [_, _], _, _ => rfl) (fun cdv A outer s e0 H E B tk => bd_value T cdv A outer s e0 H E _ _ (by decide) B tk)
theorem ok_value_4 (T : TT K mg) : FnK P w K mg base 62 (He.ga K "value") ["c", "h"] 2 m_value := by
  obtain ⟨fd, Fd⟩ := T.def_ 4 (d := dd_value) rfl
  exact fnk_of (N := N_value) (ps := ["term", "items"]) (ks := ["c", "h"]) (pv := "meaning") Fd sc_value (by decide +kernel) (by decide) (fun _ _ _ _ _ _ us ws h1 h2 => match us, ws, h1, h2 with | [_, _], [_, _], _, _ => rfl) (fun cdv A outer s e0 H E B tk => bd_value T cdv A outer s e0 H E _ _ (by decide) B tk)
theorem ok_value_5 (T : TT K mg) : FnK P w K mg base 62 (He.ga K "value") ["f", "g", "h"] 2 m_value := by
  obtain ⟨fd, Fd⟩ := T.def_ 4 (d := dd_value) rfl
  exact fnk_of (N := N_value) (ps := ["term", "items"]) (ks := ["f", "g", "h"]) (pv := "meaning") Fd sc_value (by decide +kernel) (by decide) (fun _ _ _ _ _ _ us ws h1 h2 => match us, ws, h1, h2 with | [_, _], [_, _, _], _, _ => rfl) (fun cdv A outer s e0 H E B tk => bd_value T cdv A outer s e0 H E _ _ (by decide) B tk)
theorem ok_value_6 (T : TT K mg) : FnK P w K mg base 62 (He.ga K "value") ["f", "g", "h", "c"] 2 m_value := by
  obtain ⟨fd, Fd⟩ := T.def_ 4 (d := dd_value) rfl
  exact fnk_of (N := N_value) (ps := ["term", "items"]) (ks := ["f", "g", "h", "c"]) (pv := "meaning") Fd sc_value (by decide +kernel) (by decide) (fun _ _ _ _ _ _ us ws h1 h2 => match us, ws, h1, h2 with | [_, _], [_, _, _, _], _, _ => rfl) (fun cdv A outer s e0 H E B tk => bd_value T cdv A outer s e0 H E _ _ (by decide) B tk)
def l1__law_draws : FS := (fSeq (fIfS (fTest (fB dGt (fVar 4) (fC (.int 0)))) (fApp 2 (fB dMod (fL dIntS (fCons (fVar 4) fNil)) (fC (.int 1000000)))) fSkip) (fSet 4 (fB dFdiv (fVar 4) (fC (.int 1000000)))))
def l2__law_draws : FS := (fSeq (fSet 4 (fL dAbs (fCons (fB dIx (fVar 0) (fVar 3)) fNil))) (fIfS (fTest (fB dGe (fVar 4) (fB dPow (fC (.int 10)) (fC (.int 18))))) (fFor (fRange (fCons (fC (.int 20)) fNil)) (pName 5) l1__law_draws) (fSeq (fSet 6 (fB dMod (fL dIntS (fCons (fB dAdd (fB dAdd (fB dMul (fVar 4) (fC (.int 48271))) (fB dMul (fVar 3) (fC (.int 7919)))) (fC (.int 1))) fNil)) (fC (.int 2147483647)))) (fApp 2 (fB dMod (fL dIntS (fCons (fB dMod (fL dIntS (fCons (fB dMul (fVar 6) (fVar 6)) fNil)) (fC (.int 2147483629))) fNil)) (fC (.int 1000000)))))))
def b__law_draws : FS := (fSeq (fNew 2 fNil) (fSeq (fFor (fRange (fCons (fL dMin2 (fCons (fL dLen (fCons (fVar 0) fNil)) (fCons (fC (.int 63)) fNil))) fNil)) (pName 3) l2__law_draws) (fFrz 2 (fRet (fSl (fB dAdd (fVar 2) (fB dMul (fLst (fCons (fC (.int 0)) fNil)) (fVar 1))) fNo (fSome (fVar 1)))))))
def m__law_draws : List D → R D := runD 7 b__law_draws
theorem ok__law_draws (T : TT K mg) : FnG P w K mg base 1 (He.ga K "_law_draws") 2 m__law_draws := by
  obtain ⟨fd, Fd⟩ := T.def_ 5 (d := dd__law_draws) rfl
  exact fng_of (N := N__law_draws) Fd sc__law_draws (FunD.bindsN Fd fun _ _ _ _ _ _ us hl => match us, hl with | [_, _], _ => rfl) (fun cdv A outer s e0 H E B tk => (dss_cons (ds_new (i := 2) sc__law_draws.nd rfl (by first | exact .inl rfl | exact .inr rfl) da_nil) (dss_cons (ds_for B.own B.calm (di_range1 rfl (T.free 7) (da_cons (de_callB (cd_min2 B.calm) rfl (T.free 6) (by decide +kernel) (da_cons (de_callB cd_len rfl (T.free 2) (by decide +kernel) (da_cons (de_var 0) da_nil)) (da_cons de_int da_nil))) da_nil)) (dg_name 3 sc__law_draws.nd rfl (by first | exact .inl rfl | exact .inr rfl)) (dss_cons (ds_set (i := 4) sc__law_draws.nd rfl (by first | exact .inl rfl | exact .inr rfl) (de_callB cd_abs rfl (T.free 8) (by decide +kernel) (da_cons (de_ix (ixd_all B.hu) (de_var 0) (de_var 3) (fun _ _ => rfl)) da_nil))) (dss_one (ds_if (db_cmp opd_ge (de_var 4) (de_op opd_pow de_int de_int) (nomark _)) (dss_one (ds_for B.own B.calm (di_range1 rfl (T.free 7) (da_cons de_int da_nil)) (dg_name 5 sc__law_draws.nd rfl (by first | exact .inl rfl | exact .inr rfl)) (dss_cons (ds_if (db_cmp opd_gt (de_var 4) de_int (nomark _)) (dss_one (ds_app (i := 2) (fun _ h => pe_bm PySem.F.plainAttrs_list PySem.F.slot_list_append PySem.F.type_list_append mt_append (pv 2) h) (de_op opd_mod (de_callTy cd_intS rfl (T.free 9) (by decide +kernel) (da_cons (de_var 4) da_nil)) de_int))) dss_nil) (dss_one (ds_set (i := 4) sc__law_draws.nd rfl (by first | exact .inl rfl | exact .inr rfl) (de_op opd_fdiv (de_var 4) de_int)))))) (dss_cons (ds_set (i := 6) sc__law_draws.nd rfl (by first | exact .inl rfl | exact .inr rfl) (de_op opd_mod (de_callTy cd_intS rfl (T.free 9) (by decide +kernel) (da_cons (de_op opd_add (de_op opd_add (de_op opd_mul (de_var 4) de_int) (de_op opd_mul (de_var 3) de_int)) de_int) da_nil)) de_int)) (dss_one (ds_app (i := 2) (fun _ h => pe_bm PySem.F.plainAttrs_list PySem.F.slot_list_append PySem.F.type_list_append mt_append (pv 2) h) (de_op opd_mod (de_callTy cd_intS rfl (T.free 9) (by decide +kernel) (da_cons (de_op opd_mod (de_callTy cd_intS rfl (T.free 9) (by decide +kernel) (da_cons (de_op opd_mul (de_var 6) (de_var 6)) da_nil)) de_int) da_nil)) de_int)))))))) (dss_frz 2 (dss_one (ds_ret (de_slice (de_op opd_add (de_var 2) (de_op opd_mul (de_lst (da_cons de_int da_nil)) (de_var 1))) do_no (do_some (de_var 1)))))))))
def l1__law_once : FS := (fIfS (fTest (fInOw true (fVar 2) 1)) (fApp 1 (fVar 2)) fSkip)
def b__law_once : FS := (fSeq (fNew 1 fNil) (fSeq (fFor (fItems (fVar 0)) (pName 2) l1__law_once) (fFrz 1 (fRet (fVar 1)))))
def m__law_once : List D → R D := runD 3 b__law_once
theorem ok__law_once (T : TT K mg) : FnG P w K mg base 1 (He.ga K "_law_once") 1 m__law_once := by
  obtain ⟨fd, Fd⟩ := T.def_ 6 (d := dd__law_once) rfl
  exact fng_of (N := N__law_once) Fd sc__law_once (FunD.bindsN Fd fun _ _ _ _ _ _ us hl => match us, hl with | [_], _ => rfl) (fun cdv A outer s e0 H E B tk => (dss_cons (ds_new (i := 1) sc__law_once.nd rfl (by first | exact .inl rfl | exact .inr rfl) da_nil) (dss_cons (ds_for B.own B.calm (di_seq (de_var 0)) (dg_name 2 sc__law_once.nd rfl (by first | exact .inl rfl | exact .inr rfl)) (dss_one (ds_if (db_ninOw 1 (de_var 2)) (dss_one (ds_app (i := 1) (fun _ h => pe_bm PySem.F.plainAttrs_list PySem.F.slot_list_append PySem.F.type_list_append mt_append (pv 1) h) (de_var 2))) dss_nil))) (dss_frz 1 (dss_one (ds_ret (de_var 1)))))))
def b__law_ask : FS := (fSeq (fIfS (fTest (fB dEq (fVar 2) (fC (.int 0)))) (fRet (fCallK [] m_value (fCons (fVar 0) (fCons (fVar 1) fNil)) fNil)) fSkip) (fSeq (fIfS (fTest (fB dEq (fVar 2) (fC (.int 1)))) (fRet (fCallK ["f"] m_value (fCons (fVar 0) (fCons (fVar 1) fNil)) (fCons (fC (.fn "_law_one_fails")) fNil))) fSkip) (fSeq (fIfS (fTest (fB dEq (fVar 2) (fC (.int 2)))) (fRet (fCallK ["g", "h"] m_value (fCons (fVar 0) (fCons (fVar 1) fNil)) (fCons (fC (.fn "_law_one_fails")) (fCons (fC (.fn "_law_two_fail")) fNil)))) fSkip) (fSeq (fIfS (fTest (fB dEq (fVar 2) (fC (.int 3)))) (fRet (fCallK ["c", "h"] m_value (fCons (fVar 0) (fCons (fVar 1) fNil)) (fCons (fC (.int 0)) (fCons (fC (.fn "_law_two_fail")) fNil)))) fSkip) (fSeq (fIfS (fTest (fB dEq (fVar 2) (fC (.int 4)))) (fRet (fCallK ["f", "g", "h"] m_value (fCons (fVar 0) (fCons (fVar 1) fNil)) (fCons (fC (.fn "_law_one_fails")) (fCons (fC (.fn "_law_one_fails")) (fCons (fC (.fn "_law_two_fail")) fNil))))) fSkip) (fRet (fCallK ["f", "g", "c"] m_value (fCons (fVar 0) (fCons (fVar 1) fNil)) (fCons (fC (.fn "_law_one_fails")) (fCons (fC (.fn "_law_one_fails")) (fCons (fC (.int 0)) fNil))))))))))
def m__law_ask : List D → R D := runD 3 b__law_ask
theorem ok__law_ask (T : TT K mg) : FnG P w K mg base 63 (He.ga K "_law_ask") 3 m__law_ask := by
  obtain ⟨fd, Fd⟩ := T.def_ 12 (d := dd__law_ask) rfl
  exact fng_of (N := N__law_ask) Fd sc__law_ask (FunD.bindsN Fd fun _ _ _ _ _ _ us hl => match us, hl with | [_, _, _], _ => rfl) (fun cdv A outer s e0 H E B tk => (dss_cons (ds_if (db_cmp (opd_eq B.hu64) (de_var 2) de_int (nomark _)) (dss_one (ds_ret (de_callK ((ok_value_1 T).mono (by decide)) B rfl (T.glo 10) (T.kp 4 (d := dd_value)) (da_cons (de_var 0) (da_cons (de_var 1) da_nil)) dk_nil))) dss_nil) (dss_cons (ds_if (db_cmp (opd_eq B.hu64) (de_var 2) de_int (nomark _)) (dss_one (ds_ret (de_callK ((ok_value_2 T).mono (by decide)) B rfl (T.glo 10) (T.kp 4 (d := dd_value)) (da_cons (de_var 0) (da_cons (de_var 1) da_nil)) (dk_cons (de_cls rfl (T.glo 11)) dk_nil)))) dss_nil) (dss_cons (ds_if (db_cmp (opd_eq B.hu64) (de_var 2) de_int (nomark _)) (dss_one (ds_ret (de_callK ((ok_value_3 T).mono (by decide)) B rfl (T.glo 10) (T.kp 4 (d := dd_value)) (da_cons (de_var 0) (da_cons (de_var 1) da_nil)) (dk_cons (de_cls rfl (T.glo 11)) (dk_cons (de_cls rfl (T.glo 12)) dk_nil))))) dss_nil) (dss_cons (ds_if (db_cmp (opd_eq B.hu64) (de_var 2) de_int (nomark _)) (dss_one (ds_ret (de_callK ((ok_value_4 T).mono (by decide)) B rfl (T.glo 10) (T.kp 4 (d := dd_value)) (da_cons (de_var 0) (da_cons (de_var 1) da_nil)) (dk_cons de_int (dk_cons (de_cls rfl (T.glo 12)) dk_nil))))) dss_nil) (dss_cons (ds_if (db_cmp (opd_eq B.hu64) (de_var 2) de_int (nomark _)) (dss_one (ds_ret (de_callK ((ok_value_5 T).mono (by decide)) B rfl (T.glo 10) (T.kp 4 (d := dd_value)) (da_cons (de_var 0) (da_cons (de_var 1) da_nil)) (dk_cons (de_cls rfl (T.glo 11)) (dk_cons (de_cls rfl (T.glo 11)) (dk_cons (de_cls rfl (T.glo 12)) dk_nil)))))) dss_nil) (dss_one (ds_ret (de_callK ((ok_value_0 T).mono (by decide)) B rfl (T.glo 10) (T.kp 4 (d := dd_value)) (da_cons (de_var 0) (da_cons (de_var 1) da_nil)) (dk_cons (de_cls rfl (T.glo 11)) (dk_cons (de_cls rfl (T.glo 11)) (dk_cons de_int dk_nil))))))))))))
def l1__law_missing : FS := (fIfS (fTest (fB dNotIn (fVar 2) (fVar 1))) (fRet (fVar 2)) fSkip)
def b__law_missing : FS := (fSeq (fFor (fItems (fVar 0)) (pName 2) l1__law_missing) (fRet (fC .non)))
def m__law_missing : List D → R D := runD 3 b__law_missing
theorem ok__law_missing (T : TT K mg) : FnG P w K mg base 1 (He.ga K "_law_missing") 2 m__law_missing := by
  obtain ⟨fd, Fd⟩ := T.def_ 13 (d := dd__law_missing) rfl
  exact fng_of (N := N__law_missing) Fd sc__law_missing (FunD.bindsN Fd fun _ _ _ _ _ _ us hl => match us, hl with | [_, _], _ => rfl) (fun cdv A outer s e0 H E B tk => (dss_cons (ds_for B.own B.calm (di_seq (de_var 0)) (dg_name 2 sc__law_missing.nd rfl (by first | exact .inl rfl | exact .inr rfl)) (dss_one (ds_if (db_cmp (opd_notIn B.hu) (de_var 2) (de_var 1) (by with_unfolding_all rfl)) (dss_one (ds_ret (de_var 2))) dss_nil))) (dss_one (ds_ret de_non))))
def b__law_right : FS := (fSeq (fSet 3 (fB dIx (fLst (fCons (fLst fNil) (fCons (fLst (fCons (fC (.str "f")) fNil)) (fCons (fLst (fCons (fC (.str "g")) (fCons (fC (.str "h")) fNil))) (fCons (fLst (fCons (fC (.str "c")) (fCons (fC (.str "h")) fNil))) (fCons (fLst (fCons (fC (.str "f")) (fCons (fC (.str "g")) (fCons (fC (.str "h")) fNil)))) (fCons (fLst (fCons (fC (.str "f")) (fCons (fC (.str "g")) (fCons (fC (.str "c")) fNil)))) (fCons (fLst (fCons (fC (.str "f")) (fCons (fC (.str "g")) (fCons (fC (.str "h")) (fCons (fC (.str "c")) fNil))))) fNil)))))))) (fVar 2))) (fSeq (fSet 4 (fCall m__law_missing (fCons (fB dIx (fVar 0) (fC (.int 2))) (fCons (fVar 3) fNil)))) (fSeq (fIfS (fTest (fU dIsN (fVar 4))) (fRet (fB dEq (fCallK ["f", "g", "h", "c"] m_value (fCons (fB dIx (fVar 0) (fC (.int 0))) (fCons (fVar 1) fNil)) (fCons (fC (.fn "_law_f")) (fCons (fC (.fn "_law_g")) (fCons (fC (.fn "_law_h")) (fCons (fTup (fCons (fC (.str "c")) (fCons (fC (.int 5)) fNil))) fNil))))) (fB dIx (fVar 0) (fC (.int 1))))) fSkip) (fSeq (fSet 5 (fC .non)) (fSeq (fSet 6 (fC (.bl false))) (fSeq (fTry (fExp (fCall m__law_ask (fCons (fB dIx (fVar 0) (fC (.int 0))) (fCons (fVar 1) (fCons (fVar 2) fNil))))) [((fun n => ([("MissingName", true)] : XT).lookup n), fun _ xs => fAs 7 ((fun xs => fSeq (fSet 5 ((fun xs _ => fldOf "MissingName" "name" xs) xs)) ((fun xs => fSeq (fSet 6 ((fun _ => fC (.bl true)) xs)) ((fun _ => fSkip) xs)) xs)) xs)), ((fun n => ([("MissingName", false)] : XT).lookup n), fun _ _ => (fSet 5 (fC .non)))]) (fRet (fAnd (fVar 6) (fAnd (fU (dIsi "str") (fVar 5)) (fB dEq (fVar 5) (fVar 4)))))))))))
def m__law_right : List D → R D := runD 8 b__law_right
theorem ok__law_right (T : TT K mg) : FnG P w K mg base 64 (He.ga K "_law_right") 3 m__law_right := by
  obtain ⟨fd, Fd⟩ := T.def_ 14 (d := dd__law_right) rfl
  exact fng_of (N := N__law_right) Fd sc__law_right (FunD.bindsN Fd fun _ _ _ _ _ _ us hl => match us, hl with | [_, _, _], _ => rfl) (fun cdv A outer s e0 H E B tk => (dss_cons (ds_set (i := 3) sc__law_right.nd rfl (by first | exact .inl rfl | exact .inr rfl) (de_ix (ixd_all B.hu) (de_lst (da_cons (de_lst da_nil) (da_cons (de_lst (da_cons de_str da_nil)) (da_cons (de_lst (da_cons de_str (da_cons de_str da_nil))) (da_cons (de_lst (da_cons de_str (da_cons de_str da_nil))) (da_cons (de_lst (da_cons de_str (da_cons de_str (da_cons de_str da_nil)))) (da_cons (de_lst (da_cons de_str (da_cons de_str (da_cons de_str da_nil)))) (da_cons (de_lst (da_cons de_str (da_cons de_str (da_cons de_str (da_cons de_str da_nil))))) da_nil)))))))) (de_var 2) (fun _ _ => rfl))) (dss_cons (ds_set (i := 4) sc__law_right.nd rfl (by first | exact .inl rfl | exact .inr rfl) (de_call ((ok__law_missing T).mono (by decide)) B rfl (T.glo 13) (T.kp 13 (d := dd__law_missing)) (da_cons (de_ix (ixd_all B.hu) (de_var 0) de_int (fun _ _ => rfl)) (da_cons (de_var 3) da_nil)))) (dss_cons (ds_if (db_isN (de_var 4)) (dss_one (ds_ret (de_cmp (opd_eq B.hu64) (de_callK ((ok_value_6 T).mono (by decide)) B rfl (T.glo 10) (T.kp 4 (d := dd_value)) (da_cons (de_ix (ixd_all B.hu) (de_var 0) de_int (fun _ _ => rfl)) (da_cons (de_var 1) da_nil)) (dk_cons (de_cls rfl (T.glo 16)) (dk_cons (de_cls rfl (T.glo 15)) (dk_cons (de_cls rfl (T.glo 14)) (dk_cons (de_tup (da_cons de_str (da_cons de_int da_nil))) dk_nil))))) (de_ix (ixd_all B.hu) (de_var 0) de_int (fun _ _ => rfl)) (nomark _)))) dss_nil) (dss_cons (ds_set (i := 5) sc__law_right.nd rfl (by first | exact .inl rfl | exact .inr rfl) de_non) (dss_cons (ds_set (i := 6) sc__law_right.nd rfl (by first | exact .inl rfl | exact .inr rfl) de_bl) (dss_cons (ds_try rfl rfl tk (fun W pn xe tk1 ow => have B := Bd.tr (W := W) B tk1 ow; (bo_expr (de_call ((ok__law_ask T).mono (by decide)) B rfl (T.glo 17) (T.kp 12 (d := dd__law_ask)) (da_cons (de_ix (ixd_all B.hu) (de_var 0) de_int (fun _ _ => rfl)) (da_cons (de_var 1) (da_cons (de_var 2) da_nil)))))) (hdd_as (i := 7) (m := "MissingName") ⟨rfl, by decide, .inl (T.glo 5)⟩ sc__law_right.nd rfl rfl (xt_cons (T.exm 1) xt_nil) rfl (zs_set (j := 5) sc__law_right.nd rfl (by first | exact .inl rfl | exact .inr rfl) (by decide) (dz_att (T.xfa 3).1 (T.xfa 3).2 (by rfl) (by first | exact Or.inl rfl | exact Or.inr (Or.inl rfl) | exact Or.inr (Or.inr rfl))) (zs_set (j := 6) sc__law_right.nd rfl (by first | exact .inl rfl | exact .inr rfl) (by decide) (dz_isi (T.exi 2) (by rfl) (by first | exact Or.inl rfl | exact Or.inr (Or.inl rfl) | exact Or.inr (Or.inr rfl)) (by rfl) (T.free 19) (by rfl) (T.glo 20)) zs_nil)) (hdd_only (names_bt (T := "ZeroDivisionError") (by rfl) (by decide) (T.free 18) (by decide +kernel) (by decide)) (xt_cons (T.exb 0) xt_nil) (fun _ _ => (dss_one (ds_set (i := 5) sc__law_right.nd rfl (by first | exact .inl rfl | exact .inr rfl) de_non))) hdd_nil))) (dss_one (ds_ret (de_and (de_var 6) (de_and (de_isi (T := "str") .str rfl (T.free 19) rfl (T.free 21) (by decide +kernel) (de_var 5)) (de_one (de_cmp (opd_eq B.hu64) (de_var 5) (de_var 4) (nomark _))))))))))))))
def l1_law : FS := (fSeq (fSet 7 (fB dMod (fL dIntS (fCons (fVar 6) fNil)) (fC (.int 4)))) (fSeq (fSet 8 (fB dFdiv (fVar 6) (fC (.int 4)))) (fSeq (fSet 9 (fSlOw 5 (fSome (fU dNeg (fC (.int 1)))) fNo)) (fSeq (fSet 10 (fSlOw 5 (fSome (fU dNeg (fC (.int 2)))) (fSome (fU dNeg (fC (.int 1)))))) (fIfS (fAndB (fTest (fB dEq (fVar 7) (fC (.int 3)))) (fAndB (fTest (fB dEq (fL dLen (fCons (fVar 10) fNil)) (fC (.int 1)))) (fTest (fB dLt (fL dMax2 (fCons (fB dIx (fB dIx (fVar 9) (fC (.int 0))) (fC (.int 3))) (fCons (fB dIx (fB dIx (fVar 10) (fC (.int 0))) (fC (.int 3))) fNil))) (fC (.int 20)))))) (fSeq (fPop 11 5) (fSeq (fPop 12 5) (fApp 5 (fLst (fCons (fCall m_call (fCons (fC (.str "h")) (fCons (fB dIx (fVar 12) (fC (.int 0))) (fCons (fB dIx (fVar 11) (fC (.int 0))) fNil)))) (fCons (fCall m__law_h (fCons (fB dIx (fVar 12) (fC (.int 1))) (fCons (fB dIx (fVar 11) (fC (.int 1))) fNil))) (fCons (fCall m__law_once (fCons (fB dAdd (fB dAdd (fLst (fCons (fC (.str "h")) fNil)) (fB dIx (fVar 12) (fC (.int 2)))) (fB dIx (fVar 11) (fC (.int 2)))) fNil)) (fCons (fB dAdd (fC (.int 1)) (fL dMax2 (fCons (fB dIx (fVar 12) (fC (.int 3))) (fCons (fB dIx (fVar 11) (fC (.int 3))) fNil)))) fNil)))))))) (fIfS (fAndB (fTest (fB dEq (fVar 7) (fC (.int 2)))) (fAndB (fTest (fB dEq (fL dLen (fCons (fVar 9) fNil)) (fC (.int 1)))) (fTest (fB dLt (fB dIx (fB dIx (fVar 9) (fC (.int 0))) (fC (.int 3))) (fC (.int 20)))))) (fSeq (fPop 13 5) (fIfS (fTest (fB dEq (fB dMod (fL dIntS (fCons (fVar 8) fNil)) (fC (.int 2))) (fC (.int 0)))) (fApp 5 (fLst (fCons (fCall m_call (fCons (fC (.str "f")) (fCons (fB dIx (fVar 13) (fC (.int 0))) fNil))) (fCons (fCall m__law_f (fCons (fB dIx (fVar 13) (fC (.int 1))) fNil)) (fCons (fCall m__law_once (fCons (fB dAdd (fLst (fCons (fC (.str "f")) fNil)) (fB dIx (fVar 13) (fC (.int 2)))) fNil)) (fCons (fB dAdd (fC (.int 1)) (fB dIx (fVar 13) (fC (.int 3)))) fNil)))))) (fApp 5 (fLst (fCons (fCall m_call (fCons (fC (.str "g")) (fCons (fB dIx (fVar 13) (fC (.int 0))) fNil))) (fCons (fCall m__law_g (fCons (fB dIx (fVar 13) (fC (.int 1))) fNil)) (fCons (fCall m__law_once (fCons (fB dAdd (fLst (fCons (fC (.str "g")) fNil)) (fB dIx (fVar 13) (fC (.int 2)))) fNil)) (fCons (fB dAdd (fC (.int 1)) (fB dIx (fVar 13) (fC (.int 3)))) fNil)))))))) (fIfS (fTest (fB dEq (fVar 7) (fC (.int 1)))) (fApp 5 (fLst (fCons (fCall m_call (fCons (fC (.str "c")) fNil)) (fCons (fTup (fCons (fC (.str "c")) (fCons (fC (.int 5)) fNil))) (fCons (fLst (fCons (fC (.str "c")) fNil)) (fCons (fC (.int 1)) fNil)))))) (fApp 5 (fLst (fCons (fCall m_item (fCons (fB dMod (fL dIntS (fCons (fVar 8) fNil)) (fVar 2)) fNil)) (fCons (fB dIx (fVar 3) (fB dMod (fL dIntS (fCons (fVar 8) fNil)) (fVar 2))) (fCons (fLst fNil) (fCons (fC (.int 0)) fNil)))))))))))))
def l2_law : FS := (fIfS (fNotB (fTest (fCall m__law_right (fCons (fVar 14) (fCons (fVar 3) (fCons (fVar 15) fNil)))))) (fRet (fC (.bl false))) fSkip)
def l3_law : FS := (fFor (fRange (fCons (fC (.int 7)) fNil)) (pName 15) l2_law)
def b_law : FS := (fSeq (fSet 1 (fCall m__law_draws (fCons (fVar 0) (fCons (fC (.int 62)) fNil)))) (fSeq (fSet 2 (fB dAdd (fC (.int 1)) (fB dMod (fL dIntS (fCons (fB dIx (fVar 1) (fC (.int 0))) fNil)) (fC (.int 9))))) (fSeq (fSet 3 (fLc (fRange (fCons (fVar 2) fNil)) 4 fYes (fB dAdd (fB dIx (fVar 1) (fC (.int 0))) (fB dMul (fC (.int 7)) (fVar 4))))) (fSeq (fNew 5 fNil) (fSeq (fFor (fItems (fSl (fVar 1) (fSome (fC (.int 1))) fNo)) (pName 6) l1_law) (fFrz 5 (fSeq (fFor (fItems (fVar 5)) (pName 14) l3_law) (fRet (fC (.bl true))))))))))
def m_law : List D → R D := runD 16 b_law
theorem ok_law (T : TT K mg) : ∃ fd : FuncData, (∀ (s : Shared) (v : Value), BindsTo s fd ⟨[v], []⟩ [("_law_script", v)]) ∧ ∀ base : Heap, FnOk P w K mg base (L2.CX P w) 65 (He.ga K "law") fd P_law (spD K 1 m_law) := by
  obtain ⟨fd, Fd⟩ := T.def_ 15 (d := dd_law) rfl
  have b := FunD.bindsA (ps := P_law) Fd fun _ _ _ _ _ _ us hl => match us, hl with | [_], _ => rfl
  refine ⟨fd, fun s v => b s [v] rfl, fun base => ?_⟩
  exact fnok_of (N := N_law) Fd sc_law (fun cdv A outer s e0 H E B tk => (dss_cons (ds_set (i := 1) sc_law.nd rfl (by first | exact .inl rfl | exact .inr rfl) (de_call ((ok__law_draws T).mono (by decide)) B rfl (T.glo 22) (T.kp 5 (d := dd__law_draws)) (da_cons (de_var 0) (da_cons de_int da_nil)))) (dss_cons (ds_set (i := 2) sc_law.nd rfl (by first | exact .inl rfl | exact .inr rfl) (de_op opd_add de_int (de_op opd_mod (de_callTy cd_intS rfl (T.free 9) (by decide +kernel) (da_cons (de_ix (ixd_all B.hu) (de_var 1) de_int (fun _ _ => rfl)) da_nil)) de_int))) (dss_cons (ds_setLc (j := 3) B.calm sc_law.nd rfl rfl (sw_true rfl rfl rfl (by decide +kernel)) (di_range1 rfl (T.free 7) (da_cons (de_var 2) da_nil)) (own := [("_law_k", 4)]) (blkOk_by (N := N_law) (sc := defScope s_law) (by decide +kernel)) rfl (fun _ _ _ _ _ => pg_name (i := 4) sc_law.nd rfl (Or.inl rfl)) (fun _ _ _ _ _ => dts_nil) (fun _ _ _ _ _ => (de_op opd_add (de_ix (ixd_all (B.blk).hu) (de_var 1) de_int (fun _ _ => rfl)) (de_op opd_mul de_int (de_var 4))))) (dss_cons (ds_new (i := 5) sc_law.nd rfl (by first | exact .inl rfl | exact .inr rfl) da_nil) (dss_cons (ds_for B.own B.calm (di_seq (de_slice (de_var 1) (do_some de_int) do_no)) (dg_name 6 sc_law.nd rfl (by first | exact .inl rfl | exact .inr rfl)) (dss_cons (ds_set (i := 7) sc_law.nd rfl (by first | exact .inl rfl | exact .inr rfl) (de_op opd_mod (de_callTy cd_intS rfl (T.free 9) (by decide +kernel) (da_cons (de_var 6) da_nil)) de_int)) (dss_cons (ds_set (i := 8) sc_law.nd rfl (by first | exact .inl rfl | exact .inr rfl) (de_op opd_fdiv (de_var 6) de_int)) (dss_cons (ds_set (i := 9) sc_law.nd rfl (by first | exact .inl rfl | exact .inr rfl) (de_sliceOw 5 (do_some (de_un und_neg de_int)) do_no)) (dss_cons (ds_set (i := 10) sc_law.nd rfl (by first | exact .inl rfl | exact .inr rfl) (de_sliceOw 5 (do_some (de_un und_neg de_int)) (do_some (de_un und_neg de_int)))) (dss_one (ds_if (db_of (dw_and (db_cmp (opd_eq B.hu64) (de_var 7) de_int (nomark _)) (dw_and (db_cmp (opd_eq B.hu64) (de_callB cd_len rfl (T.free 2) (by decide +kernel) (da_cons (de_var 10) da_nil)) de_int (nomark _)) (dw_and1 (db_cmp opd_lt (de_callB (cd_max2 B.calm) rfl (T.free 23) (by decide +kernel) (da_cons (de_ix (ixd_all B.hu) (de_ix (ixd_all B.hu) (de_var 9) de_int (fun _ _ => rfl)) de_int (fun _ _ => rfl)) (da_cons (de_ix (ixd_all B.hu) (de_ix (ixd_all B.hu) (de_var 10) de_int (fun _ _ => rfl)) de_int (fun _ _ => rfl)) da_nil))) de_int (nomark _)))))) (dss_cons (ds_pop (i := 5) (j := 11) (pe_bm0 PySem.F.plainAttrs_list PySem.F.slot_list_pop PySem.F.type_list_pop mt_pop (pv 5)) sc_law.nd rfl (by first | exact .inl rfl | exact .inr rfl)) (dss_cons (ds_pop (i := 5) (j := 12) (pe_bm0 PySem.F.plainAttrs_list PySem.F.slot_list_pop PySem.F.type_list_pop mt_pop (pv 5)) sc_law.nd rfl (by first | exact .inl rfl | exact .inr rfl)) (dss_one (ds_app (i := 5) (fun _ h => pe_bm PySem.F.plainAttrs_list PySem.F.slot_list_append PySem.F.type_list_append mt_append (pv 5) h) (de_lst (da_cons (de_call (((ok_call T).mono (by decide)).at 3) B rfl (T.glo 25) (T.kp 1 (d := dd_call)) (da_cons de_str (da_cons (de_ix (ixd_all B.hu) (de_var 12) de_int (fun _ _ => rfl)) (da_cons (de_ix (ixd_all B.hu) (de_var 11) de_int (fun _ _ => rfl)) da_nil)))) (da_cons (de_call ((ok__law_h T).mono (by decide)) B rfl (T.glo 14) (T.kp 9 (d := dd__law_h)) (da_cons (de_ix (ixd_all B.hu) (de_var 12) de_int (fun _ _ => rfl)) (da_cons (de_ix (ixd_all B.hu) (de_var 11) de_int (fun _ _ => rfl)) da_nil))) (da_cons (de_call ((ok__law_once T).mono (by decide)) B rfl (T.glo 24) (T.kp 6 (d := dd__law_once)) (da_cons (de_op opd_add (de_op opd_add (de_lst (da_cons de_str da_nil)) (de_ix (ixd_all B.hu) (de_var 12) de_int (fun _ _ => rfl))) (de_ix (ixd_all B.hu) (de_var 11) de_int (fun _ _ => rfl))) da_nil)) (da_cons (de_op opd_add de_int (de_callB (cd_max2 B.calm) rfl (T.free 23) (by decide +kernel) (da_cons (de_ix (ixd_all B.hu) (de_var 12) de_int (fun _ _ => rfl)) (da_cons (de_ix (ixd_all B.hu) (de_var 11) de_int (fun _ _ => rfl)) da_nil)))) da_nil))))))))) (dss_one (ds_if (db_of (dw_and (db_cmp (opd_eq B.hu64) (de_var 7) de_int (nomark _)) (dw_and (db_cmp (opd_eq B.hu64) (de_callB cd_len rfl (T.free 2) (by decide +kernel) (da_cons (de_var 9) da_nil)) de_int (nomark _)) (dw_and1 (db_cmp opd_lt (de_ix (ixd_all B.hu) (de_ix (ixd_all B.hu) (de_var 9) de_int (fun _ _ => rfl)) de_int (fun _ _ => rfl)) de_int (nomark _)))))) (dss_cons (ds_pop (i := 5) (j := 13) (pe_bm0 PySem.F.plainAttrs_list PySem.F.slot_list_pop PySem.F.type_list_pop mt_pop (pv 5)) sc_law.nd rfl (by first | exact .inl rfl | exact .inr rfl)) (dss_one (ds_if (db_cmp (opd_eq B.hu64) (de_op opd_mod (de_callTy cd_intS rfl (T.free 9) (by decide +kernel) (da_cons (de_var 8) da_nil)) de_int) de_int (nomark _)) (dss_one (ds_app (i := 5) (fun _ h => pe_bm PySem.F.plainAttrs_list PySem.F.slot_list_append PySem.F.type_list_append mt_append (pv 5) h) (de_lst (da_cons (de_call (((ok_call T).mono (by decide)).at 2) B rfl (T.glo 25) (T.kp 1 (d := dd_call)) (da_cons de_str (da_cons (de_ix (ixd_all B.hu) (de_var 13) de_int (fun _ _ => rfl)) da_nil))) (da_cons (de_call ((ok__law_f T).mono (by decide)) B rfl (T.glo 16) (T.kp 7 (d := dd__law_f)) (da_cons (de_ix (ixd_all B.hu) (de_var 13) de_int (fun _ _ => rfl)) da_nil)) (da_cons (de_call ((ok__law_once T).mono (by decide)) B rfl (T.glo 24) (T.kp 6 (d := dd__law_once)) (da_cons (de_op opd_add (de_lst (da_cons de_str da_nil)) (de_ix (ixd_all B.hu) (de_var 13) de_int (fun _ _ => rfl))) da_nil)) (da_cons (de_op opd_add de_int (de_ix (ixd_all B.hu) (de_var 13) de_int (fun _ _ => rfl))) da_nil))))))) (dss_one (ds_app (i := 5) (fun _ h => pe_bm PySem.F.plainAttrs_list PySem.F.slot_list_append PySem.F.type_list_append mt_append (pv 5) h) (de_lst (da_cons (de_call (((ok_call T).mono (by decide)).at 2) B rfl (T.glo 25) (T.kp 1 (d := dd_call)) (da_cons de_str (da_cons (de_ix (ixd_all B.hu) (de_var 13) de_int (fun _ _ => rfl)) da_nil))) (da_cons (de_call ((ok__law_g T).mono (by decide)) B rfl (T.glo 15) (T.kp 8 (d := dd__law_g)) (da_cons (de_ix (ixd_all B.hu) (de_var 13) de_int (fun _ _ => rfl)) da_nil)) (da_cons (de_call ((ok__law_once T).mono (by decide)) B rfl (T.glo 24) (T.kp 6 (d := dd__law_once)) (da_cons (de_op opd_add (de_lst (da_cons de_str da_nil)) (de_ix (ixd_all B.hu) (de_var 13) de_int (fun _ _ => rfl))) da_nil)) (da_cons (de_op opd_add de_int (de_ix (ixd_all B.hu) (de_var 13) de_int (fun _ _ => rfl))) da_nil)))))))))) (dss_one (ds_if (db_cmp (opd_eq B.hu64) (de_var 7) de_int (nomark _)) (dss_one (ds_app (i := 5) (fun _ h => pe_bm PySem.F.plainAttrs_list PySem.F.slot_list_append PySem.F.type_list_append mt_append (pv 5) h) (de_lst (da_cons (de_call (((ok_call T).mono (by decide)).at 1) B rfl (T.glo 25) (T.kp 1 (d := dd_call)) (da_cons de_str da_nil)) (da_cons (de_tup (da_cons de_str (da_cons de_int da_nil))) (da_cons (de_lst (da_cons de_str da_nil)) (da_cons de_int da_nil))))))) (dss_one (ds_app (i := 5) (fun _ h => pe_bm PySem.F.plainAttrs_list PySem.F.slot_list_append PySem.F.type_list_append mt_append (pv 5) h) (de_lst (da_cons (de_call ((ok_item T).mono (by decide)) B rfl (T.glo 26) (T.kp 0 (d := dd_item)) (da_cons (de_op opd_mod (de_callTy cd_intS rfl (T.free 9) (by decide +kernel) (da_cons (de_var 8) da_nil)) (de_var 2)) da_nil)) (da_cons (de_ix (ixd_all B.hu) (de_var 3) (de_op opd_mod (de_callTy cd_intS rfl (T.free 9) (by decide +kernel) (da_cons (de_var 8) da_nil)) (de_var 2)) (fun _ _ => rfl)) (da_cons (de_lst da_nil) (da_cons de_int da_nil)))))))))))))))))) (dss_frz 5 (dss_cons (ds_for B.own B.calm (di_seq (de_var 5)) (dg_name 14 sc_law.nd rfl (by first | exact .inl rfl | exact .inr rfl)) (dss_one (ds_for B.own B.calm (di_range1 rfl (T.free 7) (da_cons de_int da_nil)) (dg_name 15 sc_law.nd rfl (by first | exact .inl rfl | exact .inr rfl)) (dss_one (ds_if (db_not (db_val (de_call ((ok__law_right T).mono (by decide)) B rfl (T.glo 27) (T.kp 14 (d := dd__law_right)) (da_cons (de_var 14) (da_cons (de_var 3) (da_cons (de_var 15) da_nil)))))) (dss_one (ds_ret de_bl)) dss_nil))))) (dss_one (ds_ret de_bl))))))))))
end
end LW
/-! MBase: how the mirrors are reckoned with. -/
namespace DL
open PySem PySem.Spec PyProof.Rows
theorem loopF_nil {put : FP} {body : FS} {δ : DSt} : loopF put body [] δ = .nx δ := rfl
/-- a loop that runs through, by what holds of the items done and the state -/
theorem loopF_ind {put : FP} {body : FS} {items : List D} {δ : DSt} (I : List D → DSt → Prop) (h0 : I [] δ)
    (step : ∀ pre d post δ, items = pre ++ d :: post → I pre δ → ∃ δ1, put δ d = some δ1 ∧ ∃ δ2, (body δ1 = .nx δ2 ∨ body δ1 = .ct δ2) ∧ I (pre ++ [d]) δ2) : ∃ δ', loopF put body items δ = .nx δ' ∧ I items δ' := by
  have go : ∀ (post pre : List D) (δ : DSt), items = pre ++ post → I pre δ → ∃ δ', loopF put body post δ = .nx δ' ∧ I items δ' := by
    intro post
    induction post with
    | nil => intro pre δ e h; rw [List.append_nil] at e; subst e; exact ⟨δ, rfl, h⟩
    | cons d post ih =>
      intro pre δ e h
      obtain ⟨δ1, h1, δ2, h2, h3⟩ := step pre d post δ e h
      obtain ⟨δ', h4, h5⟩ := ih (pre ++ [d]) δ2 (by rw [e, List.append_assoc]; rfl) h3
      refine ⟨δ', ?_, h5⟩
      unfold loopF
      rw [h1]
      rcases h2 with h2 | h2 <;> (simp only [h2]; exact h4)
  exact go items [] δ rfl h0
/-- over ints lo, lo + 1, .. -/
theorem loopF_range {put : FP} {body : FS} {lo : Int} {n : Nat} {δ : DSt} (I : Nat → DSt → Prop) (h0 : I 0 δ)
    (step : ∀ (k : Nat) δ, k < n → I k δ → ∃ δ1, put δ (.int (lo + k)) = some δ1 ∧ ∃ δ2, (body δ1 = .nx δ2 ∨ body δ1 = .ct δ2) ∧ I (k + 1) δ2) : ∃ δ', loopF put body (dInts lo n) δ = .nx δ' ∧ I n δ' := by
  have hl : (dInts lo n).length = n := by simp [dInts]
  obtain ⟨δ', h1, h2⟩ := loopF_ind (put := put) (body := body) (items := dInts lo n) (δ := δ) (fun pre δ => I pre.length δ) h0 (fun pre d post δ e h => by
    have hk : pre.length < n := by
      have := congrArg List.length e
      rw [hl] at this
      simp only [List.length_append, List.length_cons] at this
      omega
    have hd : d = .int (lo + (pre.length : Nat)) := by
      have e1 : (dInts lo n)[pre.length]? = some d := by rw [e]; simp
      simp [dInts, hk] at e1
      exact e1.symm
    obtain ⟨δ1, h1, δ2, h2, h3⟩ := step pre.length δ hk h
    exact ⟨δ1, by rw [hd]; exact h1, δ2, h2, by simpa using h3⟩)
  rw [hl] at h2
  exact ⟨δ', h1, h2⟩
/-! slices -/
theorem cut_to {α : Type} (xs : List α) (k : Nat) : cut xs none (some (k : Int)) = xs.take k := by
  unfold cut
  rw [HT.sIx_none, HT.sIx_nat, List.drop_zero, Nat.sub_zero]
  by_cases h : k ≤ xs.length
  · rw [Nat.min_eq_left h]
  · rw [Nat.min_eq_right (by omega), List.take_of_length_le (Nat.le_refl _), List.take_of_length_le (by omega)]
theorem cut_from {α : Type} (xs : List α) (k : Nat) : cut xs (some (k : Int)) none = xs.drop k := by
  unfold cut
  rw [HT.sIx_none, HT.sIx_nat, List.take_of_length_le (by rw [List.length_drop]; exact Nat.le_refl _)]
  by_cases h : k ≤ xs.length
  · rw [Nat.min_eq_left h]
  · rw [Nat.min_eq_right (by omega), List.drop_of_length_le (Nat.le_refl _), List.drop_of_length_le (by omega)]
theorem cut_all {α : Type} (xs : List α) : cut xs none none = xs := by
  unfold cut
  rw [HT.sIx_none, HT.sIx_none, List.drop_zero, Nat.sub_zero, List.take_length]
theorem cut_tl {α : Type} (x : α) (xs : List α) : cut (x :: xs) (some 1) none = xs := cut_from (x :: xs) 1
theorem map_rep {α β : Type} (f : α → β) (n : Nat) (a : α) : List.replicate n (f a) = (List.replicate n a).map f := List.map_replicate.symm
theorem flat_one {α : Type} (n : Nat) (a : α) : (List.replicate n [a]).flatten = List.replicate n a := by
  induction n with
  | zero => rfl
  | succ n ih => rw [List.replicate_succ, List.flatten_cons, ih]; rfl
/-! loops, step by step -/
theorem loopF_nx {put : FP} {body : FS} {d : D} {ds : List D} {δ δ1 δ2 : DSt} (h1 : put δ d = some δ1) (h2 : body δ1 = .nx δ2) : loopF put body (d :: ds) δ = loopF put body ds δ2 := by
  show (match put δ d with | none => O.bad | some δ1 => _) = _
  rw [h1]
  simp only [h2]
theorem loopF_rt {put : FP} {body : FS} {d z : D} {ds : List D} {δ δ1 δ2 : DSt} (h1 : put δ d = some δ1) (h2 : body δ1 = .rt z δ2) : loopF put body (d :: ds) δ = .rt z δ2 := by
  show (match put δ d with | none => O.bad | some δ1 => _) = _
  rw [h1]
  simp only [h2]
/-! what == says -/
theorem dEqB_ss {x y : Str} : dEqB (.str x) (.str y) = some (x == y) := rfl
theorem dEqB_ii {i j : Int} : dEqB (.int i) (.int j) = some (i == j) := rfl
/-- data that == reads, at most n deep -/
def Eqb (n : Nat) (d : D) : Prop := ∃ p, d.py = some p ∧ p.canLay0 = true ∧ p.depth ≤ n
def EqbL (n : Nat) (ds : List D) : Prop := ∃ ps, pyL ds = some ps ∧ PyData.canLayAll0 ps = true ∧ PyData.depthAll ps ≤ n
theorem Eqb.int (n : Nat) (i : Int) : Eqb n (.int i) := ⟨_, by unfold D.py; rfl, by simp [PyData.canLay0], by simp [PyData.depth]⟩
theorem Eqb.non (n : Nat) : Eqb n .non := ⟨_, by unfold D.py; rfl, by simp [PyData.canLay0], by simp [PyData.depth]⟩
theorem Eqb.bl (n : Nat) (b : Bool) : Eqb n (.bl b) := ⟨_, by unfold D.py; rfl, by simp [PyData.canLay0], by simp [PyData.depth]⟩
/-- texts of characters -/
abbrev Sok (x : Str) : Prop := PyData.strOk x = true
theorem Sok.app {x y : Str} (h : Sok x) (k : Sok y) : Sok (x ++ y) := by
  show (x.cps ++ y.cps).all _ = true
  rw [Array.all_append]
  exact Bool.and_eq_true_iff.mpr ⟨h, k⟩
theorem Eqb.str {n : Nat} {x : Str} (h : Sok x) : Eqb n (.str x) := ⟨_, by unfold D.py; rfl, by unfold PyData.canLay0; exact h, by simp [PyData.depth]⟩
theorem EqbL.nil (n : Nat) : EqbL n [] := ⟨[], by unfold pyL; rfl, by simp [PyData.canLayAll0], by simp [PyData.depthAll]⟩
theorem EqbL.cons {n : Nat} {d : D} {ds : List D} (h : Eqb n d) (k : EqbL n ds) : EqbL n (d :: ds) := by
  obtain ⟨p, h1, h2, h3⟩ := h
  obtain ⟨ps, k1, k2, k3⟩ := k
  refine ⟨p :: ps, by unfold pyL; rw [h1, k1], by unfold PyData.canLayAll0; rw [h2, k2]; rfl, ?_⟩
  unfold PyData.depthAll
  omega
theorem EqbL.of {n : Nat} {ds : List D} (h : ∀ d ∈ ds, Eqb n d) : EqbL n ds := by
  induction ds with
  | nil => exact .nil n
  | cons d ds ih => exact .cons (h d (List.mem_cons_self)) (ih fun e he => h e (List.mem_cons_of_mem _ he))
theorem Eqb.tup {n : Nat} {ds : List D} (h : EqbL n ds) : Eqb (n + 1) (.tup ds) := by
  obtain ⟨ps, k1, k2, k3⟩ := h
  refine ⟨.tuple ps, by unfold D.py; rw [k1]; rfl, by unfold PyData.canLay0; exact k2, ?_⟩
  unfold PyData.depth
  omega
theorem Eqb.lst {n : Nat} {ds : List D} (h : EqbL n ds) : Eqb (n + 1) (.lst ds) := by
  obtain ⟨ps, k1, k2, k3⟩ := h
  refine ⟨.list ps, by unfold D.py; rw [k1]; rfl, by unfold PyData.canLay0; exact k2, ?_⟩
  unfold PyData.depth
  omega
theorem Eqb.mono {n m : Nat} {d : D} (h : Eqb n d) (l : n ≤ m) : Eqb m d := by
  obtain ⟨p, h1, h2, h3⟩ := h
  exact ⟨p, h1, h2, by omega⟩
theorem Eqb.ints (n : Nat) (is : List Int) : Eqb (n + 1) (.lst (is.map .int)) := Eqb.lst (.of fun d hd => by
  obtain ⟨i, _, rfl⟩ := List.mem_map.mp hd
  exact .int n i)
theorem Eqb.strs {n : Nat} {xs : List Str} (h : ∀ x ∈ xs, Sok x) : Eqb (n + 1) (.lst (xs.map .str)) := Eqb.lst (.of fun d hd => by
  obtain ⟨i, hi, rfl⟩ := List.mem_map.mp hd
  exact .str (h i hi))
/-- equal to itself -/
theorem dEqB_refl {d : D} (h : Eqb 64 d) : dEqB d d = some true := by
  obtain ⟨p, h1, h2, h3⟩ := h
  have key : dEqP d d = some true := by
    unfold dEqP
    rw [h1]
    have s : SeqAt.shaped p = true := Bool.and_eq_true_iff.mpr ⟨h2, decide_eq_true h3⟩
    show (if (SeqAt.shaped p && SeqAt.shaped p) = true then _ else _) = _
    rw [s, SeqAt.eqv_refl p h2]
    rfl
  cases d with
  | str x => exact congrArg some (beq_self_eq_true x)
  | int i => exact congrArg some (beq_self_eq_true i)
  | _ => exact key
theorem dNe_refl {d : D} (h : Eqb 64 d) : dNe d d = some (.bl false) := by
  unfold dNe
  rw [dEqB_refl h]
  rfl
theorem dEq_refl {d : D} (h : Eqb 64 d) : dEq d d = some (.bl true) := by
  unfold dEq
  rw [dEqB_refl h]
  rfl
/-! in, for texts -/
theorem flat_strs (xs : List Str) : (xs.map D.str).all D.flat = true := by
  rw [List.all_map]
  exact List.all_eq_true.mpr fun _ _ => rfl
theorem inB_strs (x : Str) (xs : List Str) : inB (.str x) (xs.map .str) = decide (x ∈ xs) := by
  unfold inB
  rw [List.any_map]
  induction xs with
  | nil => rfl
  | cons y ys ih =>
    rw [List.any_cons, ih]
    show ((y == x) || _) = _
    by_cases h : y = x
    · subst h; simp
    · have h2 : x ≠ y := fun e => h e.symm
      simp [h, h2]
theorem dInB_strs {x : Str} {xs : List Str} : dInB (.str x) (.lst (xs.map .str)) = some (decide (x ∈ xs)) := by
  show (if (true && (xs.map D.str).all D.flat) = true then some (inB (.str x) (xs.map .str)) else none) = _
  rw [flat_strs, inB_strs]
  rfl
theorem dInB_strsT {x : Str} {xs : List Str} : dInB (.str x) (.tup (xs.map .str)) = some (decide (x ∈ xs)) := by
  show (if (true && (xs.map D.str).all D.flat) = true then some (inB (.str x) (xs.map .str)) else none) = _
  rw [flat_strs, inB_strs]
  rfl
theorem cut_m1_0 {α : Type} : cut ([] : List α) (some (-1)) none = [] := rfl
theorem cut_m1 {α : Type} (xs : List α) (a : α) : cut (xs ++ [a]) (some (-1)) none = [a] := by
  have e : HT.sIx (xs ++ [a]).length 0 (some (-1)) = xs.length := by
    unfold HT.sIx
    simp only [List.length_append, List.length_cons, List.length_nil]
    split <;> omega
  unfold cut
  rw [e, HT.sIx_none, List.drop_left]
  simp
theorem cut_m2_0 {α : Type} : cut ([] : List α) (some (-2)) (some (-1)) = [] := rfl
theorem cut_m2_1 {α : Type} (a : α) : cut [a] (some (-2)) (some (-1)) = [] := rfl
theorem cut_m2 {α : Type} (xs : List α) (a b : α) : cut (xs ++ [a, b]) (some (-2)) (some (-1)) = [a] := by
  have e : HT.sIx (xs ++ [a, b]).length 0 (some (-2)) = xs.length := by
    unfold HT.sIx
    simp only [List.length_append, List.length_cons, List.length_nil]
    split <;> omega
  have e2 : HT.sIx (xs ++ [a, b]).length (xs ++ [a, b]).length (some (-1)) = xs.length + 1 := by
    unfold HT.sIx
    simp only [List.length_append, List.length_cons, List.length_nil]
    split <;> omega
  unfold cut
  rw [e, e2, List.drop_left, Nat.add_sub_cancel_left]
  rfl
theorem dIx_sC {z : Str} {i : Int} (h : okLe z.length = true) : dIx (.str z) (.int i) = (L2.atI z.cps.toList i).map (fun c => .str ⟨#[c]⟩) := if_pos h
/-- an index into a text of three -/
theorem abm {z : Str} {c0 c1 c2 : Nat} (e : z = ⟨#[c0, c1, c2]⟩) (i : Int) (h0 : 0 ≤ i) (h1 : i < 3) : ∃ c : Nat, (c = c0 ∨ c = c1 ∨ c = c2) ∧ dIx (.str z) (.int i) = some (.str ⟨#[c]⟩) := by
  subst e
  have hi : i = 0 ∨ i = 1 ∨ i = 2 := by omega
  have ok : okLe (⟨#[c0, c1, c2]⟩ : Str).length = true := okLe_by (by show 3 ≤ _; decide)
  rcases hi with rfl | rfl | rfl
  · exact ⟨c0, .inl rfl, (dIx_sC ok).trans rfl⟩
  · exact ⟨c1, .inr (.inl rfl), (dIx_sC ok).trans rfl⟩
  · exact ⟨c2, .inr (.inr rfl), (dIx_sC ok).trans rfl⟩
end DL

/-! MTerm: terms as data. -/
namespace DL
open PySem PySem.Spec PyProof.Rows
inductive Trm where
  | item (i : Int)
  | call (n : Str) (ts : List Trm)
mutual
def Trm.enc : Trm → D
  | .item i => .tup [.str "item", .int i]
  | .call n ts => .tup [.str "call", .str n, .tup (encL ts)]
def encL : List Trm → List D
  | [] => []
  | t :: ts => t.enc :: encL ts
end
mutual
def Trm.dep : Trm → Nat
  | .item _ => 0
  | .call _ ts => depL ts + 1
def depL : List Trm → Nat
  | [] => 0
  | t :: ts => max t.dep (depL ts)
end
mutual
/-- the places, from left to right -/
def Trm.pls : Trm → List Int
  | .item i => [i]
  | .call _ ts => plsL ts
def plsL : List Trm → List Int
  | [] => []
  | t :: ts => t.pls ++ plsL ts
end
/-- put those of ys behind xs that are not there -/
def addN (xs : List Str) : List Str → List Str
  | [] => xs
  | y :: ys => addN (if y ∈ xs then xs else xs ++ [y]) ys
mutual
/-- the names in written order, each once -/
def Trm.nms : Trm → List Str
  | .item _ => []
  | .call n ts => nmsL [n] ts
def nmsL (acc : List Str) : List Trm → List Str
  | [] => acc
  | t :: ts => nmsL (addN acc t.nms) ts
end
mutual
def Trm.sok : Trm → Prop
  | .item _ => True
  | .call n ts => Sok n ∧ sokL ts
def sokL : List Trm → Prop
  | [] => True
  | t :: ts => t.sok ∧ sokL ts
end
theorem encL_map : ∀ ts : List Trm, encL ts = ts.map Trm.enc
  | [] => rfl
  | t :: ts => congrArg (t.enc :: ·) (encL_map ts)
theorem encL_cons {t : Trm} {ts : List Trm} : encL (t :: ts) = t.enc :: encL ts := by rw [encL]
theorem encL_len (ts : List Trm) : (encL ts).length = ts.length := by rw [encL_map, List.length_map]
theorem enc_item {i : Int} : (Trm.item i).enc = .tup [.str "item", .int i] := by unfold Trm.enc; rfl
theorem enc_call {n : Str} {ts : List Trm} : (Trm.call n ts).enc = .tup [.str "call", .str n, .tup (encL ts)] := by unfold Trm.enc; rfl
theorem pls_item {i : Int} : (Trm.item i).pls = [i] := by unfold Trm.pls; rfl
theorem pls_call {n : Str} {ts : List Trm} : (Trm.call n ts).pls = plsL ts := by rw [Trm.pls]
theorem plsL_cons {t : Trm} {ts : List Trm} : plsL (t :: ts) = t.pls ++ plsL ts := by rw [plsL]
theorem plsL_nil : plsL [] = [] := by rw [plsL]
theorem nms_item {i : Int} : (Trm.item i).nms = [] := by rw [Trm.nms]
theorem nms_call {n : Str} {ts : List Trm} : (Trm.call n ts).nms = nmsL [n] ts := by rw [Trm.nms]
theorem nmsL_cons {acc : List Str} {t : Trm} {ts : List Trm} : nmsL acc (t :: ts) = nmsL (addN acc t.nms) ts := by rw [nmsL]
theorem nmsL_nil {acc : List Str} : nmsL acc [] = acc := by rw [nmsL]
theorem dep_item {i : Int} : (Trm.item i).dep = 0 := by rw [Trm.dep]
theorem dep_call {n : Str} {ts : List Trm} : (Trm.call n ts).dep = depL ts + 1 := by rw [Trm.dep]
theorem depL_cons {t : Trm} {ts : List Trm} : depL (t :: ts) = max t.dep (depL ts) := by rw [depL]
theorem depL_nil : depL [] = 0 := by rw [depL]
theorem sok_item {i : Int} : (Trm.item i).sok = True := by rw [Trm.sok]
theorem sok_call {n : Str} {ts : List Trm} : (Trm.call n ts).sok = (Sok n ∧ sokL ts) := by rw [Trm.sok]
theorem sokL_cons {t : Trm} {ts : List Trm} : sokL (t :: ts) = (t.sok ∧ sokL ts) := by rw [sokL]
theorem sokL_nil : sokL [] = True := by rw [sokL]
theorem addN_len (ys : List Str) : ∀ xs : List Str, xs.length ≤ (addN xs ys).length ∧ (addN xs ys).length ≤ xs.length + ys.length := by
  induction ys with
  | nil => intro xs; exact ⟨Nat.le_refl _, Nat.le_refl _⟩
  | cons y ys ih =>
    intro xs
    unfold addN
    have := ih (if y ∈ xs then xs else xs ++ [y])
    split at this
    · rename_i h; rw [if_pos h]; simp only [List.length_cons]; omega
    · rename_i h; rw [if_neg h]; simp only [List.length_cons, List.length_append, List.length_nil] at *; omega
theorem addN_mem {xs ys : List Str} {z : Str} : z ∈ addN xs ys ↔ z ∈ xs ∨ z ∈ ys := by
  induction ys generalizing xs with
  | nil => simp [addN]
  | cons y ys ih =>
    unfold addN
    rw [ih]
    split
    · rename_i h
      constructor
      · rintro (a | a)
        · exact .inl a
        · exact .inr (List.mem_cons_of_mem _ a)
      · rintro (a | a)
        · exact .inl a
        · rcases List.mem_cons.mp a with rfl | a
          · exact .inl h
          · exact .inr a
    · rw [List.mem_append, List.mem_singleton, List.mem_cons]
      exact or_assoc
theorem item_ne_call : (("call" : Str) == "item") = false := by decide
mutual
theorem Trm.eqb : ∀ (t : Trm), t.sok → Eqb (2 * t.dep + 1) t.enc
  | .item i, h => by
    rw [enc_item]
    exact (Eqb.tup (n := 0) (.cons (.str (by decide +kernel)) (.cons (.int _ _) (.nil _)))).mono (by omega)
  | .call n ts, h => by
    rw [sok_call] at h
    rw [enc_call, dep_call]
    exact (Eqb.tup (n := 2 * depL ts + 2) (.cons (.str (by decide +kernel)) (.cons (.str h.1) (.cons (.tup (eqbL ts h.2)) (.nil _))))).mono (by omega)
theorem eqbL : ∀ (ts : List Trm), sokL ts → EqbL (2 * depL ts + 1) (encL ts)
  | [], _ => .nil _
  | t :: ts, h => by
    rw [sokL_cons] at h
    unfold encL
    rw [depL_cons]
    obtain ⟨ps, k1, k2, k3⟩ := eqbL ts h.2
    exact .cons ((Trm.eqb t h.1).mono (by omega)) ⟨ps, k1, k2, by omega⟩
end
mutual
/-- the number of nodes -/
def Trm.sz : Trm → Nat
  | .item _ => 1
  | .call _ ts => szL ts + 1
def szL : List Trm → Nat
  | [] => 0
  | t :: ts => t.sz + szL ts
end
theorem sz_item {i : Int} : (Trm.item i).sz = 1 := by rw [Trm.sz]
theorem sz_call {n : Str} {ts : List Trm} : (Trm.call n ts).sz = szL ts + 1 := by rw [Trm.sz]
theorem szL_cons {t : Trm} {ts : List Trm} : szL (t :: ts) = t.sz + szL ts := by rw [szL]
theorem szL_nil : szL [] = 0 := by rw [szL]
mutual
theorem Trm.pls_sz : ∀ t : Trm, t.pls.length ≤ t.sz
  | .item i => by rw [pls_item, sz_item]; exact Nat.le_refl _
  | .call n ts => by rw [pls_call, sz_call]; exact Nat.le_succ_of_le (plsL_sz ts)
theorem plsL_sz : ∀ ts : List Trm, (plsL ts).length ≤ szL ts
  | [] => by rw [plsL_nil, szL_nil]; exact Nat.le_refl _
  | t :: ts => by
    rw [plsL_cons, szL_cons, List.length_append]
    exact Nat.add_le_add (Trm.pls_sz t) (plsL_sz ts)
end
mutual
theorem Trm.nms_sz : ∀ t : Trm, t.nms.length ≤ t.sz
  | .item i => by rw [nms_item, sz_item]; exact Nat.zero_le _
  | .call n ts => by
    rw [nms_call, sz_call]
    have := nmsL_sz ts [n]
    simp only [List.length_cons, List.length_nil] at this
    omega
theorem nmsL_sz : ∀ (ts : List Trm) (acc : List Str), (nmsL acc ts).length ≤ acc.length + szL ts
  | [], acc => by rw [nmsL_nil, szL_nil]; exact Nat.le_refl _
  | t :: ts, acc => by
    rw [nmsL_cons, szL_cons]
    have h1 := nmsL_sz ts (addN acc t.nms)
    have h2 := (addN_len t.nms acc).2
    have h3 := Trm.nms_sz t
    omega
end
theorem dep_mem {ts : List Trm} : ∀ t ∈ ts, t.dep ≤ depL ts := by
  induction ts with
  | nil => intro t h; cases h
  | cons u us ih =>
    intro t h
    rw [depL_cons]
    rcases List.mem_cons.mp h with rfl | h
    · omega
    · have := ih t h; omega
theorem sz_mem {ts : List Trm} : ∀ t ∈ ts, t.sz ≤ szL ts := by
  induction ts with
  | nil => intro t h; cases h
  | cons u us ih =>
    intro t h
    rw [szL_cons]
    rcases List.mem_cons.mp h with rfl | h
    · omega
    · have := ih t h; omega
mutual
theorem nms_sok : ∀ t : Trm, t.sok → ∀ x ∈ t.nms, Sok x
  | .item i, _ => by rw [nms_item]; intro x h; cases h
  | .call n ts, h => by
    rw [sok_call] at h
    rw [nms_call]
    exact nmsL_sok ts [n] h.2 (fun x hx => by rw [List.mem_singleton.mp hx]; exact h.1)
theorem nmsL_sok : ∀ (ts : List Trm) (acc : List Str), sokL ts → (∀ x ∈ acc, Sok x) → ∀ x ∈ nmsL acc ts, Sok x
  | [], acc, _, h => by rw [nmsL_nil]; exact h
  | t :: ts, acc, h, k => by
    rw [sokL_cons] at h
    rw [nmsL_cons]
    exact nmsL_sok ts _ h.2 fun x hx => by
      rcases addN_mem.mp hx with q | q
      · exact k x q
      · exact nms_sok t h.1 x q
end
/-! the written form -/
mutual
def Trm.txt : Trm → Str
  | .item i => ("x" : Str) ++ Str.ofString (toString i)
  | .call n ts => if ts.isEmpty = true then n else n ++ ("(" : Str) ++ Str.join "," (txtL ts) ++ (")" : Str)
def txtL : List Trm → List Str
  | [] => []
  | t :: ts => t.txt :: txtL ts
end
theorem txt_item {i : Int} : (Trm.item i).txt = ("x" : Str) ++ Str.ofString (toString i) := by rw [Trm.txt]
theorem txt_call0 {n : Str} : (Trm.call n []).txt = n := by rw [Trm.txt]; rfl
theorem txt_call {n : Str} {t : Trm} {ts : List Trm} : (Trm.call n (t :: ts)).txt = n ++ ("(" : Str) ++ Str.join "," (txtL (t :: ts)) ++ (")" : Str) := by rw [Trm.txt]; rfl
theorem txtL_nil : txtL [] = [] := by rw [txtL]
theorem txtL_cons {t : Trm} {ts : List Trm} : txtL (t :: ts) = t.txt :: txtL ts := by rw [txtL]
theorem txtL_map : ∀ ts : List Trm, txtL ts = ts.map Trm.txt
  | [] => txtL_nil
  | t :: ts => by rw [txtL_cons, txtL_map ts]; rfl
mutual
def Trm.shw : Trm → Prop
  | .item i => i.natAbs.log2 < 1900
  | .call _ ts => shwL ts
def shwL : List Trm → Prop
  | [] => True
  | t :: ts => t.shw ∧ shwL ts
end
theorem shw_item {i : Int} : (Trm.item i).shw = (i.natAbs.log2 < 1900) := by rw [Trm.shw]
theorem shw_call {n : Str} {ts : List Trm} : (Trm.call n ts).shw = shwL ts := by rw [Trm.shw]
theorem shwL_cons {t : Trm} {ts : List Trm} : shwL (t :: ts) = (t.shw ∧ shwL ts) := by rw [shwL]
theorem shwL_nil : shwL [] = True := by rw [shwL]
theorem shw_mem {ts : List Trm} (h : shwL ts) : ∀ t ∈ ts, t.shw := by
  induction ts with
  | nil => intro t h; cases h
  | cons u us ih =>
    rw [shwL_cons] at h
    intro t ht
    rcases List.mem_cons.mp ht with rfl | ht
    · exact h.1
    · exact ih h.2 t ht
theorem str_app_len (x y : Str) : (x ++ y).length = x.length + y.length := Array.size_append
theorem join_len (a : Str) : ∀ ys : List Str, ys ≠ [] → (ys.map (·.length)).sum + ys.length * a.length = (Str.join a ys).length + a.length
  | [], h => absurd rfl h
  | [x], _ => by
    show x.length + 0 + 1 * a.length = x.length + a.length
    omega
  | x :: y :: r, _ => by
    have ih := join_len a (y :: r) (by simp)
    have e : (Str.join a (x :: y :: r)).length = x.length + a.length + (Str.join a (y :: r)).length := by
      show (x ++ a ++ Str.join a (y :: r)).length = _
      rw [str_app_len, str_app_len]
    rw [e]
    rw [List.map_cons, List.sum_cons, List.length_cons, Nat.succ_mul]
    omega
theorem len_mem (ys : List Str) : ∀ y ∈ ys, y.length ≤ (ys.map (·.length)).sum := by
  induction ys with
  | nil => intro y h; cases h
  | cons z zs ih =>
    intro y h
    rw [List.map_cons, List.sum_cons]
    rcases List.mem_cons.mp h with rfl | h
    · omega
    · have := ih y h; omega
end DL

/-! GVal: values of terms, pure. -/
namespace DL
open PySem PySem.Spec PyProof.Rows
/-- what the names mean: constants, and functions of one and of two arguments -/
structure Mng where
  con : Str → Option D
  one : Str → Option (D → D)
  two : Str → Option (D → D → D)
inductive Vl (M : Mng) (xs : List D) : Trm → D → Prop
  | item {i : Int} {v : D} : L2.atI xs i = some v → Vl M xs (.item i) v
  | con {n : Str} {v : D} : M.con n = some v → Vl M xs (.call n []) v
  | one {n : Str} {f : D → D} {a : Trm} {v : D} : M.one n = some f → Vl M xs a v → Vl M xs (.call n [a]) (f v)
  | two {n : Str} {f : D → D → D} {a b : Trm} {v u : D} : M.two n = some f → Vl M xs a v → Vl M xs b u → Vl M xs (.call n [a, b]) (f v u)
def Mng.has (M : Mng) (n : Str) : Prop := M.con n ≠ none ∨ M.one n ≠ none ∨ M.two n ≠ none
theorem dep_c0 {n : Str} : (Trm.call n []).dep = 1 := by rw [dep_call, depL_nil]
theorem dep_c1 {n : Str} {a : Trm} : (Trm.call n [a]).dep = a.dep + 1 := by rw [dep_call, depL_cons, depL_nil]; omega
theorem dep_c2 {n : Str} {a b : Trm} : (Trm.call n [a, b]).dep = max a.dep b.dep + 1 := by rw [dep_call, depL_cons, depL_cons, depL_nil]; omega
theorem enc_c0 {n : Str} : (Trm.call n []).enc = .tup [.str "call", .str n, .tup []] := by rw [enc_call]; rfl
theorem enc_c1 {n : Str} {a : Trm} : (Trm.call n [a]).enc = .tup [.str "call", .str n, .tup [a.enc]] := by rw [enc_call, encL_cons]; rfl
theorem enc_c2 {n : Str} {a b : Trm} : (Trm.call n [a, b]).enc = .tup [.str "call", .str n, .tup [a.enc, b.enc]] := by rw [enc_call, encL_cons, encL_cons]; rfl
variable {M : Mng} {xs : List D}
theorem Vl.sz {t : Trm} {v : D} (h : Vl M xs t v) : t.sz < 2 ^ (t.dep + 1) := by
  induction h with
  | item _ => rw [sz_item, dep_item]; decide
  | con _ => rw [sz_call, szL_nil, dep_c0]; decide
  | @one n f a v _ _ ih => rw [sz_call, szL_cons, szL_nil, dep_c1, Nat.pow_succ]; omega
  | @two n f a b v u _ _ _ i1 i2 =>
    rw [sz_call, szL_cons, szL_cons, szL_nil, dep_c2]
    have h1 : 2 ^ (a.dep + 1) ≤ 2 ^ (max a.dep b.dep + 1) := Nat.pow_le_pow_right (by decide) (by omega)
    have h2 : 2 ^ (b.dep + 1) ≤ 2 ^ (max a.dep b.dep + 1) := Nat.pow_le_pow_right (by decide) (by omega)
    rw [Nat.pow_succ 2 (max a.dep b.dep + 1)]
    omega
theorem Vl.nms {t : Trm} {v : D} (h : Vl M xs t v) : ∀ n ∈ t.nms, M.has n := by
  induction h with
  | item _ => rw [nms_item]; intro n h; cases h
  | @con n v h => rw [nms_call, nmsL_nil]; intro m hm; rw [List.mem_singleton.mp hm]; exact .inl (by rw [h]; exact Option.some_ne_none _)
  | @one n f a v h _ ih =>
    rw [nms_call, nmsL_cons, nmsL_nil]
    intro m hm
    rcases addN_mem.mp hm with hm | hm
    · rw [List.mem_singleton.mp hm]; exact .inr (.inl (by rw [h]; exact Option.some_ne_none _))
    · exact ih m hm
  | @two n f a b v u h _ _ i1 i2 =>
    rw [nms_call, nmsL_cons, nmsL_cons, nmsL_nil]
    intro m hm
    rcases addN_mem.mp hm with hm | hm
    · rcases addN_mem.mp hm with hm | hm
      · rw [List.mem_singleton.mp hm]; exact .inr (.inr (by rw [h]; exact Option.some_ne_none _))
      · exact i1 m hm
    · exact i2 m hm
theorem Vl.sz20 {t : Trm} {v : D} (h : Vl M xs t v) (k : t.dep ≤ 20) : t.sz ≤ 8000000 := by
  have h1 := h.sz
  have h2 : 2 ^ (t.dep + 1) ≤ 2 ^ 21 := Nat.pow_le_pow_right (by decide) (by omega)
  omega
/-- what the functions make can be compared -/
structure Mng.Eq (M : Mng) (c : Nat) : Prop where
  con : ∀ n v, M.con n = some v → Eqb (c + 1) v
  one : ∀ n f, M.one n = some f → ∀ k v, Eqb k v → Eqb (k + 1) (f v)
  two : ∀ n f, M.two n = some f → ∀ k v u, Eqb k v → Eqb k u → Eqb (k + 1) (f v u)
theorem Vl.eqb {c : Nat} {t : Trm} {v : D} (e : M.Eq c) (hx : ∀ i v, L2.atI xs i = some v → Eqb c v) (h : Vl M xs t v) : Eqb (t.dep + c) v := by
  induction h with
  | item h => rw [dep_item, Nat.zero_add]; exact hx _ _ h
  | con h => rw [dep_c0, Nat.add_comm]; exact e.con _ _ h
  | @one n f a v h _ ih => rw [dep_c1, Nat.add_right_comm]; exact e.one _ _ h _ _ ih
  | @two n f a b v u h _ _ i1 i2 => rw [dep_c2, Nat.add_right_comm]; exact e.two _ _ h _ _ _ (i1.mono (by omega)) (i2.mono (by omega))
end DL

/-! DEval: the mirrors' equations, each applied to what it is reckoned at. -/
namespace DL
open PySem PySem.Spec PyProof.Rows

theorem fVar_0 {d : D} {r : DSt} : fVar 0 (.fz d :: r) = .ok d := rfl
theorem fVar_s {i : Nat} {s : DS} {r : DSt} : fVar (i + 1) (s :: r) = fVar i r := rfl
theorem fOwn_0 {ds : List D} {r : DSt} : fOwn 0 (.ow ds :: r) = .ok ds := rfl
theorem fOwn_s {i : Nat} {s : DS} {r : DSt} : fOwn (i + 1) (s :: r) = fOwn i r := rfl
theorem fC_e {d : D} {δ : DSt} : fC d δ = .ok d := rfl
theorem fU_e {F : D → Option D} {f : FE} {δ : DSt} : fU F f δ = (f δ).bind fun x => R.of (F x) := rfl
theorem fB_e {F : D → D → Option D} {f g : FE} {δ : DSt} : fB F f g δ = (f δ).bind fun x => (g δ).bind fun y => R.of (F x y) := rfl
theorem fNil_e {δ : DSt} : fNil δ = .ok [] := rfl
theorem fCons_e {f : FE} {fl : FL} {δ : DSt} : fCons f fl δ = (f δ).bind fun x => (fl δ).bind fun xs => .ok (x :: xs) := rfl
theorem fL_e {F : List D → Option D} {fl : FL} {δ : DSt} : fL F fl δ = (fl δ).bind fun xs => R.of (F xs) := rfl
theorem fCall_e {F : List D → R D} {fl : FL} {δ : DSt} : fCall F fl δ = (fl δ).bind F := rfl
theorem fTup_e {fl : FL} {δ : DSt} : fTup fl δ = (fl δ).bind fun xs => .ok (.tup xs) := rfl
theorem fLst_e {fl : FL} {δ : DSt} : fLst fl δ = (fl δ).bind fun xs => .ok (.lst xs) := rfl
/-- by a test's answer -/
def rIf {α β : Type} (r : R Bool) (f g : α → R β) (a : α) : R β := r.bind fun b => match b with
  | true => f a
  | false => g a
theorem rIf_t {α β : Type} {f g : α → R β} {a : α} : rIf (.ok true) f g a = f a := rfl
theorem rIf_f {α β : Type} {f g : α → R β} {a : α} : rIf (.ok false) f g a = g a := rfl
theorem fIf_e {c : FB} {f g : FE} {δ : DSt} : fIf c f g δ = rIf (c δ) f g δ := rfl
def tBl : D → R Bool
  | .bl b => .ok b
  | _ => .bad
theorem tBl_e {b : Bool} : tBl (.bl b) = .ok b := rfl
theorem fTest_e {f : FE} {δ : DSt} : fTest f δ = (f δ).bind tBl := by
  unfold fTest tBl
  cases f δ <;> rfl
def tTr : D → R Bool
  | .bl b => .ok b
  | .lst xs => .ok (!xs.isEmpty)
  | .tup xs => .ok (!xs.isEmpty)
  | _ => .bad
theorem fTru_e {f : FE} {δ : DSt} : fTru f δ = (f δ).bind tTr := by
  unfold fTru tTr
  cases f δ <;> rfl
theorem fNotB_e {c : FB} {δ : DSt} : fNotB c δ = (c δ).bind fun b => .ok (!b) := rfl
theorem fAndB_e {c d : FB} {δ : DSt} : fAndB c d δ = rIf (c δ) d (fun _ => .ok false) δ := rfl
theorem fOrB_e {c d : FB} {δ : DSt} : fOrB c d δ = rIf (c δ) (fun _ => .ok true) d δ := rfl
theorem fVal_e {c : FB} {δ : DSt} : fVal c δ = (c δ).bind fun b => .ok (.bl b) := rfl
theorem fAnd_e {f g : FE} {δ : DSt} : fAnd f g δ = rIf ((f δ).bind tBl) g (fun _ => .ok (.bl false)) δ := by
  unfold fAnd rIf tBl
  cases f δ with
  | ok d => cases d <;> first | rfl | (rename_i b; cases b <;> rfl)
  | exc n xs => rfl
  | bad => rfl
theorem fOr_e {f g : FE} {δ : DSt} : fOr f g δ = rIf ((f δ).bind tBl) (fun _ => .ok (.bl true)) g δ := by
  unfold fOr rIf tBl
  cases f δ with
  | ok d => cases d <;> first | rfl | (rename_i b; cases b <;> rfl)
  | exc n xs => rfl
  | bad => rfl
theorem fNo_e {δ : DSt} : fNo δ = .ok none := rfl
def tInt : D → R (Option Int)
  | .int i => .ok (some i)
  | _ => .bad
theorem tInt_e {i : Int} : tInt (.int i) = .ok (some i) := rfl
theorem fSome_e {f : FE} {δ : DSt} : fSome f δ = (f δ).bind tInt := by
  unfold fSome tInt
  cases f δ <;> rfl
theorem fSl_e {f : FE} {l h : FO} {δ : DSt} : fSl f l h δ = (f δ).bind fun d => (l δ).bind fun lo => (h δ).bind fun hi => R.of (dCut d lo hi) := rfl
theorem fSlOw_e {i : Nat} {l h : FO} {δ : DSt} : fSlOw i l h δ = (fOwn i δ).bind fun ds => (l δ).bind fun lo => (h δ).bind fun hi => .ok (.lst (cut ds lo hi)) := rfl
theorem fLenOw_e {i : Nat} {δ : DSt} : fLenOw i δ = (fOwn i δ).bind fun ds => .ok (.int ds.length) := rfl
theorem fIxOw_e {i : Nat} {f : FE} {δ : DSt} : fIxOw i f δ = (fOwn i δ).bind fun ds => (f δ).bind fun d => R.of (dIx (.lst ds) d) := rfl
theorem fInOw_e {neg : Bool} {i : Nat} {f : FE} {δ : DSt} : fInOw neg f i δ = (f δ).bind fun d => (fOwn i δ).bind fun ds => R.of ((dInB d (.lst ds)).map fun b => .bl (if neg then !b else b)) := by
  unfold fInOw
  cases f δ with
  | ok d =>
    cases fOwn i δ with
    | ok ds =>
      have e : dInB d (.lst ds) = if (d.flat && ds.all D.flat) = true then some (inB d ds) else none := by cases d <;> rfl
      show (if (d.flat && ds.all D.flat) = true then R.ok (D.bl (if neg then !inB d ds else inB d ds)) else .bad) = R.of ((dInB d (.lst ds)).map _)
      rw [e]
      by_cases c : (d.flat && ds.all D.flat) = true
      · rw [if_pos c, if_pos c]; rfl
      · rw [if_neg c, if_neg c]; rfl
    | exc n xs => rfl
    | bad => rfl
  | exc n xs => rfl
  | bad => rfl
/-! statements -/
def O.thn (o : O) (G : FS) : O := match o with
  | .nx δ => G δ
  | o => o
theorem thn_nx {δ : DSt} {G : FS} : (O.nx δ).thn G = G δ := rfl
theorem thn_rt {d : D} {δ : DSt} {G : FS} : (O.rt d δ).thn G = .rt d δ := rfl
theorem thn_bk {δ : DSt} {G : FS} : (O.bk δ).thn G = .bk δ := rfl
theorem thn_ct {δ : DSt} {G : FS} : (O.ct δ).thn G = .ct δ := rfl
theorem thn_exc {n : Str} {xs : List D} {G : FS} : (O.exc n xs).thn G = .exc n xs := rfl
theorem thn_bad {G : FS} : O.bad.thn G = .bad := rfl
theorem fSeq_e {F G : FS} {δ : DSt} : fSeq F G δ = (F δ).thn G := by
  unfold fSeq O.thn
  cases F δ <;> rfl
def oIf (r : R Bool) (F G : FS) (δ : DSt) : O := O.on r fun b => match b with
  | true => F δ
  | false => G δ
theorem oIf_t {F G : FS} {δ : DSt} : oIf (.ok true) F G δ = F δ := rfl
theorem oIf_f {F G : FS} {δ : DSt} : oIf (.ok false) F G δ = G δ := rfl
theorem oIf_exc {n : Str} {xs : List D} {F G : FS} {δ : DSt} : oIf (.exc n xs) F G δ = .exc n xs := rfl
theorem fIfS_e {c : FB} {F G : FS} {δ : DSt} : fIfS c F G δ = oIf (c δ) F G δ := rfl
theorem fSkip_e {δ : DSt} : fSkip δ = .nx δ := rfl
theorem fRet_e {f : FE} {δ : DSt} : fRet f δ = O.on (f δ) fun d => .rt d δ := rfl
theorem fExp_e {f : FE} {δ : DSt} : fExp f δ = O.on (f δ) fun _ => .nx δ := rfl
theorem fSet_e {i : Nat} {f : FE} {δ : DSt} : fSet i f δ = O.on (f δ) fun d => .nx (δ.set i (.fz d)) := rfl
theorem fNew_e {i : Nat} {fl : FL} {δ : DSt} : fNew i fl δ = O.on (fl δ) fun ds => .nx (δ.set i (.ow ds)) := rfl
def oApp (i : Nat) (δ : DSt) (ds : List D) (d : D) : O := if okLt ds.length = true then .nx (δ.set i (.ow (ds ++ [d]))) else .bad
theorem oApp_ok {i : Nat} {δ : DSt} {ds : List D} {d : D} (h : okLt ds.length = true) : oApp i δ ds d = .nx (δ.set i (.ow (ds ++ [d]))) := if_pos h
theorem fApp_e {i : Nat} {f : FE} {δ : DSt} : fApp i f δ = O.on (fOwn i δ) fun ds => O.on (f δ) fun d => oApp i δ ds d := rfl
def oExt (i : Nat) (δ : DSt) (ds : List D) (d : D) : O := match d with
  | .lst es => if okLe (ds.length + es.length) = true then .nx (δ.set i (.ow (ds ++ es))) else .bad
  | _ => .bad
theorem oExt_ok {i : Nat} {δ : DSt} {ds es : List D} (h : okLe (ds.length + es.length) = true) : oExt i δ ds (.lst es) = .nx (δ.set i (.ow (ds ++ es))) := if_pos h
theorem fExt_e {i : Nat} {f : FE} {δ : DSt} : fExt i f δ = O.on (fOwn i δ) fun ds => O.on (f δ) fun d => oExt i δ ds d := rfl
def oPop (j i : Nat) (δ : DSt) (ds : List D) : O := match ds.getLast? with
  | some d => .nx ((δ.set i (.ow ds.dropLast)).set j (.fz d))
  | none => .bad
theorem oPop_ok {j i : Nat} {δ : DSt} {ds : List D} {d : D} : oPop j i δ (ds ++ [d]) = .nx ((δ.set i (.ow ds)).set j (.fz d)) := by
  unfold oPop
  rw [List.getLast?_concat, List.dropLast_concat]
theorem fPop_e {j i : Nat} {δ : DSt} : fPop j i δ = O.on (fOwn i δ) fun ds => oPop j i δ ds := rfl
def oPut (i : Nat) (δ : DSt) (ds : List D) (d k : D) : O := match k with
  | .int n => match L2.ixN ds.length n with
    | some j => .nx (δ.set i (.ow (ds.set j d)))
    | none => .bad
  | _ => .bad
theorem fPut_e {i : Nat} {fk fe : FE} {δ : DSt} : fPut i fk fe δ = O.on (fe δ) fun d => O.on (fOwn i δ) fun ds => O.on (fk δ) fun k => oPut i δ ds d k := rfl
theorem fFrz_e {i : Nat} {F : FS} {δ : DSt} : fFrz i F δ = F (frz i δ) := rfl
theorem frz_0o {ds : List D} {r : DSt} : frz 0 (.ow ds :: r) = .fz (.lst ds) :: r := rfl
theorem frz_s {i : Nat} {s : DS} {r : DSt} : frz (i + 1) (s :: r) = s :: frz i r := by
  unfold frz
  rw [List.getElem?_cons_succ]
  cases r[i]? with
  | none => rfl
  | some t => cases t <;> rfl
theorem fFor_e {fi : FL} {put : FP} {body : FS} {δ : DSt} : fFor fi put body δ = O.on (fi δ) fun ds => loopF put body ds δ := rfl
theorem fItems_e {f : FE} {δ : DSt} : fItems f δ = (f δ).bind fun d => R.of (dItems d) := rfl
theorem fRange_e {fl : FL} {δ : DSt} : fRange fl δ = (fl δ).bind fun ds => R.of (dRange ds) := rfl
def oAsg (p : FP) (δ : DSt) (d : D) : O := match p δ d with
  | some δ' => .nx δ'
  | none => .bad
theorem fAsg_e {p : FP} {f : FE} {δ : DSt} : fAsg p f δ = O.on (f δ) fun d => oAsg p δ d := rfl
def oMat (G : Str → FS) (δ : DSt) (d : D) : O := match d with
  | .str z => G z δ
  | _ => .bad
theorem oMat_e {G : Str → FS} {δ : DSt} {z : Str} : oMat G δ (.str z) = G z δ := rfl
theorem fMatch_e {f : FE} {G : Str → FS} {δ : DSt} : fMatch f G δ = O.on (f δ) fun d => oMat G δ d := by
  unfold fMatch oMat
  cases f δ <;> rfl
theorem fAug_e {F : D → D → Option D} {i : Nat} {f : FE} {δ : DSt} : fAug F i f δ = O.on (fVar i δ) fun x => O.on (f δ) fun y => O.on (R.of (F x y)) fun z => .nx (δ.set i (.fz z)) := rfl
theorem whileF_e {c : FB} {body : FS} {n : Nat} {δ : DSt} : whileF c body (n + 1) δ = oIf (c δ) (fun δ => match body δ with
      | .nx δ2 => whileF c body n δ2
      | .ct δ2 => whileF c body n δ2
      | .bk δ2 => .nx δ2
      | .rt d δ2 => .rt d δ2
      | .exc n xs => .exc n xs
      | .bad => .bad) (fun δ => .nx δ) δ := by
  show (O.on (c δ) _) = O.on (c δ) _
  congr 1
  funext b
  cases b <;> rfl
/-- a run's end -/
def O.fin (o : O) : R D := match o with
  | .rt d _ => .ok d
  | .nx _ => .ok .non
  | .exc n xs => .exc n xs
  | _ => .bad
theorem fin_rt {d : D} {δ : DSt} : (O.rt d δ).fin = .ok d := rfl
theorem fin_nx {δ : DSt} : (O.nx δ).fin = .ok .non := rfl
theorem fin_exc {n : Str} {xs : List D} : (O.exc n xs).fin = .exc n xs := rfl
theorem runD_e {m : Nat} {F : FS} {ds : List D} : runD m F ds = (F (ds.map DS.fz ++ List.replicate (m - ds.length) DS.un)).fin := rfl
theorem pName_e {i : Nat} {δ : DSt} {d : D} : pName i δ d = some (δ.set i (.fz d)) := rfl
theorem pNil_e {δ : DSt} : pNil δ [] = some δ := rfl
theorem pCons_e {p : FP} {ps : FPs} {δ : DSt} {d : D} {ds : List D} : pCons p ps δ (d :: ds) = (p δ d).bind fun δ' => ps δ' ds := rfl
theorem pTup_e {n : Nat} {ps : FPs} {δ : DSt} {ds : List D} : pTup n ps δ (.tup ds) = if ds.length = n then ps δ ds else none := rfl
theorem starD_e {n m : Nat} {F : FS} {ds : List D} (h : n ≤ ds.length) (h2 : okLe ds.length = true) : starD n m F ds = runD m F (ds.take n ++ [.tup (ds.drop n)]) := by
  unfold starD
  rw [if_pos (by rw [decide_eq_true h, h2]; rfl)]
theorem dAdd_ii {i j : Int} : dAdd (.int i) (.int j) = some (.int (i + j)) := rfl
theorem dAdd_ss {x y : Str} (h : okLe (x.length + y.length) = true) : dAdd (.str x) (.str y) = some (.str (x ++ y)) := if_pos h
theorem dAdd_ll {xs ys : List D} (h : okLe (xs.length + ys.length) = true) : dAdd (.lst xs) (.lst ys) = some (.lst (xs ++ ys)) := if_pos h
theorem dAdd_tt {x : D} {xs ys : List D} (h : okLe ((x :: xs).length + ys.length) = true) : dAdd (.tup (x :: xs)) (.tup ys) = some (.tup (x :: xs ++ ys)) := if_pos h
theorem dSub_ii {i j : Int} : dSub (.int i) (.int j) = some (.int (i - j)) := rfl
theorem dMul_ii {i j : Int} (h : mulOk i j = true) : dMul (.int i) (.int j) = some (.int (i * j)) := if_pos h
theorem lim_by {k : Nat} {i : Int} (h : i.natAbs < 2 ^ k) : lim k i = true := Nat.blt_eq.mpr h
theorem mulOk_l {i j : Int} (h : lim 64 i = true) : mulOk i j = true := by unfold mulOk; rw [h]; rfl
theorem mulOk_r {i j : Int} (h : lim 64 j = true) : mulOk i j = true := by unfold mulOk; rw [h]; cases lim 64 i <;> rfl
theorem mulOk_w {i j : Int} (h : lim 400 i = true) (k : lim 400 j = true) : mulOk i j = true := by unfold mulOk; rw [h, k]; cases lim 64 i <;> cases lim 64 j <;> rfl
theorem dMul_li {xs : List D} {k : Int} (h : repOk xs.length k = true) : dMul (.lst xs) (.int k) = some (.lst (List.replicate k.toNat xs).flatten) := if_pos h
theorem repOk_by {n : Nat} {k : Int} (h : lim 63 k = true) (g : n * k.toNat ≤ 16777216) : repOk n k = true := by unfold repOk; rw [h, okLe_by g]; rfl
theorem dFdiv_ii {i j : Int} (h : 0 < j) (g : j < 1073741824) : dFdiv (.int i) (.int j) = some (.int (i / j)) := if_pos (by
  unfold divOk
  rw [decide_eq_true h]
  have : i.natAbs = i.natAbs := rfl
  show Nat.blt j.natAbs (2 ^ 400) = true
  refine Nat.blt_eq.mpr (Nat.lt_of_lt_of_le (show j.natAbs < 2 ^ 30 by omega) (Nat.pow_le_pow_right (by decide) (by decide))))
theorem dFdiv_w {i j : Int} (h : 0 < j) (g : lim 400 j = true) : dFdiv (.int i) (.int j) = some (.int (i / j)) := if_pos (by
  unfold divOk
  rw [decide_eq_true h, g]
  rfl)
theorem dMod_ii {i j : Int} (h : 0 < j) : dMod (.int i) (.int j) = some (.int (i % j)) := if_pos h
theorem dNeg_i {i : Int} : dNeg (.int i) = some (.int (-i)) := rfl
theorem dLt_ii {i j : Int} : dLt (.int i) (.int j) = some (.bl (decide (i < j))) := rfl
theorem dLe_ii {i j : Int} : dLe (.int i) (.int j) = some (.bl (decide (i ≤ j))) := rfl
theorem dGt_ii {i j : Int} : dGt (.int i) (.int j) = some (.bl (decide (j < i))) := rfl
theorem dGe_ii {i j : Int} : dGe (.int i) (.int j) = some (.bl (decide (j ≤ i))) := rfl
theorem dIx_l {xs : List D} {i : Int} : dIx (.lst xs) (.int i) = L2.atI xs i := rfl
theorem dIx_t {xs : List D} {i : Int} : dIx (.tup xs) (.int i) = L2.atI xs i := rfl
theorem dIx_c {xs : List D} {i : Int} : dIx (.scr xs) (.int i) = L2.atI xs i := rfl
theorem dIx_s {z : Str} {i : Int} (h : okLe z.length = true) : dIx (.str z) (.int i) = (L2.atI z.cps.toList i).map (fun c => .str ⟨#[c]⟩) := if_pos h
theorem dLen_l {xs : List D} : dLen [.lst xs] = some (.int xs.length) := rfl
theorem dLen_t {xs : List D} : dLen [.tup xs] = some (.int xs.length) := rfl
theorem dLen_c {xs : List D} : dLen [.scr xs] = some (.int xs.length) := rfl
theorem dLen_s {z : Str} (h : okLe z.length = true) : dLen [.str z] = some (.int z.length) := if_pos h
theorem dAbs_i {i : Int} : dAbs [.int i] = some (.int (if i < 0 then -i else i)) := rfl
theorem dMax2_ii {i j : Int} : dMax2 [.int i, .int j] = some (.int (if j > i then j else i)) := rfl
theorem dMin2_ii {i j : Int} : dMin2 [.int i, .int j] = some (.int (if j < i then j else i)) := rfl
theorem dInt_i {i : Int} : dInt [.int i] = some (.int i) := rfl
theorem dStr_i {i : Int} (h : i.natAbs.log2 < 1920) : dStr [.int i] = some (.str (toString i)) := if_pos h
theorem dStr_s {x : Str} : dStr [.str x] = some (.str x) := rfl
theorem dList_l {xs : List D} : dList [.lst xs] = some (.lst xs) := rfl
theorem dList_t {xs : List D} : dList [.tup xs] = some (.lst xs) := rfl
theorem dTuple_l {xs : List D} : dTuple [.lst xs] = some (.tup xs) := rfl
theorem dTuple_t {xs : List D} : dTuple [.tup xs] = some (.tup xs) := rfl
theorem dCut_l {xs : List D} {lo hi : Option Int} : dCut (.lst xs) lo hi = some (.lst (cut xs lo hi)) := rfl
theorem dCut_t {xs : List D} {lo hi : Option Int} : dCut (.tup xs) lo hi = some (.tup (cut xs lo hi)) := rfl
theorem dItems_l {xs : List D} : dItems (.lst xs) = some xs := rfl
theorem dItems_t {xs : List D} : dItems (.tup xs) = some xs := rfl
theorem dItems_s {z : Str} : dItems (.str z) = some (z.cps.toList.map fun c => .str ⟨#[c]⟩) := rfl
theorem dRange_1 {j : Int} (h : small62 j = true) : dRange [.int j] = some (dInts 0 j.toNat) := if_pos h
theorem dRange_2 {i j : Int} (h : small62 i = true) (g : small62 j = true) : dRange [.int i, .int j] = some (dInts i (j - i).toNat) := if_pos (by rw [h, g]; rfl)
theorem dIsN_e {d : D} : dIsN d = some (.bl d.isNon) := rfl
theorem dNotN_e {d : D} : dNotN d = some (.bl (!d.isNon)) := rfl
theorem isNon_n  : D.isNon .non = true := rfl
theorem isNon_b {b : Bool} : D.isNon (.bl b) = false := rfl
theorem isNon_i {i : Int} : D.isNon (.int i) = false := rfl
theorem isNon_s {x : Str} : D.isNon (.str x) = false := rfl
theorem isNon_t {xs : List D} : D.isNon (.tup xs) = false := rfl
theorem isNon_l {xs : List D} : D.isNon (.lst xs) = false := rfl
theorem isNon_o {c : Str} {xs : List D} : D.isNon (.obj c xs) = false := rfl
theorem dIsi_n {T : String} : dIsi T .non = some (.bl (isT "NoneType" T)) := rfl
theorem dIsi_b {T : String} {b : Bool} : dIsi T (.bl b) = some (.bl (isT "bool" T)) := rfl
theorem dIsi_i {T : String} {i : Int} : dIsi T (.int i) = some (.bl (isT "int" T)) := rfl
theorem dIsi_s {T : String} {x : Str} : dIsi T (.str x) = some (.bl (isT "str" T)) := rfl
theorem dIsi_t {T : String} {xs : List D} : dIsi T (.tup xs) = some (.bl (isT "tuple" T)) := rfl
theorem dIsi_l {T : String} {xs : List D} : dIsi T (.lst xs) = some (.bl (isT "list" T)) := rfl
theorem dIn_e {x y : D} : dIn x y = (dInB x y).map D.bl := rfl
theorem dNotIn_e {x y : D} : dNotIn x y = (dInB x y).map fun b => D.bl (!b) := rfl
theorem dEq_e {x y : D} : dEq x y = (dEqB x y).map D.bl := rfl
theorem dNe_e {x y : D} : dNe x y = (dEqB x y).map fun b => D.bl (!b) := rfl
theorem oPop_2 {j i : Nat} {δ : DSt} {ds : List D} {c d : D} : oPop j i δ (ds ++ [c, d]) = .nx ((δ.set i (.ow (ds ++ [c]))).set j (.fz d)) := by
  rw [show ds ++ [c, d] = (ds ++ [c]) ++ [d] from by rw [List.append_assoc]; rfl]
  exact oPop_ok
theorem oPop_1 {j i : Nat} {δ : DSt} {d : D} : oPop j i δ [d] = .nx ((δ.set i (.ow [])).set j (.fz d)) := rfl
theorem cast_0 : ((0 : Nat) : Int) = 0 := rfl
theorem cast_1 : ((1 : Nat) : Int) = 1 := rfl
theorem cast_2 : ((2 : Nat) : Int) = 2 := rfl
theorem cast_3 : ((3 : Nat) : Int) = 3 := rfl
theorem at_0 {a : D} {r : List D} : L2.atI (a :: r) 0 = some a := L2.atI_nat (j := 0) rfl
theorem at_1 {a b : D} {r : List D} : L2.atI (a :: b :: r) 1 = some b := L2.atI_nat (j := 1) rfl
theorem at_2 {a b c : D} {r : List D} : L2.atI (a :: b :: c :: r) 2 = some c := L2.atI_nat (j := 2) rfl
theorem at_3 {a b c d : D} {r : List D} : L2.atI (a :: b :: c :: d :: r) 3 = some d := L2.atI_nat (j := 3) rfl
theorem at_4 {a b c d e : D} {r : List D} : L2.atI (a :: b :: c :: d :: e :: r) 4 = some e := L2.atI_nat (j := 4) rfl
theorem at_5 {a b c d e f : D} {r : List D} : L2.atI (a :: b :: c :: d :: e :: f :: r) 5 = some f := L2.atI_nat (j := 5) rfl
theorem at_6 {a b c d e f g : D} {r : List D} : L2.atI (a :: b :: c :: d :: e :: f :: g :: r) 6 = some g := L2.atI_nat (j := 6) rfl
theorem lcF_nil {i : Nat} {t : FB} {f : FE} {δ : DSt} {acc : List D} : lcF i t f δ [] acc = .ok acc := rfl
theorem lcF_yes {i : Nat} {t : FB} {f : FE} {δ : DSt} {d e : D} {ds acc : List D} (ht : t (δ.set i (.fz d)) = .ok true) (hf : f (δ.set i (.fz d)) = .ok e) (hl : okLt acc.length = true) : lcF i t f δ (d :: ds) acc = lcF i t f δ ds (acc ++ [e]) := by
  show ((t (δ.set i (.fz d))).quiet.bind _) = _
  rw [ht]
  show ((f (δ.set i (.fz d))).quiet.bind _) = _
  rw [hf]
  exact if_pos hl
theorem lcF_no {i : Nat} {t : FB} {f : FE} {δ : DSt} {d : D} {ds acc : List D} (ht : t (δ.set i (.fz d)) = .ok false) : lcF i t f δ (d :: ds) acc = lcF i t f δ ds acc := by
  show ((t (δ.set i (.fz d))).quiet.bind _) = _
  rw [ht]
  rfl
/-- all items are taken -/
theorem lcF_all {α : Type} {i : Nat} {f : FE} {δ : DSt} {g h : α → D} : ∀ {xs : List α} {acc : List D}, (∀ x ∈ xs, f (δ.set i (.fz (g x))) = .ok (h x)) → acc.length + xs.length ≤ 16777215 → lcF i fYes f δ (xs.map g) acc = .ok (acc ++ xs.map h)
  | [], acc, _, _ => by rw [List.map_nil, List.map_nil, List.append_nil]; rfl
  | x :: xs, acc, hx, hl => by
    rw [List.length_cons] at hl
    rw [List.map_cons, lcF_yes (e := h x) rfl (hx x List.mem_cons_self) (okLt_by (by omega)), lcF_all (h := h) (fun y hy => hx y (List.mem_cons_of_mem _ hy)) (by rw [List.length_append, List.length_singleton]; omega), List.append_assoc]
    rfl
theorem fLc_e {fi : FL} {i : Nat} {t : FB} {f : FE} {δ : DSt} : fLc fi i t f δ = (fi δ).bind fun ds => (lcF i t f δ ds []).bind fun es => .ok (.lst es) := by
  unfold fLc fLcL
  cases fi δ <;> rfl
theorem fLcL_e {fi : FL} {i : Nat} {t : FB} {f : FE} {δ : DSt} : fLcL fi i t f δ = (fi δ).bind fun ds => lcF i t f δ ds [] := rfl
theorem fJoin_e {f g : FE} {δ : DSt} : fJoin f g δ = (f δ).bind (rJoin g δ) := rfl
theorem rJoin_e {a : Str} {g : FE} {δ : DSt} : rJoin g δ (.str a) = (g δ).bind fun e => R.of (dJoin a e) := rfl
theorem dJoin_l {a : Str} {ys : List Str} (h : joinOk a ys = true) : dJoin a (.lst (ys.map .str)) = some (.str (Str.join a ys)) := by
  show (match strsOf (ys.map .str) with | some ys => if joinOk a ys = true then some (D.str (Str.join a ys)) else none | none => none) = _
  rw [strsOf_map]
  exact if_pos h
theorem joinOk_by {a : Str} {ys : List Str} (h : (ys.map (·.length)).sum + ys.length * a.length ≤ 16777216) : joinOk a ys = true := Nat.ble_eq_true_of_le h
end DL

/-! DEval2: more equations; conditions. -/
namespace DL
open PySem PySem.Spec PyProof.Rows
/-! ### instances -/
def rProp (c : Str) (G : List D → R D) (o : D) : R D := if isOb c o = true then (G [o]).quiet else .bad
theorem fProp_e {c : Str} {G : List D → R D} {fo : FE} {δ : DSt} : fProp c G fo δ = (fo δ).bind (rProp c G) := rfl
theorem rProp_e {c : Str} {G : List D → R D} {xs : List D} : rProp c G (.obj c xs) = (G [.obj c xs]).quiet := if_pos (decide_eq_true rfl)
theorem quiet_ok {α : Type} {a : α} : (R.ok a).quiet = .ok a := rfl
theorem dSlot_e {c : Str} {i : Nat} {xs : List D} : dSlot c i (.obj c xs) = xs[i]? := if_pos rfl
theorem fMakeSK_e {c : Str} {n : Nat} {gD : List D → List D} {fl : FL} {δ : DSt} : fMakeSK c n gD fl δ = (fl δ).bind (rMakeSK c n gD) := rfl
theorem rMakeSK_e {c : Str} {n : Nat} {gD : List D → List D} {ds es : List D} (h : gD ds = es) (k : es.length = n) : rMakeSK c n gD ds = .ok (.obj c es) := by
  subst h
  exact if_pos k
theorem gMrg_e {m : List Bool} {is : List Int} {zs : List D} : gMrg m is zs = mrg m (is.map .int) zs := rfl
theorem mrg_t {α : Type} {m : List Bool} {ys zs : List α} {z : α} : mrg (true :: m) ys (z :: zs) = z :: mrg m ys zs := by cases ys <;> rfl
theorem mrg_f {α : Type} {m : List Bool} {ys zs : List α} {y : α} : mrg (false :: m) (y :: ys) zs = y :: mrg m ys zs := by cases zs <;> rfl
theorem mrg_n {α : Type} {ys zs : List α} : mrg [] ys zs = [] := by cases ys <;> cases zs <;> rfl
def rNum (ds : List D) : R D := if ds.length = 8 then .ok (.obj "Numbers" ds) else .bad
theorem rMakeN_e {m : List Bool} {is : List Int} {zs : List D} : rMakeSK "Numbers" 8 (gMrg m is) zs = rNum (mrg m (is.map .int) zs) := rfl
theorem rNum_e {a0 a1 a2 a3 a4 a5 a6 a7 : D} : rNum [a0, a1, a2, a3, a4, a5, a6, a7] = .ok (.obj "Numbers" [a0, a1, a2, a3, a4, a5, a6, a7]) := rfl
def rMethF (c : Str) (G : List D → R D) (fl : FL) (δ : DSt) (o : D) : R D := if isOb c o = true then (fl δ).bind fun ds => G (o :: ds) else .bad
theorem fMethF_e {c : Str} {G : List D → R D} {fo : FE} {fl : FL} {δ : DSt} : fMethF c G fo fl δ = (fo δ).bind (rMethF c G fl δ) := rfl
theorem rMethF_e {c : Str} {G : List D → R D} {fl : FL} {δ : DSt} {xs : List D} : rMethF c G fl δ (.obj c xs) = (fl δ).bind fun ds => G (.obj c xs :: ds) := if_pos (decide_eq_true rfl)
/-! ### ints of texts, sums of texts -/
theorem dIntS_i {i : Int} : dIntS [.int i] = some (.int i) := rfl
theorem dAddS_ii {i j : Int} : dAddS (.int i) (.int j) = some (.int (i + j)) := rfl
theorem dAddS_ss {x y : Str} (h : okLe (x.length + y.length) = true) : dAddS (.str x) (.str y) = some (.str (x ++ y)) := if_pos h
theorem dGcd_ii {a b : Int} : dGcd [.int a, .int b] = some (.int (Nat.gcd a.natAbs b.natAbs : Nat)) := rfl
theorem dLcm_ii {a b : Int} (h : lim 64 a = true) (k : lim 64 b = true) : dLcm [.int a, .int b] = some (.int (Nat.lcm a.natAbs b.natAbs : Nat)) := if_pos (by rw [h, k]; rfl)
theorem dLcm_iii {a b c : Int} (h : lim 64 a = true) (k : lim 64 b = true) (l : lim 64 c = true) : dLcm [.int a, .int b, .int c] = some (.int (Nat.lcm (Nat.lcm a.natAbs b.natAbs) c.natAbs : Nat)) := if_pos (by rw [h, k, l]; rfl)
/-! ### places and slices of written lists -/
theorem at_7 {a0 a1 a2 a3 a4 a5 a6 a7 : D} {r : List D} : L2.atI (a0 :: a1 :: a2 :: a3 :: a4 :: a5 :: a6 :: a7 :: r) 7 = some a7 := L2.atI_nat (j := 7) rfl
theorem at_8 {a0 a1 a2 a3 a4 a5 a6 a7 a8 : D} {r : List D} : L2.atI (a0 :: a1 :: a2 :: a3 :: a4 :: a5 :: a6 :: a7 :: a8 :: r) 8 = some a8 := L2.atI_nat (j := 8) rfl
theorem at_9 {a0 a1 a2 a3 a4 a5 a6 a7 a8 a9 : D} {r : List D} : L2.atI (a0 :: a1 :: a2 :: a3 :: a4 :: a5 :: a6 :: a7 :: a8 :: a9 :: r) 9 = some a9 := L2.atI_nat (j := 9) rfl
theorem at_10 {a0 a1 a2 a3 a4 a5 a6 a7 a8 a9 a10 : D} {r : List D} : L2.atI (a0 :: a1 :: a2 :: a3 :: a4 :: a5 :: a6 :: a7 :: a8 :: a9 :: a10 :: r) 10 = some a10 := L2.atI_nat (j := 10) rfl
theorem at_11 {a0 a1 a2 a3 a4 a5 a6 a7 a8 a9 a10 a11 : D} {r : List D} : L2.atI (a0 :: a1 :: a2 :: a3 :: a4 :: a5 :: a6 :: a7 :: a8 :: a9 :: a10 :: a11 :: r) 11 = some a11 := L2.atI_nat (j := 11) rfl
theorem at_12 {a0 a1 a2 a3 a4 a5 a6 a7 a8 a9 a10 a11 a12 : D} {r : List D} : L2.atI (a0 :: a1 :: a2 :: a3 :: a4 :: a5 :: a6 :: a7 :: a8 :: a9 :: a10 :: a11 :: a12 :: r) 12 = some a12 := L2.atI_nat (j := 12) rfl
theorem at_13 {a0 a1 a2 a3 a4 a5 a6 a7 a8 a9 a10 a11 a12 a13 : D} {r : List D} : L2.atI (a0 :: a1 :: a2 :: a3 :: a4 :: a5 :: a6 :: a7 :: a8 :: a9 :: a10 :: a11 :: a12 :: a13 :: r) 13 = some a13 := L2.atI_nat (j := 13) rfl
theorem at_14 {a0 a1 a2 a3 a4 a5 a6 a7 a8 a9 a10 a11 a12 a13 a14 : D} {r : List D} : L2.atI (a0 :: a1 :: a2 :: a3 :: a4 :: a5 :: a6 :: a7 :: a8 :: a9 :: a10 :: a11 :: a12 :: a13 :: a14 :: r) 14 = some a14 := L2.atI_nat (j := 14) rfl
theorem at_15 {a0 a1 a2 a3 a4 a5 a6 a7 a8 a9 a10 a11 a12 a13 a14 a15 : D} {r : List D} : L2.atI (a0 :: a1 :: a2 :: a3 :: a4 :: a5 :: a6 :: a7 :: a8 :: a9 :: a10 :: a11 :: a12 :: a13 :: a14 :: a15 :: r) 15 = some a15 := L2.atI_nat (j := 15) rfl
theorem at_m1 {α : Type} {xs : List α} {a : α} : L2.atI (xs ++ [a]) (-1) = some a := by
  have e : L2.ixN (xs.length + 1) (-1) = some xs.length := by
    unfold L2.ixN
    simp
    omega
  unfold L2.atI
  simp [e]
theorem cut_toL {α : Type} {xs : List α} {i : Int} (h : 0 ≤ i) : cut xs none (some i) = xs.take i.toNat := by
  obtain ⟨k, rfl⟩ := Int.eq_ofNat_of_zero_le h
  exact cut_to xs k
theorem cut_fromL {α : Type} {xs : List α} {i : Int} (h : 0 ≤ i) : cut xs (some i) none = xs.drop i.toNat := by
  obtain ⟨k, rfl⟩ := Int.eq_ofNat_of_zero_le h
  exact cut_from xs k
theorem cut_btw {α : Type} {xs : List α} {i j : Int} (h : 0 ≤ i) (g : 0 ≤ j) : cut xs (some i) (some j) = (xs.take j.toNat).drop i.toNat := by
  obtain ⟨k, rfl⟩ := Int.eq_ofNat_of_zero_le h
  obtain ⟨m, rfl⟩ := Int.eq_ofNat_of_zero_le g
  unfold cut
  rw [HT.sIx_nat, HT.sIx_nat, List.drop_take]
  by_cases c : k ≤ xs.length
  · rw [Nat.min_eq_left c]
    by_cases e : m ≤ xs.length
    · rw [Nat.min_eq_left e]
      rfl
    · rw [Nat.min_eq_right (by omega), List.take_of_length_le (by simp)]
      exact (List.take_of_length_le (by simp; omega)).symm
  · rw [Nat.min_eq_right (by omega : xs.length ≤ k), List.drop_of_length_le (Nat.le_refl _), List.take_nil]
    show [] = List.take (m - k) (List.drop k xs)
    rw [List.drop_of_length_le (by omega), List.take_nil]
/-! ### steps, two clauses, calls -/
theorem fSlS_e {f : FE} {l h : FO} {g : FE} {δ : DSt} : fSlS f l h g δ = (f δ).bind fun d => (l δ).bind fun lo => (h δ).bind fun hi => (g δ).bind fun c => R.of (dPick d lo hi c) := rfl
theorem dPick_l {xs : List D} {lo hi : Option Int} {c : Int} (h : c ≠ 0) : dPick (.lst xs) lo hi (.int c) = some (.lst (pickG xs lo hi (some c))) := if_neg h
theorem fRange3_e {fl : FL} {δ : DSt} : fRange3 fl δ = (fl δ).bind fun ds => R.of (dRange3 ds) := rfl
theorem dRange3_e {i j c : Int} (h : rg3Ok i j c = true) : dRange3 [.int i, .int j, .int c] = some (dInt3 i c (Builtin.Range.rangeSize i j c).toNat) := if_pos h
theorem fLc2_e {fi : FL} {i : Nat} {t : FB} {fi1 : FL} {i1 : Nat} {t1 : FB} {f : FE} {δ : DSt} : fLc2 fi i t fi1 i1 t1 f δ = (fi δ).bind fun ds => (lc2F i t fi1 i1 t1 f (δ.set i1 .un) ds []).bind fun es => .ok (.lst es) := by
  unfold fLc2 fLc2L
  cases fi δ <;> rfl
theorem fCallK_e {ks : List Str} {G : List D → R D} {fl fk : FL} {δ : DSt} : fCallK ks G fl fk δ = (fl δ).bind fun ds => (fk δ).bind fun es => rCallK ks G ds es := rfl
theorem fCallO_e {c : Str} {G : List D → R D} {fo : FE} {fl : FL} {δ : DSt} : fCallO c G fo fl δ = (fo δ).bind (rCallO c G fl δ) := rfl
theorem rCallO_e {c : Str} {G : List D → R D} {fl : FL} {δ : DSt} {xs : List D} : rCallO c G fl δ (.obj c xs) = (fl δ).bind fun ds => G (.obj c xs :: ds) := if_pos (decide_eq_true rfl)
theorem fBin_e {c : Str} {G : List D → R D} {f g : FE} {δ : DSt} : fBin c G f g δ = (f δ).bind fun x => (g δ).bind fun y => rBin c G x y := rfl
theorem rBin_e {c : Str} {G : List D → R D} {xs ys : List D} : rBin c G (.obj c xs) (.obj c ys) = G [.obj c xs, .obj c ys] := by
  unfold rBin isOb
  simp
theorem fDic0_e {δ : DSt} : fDic0 δ = .ok (.dic [] []) := rfl
theorem fCallV_e {tb : Tb} {i : Nat} {fl : FL} {δ : DSt} : fCallV tb i fl δ = (fVar i δ).bind fun d => (R.of (tbOf tb d)).bind fun G => (fl δ).bind G := rfl
def oStore : Option DSt → O
  | some δ => .nx δ
  | none => .bad
theorem oStore_s {δ : DSt} : oStore (some δ) = .nx δ := rfl
theorem oAsg_e2 {p : FP} {δ : DSt} {d : D} : oAsg p δ d = oStore (p δ d) := by
  unfold oAsg oStore
  cases p δ d <;> rfl
/-! ### types -/
theorem isT_NoneType_bool : isT "NoneType" "bool" = false := by decide
theorem isT_NoneType_int : isT "NoneType" "int" = false := by decide
theorem isT_NoneType_str : isT "NoneType" "str" = false := by decide
theorem isT_NoneType_list : isT "NoneType" "list" = false := by decide
theorem isT_NoneType_tuple : isT "NoneType" "tuple" = false := by decide
theorem isT_bool_bool : isT "bool" "bool" = true := by decide
theorem isT_bool_int : isT "bool" "int" = true := by decide
theorem isT_bool_str : isT "bool" "str" = false := by decide
theorem isT_bool_list : isT "bool" "list" = false := by decide
theorem isT_bool_tuple : isT "bool" "tuple" = false := by decide
theorem isT_int_bool : isT "int" "bool" = false := by decide
theorem isT_int_int : isT "int" "int" = true := by decide
theorem isT_int_str : isT "int" "str" = false := by decide
theorem isT_int_list : isT "int" "list" = false := by decide
theorem isT_int_tuple : isT "int" "tuple" = false := by decide
theorem isT_str_bool : isT "str" "bool" = false := by decide
theorem isT_str_int : isT "str" "int" = false := by decide
theorem isT_str_str : isT "str" "str" = true := by decide
theorem isT_str_list : isT "str" "list" = false := by decide
theorem isT_str_tuple : isT "str" "tuple" = false := by decide
theorem isT_list_bool : isT "list" "bool" = false := by decide
theorem isT_list_int : isT "list" "int" = false := by decide
theorem isT_list_str : isT "list" "str" = false := by decide
theorem isT_list_list : isT "list" "list" = true := by decide
theorem isT_list_tuple : isT "list" "tuple" = false := by decide
theorem isT_tuple_bool : isT "tuple" "bool" = false := by decide
theorem isT_tuple_int : isT "tuple" "int" = false := by decide
theorem isT_tuple_str : isT "tuple" "str" = false := by decide
theorem isT_tuple_list : isT "tuple" "list" = false := by decide
theorem isT_tuple_tuple : isT "tuple" "tuple" = true := by decide
/-! ### conditions -/
theorem lim64_by {i : Int} (h : i.natAbs < 18446744073709551616) : lim 64 i = true := lim_by h
theorem lim63_by {i : Int} (h : i.natAbs < 9223372036854775808) : lim 63 i = true := lim_by h
theorem fdiv_by {j : Int} (h : 0 < j) (k : j < 1073741824) : 0 < j ∧ j < 1073741824 := ⟨h, k⟩
theorem log_by {i : Int} (h : i.natAbs < 18446744073709551616) : i.natAbs.log2 < 1920 := by
  by_cases z : i.natAbs = 0
  · rw [z]; decide
  · have := (Nat.log2_lt (k := 64) z).mpr h
    omega
theorem dEqB_self {d : D} (h : Eqb 64 d) : dEqB d d = some true := dEqB_refl h
theorem Eqb64_int {n : Nat} {i : Int} : Eqb n (.int i) := Eqb.int n i
end DL

namespace LW
open PySem PySem.Spec PyProof.Rows DL
/-! MNames: names_in. -/
local macro_rules | `(tactic| walk_at "sz") => `(tactic| first | assumption | exact fdiv_by (by omega) (by omega) | omega | exact lim64_by (by omega) | exact okLe_by (by simp only [List.length_append, List.length_cons, List.length_nil, List.length_map]; omega) | exact okLt_by (by simp only [List.length_append, List.length_cons, List.length_nil, List.length_map]; omega) | exact mulOk_l (by assumption) | exact mulOk_r (by assumption) | exact mulOk_l (lim64_by (by omega)) | exact mulOk_r (lim64_by (by omega)) | exact log_by (by omega) | (refine Eqb.lst ?_; repeat (first | exact EqbL.nil _ | refine EqbL.cons (Eqb.int _ _) ?_)) | (refine Eqb.tup ?_; repeat (first | exact EqbL.nil _ | refine EqbL.cons (Eqb.int _ _) ?_)))
local macro_rules | `(tactic| walk_at "e2") => `(tactic| simp (disch := walk_at "sz") only [R.bind_ok, R.bind_bad, R.bind_exc, R.of_some, R.of_none, O.on_ok, O.on_bad, O.on_exc, fVar_0, fVar_s, fOwn_0, fOwn_s, fC_e, fU_e, fB_e, fNil_e, fCons_e, fL_e, fCall_e, fTup_e, fLst_e, rIf_t, rIf_f, fIf_e, tBl_e, fTest_e, fTru_e, fNotB_e, fAndB_e, fOrB_e, fVal_e, fAnd_e, fOr_e, fNo_e, tInt_e, fSome_e, fSl_e, fSlOw_e, fLenOw_e, fIxOw_e, fInOw_e, thn_nx, thn_rt, thn_bk, thn_ct, thn_exc, thn_bad, fSeq_e, oIf_t, oIf_f, oIf_exc, fIfS_e, fSkip_e, fRet_e, fExp_e, fSet_e, fNew_e, fApp_e, fExt_e, fPop_e, fPut_e, fFrz_e, frz_0o, frz_s, fFor_e, fItems_e, fRange_e, fAsg_e, oMat_e, fMatch_e, fAug_e, fin_rt, fin_nx, fin_exc, runD_e, pName_e, pNil_e, pCons_e, pTup_e, dAdd_ii, dAdd_ss, dAdd_ll, dAdd_tt, dSub_ii, dMul_ii, dMul_li, dFdiv_ii, dMod_ii, dNeg_i, dLt_ii, dLe_ii, dGt_ii, dGe_ii, dIx_l, dIx_t, dIx_c, dIx_s, dLen_l, dLen_t, dLen_c, dLen_s, dAbs_i, dMax2_ii, dMin2_ii, dInt_i, dStr_i, dStr_s, dList_l, dList_t, dTuple_l, dTuple_t, dCut_l, dCut_t, dItems_l, dItems_t, dItems_s, dRange_1, dRange_2, dIsN_e, dNotN_e, isNon_n, isNon_b, isNon_i, isNon_s, isNon_t, isNon_l, isNon_o, dIsi_n, dIsi_b, dIsi_i, dIsi_s, dIsi_t, dIsi_l, dIn_e, dNotIn_e, dEqB_ss, dEqB_ii, dInB_strs, dInB_strsT, dEq_e, dNe_e, beq_self_eq_true, List.set_cons_zero, List.set_cons_succ, List.length_cons, List.length_nil, List.length_map, List.length_append, Option.map_some, Option.map_none, Option.bind_some, Option.bind_none, if_true, if_false, ite_true, ite_false, decide_true, decide_false, and_self, true_and, and_true, Int.zero_add, Int.toNat_natCast, cut_tl, cut_all, List.map_append, List.map_cons, List.map_nil, List.nil_append, List.cons_append, List.append_nil, List.replicate, Int.reduceLT, Int.reduceLE, Int.reduceAdd, Int.reduceSub, Int.reduceMul, Int.reduceNeg, Int.reduceToNat, Nat.reduceAdd, Nat.reduceSub, Nat.reduceLT, Nat.reduceLeDiff, Nat.reduceMul, Int.reduceEq, Nat.reduceEqDiff, Bool.not_true, Bool.not_false, Bool.and_true, Bool.true_and, Bool.and_false, Bool.false_and, Bool.or_true, Bool.true_or, Bool.or_false, Bool.false_or, Bool.and_self, Bool.or_self, reduceCtorEq, decide_eq_true_eq, Bool.false_eq_true, fLc_e, fLcL_e, lcF_nil, fJoin_e, rJoin_e, dJoin_l, oPop_ok, oPop_2, oPop_1, cast_0, cast_1, cast_2, cast_3, at_0, at_1, at_2, at_3, at_4, at_5, at_6, Int.reduceBEq, Nat.reduceBEq, oApp_ok, oExt_ok, fProp_e, rProp_e, quiet_ok, dSlot_e, fMakeSK_e, rMakeN_e, rNum_e, gMrg_e, mrg_t, mrg_f, mrg_n, fMethF_e, rMethF_e, dIntS_i, dAddS_ii, dAddS_ss, dGcd_ii, dLcm_ii, dLcm_iii, dEqB_self, at_7, at_8, at_9, at_10, at_11, at_12, at_13, at_14, at_15, at_m1, cut_toL, cut_fromL, cut_btw, List.take_succ_cons, List.take_zero, List.drop_succ_cons, List.drop_zero, List.take_nil, List.drop_nil, isT_NoneType_bool, isT_NoneType_int, isT_NoneType_str, isT_NoneType_list, isT_NoneType_tuple, isT_bool_bool, isT_bool_int, isT_bool_str, isT_bool_list, isT_bool_tuple, isT_int_bool, isT_int_int, isT_int_str, isT_int_list, isT_int_tuple, isT_str_bool, isT_str_int, isT_str_str, isT_str_list, isT_str_tuple, isT_list_bool, isT_list_int, isT_list_str, isT_list_list, isT_list_tuple, isT_tuple_bool, isT_tuple_int, isT_tuple_str, isT_tuple_list, isT_tuple_tuple, fSlS_e, dPick_l, fRange3_e, dRange3_e, fLc2_e, fCallK_e, fCallO_e, rCallO_e, fBin_e, rBin_e, oStore_s, oAsg_e2, fDic0_e, fCallV_e, List.getElem?_cons_zero, List.getElem?_cons_succ, *])
local macro_rules | `(tactic| walk_at "ev") => `(tactic| simp only [R.bind_ok, R.bind_bad, R.bind_exc, R.of_some, R.of_none, O.on_ok, O.on_bad, O.on_exc, fVar_0, fVar_s, fOwn_0, fOwn_s, fC_e, fU_e, fB_e, fNil_e, fCons_e, fL_e, fCall_e, fTup_e, fLst_e, rIf_t, rIf_f, fIf_e, tBl_e, fTest_e, fTru_e, fNotB_e, fAndB_e, fOrB_e, fVal_e, fAnd_e, fOr_e, fNo_e, tInt_e, fSome_e, fSl_e, fSlOw_e, fLenOw_e, fIxOw_e, fInOw_e, thn_nx, thn_rt, thn_bk, thn_ct, thn_exc, thn_bad, fSeq_e, oIf_t, oIf_f, oIf_exc, fIfS_e, fSkip_e, fRet_e, fExp_e, fSet_e, fNew_e, fApp_e, fExt_e, fPop_e, fPut_e, fFrz_e, frz_0o, frz_s, fFor_e, fItems_e, fRange_e, fAsg_e, oMat_e, fMatch_e, fAug_e, fin_rt, fin_nx, fin_exc, runD_e, pName_e, pNil_e, pCons_e, pTup_e, dAdd_ii, dAdd_ss, dAdd_ll, dAdd_tt, dSub_ii, dMul_ii, dMul_li, dFdiv_ii, dMod_ii, dNeg_i, dLt_ii, dLe_ii, dGt_ii, dGe_ii, dIx_l, dIx_t, dIx_c, dIx_s, dLen_l, dLen_t, dLen_c, dLen_s, dAbs_i, dMax2_ii, dMin2_ii, dInt_i, dStr_i, dStr_s, dList_l, dList_t, dTuple_l, dTuple_t, dCut_l, dCut_t, dItems_l, dItems_t, dItems_s, dRange_1, dRange_2, dIsN_e, dNotN_e, isNon_n, isNon_b, isNon_i, isNon_s, isNon_t, isNon_l, isNon_o, dIsi_n, dIsi_b, dIsi_i, dIsi_s, dIsi_t, dIsi_l, dIn_e, dNotIn_e, dEqB_ss, dEqB_ii, dInB_strs, dInB_strsT, dEq_e, dNe_e, beq_self_eq_true, List.set_cons_zero, List.set_cons_succ, List.length_cons, List.length_nil, List.length_map, List.length_append, Option.map_some, Option.map_none, Option.bind_some, Option.bind_none, if_true, if_false, ite_true, ite_false, decide_true, decide_false, and_self, true_and, and_true, Int.zero_add, Int.toNat_natCast, cut_tl, cut_all, List.map_append, List.map_cons, List.map_nil, List.nil_append, List.cons_append, List.append_nil, List.replicate, Int.reduceLT, Int.reduceLE, Int.reduceAdd, Int.reduceSub, Int.reduceMul, Int.reduceNeg, Int.reduceToNat, Nat.reduceAdd, Nat.reduceSub, Nat.reduceLT, Nat.reduceLeDiff, Nat.reduceMul, Int.reduceEq, Nat.reduceEqDiff, Bool.not_true, Bool.not_false, Bool.and_true, Bool.true_and, Bool.and_false, Bool.false_and, Bool.or_true, Bool.true_or, Bool.or_false, Bool.false_or, Bool.and_self, Bool.or_self, reduceCtorEq, decide_eq_true_eq, Bool.false_eq_true, fLc_e, fLcL_e, lcF_nil, fJoin_e, rJoin_e, dJoin_l, oPop_ok, oPop_2, oPop_1, cast_0, cast_1, cast_2, cast_3, at_0, at_1, at_2, at_3, at_4, at_5, at_6, Int.reduceBEq, Nat.reduceBEq, oApp_ok, oExt_ok, fProp_e, rProp_e, quiet_ok, dSlot_e, fMakeSK_e, rMakeN_e, rNum_e, gMrg_e, mrg_t, mrg_f, mrg_n, fMethF_e, rMethF_e, dIntS_i, dAddS_ii, dAddS_ss, dGcd_ii, dLcm_ii, dLcm_iii, at_7, at_8, at_9, at_10, at_11, at_12, at_13, at_14, at_15, isT_NoneType_bool, isT_NoneType_int, isT_NoneType_str, isT_NoneType_list, isT_NoneType_tuple, isT_bool_bool, isT_bool_int, isT_bool_str, isT_bool_list, isT_bool_tuple, isT_int_bool, isT_int_int, isT_int_str, isT_int_list, isT_int_tuple, isT_str_bool, isT_str_int, isT_str_str, isT_str_list, isT_str_tuple, isT_list_bool, isT_list_int, isT_list_str, isT_list_list, isT_list_tuple, isT_tuple_bool, isT_tuple_int, isT_tuple_str, isT_tuple_list, isT_tuple_tuple, fSlS_e, dPick_l, fRange3_e, dRange3_e, fLc2_e, fCallK_e, fCallO_e, rCallO_e, fBin_e, rBin_e, oStore_s, oAsg_e2, fDic0_e, fCallV_e, List.getElem?_cons_zero, List.getElem?_cons_succ, *])
local macro_rules | `(tactic| walk_at "rd") => `(tactic| simp (disch := walk_at "sz") only [R.bind_ok, R.bind_bad, R.bind_exc, R.of_some, R.of_none, O.on_ok, O.on_bad, O.on_exc, fVar_0, fVar_s, fOwn_0, fOwn_s, fC_e, fU_e, fB_e, fNil_e, fCons_e, fL_e, fCall_e, fTup_e, fLst_e, rIf_t, rIf_f, fIf_e, tBl_e, fTest_e, fTru_e, fNotB_e, fAndB_e, fOrB_e, fVal_e, fAnd_e, fOr_e, fNo_e, tInt_e, fSome_e, fSl_e, fSlOw_e, fLenOw_e, fIxOw_e, fInOw_e, thn_nx, thn_rt, thn_bk, thn_ct, thn_exc, thn_bad, fSeq_e, oIf_t, oIf_f, oIf_exc, fIfS_e, fSkip_e, fRet_e, fExp_e, fSet_e, fNew_e, fApp_e, fExt_e, fPop_e, fPut_e, fFrz_e, frz_0o, frz_s, fFor_e, fItems_e, fRange_e, fAsg_e, oMat_e, fMatch_e, fAug_e, fin_rt, fin_nx, fin_exc, runD_e, pName_e, pNil_e, pCons_e, pTup_e, dAdd_ii, dAdd_ss, dAdd_ll, dAdd_tt, dSub_ii, dMul_ii, dMul_li, dFdiv_ii, dMod_ii, dNeg_i, dLt_ii, dLe_ii, dGt_ii, dGe_ii, dIx_l, dIx_t, dIx_c, dIx_s, dLen_l, dLen_t, dLen_c, dLen_s, dAbs_i, dMax2_ii, dMin2_ii, dInt_i, dStr_i, dStr_s, dList_l, dList_t, dTuple_l, dTuple_t, dCut_l, dCut_t, dItems_l, dItems_t, dItems_s, dRange_1, dRange_2, dIsN_e, dNotN_e, isNon_n, isNon_b, isNon_i, isNon_s, isNon_t, isNon_l, isNon_o, dIsi_n, dIsi_b, dIsi_i, dIsi_s, dIsi_t, dIsi_l, dIn_e, dNotIn_e, dEqB_ss, dEqB_ii, dInB_strs, dInB_strsT, dEq_e, dNe_e, beq_self_eq_true, List.set_cons_zero, List.set_cons_succ, List.length_cons, List.length_nil, List.length_map, List.length_append, Option.map_some, Option.map_none, Option.bind_some, Option.bind_none, if_true, if_false, ite_true, ite_false, decide_true, decide_false, and_self, true_and, and_true, Int.zero_add, Int.toNat_natCast, cut_tl, cut_all, List.map_append, List.map_cons, List.map_nil, List.nil_append, List.cons_append, List.append_nil, List.replicate, Int.reduceLT, Int.reduceLE, Int.reduceAdd, Int.reduceSub, Int.reduceMul, Int.reduceNeg, Int.reduceToNat, Nat.reduceAdd, Nat.reduceSub, Nat.reduceLT, Nat.reduceLeDiff, Nat.reduceMul, Int.reduceEq, Nat.reduceEqDiff, Bool.not_true, Bool.not_false, Bool.and_true, Bool.true_and, Bool.and_false, Bool.false_and, Bool.or_true, Bool.true_or, Bool.or_false, Bool.false_or, Bool.and_self, Bool.or_self, reduceCtorEq, decide_eq_true_eq, Bool.false_eq_true, fLc_e, fLcL_e, lcF_nil, fJoin_e, rJoin_e, dJoin_l, oPop_ok, oPop_2, oPop_1, cast_0, cast_1, cast_2, cast_3, at_0, at_1, at_2, at_3, at_4, at_5, at_6, Int.reduceBEq, Nat.reduceBEq, oApp_ok, oExt_ok, fProp_e, rProp_e, quiet_ok, dSlot_e, fMakeSK_e, rMakeN_e, rNum_e, gMrg_e, mrg_t, mrg_f, mrg_n, fMethF_e, rMethF_e, dIntS_i, dAddS_ii, dAddS_ss, dGcd_ii, dLcm_ii, dLcm_iii, dEqB_self, at_7, at_8, at_9, at_10, at_11, at_12, at_13, at_14, at_15, at_m1, cut_toL, cut_fromL, cut_btw, List.take_succ_cons, List.take_zero, List.drop_succ_cons, List.drop_zero, List.take_nil, List.drop_nil, isT_NoneType_bool, isT_NoneType_int, isT_NoneType_str, isT_NoneType_list, isT_NoneType_tuple, isT_bool_bool, isT_bool_int, isT_bool_str, isT_bool_list, isT_bool_tuple, isT_int_bool, isT_int_int, isT_int_str, isT_int_list, isT_int_tuple, isT_str_bool, isT_str_int, isT_str_str, isT_str_list, isT_str_tuple, isT_list_bool, isT_list_int, isT_list_str, isT_list_list, isT_list_tuple, isT_tuple_bool, isT_tuple_int, isT_tuple_str, isT_tuple_list, isT_tuple_tuple, fSlS_e, dPick_l, fRange3_e, dRange3_e, fLc2_e, fCallK_e, fCallO_e, rCallO_e, fBin_e, rBin_e, oStore_s, oAsg_e2, fDic0_e, fCallV_e, List.getElem?_cons_zero, List.getElem?_cons_succ, runM_e, finM_rt, finM_nx, self_r, fld_at, fld_depth, fld_toks, step_at, step_in, step_out, meth_number, meth_name, meth_name_list, meth_sign, meth_row, meth_arm, meth_part, meth_cut, meth_other, rmeth_r, fPure_e, fNilX_e, fConsX_e, fTupX_e, fRetX_e, fExpX_e, fSetX_e, fNewX_e, oAppX_e, fAppX_e, view_tok, *])
theorem loop_names1 {r : List D → R D} {x0 x2 : DS} : ∀ (ys acc : List Str) (s3 : DS), acc.length + ys.length ≤ 16777215 →
    ∃ s3', loopF (pName 3) (l1_names_in r) (ys.map .str) [x0, .ow (acc.map .str), x2, s3] = .nx [x0, .ow ((addN acc ys).map .str), x2, s3']
  | [], acc, s3, _ => ⟨s3, rfl⟩
  | y :: ys, acc, s3, hl => by
    rw [List.length_cons] at hl
    obtain ⟨s3', ih⟩ := loop_names1 (x0 := x0) (x2 := x2) ys (if y ∈ acc then acc else acc ++ [y]) (.fz (.str y)) (by split <;> first | omega | (simp only [List.length_append, List.length_cons, List.length_nil]; omega))
    refine ⟨s3', ?_⟩
    unfold addN
    rw [← ih]
    rw [List.map_cons]
    refine loopF_nx (put := pName 3) (d := .str y) (δ := [x0, .ow (acc.map .str), x2, s3]) (δ1 := [x0, .ow (acc.map .str), x2, .fz (.str y)]) rfl ?_
    have ok : okLt acc.length = true := okLt_by (by omega)
    clear ih
    unfold l1_names_in
    by_cases c : y ∈ acc
    · have dc : decide (y ∈ acc) = true := decide_eq_true c
      rw [if_pos c]
      walk_at "ev"
    · have dc : decide (y ∈ acc) = false := decide_eq_false c
      rw [if_neg c]
      walk_at "ev"
theorem nmsL_grow : ∀ (ts : List Trm) (acc : List Str), acc.length ≤ (nmsL acc ts).length
  | [], acc => by rw [nmsL_nil]; exact Nat.le_refl _
  | t :: ts, acc => by
    rw [nmsL_cons]
    exact Nat.le_trans (addN_len t.nms acc).1 (nmsL_grow ts _)
theorem loop_names2 {r : List D → R D} {x0 : DS} {B : Nat} (hB : B ≤ 8000000) : ∀ (ts : List Trm) (acc : List Str) (s2 s3 : DS), (∀ t ∈ ts, r [t.enc] = .ok (.lst (t.nms.map .str)) ∧ t.nms.length ≤ B) → (nmsL acc ts).length ≤ B →
    ∃ s2' s3', loopF (pName 2) (l2_names_in r) (encL ts) [x0, .ow (acc.map .str), s2, s3] = .nx [x0, .ow ((nmsL acc ts).map .str), s2', s3']
  | [], acc, s2, s3, _, _ => ⟨s2, s3, by rw [nmsL_nil]; rfl⟩
  | t :: ts, acc, s2, s3, h, hl => by
    rw [nmsL_cons] at hl
    obtain ⟨ht, ht2⟩ := h t List.mem_cons_self
    have g1 := nmsL_grow ts (addN acc t.nms)
    have g2 := (addN_len t.nms acc).1
    obtain ⟨s3a, lp⟩ := loop_names1 (r := r) (x0 := x0) (x2 := .fz t.enc) t.nms acc s3 (by omega)
    obtain ⟨s2', s3', ih⟩ := loop_names2 hB ts (addN acc t.nms) (.fz t.enc) s3a (fun u hu => h u (List.mem_cons_of_mem _ hu)) hl
    refine ⟨s2', s3', ?_⟩
    rw [nmsL_cons, ← ih]
    rw [encL_cons]
    refine loopF_nx (put := pName 2) (d := t.enc) (δ := [x0, .ow (acc.map .str), s2, s3]) (δ1 := [x0, .ow (acc.map .str), .fz t.enc, s3]) rfl ?_
    clear ih h
    unfold l2_names_in
    walk_at "ev"
theorem names_ok : ∀ (n : Nat) (t : Trm), t.dep < n → t.sz ≤ 8000000 → m_names_in n [t.enc] = .ok (.lst (t.nms.map .str))
  | 0, t, h, _ => absurd h (Nat.not_lt_zero _)
  | n + 1, .item i, h, _ => by
    rw [enc_item, nms_item]
    have e : L2.atI [D.str "item", .int i] 0 = some (.str "item") := rfl
    unfold m_names_in b_names_in
    walk_at "ev"
  | n + 1, .call f ts, h, hl => by
    rw [dep_call] at h
    rw [sz_call] at hl
    have e : L2.atI [D.str "call", .str f, .tup (encL ts)] 0 = some (.str "call") := rfl
    have e1 : L2.atI [D.str "call", .str f, .tup (encL ts)] 1 = some (.str f) := rfl
    have e2 : L2.atI [D.str "call", .str f, .tup (encL ts)] 2 = some (.tup (encL ts)) := rfl
    obtain ⟨s2, s3, lp⟩ := loop_names2 (r := m_names_in n) (x0 := .fz (.tup [.str "call", .str f, .tup (encL ts)])) (Nat.le_refl _) ts [f] .un .un (fun t ht => ⟨names_ok n t (by have := dep_mem t ht; omega) (by have := sz_mem t ht; omega), by have := sz_mem t ht; have := t.nms_sz; omega⟩) (by have := nmsL_sz ts [f]; simp only [List.length_cons, List.length_nil] at this; omega)
    rw [List.map_cons, List.map_nil] at lp
    clear h hl
    rw [enc_call, nms_call]
    have ic := item_ne_call
    unfold m_names_in b_names_in
    walk_at "ev"
/-! MCall: call, item. -/
local macro_rules | `(tactic| walk_at "rd") => `(tactic| simp (disch := walk_at "sz") only [R.bind_ok, R.bind_bad, R.bind_exc, R.of_some, R.of_none, O.on_ok, O.on_bad, O.on_exc, fVar_0, fVar_s, fOwn_0, fOwn_s, fC_e, fU_e, fB_e, fNil_e, fCons_e, fL_e, fCall_e, fTup_e, fLst_e, rIf_t, rIf_f, fIf_e, tBl_e, fTest_e, fTru_e, fNotB_e, fAndB_e, fOrB_e, fVal_e, fAnd_e, fOr_e, fNo_e, tInt_e, fSome_e, fSl_e, fSlOw_e, fLenOw_e, fIxOw_e, fInOw_e, thn_nx, thn_rt, thn_bk, thn_ct, thn_exc, thn_bad, fSeq_e, oIf_t, oIf_f, oIf_exc, fIfS_e, fSkip_e, fRet_e, fExp_e, fSet_e, fNew_e, fApp_e, fExt_e, fPop_e, fPut_e, fFrz_e, frz_0o, frz_s, fFor_e, fItems_e, fRange_e, fAsg_e, oMat_e, fMatch_e, fAug_e, fin_rt, fin_nx, fin_exc, runD_e, pName_e, pNil_e, pCons_e, pTup_e, dAdd_ii, dAdd_ss, dAdd_ll, dAdd_tt, dSub_ii, dMul_ii, dMul_li, dFdiv_ii, dMod_ii, dNeg_i, dLt_ii, dLe_ii, dGt_ii, dGe_ii, dIx_l, dIx_t, dIx_c, dIx_s, dLen_l, dLen_t, dLen_c, dLen_s, dAbs_i, dMax2_ii, dMin2_ii, dInt_i, dStr_i, dStr_s, dList_l, dList_t, dTuple_l, dTuple_t, dCut_l, dCut_t, dItems_l, dItems_t, dItems_s, dRange_1, dRange_2, dIsN_e, dNotN_e, isNon_n, isNon_b, isNon_i, isNon_s, isNon_t, isNon_l, isNon_o, dIsi_n, dIsi_b, dIsi_i, dIsi_s, dIsi_t, dIsi_l, dIn_e, dNotIn_e, dEqB_ss, dEqB_ii, dInB_strs, dInB_strsT, dEq_e, dNe_e, beq_self_eq_true, List.set_cons_zero, List.set_cons_succ, List.length_cons, List.length_nil, List.length_map, List.length_append, Option.map_some, Option.map_none, Option.bind_some, Option.bind_none, if_true, if_false, ite_true, ite_false, decide_true, decide_false, and_self, true_and, and_true, Int.zero_add, Int.toNat_natCast, cut_tl, cut_all, List.map_append, List.map_cons, List.map_nil, List.nil_append, List.cons_append, List.append_nil, List.replicate, Int.reduceLT, Int.reduceLE, Int.reduceAdd, Int.reduceSub, Int.reduceMul, Int.reduceNeg, Int.reduceToNat, Nat.reduceAdd, Nat.reduceSub, Nat.reduceLT, Nat.reduceLeDiff, Nat.reduceMul, Int.reduceEq, Nat.reduceEqDiff, Bool.not_true, Bool.not_false, Bool.and_true, Bool.true_and, Bool.and_false, Bool.false_and, Bool.or_true, Bool.true_or, Bool.or_false, Bool.false_or, Bool.and_self, Bool.or_self, reduceCtorEq, decide_eq_true_eq, Bool.false_eq_true, fLc_e, fLcL_e, lcF_nil, fJoin_e, rJoin_e, dJoin_l, oPop_ok, oPop_2, oPop_1, cast_0, cast_1, cast_2, cast_3, at_0, at_1, at_2, at_3, at_4, at_5, at_6, Int.reduceBEq, Nat.reduceBEq, oApp_ok, oExt_ok, fProp_e, rProp_e, quiet_ok, dSlot_e, fMakeSK_e, rMakeN_e, rNum_e, gMrg_e, mrg_t, mrg_f, mrg_n, fMethF_e, rMethF_e, dIntS_i, dAddS_ii, dAddS_ss, dGcd_ii, dLcm_ii, dLcm_iii, dEqB_self, at_7, at_8, at_9, at_10, at_11, at_12, at_13, at_14, at_15, at_m1, cut_toL, cut_fromL, cut_btw, List.take_succ_cons, List.take_zero, List.drop_succ_cons, List.drop_zero, List.take_nil, List.drop_nil, isT_NoneType_bool, isT_NoneType_int, isT_NoneType_str, isT_NoneType_list, isT_NoneType_tuple, isT_bool_bool, isT_bool_int, isT_bool_str, isT_bool_list, isT_bool_tuple, isT_int_bool, isT_int_int, isT_int_str, isT_int_list, isT_int_tuple, isT_str_bool, isT_str_int, isT_str_str, isT_str_list, isT_str_tuple, isT_list_bool, isT_list_int, isT_list_str, isT_list_list, isT_list_tuple, isT_tuple_bool, isT_tuple_int, isT_tuple_str, isT_tuple_list, isT_tuple_tuple, fSlS_e, dPick_l, fRange3_e, dRange3_e, fLc2_e, fCallK_e, fCallO_e, rCallO_e, fBin_e, rBin_e, oStore_s, oAsg_e2, fDic0_e, fCallV_e, List.getElem?_cons_zero, List.getElem?_cons_succ, runM_e, finM_rt, finM_nx, self_r, fld_at, fld_depth, fld_toks, step_at, step_in, step_out, meth_number, meth_name, meth_name_list, meth_sign, meth_row, meth_arm, meth_part, meth_cut, meth_other, rmeth_r, fPure_e, fNilX_e, fConsX_e, fTupX_e, fRetX_e, fExpX_e, fSetX_e, fNewX_e, oAppX_e, fAppX_e, view_tok, *])
theorem call_ok {x : Str} {as : List D} (h : as.length ≤ 1000) : m_call (.str x :: as) = .ok (.tup [.str "call", .str x, .tup as]) := by
  have e : starD 1 2 b_call (.str x :: as) = runD 2 b_call ((.str x :: as).take 1 ++ [.tup ((.str x :: as).drop 1)]) := starD_e (Nat.succ_le_succ (Nat.zero_le _)) (okLe_by (by rw [List.length_cons]; omega))
  unfold m_call
  rw [e]
  rfl
theorem item_ok {i : Int} : m_item [.int i] = .ok (.tup [.str "item", .int i]) := rfl
end LW
/-! MStr: texts of numbers; comprehensions over ranges; slices with a step. -/
namespace DL
open PySem PySem.Spec PyProof.Rows
theorem loopF_ct {put : FP} {body : FS} {d : D} {ds : List D} {δ δ1 δ2 : DSt} (h1 : put δ d = some δ1) (h2 : body δ1 = .ct δ2) : loopF put body (d :: ds) δ = loopF put body ds δ2 := by
  show (match put δ d with | none => O.bad | some δ1 => _) = _
  rw [h1]
  simp only [h2]
theorem sok_of (s : String) : Sok (Str.ofString s) := by
  rw [PySem.Str.ofString_eq_toList]
  show Array.all _ _ = true
  rw [← Array.all_toList]
  refine List.all_eq_true.mpr fun n hn => ?_
  obtain ⟨c, _, rfl⟩ := List.mem_map.mp hn
  refine decide_eq_true ?_
  have := c.valid
  show c.val.toNat < 0x110000
  rcases this with h | h
  · have : c.val.toNat < 0xd800 := h
    omega
  · exact h.2
theorem sok_int (i : Int) : Sok (Str.ofString (toString i)) := sok_of _
theorem sok_lit (s : String) : Sok (s : Str) := sok_of s
theorem log_lt' {n k : Nat} (h : n < 2 ^ (k + 1)) : n.log2 < k + 1 := by
  by_cases z : n = 0
  · subst z; simp
  · exact (Nat.log2_lt z).mpr h
theorem len_int {i : Int} (h : i.natAbs < 18446744073709551616) : (Str.ofString (toString i)).length ≤ 65 := by
  rw [PySem.ofString_length]
  exact Nat.le_trans (PySem.int_text_length_le (k := 64) (by decide) (log_lt' (k := 63) h)) (by decide)
/-- a comprehension over 0, .., n - 1 -/
theorem lc_range {i : Nat} {f : FE} {δ : DSt} {n : Nat} {h : Nat → D} (hf : ∀ k, k < n → f (δ.set i (.fz (.int (0 + (k : Nat))))) = .ok (h k)) (hn : n ≤ 16777215) : lcF i fYes f δ (dInts 0 n) [] = .ok ((List.range n).map h) := by
  have := lcF_all (i := i) (f := f) (δ := δ) (g := fun k : Nat => D.int (0 + (k : Int))) (h := h) (xs := List.range n) (acc := []) (fun k hk => hf k (List.mem_range.mp hk)) (by rw [List.length_range]; simpa using hn)
  simpa [dInts] using this
/-- a comprehension over lo, .., lo + n - 1 -/
theorem lc_rangeL {i : Nat} {f : FE} {δ : DSt} {lo : Int} {n : Nat} {h : Nat → D} (hf : ∀ k, k < n → f (δ.set i (.fz (.int (lo + (k : Nat))))) = .ok (h k)) (hn : n ≤ 16777215) : lcF i fYes f δ (dInts lo n) [] = .ok ((List.range n).map h) := by
  have := lcF_all (i := i) (f := f) (δ := δ) (g := fun k : Nat => D.int (lo + (k : Int))) (h := h) (xs := List.range n) (acc := []) (fun k hk => hf k (List.mem_range.mp hk)) (by rw [List.length_range]; simpa using hn)
  simpa [dInts] using this
theorem at_range {h : Nat → D} {n : Nat} {i : Int} (h0 : 0 ≤ i) (h1 : i < n) : L2.atI ((List.range n).map h) i = some (h i.toNat) := by
  obtain ⟨k, rfl⟩ := Int.eq_ofNat_of_zero_le h0
  have hk : k < n := by omega
  exact L2.atI_nat (j := k) (by simp [hk])
theorem pick_ix {α : Type} (xs : List α) (g : Nat → Nat) (n : Nat) (hg : ∀ k, k < n → g k < xs.length) : ((List.range n).map g).filterMap (xs[·]?) = (List.range n).filterMap fun k => xs[g k]? := by
  rw [List.filterMap_map]
  rfl
theorem pick_rev {α : Type} (xs : List α) : pickG xs none none (some (-1)) = xs.reverse := by
  unfold pickG stIx
  rw [PySem.W.krv_bounds, PySem.W.krv_sliceRange, PySem.W.krv_range, List.filterMap_reverse]
  refine congrArg List.reverse ?_
  refine List.ext_getElem? fun k => ?_
  have e : (List.range xs.length).filterMap (xs[·]?) = xs := by
    have h := PySem.W.krv_all xs.toArray
    simpa using h
  rw [e]
end DL

/-! DEvl: evaluation of mirrors by rules: each goal is `term = result`, the result is found by the rule. -/
namespace DL
open PySem PySem.Spec PyProof.Rows
/-- the result d is the value asked for -/
def Is {α : Type} (r : R α) (v : α) : Prop := r = .ok v
theorem Is.mk {α : Type} {r : R α} {d v : α} (h : r = .ok d) (k : d = v) : Is r v := k ▸ h
theorem Is.get {α : Type} {r : R α} {v : α} (h : Is r v) : r = .ok v := h
def SetA (δ : DSt) (i : Nat) (s : DS) (δ' : DSt) : Prop := δ.set i s = δ'
theorem set_0 {a s : DS} {r : DSt} : SetA (a :: r) 0 s (s :: r) := rfl
theorem set_s {a s : DS} {r r' : DSt} {i : Nat} (h : SetA r i s r') : SetA (a :: r) (i + 1) s (a :: r') := by
  unfold SetA at *
  rw [List.set_cons_succ, h]
structure IsAt (f : FE) (δ : DSt) (i : Nat) (s : DS) (v : D) : Prop where
  get : f (δ.set i s) = .ok v
theorem IsAt.mk' {f : FE} {δ δ' : DSt} {i : Nat} {s : DS} {d v : D} (h1 : SetA δ i s δ') (h2 : f δ' = .ok d) (h3 : d = v) : IsAt f δ i s v := ⟨by
  unfold SetA at h1
  rw [h1, h2, h3]⟩
structure TsAt (f : FB) (δ : DSt) (i : Nat) (s : DS) (v : Bool) : Prop where
  get : f (δ.set i s) = .ok v
theorem TsAt.mk' {f : FB} {δ δ' : DSt} {i : Nat} {s : DS} {d v : Bool} (h1 : SetA δ i s δ') (h2 : f δ' = .ok d) (h3 : d = v) : TsAt f δ i s v := ⟨by
  unfold SetA at h1
  rw [h1, h2, h3]⟩
theorem isR {α : Type} {r s : R α} (h : r = s) : r = s := h
theorem isS {α : Type} {r s : Option α} (h : r = s) : r = s := h
theorem isO {r s : O} (h : r = s) : r = s := h
theorem hyp_T {b : Bool} (h : b = true) : b = true := h
theorem hyp_F {b : Bool} (h : b = false) : b = false := h
theorem hyp_ok {α : Type} {r : R α} {v : α} (h : r = .ok v) : r = .ok v := h
theorem hyp_exc {α : Type} {r : R α} {n : Str} {xs : List D} (h : r = .exc n xs) : r = .exc n xs := h
theorem hyp_so {α : Type} {r : Option α} {v : α} (h : r = some v) : r = some v := h
theorem hyp_e {n : Nat} {d : D} (h : Eqb n d) : Eqb n d := h
theorem hyp_o {r v : O} (h : r = v) : r = v := h
/-! expressions -/
section
variable {f g : FE} {fl : FL} {δ δ' : DSt} {x y z d : D} {ds xs es : List D} {b c : Bool} {s : DS} {i : Nat} {t u : FB}
theorem v_C : fC d δ = .ok d := rfl
theorem v_var0 {r : DSt} : fVar 0 (.fz d :: r) = .ok d := rfl
theorem v_varS {r : DSt} (h : fVar i r = .ok d) : fVar (i + 1) (s :: r) = .ok d := h
theorem v_own0 {r : DSt} : fOwn 0 (.ow ds :: r) = .ok ds := rfl
theorem v_ownS {r : DSt} (h : fOwn i r = .ok ds) : fOwn (i + 1) (s :: r) = .ok ds := h
theorem v_U {F : D → Option D} (h : f δ = .ok x) (k : F x = some y) : fU F f δ = .ok y := by rw [fU_e, h, R.bind_ok, k]; rfl
theorem v_B {F : D → D → Option D} (h : f δ = .ok x) (k : g δ = .ok y) (l : F x y = some z) : fB F f g δ = .ok z := by rw [fB_e, h, R.bind_ok, k, R.bind_ok, l]; rfl
theorem v_Nil : fNil δ = .ok [] := rfl
theorem v_Cons (h : f δ = .ok x) (k : fl δ = .ok xs) : fCons f fl δ = .ok (x :: xs) := by rw [fCons_e, h, R.bind_ok, k]; rfl
theorem v_L {F : List D → Option D} (h : fl δ = .ok xs) (k : F xs = some y) : fL F fl δ = .ok y := by rw [fL_e, h, R.bind_ok, k]; rfl
theorem v_Call {F : List D → R D} (h : fl δ = .ok xs) (k : F xs = .ok y) : fCall F fl δ = .ok y := by rw [fCall_e, h]; exact k
theorem v_Tup (h : fl δ = .ok xs) : fTup fl δ = .ok (.tup xs) := by rw [fTup_e, h]; rfl
theorem v_Lst (h : fl δ = .ok xs) : fLst fl δ = .ok (.lst xs) := by rw [fLst_e, h]; rfl
theorem v_IfT (h : t δ = .ok b) (hb : b = true) (k : f δ = .ok x) : fIf t f g δ = .ok x := by subst hb; rw [fIf_e, h]; exact k
theorem v_IfF (h : t δ = .ok b) (hb : b = false) (k : g δ = .ok x) : fIf t f g δ = .ok x := by subst hb; rw [fIf_e, h]; exact k
/-- by a test that is not decided here -/
def mrgD (b : Bool) (x y z : D) : Prop := (if b = true then x else y) = z
theorem mrg_i {i j : Int} : mrgD b (.int i) (.int j) (.int (if b = true then i else j)) := by unfold mrgD; split <;> rfl
theorem mrg_l : mrgD b (.lst xs) (.lst es) (.lst (if b = true then xs else es)) := by unfold mrgD; split <;> rfl
theorem mrg_d : mrgD b x y (if b = true then x else y) := rfl
theorem v_IfB (h : t δ = .ok b) (k : b = true → f δ = .ok x) (l : b = false → g δ = .ok y) (m : mrgD b x y z) : fIf t f g δ = .ok z := by
  unfold mrgD at m
  subst m
  rw [fIf_e, h]
  cases b with
  | true => exact k rfl
  | false => exact l rfl
theorem v_Test (h : f δ = .ok (.bl b)) : fTest f δ = .ok b := by rw [fTest_e, h]; rfl
theorem v_TruB (h : f δ = .ok (.bl b)) : fTru f δ = .ok b := by rw [fTru_e, h]; rfl
theorem v_TruL (h : f δ = .ok (.lst xs)) : fTru f δ = .ok (!xs.isEmpty) := by rw [fTru_e, h]; rfl
theorem v_TruT (h : f δ = .ok (.tup xs)) : fTru f δ = .ok (!xs.isEmpty) := by rw [fTru_e, h]; rfl
theorem v_NotB (h : t δ = .ok b) : fNotB t δ = .ok (!b) := by rw [fNotB_e, h]; rfl
theorem v_AndF (h : t δ = .ok b) (hb : b = false) : fAndB t u δ = .ok false := by subst hb; rw [fAndB_e, h]; rfl
theorem v_And (h : t δ = .ok b) (k : b = true → u δ = .ok c) : fAndB t u δ = .ok (b && c) := by
  rw [fAndB_e, h]
  cases b with
  | true => exact k rfl
  | false => rfl
theorem v_OrT (h : t δ = .ok b) (hb : b = true) : fOrB t u δ = .ok true := by subst hb; rw [fOrB_e, h]; rfl
theorem v_Or (h : t δ = .ok b) (k : b = false → u δ = .ok c) : fOrB t u δ = .ok (b || c) := by
  rw [fOrB_e, h]
  cases b with
  | true => rfl
  | false => exact k rfl
theorem v_Val (h : t δ = .ok b) : fVal t δ = .ok (.bl b) := by rw [fVal_e, h]; rfl
theorem v_AndE (h : f δ = .ok (.bl b)) (k : b = true → g δ = .ok (.bl c)) : fAnd f g δ = .ok (.bl (b && c)) := by
  rw [fAnd_e, h]
  cases b with
  | true => exact k rfl
  | false => rfl
theorem v_OrE (h : f δ = .ok (.bl b)) (k : b = false → g δ = .ok (.bl c)) : fOr f g δ = .ok (.bl (b || c)) := by
  rw [fOr_e, h]
  cases b with
  | true => rfl
  | false => exact k rfl
theorem v_No : fNo δ = .ok none := rfl
theorem v_Some {n : Int} (h : f δ = .ok (.int n)) : fSome f δ = .ok (some n) := by rw [fSome_e, h]; rfl
theorem v_Sl {l h : FO} {lo hi : Option Int} (h1 : f δ = .ok x) (h2 : l δ = .ok lo) (h3 : h δ = .ok hi) (k : dCut x lo hi = some y) : fSl f l h δ = .ok y := by rw [fSl_e, h1, R.bind_ok, h2, R.bind_ok, h3, R.bind_ok, k]; rfl
theorem v_SlOw {l h : FO} {lo hi : Option Int} (h1 : fOwn i δ = .ok ds) (h2 : l δ = .ok lo) (h3 : h δ = .ok hi) : fSlOw i l h δ = .ok (.lst (cut ds lo hi)) := by rw [fSlOw_e, h1, R.bind_ok, h2, R.bind_ok, h3]; rfl
theorem v_LenOw (h1 : fOwn i δ = .ok ds) : fLenOw i δ = .ok (.int ds.length) := by rw [fLenOw_e, h1]; rfl
theorem v_IxOw (h1 : fOwn i δ = .ok ds) (h2 : f δ = .ok d) (k : dIx (.lst ds) d = some y) : fIxOw i f δ = .ok y := by rw [fIxOw_e, h1, R.bind_ok, h2, R.bind_ok, k]; rfl
theorem v_InOwT (h1 : f δ = .ok d) (h2 : fOwn i δ = .ok ds) (k : dInB d (.lst ds) = some b) : fInOw true f i δ = .ok (.bl (!b)) := by rw [fInOw_e, h1, R.bind_ok, h2, R.bind_ok, k]; rfl
theorem v_InOwF (h1 : f δ = .ok d) (h2 : fOwn i δ = .ok ds) (k : dInB d (.lst ds) = some b) : fInOw false f i δ = .ok (.bl b) := by rw [fInOw_e, h1, R.bind_ok, h2, R.bind_ok, k]; rfl
theorem v_InOw {neg : Bool} (h1 : f δ = .ok d) (h2 : fOwn i δ = .ok ds) (k : dInB d (.lst ds) = some b) : fInOw neg f i δ = .ok (.bl (if neg then !b else b)) := by rw [fInOw_e, h1, R.bind_ok, h2, R.bind_ok, k]; rfl
theorem v_Items (h : f δ = .ok d) (k : dItems d = some xs) : fItems f δ = .ok xs := by rw [fItems_e, h, R.bind_ok, k]; rfl
theorem v_Range (h : fl δ = .ok ds) (k : dRange ds = some xs) : fRange fl δ = .ok xs := by rw [fRange_e, h, R.bind_ok, k]; rfl
theorem v_Range3 (h : fl δ = .ok ds) (k : dRange3 ds = some xs) : fRange3 fl δ = .ok xs := by rw [fRange3_e, h, R.bind_ok, k]; rfl
theorem v_Lc {fi : FL} (h : fi δ = .ok ds) (k : lcF i t f δ ds [] = .ok es) : fLc fi i t f δ = .ok (.lst es) := by rw [fLc_e, h, R.bind_ok, k]; rfl
theorem v_LcL {fi : FL} (h : fi δ = .ok ds) (k : lcF i t f δ ds [] = .ok es) : fLcL fi i t f δ = .ok es := by rw [fLcL_e, h, R.bind_ok, k]
theorem v_Lc2 {fi fi1 : FL} {i1 : Nat} {t1 : FB} (h : fi δ = .ok ds) (l : SetA δ i1 .un δ') (k : lc2F i t fi1 i1 t1 f δ' ds [] = .ok es) : fLc2 fi i t fi1 i1 t1 f δ = .ok (.lst es) := by
  unfold SetA at l
  subst l
  rw [fLc2_e, h, R.bind_ok, k]; rfl
theorem v_Join {a : Str} (h : f δ = .ok (.str a)) (k : g δ = .ok y) (l : dJoin a y = some z) : fJoin f g δ = .ok z := by rw [fJoin_e, h, R.bind_ok, rJoin_e, k, R.bind_ok, l]; rfl
theorem v_Prop {cl : Str} {G : List D → R D} (h : f δ = .ok (.obj cl xs)) (k : G [.obj cl xs] = .ok y) : fProp cl G f δ = .ok y := by rw [fProp_e, h, R.bind_ok, rProp_e, k]; rfl
theorem v_MethF {cl : Str} {G : List D → R D} (h : f δ = .ok (.obj cl xs)) (l : fl δ = .ok ds) (k : G (.obj cl xs :: ds) = .ok y) : fMethF cl G f fl δ = .ok y := by rw [fMethF_e, h, R.bind_ok, rMethF_e, l, R.bind_ok, k]
theorem v_CallO {cl : Str} {G : List D → R D} (h : f δ = .ok (.obj cl xs)) (l : fl δ = .ok ds) (k : G (.obj cl xs :: ds) = .ok y) : fCallO cl G f fl δ = .ok y := by rw [fCallO_e, h, R.bind_ok, rCallO_e, l, R.bind_ok, k]
theorem v_MakeSK {cl : Str} {n : Nat} {gD : List D → List D} (h : fl δ = .ok xs) (k : rMakeSK cl n gD xs = .ok y) : fMakeSK cl n gD fl δ = .ok y := by rw [fMakeSK_e, h, R.bind_ok, k]
theorem v_Bin {cl : Str} {G : List D → R D} (h : f δ = .ok (.obj cl xs)) (l : g δ = .ok (.obj cl ds)) (k : G [.obj cl xs, .obj cl ds] = .ok y) : fBin cl G f g δ = .ok y := by rw [fBin_e, h, R.bind_ok, l, R.bind_ok, rBin_e, k]
theorem v_CallK {ks : List Str} {G : List D → R D} {fk : FL} (h : fl δ = .ok ds) (l : fk δ = .ok es) (k : G (ds ++ [.dic (ks.map Sum.inr) es]) = .ok y) : fCallK ks G fl fk δ = .ok y := by
  rw [fCallK_e, h, R.bind_ok, l, R.bind_ok]; exact k
theorem v_CallK2 {G : List D → R D} {fk : FL} {a e : D} (h : fl δ = .ok [a, e]) (l : fk δ = .ok []) (k : G [a, e, .dic [] []] = .ok y) : fCallK [] G fl fk δ = .ok y := v_CallK h l k
theorem v_Dic0 : fDic0 δ = .ok (.dic [] []) := rfl
theorem v_CallV {tb : Tb} {G : List D → R D} (h : fVar i δ = .ok d) (k : tbOf tb d = some G) (l : fl δ = .ok ds) (m : G ds = .ok y) : fCallV tb i fl δ = .ok y := by
  rw [fCallV_e, h, R.bind_ok, k, R.of_some, R.bind_ok, l, R.bind_ok, m]
theorem v_SlS {l h : FO} {lo hi : Option Int} (h1 : f δ = .ok x) (h2 : l δ = .ok lo) (h3 : h δ = .ok hi) (h4 : g δ = .ok y) (k : dPick x lo hi y = some z) : fSlS f l h g δ = .ok z := by rw [fSlS_e, h1, R.bind_ok, h2, R.bind_ok, h3, R.bind_ok, h4, R.bind_ok, k]; rfl
end
/-! comprehensions -/
section
variable {f : FE} {δ : DSt} {i : Nat} {t : FB}
theorem v_lc_nil {acc : List D} : lcF i t f δ [] acc = .ok acc := rfl
theorem v_lc_rangeN {n : Nat} {h : Nat → D} (hf : ∀ k, k < n → IsAt f δ i (.fz (.int (k : Nat))) (h k)) (hn : n ≤ 16777215) : lcF i fYes f δ (dInts 0 n) [] = .ok ((List.range n).map h) := lc_range (fun k hk => by
  have := (hf k hk).get
  rw [Int.zero_add]
  exact this) hn
theorem v_lc_range {lo : Int} {n : Nat} {h : Nat → D} (hf : ∀ k, k < n → IsAt f δ i (.fz (.int (lo + (k : Nat)))) (h k)) (hn : n ≤ 16777215) : lcF i fYes f δ (dInts lo n) [] = .ok ((List.range n).map h) := lc_rangeL (fun k hk => (hf k hk).get) hn
theorem v_lc_map {α : Type} {xs : List α} {g h : α → D} (hf : ∀ x, x ∈ xs → IsAt f δ i (.fz (g x)) (h x)) (hn : xs.length ≤ 16777215) : lcF i fYes f δ (xs.map g) [] = .ok (xs.map h) := by
  have := lcF_all (i := i) (f := f) (δ := δ) (g := g) (h := h) (xs := xs) (acc := []) (fun x hx => (hf x hx).get) (by simpa using hn)
  simpa using this
theorem v_lc_all {xs : List D} {h : D → D} (hf : ∀ x, x ∈ xs → IsAt f δ i (.fz x) (h x)) (hn : xs.length ≤ 16777215) : lcF i fYes f δ xs [] = .ok (xs.map h) := by
  have := v_lc_map (i := i) (f := f) (δ := δ) (g := fun x : D => x) (h := h) (xs := xs) hf hn
  simpa using this
/-- written items -/
theorem v_lc_c1 {a y : D} (h : IsAt f δ i (.fz a) y) : lcF i fYes f δ [a] [] = .ok [y] := by
  rw [lcF_yes (e := y) rfl h.get (okLt_by (by decide))]; rfl
theorem v_lc_c2 {a b y z : D} (h : IsAt f δ i (.fz a) y) (k : IsAt f δ i (.fz b) z) : lcF i fYes f δ [a, b] [] = .ok [y, z] := by
  rw [lcF_yes (e := y) rfl h.get (okLt_by (by decide)), lcF_yes (e := z) rfl k.get (okLt_by (by simp))]; rfl
theorem v_lc_c3 {a b c x y z : D} (h : IsAt f δ i (.fz a) x) (k : IsAt f δ i (.fz b) y) (l : IsAt f δ i (.fz c) z) : lcF i fYes f δ [a, b, c] [] = .ok [x, y, z] := by
  rw [lcF_yes (e := x) rfl h.get (okLt_by (by decide)), lcF_yes (e := y) rfl k.get (okLt_by (by simp)), lcF_yes (e := z) rfl l.get (okLt_by (by simp))]; rfl
theorem lc_flt {α : Type} {g h : α → D} {p : α → Bool} : ∀ {xs : List α} {acc : List D}, (∀ x ∈ xs, t (δ.set i (.fz (g x))) = .ok (p x)) → (∀ x ∈ xs, p x = true → f (δ.set i (.fz (g x))) = .ok (h x)) → acc.length + xs.length ≤ 16777215 → lcF i t f δ (xs.map g) acc = .ok (acc ++ (xs.filter p).map h)
  | [], acc, _, _, _ => by simp [lcF]
  | x :: xs, acc, ht, hf, hl => by
    rw [List.length_cons] at hl
    cases e : p x with
    | true =>
      have := lc_flt (g := g) (h := h) (p := p) (xs := xs) (acc := acc ++ [h x]) (fun y hy => ht y (List.mem_cons_of_mem _ hy)) (fun y hy => hf y (List.mem_cons_of_mem _ hy)) (by rw [List.length_append, List.length_singleton]; omega)
      rw [List.map_cons, lcF_yes (by rw [ht x List.mem_cons_self, e]) (hf x List.mem_cons_self e) (okLt_by (by omega)), this]
      simp [e]
    | false =>
      have := lc_flt (g := g) (h := h) (p := p) (xs := xs) (acc := acc) (fun y hy => ht y (List.mem_cons_of_mem _ hy)) (fun y hy => hf y (List.mem_cons_of_mem _ hy)) (by omega)
      rw [List.map_cons, lcF_no (by rw [ht x List.mem_cons_self, e]), this]
      simp [e]
theorem v_lc_fltN {n : Nat} {h : Nat → D} {p : Nat → Bool} (ht : ∀ k, k < n → TsAt t δ i (.fz (.int (k : Nat))) (p k)) (hf : ∀ k, k < n → p k = true → IsAt f δ i (.fz (.int (k : Nat))) (h k)) (hn : n ≤ 16777215) : lcF i t f δ (dInts 0 n) [] = .ok (((List.range n).filter p).map h) := by
  have := lc_flt (i := i) (f := f) (t := t) (δ := δ) (g := fun k : Nat => D.int (0 + (k : Int))) (h := h) (p := p) (xs := List.range n) (acc := []) (fun k hk => by rw [Int.zero_add]; exact (ht k (List.mem_range.mp hk)).get) (fun k hk e => by rw [Int.zero_add]; exact (hf k (List.mem_range.mp hk) e).get) (by rw [List.length_range]; simpa using hn)
  simpa [dInts] using this
theorem v_lc_fltM {α : Type} {xs : List α} {g h : α → D} {p : α → Bool} (ht : ∀ x, x ∈ xs → TsAt t δ i (.fz (g x)) (p x)) (hf : ∀ x, x ∈ xs → p x = true → IsAt f δ i (.fz (g x)) (h x)) (hn : xs.length ≤ 16777215) : lcF i t f δ (xs.map g) [] = .ok ((xs.filter p).map h) := by
  have := lc_flt (i := i) (f := f) (t := t) (δ := δ) (g := g) (h := h) (p := p) (xs := xs) (acc := []) (fun k hk => (ht k hk).get) (fun k hk e => (hf k hk e).get) (by simpa using hn)
  simpa using this
end
/-! statements -/
section
variable {F G : FS} {f g : FE} {fl : FL} {δ δ' δ'' : DSt} {x y z d : D} {ds xs es : List D} {b c : Bool} {i j m : Nat} {t : FB} {o o' : O}
theorem v_Seq (h : F δ = o) (k : o.thn G = o') : fSeq F G δ = o' := by rw [fSeq_e, h, k]
theorem v_thn_nx (h : G δ = o) : (O.nx δ).thn G = o := h
theorem v_thn_rt : (O.rt d δ).thn G = .rt d δ := rfl
theorem v_thn_bk : (O.bk δ).thn G = .bk δ := rfl
theorem v_thn_ct : (O.ct δ).thn G = .ct δ := rfl
theorem v_thn_exc {n : Str} : (O.exc n xs).thn G = .exc n xs := rfl
def oIfB (b : Bool) (F G : FS) (δ : DSt) : O := match b with
  | true => F δ
  | false => G δ
theorem v_IfS (h : t δ = .ok b) (k : oIfB b F G δ = o) : fIfS t F G δ = o := by
  rw [fIfS_e, h]
  cases b <;> exact k
theorem v_ifT (h : b = true) (k : F δ = o) : oIfB b F G δ = o := by subst h; exact k
theorem v_ifF (h : b = false) (k : G δ = o) : oIfB b F G δ = o := by subst h; exact k
theorem v_Skip : fSkip δ = .nx δ := rfl
theorem v_Ret (h : f δ = .ok d) : fRet f δ = .rt d δ := by rw [fRet_e, h]; rfl
theorem v_Exp (h : f δ = .ok d) : fExp f δ = .nx δ := by rw [fExp_e, h]; rfl
theorem v_Set (h : f δ = .ok d) (k : SetA δ i (.fz d) δ') : fSet i f δ = .nx δ' := by
  unfold SetA at k
  rw [fSet_e, h, O.on_ok, k]
theorem v_New (h : fl δ = .ok ds) (k : SetA δ i (.ow ds) δ') : fNew i fl δ = .nx δ' := by
  unfold SetA at k
  rw [fNew_e, h, O.on_ok, k]
theorem v_App (h : fOwn i δ = .ok ds) (k : f δ = .ok d) (l : okLt ds.length = true) (q : SetA δ i (.ow (ds ++ [d])) δ') : fApp i f δ = .nx δ' := by
  unfold SetA at q
  rw [fApp_e, h, O.on_ok, k, O.on_ok, oApp_ok l, q]
theorem v_Ext (h : fOwn i δ = .ok ds) (k : f δ = .ok (.lst es)) (l : okLe (ds.length + es.length) = true) (q : SetA δ i (.ow (ds ++ es)) δ') : fExt i f δ = .nx δ' := by
  unfold SetA at q
  rw [fExt_e, h, O.on_ok, k, O.on_ok, oExt_ok l, q]
theorem v_Frz (k : fOwn i δ = .ok ds) (q : SetA δ i (.fz (.lst ds)) δ') (l : F δ' = o) : fFrz i F δ = o := by
  unfold SetA at q
  rw [fFrz_e]
  have : frz i δ = δ' := by
    unfold fOwn at k
    unfold frz
    split at k
    · rename_i e
      cases k
      rw [e]
      exact q
    · cases k
  rw [this, l]
theorem v_For {fi : FL} {put : FP} (h : fi δ = .ok ds) (k : loopF put F ds δ = o) : fFor fi put F δ = o := by rw [fFor_e, h, O.on_ok, k]
theorem v_loop_nil {put : FP} : loopF put F [] δ = .nx δ := rfl
/-- what a loop does behind one turn -/
def lnx (put : FP) (F : FS) (ds : List D) : O → O
  | .nx δ => loopF put F ds δ
  | .ct δ => loopF put F ds δ
  | .bk δ => .nx δ
  | .rt d δ => .rt d δ
  | .exc n xs => .exc n xs
  | .bad => .bad
theorem v_loop_cons {put : FP} {o2 : O} (h1 : put δ d = some δ') (h2 : F δ' = o) (h3 : lnx put F ds o = o2) : loopF put F (d :: ds) δ = o2 := by
  unfold loopF
  rw [h1]
  dsimp only
  rw [h2]
  cases o <;> exact h3
theorem v_lnx_nx {put : FP} (h : loopF put F ds δ = o) : lnx put F ds (.nx δ) = o := h
theorem v_lnx_ct {put : FP} (h : loopF put F ds δ = o) : lnx put F ds (.ct δ) = o := h
theorem v_lnx_bk {put : FP} : lnx put F ds (.bk δ) = .nx δ := rfl
theorem v_lnx_rt {put : FP} : lnx put F ds (.rt d δ) = .rt d δ := rfl
theorem v_lnx_exc {put : FP} {n : Str} : lnx put F ds (.exc n xs) = .exc n xs := rfl
theorem o_by {r v : O} (h : r = o) (k : o = v) : r = v := k ▸ h
theorem r_by {r v : R D} {w : R D} (h : r = w) (k : w = v) : r = v := k ▸ h
theorem v_Raise1 {n : Str} (h : fl δ = .ok [d]) : fRaise n fl δ = .exc n [d] := by unfold fRaise; rw [h]; rfl
theorem v_Raise2 {n : Str} {a b : D} (h : fl δ = .ok [a, b]) : fRaise n fl δ = .exc n [b, a] := by unfold fRaise; rw [h]; rfl
theorem v_Asg {p : FP} (h : f δ = .ok d) (k : p δ d = some δ') : fAsg p f δ = .nx δ' := by rw [fAsg_e, h, O.on_ok]; unfold oAsg; rw [k]
theorem v_Match {M : Str → FS} {w : Str} (h : f δ = .ok (.str w)) (k : M w δ = o) : fMatch f M δ = o := by rw [fMatch_e, h, O.on_ok, oMat_e, k]
theorem v_iteFz {p : Prop} [Decidable p] {w : Str} {M : Str → FS} (h : ¬ p) (k : M w δ = o) : (if p then F else M w) δ = o := by rw [if_neg h, k]
theorem v_iteT {p : Prop} [Decidable p] (h : p) (k : F δ = o) : (if p then F else G) δ = o := by rw [if_pos h, k]
theorem v_iteF {p : Prop} [Decidable p] (h : ¬ p) (k : G δ = o) : (if p then F else G) δ = o := by rw [if_neg h, k]
theorem v_Aug {P : D → D → Option D} (h : fVar i δ = .ok x) (k : f δ = .ok y) (l : P x y = some z) (q : SetA δ i (.fz z) δ') : fAug P i f δ = .nx δ' := by
  unfold SetA at q
  rw [fAug_e, h, O.on_ok, k, O.on_ok, l, R.of_some, O.on_ok, q]
/-! targets -/
theorem v_pName (q : SetA δ i (.fz d) δ') : pName i δ d = some δ' := by
  unfold SetA at q
  rw [pName_e, q]
theorem v_pNil : pNil δ [] = some δ := rfl
theorem v_pCons {p : FP} {ps : FPs} (h : p δ d = some δ') (k : ps δ' ds = some δ'') : pCons p ps δ (d :: ds) = some δ'' := by rw [pCons_e, h]; exact k
theorem v_pTup {ps : FPs} {n : Nat} (h : ds.length = n) (k : ps δ ds = some δ') : pTup n ps δ (.tup ds) = some δ' := by rw [pTup_e, if_pos h, k]
theorem v_pTup2 {ps : FPs} {a b : D} (k : ps δ [a, b] = some δ') : pTup 2 ps δ (.tup [a, b]) = some δ' := v_pTup rfl k
theorem v_pTup3 {ps : FPs} {a b c : D} (k : ps δ [a, b, c] = some δ') : pTup 3 ps δ (.tup [a, b, c]) = some δ' := v_pTup rfl k
theorem v_pTup4 {ps : FPs} {a b c d : D} (k : ps δ [a, b, c, d] = some δ') : pTup 4 ps δ (.tup [a, b, c, d]) = some δ' := v_pTup rfl k
/-! runs -/
def Ini (m : Nat) (ds : List D) (δ : DSt) : Prop := ds.map DS.fz ++ List.replicate (m - ds.length) DS.un = δ
theorem ini_0 : Ini 0 [] [] := rfl
theorem ini_u (h : Ini m [] δ) : Ini (m + 1) [] (.un :: δ) := by
  unfold Ini at *
  rw [← h]
  simp [List.replicate]
theorem ini_c (h : Ini m ds δ) : Ini (m + 1) (d :: ds) (.fz d :: δ) := by
  unfold Ini at *
  rw [← h]
  simp
theorem v_run {r : R D} (h : Ini m ds δ) (k : F δ = o) (l : o.fin = r) : runD m F ds = r := by
  unfold Ini at h
  rw [runD_e, h, k, l]
theorem v_fin_rt : (O.rt d δ).fin = .ok d := rfl
theorem v_fin_rt2 {d' : D} (h : d = d') : (O.rt d δ).fin = .ok d' := by rw [h]; rfl
theorem bl_eqT (h : b = true) : D.bl b = D.bl true := by rw [h]
theorem bl_eqF (h : b = false) : D.bl b = D.bl false := by rw [h]
/-- both ways, where they differ in values alone -/
inductive MrgS (b : Bool) : DSt → DSt → DSt → Prop
  | nil : MrgS b [] [] []
  | same {s : DS} {r1 r2 r3 : DSt} : MrgS b r1 r2 r3 → MrgS b (s :: r1) (s :: r2) (s :: r3)
  | fz {x y z : D} {r1 r2 r3 : DSt} : mrgD b x y z → MrgS b r1 r2 r3 → MrgS b (.fz x :: r1) (.fz y :: r2) (.fz z :: r3)
  | un {x y : DS} {r1 r2 r3 : DSt} : MrgS b r1 r2 r3 → MrgS b (x :: r1) (y :: r2) ((if b = true then x else y) :: r3)
theorem MrgS.eq : ∀ {b : Bool} {δ1 δ2 δ3 : DSt}, MrgS b δ1 δ2 δ3 → δ3 = if b = true then δ1 else δ2
  | b, _, _, _, .nil => by cases b <;> rfl
  | b, _, _, _, .same h => by
    have := h.eq
    cases b <;> simp_all
  | b, _, _, _, .fz m h => by
    have := h.eq
    unfold mrgD at m
    subst m
    cases b <;> simp_all
  | b, _, _, _, .un h => by
    have := h.eq
    cases b <;> simp_all
theorem v_ifM (h : b = true → F δ = .nx δ') (k : b = false → G δ = .nx δ'') {δ3 : DSt} (l : MrgS b δ' δ'' δ3) : oIfB b F G δ = .nx δ3 := by
  rw [l.eq]
  cases b with
  | true => exact h rfl
  | false => exact k rfl
theorem v_ifSet (h : b = true → f δ = .ok x) (k : fVar i δ = .ok y) (m : mrgD b x y z) (q : SetA δ i (.fz z) δ') : oIfB b (fSet i f) fSkip δ = .nx δ' := by
  cases b with
  | true => exact v_Set (h rfl) (by unfold mrgD at m; rw [if_pos rfl] at m; rw [m]; exact q)
  | false =>
    unfold mrgD at m
    rw [if_neg (by decide)] at m
    subst m
    refine congrArg O.nx ?_
    have : ∀ {i : Nat} {δ δ' : DSt}, fVar i δ = .ok y → SetA δ i (.fz y) δ' → δ = δ' := by
      intro i
      induction i with
      | zero =>
        intro δ δ' h1 h2
        cases δ with
        | nil => cases h1
        | cons s r =>
          cases s <;> first | (cases h1; exact h2) | cases h1
      | succ i ih =>
        intro δ δ' h1 h2
        cases δ with
        | nil => cases h1
        | cons s r =>
          unfold SetA at h2
          rw [List.set_cons_succ] at h2
          rw [← h2]
          exact congrArg _ (ih h1 rfl)
    exact this k q
theorem v_ifSet2 (h : b = true → f δ = .ok x) (k : b = false → g δ = .ok y) (m : mrgD b x y z) (q : SetA δ i (.fz z) δ') : oIfB b (fSet i f) (fSet i g) δ = .nx δ' := by
  unfold mrgD at m
  subst m
  cases b with
  | true => exact v_Set (h rfl) q
  | false => exact v_Set (k rfl) q
/-- lengths of texts -/
def Sh (n : Nat) (s : Str) : Prop := s.length ≤ n
theorem sh_app {n m : Nat} {s t : Str} (h : Sh n s) (k : Sh m t) : Sh (n + m) (s ++ t) := by
  unfold Sh at *
  rw [PySem.Str.length_append]
  omega
theorem sh_num {i : Int} (h : i.natAbs < 18446744073709551616) : Sh 65 (Str.ofString (toString i)) := len_int h
theorem sh_lit {s : String} : Sh s.length (Str.ofString s) := by
  unfold Sh
  rw [PySem.ofString_length]
  exact Nat.le_refl _
theorem sh_hyp {n : Nat} {s : Str} (h : s.length ≤ n) : Sh n s := h
theorem sh_hyp2 {n : Nat} {s : Str} (h : Sh n s) : Sh n s := h
theorem okS {n m : Nat} {s t : Str} (h : Sh n s) (k : Sh m t) (l : n + m ≤ 16777216) : okLe (s.length + t.length) = true := okLe_by (by unfold Sh at *; omega)
theorem okS1 {n : Nat} {s : Str} (h : Sh n s) (l : n ≤ 16777216) : okLe s.length = true := okLe_by (by unfold Sh at *; omega)
theorem v_fin_nx : (O.nx δ).fin = .ok .non := rfl
theorem v_fin_exc {n : Str} : (O.exc n xs).fin = .exc n xs := rfl
end
theorem eqD_refl {d : D} : d = d := rfl
theorem eqB_refl {d : Bool} : d = d := rfl
theorem eqO_refl {α : Type} {d : Option α} : d = d := rfl
/-! operators -/
section
variable {d e x y : D} {xs ys : List D} {b : Bool} {i j k : Int}
theorem w_dEq (h : dEqB x y = some b) : dEq x y = some (.bl b) := by rw [dEq_e, h]; rfl
theorem w_dNe (h : dEqB x y = some b) : dNe x y = some (.bl (!b)) := by rw [dNe_e, h]; rfl
theorem w_dIn (h : dInB x y = some b) : dIn x y = some (.bl b) := by rw [dIn_e, h]; rfl
theorem w_dNotIn (h : dInB x y = some b) : dNotIn x y = some (.bl (!b)) := by rw [dNotIn_e, h]; rfl
theorem w_self (h : Eqb 64 x) (e : x = y) : dEqB x y = some true := by subst e; exact dEqB_refl h
theorem w_selfL (h : Eqb 64 (.lst ys)) (e : xs = ys) : dEqB (.lst xs) (.lst ys) = some true := by subst e; exact dEqB_refl h
theorem w_selfT (h : Eqb 64 (.tup ys)) (e : xs = ys) : dEqB (.tup xs) (.tup ys) = some true := by subst e; exact dEqB_refl h
theorem eqL_refl {l : List D} : l = l := rfl
theorem w_ixl (h : L2.atI xs i = some d) : dIx (.lst xs) (.int i) = some d := h
theorem w_ixt (h : L2.atI xs i = some d) : dIx (.tup xs) (.int i) = some d := h
theorem w_ixc (h : L2.atI xs i = some d) : dIx (.scr xs) (.int i) = some d := h
theorem w_len_l {n : Nat} (h : xs.length = n) : dLen [.lst xs] = some (.int n) := by rw [dLen_l, h]
theorem w_len_t {n : Nat} (h : xs.length = n) : dLen [.tup xs] = some (.int n) := by rw [dLen_t, h]
theorem w_max : dMax2 [.int i, .int j] = some (.int (max i j)) := by
  rw [dMax2_ii, Int.max_def]
  congr 2
  split <;> split <;> omega
theorem w_min : dMin2 [.int i, .int j] = some (.int (min i j)) := by
  rw [dMin2_ii, Int.min_def]
  congr 2
  split <;> split <;> omega
theorem w_range1 {n : Nat} (h : small62 n = true) : dRange [.int (n : Nat)] = some (dInts 0 n) := by rw [dRange_1 h, Int.toNat_natCast]
theorem w_mrg {cl : Str} {n : Nat} {m : List Bool} {is : List Int} {zs es : List D} (h : mrg m (is.map .int) zs = es) (k : es.length = n) : rMakeSK cl n (gMrg m is) zs = .ok (.obj cl es) := rMakeSK_e (by rw [gMrg_e, h]) k
theorem w_rangeL {n : Nat} (h : Nat.blt n 4611686018427387904 = true) : dRange [.int (@OfNat.ofNat Int n (@instOfNat n))] = some (dInts 0 n) := by
  have : (@OfNat.ofNat Int n (@instOfNat n)) = (n : Int) := rfl
  rw [this, dRange_1 (small62_by (by have := Nat.blt_eq.mp h; omega)), Int.toNat_natCast]
theorem w_fdiv (h : 0 < j) (g : lim 64 j = true) : dFdiv (.int i) (.int j) = some (.int (i / j)) := dFdiv_w h (lim_by (Nat.lt_of_lt_of_le (Nat.blt_eq.mp g) (Nat.pow_le_pow_right (by decide) (by decide))))
theorem w_mk {cl : Str} {n : Nat} {m : List Bool} {is : List Int} {zs es : List D} (h : mrg m (is.map .int) zs = es) (k : es.length = n) : rMakeSK cl n (gMrg m is) zs = .ok (.obj cl es) := rMakeSK_e (by rw [gMrg_e, h]) k
theorem mk_8 {cl : Str} {a0 a1 a2 a3 a4 a5 a6 a7 : D} : rMakeSK cl 8 (gMrg [true, true, true, true, true, true, true, true] []) [a0, a1, a2, a3, a4, a5, a6, a7] = .ok (.obj cl [a0, a1, a2, a3, a4, a5, a6, a7]) := rfl
theorem mk_0 {cl : Str} : rMakeSK cl 8 (gMrg [false, false, false, false, false, false, false, false] [1, 1, 1, 0, 1, 1, 1, 1]) [] = .ok (.obj cl [.int 1, .int 1, .int 1, .int 0, .int 1, .int 1, .int 1, .int 1]) := rfl
theorem mk_1 {cl : Str} {a : D} : rMakeSK cl 8 (gMrg [false, false, false, true, false, false, false, false] [1, 1, 1, 1, 1, 1, 1]) [a] = .ok (.obj cl [.int 1, .int 1, .int 1, a, .int 1, .int 1, .int 1, .int 1]) := rfl
theorem mk_2 {cl : Str} {a b : D} : rMakeSK cl 8 (gMrg [false, false, false, true, false, true, false, false] [1, 1, 1, 1, 1, 1]) [a, b] = .ok (.obj cl [.int 1, .int 1, .int 1, a, .int 1, b, .int 1, .int 1]) := rfl
theorem w_isC {cl : Str} {xs : List D} : dIsC cl (.obj cl xs) = some (.bl true) := if_pos rfl
theorem w_slot {cl : Str} {n : Nat} {xs : List D} {d : D} (h : xs[n]? = some d) : dSlot cl n (.obj cl xs) = some d := by rw [dSlot_e, h]
theorem get_0 {a : D} {r : List D} : (a :: r)[0]? = some a := rfl
theorem get_s {a d : D} {r : List D} {n : Nat} (h : r[n]? = some d) : (a :: r)[n + 1]? = some d := by rw [List.getElem?_cons_succ, h]
theorem fld_P0 {x y z : D} : dFld "Program" "_numbers" (.obj "Program" [x, y, z]) = some x := by kernel_rfl
theorem fld_P1 {x y z : D} : dFld "Program" "_parts" (.obj "Program" [x, y, z]) = some y := by kernel_rfl
theorem fld_P2 {x y z : D} : dFld "Program" "_texts" (.obj "Program" [x, y, z]) = some z := by kernel_rfl
theorem fld_U {x : D} : dFld "Undoer" "program" (.obj "Undoer" [x]) = some x := by kernel_rfl
theorem fld_F0 {x y z w : D} : dFld "Forms" "program" (.obj "Forms" [x, y, z, w]) = some x := by kernel_rfl
theorem fld_F1 {x y z w : D} : dFld "Forms" "start" (.obj "Forms" [x, y, z, w]) = some y := by kernel_rfl
theorem fld_F2 {x y z w : D} : dFld "Forms" "modulus" (.obj "Forms" [x, y, z, w]) = some z := by kernel_rfl
theorem fld_F3 {x y z w : D} : dFld "Forms" "period" (.obj "Forms" [x, y, z, w]) = some w := by kernel_rfl
theorem small_by {i : Int} (h : i.natAbs < 4611686018427387904) : small62 i = true := Nat.blt_eq.mpr h
/-- draws, lists over ranges -/
theorem w_at_range {h : Nat → D} {n k : Nat} (hk : k < n) : L2.atI ((List.range n).map h) (k : Int) = some (h k) := L2.atI_nat (j := k) (by simp [hk])
theorem EqbL.map {α : Type} {n : Nat} {xs : List α} {h : α → D} (k : ∀ x, x ∈ xs → Eqb n (h x)) : EqbL n (xs.map h) := .of fun d hd => by
  obtain ⟨x, hx, rfl⟩ := List.mem_map.mp hd
  exact k x hx
theorem tk_range {h : Nat → D} {n c : Nat} : ((List.range n).map h).take c = (List.range (min c n)).map h := by
  rw [← List.map_take, List.take_range]
theorem dp_range {h : Nat → D} {n c : Nat} : ((List.range n).map h).drop c = (List.range (n - c)).map fun k => h (c + k) := by
  refine List.ext_getElem? fun k => ?_
  rw [List.getElem?_drop, List.getElem?_map, List.getElem?_map]
  by_cases g : c + k < n
  · rw [List.getElem?_range g, List.getElem?_range (by omega)]
    rfl
  · rw [List.getElem?_eq_none (by simp; omega), List.getElem?_eq_none (by simp; omega)]
    rfl
theorem w_at_rangeI {h : Nat → D} {n : Nat} {i : Int} (h0 : 0 ≤ i) (h1 : i < n) : L2.atI ((List.range n).map h) i = some (h i.toNat) := at_range h0 h1
end
end DL

/-! DEvx: rules of evaluation where an error is raised, and of try. -/
namespace DL
open PySem PySem.Spec PyProof.Rows
def OX (o : O) (n : Str) (xs : List D) : Prop := o = .exc n xs
def RX {α : Type} (r : R α) (n : Str) (xs : List D) : Prop := r = .exc n xs
section
variable {F G : FS} {f g : FE} {fl fk : FL} {δ δ' δ'' : DSt} {x y z d : D} {ds xs es : List D} {b c : Bool} {i j m : Nat} {t : FB} {o o' : O} {n : Str} {H : List D → R D}
theorem ox_hyp (h : o = .exc n xs) : OX o n xs := h
theorem rx_hyp {α : Type} {r : R α} (h : r = .exc n xs) : RX r n xs := h
theorem OX.e (h : OX o n xs) : o = .exc n xs := h
theorem RX.e {α : Type} {r : R α} (h : RX r n xs) : r = .exc n xs := h
theorem ox_Seq1 (h : OX (F δ) n xs) : OX (fSeq F G δ) n xs := by unfold OX at *; rw [fSeq_e, h]; rfl
theorem ox_Seq2 (h : F δ = .nx δ') (k : OX (G δ') n xs) : OX (fSeq F G δ) n xs := by unfold OX at *; rw [fSeq_e, h]; exact k
theorem ox_IfS (h : t δ = .ok b) (k : OX (oIfB b F G δ) n xs) : OX (fIfS t F G δ) n xs := v_IfS h k
theorem ox_ifT (h : b = true) (k : OX (F δ) n xs) : OX (oIfB b F G δ) n xs := by subst h; exact k
theorem ox_ifF (h : b = false) (k : OX (G δ) n xs) : OX (oIfB b F G δ) n xs := by subst h; exact k
theorem ox_Set (h : RX (f δ) n xs) : OX (fSet i f δ) n xs := by unfold OX RX at *; rw [fSet_e, h]; rfl
theorem ox_Ret (h : RX (f δ) n xs) : OX (fRet f δ) n xs := by unfold OX RX at *; rw [fRet_e, h]; rfl
theorem ox_Exp (h : RX (f δ) n xs) : OX (fExp f δ) n xs := by unfold OX RX at *; rw [fExp_e, h]; rfl
theorem ox_New (h : RX (fl δ) n xs) : OX (fNew i fl δ) n xs := by unfold OX RX at *; rw [fNew_e, h]; rfl
theorem ox_App (h : fOwn i δ = .ok ds) (k : RX (f δ) n xs) : OX (fApp i f δ) n xs := by unfold OX RX at *; rw [fApp_e, h, O.on_ok, k]; rfl
theorem ox_Ext (h : fOwn i δ = .ok ds) (k : RX (f δ) n xs) : OX (fExt i f δ) n xs := by unfold OX RX at *; rw [fExt_e, h, O.on_ok, k]; rfl
theorem ox_Frz (k : fOwn i δ = .ok ds) (q : SetA δ i (.fz (.lst ds)) δ') (l : OX (F δ') n xs) : OX (fFrz i F δ) n xs := v_Frz k q l
theorem ox_For {fi : FL} {put : FP} (h : fi δ = .ok ds) (k : OX (loopF put F ds δ) n xs) : OX (fFor fi put F δ) n xs := v_For h k
theorem ox_ForI {fi : FL} {put : FP} (h : RX (fi δ) n xs) : OX (fFor fi put F δ) n xs := by unfold OX RX at *; rw [fFor_e, h]; rfl
theorem ox_Raise1 (h : fl δ = .ok [d]) : OX (fRaise n fl δ) n [d] := v_Raise1 h
theorem ox_Raise2 {a b : D} (h : fl δ = .ok [a, b]) : OX (fRaise n fl δ) n [b, a] := v_Raise2 h
theorem ox_Match {M : Str → FS} {w : Str} (h : f δ = .ok (.str w)) (k : OX (M w δ) n xs) : OX (fMatch f M δ) n xs := v_Match h k
theorem ox_iteFz {p : Prop} [Decidable p] {w : Str} {M : Str → FS} (h : ¬ p) (k : OX (M w δ) n xs) : OX ((if p then F else M w) δ) n xs := by rw [if_neg h]; exact k
theorem ox_iteT {p : Prop} [Decidable p] (h : p) (k : OX (F δ) n xs) : OX ((if p then F else G) δ) n xs := by rw [if_pos h]; exact k
theorem ox_iteF {p : Prop} [Decidable p] (h : ¬ p) (k : OX (G δ) n xs) : OX ((if p then F else G) δ) n xs := by rw [if_neg h]; exact k
theorem ox_Asg {p : FP} (h : RX (f δ) n xs) : OX (fAsg p f δ) n xs := by unfold OX RX at *; rw [fAsg_e, h]; rfl
theorem rx_run (h : Ini m ds δ) (k : OX (F δ) n xs) : RX (runD m F ds) n xs := v_run h k rfl
theorem rx_Call (h : fl δ = .ok ds) (k : RX (H ds) n xs) : RX (fCall H fl δ) n xs := by unfold RX at *; rw [fCall_e, h, R.bind_ok, k]
theorem rx_CallA (h : RX (fl δ) n xs) : RX (fCall H fl δ) n xs := by unfold RX at *; rw [fCall_e, h]; rfl
theorem rx_CallK {ks : List Str} (h : fl δ = .ok ds) (l : fk δ = .ok es) (k : RX (H (ds ++ [.dic (ks.map Sum.inr) es])) n xs) : RX (fCallK ks H fl fk δ) n xs := by unfold RX at *; rw [fCallK_e, h, R.bind_ok, l, R.bind_ok]; exact k
theorem rx_CallK2 {a e : D} (h : fl δ = .ok [a, e]) (l : fk δ = .ok []) (k : RX (H [a, e, .dic [] []]) n xs) : RX (fCallK [] H fl fk δ) n xs := rx_CallK h l k
theorem rx_Cons1 (h : RX (f δ) n xs) : RX (fCons f fl δ) n xs := by unfold RX at *; rw [fCons_e, h]; rfl
theorem rx_Cons2 (h : f δ = .ok d) (k : RX (fl δ) n xs) : RX (fCons f fl δ) n xs := by unfold RX at *; rw [fCons_e, h, R.bind_ok, k]; rfl
theorem rx_Lst (h : RX (fl δ) n xs) : RX (fLst fl δ) n xs := by unfold RX at *; rw [fLst_e, h]; rfl
theorem rx_Tup (h : RX (fl δ) n xs) : RX (fTup fl δ) n xs := by unfold RX at *; rw [fTup_e, h]; rfl
theorem rx_L {P : List D → Option D} (h : RX (fl δ) n xs) : RX (fL P fl δ) n xs := by unfold RX at *; rw [fL_e, h]; rfl
theorem rx_U {P : D → Option D} (h : RX (f δ) n xs) : RX (fU P f δ) n xs := by unfold RX at *; rw [fU_e, h]; rfl
theorem rx_B1 {P : D → D → Option D} (h : RX (f δ) n xs) : RX (fB P f g δ) n xs := by unfold RX at *; rw [fB_e, h]; rfl
theorem rx_B2 {P : D → D → Option D} (h : f δ = .ok d) (k : RX (g δ) n xs) : RX (fB P f g δ) n xs := by unfold RX at *; rw [fB_e, h, R.bind_ok, k]; rfl
theorem rx_PropF {cl : Str} (h : RX (f δ) n xs) : RX (fProp cl H f δ) n xs := by unfold RX at *; rw [fProp_e, h]; rfl
theorem rx_MethFo {cl : Str} (h : RX (f δ) n xs) : RX (fMethF cl H f fl δ) n xs := by unfold RX at *; rw [fMethF_e, h]; rfl
/-! try -/
theorem v_Try {hs : List HM} (h : F δ = o) (k : tryO hs δ o = o') : fTry F hs δ = o' := by unfold fTry; rw [h, k]
theorem v_tryNx {hs : List HM} : tryO hs δ (.nx δ') = .nx δ' := rfl
theorem v_tryRt {hs : List HM} : tryO hs δ (.rt d δ') = .rt d δ' := rfl
theorem v_tryX {hs : List HM} (k : fHs hs n xs δ = o) : tryO hs δ (.exc n xs) = o := k
def HsIs (p : Str → Option Bool) (n : Str) (b : Bool) : Prop := p n = some b
theorem hsIs_by {p : Str → Option Bool} {b : Bool} (h : p n = some b) : HsIs p n b := h
theorem v_HsT {p : Str → Option Bool} {G : Str → List D → FS} {r : List HM} (h : HsIs p n true) (k : G n xs δ = o) : fHs ((p, G) :: r) n xs δ = o := by
  unfold fHs
  dsimp only
  rw [show p n = some true from h]
  exact k
theorem v_HsF {p : Str → Option Bool} {G : Str → List D → FS} {r : List HM} (h : HsIs p n false) (k : fHs r n xs δ = o) : fHs ((p, G) :: r) n xs δ = o := by
  unfold fHs
  dsimp only
  rw [show p n = some false from h]
  exact k
theorem v_HsN : fHs [] n xs δ = .exc n xs := rfl
def AtD (δ : DSt) (i : Nat) : Prop := i < δ.length
theorem atD_0 {s : DS} {r : DSt} : AtD (s :: r) 0 := Nat.succ_pos _
theorem atD_s {s : DS} {r : DSt} {k : Nat} (h : AtD r k) : AtD (s :: r) (k + 1) := Nat.succ_lt_succ h
theorem v_As {δ1 δ2 : DSt} (l : AtD δ i) (h : SetA δ i .un δ1) (k : F δ1 = .nx δ2) (q : SetA δ2 i .un δ') : fAs i F δ = .nx δ' := by
  unfold AtD at l
  unfold SetA at *
  unfold fAs
  rw [List.getElem?_eq_getElem l]
  dsimp only
  rw [h, k]
  dsimp only
  rw [q]
theorem fl_Missing : fldOf "MissingName" "name" [d] = .ok d := by kernel_rfl
theorem fl_Mixed : fldOf "MixedName" "name" [d] = .ok d := by kernel_rfl
theorem fl_Bad : fldOf "BadText" "place" [d] = .ok d := by kernel_rfl
theorem fl_Large : fldOf "TooLarge" "what" [d] = .ok d := by kernel_rfl
theorem fl_Range : fldOf "OutOfRange" "number" [d] = .ok d := by kernel_rfl
end
end DL

namespace LW
open PySem PySem.Spec PyProof.Rows DL
/-! M01a: _law_once. -/
local macro_rules | `(tactic| walk_at "sz") => `(tactic| first | assumption | exact fdiv_by (by omega) (by omega) | omega | exact lim64_by (by omega) | exact okLe_by (by simp only [List.length_append, List.length_cons, List.length_nil, List.length_map]; omega) | exact okLt_by (by simp only [List.length_append, List.length_cons, List.length_nil, List.length_map]; omega) | exact mulOk_l (by assumption) | exact mulOk_r (by assumption) | exact mulOk_l (lim64_by (by omega)) | exact mulOk_r (lim64_by (by omega)) | exact log_by (by omega) | (refine Eqb.lst ?_; repeat (first | exact EqbL.nil _ | refine EqbL.cons (Eqb.int _ _) ?_)) | (refine Eqb.tup ?_; repeat (first | exact EqbL.nil _ | refine EqbL.cons (Eqb.int _ _) ?_)))
local macro_rules | `(tactic| walk_at "e2") => `(tactic| simp (disch := walk_at "sz") only [R.bind_ok, R.bind_bad, R.bind_exc, R.of_some, R.of_none, O.on_ok, O.on_bad, O.on_exc, fVar_0, fVar_s, fOwn_0, fOwn_s, fC_e, fU_e, fB_e, fNil_e, fCons_e, fL_e, fCall_e, fTup_e, fLst_e, rIf_t, rIf_f, fIf_e, tBl_e, fTest_e, fTru_e, fNotB_e, fAndB_e, fOrB_e, fVal_e, fAnd_e, fOr_e, fNo_e, tInt_e, fSome_e, fSl_e, fSlOw_e, fLenOw_e, fIxOw_e, fInOw_e, thn_nx, thn_rt, thn_bk, thn_ct, thn_exc, thn_bad, fSeq_e, oIf_t, oIf_f, oIf_exc, fIfS_e, fSkip_e, fRet_e, fExp_e, fSet_e, fNew_e, fApp_e, fExt_e, fPop_e, fPut_e, fFrz_e, frz_0o, frz_s, fFor_e, fItems_e, fRange_e, fAsg_e, oMat_e, fMatch_e, fAug_e, fin_rt, fin_nx, fin_exc, runD_e, pName_e, pNil_e, pCons_e, pTup_e, dAdd_ii, dAdd_ss, dAdd_ll, dAdd_tt, dSub_ii, dMul_ii, dMul_li, dFdiv_ii, dMod_ii, dNeg_i, dLt_ii, dLe_ii, dGt_ii, dGe_ii, dIx_l, dIx_t, dIx_c, dIx_s, dLen_l, dLen_t, dLen_c, dLen_s, dAbs_i, dMax2_ii, dMin2_ii, dInt_i, dStr_i, dStr_s, dList_l, dList_t, dTuple_l, dTuple_t, dCut_l, dCut_t, dItems_l, dItems_t, dItems_s, dRange_1, dRange_2, dIsN_e, dNotN_e, isNon_n, isNon_b, isNon_i, isNon_s, isNon_t, isNon_l, isNon_o, dIsi_n, dIsi_b, dIsi_i, dIsi_s, dIsi_t, dIsi_l, dIn_e, dNotIn_e, dEqB_ss, dEqB_ii, dInB_strs, dInB_strsT, dEq_e, dNe_e, beq_self_eq_true, List.set_cons_zero, List.set_cons_succ, List.length_cons, List.length_nil, List.length_map, List.length_append, Option.map_some, Option.map_none, Option.bind_some, Option.bind_none, if_true, if_false, ite_true, ite_false, decide_true, decide_false, and_self, true_and, and_true, Int.zero_add, Int.toNat_natCast, cut_tl, cut_all, List.map_append, List.map_cons, List.map_nil, List.nil_append, List.cons_append, List.append_nil, List.replicate, Int.reduceLT, Int.reduceLE, Int.reduceAdd, Int.reduceSub, Int.reduceMul, Int.reduceNeg, Int.reduceToNat, Nat.reduceAdd, Nat.reduceSub, Nat.reduceLT, Nat.reduceLeDiff, Nat.reduceMul, Int.reduceEq, Nat.reduceEqDiff, Bool.not_true, Bool.not_false, Bool.and_true, Bool.true_and, Bool.and_false, Bool.false_and, Bool.or_true, Bool.true_or, Bool.or_false, Bool.false_or, Bool.and_self, Bool.or_self, reduceCtorEq, decide_eq_true_eq, Bool.false_eq_true, fLc_e, fLcL_e, lcF_nil, fJoin_e, rJoin_e, dJoin_l, oPop_ok, oPop_2, oPop_1, cast_0, cast_1, cast_2, cast_3, at_0, at_1, at_2, at_3, at_4, at_5, at_6, Int.reduceBEq, Nat.reduceBEq, oApp_ok, oExt_ok, fProp_e, rProp_e, quiet_ok, dSlot_e, fMakeSK_e, rMakeN_e, rNum_e, gMrg_e, mrg_t, mrg_f, mrg_n, fMethF_e, rMethF_e, dIntS_i, dAddS_ii, dAddS_ss, dGcd_ii, dLcm_ii, dLcm_iii, dEqB_self, at_7, at_8, at_9, at_10, at_11, at_12, at_13, at_14, at_15, at_m1, cut_toL, cut_fromL, cut_btw, List.take_succ_cons, List.take_zero, List.drop_succ_cons, List.drop_zero, List.take_nil, List.drop_nil, isT_NoneType_bool, isT_NoneType_int, isT_NoneType_str, isT_NoneType_list, isT_NoneType_tuple, isT_bool_bool, isT_bool_int, isT_bool_str, isT_bool_list, isT_bool_tuple, isT_int_bool, isT_int_int, isT_int_str, isT_int_list, isT_int_tuple, isT_str_bool, isT_str_int, isT_str_str, isT_str_list, isT_str_tuple, isT_list_bool, isT_list_int, isT_list_str, isT_list_list, isT_list_tuple, isT_tuple_bool, isT_tuple_int, isT_tuple_str, isT_tuple_list, isT_tuple_tuple, fSlS_e, dPick_l, fRange3_e, dRange3_e, fLc2_e, fCallK_e, fCallO_e, rCallO_e, fBin_e, rBin_e, oStore_s, oAsg_e2, fDic0_e, fCallV_e, List.getElem?_cons_zero, List.getElem?_cons_succ, *])
local macro_rules | `(tactic| walk_at "ev") => `(tactic| simp only [R.bind_ok, R.bind_bad, R.bind_exc, R.of_some, R.of_none, O.on_ok, O.on_bad, O.on_exc, fVar_0, fVar_s, fOwn_0, fOwn_s, fC_e, fU_e, fB_e, fNil_e, fCons_e, fL_e, fCall_e, fTup_e, fLst_e, rIf_t, rIf_f, fIf_e, tBl_e, fTest_e, fTru_e, fNotB_e, fAndB_e, fOrB_e, fVal_e, fAnd_e, fOr_e, fNo_e, tInt_e, fSome_e, fSl_e, fSlOw_e, fLenOw_e, fIxOw_e, fInOw_e, thn_nx, thn_rt, thn_bk, thn_ct, thn_exc, thn_bad, fSeq_e, oIf_t, oIf_f, oIf_exc, fIfS_e, fSkip_e, fRet_e, fExp_e, fSet_e, fNew_e, fApp_e, fExt_e, fPop_e, fPut_e, fFrz_e, frz_0o, frz_s, fFor_e, fItems_e, fRange_e, fAsg_e, oMat_e, fMatch_e, fAug_e, fin_rt, fin_nx, fin_exc, runD_e, pName_e, pNil_e, pCons_e, pTup_e, dAdd_ii, dAdd_ss, dAdd_ll, dAdd_tt, dSub_ii, dMul_ii, dMul_li, dFdiv_ii, dMod_ii, dNeg_i, dLt_ii, dLe_ii, dGt_ii, dGe_ii, dIx_l, dIx_t, dIx_c, dIx_s, dLen_l, dLen_t, dLen_c, dLen_s, dAbs_i, dMax2_ii, dMin2_ii, dInt_i, dStr_i, dStr_s, dList_l, dList_t, dTuple_l, dTuple_t, dCut_l, dCut_t, dItems_l, dItems_t, dItems_s, dRange_1, dRange_2, dIsN_e, dNotN_e, isNon_n, isNon_b, isNon_i, isNon_s, isNon_t, isNon_l, isNon_o, dIsi_n, dIsi_b, dIsi_i, dIsi_s, dIsi_t, dIsi_l, dIn_e, dNotIn_e, dEqB_ss, dEqB_ii, dInB_strs, dInB_strsT, dEq_e, dNe_e, beq_self_eq_true, List.set_cons_zero, List.set_cons_succ, List.length_cons, List.length_nil, List.length_map, List.length_append, Option.map_some, Option.map_none, Option.bind_some, Option.bind_none, if_true, if_false, ite_true, ite_false, decide_true, decide_false, and_self, true_and, and_true, Int.zero_add, Int.toNat_natCast, cut_tl, cut_all, List.map_append, List.map_cons, List.map_nil, List.nil_append, List.cons_append, List.append_nil, List.replicate, Int.reduceLT, Int.reduceLE, Int.reduceAdd, Int.reduceSub, Int.reduceMul, Int.reduceNeg, Int.reduceToNat, Nat.reduceAdd, Nat.reduceSub, Nat.reduceLT, Nat.reduceLeDiff, Nat.reduceMul, Int.reduceEq, Nat.reduceEqDiff, Bool.not_true, Bool.not_false, Bool.and_true, Bool.true_and, Bool.and_false, Bool.false_and, Bool.or_true, Bool.true_or, Bool.or_false, Bool.false_or, Bool.and_self, Bool.or_self, reduceCtorEq, decide_eq_true_eq, Bool.false_eq_true, fLc_e, fLcL_e, lcF_nil, fJoin_e, rJoin_e, dJoin_l, oPop_ok, oPop_2, oPop_1, cast_0, cast_1, cast_2, cast_3, at_0, at_1, at_2, at_3, at_4, at_5, at_6, Int.reduceBEq, Nat.reduceBEq, oApp_ok, oExt_ok, fProp_e, rProp_e, quiet_ok, dSlot_e, fMakeSK_e, rMakeN_e, rNum_e, gMrg_e, mrg_t, mrg_f, mrg_n, fMethF_e, rMethF_e, dIntS_i, dAddS_ii, dAddS_ss, dGcd_ii, dLcm_ii, dLcm_iii, at_7, at_8, at_9, at_10, at_11, at_12, at_13, at_14, at_15, isT_NoneType_bool, isT_NoneType_int, isT_NoneType_str, isT_NoneType_list, isT_NoneType_tuple, isT_bool_bool, isT_bool_int, isT_bool_str, isT_bool_list, isT_bool_tuple, isT_int_bool, isT_int_int, isT_int_str, isT_int_list, isT_int_tuple, isT_str_bool, isT_str_int, isT_str_str, isT_str_list, isT_str_tuple, isT_list_bool, isT_list_int, isT_list_str, isT_list_list, isT_list_tuple, isT_tuple_bool, isT_tuple_int, isT_tuple_str, isT_tuple_list, isT_tuple_tuple, fSlS_e, dPick_l, fRange3_e, dRange3_e, fLc2_e, fCallK_e, fCallO_e, rCallO_e, fBin_e, rBin_e, oStore_s, oAsg_e2, fDic0_e, fCallV_e, List.getElem?_cons_zero, List.getElem?_cons_succ, *])
local macro_rules | `(tactic| walk_at "rd") => `(tactic| simp (disch := walk_at "sz") only [R.bind_ok, R.bind_bad, R.bind_exc, R.of_some, R.of_none, O.on_ok, O.on_bad, O.on_exc, fVar_0, fVar_s, fOwn_0, fOwn_s, fC_e, fU_e, fB_e, fNil_e, fCons_e, fL_e, fCall_e, fTup_e, fLst_e, rIf_t, rIf_f, fIf_e, tBl_e, fTest_e, fTru_e, fNotB_e, fAndB_e, fOrB_e, fVal_e, fAnd_e, fOr_e, fNo_e, tInt_e, fSome_e, fSl_e, fSlOw_e, fLenOw_e, fIxOw_e, fInOw_e, thn_nx, thn_rt, thn_bk, thn_ct, thn_exc, thn_bad, fSeq_e, oIf_t, oIf_f, oIf_exc, fIfS_e, fSkip_e, fRet_e, fExp_e, fSet_e, fNew_e, fApp_e, fExt_e, fPop_e, fPut_e, fFrz_e, frz_0o, frz_s, fFor_e, fItems_e, fRange_e, fAsg_e, oMat_e, fMatch_e, fAug_e, fin_rt, fin_nx, fin_exc, runD_e, pName_e, pNil_e, pCons_e, pTup_e, dAdd_ii, dAdd_ss, dAdd_ll, dAdd_tt, dSub_ii, dMul_ii, dMul_li, dFdiv_ii, dMod_ii, dNeg_i, dLt_ii, dLe_ii, dGt_ii, dGe_ii, dIx_l, dIx_t, dIx_c, dIx_s, dLen_l, dLen_t, dLen_c, dLen_s, dAbs_i, dMax2_ii, dMin2_ii, dInt_i, dStr_i, dStr_s, dList_l, dList_t, dTuple_l, dTuple_t, dCut_l, dCut_t, dItems_l, dItems_t, dItems_s, dRange_1, dRange_2, dIsN_e, dNotN_e, isNon_n, isNon_b, isNon_i, isNon_s, isNon_t, isNon_l, isNon_o, dIsi_n, dIsi_b, dIsi_i, dIsi_s, dIsi_t, dIsi_l, dIn_e, dNotIn_e, dEqB_ss, dEqB_ii, dInB_strs, dInB_strsT, dEq_e, dNe_e, beq_self_eq_true, List.set_cons_zero, List.set_cons_succ, List.length_cons, List.length_nil, List.length_map, List.length_append, Option.map_some, Option.map_none, Option.bind_some, Option.bind_none, if_true, if_false, ite_true, ite_false, decide_true, decide_false, and_self, true_and, and_true, Int.zero_add, Int.toNat_natCast, cut_tl, cut_all, List.map_append, List.map_cons, List.map_nil, List.nil_append, List.cons_append, List.append_nil, List.replicate, Int.reduceLT, Int.reduceLE, Int.reduceAdd, Int.reduceSub, Int.reduceMul, Int.reduceNeg, Int.reduceToNat, Nat.reduceAdd, Nat.reduceSub, Nat.reduceLT, Nat.reduceLeDiff, Nat.reduceMul, Int.reduceEq, Nat.reduceEqDiff, Bool.not_true, Bool.not_false, Bool.and_true, Bool.true_and, Bool.and_false, Bool.false_and, Bool.or_true, Bool.true_or, Bool.or_false, Bool.false_or, Bool.and_self, Bool.or_self, reduceCtorEq, decide_eq_true_eq, Bool.false_eq_true, fLc_e, fLcL_e, lcF_nil, fJoin_e, rJoin_e, dJoin_l, oPop_ok, oPop_2, oPop_1, cast_0, cast_1, cast_2, cast_3, at_0, at_1, at_2, at_3, at_4, at_5, at_6, Int.reduceBEq, Nat.reduceBEq, oApp_ok, oExt_ok, fProp_e, rProp_e, quiet_ok, dSlot_e, fMakeSK_e, rMakeN_e, rNum_e, gMrg_e, mrg_t, mrg_f, mrg_n, fMethF_e, rMethF_e, dIntS_i, dAddS_ii, dAddS_ss, dGcd_ii, dLcm_ii, dLcm_iii, dEqB_self, at_7, at_8, at_9, at_10, at_11, at_12, at_13, at_14, at_15, at_m1, cut_toL, cut_fromL, cut_btw, List.take_succ_cons, List.take_zero, List.drop_succ_cons, List.drop_zero, List.take_nil, List.drop_nil, isT_NoneType_bool, isT_NoneType_int, isT_NoneType_str, isT_NoneType_list, isT_NoneType_tuple, isT_bool_bool, isT_bool_int, isT_bool_str, isT_bool_list, isT_bool_tuple, isT_int_bool, isT_int_int, isT_int_str, isT_int_list, isT_int_tuple, isT_str_bool, isT_str_int, isT_str_str, isT_str_list, isT_str_tuple, isT_list_bool, isT_list_int, isT_list_str, isT_list_list, isT_list_tuple, isT_tuple_bool, isT_tuple_int, isT_tuple_str, isT_tuple_list, isT_tuple_tuple, fSlS_e, dPick_l, fRange3_e, dRange3_e, fLc2_e, fCallK_e, fCallO_e, rCallO_e, fBin_e, rBin_e, oStore_s, oAsg_e2, fDic0_e, fCallV_e, List.getElem?_cons_zero, List.getElem?_cons_succ, runM_e, finM_rt, finM_nx, self_r, fld_at, fld_depth, fld_toks, step_at, step_in, step_out, meth_number, meth_name, meth_name_list, meth_sign, meth_row, meth_arm, meth_part, meth_cut, meth_other, rmeth_r, fPure_e, fNilX_e, fConsX_e, fTupX_e, fRetX_e, fExpX_e, fSetX_e, fNewX_e, oAppX_e, fAppX_e, view_tok, *])
theorem addN_app (ys zs : List Str) : ∀ xs : List Str, addN xs (ys ++ zs) = addN (addN xs ys) zs := by
  induction ys with
  | nil => intro xs; rfl
  | cons y ys ih => intro xs; rw [List.cons_append, addN, addN, ih]
theorem loop_once {x0 : DS} : ∀ (ys acc : List Str) (s2 : DS), acc.length + ys.length ≤ 16777215 →
    ∃ s2', loopF (pName 2) l1__law_once (ys.map .str) [x0, .ow (acc.map .str), s2] = .nx [x0, .ow ((addN acc ys).map .str), s2']
  | [], acc, s2, _ => ⟨s2, rfl⟩
  | y :: ys, acc, s2, hl => by
    rw [List.length_cons] at hl
    obtain ⟨s2', ih⟩ := loop_once (x0 := x0) ys (if y ∈ acc then acc else acc ++ [y]) (.fz (.str y)) (by split <;> first | omega | (simp only [List.length_append, List.length_cons, List.length_nil]; omega))
    refine ⟨s2', ?_⟩
    unfold addN
    rw [← ih]
    rw [List.map_cons]
    refine loopF_nx (put := pName 2) (d := .str y) (δ := [x0, .ow (acc.map .str), s2]) (δ1 := [x0, .ow (acc.map .str), .fz (.str y)]) rfl ?_
    have ok : okLt acc.length = true := okLt_by (by omega)
    clear ih
    unfold l1__law_once
    by_cases c : y ∈ acc
    · have dc : decide (y ∈ acc) = true := decide_eq_true c
      rw [if_pos c]
      walk_at "ev"
    · have dc : decide (y ∈ acc) = false := decide_eq_false c
      rw [if_neg c]
      walk_at "ev"
theorem once_ok {ys : List Str} (h : ys.length ≤ 1000000) : m__law_once [.lst (ys.map .str)] = .ok (.lst ((addN [] ys).map .str)) := by
  obtain ⟨s2, lp⟩ := loop_once (x0 := .fz (.lst (ys.map .str))) ys [] .un (by simp only [List.length_nil]; omega)
  rw [List.map_nil] at lp
  unfold m__law_once b__law_once
  walk_at "ev"
/-! MDraws: what _law_draws gives. -/
local macro_rules | `(tactic| walk_at "rd") => `(tactic| simp (disch := walk_at "sz") only [R.bind_ok, R.bind_bad, R.bind_exc, R.of_some, R.of_none, O.on_ok, O.on_bad, O.on_exc, fVar_0, fVar_s, fOwn_0, fOwn_s, fC_e, fU_e, fB_e, fNil_e, fCons_e, fL_e, fCall_e, fTup_e, fLst_e, rIf_t, rIf_f, fIf_e, tBl_e, fTest_e, fTru_e, fNotB_e, fAndB_e, fOrB_e, fVal_e, fAnd_e, fOr_e, fNo_e, tInt_e, fSome_e, fSl_e, fSlOw_e, fLenOw_e, fIxOw_e, fInOw_e, thn_nx, thn_rt, thn_bk, thn_ct, thn_exc, thn_bad, fSeq_e, oIf_t, oIf_f, oIf_exc, fIfS_e, fSkip_e, fRet_e, fExp_e, fSet_e, fNew_e, fApp_e, fExt_e, fPop_e, fPut_e, fFrz_e, frz_0o, frz_s, fFor_e, fItems_e, fRange_e, fAsg_e, oMat_e, fMatch_e, fAug_e, fin_rt, fin_nx, fin_exc, runD_e, pName_e, pNil_e, pCons_e, pTup_e, dAdd_ii, dAdd_ss, dAdd_ll, dAdd_tt, dSub_ii, dMul_ii, dMul_li, dFdiv_ii, dMod_ii, dNeg_i, dLt_ii, dLe_ii, dGt_ii, dGe_ii, dIx_l, dIx_t, dIx_c, dIx_s, dLen_l, dLen_t, dLen_c, dLen_s, dAbs_i, dMax2_ii, dMin2_ii, dInt_i, dStr_i, dStr_s, dList_l, dList_t, dTuple_l, dTuple_t, dCut_l, dCut_t, dItems_l, dItems_t, dItems_s, dRange_1, dRange_2, dIsN_e, dNotN_e, isNon_n, isNon_b, isNon_i, isNon_s, isNon_t, isNon_l, isNon_o, dIsi_n, dIsi_b, dIsi_i, dIsi_s, dIsi_t, dIsi_l, dIn_e, dNotIn_e, dEqB_ss, dEqB_ii, dInB_strs, dInB_strsT, dEq_e, dNe_e, beq_self_eq_true, List.set_cons_zero, List.set_cons_succ, List.length_cons, List.length_nil, List.length_map, List.length_append, Option.map_some, Option.map_none, Option.bind_some, Option.bind_none, if_true, if_false, ite_true, ite_false, decide_true, decide_false, and_self, true_and, and_true, Int.zero_add, Int.toNat_natCast, cut_tl, cut_all, List.map_append, List.map_cons, List.map_nil, List.nil_append, List.cons_append, List.append_nil, List.replicate, Int.reduceLT, Int.reduceLE, Int.reduceAdd, Int.reduceSub, Int.reduceMul, Int.reduceNeg, Int.reduceToNat, Nat.reduceAdd, Nat.reduceSub, Nat.reduceLT, Nat.reduceLeDiff, Nat.reduceMul, Int.reduceEq, Nat.reduceEqDiff, Bool.not_true, Bool.not_false, Bool.and_true, Bool.true_and, Bool.and_false, Bool.false_and, Bool.or_true, Bool.true_or, Bool.or_false, Bool.false_or, Bool.and_self, Bool.or_self, reduceCtorEq, decide_eq_true_eq, Bool.false_eq_true, fLc_e, fLcL_e, lcF_nil, fJoin_e, rJoin_e, dJoin_l, oPop_ok, oPop_2, oPop_1, cast_0, cast_1, cast_2, cast_3, at_0, at_1, at_2, at_3, at_4, at_5, at_6, Int.reduceBEq, Nat.reduceBEq, oApp_ok, oExt_ok, fProp_e, rProp_e, quiet_ok, dSlot_e, fMakeSK_e, rMakeN_e, rNum_e, gMrg_e, mrg_t, mrg_f, mrg_n, fMethF_e, rMethF_e, dIntS_i, dAddS_ii, dAddS_ss, dGcd_ii, dLcm_ii, dLcm_iii, dEqB_self, at_7, at_8, at_9, at_10, at_11, at_12, at_13, at_14, at_15, at_m1, cut_toL, cut_fromL, cut_btw, List.take_succ_cons, List.take_zero, List.drop_succ_cons, List.drop_zero, List.take_nil, List.drop_nil, isT_NoneType_bool, isT_NoneType_int, isT_NoneType_str, isT_NoneType_list, isT_NoneType_tuple, isT_bool_bool, isT_bool_int, isT_bool_str, isT_bool_list, isT_bool_tuple, isT_int_bool, isT_int_int, isT_int_str, isT_int_list, isT_int_tuple, isT_str_bool, isT_str_int, isT_str_str, isT_str_list, isT_str_tuple, isT_list_bool, isT_list_int, isT_list_str, isT_list_list, isT_list_tuple, isT_tuple_bool, isT_tuple_int, isT_tuple_str, isT_tuple_list, isT_tuple_tuple, fSlS_e, dPick_l, fRange3_e, dRange3_e, fLc2_e, fCallK_e, fCallO_e, rCallO_e, fBin_e, rBin_e, oStore_s, oAsg_e2, fDic0_e, fCallV_e, List.getElem?_cons_zero, List.getElem?_cons_succ, runM_e, finM_rt, finM_nx, self_r, fld_at, fld_depth, fld_toks, step_at, step_in, step_out, meth_number, meth_name, meth_name_list, meth_sign, meth_row, meth_arm, meth_part, meth_cut, meth_other, rmeth_r, fPure_e, fNilX_e, fConsX_e, fTupX_e, fRetX_e, fExpX_e, fSetX_e, fNewX_e, oAppX_e, fAppX_e, view_tok, *])
theorem pow18 : dPow (.int 10) (.int 18) = some (.int 1000000000000000000) := by
  have h : powOk 10 18 = true := by decide
  show (if powOk 10 18 = true then some (D.int (10 ^ Int.toNat 18)) else none) = _
  rw [if_pos h]
  rfl
theorem small20 : small62 20 = true := by decide
/-- small draws -/
def Dr (ds : List Int) : Prop := ∀ d ∈ ds, 0 ≤ d ∧ d < 1000000
theorem Dr.nil : Dr [] := fun _ h => by cases h
theorem Dr.app {ds : List Int} {d : Int} (h : Dr ds) (h0 : 0 ≤ d) (h1 : d < 1000000) : Dr (ds ++ [d]) := fun e he => by
  rcases List.mem_append.mp he with q | q
  · exact h e q
  · cases List.mem_singleton.mp q; exact ⟨h0, h1⟩
theorem draws_in (a b : DS) (c0 : Int) (ds : List Int) (s3 s5 s6 : DS) (hc : 0 ≤ c0) (hd : Dr ds) (hl : ds.length ≤ 10000) : ∃ ds' c' s5', Dr ds' ∧ ds'.length ≤ ds.length + 20 ∧
    loopF (pName 5) l1__law_draws (dInts 0 20) [a, b, .ow (ds.map .int), s3, .fz (.int c0), s5, s6] = .nx [a, b, .ow (ds'.map .int), s3, .fz (.int c'), s5', s6] := by
  obtain ⟨δ', h1, ds', c', s5', h2, h3, h4, h5⟩ := loopF_range (put := pName 5) (body := l1__law_draws) (lo := 0) (n := 20) (δ := [a, b, .ow (ds.map .int), s3, .fz (.int c0), s5, s6])
    (fun k δ => ∃ (ds' : List Int) (c' : Int) (s5' : DS), Dr ds' ∧ ds'.length ≤ ds.length + k ∧ 0 ≤ c' ∧ δ = [a, b, .ow (ds'.map .int), s3, .fz (.int c'), s5', s6])
    ⟨ds, c0, s5, hd, Nat.le_refl _, hc, rfl⟩ (fun k δ hk h => by
      obtain ⟨ds', c', s5', h1, h2, h3, rfl⟩ := h
      have hlt : okLt ds'.length = true := okLt_by (by omega)
      refine ⟨_, rfl, ?_⟩
      by_cases z : (0 : Int) < c'
      · refine ⟨[a, b, .ow ((ds' ++ [c' % 1000000]).map .int), s3, .fz (.int (c' / 1000000)), .fz (.int (0 + (k : Nat))), s6], .inl ?_, _, _, _, h1.app (by omega) (by omega), by simp; omega, by omega, rfl⟩
        unfold l1__law_draws
        walk_at "ev"
      · refine ⟨[a, b, .ow (ds'.map .int), s3, .fz (.int (c' / 1000000)), .fz (.int (0 + (k : Nat))), s6], .inl ?_, _, _, _, h1, by omega, by omega, rfl⟩
        unfold l1__law_draws
        walk_at "ev")
  exact ⟨ds', c', s5', h2, h3, by rw [h1, h5]⟩
theorem draws_ok (ns : List Int) (hn : ns.length ≤ 63) (m : Nat) (hm : m ≤ 1000) : ∃ ds : List Int, ds.length = m ∧ Dr ds ∧ m__law_draws [.scr (ns.map .int), .int m] = .ok (.lst (ds.map .int)) := by
  obtain ⟨δ', h1, ds', s3, s4, s5, s6, h2, h3, h4⟩ := loopF_range (put := pName 3) (body := l2__law_draws) (lo := 0) (n := ns.length) (δ := [.fz (.scr (ns.map .int)), .fz (.int m), .ow (([] : List Int).map .int), .un, .un, .un, .un])
    (fun k δ => ∃ (ds' : List Int) (s3 s4 s5 s6 : DS), Dr ds' ∧ ds'.length ≤ 20 * k ∧ δ = [.fz (.scr (ns.map .int)), .fz (.int m), .ow (ds'.map .int), s3, s4, s5, s6])
    ⟨[], _, _, _, _, Dr.nil, Nat.le_refl _, rfl⟩ (fun k δ hk h => by
      obtain ⟨ds', s3, s4, s5, s6, h1, h2, rfl⟩ := h
      refine ⟨_, rfl, ?_⟩
      have hat : L2.atI (ns.map D.int) (k : Nat) = some (.int ns[k]) := L2.atI_nat (by rw [List.getElem?_map, List.getElem?_eq_getElem hk]; rfl)
      generalize hc : (if ns[k] < 0 then -ns[k] else ns[k]) = c
      have hc0 : 0 ≤ c := by rw [← hc]; split <;> omega
      have p18 := pow18
      by_cases z : (1000000000000000000 : Int) ≤ c
      · obtain ⟨ds2, c', s5', g1, g2, g3⟩ := draws_in (.fz (.scr (ns.map .int))) (.fz (.int m)) c ds' (.fz (.int (k : Nat))) s5 s6 hc0 h1 (by omega)
        refine ⟨[.fz (.scr (ns.map .int)), .fz (.int m), .ow (ds2.map .int), .fz (.int (k : Nat)), .fz (.int c'), s5', s6], .inl ?_, ds2, _, _, _, _, g1, by omega, rfl⟩
        have s20 := small20
        unfold l2__law_draws
        walk_at "ev"
      · have hlt : okLt ds'.length = true := okLt_by (by omega)
        have l1 : mulOk c 48271 = true := mulOk_r (by decide)
        have l2 : mulOk (k : Nat) 7919 = true := mulOk_r (by decide)
        have m1 : 0 ≤ (c * 48271 + (k : Nat) * 7919 + 1) % 2147483647 := by omega
        have m2 : (c * 48271 + (k : Nat) * 7919 + 1) % 2147483647 < 2147483647 := by omega
        generalize hx : (c * 48271 + (k : Nat) * 7919 + 1) % 2147483647 = x at m1 m2
        have l3 : mulOk x x = true := mulOk_l (lim_by (by show x.natAbs < 18446744073709551616; omega))
        refine ⟨[.fz (.scr (ns.map .int)), .fz (.int m), .ow ((ds' ++ [x * x % 2147483629 % 1000000]).map .int), .fz (.int (k : Nat)), .fz (.int c), s5, .fz (.int x)], .inl ?_, _, _, _, _, _, h1.app (by omega) (by omega), by simp; omega, rfl⟩
        unfold l2__law_draws
        walk_at "ev")
  refine ⟨(ds' ++ List.replicate m 0).take m, by simp, fun d hd => ?_, ?_⟩
  · rcases List.mem_append.mp (List.mem_of_mem_take hd) with q | q
    · exact h2 d q
    · rw [List.eq_of_mem_replicate q]; decide
  · have lt : (if (63 : Int) < (ns.length : Nat) then (63 : Int) else (ns.length : Nat)) = (ns.length : Nat) := by split <;> omega
    have sm : small62 (ns.length : Nat) = true := small62_by (by omega)
    have ro : repOk 1 m = true := repOk_by (lim_by (by show Int.natAbs _ < 9223372036854775808; omega)) (by omega)
    have ro2 : okLe (ds'.length + (List.replicate m [D.int 0]).flatten.length) = true := okLe_by (by rw [flat_one, List.length_replicate]; omega)
    subst h4
    rw [List.map_nil] at h1
    unfold m__law_draws b__law_draws
    walk_at "ev"
    rw [cut_to, flat_one, map_rep, List.map_take, List.map_append]
/-! MDr: the draws as a function. -/
/-- the draws dr a, dr (a + 1), .. -/
def drl (dr : Nat → Int) (a n : Nat) : List D := (List.range n).map fun k => D.int (dr (a + k))
def DrF (dr : Nat → Int) : Prop := ∀ k, 0 ≤ dr k ∧ dr k < 1000000
theorem drl_len {dr : Nat → Int} {a n : Nat} : (drl dr a n).length = n := by simp [drl]
theorem drl_s {dr : Nat → Int} {a n : Nat} : drl dr a (n + 1) = .int (dr a) :: drl dr (a + 1) n := by
  unfold drl
  rw [List.range_succ_eq_map, List.map_cons, List.map_map]
  refine congrArg _ (List.map_congr_left fun k _ => ?_)
  show D.int (dr (a + (k + 1))) = _
  rw [show a + (k + 1) = a + 1 + k from by omega]
theorem drl_0 {dr : Nat → Int} {a : Nat} : drl dr a 0 = [] := rfl
theorem drl_at {dr : Nat → Int} {a n : Nat} {i : Int} (h0 : 0 ≤ i) (h : i < n) : L2.atI (drl dr a n) i = some (.int (dr (a + i.toNat))) := by
  obtain ⟨k, rfl⟩ := Int.eq_ofNat_of_zero_le h0
  have hk : k < n := by omega
  refine L2.atI_nat (j := k) ?_
  unfold drl
  simp [hk]
theorem drl_take {dr : Nat → Int} {a n : Nat} {j : Nat} (h : j ≤ n) : cut (drl dr a n) none (some (j : Int)) = drl dr a j := by
  rw [cut_to]
  unfold drl
  rw [← List.map_take, List.take_range, Nat.min_eq_left h]
theorem drl_drop_eq {dr : Nat → Int} {a n : Nat} {j : Nat} : (drl dr a n).drop j = drl dr (a + j) (n - j) := by
  refine List.ext_getElem? fun k => ?_
  unfold drl
  rw [List.getElem?_drop, List.getElem?_map, List.getElem?_map]
  by_cases h : j + k < n
  · rw [List.getElem?_range h, List.getElem?_range (by omega)]
    simp [Nat.add_assoc]
  · rw [List.getElem?_eq_none (by simp; omega), List.getElem?_eq_none (by simp; omega)]
    rfl
theorem drl_drop {dr : Nat → Int} {a n : Nat} {j : Nat} : cut (drl dr a n) (some (j : Int)) none = drl dr (a + j) (n - j) := by
  rw [cut_from, drl_drop_eq]
theorem draws_fn (ns : List Int) (hn : ns.length ≤ 63) (m : Nat) (hm : m ≤ 1000) : ∃ dr : Nat → Int, DrF dr ∧ m__law_draws [.scr (ns.map .int), .int m] = .ok (.lst (drl dr 0 m)) := by
  obtain ⟨ds, hl, hd, e⟩ := draws_ok ns hn m hm
  refine ⟨fun k => ds.getD k 0, fun k => ?_, ?_⟩
  · by_cases h : k < ds.length
    · have := hd ds[k] (List.getElem_mem h)
      simp only [List.getD_eq_getElem?_getD, List.getElem?_eq_getElem h, Option.getD_some]
      exact this
    · simp only [List.getD_eq_getElem?_getD, List.getElem?_eq_none (Nat.le_of_not_lt h), Option.getD_none]
      omega
  · rw [e]
    refine congrArg (fun l => R.ok (D.lst l)) ?_
    refine List.ext_getElem? fun k => ?_
    unfold drl
    rw [List.getElem?_map, List.getElem?_map]
    by_cases h : k < m
    · rw [List.getElem?_range h]
      simp [List.getElem?_eq_getElem (hl ▸ h)]
    · rw [List.getElem?_eq_none (by omega), List.getElem?_eq_none (by simp; omega)]
      rfl
/-! GDr: the draws one by one. -/
theorem dr_0 {dr : Nat → Int} {n : Nat} : L2.atI (drl dr 0 (n + 1)) 0 = some (.int (dr 0)) := by rw [drl_at (by omega) (by omega), Nat.zero_add]; rfl
theorem dr_1 {dr : Nat → Int} {n : Nat} : L2.atI (drl dr 0 (n + 2)) 1 = some (.int (dr 1)) := by rw [drl_at (by omega) (by omega), Nat.zero_add]; rfl
theorem dr_2 {dr : Nat → Int} {n : Nat} : L2.atI (drl dr 0 (n + 3)) 2 = some (.int (dr 2)) := by rw [drl_at (by omega) (by omega), Nat.zero_add]; rfl
theorem dr_3 {dr : Nat → Int} {n : Nat} : L2.atI (drl dr 0 (n + 4)) 3 = some (.int (dr 3)) := by rw [drl_at (by omega) (by omega), Nat.zero_add]; rfl
theorem dr_4 {dr : Nat → Int} {n : Nat} : L2.atI (drl dr 0 (n + 5)) 4 = some (.int (dr 4)) := by rw [drl_at (by omega) (by omega), Nat.zero_add]; rfl
theorem dr_5 {dr : Nat → Int} {n : Nat} : L2.atI (drl dr 0 (n + 6)) 5 = some (.int (dr 5)) := by rw [drl_at (by omega) (by omega), Nat.zero_add]; rfl
theorem dr_6 {dr : Nat → Int} {n : Nat} : L2.atI (drl dr 0 (n + 7)) 6 = some (.int (dr 6)) := by rw [drl_at (by omega) (by omega), Nat.zero_add]; rfl
theorem dr_7 {dr : Nat → Int} {n : Nat} : L2.atI (drl dr 0 (n + 8)) 7 = some (.int (dr 7)) := by rw [drl_at (by omega) (by omega), Nat.zero_add]; rfl
theorem dr_8 {dr : Nat → Int} {n : Nat} : L2.atI (drl dr 0 (n + 9)) 8 = some (.int (dr 8)) := by rw [drl_at (by omega) (by omega), Nat.zero_add]; rfl
theorem dr_9 {dr : Nat → Int} {n : Nat} : L2.atI (drl dr 0 (n + 10)) 9 = some (.int (dr 9)) := by rw [drl_at (by omega) (by omega), Nat.zero_add]; rfl
theorem dr_10 {dr : Nat → Int} {n : Nat} : L2.atI (drl dr 0 (n + 11)) 10 = some (.int (dr 10)) := by rw [drl_at (by omega) (by omega), Nat.zero_add]; rfl
theorem dr_11 {dr : Nat → Int} {n : Nat} : L2.atI (drl dr 0 (n + 12)) 11 = some (.int (dr 11)) := by rw [drl_at (by omega) (by omega), Nat.zero_add]; rfl
theorem dr_12 {dr : Nat → Int} {n : Nat} : L2.atI (drl dr 0 (n + 13)) 12 = some (.int (dr 12)) := by rw [drl_at (by omega) (by omega), Nat.zero_add]; rfl
theorem dr_13 {dr : Nat → Int} {n : Nat} : L2.atI (drl dr 0 (n + 14)) 13 = some (.int (dr 13)) := by rw [drl_at (by omega) (by omega), Nat.zero_add]; rfl
theorem dr_14 {dr : Nat → Int} {n : Nat} : L2.atI (drl dr 0 (n + 15)) 14 = some (.int (dr 14)) := by rw [drl_at (by omega) (by omega), Nat.zero_add]; rfl
theorem dr_15 {dr : Nat → Int} {n : Nat} : L2.atI (drl dr 0 (n + 16)) 15 = some (.int (dr 15)) := by rw [drl_at (by omega) (by omega), Nat.zero_add]; rfl
theorem dr_16 {dr : Nat → Int} {n : Nat} : L2.atI (drl dr 0 (n + 17)) 16 = some (.int (dr 16)) := by rw [drl_at (by omega) (by omega), Nat.zero_add]; rfl
theorem dr_17 {dr : Nat → Int} {n : Nat} : L2.atI (drl dr 0 (n + 18)) 17 = some (.int (dr 17)) := by rw [drl_at (by omega) (by omega), Nat.zero_add]; rfl
theorem dr_18 {dr : Nat → Int} {n : Nat} : L2.atI (drl dr 0 (n + 19)) 18 = some (.int (dr 18)) := by rw [drl_at (by omega) (by omega), Nat.zero_add]; rfl
theorem dr_19 {dr : Nat → Int} {n : Nat} : L2.atI (drl dr 0 (n + 20)) 19 = some (.int (dr 19)) := by rw [drl_at (by omega) (by omega), Nat.zero_add]; rfl
theorem dr_20 {dr : Nat → Int} {n : Nat} : L2.atI (drl dr 0 (n + 21)) 20 = some (.int (dr 20)) := by rw [drl_at (by omega) (by omega), Nat.zero_add]; rfl
theorem dr_21 {dr : Nat → Int} {n : Nat} : L2.atI (drl dr 0 (n + 22)) 21 = some (.int (dr 21)) := by rw [drl_at (by omega) (by omega), Nat.zero_add]; rfl
theorem dr_22 {dr : Nat → Int} {n : Nat} : L2.atI (drl dr 0 (n + 23)) 22 = some (.int (dr 22)) := by rw [drl_at (by omega) (by omega), Nat.zero_add]; rfl
theorem dr_23 {dr : Nat → Int} {n : Nat} : L2.atI (drl dr 0 (n + 24)) 23 = some (.int (dr 23)) := by rw [drl_at (by omega) (by omega), Nat.zero_add]; rfl
theorem dr_24 {dr : Nat → Int} {n : Nat} : L2.atI (drl dr 0 (n + 25)) 24 = some (.int (dr 24)) := by rw [drl_at (by omega) (by omega), Nat.zero_add]; rfl
theorem dr_25 {dr : Nat → Int} {n : Nat} : L2.atI (drl dr 0 (n + 26)) 25 = some (.int (dr 25)) := by rw [drl_at (by omega) (by omega), Nat.zero_add]; rfl
theorem dr_26 {dr : Nat → Int} {n : Nat} : L2.atI (drl dr 0 (n + 27)) 26 = some (.int (dr 26)) := by rw [drl_at (by omega) (by omega), Nat.zero_add]; rfl
theorem dr_27 {dr : Nat → Int} {n : Nat} : L2.atI (drl dr 0 (n + 28)) 27 = some (.int (dr 27)) := by rw [drl_at (by omega) (by omega), Nat.zero_add]; rfl
theorem dr_28 {dr : Nat → Int} {n : Nat} : L2.atI (drl dr 0 (n + 29)) 28 = some (.int (dr 28)) := by rw [drl_at (by omega) (by omega), Nat.zero_add]; rfl
theorem dr_29 {dr : Nat → Int} {n : Nat} : L2.atI (drl dr 0 (n + 30)) 29 = some (.int (dr 29)) := by rw [drl_at (by omega) (by omega), Nat.zero_add]; rfl
theorem dr_30 {dr : Nat → Int} {n : Nat} : L2.atI (drl dr 0 (n + 31)) 30 = some (.int (dr 30)) := by rw [drl_at (by omega) (by omega), Nat.zero_add]; rfl
theorem dr_31 {dr : Nat → Int} {n : Nat} : L2.atI (drl dr 0 (n + 32)) 31 = some (.int (dr 31)) := by rw [drl_at (by omega) (by omega), Nat.zero_add]; rfl
theorem dr_32 {dr : Nat → Int} {n : Nat} : L2.atI (drl dr 0 (n + 33)) 32 = some (.int (dr 32)) := by rw [drl_at (by omega) (by omega), Nat.zero_add]; rfl
theorem dr_33 {dr : Nat → Int} {n : Nat} : L2.atI (drl dr 0 (n + 34)) 33 = some (.int (dr 33)) := by rw [drl_at (by omega) (by omega), Nat.zero_add]; rfl
theorem dr_34 {dr : Nat → Int} {n : Nat} : L2.atI (drl dr 0 (n + 35)) 34 = some (.int (dr 34)) := by rw [drl_at (by omega) (by omega), Nat.zero_add]; rfl
theorem dr_35 {dr : Nat → Int} {n : Nat} : L2.atI (drl dr 0 (n + 36)) 35 = some (.int (dr 35)) := by rw [drl_at (by omega) (by omega), Nat.zero_add]; rfl
theorem dr_36 {dr : Nat → Int} {n : Nat} : L2.atI (drl dr 0 (n + 37)) 36 = some (.int (dr 36)) := by rw [drl_at (by omega) (by omega), Nat.zero_add]; rfl
theorem dr_37 {dr : Nat → Int} {n : Nat} : L2.atI (drl dr 0 (n + 38)) 37 = some (.int (dr 37)) := by rw [drl_at (by omega) (by omega), Nat.zero_add]; rfl
theorem dr_38 {dr : Nat → Int} {n : Nat} : L2.atI (drl dr 0 (n + 39)) 38 = some (.int (dr 38)) := by rw [drl_at (by omega) (by omega), Nat.zero_add]; rfl
theorem dr_39 {dr : Nat → Int} {n : Nat} : L2.atI (drl dr 0 (n + 40)) 39 = some (.int (dr 39)) := by rw [drl_at (by omega) (by omega), Nat.zero_add]; rfl
theorem dr_40 {dr : Nat → Int} {n : Nat} : L2.atI (drl dr 0 (n + 41)) 40 = some (.int (dr 40)) := by rw [drl_at (by omega) (by omega), Nat.zero_add]; rfl
theorem dr_41 {dr : Nat → Int} {n : Nat} : L2.atI (drl dr 0 (n + 42)) 41 = some (.int (dr 41)) := by rw [drl_at (by omega) (by omega), Nat.zero_add]; rfl
theorem dr_42 {dr : Nat → Int} {n : Nat} : L2.atI (drl dr 0 (n + 43)) 42 = some (.int (dr 42)) := by rw [drl_at (by omega) (by omega), Nat.zero_add]; rfl
theorem dr_43 {dr : Nat → Int} {n : Nat} : L2.atI (drl dr 0 (n + 44)) 43 = some (.int (dr 43)) := by rw [drl_at (by omega) (by omega), Nat.zero_add]; rfl
theorem dr_44 {dr : Nat → Int} {n : Nat} : L2.atI (drl dr 0 (n + 45)) 44 = some (.int (dr 44)) := by rw [drl_at (by omega) (by omega), Nat.zero_add]; rfl
theorem dr_45 {dr : Nat → Int} {n : Nat} : L2.atI (drl dr 0 (n + 46)) 45 = some (.int (dr 45)) := by rw [drl_at (by omega) (by omega), Nat.zero_add]; rfl
theorem dr_46 {dr : Nat → Int} {n : Nat} : L2.atI (drl dr 0 (n + 47)) 46 = some (.int (dr 46)) := by rw [drl_at (by omega) (by omega), Nat.zero_add]; rfl
theorem dr_47 {dr : Nat → Int} {n : Nat} : L2.atI (drl dr 0 (n + 48)) 47 = some (.int (dr 47)) := by rw [drl_at (by omega) (by omega), Nat.zero_add]; rfl
theorem dr_48 {dr : Nat → Int} {n : Nat} : L2.atI (drl dr 0 (n + 49)) 48 = some (.int (dr 48)) := by rw [drl_at (by omega) (by omega), Nat.zero_add]; rfl
theorem dr_49 {dr : Nat → Int} {n : Nat} : L2.atI (drl dr 0 (n + 50)) 49 = some (.int (dr 49)) := by rw [drl_at (by omega) (by omega), Nat.zero_add]; rfl
theorem dr_50 {dr : Nat → Int} {n : Nat} : L2.atI (drl dr 0 (n + 51)) 50 = some (.int (dr 50)) := by rw [drl_at (by omega) (by omega), Nat.zero_add]; rfl
theorem dr_51 {dr : Nat → Int} {n : Nat} : L2.atI (drl dr 0 (n + 52)) 51 = some (.int (dr 51)) := by rw [drl_at (by omega) (by omega), Nat.zero_add]; rfl
theorem dr_52 {dr : Nat → Int} {n : Nat} : L2.atI (drl dr 0 (n + 53)) 52 = some (.int (dr 52)) := by rw [drl_at (by omega) (by omega), Nat.zero_add]; rfl
theorem dr_53 {dr : Nat → Int} {n : Nat} : L2.atI (drl dr 0 (n + 54)) 53 = some (.int (dr 53)) := by rw [drl_at (by omega) (by omega), Nat.zero_add]; rfl
theorem dr_54 {dr : Nat → Int} {n : Nat} : L2.atI (drl dr 0 (n + 55)) 54 = some (.int (dr 54)) := by rw [drl_at (by omega) (by omega), Nat.zero_add]; rfl
theorem dr_55 {dr : Nat → Int} {n : Nat} : L2.atI (drl dr 0 (n + 56)) 55 = some (.int (dr 55)) := by rw [drl_at (by omega) (by omega), Nat.zero_add]; rfl
theorem dr_56 {dr : Nat → Int} {n : Nat} : L2.atI (drl dr 0 (n + 57)) 56 = some (.int (dr 56)) := by rw [drl_at (by omega) (by omega), Nat.zero_add]; rfl
theorem dr_57 {dr : Nat → Int} {n : Nat} : L2.atI (drl dr 0 (n + 58)) 57 = some (.int (dr 57)) := by rw [drl_at (by omega) (by omega), Nat.zero_add]; rfl
theorem dr_58 {dr : Nat → Int} {n : Nat} : L2.atI (drl dr 0 (n + 59)) 58 = some (.int (dr 58)) := by rw [drl_at (by omega) (by omega), Nat.zero_add]; rfl
theorem dr_59 {dr : Nat → Int} {n : Nat} : L2.atI (drl dr 0 (n + 60)) 59 = some (.int (dr 59)) := by rw [drl_at (by omega) (by omega), Nat.zero_add]; rfl
theorem dr_60 {dr : Nat → Int} {n : Nat} : L2.atI (drl dr 0 (n + 61)) 60 = some (.int (dr 60)) := by rw [drl_at (by omega) (by omega), Nat.zero_add]; rfl
theorem dr_61 {dr : Nat → Int} {n : Nat} : L2.atI (drl dr 0 (n + 62)) 61 = some (.int (dr 61)) := by rw [drl_at (by omega) (by omega), Nat.zero_add]; rfl
theorem dr_62 {dr : Nat → Int} {n : Nat} : L2.atI (drl dr 0 (n + 63)) 62 = some (.int (dr 62)) := by rw [drl_at (by omega) (by omega), Nat.zero_add]; rfl
theorem dr_63 {dr : Nat → Int} {n : Nat} : L2.atI (drl dr 0 (n + 64)) 63 = some (.int (dr 63)) := by rw [drl_at (by omega) (by omega), Nat.zero_add]; rfl
theorem DrF.mod {dr : Nat → Int} (h : DrF dr) (k : Nat) : 0 ≤ dr k ∧ dr k < 1000000 := h k
end LW
namespace LW
open PySem PySem.Spec PyProof.Rows DL
/-! G04: value with names that are not given, the walk. -/
local macro_rules | `(tactic| walk_at "yes") => `(tactic| first | (with_reducible assumption) | (with_reducible rfl) | ((with_reducible refine decide_eq_true ?_); omega) | ((with_reducible refine beq_iff_eq.mpr ?_); omega) | ((with_reducible refine decide_eq_true ?_); with_reducible assumption) | ((with_reducible refine Bool.not_eq_true'.mpr ?_); walk_at "no") | ((with_reducible refine Bool.and_eq_true_iff.mpr ⟨?_, ?_⟩) <;> walk_at "yes") | ((with_reducible refine Bool.or_eq_true_iff.mpr ?_); first | (left; walk_at "yes") | (right; walk_at "yes")) | decide +kernel)
local macro_rules | `(tactic| walk_at "no") => `(tactic| first | (with_reducible assumption) | (with_reducible rfl) | ((with_reducible refine decide_eq_false ?_); omega) | ((with_reducible refine beq_false_of_ne ?_); omega) | ((with_reducible refine decide_eq_false ?_); with_reducible assumption) | ((with_reducible refine Bool.not_eq_false'.mpr ?_); walk_at "yes") | ((with_reducible refine Bool.or_eq_false_iff.mpr ⟨?_, ?_⟩) <;> walk_at "no") | ((with_reducible refine Bool.and_eq_false_iff.mpr ?_); first | (left; walk_at "no") | (right; walk_at "no")) | decide +kernel)
local macro_rules | `(tactic| walk_at "sh") => `(tactic| first | (with_reducible first | (apply sh_hyp2; assumption) | (apply sh_hyp; assumption)) | (with_reducible apply sh_num; first | omega | assumption) | (with_reducible exact sh_lit) | ((with_reducible apply sh_app) <;> walk_at "sh") | decide +kernel)
local macro_rules | `(tactic| walk_at "tf") => `(tactic| first | (refine hyp_T ?_; walk_at "yes") | (refine hyp_F ?_; walk_at "no"))
local macro_rules | `(tactic| walk_at "szg") => `(tactic| first | (with_reducible assumption) | omega | exact lim64_by (by omega) | exact okLe_by (by simp only [List.length_append, List.length_cons, List.length_nil, List.length_map, List.length_range]; omega) | exact okLt_by (by simp only [List.length_append, List.length_cons, List.length_nil, List.length_map, List.length_range]; omega) | exact mulOk_l (by assumption) | exact mulOk_r (by assumption) | exact mulOk_l (lim64_by (by omega)) | exact mulOk_r (lim64_by (by omega)) | exact log_by (by omega) | exact small_by (by omega) | ((with_reducible first | apply okS | apply okS1) <;> walk_at "sh"))
local macro_rules | `(tactic| walk_at "st") => `(tactic| first | (with_reducible first | (apply isR; first | (apply hyp_ok; assumption) | (apply hyp_exc; assumption) | apply v_varS | exact v_var0 | apply v_Cons | exact v_Nil | exact v_C | apply v_B | apply v_L | apply v_U | apply v_Call | apply v_Test | apply v_Tup | apply v_Lst | apply v_Range | apply v_Items | apply v_Lc | apply v_Some | exact v_No | apply v_Sl | apply v_SlS | apply v_ownS | exact v_own0 | apply v_NotB | apply v_Val | apply v_SlOw | apply v_LenOw | apply v_IxOw | apply v_InOwT | apply v_InOwF | apply v_Range3 | apply v_LcL | apply v_Lc2 | apply v_Join | apply v_Prop | apply v_MethF | apply v_CallO | apply v_MakeSK | apply v_Bin | apply v_CallK2 | apply v_CallK | apply v_CallV | apply v_TruB | apply v_TruL | apply v_TruT | exact v_Dic0 | exact v_fin_rt | exact v_fin_nx | exact v_fin_exc | apply v_fin_rt2 | exact mk_8 | exact mk_0 | exact mk_1 | exact mk_2 | exact v_lc_nil | apply v_run | walk_at "call") | (apply isS; first | (apply hyp_so; assumption) | apply w_ixl | apply w_ixt | apply w_ixc | exact dAdd_ii | apply dMod_ii | exact dIntS_i | apply w_dEq | apply w_dNe | exact dSub_ii | apply dMul_ii | exact dEqB_ii | exact dEqB_ss | apply w_rangeL | apply w_range1 | apply dRange_1 | apply dRange_2 | apply dAdd_ss | exact dLt_ii | exact dLe_ii | exact dGt_ii | exact dGe_ii | exact dLen_l | exact dLen_t | exact dLen_c | exact dItems_l | exact dItems_t | exact dItems_s | apply w_fdiv | apply w_dIn | apply w_dNotIn | exact at_0 | exact at_1 | exact at_2 | exact at_3 | exact at_4 | exact at_5 | exact at_6 | exact at_7 | exact at_8 | exact at_9 | exact at_10 | exact at_11 | exact at_12 | exact at_13 | exact at_14 | exact at_15 | exact at_m1 | exact dNeg_i | exact dAbs_i | exact w_max | exact w_min | exact dInt_i | exact dStr_s | exact dList_l | exact dList_t | exact dTuple_l | exact dTuple_t | exact dCut_l | exact dCut_t | exact dIsN_e | exact dNotN_e | exact dIsi_n | exact dIsi_b | exact dIsi_i | exact dIsi_s | exact dIsi_t | exact dIsi_l | exact dAddS_ii | exact dGcd_ii | apply w_slot | exact get_0 | apply get_s | exact w_isC | exact fld_P1 | exact fld_P0 | exact fld_P2 | exact fld_U | exact fld_F0 | exact fld_F1 | exact fld_F2 | exact fld_F3 | apply dAdd_ll | apply dAdd_tt | apply dMul_li | apply dStr_i | apply dLen_s | apply dAddS_ss | apply dLcm_ii | apply dLcm_iii | apply dJoin_l | apply dPick_l | apply dRange3_e | apply w_selfL | apply w_selfT | apply v_pName | apply v_pCons | exact v_pNil | apply v_pTup2 | apply v_pTup3 | apply v_pTup4 | walk_at "call") | (apply isO; first | (apply hyp_o; assumption) | apply v_Seq | apply v_thn_nx | apply v_Set | apply v_IfS | exact v_Skip | exact v_thn_rt | apply v_Ret | apply v_Frz | apply v_For | apply v_App | apply v_New | apply v_Ext | apply v_Asg | apply v_Match | apply v_Aug | apply v_Exp | exact v_thn_bk | exact v_thn_ct | exact v_thn_exc | exact v_loop_nil | apply v_loop_cons | apply v_lnx_nx | apply v_lnx_ct | exact v_lnx_bk | exact v_lnx_rt | exact v_lnx_exc | apply v_Raise1 | apply v_Raise2 | walk_at "call") | (apply hyp_e; assumption) | apply set_s | exact set_0 | exact ini_0 | apply ini_u | apply ini_c | exact mrg_i | exact mrg_l | exact mrg_d | apply IsAt.mk' | apply TsAt.mk' | apply Is.mk | exact (Eqb.int _ _) | exact (Eqb.non _) | exact (Eqb.bl _ _) | exact (EqbL.nil _) | apply Eqb.lst | apply Eqb.tup | apply EqbL.cons | apply EqbL.map | apply bl_eqT | apply bl_eqF | walk_at "call") | walk_at "br" | walk_at "cm")
local macro_rules | `(tactic| walk_at "br") => `(tactic| first | ((with_reducible apply v_ifT); (focus walk_at "yes")) | ((with_reducible apply v_ifF); (focus walk_at "no")) | ((with_reducible apply v_iteT); (focus (first | (with_reducible assumption) | omega | decide +kernel))) | ((with_reducible apply v_iteFz); (focus (first | (with_reducible assumption) | omega | decide +kernel))) | ((with_reducible apply v_iteF); (focus (first | (with_reducible assumption) | omega | decide +kernel))) | ((with_reducible apply v_IfT); (focus walk_at "go"); (focus walk_at "yes")) | ((with_reducible apply v_IfF); (focus walk_at "go"); (focus walk_at "no")) | ((with_reducible apply v_AndF); (focus walk_at "go"); (focus walk_at "no")) | ((with_reducible apply v_OrT); (focus walk_at "go"); (focus walk_at "yes")) | (with_reducible first | apply v_ifSet | apply v_ifSet2) | (with_reducible first | apply v_And | apply v_Or | apply v_AndE | apply v_OrE | apply v_IfB))
local macro_rules | `(tactic| walk_at "cm") => `(tactic| with_reducible first | apply v_lc_rangeN | apply v_lc_range | apply v_lc_c1 | apply v_lc_c2 | apply v_lc_c3 | apply v_lc_map | apply v_lc_fltN | apply v_lc_fltM | apply v_lc_all)
local macro_rules | `(tactic| walk_at "go") => `(tactic| first | (walk_at "st" <;> walk_at "go") | (intro; walk_at "go") | (with_reducible first | exact eqD_refl | exact eqL_refl | exact eqB_refl | exact eqO_refl) | walk_at "szg" | walk_at "tf" | skip)
-- GOX
local macro_rules | `(tactic| walk_at "st") => `(tactic| first | (with_reducible first | (apply ox_hyp; assumption) | (apply rx_hyp; assumption) | apply ox_IfS | apply ox_Set | apply ox_Ret | apply ox_Exp | apply ox_New | apply ox_App | apply ox_Ext | apply ox_Frz | apply ox_For | apply ox_Raise1 | apply ox_Raise2 | apply ox_Match | apply ox_Asg | apply rx_run | apply rx_CallK2 | apply rx_CallK | apply rx_Lst | apply rx_Tup | apply rx_L | apply rx_U | exact atD_0 | apply atD_s | (apply isO; first | apply v_Try | exact v_tryNx | exact v_tryRt | apply v_tryX | exact v_HsN | apply v_As) | (apply isR; first | exact fl_Missing | exact fl_Mixed | exact fl_Bad | exact fl_Large | exact fl_Range)) | walk_at "brx")
local macro_rules | `(tactic| walk_at "brx") => `(tactic| first | ((with_reducible apply v_HsT); (focus (exact hsIs_by (by decide +kernel)))) | ((with_reducible apply v_HsF); (focus (exact hsIs_by (by decide +kernel)))) | ((with_reducible apply ox_ifT); (focus walk_at "yes")) | ((with_reducible apply ox_ifF); (focus walk_at "no")) | ((with_reducible apply ox_iteT); (focus (first | (with_reducible assumption) | omega | decide +kernel))) | ((with_reducible apply ox_iteFz); (focus (first | (with_reducible assumption) | omega | decide +kernel))) | ((with_reducible apply ox_iteF); (focus (first | (with_reducible assumption) | omega | decide +kernel))) | ((with_reducible apply ox_Seq2); (focus (walk_at "go"; done))) | ((with_reducible apply ox_Seq1); (focus (walk_at "go"; done))) | ((with_reducible apply ox_ForI); (focus (walk_at "go"; done))) | ((with_reducible apply rx_Cons2); (focus (walk_at "go"; done))) | ((with_reducible apply rx_Cons1); (focus (walk_at "go"; done))) | ((with_reducible apply rx_B2); (focus (walk_at "go"; done))) | ((with_reducible apply rx_B1); (focus (walk_at "go"; done))) | ((with_reducible apply rx_Call); (focus (walk_at "go"; done))) | ((with_reducible apply rx_CallA); (focus (walk_at "go"; done))) | ((with_reducible apply rx_PropF); (focus (walk_at "go"; done))) | ((with_reducible apply rx_MethFo); (focus (walk_at "go"; done))))


theorem v_CallVS1 {ts : List (Nat × Tb)} {f : FE} {i : Nat} {δ : DSt} {d v : D} {G : List D → R D} {z : D} (h : fVar i δ = .ok d) (k : f δ = .ok (.lst [v])) (l : tbOf (tbN ts 1) d = some G) (m : G [v] = .ok z) : fCallVS ts i f δ = .ok z := fCallVS_e h k l m
theorem v_CallVS2 {ts : List (Nat × Tb)} {f : FE} {i : Nat} {δ : DSt} {d v u : D} {G : List D → R D} {z : D} (h : fVar i δ = .ok d) (k : f δ = .ok (.lst [v, u])) (l : tbOf (tbN ts 2) d = some G) (m : G [v, u] = .ok z) : fCallVS ts i f δ = .ok z := fCallVS_e h k l m
abbrev TS : List (Nat × Tb) := [(1, [("_law_f", m__law_f), ("_law_g", m__law_g), ("_law_one_fails", m__law_one_fails)]), (2, [("_law_h", m__law_h), ("_law_two_fail", m__law_two_fail)])]
theorem f_ok {x : D} : m__law_f [x] = .ok (.lst [x, .int 1]) := by
  unfold m__law_f b__law_f
  walk_at "go"
theorem g_ok {x : D} : m__law_g [x] = .ok (.tup [x, .str (Str.ofString "g")]) := by
  unfold m__law_g b__law_g
  walk_at "go"
theorem h_ok {x y : D} : m__law_h [x, y] = .ok (.tup [y, x]) := by
  unfold m__law_h b__law_h
  walk_at "go"
/-- what the dict says fits the meaning -/
structure MgOk (M : Mng) (mg : D) : Prop where
  con : ∀ n v, M.con n = some v → dIx mg (.str n) = some v
  one : ∀ n f, M.one n = some f → ∃ d G, dIx mg (.str n) = some d ∧ tbOf (tbN TS 1) d = some G ∧ ∀ x, G [x] = .ok (f x)
  two : ∀ n f, M.two n = some f → ∃ d G, dIx mg (.str n) = some d ∧ tbOf (tbN TS 2) d = some G ∧ ∀ x y, G [x, y] = .ok (f x y)
  has : ∀ n, M.has n → dInB (.str n) mg = some true
section
variable {r : List D → R D} {xs : List D} {mg d v u x y z : D} {n : Str} {G : List D → R D} {i : Int}
theorem vo_item (h : L2.atI xs i = some v) : runD 6 (b_value_of r) [.tup [.str "item", .int i], .lst xs, mg] = .ok v := by
  unfold b_value_of
  walk_at "go"
theorem vo_con (h : dIx mg (.str n) = some v) : runD 6 (b_value_of r) [.tup [.str "call", .str n, .tup []], .lst xs, mg] = .ok v := by
  unfold b_value_of
  walk_at "go"
section
local macro_rules | `(tactic| walk_at "call") => `(tactic| apply v_CallVS1)
theorem vo_one (h : dIx mg (.str n) = some d) (h1 : tbOf (tbN TS 1) d = some G) (h2 : G [v] = .ok z) (h3 : r [x, .lst xs, mg] = .ok v) : runD 6 (b_value_of r) [.tup [.str "call", .str n, .tup [x]], .lst xs, mg] = .ok z := by
  have e : ((((([x] : List D).length : Nat) : Int)) == 0) = false := rfl
  unfold b_value_of
  walk_at "go"
end
local macro_rules | `(tactic| walk_at "call") => `(tactic| apply v_CallVS2)
theorem vo_two (h : dIx mg (.str n) = some d) (h1 : tbOf (tbN TS 2) d = some G) (h2 : G [v, u] = .ok z) (h3 : r [x, .lst xs, mg] = .ok v) (h4 : r [y, .lst xs, mg] = .ok u) : runD 6 (b_value_of r) [.tup [.str "call", .str n, .tup [x, y]], .lst xs, mg] = .ok z := by
  have e : ((((([x, y] : List D).length : Nat) : Int)) == 0) = false := rfl
  unfold b_value_of
  walk_at "go"
end
theorem vo_S {n : Nat} : m_value_of (n + 1) = runD 6 (b_value_of (m_value_of n)) := rfl
theorem vo_ok {M : Mng} {mg : D} {xs : List D} (g : MgOk M mg) {t : Trm} {v : D} (h : Vl M xs t v) : ∀ n, t.dep < n → m_value_of n [t.enc, .lst xs, mg] = .ok v := by
  induction h with
  | item h => intro n hn; obtain ⟨k, rfl⟩ : ∃ k, n = k + 1 := ⟨n - 1, by omega⟩; rw [vo_S, enc_item]; exact vo_item h
  | con h => intro n hn; obtain ⟨k, rfl⟩ : ∃ k, n = k + 1 := ⟨n - 1, by omega⟩; rw [vo_S, enc_c0]; exact vo_con (g.con _ _ h)
  | @one n f a v h _ ih =>
    intro m hm
    rw [dep_c1] at hm
    obtain ⟨k, rfl⟩ : ∃ k, m = k + 1 := ⟨m - 1, by omega⟩
    obtain ⟨d, G, h1, h2, h3⟩ := g.one _ _ h
    rw [vo_S, enc_c1]
    exact vo_one h1 h2 (h3 _) (ih k (by omega))
  | @two n f a b v u h _ _ i1 i2 =>
    intro m hm
    rw [dep_c2] at hm
    obtain ⟨k, rfl⟩ : ∃ k, m = k + 1 := ⟨m - 1, by omega⟩
    obtain ⟨d, G, h1, h2, h3⟩ := g.two _ _ h
    rw [vo_S, enc_c2]
    exact vo_two h1 h2 (h3 _ _) (i1 k (by omega)) (i2 k (by omega))
theorem va_l {s0 s1 : DS} {mg : D} {n : Str} (h : dInB (.str n) mg = some true) : l1_value [s0, s1, .fz mg, .fz (.str n)] = .nx [s0, s1, .fz mg, .fz (.str n)] := by
  unfold l1_value
  walk_at "go"
theorem va_loop {s0 s1 : DS} {mg : D} : ∀ (ns : List Str) (s3 : DS), (∀ n ∈ ns, dInB (.str n) mg = some true) → ∃ s3', loopF (pName 3) l1_value (ns.map .str) [s0, s1, .fz mg, s3] = .nx [s0, s1, .fz mg, s3']
  | [], s3, _ => ⟨s3, rfl⟩
  | n :: ns, s3, h => by
    obtain ⟨s3', ih⟩ := va_loop (s0 := s0) (s1 := s1) ns (.fz (.str n)) fun m hm => h m (List.mem_cons_of_mem _ hm)
    exact ⟨s3', by rw [List.map_cons, loopF_nx (put := pName 3) rfl (va_l (h n List.mem_cons_self)), ih]⟩
theorem value_ok {M : Mng} {mg : D} {xs : List D} (g : MgOk M mg) {t : Trm} {v : D} (h : Vl M xs t v) (hd : t.dep ≤ 21) (hz : t.sz ≤ 8000000) : m_value [t.enc, .lst xs, mg] = .ok v := by
  have e1 := names_ok 60 t (by omega) hz
  obtain ⟨s3, lp⟩ := va_loop (s0 := .fz t.enc) (s1 := .fz (.lst xs)) (mg := mg) t.nms .un fun n hn => g.has n (h.nms n hn)
  have e2 := vo_ok g h 60 (by omega)
  generalize t.enc = te at *
  generalize t.nms.map D.str = ns at *
  clear hd hz h g
  unfold m_value b_value
  walk_at "go"
/-! ### a name that is not given -/
theorem loopF_x {put : FP} {body : FS} {d : D} {ds : List D} {δ δ1 : DSt} {n : Str} {xs : List D} (h : put δ d = some δ1) (k : body δ1 = .exc n xs) : loopF put body (d :: ds) δ = .exc n xs := v_loop_cons h k rfl
theorem loopF_r {put : FP} {body : FS} {d r : D} {ds : List D} {δ δ1 δ2 : DSt} (h : put δ d = some δ1) (k : body δ1 = .rt r δ2) : loopF put body (d :: ds) δ = .rt r δ2 := v_loop_cons h k rfl
theorem va_x {s0 s1 : DS} {mg : D} {n : Str} (h : dInB (.str n) mg = some false) : l1_value [s0, s1, .fz mg, .fz (.str n)] = .exc "MissingName" [.str n] := by
  refine OX.e ?_
  unfold l1_value
  walk_at "go"
theorem va_loopX {s0 s1 : DS} {mg : D} {kn : List Str} {m : Str} : ∀ (ns : List Str) (s3 : DS), (∀ n ∈ ns, dInB (.str n) mg = some (decide (n ∈ kn))) → ns.find? (fun n => !decide (n ∈ kn)) = some m → loopF (pName 3) l1_value (ns.map .str) [s0, s1, .fz mg, s3] = .exc "MissingName" [.str m]
  | [], s3, _, h => by cases h
  | n :: ns, s3, hk, h => by
    have k1 := hk n List.mem_cons_self
    rw [List.find?_cons] at h
    rw [List.map_cons]
    by_cases c : n ∈ kn
    · rw [decide_eq_true c] at k1 h
      rw [loopF_nx (put := pName 3) rfl (va_l k1)]
      exact va_loopX ns _ (fun m hm => hk m (List.mem_cons_of_mem _ hm)) h
    · rw [decide_eq_false c] at k1 h
      have h : some n = some m := h
      cases h
      exact loopF_x (put := pName 3) rfl (va_x k1)
theorem value_x {mg : D} {xs : List D} {t : Trm} {kn : List Str} {m : Str} (hk : ∀ n ∈ t.nms, dInB (.str n) mg = some (decide (n ∈ kn))) (hm : t.nms.find? (fun n => !decide (n ∈ kn)) = some m) (hd : t.dep ≤ 21) (hz : t.sz ≤ 8000000) : m_value [t.enc, .lst xs, mg] = .exc "MissingName" [.str m] := by
  have e1 := names_ok 60 t (by omega) hz
  have lp := va_loopX (s0 := .fz t.enc) (s1 := .fz (.lst xs)) (mg := mg) t.nms .un hk hm
  generalize t.enc = te at *
  generalize t.nms.map D.str = ns at *
  clear hd hz hk hm
  refine RX.e ?_
  unfold m_value b_value
  walk_at "go"
theorem mi_l {s0 s1 : DS} {kn : List Str} {n : Str} (h : n ∈ kn) : l1__law_missing [s0, .fz (.lst (kn.map .str)), .fz (.str n)] = .nx [s0, .fz (.lst (kn.map .str)), .fz (.str n)] := by
  have e : dInB (.str n) (.lst (kn.map .str)) = some true := by rw [dInB_strs, decide_eq_true h]
  generalize kn.map D.str = ks at *
  unfold l1__law_missing
  walk_at "go"
theorem mi_x {s0 s1 : DS} {kn : List Str} {n : Str} (h : ¬ n ∈ kn) : l1__law_missing [s0, .fz (.lst (kn.map .str)), .fz (.str n)] = .rt (.str n) [s0, .fz (.lst (kn.map .str)), .fz (.str n)] := by
  have e : dInB (.str n) (.lst (kn.map .str)) = some false := by rw [dInB_strs, decide_eq_false h]
  generalize kn.map D.str = ks at *
  unfold l1__law_missing
  walk_at "go"
theorem mi_loop {s0 : DS} {kn : List Str} : ∀ (ns : List Str) (s2 : DS), (match ns.find? (fun n => !decide (n ∈ kn)) with
      | some m => ∃ s2', loopF (pName 2) l1__law_missing (ns.map .str) [s0, .fz (.lst (kn.map .str)), s2] = .rt (.str m) [s0, .fz (.lst (kn.map .str)), s2']
      | none => ∃ s2', loopF (pName 2) l1__law_missing (ns.map .str) [s0, .fz (.lst (kn.map .str)), s2] = .nx [s0, .fz (.lst (kn.map .str)), s2'])
  | [], s2 => ⟨s2, rfl⟩
  | n :: ns, s2 => by
    rw [List.find?_cons, List.map_cons]
    by_cases c : n ∈ kn
    · rw [decide_eq_true c]
      rw [loopF_nx (put := pName 2) rfl (mi_l (s1 := s2) c)]
      exact mi_loop ns _
    · rw [decide_eq_false c]
      exact ⟨.fz (.str n), loopF_r (put := pName 2) rfl (mi_x (s1 := s2) c)⟩
theorem missing_ok {ns kn : List Str} : m__law_missing [.lst (ns.map .str), .lst (kn.map .str)] = .ok (match ns.find? (fun n => !decide (n ∈ kn)) with | some m => .str m | none => .non) := by
  have h := mi_loop (s0 := .fz (.lst (ns.map .str))) (kn := kn) ns .un
  cases e : ns.find? (fun n => !decide (n ∈ kn)) with
  | some m =>
    rw [e] at h
    obtain ⟨s2, lp⟩ := h
    generalize ns.map D.str = nd at *
    generalize kn.map D.str = kd at *
    show _ = R.ok (D.str m)
    unfold m__law_missing b__law_missing
    walk_at "go"
  | none =>
    rw [e] at h
    obtain ⟨s2, lp⟩ := h
    generalize ns.map D.str = nd at *
    generalize kn.map D.str = kd at *
    show _ = R.ok D.non
    unfold m__law_missing b__law_missing
    walk_at "go"
end LW
namespace LW
open PySem PySem.Spec PyProof.Rows DL
/-! G04b: law_k04's asking. -/
local macro_rules | `(tactic| walk_at "yes") => `(tactic| first | (with_reducible assumption) | (with_reducible rfl) | ((with_reducible refine decide_eq_true ?_); omega) | ((with_reducible refine beq_iff_eq.mpr ?_); omega) | ((with_reducible refine decide_eq_true ?_); with_reducible assumption) | ((with_reducible refine Bool.not_eq_true'.mpr ?_); walk_at "no") | ((with_reducible refine Bool.and_eq_true_iff.mpr ⟨?_, ?_⟩) <;> walk_at "yes") | ((with_reducible refine Bool.or_eq_true_iff.mpr ?_); first | (left; walk_at "yes") | (right; walk_at "yes")) | decide +kernel)
local macro_rules | `(tactic| walk_at "no") => `(tactic| first | (with_reducible assumption) | (with_reducible rfl) | ((with_reducible refine decide_eq_false ?_); omega) | ((with_reducible refine beq_false_of_ne ?_); omega) | ((with_reducible refine decide_eq_false ?_); with_reducible assumption) | ((with_reducible refine Bool.not_eq_false'.mpr ?_); walk_at "yes") | ((with_reducible refine Bool.or_eq_false_iff.mpr ⟨?_, ?_⟩) <;> walk_at "no") | ((with_reducible refine Bool.and_eq_false_iff.mpr ?_); first | (left; walk_at "no") | (right; walk_at "no")) | decide +kernel)
local macro_rules | `(tactic| walk_at "sh") => `(tactic| first | (with_reducible first | (apply sh_hyp2; assumption) | (apply sh_hyp; assumption)) | (with_reducible apply sh_num; first | omega | assumption) | (with_reducible exact sh_lit) | ((with_reducible apply sh_app) <;> walk_at "sh") | decide +kernel)
local macro_rules | `(tactic| walk_at "tf") => `(tactic| first | (refine hyp_T ?_; walk_at "yes") | (refine hyp_F ?_; walk_at "no"))
local macro_rules | `(tactic| walk_at "szg") => `(tactic| first | (with_reducible assumption) | omega | exact lim64_by (by omega) | exact okLe_by (by simp only [List.length_append, List.length_cons, List.length_nil, List.length_map, List.length_range]; omega) | exact okLt_by (by simp only [List.length_append, List.length_cons, List.length_nil, List.length_map, List.length_range]; omega) | exact mulOk_l (by assumption) | exact mulOk_r (by assumption) | exact mulOk_l (lim64_by (by omega)) | exact mulOk_r (lim64_by (by omega)) | exact log_by (by omega) | exact small_by (by omega) | ((with_reducible first | apply okS | apply okS1) <;> walk_at "sh"))
local macro_rules | `(tactic| walk_at "st") => `(tactic| first | (with_reducible first | (apply isR; first | (apply hyp_ok; assumption) | (apply hyp_exc; assumption) | apply v_varS | exact v_var0 | apply v_Cons | exact v_Nil | exact v_C | apply v_B | apply v_L | apply v_U | apply v_Call | apply v_Test | apply v_Tup | apply v_Lst | apply v_Range | apply v_Items | apply v_Lc | apply v_Some | exact v_No | apply v_Sl | apply v_SlS | apply v_ownS | exact v_own0 | apply v_NotB | apply v_Val | apply v_SlOw | apply v_LenOw | apply v_IxOw | apply v_InOwT | apply v_InOwF | apply v_Range3 | apply v_LcL | apply v_Lc2 | apply v_Join | apply v_Prop | apply v_MethF | apply v_CallO | apply v_MakeSK | apply v_Bin | apply v_CallK2 | apply v_CallK | apply v_CallV | apply v_TruB | apply v_TruL | apply v_TruT | exact v_Dic0 | exact v_fin_rt | exact v_fin_nx | exact v_fin_exc | apply v_fin_rt2 | exact mk_8 | exact mk_0 | exact mk_1 | exact mk_2 | exact v_lc_nil | apply v_run | walk_at "call") | (apply isS; first | (apply hyp_so; assumption) | apply w_ixl | apply w_ixt | apply w_ixc | exact dAdd_ii | apply dMod_ii | exact dIntS_i | apply w_dEq | apply w_dNe | exact dSub_ii | apply dMul_ii | exact dEqB_ii | exact dEqB_ss | apply w_rangeL | apply w_range1 | apply dRange_1 | apply dRange_2 | apply dAdd_ss | exact dLt_ii | exact dLe_ii | exact dGt_ii | exact dGe_ii | exact dLen_l | exact dLen_t | exact dLen_c | exact dItems_l | exact dItems_t | exact dItems_s | apply w_fdiv | apply w_dIn | apply w_dNotIn | exact at_0 | exact at_1 | exact at_2 | exact at_3 | exact at_4 | exact at_5 | exact at_6 | exact at_7 | exact at_8 | exact at_9 | exact at_10 | exact at_11 | exact at_12 | exact at_13 | exact at_14 | exact at_15 | exact at_m1 | exact dNeg_i | exact dAbs_i | exact w_max | exact w_min | exact dInt_i | exact dStr_s | exact dList_l | exact dList_t | exact dTuple_l | exact dTuple_t | exact dCut_l | exact dCut_t | exact dIsN_e | exact dNotN_e | exact dIsi_n | exact dIsi_b | exact dIsi_i | exact dIsi_s | exact dIsi_t | exact dIsi_l | exact dAddS_ii | exact dGcd_ii | apply w_slot | exact get_0 | apply get_s | exact w_isC | exact fld_P1 | exact fld_P0 | exact fld_P2 | exact fld_U | exact fld_F0 | exact fld_F1 | exact fld_F2 | exact fld_F3 | apply dAdd_ll | apply dAdd_tt | apply dMul_li | apply dStr_i | apply dLen_s | apply dAddS_ss | apply dLcm_ii | apply dLcm_iii | apply dJoin_l | apply dPick_l | apply dRange3_e | apply w_selfL | apply w_selfT | apply v_pName | apply v_pCons | exact v_pNil | apply v_pTup2 | apply v_pTup3 | apply v_pTup4 | walk_at "call") | (apply isO; first | (apply hyp_o; assumption) | apply v_Seq | apply v_thn_nx | apply v_Set | apply v_IfS | exact v_Skip | exact v_thn_rt | apply v_Ret | apply v_Frz | apply v_For | apply v_App | apply v_New | apply v_Ext | apply v_Asg | apply v_Match | apply v_Aug | apply v_Exp | exact v_thn_bk | exact v_thn_ct | exact v_thn_exc | exact v_loop_nil | apply v_loop_cons | apply v_lnx_nx | apply v_lnx_ct | exact v_lnx_bk | exact v_lnx_rt | exact v_lnx_exc | apply v_Raise1 | apply v_Raise2 | walk_at "call") | (apply hyp_e; assumption) | apply set_s | exact set_0 | exact ini_0 | apply ini_u | apply ini_c | exact mrg_i | exact mrg_l | exact mrg_d | apply IsAt.mk' | apply TsAt.mk' | apply Is.mk | exact (Eqb.int _ _) | exact (Eqb.non _) | exact (Eqb.bl _ _) | exact (EqbL.nil _) | apply Eqb.lst | apply Eqb.tup | apply EqbL.cons | apply EqbL.map | apply bl_eqT | apply bl_eqF | walk_at "call") | walk_at "br" | walk_at "cm")
local macro_rules | `(tactic| walk_at "br") => `(tactic| first | ((with_reducible apply v_ifT); (focus walk_at "yes")) | ((with_reducible apply v_ifF); (focus walk_at "no")) | ((with_reducible apply v_iteT); (focus (first | (with_reducible assumption) | omega | decide +kernel))) | ((with_reducible apply v_iteFz); (focus (first | (with_reducible assumption) | omega | decide +kernel))) | ((with_reducible apply v_iteF); (focus (first | (with_reducible assumption) | omega | decide +kernel))) | ((with_reducible apply v_IfT); (focus walk_at "go"); (focus walk_at "yes")) | ((with_reducible apply v_IfF); (focus walk_at "go"); (focus walk_at "no")) | ((with_reducible apply v_AndF); (focus walk_at "go"); (focus walk_at "no")) | ((with_reducible apply v_OrT); (focus walk_at "go"); (focus walk_at "yes")) | (with_reducible first | apply v_ifSet | apply v_ifSet2) | (with_reducible first | apply v_And | apply v_Or | apply v_AndE | apply v_OrE | apply v_IfB))
local macro_rules | `(tactic| walk_at "cm") => `(tactic| with_reducible first | apply v_lc_rangeN | apply v_lc_range | apply v_lc_c1 | apply v_lc_c2 | apply v_lc_c3 | apply v_lc_map | apply v_lc_fltN | apply v_lc_fltM | apply v_lc_all)
local macro_rules | `(tactic| walk_at "go") => `(tactic| first | (walk_at "st" <;> walk_at "go") | (intro; walk_at "go") | (with_reducible first | exact eqD_refl | exact eqL_refl | exact eqB_refl | exact eqO_refl) | walk_at "szg" | walk_at "tf" | skip)
-- GOX
local macro_rules | `(tactic| walk_at "st") => `(tactic| first | (with_reducible first | (apply ox_hyp; assumption) | (apply rx_hyp; assumption) | apply ox_IfS | apply ox_Set | apply ox_Ret | apply ox_Exp | apply ox_New | apply ox_App | apply ox_Ext | apply ox_Frz | apply ox_For | apply ox_Raise1 | apply ox_Raise2 | apply ox_Match | apply ox_Asg | apply rx_run | apply rx_CallK2 | apply rx_CallK | apply rx_Lst | apply rx_Tup | apply rx_L | apply rx_U | exact atD_0 | apply atD_s | (apply isO; first | apply v_Try | exact v_tryNx | exact v_tryRt | apply v_tryX | exact v_HsN | apply v_As) | (apply isR; first | exact fl_Missing | exact fl_Mixed | exact fl_Bad | exact fl_Large | exact fl_Range)) | walk_at "brx")
local macro_rules | `(tactic| walk_at "brx") => `(tactic| first | ((with_reducible apply v_HsT); (focus (exact hsIs_by (by decide +kernel)))) | ((with_reducible apply v_HsF); (focus (exact hsIs_by (by decide +kernel)))) | ((with_reducible apply ox_ifT); (focus walk_at "yes")) | ((with_reducible apply ox_ifF); (focus walk_at "no")) | ((with_reducible apply ox_iteT); (focus (first | (with_reducible assumption) | omega | decide +kernel))) | ((with_reducible apply ox_iteFz); (focus (first | (with_reducible assumption) | omega | decide +kernel))) | ((with_reducible apply ox_iteF); (focus (first | (with_reducible assumption) | omega | decide +kernel))) | ((with_reducible apply ox_Seq2); (focus (walk_at "go"; done))) | ((with_reducible apply ox_Seq1); (focus (walk_at "go"; done))) | ((with_reducible apply ox_ForI); (focus (walk_at "go"; done))) | ((with_reducible apply rx_Cons2); (focus (walk_at "go"; done))) | ((with_reducible apply rx_Cons1); (focus (walk_at "go"; done))) | ((with_reducible apply rx_B2); (focus (walk_at "go"; done))) | ((with_reducible apply rx_B1); (focus (walk_at "go"; done))) | ((with_reducible apply rx_Call); (focus (walk_at "go"; done))) | ((with_reducible apply rx_CallA); (focus (walk_at "go"; done))) | ((with_reducible apply rx_PropF); (focus (walk_at "go"; done))) | ((with_reducible apply rx_MethFo); (focus (walk_at "go"; done))))
def cD : D := .tup [.str "c", .int 5]
def M4 : Mng := ⟨fun n => if n = "c" then some cD else none, fun n => if n = "f" then some (fun v => .lst [v, .int 1]) else if n = "g" then some (fun v => .tup [v, .str (Str.ofString "g")]) else none, fun n => if n = "h" then some (fun v u => .tup [u, v]) else none⟩
def mg4 : D := .dic ((["f", "g", "h", "c"] : List Str).map Sum.inr) [.fn "_law_f", .fn "_law_g", .fn "_law_h", cD]
theorem con4 {n : Str} {v : D} (h : M4.con n = some v) : n = "c" ∧ v = cD := by
  have h : (if n = "c" then some cD else none) = some v := h
  split at h
  · exact ⟨by assumption, (Option.some.inj h).symm⟩
  · cases h
theorem one4 {n : Str} {f : D → D} (h : M4.one n = some f) : (n = "f" ∧ f = fun v => .lst [v, .int 1]) ∨ (n = "g" ∧ f = fun v => .tup [v, .str (Str.ofString "g")]) := by
  have h : (if n = "f" then some (fun v => D.lst [v, .int 1]) else if n = "g" then some (fun v => D.tup [v, .str (Str.ofString "g")]) else none) = some f := h
  split at h
  · exact .inl ⟨by assumption, (Option.some.inj h).symm⟩
  · split at h
    · exact .inr ⟨by assumption, (Option.some.inj h).symm⟩
    · cases h
theorem two4 {n : Str} {f : D → D → D} (h : M4.two n = some f) : n = "h" ∧ f = fun v u => .tup [u, v] := by
  have h : (if n = "h" then some (fun v u => D.tup [u, v]) else none) = some f := h
  split at h
  · exact ⟨by assumption, (Option.some.inj h).symm⟩
  · cases h
theorem some_of {α : Type} {o : Option α} (h : o ≠ none) : ∃ x, o = some x := by cases o with
  | none => exact absurd rfl h
  | some x => exact ⟨x, rfl⟩
theorem has4 {n : Str} (h : M4.has n) : n = "c" ∨ n = "f" ∨ n = "g" ∨ n = "h" := by
  rcases h with h | h | h
  · obtain ⟨x, h⟩ := some_of h
    exact .inl (con4 h).1
  · obtain ⟨x, h⟩ := some_of h
    rcases one4 h with ⟨rfl, _⟩ | ⟨rfl, _⟩
    · exact .inr (.inl rfl)
    · exact .inr (.inr (.inl rfl))
  · obtain ⟨x, h⟩ := some_of h
    exact .inr (.inr (.inr (two4 h).1))
theorem mgOk4 : MgOk M4 mg4 := ⟨fun n v h => by
    obtain ⟨rfl, rfl⟩ := con4 h
    kernel_rfl, fun n f h => by
    rcases one4 h with ⟨rfl, rfl⟩ | ⟨rfl, rfl⟩
    · exact ⟨.fn "_law_f", m__law_f, by kernel_rfl, by kernel_rfl, fun x => f_ok⟩
    · exact ⟨.fn "_law_g", m__law_g, by kernel_rfl, by kernel_rfl, fun x => g_ok⟩, fun n f h => by
    obtain ⟨rfl, rfl⟩ := two4 h
    exact ⟨.fn "_law_h", m__law_h, by kernel_rfl, by kernel_rfl, fun x y => h_ok⟩, fun n h => by
    rcases has4 h with rfl | rfl | rfl | rfl <;> kernel_rfl⟩
theorem eq4 : M4.Eq 10 := ⟨fun n v h => by
    obtain ⟨_, rfl⟩ := con4 h
    exact (Eqb.tup (n := 0) (.cons (.str (by decide +kernel)) (.cons (.int _ _) (.nil _)))).mono (by decide), fun n f h k v hv => by
    rcases one4 h with ⟨_, rfl⟩ | ⟨_, rfl⟩
    · exact Eqb.lst (.cons hv (.cons (.int _ _) (.nil _)))
    · exact Eqb.tup (.cons hv (.cons (.str (by decide +kernel)) (.nil _))), fun n f h k v u hv hu => by
    obtain ⟨_, rfl⟩ := two4 h
    exact Eqb.tup (.cons hu (.cons hv (.nil _)))⟩
section
variable {te v : D} {xs ks : List D} {m : Str} {nd : List D} {d g : Int}
theorem ask0 (h : m_value [te, .lst xs, .dic [] []] = .exc "MissingName" [.str m]) : m__law_ask [te, .lst xs, .int 0] = .exc "MissingName" [.str m] := by
  refine RX.e ?_
  unfold m__law_ask b__law_ask
  walk_at "go"
theorem ask1 (h : m_value ([te, .lst xs] ++ [.dic ((["f"] : List Str).map Sum.inr) [.fn "_law_one_fails"]]) = .exc "MissingName" [.str m]) : m__law_ask [te, .lst xs, .int 1] = .exc "MissingName" [.str m] := by
  refine RX.e ?_
  unfold m__law_ask b__law_ask
  walk_at "go"
theorem ask2 (h : m_value ([te, .lst xs] ++ [.dic ((["g", "h"] : List Str).map Sum.inr) [.fn "_law_one_fails", .fn "_law_two_fail"]]) = .exc "MissingName" [.str m]) : m__law_ask [te, .lst xs, .int 2] = .exc "MissingName" [.str m] := by
  refine RX.e ?_
  unfold m__law_ask b__law_ask
  walk_at "go"
theorem ask3 (h : m_value ([te, .lst xs] ++ [.dic ((["c", "h"] : List Str).map Sum.inr) [.int 0, .fn "_law_two_fail"]]) = .exc "MissingName" [.str m]) : m__law_ask [te, .lst xs, .int 3] = .exc "MissingName" [.str m] := by
  refine RX.e ?_
  unfold m__law_ask b__law_ask
  walk_at "go"
theorem ask4 (h : m_value ([te, .lst xs] ++ [.dic ((["f", "g", "h"] : List Str).map Sum.inr) [.fn "_law_one_fails", .fn "_law_one_fails", .fn "_law_two_fail"]]) = .exc "MissingName" [.str m]) : m__law_ask [te, .lst xs, .int 4] = .exc "MissingName" [.str m] := by
  refine RX.e ?_
  unfold m__law_ask b__law_ask
  walk_at "go"
theorem ask5 (h : m_value ([te, .lst xs] ++ [.dic ((["f", "g", "c"] : List Str).map Sum.inr) [.fn "_law_one_fails", .fn "_law_one_fails", .int 0]]) = .exc "MissingName" [.str m]) : m__law_ask [te, .lst xs, .int 5] = .exc "MissingName" [.str m] := by
  refine RX.e ?_
  unfold m__law_ask b__law_ask
  walk_at "go"
def L7 : List D := [.lst [], .lst [.str "f"], .lst [.str "g", .str "h"], .lst [.str "c", .str "h"], .lst [.str "f", .str "g", .str "h"], .lst [.str "f", .str "g", .str "c"], .lst [.str "f", .str "g", .str "h", .str "c"]]
theorem right_none (hk : dIx (.lst L7) (.int g) = some (.lst ks)) (hm : m__law_missing [.lst nd, .lst ks] = .ok .non) (hv : m_value [te, .lst xs, mg4] = .ok v) (he : dEqB v v = some true) : m__law_right [.lst [te, v, .lst nd, .int d], .lst xs, .int g] = .ok (.bl true) := by
  have hv : m_value ([te, .lst xs] ++ [.dic ((["f", "g", "h", "c"] : List Str).map Sum.inr) [.fn "_law_f", .fn "_law_g", .fn "_law_h", .tup [.str "c", .int 5]]]) = .ok v := hv
  unfold L7 at hk
  unfold m__law_right b__law_right
  walk_at "go"
theorem right_some (hk : dIx (.lst L7) (.int g) = some (.lst ks)) (hm : m__law_missing [.lst nd, .lst ks] = .ok (.str m)) (ha : m__law_ask [te, .lst xs, .int g] = .exc "MissingName" [.str m]) (hs : Sok m) : m__law_right [.lst [te, v, .lst nd, .int d], .lst xs, .int g] = .ok (.bl true) := by
  have e : dEqB (.str m) (.str m) = some true := dEqB_refl (.str hs)
  have e2 : dIsi "str" (.str m) = some (.bl true) := rfl
  have e3 : dIsN (.str m) = some (.bl false) := rfl
  have hb : (fExp (fCall m__law_ask (fCons (fB dIx (fVar 0) (fC (.int 0))) (fCons (fVar 1) (fCons (fVar 2) fNil))))) [.fz (.lst [te, v, .lst nd, .int d]), .fz (.lst xs), .fz (.int g), .fz (.lst ks), .fz (.str m), .fz .non, .fz (.bl false), .un] = .exc "MissingName" [.str m] := by
    clear hm hk
    refine OX.e ?_
    walk_at "go"
  unfold L7 at hk
  unfold m__law_right b__law_right
  walk_at "go"
end
end LW
namespace LW
open PySem PySem.Spec PyProof.Rows DL
/-! M04: law_k04, the steps. -/
local macro_rules | `(tactic| walk_at "sz") => `(tactic| first | assumption | exact fdiv_by (by omega) (by omega) | omega | exact lim64_by (by omega) | exact okLe_by (by simp only [List.length_append, List.length_cons, List.length_nil, List.length_map]; omega) | exact okLt_by (by simp only [List.length_append, List.length_cons, List.length_nil, List.length_map]; omega) | exact mulOk_l (by assumption) | exact mulOk_r (by assumption) | exact mulOk_l (lim64_by (by omega)) | exact mulOk_r (lim64_by (by omega)) | exact log_by (by omega) | (refine Eqb.lst ?_; repeat (first | exact EqbL.nil _ | refine EqbL.cons (Eqb.int _ _) ?_)) | (refine Eqb.tup ?_; repeat (first | exact EqbL.nil _ | refine EqbL.cons (Eqb.int _ _) ?_)))
local macro_rules | `(tactic| walk_at "e2") => `(tactic| simp (disch := walk_at "sz") only [R.bind_ok, R.bind_bad, R.bind_exc, R.of_some, R.of_none, O.on_ok, O.on_bad, O.on_exc, fVar_0, fVar_s, fOwn_0, fOwn_s, fC_e, fU_e, fB_e, fNil_e, fCons_e, fL_e, fCall_e, fTup_e, fLst_e, rIf_t, rIf_f, fIf_e, tBl_e, fTest_e, fTru_e, fNotB_e, fAndB_e, fOrB_e, fVal_e, fAnd_e, fOr_e, fNo_e, tInt_e, fSome_e, fSl_e, fSlOw_e, fLenOw_e, fIxOw_e, fInOw_e, thn_nx, thn_rt, thn_bk, thn_ct, thn_exc, thn_bad, fSeq_e, oIf_t, oIf_f, oIf_exc, fIfS_e, fSkip_e, fRet_e, fExp_e, fSet_e, fNew_e, fApp_e, fExt_e, fPop_e, fPut_e, fFrz_e, frz_0o, frz_s, fFor_e, fItems_e, fRange_e, fAsg_e, oMat_e, fMatch_e, fAug_e, fin_rt, fin_nx, fin_exc, runD_e, pName_e, pNil_e, pCons_e, pTup_e, dAdd_ii, dAdd_ss, dAdd_ll, dAdd_tt, dSub_ii, dMul_ii, dMul_li, dFdiv_ii, dMod_ii, dNeg_i, dLt_ii, dLe_ii, dGt_ii, dGe_ii, dIx_l, dIx_t, dIx_c, dIx_s, dLen_l, dLen_t, dLen_c, dLen_s, dAbs_i, dMax2_ii, dMin2_ii, dInt_i, dStr_i, dStr_s, dList_l, dList_t, dTuple_l, dTuple_t, dCut_l, dCut_t, dItems_l, dItems_t, dItems_s, dRange_1, dRange_2, dIsN_e, dNotN_e, isNon_n, isNon_b, isNon_i, isNon_s, isNon_t, isNon_l, isNon_o, dIsi_n, dIsi_b, dIsi_i, dIsi_s, dIsi_t, dIsi_l, dIn_e, dNotIn_e, dEqB_ss, dEqB_ii, dInB_strs, dInB_strsT, dEq_e, dNe_e, beq_self_eq_true, List.set_cons_zero, List.set_cons_succ, List.length_cons, List.length_nil, List.length_map, List.length_append, Option.map_some, Option.map_none, Option.bind_some, Option.bind_none, if_true, if_false, ite_true, ite_false, decide_true, decide_false, and_self, true_and, and_true, Int.zero_add, Int.toNat_natCast, cut_tl, cut_all, List.map_append, List.map_cons, List.map_nil, List.nil_append, List.cons_append, List.append_nil, List.replicate, Int.reduceLT, Int.reduceLE, Int.reduceAdd, Int.reduceSub, Int.reduceMul, Int.reduceNeg, Int.reduceToNat, Nat.reduceAdd, Nat.reduceSub, Nat.reduceLT, Nat.reduceLeDiff, Nat.reduceMul, Int.reduceEq, Nat.reduceEqDiff, Bool.not_true, Bool.not_false, Bool.and_true, Bool.true_and, Bool.and_false, Bool.false_and, Bool.or_true, Bool.true_or, Bool.or_false, Bool.false_or, Bool.and_self, Bool.or_self, reduceCtorEq, decide_eq_true_eq, Bool.false_eq_true, fLc_e, fLcL_e, lcF_nil, fJoin_e, rJoin_e, dJoin_l, oPop_ok, oPop_2, oPop_1, cast_0, cast_1, cast_2, cast_3, at_0, at_1, at_2, at_3, at_4, at_5, at_6, Int.reduceBEq, Nat.reduceBEq, oApp_ok, oExt_ok, fProp_e, rProp_e, quiet_ok, dSlot_e, fMakeSK_e, rMakeN_e, rNum_e, gMrg_e, mrg_t, mrg_f, mrg_n, fMethF_e, rMethF_e, dIntS_i, dAddS_ii, dAddS_ss, dGcd_ii, dLcm_ii, dLcm_iii, dEqB_self, at_7, at_8, at_9, at_10, at_11, at_12, at_13, at_14, at_15, at_m1, cut_toL, cut_fromL, cut_btw, List.take_succ_cons, List.take_zero, List.drop_succ_cons, List.drop_zero, List.take_nil, List.drop_nil, isT_NoneType_bool, isT_NoneType_int, isT_NoneType_str, isT_NoneType_list, isT_NoneType_tuple, isT_bool_bool, isT_bool_int, isT_bool_str, isT_bool_list, isT_bool_tuple, isT_int_bool, isT_int_int, isT_int_str, isT_int_list, isT_int_tuple, isT_str_bool, isT_str_int, isT_str_str, isT_str_list, isT_str_tuple, isT_list_bool, isT_list_int, isT_list_str, isT_list_list, isT_list_tuple, isT_tuple_bool, isT_tuple_int, isT_tuple_str, isT_tuple_list, isT_tuple_tuple, fSlS_e, dPick_l, fRange3_e, dRange3_e, fLc2_e, fCallK_e, fCallO_e, rCallO_e, fBin_e, rBin_e, oStore_s, oAsg_e2, fDic0_e, fCallV_e, List.getElem?_cons_zero, List.getElem?_cons_succ, *])
local macro_rules | `(tactic| walk_at "ev") => `(tactic| simp only [R.bind_ok, R.bind_bad, R.bind_exc, R.of_some, R.of_none, O.on_ok, O.on_bad, O.on_exc, fVar_0, fVar_s, fOwn_0, fOwn_s, fC_e, fU_e, fB_e, fNil_e, fCons_e, fL_e, fCall_e, fTup_e, fLst_e, rIf_t, rIf_f, fIf_e, tBl_e, fTest_e, fTru_e, fNotB_e, fAndB_e, fOrB_e, fVal_e, fAnd_e, fOr_e, fNo_e, tInt_e, fSome_e, fSl_e, fSlOw_e, fLenOw_e, fIxOw_e, fInOw_e, thn_nx, thn_rt, thn_bk, thn_ct, thn_exc, thn_bad, fSeq_e, oIf_t, oIf_f, oIf_exc, fIfS_e, fSkip_e, fRet_e, fExp_e, fSet_e, fNew_e, fApp_e, fExt_e, fPop_e, fPut_e, fFrz_e, frz_0o, frz_s, fFor_e, fItems_e, fRange_e, fAsg_e, oMat_e, fMatch_e, fAug_e, fin_rt, fin_nx, fin_exc, runD_e, pName_e, pNil_e, pCons_e, pTup_e, dAdd_ii, dAdd_ss, dAdd_ll, dAdd_tt, dSub_ii, dMul_ii, dMul_li, dFdiv_ii, dMod_ii, dNeg_i, dLt_ii, dLe_ii, dGt_ii, dGe_ii, dIx_l, dIx_t, dIx_c, dIx_s, dLen_l, dLen_t, dLen_c, dLen_s, dAbs_i, dMax2_ii, dMin2_ii, dInt_i, dStr_i, dStr_s, dList_l, dList_t, dTuple_l, dTuple_t, dCut_l, dCut_t, dItems_l, dItems_t, dItems_s, dRange_1, dRange_2, dIsN_e, dNotN_e, isNon_n, isNon_b, isNon_i, isNon_s, isNon_t, isNon_l, isNon_o, dIsi_n, dIsi_b, dIsi_i, dIsi_s, dIsi_t, dIsi_l, dIn_e, dNotIn_e, dEqB_ss, dEqB_ii, dInB_strs, dInB_strsT, dEq_e, dNe_e, beq_self_eq_true, List.set_cons_zero, List.set_cons_succ, List.length_cons, List.length_nil, List.length_map, List.length_append, Option.map_some, Option.map_none, Option.bind_some, Option.bind_none, if_true, if_false, ite_true, ite_false, decide_true, decide_false, and_self, true_and, and_true, Int.zero_add, Int.toNat_natCast, cut_tl, cut_all, List.map_append, List.map_cons, List.map_nil, List.nil_append, List.cons_append, List.append_nil, List.replicate, Int.reduceLT, Int.reduceLE, Int.reduceAdd, Int.reduceSub, Int.reduceMul, Int.reduceNeg, Int.reduceToNat, Nat.reduceAdd, Nat.reduceSub, Nat.reduceLT, Nat.reduceLeDiff, Nat.reduceMul, Int.reduceEq, Nat.reduceEqDiff, Bool.not_true, Bool.not_false, Bool.and_true, Bool.true_and, Bool.and_false, Bool.false_and, Bool.or_true, Bool.true_or, Bool.or_false, Bool.false_or, Bool.and_self, Bool.or_self, reduceCtorEq, decide_eq_true_eq, Bool.false_eq_true, fLc_e, fLcL_e, lcF_nil, fJoin_e, rJoin_e, dJoin_l, oPop_ok, oPop_2, oPop_1, cast_0, cast_1, cast_2, cast_3, at_0, at_1, at_2, at_3, at_4, at_5, at_6, Int.reduceBEq, Nat.reduceBEq, oApp_ok, oExt_ok, fProp_e, rProp_e, quiet_ok, dSlot_e, fMakeSK_e, rMakeN_e, rNum_e, gMrg_e, mrg_t, mrg_f, mrg_n, fMethF_e, rMethF_e, dIntS_i, dAddS_ii, dAddS_ss, dGcd_ii, dLcm_ii, dLcm_iii, at_7, at_8, at_9, at_10, at_11, at_12, at_13, at_14, at_15, isT_NoneType_bool, isT_NoneType_int, isT_NoneType_str, isT_NoneType_list, isT_NoneType_tuple, isT_bool_bool, isT_bool_int, isT_bool_str, isT_bool_list, isT_bool_tuple, isT_int_bool, isT_int_int, isT_int_str, isT_int_list, isT_int_tuple, isT_str_bool, isT_str_int, isT_str_str, isT_str_list, isT_str_tuple, isT_list_bool, isT_list_int, isT_list_str, isT_list_list, isT_list_tuple, isT_tuple_bool, isT_tuple_int, isT_tuple_str, isT_tuple_list, isT_tuple_tuple, fSlS_e, dPick_l, fRange3_e, dRange3_e, fLc2_e, fCallK_e, fCallO_e, rCallO_e, fBin_e, rBin_e, oStore_s, oAsg_e2, fDic0_e, fCallV_e, List.getElem?_cons_zero, List.getElem?_cons_succ, *])
local macro_rules | `(tactic| walk_at "rd") => `(tactic| simp (disch := walk_at "sz") only [R.bind_ok, R.bind_bad, R.bind_exc, R.of_some, R.of_none, O.on_ok, O.on_bad, O.on_exc, fVar_0, fVar_s, fOwn_0, fOwn_s, fC_e, fU_e, fB_e, fNil_e, fCons_e, fL_e, fCall_e, fTup_e, fLst_e, rIf_t, rIf_f, fIf_e, tBl_e, fTest_e, fTru_e, fNotB_e, fAndB_e, fOrB_e, fVal_e, fAnd_e, fOr_e, fNo_e, tInt_e, fSome_e, fSl_e, fSlOw_e, fLenOw_e, fIxOw_e, fInOw_e, thn_nx, thn_rt, thn_bk, thn_ct, thn_exc, thn_bad, fSeq_e, oIf_t, oIf_f, oIf_exc, fIfS_e, fSkip_e, fRet_e, fExp_e, fSet_e, fNew_e, fApp_e, fExt_e, fPop_e, fPut_e, fFrz_e, frz_0o, frz_s, fFor_e, fItems_e, fRange_e, fAsg_e, oMat_e, fMatch_e, fAug_e, fin_rt, fin_nx, fin_exc, runD_e, pName_e, pNil_e, pCons_e, pTup_e, dAdd_ii, dAdd_ss, dAdd_ll, dAdd_tt, dSub_ii, dMul_ii, dMul_li, dFdiv_ii, dMod_ii, dNeg_i, dLt_ii, dLe_ii, dGt_ii, dGe_ii, dIx_l, dIx_t, dIx_c, dIx_s, dLen_l, dLen_t, dLen_c, dLen_s, dAbs_i, dMax2_ii, dMin2_ii, dInt_i, dStr_i, dStr_s, dList_l, dList_t, dTuple_l, dTuple_t, dCut_l, dCut_t, dItems_l, dItems_t, dItems_s, dRange_1, dRange_2, dIsN_e, dNotN_e, isNon_n, isNon_b, isNon_i, isNon_s, isNon_t, isNon_l, isNon_o, dIsi_n, dIsi_b, dIsi_i, dIsi_s, dIsi_t, dIsi_l, dIn_e, dNotIn_e, dEqB_ss, dEqB_ii, dInB_strs, dInB_strsT, dEq_e, dNe_e, beq_self_eq_true, List.set_cons_zero, List.set_cons_succ, List.length_cons, List.length_nil, List.length_map, List.length_append, Option.map_some, Option.map_none, Option.bind_some, Option.bind_none, if_true, if_false, ite_true, ite_false, decide_true, decide_false, and_self, true_and, and_true, Int.zero_add, Int.toNat_natCast, cut_tl, cut_all, List.map_append, List.map_cons, List.map_nil, List.nil_append, List.cons_append, List.append_nil, List.replicate, Int.reduceLT, Int.reduceLE, Int.reduceAdd, Int.reduceSub, Int.reduceMul, Int.reduceNeg, Int.reduceToNat, Nat.reduceAdd, Nat.reduceSub, Nat.reduceLT, Nat.reduceLeDiff, Nat.reduceMul, Int.reduceEq, Nat.reduceEqDiff, Bool.not_true, Bool.not_false, Bool.and_true, Bool.true_and, Bool.and_false, Bool.false_and, Bool.or_true, Bool.true_or, Bool.or_false, Bool.false_or, Bool.and_self, Bool.or_self, reduceCtorEq, decide_eq_true_eq, Bool.false_eq_true, fLc_e, fLcL_e, lcF_nil, fJoin_e, rJoin_e, dJoin_l, oPop_ok, oPop_2, oPop_1, cast_0, cast_1, cast_2, cast_3, at_0, at_1, at_2, at_3, at_4, at_5, at_6, Int.reduceBEq, Nat.reduceBEq, oApp_ok, oExt_ok, fProp_e, rProp_e, quiet_ok, dSlot_e, fMakeSK_e, rMakeN_e, rNum_e, gMrg_e, mrg_t, mrg_f, mrg_n, fMethF_e, rMethF_e, dIntS_i, dAddS_ii, dAddS_ss, dGcd_ii, dLcm_ii, dLcm_iii, dEqB_self, at_7, at_8, at_9, at_10, at_11, at_12, at_13, at_14, at_15, at_m1, cut_toL, cut_fromL, cut_btw, List.take_succ_cons, List.take_zero, List.drop_succ_cons, List.drop_zero, List.take_nil, List.drop_nil, isT_NoneType_bool, isT_NoneType_int, isT_NoneType_str, isT_NoneType_list, isT_NoneType_tuple, isT_bool_bool, isT_bool_int, isT_bool_str, isT_bool_list, isT_bool_tuple, isT_int_bool, isT_int_int, isT_int_str, isT_int_list, isT_int_tuple, isT_str_bool, isT_str_int, isT_str_str, isT_str_list, isT_str_tuple, isT_list_bool, isT_list_int, isT_list_str, isT_list_list, isT_list_tuple, isT_tuple_bool, isT_tuple_int, isT_tuple_str, isT_tuple_list, isT_tuple_tuple, fSlS_e, dPick_l, fRange3_e, dRange3_e, fLc2_e, fCallK_e, fCallO_e, rCallO_e, fBin_e, rBin_e, oStore_s, oAsg_e2, fDic0_e, fCallV_e, List.getElem?_cons_zero, List.getElem?_cons_succ, runM_e, finM_rt, finM_nx, self_r, fld_at, fld_depth, fld_toks, step_at, step_in, step_out, meth_number, meth_name, meth_name_list, meth_sign, meth_row, meth_arm, meth_part, meth_cut, meth_other, rmeth_r, fPure_e, fNilX_e, fConsX_e, fTupX_e, fRetX_e, fExpX_e, fSetX_e, fNewX_e, oAppX_e, fAppX_e, view_tok, *])
def ent (t : Trm) (v : D) : D := .lst [t.enc, v, .lst (t.nms.map .str), .int t.dep]
theorem i0 (t : Trm) (v : D) : dIx (ent t v) (.int 0) = some t.enc := rfl
theorem i1 (t : Trm) (v : D) : dIx (ent t v) (.int 1) = some v := rfl
theorem i2 (t : Trm) (v : D) : dIx (ent t v) (.int 2) = some (.lst (t.nms.map .str)) := rfl
theorem i3 (t : Trm) (v : D) : dIx (ent t v) (.int 3) = some (.int t.dep) := rfl
theorem ent_item (i : Int) (v : D) : ent (.item i) v = .lst [.tup [.str "item", .int i], v, .lst [], .int 0] := by
  unfold ent
  rw [enc_item, dep_item, nms_item]
  rfl
theorem ent_c0 (x : Str) (v : D) : ent (.call x []) v = .lst [.tup [.str "call", .str x, .tup []], v, .lst [.str x], .int 1] := by
  unfold ent
  rw [enc_c0, dep_c0, nms_call, nmsL_nil]
  rfl
theorem ent_c1 (x : Str) (a : Trm) (v : D) : ent (.call x [a]) v = .lst [.tup [.str "call", .str x, .tup [a.enc]], v, .lst ((addN [x] a.nms).map .str), .int (1 + a.dep)] := by
  unfold ent
  rw [enc_c1, dep_c1, nms_call, nmsL_cons, nmsL_nil]
  have e : ((a.dep + 1 : Nat) : Int) = 1 + a.dep := by omega
  rw [e]
theorem ent_c2 (x : Str) (a b : Trm) (v : D) (m : Nat) (h : m = max a.dep b.dep) : ent (.call x [a, b]) v = .lst [.tup [.str "call", .str x, .tup [a.enc, b.enc]], v, .lst ((addN (addN [x] a.nms) b.nms).map .str), .int (1 + m)] := by
  unfold ent
  rw [enc_c2, dep_c2, nms_call, nmsL_cons, nmsL_cons, nmsL_nil]
  have e : ((max a.dep b.dep + 1 : Nat) : Int) = 1 + m := by omega
  rw [e]
theorem once1 {n : Str} {xs : List Str} (h : xs.length ≤ 900000) : m__law_once [.lst (.str n :: xs.map .str)] = .ok (.lst ((addN [n] xs).map .str)) := by
  have := @once_ok (n :: xs) (by rw [List.length_cons]; omega)
  rw [List.map_cons] at this
  exact this
section
variable {s0 s1 s4 s7' s8' s9' s10' s11' s12' s13' s14 s15 : DS} {d N : Int} {xs : List D} {w : D}
abbrev S16 (s0 s1 : DS) (N : Int) (xs : List D) (s4 : DS) (es : List D) (d : Int) (s7 s8 s9 s10 s11 s12 s13 s14 s15 : DS) : DSt := [s0, s1, .fz (.int N), .fz (.lst xs), s4, .ow es, .fz (.int d), s7, s8, s9, s10, s11, s12, s13, s14, s15]
theorem st_const (es : List D) (ok : okLt es.length = true) (k : d % 4 = 1) :
    l1_law (S16 s0 s1 N xs s4 es d s7' s8' s9' s10' s11' s12' s13' s14 s15) = .nx (S16 s0 s1 N xs s4 (es ++ [ent (.call "c" []) (.tup [.str "c", .int 5])]) d (.fz (.int 1)) (.fz (.int (d / 4))) (.fz (.lst (cut es (some (-1)) none))) (.fz (.lst (cut es (some (-2)) (some (-1))))) s11' s12' s13' s14 s15) := by
  have cl := call_ok (x := "c") (as := []) (by decide)
  rw [ent_c0]
  unfold l1_law S16
  walk_at "ev"
theorem st_item0 (es : List D) (hN : 0 < N) (hN' : N < 100) (hw : L2.atI xs (d / 4 % N) = some w) (ok : okLt es.length = true) (k : d % 4 = 0) :
    l1_law (S16 s0 s1 N xs s4 es d s7' s8' s9' s10' s11' s12' s13' s14 s15) = .nx (S16 s0 s1 N xs s4 (es ++ [ent (.item (d / 4 % N)) w]) d (.fz (.int 0)) (.fz (.int (d / 4))) (.fz (.lst (cut es (some (-1)) none))) (.fz (.lst (cut es (some (-2)) (some (-1))))) s11' s12' s13' s14 s15) := by
  have cl := item_ok (i := d / 4 % N)
  rw [ent_item]
  unfold l1_law S16
  walk_at "ev"
theorem st_item2 (us : List D) (a : Trm) (v : D) (hN : 0 < N) (hN' : N < 100) (hw : L2.atI xs (d / 4 % N) = some w) (ok : okLt (us.length + 1) = true) (k : d % 4 = 2) (q : ¬ (a.dep : Int) < 20) :
    l1_law (S16 s0 s1 N xs s4 (us ++ [ent a v]) d s7' s8' s9' s10' s11' s12' s13' s14 s15) = .nx (S16 s0 s1 N xs s4 (us ++ [ent a v] ++ [ent (.item (d / 4 % N)) w]) d (.fz (.int 2)) (.fz (.int (d / 4))) (.fz (.lst [ent a v])) (.fz (.lst (cut (us ++ [ent a v]) (some (-2)) (some (-1))))) s11' s12' s13' s14 s15) := by
  have cl := item_ok (i := d / 4 % N)
  have c1 := cut_m1 us (ent a v)
  have j2 := i2
  have j3 := i3
  rw [ent_item]
  unfold l1_law S16
  walk_at "ev"
theorem st_item2n (hN : 0 < N) (hN' : N < 100) (hw : L2.atI xs (d / 4 % N) = some w) (k : d % 4 = 2) :
    l1_law (S16 s0 s1 N xs s4 [] d s7' s8' s9' s10' s11' s12' s13' s14 s15) = .nx (S16 s0 s1 N xs s4 [ent (.item (d / 4 % N)) w] d (.fz (.int 2)) (.fz (.int (d / 4))) (.fz (.lst [])) (.fz (.lst [])) s11' s12' s13' s14 s15) := by
  have cl := item_ok (i := d / 4 % N)
  have c1 := @cut_m1_0 D
  have c2 := @cut_m2_0 D
  have ok : okLt 0 = true := okLt_by (by decide)
  rw [ent_item]
  unfold l1_law S16
  walk_at "ev"
theorem st_item3n (hN : 0 < N) (hN' : N < 100) (hw : L2.atI xs (d / 4 % N) = some w) (k : d % 4 = 3) :
    l1_law (S16 s0 s1 N xs s4 [] d s7' s8' s9' s10' s11' s12' s13' s14 s15) = .nx (S16 s0 s1 N xs s4 [ent (.item (d / 4 % N)) w] d (.fz (.int 3)) (.fz (.int (d / 4))) (.fz (.lst [])) (.fz (.lst [])) s11' s12' s13' s14 s15) := by
  have cl := item_ok (i := d / 4 % N)
  have c1 := @cut_m1_0 D
  have c2 := @cut_m2_0 D
  have ok : okLt 0 = true := okLt_by (by decide)
  rw [ent_item]
  unfold l1_law S16
  walk_at "ev"
theorem st_item3o (a : Trm) (v : D) (hN : 0 < N) (hN' : N < 100) (hw : L2.atI xs (d / 4 % N) = some w) (k : d % 4 = 3) :
    l1_law (S16 s0 s1 N xs s4 [ent a v] d s7' s8' s9' s10' s11' s12' s13' s14 s15) = .nx (S16 s0 s1 N xs s4 [ent a v, ent (.item (d / 4 % N)) w] d (.fz (.int 3)) (.fz (.int (d / 4))) (.fz (.lst [ent a v])) (.fz (.lst [])) s11' s12' s13' s14 s15) := by
  have cl := item_ok (i := d / 4 % N)
  have c1 := cut_m1 [] (ent a v)
  rw [List.nil_append] at c1
  have c2 := cut_m2_1 (ent a v)
  have ok : okLt 1 = true := okLt_by (by decide)
  rw [ent_item]
  unfold l1_law S16
  walk_at "ev"
theorem st_item3 (us : List D) (a b : Trm) (v u : D) (m : Nat) (hN : 0 < N) (hN' : N < 100) (hw : L2.atI xs (d / 4 % N) = some w) (ok : okLt (us.length + 2) = true) (k : d % 4 = 3) (hm : m = max a.dep b.dep) (q : ¬ (m : Int) < 20) :
    l1_law (S16 s0 s1 N xs s4 (us ++ [ent a v, ent b u]) d s7' s8' s9' s10' s11' s12' s13' s14 s15) = .nx (S16 s0 s1 N xs s4 (us ++ [ent a v, ent b u] ++ [ent (.item (d / 4 % N)) w]) d (.fz (.int 3)) (.fz (.int (d / 4))) (.fz (.lst [ent b u])) (.fz (.lst [ent a v])) s11' s12' s13' s14 s15) := by
  have cl := item_ok (i := d / 4 % N)
  have c1 := cut_m1 (us ++ [ent a v]) (ent b u)
  rw [List.append_assoc] at c1
  have c1 : cut (us ++ [ent a v, ent b u]) (some (-1)) none = [ent b u] := c1
  have c2 := cut_m2 us (ent a v) (ent b u)
  have j2 := i2
  have j3 := i3
  have m1 : (if (a.dep : Int) > b.dep then (a.dep : Int) else b.dep) = m := by split <;> omega
  clear hm
  rw [ent_item]
  unfold l1_law S16
  walk_at "ev"
theorem st_f (us : List D) (a : Trm) (v : D) (ok : okLt us.length = true) (k : d % 4 = 2) (ha : a.nms.length ≤ 500000) (k2 : d / 4 % 2 = 0) (q : (a.dep : Int) < 20) :
    l1_law (S16 s0 s1 N xs s4 (us ++ [ent a v]) d s7' s8' s9' s10' s11' s12' s13' s14 s15) = .nx (S16 s0 s1 N xs s4 (us ++ [ent (.call "f" [a]) (.lst [v, .int 1])]) d (.fz (.int 2)) (.fz (.int (d / 4))) (.fz (.lst [ent a v])) (.fz (.lst (cut (us ++ [ent a v]) (some (-2)) (some (-1))))) s11' s12' (.fz (ent a v)) s14 s15) := by
  have cl := call_ok (x := "f") (as := [a.enc]) (by simp)
  have c1 := cut_m1 us (ent a v)
  have fo := f_ok (x := v)
  have hz : a.nms.length ≤ 500000 := ha
  have o1 : m__law_once [.lst (.str "f" :: a.nms.map .str)] = _ := once1 (by omega)
  have l1 : okLe (1 + a.nms.length) = true := okLe_by (by omega)
  clear hz ha
  have j0 := i0
  have j1 := i1
  have j2 := i2
  have j3 := i3
  rw [ent_c1]
  unfold l1_law S16
  walk_at "ev"
theorem st_g (us : List D) (a : Trm) (v : D) (ok : okLt us.length = true) (k : d % 4 = 2) (ha : a.nms.length ≤ 500000) (k2 : d / 4 % 2 = 1) (q : (a.dep : Int) < 20) :
    l1_law (S16 s0 s1 N xs s4 (us ++ [ent a v]) d s7' s8' s9' s10' s11' s12' s13' s14 s15) = .nx (S16 s0 s1 N xs s4 (us ++ [ent (.call "g" [a]) (.tup [v, .str (Str.ofString "g")])]) d (.fz (.int 2)) (.fz (.int (d / 4))) (.fz (.lst [ent a v])) (.fz (.lst (cut (us ++ [ent a v]) (some (-2)) (some (-1))))) s11' s12' (.fz (ent a v)) s14 s15) := by
  have cl := call_ok (x := "g") (as := [a.enc]) (by simp)
  have c1 := cut_m1 us (ent a v)
  have fo := g_ok (x := v)
  have hz : a.nms.length ≤ 500000 := ha
  have o1 : m__law_once [.lst (.str "g" :: a.nms.map .str)] = _ := once1 (by omega)
  have l1 : okLe (1 + a.nms.length) = true := okLe_by (by omega)
  clear hz ha
  have j0 := i0
  have j1 := i1
  have j2 := i2
  have j3 := i3
  rw [ent_c1]
  unfold l1_law S16
  walk_at "ev"
theorem st_h (us : List D) (a b : Trm) (v u : D) (m : Nat) (ha : a.nms.length ≤ 400000) (hb : b.nms.length ≤ 400000) (ok : okLt us.length = true) (k : d % 4 = 3) (hm : m = max a.dep b.dep) (q : (m : Int) < 20) :
    l1_law (S16 s0 s1 N xs s4 (us ++ [ent a v, ent b u]) d s7' s8' s9' s10' s11' s12' s13' s14 s15) = .nx (S16 s0 s1 N xs s4 (us ++ [ent (.call "h" [a, b]) (.tup [u, v])]) d (.fz (.int 3)) (.fz (.int (d / 4))) (.fz (.lst [ent b u])) (.fz (.lst [ent a v])) (.fz (ent b u)) (.fz (ent a v)) s13' s14 s15) := by
  have cl := call_ok (x := "h") (as := [a.enc, b.enc]) (by simp)
  have c1 := cut_m1 (us ++ [ent a v]) (ent b u)
  rw [List.append_assoc] at c1
  have c1 : cut (us ++ [ent a v, ent b u]) (some (-1)) none = [ent b u] := c1
  have c2 := cut_m2 us (ent a v) (ent b u)
  have fo := h_ok (x := v) (y := u)
  have o1 : m__law_once [.lst (.str "h" :: (a.nms ++ b.nms).map .str)] = _ := once1 (by rw [List.length_append]; omega)
  rw [List.map_append, addN_app] at o1
  have l1 : okLe (1 + a.nms.length) = true := okLe_by (by omega)
  have l2 : okLe (a.nms.length + 1 + b.nms.length) = true := okLe_by (by omega)
  clear ha hb
  have m1 : (if (a.dep : Int) > b.dep then (a.dep : Int) else b.dep) = m := by split <;> omega
  have m2 : (if (b.dep : Int) > a.dep then (b.dep : Int) else a.dep) = m := by split <;> omega
  have j0 := i0
  have j1 := i1
  have j2 := i2
  have j3 := i3
  rw [ent_c2 _ a b _ m hm]
  clear hm
  unfold l1_law S16
  walk_at "ev"
end
end LW
/-! MEnt: lists of entries, by their end. -/
namespace DL
open PySem PySem.Spec PyProof.Rows
theorem shape3 (ts : List Trm) : ts = [] ∨ (∃ a, ts = [a]) ∨ ∃ us a b, ts = us ++ [a, b] := by
  rcases List.eq_nil_or_concat ts with rfl | ⟨vs, b, rfl⟩
  · exact .inl rfl
  · rcases List.eq_nil_or_concat vs with rfl | ⟨us, a, rfl⟩
    · exact .inr (.inl ⟨b, rfl⟩)
    · exact .inr (.inr ⟨us, a, b, by simp⟩)
theorem len_sz (us : List Trm) : us.length ≤ szL us := by
  induction us with
  | nil => exact Nat.zero_le _
  | cons u us ih =>
    rw [szL_cons, List.length_cons]
    have : 1 ≤ u.sz := by cases u <;> first | (rw [sz_item]; omega) | (rw [sz_call]; omega)
    omega
def Good (n : Nat) (ts : List Trm) : Prop := (∀ t ∈ ts, t.sok ∧ t.dep ≤ 20) ∧ szL ts ≤ n
theorem szL_app (as bs : List Trm) : szL (as ++ bs) = szL as + szL bs := by
  induction as with
  | nil => rw [szL_nil, List.nil_append, Nat.zero_add]
  | cons a as ih => rw [List.cons_append, szL_cons, szL_cons, ih, Nat.add_assoc]
theorem Good.snoc {n : Nat} {ts : List Trm} {t : Trm} (g : ∀ t ∈ ts, t.sok ∧ t.dep ≤ 20) (h1 : t.sok) (h2 : t.dep ≤ 20) (h3 : szL ts + t.sz ≤ n) : Good n (ts ++ [t]) := by
  refine ⟨fun u hu => ?_, by rw [szL_app, szL_cons, szL_nil]; omega⟩
  rcases List.mem_append.mp hu with q | q
  · exact g u q
  · rw [List.mem_singleton.mp q]; exact ⟨h1, h2⟩
end DL

namespace LW
open PySem PySem.Spec PyProof.Rows DL
/-! G04c: law_k04. -/
local macro_rules | `(tactic| walk_at "yes") => `(tactic| first | (with_reducible assumption) | (with_reducible rfl) | ((with_reducible refine decide_eq_true ?_); omega) | ((with_reducible refine beq_iff_eq.mpr ?_); omega) | ((with_reducible refine decide_eq_true ?_); with_reducible assumption) | ((with_reducible refine Bool.not_eq_true'.mpr ?_); walk_at "no") | ((with_reducible refine Bool.and_eq_true_iff.mpr ⟨?_, ?_⟩) <;> walk_at "yes") | ((with_reducible refine Bool.or_eq_true_iff.mpr ?_); first | (left; walk_at "yes") | (right; walk_at "yes")) | decide +kernel)
local macro_rules | `(tactic| walk_at "no") => `(tactic| first | (with_reducible assumption) | (with_reducible rfl) | ((with_reducible refine decide_eq_false ?_); omega) | ((with_reducible refine beq_false_of_ne ?_); omega) | ((with_reducible refine decide_eq_false ?_); with_reducible assumption) | ((with_reducible refine Bool.not_eq_false'.mpr ?_); walk_at "yes") | ((with_reducible refine Bool.or_eq_false_iff.mpr ⟨?_, ?_⟩) <;> walk_at "no") | ((with_reducible refine Bool.and_eq_false_iff.mpr ?_); first | (left; walk_at "no") | (right; walk_at "no")) | decide +kernel)
local macro_rules | `(tactic| walk_at "sh") => `(tactic| first | (with_reducible first | (apply sh_hyp2; assumption) | (apply sh_hyp; assumption)) | (with_reducible apply sh_num; first | omega | assumption) | (with_reducible exact sh_lit) | ((with_reducible apply sh_app) <;> walk_at "sh") | decide +kernel)
local macro_rules | `(tactic| walk_at "tf") => `(tactic| first | (refine hyp_T ?_; walk_at "yes") | (refine hyp_F ?_; walk_at "no"))
local macro_rules | `(tactic| walk_at "szg") => `(tactic| first | (with_reducible assumption) | omega | exact lim64_by (by omega) | exact okLe_by (by simp only [List.length_append, List.length_cons, List.length_nil, List.length_map, List.length_range]; omega) | exact okLt_by (by simp only [List.length_append, List.length_cons, List.length_nil, List.length_map, List.length_range]; omega) | exact mulOk_l (by assumption) | exact mulOk_r (by assumption) | exact mulOk_l (lim64_by (by omega)) | exact mulOk_r (lim64_by (by omega)) | exact log_by (by omega) | exact small_by (by omega) | ((with_reducible first | apply okS | apply okS1) <;> walk_at "sh"))
local macro_rules | `(tactic| walk_at "st") => `(tactic| first | (with_reducible first | (apply isR; first | (apply hyp_ok; assumption) | (apply hyp_exc; assumption) | apply v_varS | exact v_var0 | apply v_Cons | exact v_Nil | exact v_C | apply v_B | apply v_L | apply v_U | apply v_Call | apply v_Test | apply v_Tup | apply v_Lst | apply v_Range | apply v_Items | apply v_Lc | apply v_Some | exact v_No | apply v_Sl | apply v_SlS | apply v_ownS | exact v_own0 | apply v_NotB | apply v_Val | apply v_SlOw | apply v_LenOw | apply v_IxOw | apply v_InOwT | apply v_InOwF | apply v_Range3 | apply v_LcL | apply v_Lc2 | apply v_Join | apply v_Prop | apply v_MethF | apply v_CallO | apply v_MakeSK | apply v_Bin | apply v_CallK2 | apply v_CallK | apply v_CallV | apply v_TruB | apply v_TruL | apply v_TruT | exact v_Dic0 | exact v_fin_rt | exact v_fin_nx | exact v_fin_exc | apply v_fin_rt2 | exact mk_8 | exact mk_0 | exact mk_1 | exact mk_2 | exact v_lc_nil | apply v_run | walk_at "call") | (apply isS; first | (apply hyp_so; assumption) | apply w_ixl | apply w_ixt | apply w_ixc | exact dAdd_ii | apply dMod_ii | exact dIntS_i | apply w_dEq | apply w_dNe | exact dSub_ii | apply dMul_ii | exact dEqB_ii | exact dEqB_ss | apply w_rangeL | apply w_range1 | apply dRange_1 | apply dRange_2 | apply dAdd_ss | exact dLt_ii | exact dLe_ii | exact dGt_ii | exact dGe_ii | exact dLen_l | exact dLen_t | exact dLen_c | exact dItems_l | exact dItems_t | exact dItems_s | apply w_fdiv | apply w_dIn | apply w_dNotIn | exact at_0 | exact at_1 | exact at_2 | exact at_3 | exact at_4 | exact at_5 | exact at_6 | exact at_7 | exact at_8 | exact at_9 | exact at_10 | exact at_11 | exact at_12 | exact at_13 | exact at_14 | exact at_15 | exact at_m1 | exact dNeg_i | exact dAbs_i | exact w_max | exact w_min | exact dInt_i | exact dStr_s | exact dList_l | exact dList_t | exact dTuple_l | exact dTuple_t | exact dCut_l | exact dCut_t | exact dIsN_e | exact dNotN_e | exact dIsi_n | exact dIsi_b | exact dIsi_i | exact dIsi_s | exact dIsi_t | exact dIsi_l | exact dAddS_ii | exact dGcd_ii | apply w_slot | exact get_0 | apply get_s | exact w_isC | exact fld_P1 | exact fld_P0 | exact fld_P2 | exact fld_U | exact fld_F0 | exact fld_F1 | exact fld_F2 | exact fld_F3 | apply dAdd_ll | apply dAdd_tt | apply dMul_li | apply dStr_i | apply dLen_s | apply dAddS_ss | apply dLcm_ii | apply dLcm_iii | apply dJoin_l | apply dPick_l | apply dRange3_e | apply w_selfL | apply w_selfT | apply v_pName | apply v_pCons | exact v_pNil | apply v_pTup2 | apply v_pTup3 | apply v_pTup4 | walk_at "call") | (apply isO; first | (apply hyp_o; assumption) | apply v_Seq | apply v_thn_nx | apply v_Set | apply v_IfS | exact v_Skip | exact v_thn_rt | apply v_Ret | apply v_Frz | apply v_For | apply v_App | apply v_New | apply v_Ext | apply v_Asg | apply v_Match | apply v_Aug | apply v_Exp | exact v_thn_bk | exact v_thn_ct | exact v_thn_exc | exact v_loop_nil | apply v_loop_cons | apply v_lnx_nx | apply v_lnx_ct | exact v_lnx_bk | exact v_lnx_rt | exact v_lnx_exc | apply v_Raise1 | apply v_Raise2 | walk_at "call") | (apply hyp_e; assumption) | apply set_s | exact set_0 | exact ini_0 | apply ini_u | apply ini_c | exact mrg_i | exact mrg_l | exact mrg_d | apply IsAt.mk' | apply TsAt.mk' | apply Is.mk | exact (Eqb.int _ _) | exact (Eqb.non _) | exact (Eqb.bl _ _) | exact (EqbL.nil _) | apply Eqb.lst | apply Eqb.tup | apply EqbL.cons | apply EqbL.map | apply bl_eqT | apply bl_eqF | walk_at "call") | walk_at "br" | walk_at "cm")
local macro_rules | `(tactic| walk_at "br") => `(tactic| first | ((with_reducible apply v_ifT); (focus walk_at "yes")) | ((with_reducible apply v_ifF); (focus walk_at "no")) | ((with_reducible apply v_iteT); (focus (first | (with_reducible assumption) | omega | decide +kernel))) | ((with_reducible apply v_iteFz); (focus (first | (with_reducible assumption) | omega | decide +kernel))) | ((with_reducible apply v_iteF); (focus (first | (with_reducible assumption) | omega | decide +kernel))) | ((with_reducible apply v_IfT); (focus walk_at "go"); (focus walk_at "yes")) | ((with_reducible apply v_IfF); (focus walk_at "go"); (focus walk_at "no")) | ((with_reducible apply v_AndF); (focus walk_at "go"); (focus walk_at "no")) | ((with_reducible apply v_OrT); (focus walk_at "go"); (focus walk_at "yes")) | (with_reducible first | apply v_ifSet | apply v_ifSet2) | (with_reducible first | apply v_And | apply v_Or | apply v_AndE | apply v_OrE | apply v_IfB))
local macro_rules | `(tactic| walk_at "cm") => `(tactic| with_reducible first | apply v_lc_rangeN | apply v_lc_range | apply v_lc_c1 | apply v_lc_c2 | apply v_lc_c3 | apply v_lc_map | apply v_lc_fltN | apply v_lc_fltM | apply v_lc_all)
local macro_rules | `(tactic| walk_at "go") => `(tactic| first | (walk_at "st" <;> walk_at "go") | (intro; walk_at "go") | (with_reducible first | exact eqD_refl | exact eqL_refl | exact eqB_refl | exact eqO_refl) | walk_at "szg" | walk_at "tf" | skip)
theorem nd_one (x : Str) : ([x] : List Str).Nodup := by simp
theorem addN_nd (ys : List Str) : ∀ xs : List Str, xs.Nodup → (addN xs ys).Nodup := by
  induction ys with
  | nil => intro xs h; unfold addN; exact h
  | cons y ys ih =>
    intro xs h
    unfold addN
    apply ih
    split
    · exact h
    · rename_i k
      rw [List.nodup_append]
      exact ⟨h, nd_one _, fun a ha b hb e => k (by rw [List.mem_singleton.mp hb] at e; rw [← e]; exact ha)⟩
theorem nms_nd {M : Mng} {xs : List D} {t : Trm} {v : D} (h : Vl M xs t v) : t.nms.Nodup := by
  cases h with
  | item _ => rw [nms_item]; exact List.nodup_nil
  | con _ => rw [nms_call, nmsL_nil]; exact nd_one _
  | one _ _ => rw [nms_call, nmsL_cons, nmsL_nil]; exact addN_nd _ _ (nd_one _)
  | two _ _ _ => rw [nms_call, nmsL_cons, nmsL_cons, nmsL_nil]; exact addN_nd _ _ (addN_nd _ _ (nd_one _))
theorem nd_len : ∀ (ns L : List Str), ns.Nodup → (∀ n ∈ ns, n ∈ L) → ns.length ≤ L.length
  | [], L, _, _ => Nat.zero_le _
  | n :: ns, L, h, k => by
    rw [List.nodup_cons] at h
    have e := List.length_erase_of_mem (k n List.mem_cons_self)
    have p := List.length_pos_of_mem (k n List.mem_cons_self)
    have r := nd_len ns (L.erase n) h.2 fun m hm => (List.mem_erase_of_ne (fun q => h.1 (by rw [← q]; exact hm))).mpr (k m (List.mem_cons_of_mem _ hm))
    rw [List.length_cons]
    omega
theorem nms4 {xs : List D} {t : Trm} {v : D} (h : Vl M4 xs t v) : t.nms.length ≤ 4 := nd_len t.nms ["c", "f", "g", "h"] (nms_nd h) fun n hn => by
  rcases has4 (h.nms n hn) with rfl | rfl | rfl | rfl <;> simp
def entP (p : Trm × D) : D := ent p.1 p.2
def GoodP (xs : List D) (n : Nat) (ps : List (Trm × D)) : Prop := (∀ p ∈ ps, Vl M4 xs p.1 p.2 ∧ p.1.dep ≤ 20) ∧ ps.length ≤ n
theorem GoodP.snoc {xs : List D} {n : Nat} {ps : List (Trm × D)} {t : Trm} {v : D} (g : ∀ p ∈ ps, Vl M4 xs p.1 p.2 ∧ p.1.dep ≤ 20) (h : Vl M4 xs t v) (hd : t.dep ≤ 20) (hn : ps.length + 1 ≤ n) : GoodP xs n (ps ++ [(t, v)]) := by
  refine ⟨fun p hp => ?_, by rw [List.length_append]; exact hn⟩
  rcases List.mem_append.mp hp with q | q
  · exact g p q
  · rw [List.mem_singleton.mp q]; exact ⟨h, hd⟩
theorem shapeP {α : Type} (ts : List α) : ts = [] ∨ (∃ a, ts = [a]) ∨ ∃ us a b, ts = us ++ [a, b] := by
  rcases List.eq_nil_or_concat ts with rfl | ⟨vs, b, rfl⟩
  · exact .inl rfl
  · rcases List.eq_nil_or_concat vs with rfl | ⟨us, a, rfl⟩
    · exact .inr (.inl ⟨b, rfl⟩)
    · exact .inr (.inr ⟨us, a, b, by simp⟩)
theorem law_step {s0 s1 s4 s7' s8' s9' s10' s11' s12' s13' s14 s15 : DS} {d : Int} {N : Int} {xs : List D} (hN : 0 < N) (hN' : N < 100) (hx : ∀ i, 0 ≤ i → i < N → ∃ w, L2.atI xs i = some w) (ps : List (Trm × D)) (n : Nat) (hn : n ≤ 200) (g : GoodP xs n ps) (h : 0 ≤ d) :
    ∃ ps', GoodP xs (n + 1) ps' ∧ ∃ s7 s8 s9 s10 s11 s12 s13, l1_law (S16 s0 s1 N xs s4 (ps.map entP) d s7' s8' s9' s10' s11' s12' s13' s14 s15) = .nx (S16 s0 s1 N xs s4 (ps'.map entP) d s7 s8 s9 s10 s11 s12 s13 s14 s15) := by
  obtain ⟨w, hw⟩ := hx (d / 4 % N) (Int.emod_nonneg _ (by omega)) (Int.emod_lt_of_pos _ hN)
  obtain ⟨g1, g2⟩ := g
  have itm : GoodP xs (n + 1) (ps ++ [(.item (d / 4 % N), w)]) := GoodP.snoc g1 (.item hw) (by rw [dep_item]; omega) (by omega)
  have hk : d % 4 = 0 ∨ d % 4 = 1 ∨ d % 4 = 2 ∨ d % 4 = 3 := by omega
  rcases hk with k | k | k | k
  · exact ⟨_, itm, _, _, _, _, _, _, _, by rw [List.map_append]; exact st_item0 _ hN hN' hw (okLt_by (by rw [List.length_map]; omega)) k⟩
  · exact ⟨ps ++ [(.call "c" [], cD)], GoodP.snoc g1 (.con rfl) (by rw [dep_c0]; omega) (by omega), _, _, _, _, _, _, _, by rw [List.map_append]; exact st_const _ (okLt_by (by rw [List.length_map]; omega)) k⟩
  · rcases List.eq_nil_or_concat ps with rfl | ⟨us, ⟨a, v⟩, rfl⟩
    · exact ⟨_, itm, _, _, _, _, _, _, _, st_item2n hN hN' hw k⟩
    · rw [List.concat_eq_append] at *
      rw [List.length_append] at g2
      simp only [List.length_cons, List.length_nil] at g2
      have ha := g1 (a, v) (List.mem_append_right _ List.mem_cons_self)
      have na := nms4 ha.1
      have gu : ∀ p ∈ us, Vl M4 xs p.1 p.2 ∧ p.1.dep ≤ 20 := fun t ht => g1 t (List.mem_append_left _ ht)
      by_cases q : (a.dep : Int) < 20
      · rcases (show d / 4 % 2 = 0 ∨ d / 4 % 2 = 1 by omega) with k2 | k2
        · exact ⟨us ++ [(.call "f" [a], .lst [v, .int 1])], GoodP.snoc gu (Vl.one (f := fun v => .lst [v, .int 1]) rfl ha.1) (by rw [dep_c1]; omega) (by omega), _, _, _, _, _, _, _, by rw [List.map_append, List.map_append]; exact st_f _ a v (okLt_by (by rw [List.length_map]; omega)) k (by simp only at na; omega) k2 q⟩
        · exact ⟨us ++ [(.call "g" [a], .tup [v, .str (Str.ofString "g")])], GoodP.snoc gu (Vl.one (f := fun v => .tup [v, .str (Str.ofString "g")]) rfl ha.1) (by rw [dep_c1]; omega) (by omega), _, _, _, _, _, _, _, by rw [List.map_append, List.map_append]; exact st_g _ a v (okLt_by (by rw [List.length_map]; omega)) k (by simp only at na; omega) k2 q⟩
      · exact ⟨_, itm, _, _, _, _, _, _, _, by rw [List.map_append, List.map_append, List.map_append]; exact st_item2 _ a v hN hN' hw (okLt_by (by rw [List.length_map]; omega)) k q⟩
  · rcases shapeP ps with rfl | ⟨⟨a, v⟩, rfl⟩ | ⟨us, ⟨a, v⟩, ⟨b, u⟩, rfl⟩
    · exact ⟨_, itm, _, _, _, _, _, _, _, st_item3n hN hN' hw k⟩
    · exact ⟨_, itm, _, _, _, _, _, _, _, st_item3o a v hN hN' hw k⟩
    · rw [List.length_append] at g2
      simp only [List.length_cons, List.length_nil] at g2
      have ha := g1 (a, v) (List.mem_append_right _ List.mem_cons_self)
      have hb := g1 (b, u) (List.mem_append_right _ (List.mem_cons_of_mem _ List.mem_cons_self))
      have na := nms4 ha.1
      have nb := nms4 hb.1
      have gu : ∀ p ∈ us, Vl M4 xs p.1 p.2 ∧ p.1.dep ≤ 20 := fun t ht => g1 t (List.mem_append_left _ ht)
      by_cases q : ((max a.dep b.dep : Nat) : Int) < 20
      · exact ⟨us ++ [(.call "h" [a, b], .tup [u, v])], GoodP.snoc gu (Vl.two (f := fun v u => .tup [u, v]) rfl ha.1 hb.1) (by rw [dep_c2]; omega) (by omega), _, _, _, _, _, _, _, by rw [List.map_append, List.map_append]; exact st_h _ a b v u _ (by simp only at na; omega) (by simp only at nb; omega) (okLt_by (by rw [List.length_map]; omega)) k rfl q⟩
      · exact ⟨_, itm, _, _, _, _, _, _, _, by rw [List.map_append, List.map_append, List.map_append]; exact st_item3 _ a b v u _ hN hN' hw (okLt_by (by rw [List.length_map]; omega)) k rfl q⟩
/-- the answer at one set of given names -/
theorem right_case {xs : List D} {t : Trm} {v : D} {kn : List Str} {g : Int} (h : Vl M4 xs t v) (hd : t.dep ≤ 20) (he : dEqB v v = some true) (hk : dIx (.lst L7) (.int g) = some (.lst (kn.map .str)))
    (ha : ∀ m, t.nms.find? (fun n => !decide (n ∈ kn)) = some m → m__law_ask [t.enc, .lst xs, .int g] = .exc "MissingName" [.str m]) : m__law_right [ent t v, .lst xs, .int g] = .ok (.bl true) := by
  have mi := @missing_ok t.nms kn
  cases e : t.nms.find? (fun n => !decide (n ∈ kn)) with
  | none =>
    rw [e] at mi
    exact right_none hk mi (value_ok mgOk4 h (by omega) (h.sz20 hd)) he
  | some m =>
    rw [e] at mi
    refine right_some hk mi (ha m e) ?_
    rcases has4 (h.nms m (List.mem_of_find?_eq_some e)) with rfl | rfl | rfl | rfl <;> decide +kernel
theorem right_all {xs : List D} {t : Trm} {v : D} (h : Vl M4 xs t v) (hd : t.dep ≤ 20) (he : dEqB v v = some true) {g : Nat} (hg : g < 7) : m__law_right [ent t v, .lst xs, .int (g : Nat)] = .ok (.bl true) := by
  have hz := h.sz20 hd
  rcases (show g = 0 ∨ g = 1 ∨ g = 2 ∨ g = 3 ∨ g = 4 ∨ g = 5 ∨ g = 6 by omega) with rfl | rfl | rfl | rfl | rfl | rfl | rfl
  · exact right_case (kn := []) h hd he (by kernel_rfl) fun m e => ask0 (value_x (kn := []) (fun n hn => by rcases has4 (h.nms n hn) with rfl | rfl | rfl | rfl <;> kernel_rfl) e (by omega) hz)
  · exact right_case (kn := ["f"]) h hd he (by kernel_rfl) fun m e => ask1 (value_x (kn := ["f"]) (fun n hn => by rcases has4 (h.nms n hn) with rfl | rfl | rfl | rfl <;> kernel_rfl) e (by omega) hz)
  · exact right_case (kn := ["g", "h"]) h hd he (by kernel_rfl) fun m e => ask2 (value_x (kn := ["g", "h"]) (fun n hn => by rcases has4 (h.nms n hn) with rfl | rfl | rfl | rfl <;> kernel_rfl) e (by omega) hz)
  · exact right_case (kn := ["c", "h"]) h hd he (by kernel_rfl) fun m e => ask3 (value_x (kn := ["c", "h"]) (fun n hn => by rcases has4 (h.nms n hn) with rfl | rfl | rfl | rfl <;> kernel_rfl) e (by omega) hz)
  · exact right_case (kn := ["f", "g", "h"]) h hd he (by kernel_rfl) fun m e => ask4 (value_x (kn := ["f", "g", "h"]) (fun n hn => by rcases has4 (h.nms n hn) with rfl | rfl | rfl | rfl <;> kernel_rfl) e (by omega) hz)
  · exact right_case (kn := ["f", "g", "c"]) h hd he (by kernel_rfl) fun m e => ask5 (value_x (kn := ["f", "g", "c"]) (fun n hn => by rcases has4 (h.nms n hn) with rfl | rfl | rfl | rfl <;> kernel_rfl) e (by omega) hz)
  · refine right_case (kn := ["f", "g", "h", "c"]) h hd he (by kernel_rfl) fun m e => ?_
    have q := List.find?_some e
    rcases has4 (h.nms m (List.mem_of_find?_eq_some e)) with rfl | rfl | rfl | rfl <;> exact absurd q (by decide +kernel)
theorem chk {te : D} {xs : List D} {s0 s1 s2 s4 s5 s6 s7 s8 s9 s10 s11 s12 s13 : DS} {g : Int} (h : m__law_right [te, .lst xs, .int g] = .ok (.bl true)) : l2_law [s0, s1, s2, .fz (.lst xs), s4, s5, s6, s7, s8, s9, s10, s11, s12, s13, .fz te, .fz (.int g)] = .nx [s0, s1, s2, .fz (.lst xs), s4, s5, s6, s7, s8, s9, s10, s11, s12, s13, .fz te, .fz (.int g)] := by
  unfold l2_law
  walk_at "go"
theorem l3_nx {xs : List D} {t : Trm} {v : D} (h : Vl M4 xs t v) (hd : t.dep ≤ 20) (he : dEqB v v = some true) {s0 s1 s2 s4 s5 s6 s7 s8 s9 s10 s11 s12 s13 s15 : DS} : ∃ s15', l3_law [s0, s1, s2, .fz (.lst xs), s4, s5, s6, s7, s8, s9, s10, s11, s12, s13, .fz (ent t v), s15] = .nx [s0, s1, s2, .fz (.lst xs), s4, s5, s6, s7, s8, s9, s10, s11, s12, s13, .fz (ent t v), s15'] := by
  obtain ⟨δ', lp, s15', rfl⟩ := loopF_range (put := pName 15) (body := l2_law) (lo := 0) (n := 7) (δ := [s0, s1, s2, .fz (.lst xs), s4, s5, s6, s7, s8, s9, s10, s11, s12, s13, .fz (ent t v), s15])
    (fun k δ => ∃ s15', δ = [s0, s1, s2, .fz (.lst xs), s4, s5, s6, s7, s8, s9, s10, s11, s12, s13, .fz (ent t v), s15']) ⟨_, rfl⟩ (fun k δ hk h' => by
      obtain ⟨s15', rfl⟩ := h'
      refine ⟨_, rfl, _, .inl (chk ?_), _, rfl⟩
      rw [Int.zero_add]
      exact right_all h hd he hk)
  refine ⟨s15', ?_⟩
  have rg : dRange [.int 7] = some (dInts 0 7) := w_range1 (n := 7) (small62_by (by decide))
  generalize ent t v = te at *
  clear h hd he
  unfold l3_law
  walk_at "go"
theorem loop_all {xs : List D} (hx : ∀ i v, L2.atI xs i = some v → Eqb 10 v) {s0 s1 s2 s4 s5 s6 s7 s8 s9 s10 s11 s12 s13 : DS} : ∀ (ps : List (Trm × D)) (s14 s15 : DS), (∀ p ∈ ps, Vl M4 xs p.1 p.2 ∧ p.1.dep ≤ 20) →
    ∃ s14' s15', loopF (pName 14) l3_law (ps.map entP) [s0, s1, s2, .fz (.lst xs), s4, s5, s6, s7, s8, s9, s10, s11, s12, s13, s14, s15] = .nx [s0, s1, s2, .fz (.lst xs), s4, s5, s6, s7, s8, s9, s10, s11, s12, s13, s14', s15']
  | [], s14, s15, _ => ⟨s14, s15, rfl⟩
  | (t, v) :: ps, s14, s15, h => by
    obtain ⟨h1, h2⟩ := h (t, v) List.mem_cons_self
    have e : dEqB v v = some true := dEqB_refl ((h1.eqb eq4 hx).mono (by show t.dep + 10 ≤ 64; have : t.dep ≤ 20 := h2; omega))
    obtain ⟨s15', st⟩ := l3_nx h1 h2 e (s0 := s0) (s1 := s1) (s2 := s2) (s4 := s4) (s5 := s5) (s6 := s6) (s7 := s7) (s8 := s8) (s9 := s9) (s10 := s10) (s11 := s11) (s12 := s12) (s13 := s13) (s15 := s15)
    obtain ⟨u14, u15, ih⟩ := loop_all hx (s0 := s0) (s1 := s1) (s2 := s2) (s4 := s4) (s5 := s5) (s6 := s6) (s7 := s7) (s8 := s8) (s9 := s9) (s10 := s10) (s11 := s11) (s12 := s12) (s13 := s13) ps (.fz (entP (t, v))) s15' (fun u hu => h u (List.mem_cons_of_mem _ hu))
    refine ⟨u14, u15, ?_⟩
    rw [List.map_cons, loopF_nx (put := pName 14) rfl st]
    exact ih
theorem thing_at {d : Int} {N : Nat} {i : Int} (h0 : 0 ≤ i) (h : i < N) : L2.atI ((List.range N).map fun k => D.int (d + 7 * (k : Nat))) i = some (.int (d + 7 * i)) := by
  obtain ⟨k, rfl⟩ := Int.eq_ofNat_of_zero_le h0
  refine L2.atI_nat (j := k) ?_
  have hk : k < N := by omega
  simp [hk]
abbrev F16 (s0 s1 s2 s3 s4 : DS) : DSt := [s0, s1, s2, s3, s4, .un, .un, .un, .un, .un, .un, .un, .un, .un, .un, .un]
abbrev S16i (s0 s1 : DS) (N : Nat) (xs : List D) (s4 : DS) (es : List D) (s6 s7 s8 s9 s10 s11 s12 s13 s14 s15 : DS) : DSt := [s0, s1, .fz (.int N), .fz (.lst xs), s4, .ow es, s6, s7, s8, s9, s10, s11, s12, s13, s14, s15]
theorem law_true (ns : List Int) (hn : ns.length ≤ 63) : m_law [.scr (ns.map .int)] = .ok (.bl true) := by
  obtain ⟨dr, hd, dw⟩ := draws_fn ns hn 62 (by omega)
  have dw : m__law_draws [.scr (ns.map .int), .int 62] = .ok (.lst (drl dr 0 62)) := dw
  have d0 := hd 0
  obtain ⟨N, hN⟩ := Int.eq_ofNat_of_zero_le (show 0 ≤ 1 + dr 0 % 9 by omega)
  have n1 : 1 ≤ N ∧ N ≤ 9 := by omega
  have a0 : L2.atI (drl dr 0 62) 0 = some (.int (dr 0)) := drl_at (a := 0) (by omega) (by omega)
  have c1 : cut (drl dr 0 62) (some 1) none = drl dr 1 61 := drl_drop (j := 1)
  have ex : ∃ xs : List D, xs = (List.range N).map fun k => D.int (dr 0 + 7 * (k : Nat)) := ⟨_, rfl⟩
  obtain ⟨xs, ex⟩ := ex
  have hx : ∀ i v, L2.atI xs i = some v → Eqb 10 v := fun i v hv => by
    have hm : ∀ x ∈ xs, Eqb 10 x := fun x hx => by
      rw [ex] at hx
      obtain ⟨k, _, rfl⟩ := List.mem_map.mp hx
      exact .int _ _
    obtain ⟨j, _, hj, _⟩ := L2.atI_get hv
    exact hm v (List.mem_of_getElem? hj)
  have hat : ∀ i, 0 ≤ i → i < (N : Int) → ∃ w, L2.atI xs i = some w := fun i h0 h1 => ⟨_, by rw [ex]; exact thing_at h0 h1⟩
  have e2 : (fB dAdd (fC (.int 1)) (fB dMod (fL dIntS (fCons (fB dIx (fVar 1) (fC (.int 0))) fNil)) (fC (.int 9)))) (F16 (.fz (.scr (ns.map .int))) (.fz (.lst (drl dr 0 62))) .un .un .un) = .ok (.int (N : Nat)) := by
    rw [← hN]
    clear hN ex hx hat dw c1
    generalize drl dr 0 62 = ds at *
    generalize dr 0 = d at *
    unfold F16
    walk_at "go"
  have e3 : (fLc (fRange (fCons (fVar 2) fNil)) 4 fYes (fB dAdd (fB dIx (fVar 1) (fC (.int 0))) (fB dMul (fC (.int 7)) (fVar 4)))) (F16 (.fz (.scr (ns.map .int))) (.fz (.lst (drl dr 0 62))) (.fz (.int (N : Nat))) .un .un) = .ok (.lst xs) := by
    have lc : lcF 4 fYes (fB dAdd (fB dIx (fVar 1) (fC (.int 0))) (fB dMul (fC (.int 7)) (fVar 4))) (F16 (.fz (.scr (ns.map .int))) (.fz (.lst (drl dr 0 62))) (.fz (.int (N : Nat))) .un .un) (dInts 0 N) [] = .ok xs := by
      rw [ex]
      refine lc_range (h := fun k : Nat => D.int (dr 0 + 7 * (k : Nat))) (fun k hk => ?_) (by omega)
      rw [Int.zero_add]
      clear hN ex hx hat dw c1 e2
      generalize drl dr 0 62 = ds at *
      generalize dr 0 = d at *
      unfold F16
      simp only [List.set_cons_succ, List.set_cons_zero]
      walk_at "go"
    have rg : dRange [.int (N : Nat)] = some (dInts 0 N) := w_range1 (small62_by (by omega))
    clear hN ex hx hat dw c1 e2
    unfold F16 at *
    generalize drl dr 0 62 = ds at *
    walk_at "go"
  obtain ⟨δ', lp, h2⟩ := loopF_ind (put := pName 6) (body := l1_law) (items := cut (drl dr 0 62) (some 1) none) (δ := S16i (.fz (.scr (ns.map .int))) (.fz (.lst (drl dr 0 62))) N xs .un [] .un .un .un .un .un .un .un .un .un .un)
    (fun pre δ => ∃ (ps : List (Trm × D)) (s6 s7 s8 s9 s10 s11 s12 s13 : DS), GoodP xs pre.length ps ∧ δ = S16i (.fz (.scr (ns.map .int))) (.fz (.lst (drl dr 0 62))) N xs .un (ps.map entP) s6 s7 s8 s9 s10 s11 s12 s13 .un .un)
    ⟨[], _, _, _, _, _, _, _, _, ⟨fun t h => (by cases h), Nat.zero_le _⟩, rfl⟩ (fun pre d post δ e h => by
      obtain ⟨ps, s6, s7, s8, s9, s10, s11, s12, s13, g, rfl⟩ := h
      rw [c1] at e
      have hm : d ∈ drl dr 1 61 := by rw [e]; exact List.mem_append_right _ List.mem_cons_self
      obtain ⟨k, _, rfl⟩ := List.mem_map.mp hm
      have hp : pre.length ≤ 63 := by
        have := congrArg List.length e
        rw [drl_len, List.length_append] at this
        omega
      obtain ⟨ps', g', t7, t8, t9, t10, t11, t12, t13, st⟩ := law_step (s0 := .fz (.scr (ns.map .int))) (s1 := .fz (.lst (drl dr 0 62))) (s4 := .un) (s7' := s7) (s8' := s8) (s9' := s9) (s10' := s10) (s11' := s11) (s12' := s12) (s13' := s13) (s14 := .un) (s15 := .un) (N := N) (by omega) (by omega) hat ps pre.length (by omega) g (hd (1 + k)).1
      exact ⟨_, rfl, _, .inl st, ps', _, _, _, _, _, _, _, _, by rw [List.length_append]; exact g', rfl⟩)
  obtain ⟨ps, s6, s7, s8, s9, s10, s11, s12, s13, g, rfl⟩ := h2
  obtain ⟨s14', s15', lp2⟩ := loop_all hx (s0 := .fz (.scr (ns.map .int))) (s1 := .fz (.lst (drl dr 0 62))) (s2 := .fz (.int N)) (s4 := .un) (s5 := .fz (.lst (ps.map entP))) (s6 := s6) (s7 := s7) (s8 := s8) (s9 := s9) (s10 := s10) (s11 := s11) (s12 := s12) (s13 := s13) ps .un .un g.1
  clear g hd hn hx hat ex d0 a0 c1 hN n1
  unfold S16i at lp
  unfold F16 at *
  generalize drl dr 0 62 = ds at *
  generalize ps.map entP = es at *
  unfold m_law b_law
  walk_at "go"
end LW
namespace LW
open PySem PySem.Spec PyProof.Rows L2 DL
theorem facts {w : World} {K : PySem.W.Frag} {h : Heap} {mg : Str → Option Value} {f : Addr} (X : K.In h) (G : h.Ns mainGlobals mg) (hfa : mg ("law" : Str) = some (.ref f)) (c : obsX fa fx fn fy K = valX fn fy) :
    ∃ (K : PySem.W.Frag) (fd : FuncData) (sp : Sp), K.In h ∧ (∀ (s : Shared) (u : Value), BindsTo s fd ⟨[u], []⟩ [(("_law_script" : Str), u)]) ∧
      (∀ (H : Hp) (a : Addr) (ns : List Int), ns.length ≤ 63 → Only H → SqL K H a (ns.map V.int) → sp [.ref a] H (fun v _ => v = .bl true) fun _ _ _ => False) ∧
      ∀ base : Heap, K.In base → base.Ns mainGlobals mg → FnOk PySem.Challenge.pw_unlookedlists_k04_missing_name_first w K mg base (L2.CX PySem.Challenge.pw_unlookedlists_k04_missing_name_first w) 65 f fd ["_law_script"] sp := by
  have T : TT K mg := ⟨c, h, X, G⟩
  obtain ⟨fd, hb, hF⟩ := ok_law (w := w) T
  have e := hfa.symm.trans (T.glo 0)
  cases e
  exact ⟨K, fd, _, X, hb, fun H a ns hl hO hS => law_sp (m := 63) law_true H hO a ns hl hS, fun base _ _ => hF base⟩
end LW
theorem PySem.Challenge.cw_unlookedlists_k04_missing_name_first_holds : PySem.Challenge.rw_unlookedlists_k04_missing_name_first.Holds :=
  LW.early LW.facts
