import PyProof.Rows.All
import Wide.All
import OpenK.AllK
import Wide.FinOn
import HandS.ForMost
import HandS.Exc
import HandS.TryOnly
import HandS.ExcOwn
import HandS.WordsExc
import HandS.HeadHook1
import HandS.Slots
import HandS.Wide
import HandS.IsInst
import HandS.RaiseMore
import HandS.TupAny
import HandS.Defaults
import HandS.Star
import HandS.Style
import HandS.Head0
import HandS.Head1
import HandS.Head2
import HandS.HeadEnd
import HandS.HeadHook2
import PySem.Challenge.RW_unlookedlists_k02_show
set_option Elab.async false
set_option linter.all false
set_option maxRecDepth 100000
set_option maxHeartbeats 4000000

/-! DData: the data of the mirrors (D), what a mirror gives (R), the slots of a mirror's frame (DS), the mirrors' own operations. Plain Lean. -/
namespace DL
open PySem

/-- a value as data: lists and tuples by their items; scr: a list that is read alone (the script); obj: an instance of the class c by its fields; fn: the def f of the text; dic: a dict with text keys -/
inductive D where
  | non | bl (b : Bool) | int (i : Int) | str (x : Str)
  | tup (xs : List D) | lst (xs : List D) | scr (xs : List D)
  | obj (c : Str) (xs : List D) | fn (f : Str) | dic (ks : List Str) (xs : List D)

/-- what a mirror gives: a value, an own error (its class, its fields), or nothing is said -/
inductive R (α : Type) where
  | ok (a : α) | exc (n : Str) (xs : List D) | bad
def R.bind {α β : Type} (r : R α) (f : α → R β) : R β := match r with
  | .ok a => f a
  | .exc n xs => .exc n xs
  | .bad => .bad
@[simp] theorem R.bind_ok {α β : Type} (a : α) (f : α → R β) : (R.ok a).bind f = f a := rfl
@[simp] theorem R.bind_exc {α β : Type} (n : Str) (xs : List D) (f : α → R β) : (R.exc n xs).bind f = .exc n xs := rfl
@[simp] theorem R.bind_bad {α β : Type} (f : α → R β) : (R.bad : R α).bind f = .bad := rfl

/-- a slot of a frame: nothing known; a value that is not changed any more; a list of the frame's own that it may change -/
inductive DS where
  | un | fz (d : D) | ow (xs : List D)
abbrev DSt := List DS
abbrev FE := DSt → R D
abbrev FL := DSt → R (List D)
abbrev FB := DSt → R Bool

/-! ### expressions -/
def fVar (i : Nat) : FE := fun δ => match δ[i]? with
  | some (.fz d) => .ok d
  | _ => .bad
def fC (d : D) : FE := fun _ => .ok d
def R.of {α : Type} (o : Option α) : R α := match o with
  | some a => .ok a
  | none => .bad
@[simp] theorem R.of_some {α : Type} (a : α) : R.of (some a) = .ok a := rfl
@[simp] theorem R.of_none {α : Type} : R.of (none : Option α) = .bad := rfl
def fU (F : D → Option D) (f : FE) : FE := fun δ => (f δ).bind fun x => R.of (F x)
def fB (F : D → D → Option D) (f g : FE) : FE := fun δ => (f δ).bind fun x => (g δ).bind fun y => R.of (F x y)
def fNil : FL := fun _ => .ok []
def fCons (f : FE) (fl : FL) : FL := fun δ => (f δ).bind fun x => (fl δ).bind fun xs => .ok (x :: xs)
/-- a call of what never raises; of a def -/
def fL (F : List D → Option D) (fl : FL) : FE := fun δ => (fl δ).bind fun xs => R.of (F xs)
def fCall (F : List D → R D) (fl : FL) : FE := fun δ => (fl δ).bind F
def fTup (fl : FL) : FE := fL (fun xs => some (.tup xs)) fl
def fLst (fl : FL) : FE := fL (fun xs => some (.lst xs)) fl
def fIf (c : FB) (f g : FE) : FE := fun δ => (c δ).bind fun b => match b with
  | true => f δ
  | false => g δ
/-! tests -/
def fTest (f : FE) : FB := fun δ => (f δ).bind fun d => match d with
  | .bl b => .ok b
  | _ => .bad
def fTru (f : FE) : FB := fun δ => (f δ).bind fun d => match d with
  | .bl b => .ok b
  | .lst xs => .ok (!xs.isEmpty)
  | .tup xs => .ok (!xs.isEmpty)
  | _ => .bad
def fNotB (c : FB) : FB := fun δ => (c δ).bind fun b => .ok (!b)
def fAndB (c d : FB) : FB := fun δ => (c δ).bind fun b => match b with
  | true => d δ
  | false => .ok false
def fOrB (c d : FB) : FB := fun δ => (c δ).bind fun b => match b with
  | true => .ok true
  | false => d δ
/-- a test as a value -/
def fVal (c : FB) : FE := fun δ => (c δ).bind fun b => .ok (.bl b)

/-! ### operators -/
/-- within the line of sizes -/
def okLe (n : Nat) : Bool := decide (n ≤ sizeLine)
def okLt (n : Nat) : Bool := decide (n < sizeLine)
theorem okLe_of {n : Nat} (h : okLe n = true) : n ≤ sizeLine := of_decide_eq_true h
theorem okLt_of {n : Nat} (h : okLt n = true) : n < sizeLine := of_decide_eq_true h
theorem okLe_by {n : Nat} (h : n ≤ 16777216) : okLe n = true := decide_eq_true (by rw [sizeLine_eq]; exact h)
theorem okLt_by {n : Nat} (h : n < 16777216) : okLt n = true := decide_eq_true (by rw [sizeLine_eq]; exact h)
/-- within 2 ^ k -/
def lim (k : Nat) (i : Int) : Bool := Nat.blt i.natAbs (2 ^ k)
def mulOk (i j : Int) : Bool := lim 64 i || lim 64 j || (lim 400 i && lim 400 j)
def repOk (n : Nat) (k : Int) : Bool := lim 63 k && okLe (n * k.toNat)
def dAdd : D → D → Option D
  | .int i, .int j => some (.int (i + j))
  | .str x, .str y => if okLe (x.length + y.length) = true then some (.str (x ++ y)) else none
  | .lst xs, .lst ys => if okLe (xs.length + ys.length) = true then some (.lst (xs ++ ys)) else none
  | .tup (x :: xs), .tup ys => if okLe ((x :: xs).length + ys.length) = true then some (.tup (x :: xs ++ ys)) else none
  | _, _ => none
def dSub : D → D → Option D
  | .int i, .int j => some (.int (i - j))
  | _, _ => none
def dMul : D → D → Option D
  | .int i, .int j => if mulOk i j = true then some (.int (i * j)) else none
  | .lst xs, .int k => if repOk xs.length k = true then some (.lst (List.replicate k.toNat xs).flatten) else none
  | _, _ => none
def dFdiv : D → D → Option D
  | .int i, .int j => if 0 < j ∧ j < 1073741824 then some (.int (i / j)) else none
  | _, _ => none
def dMod : D → D → Option D
  | .int i, .int j => if 0 < j then some (.int (i % j)) else none
  | _, _ => none
def powOk (i j : Int) : Bool := decide (0 ≤ j ∧ j ≤ 1000000 ∧ i.natAbs < 2 ^ 64)
theorem powOk_of {i j : Int} (h : powOk i j = true) : 0 ≤ j ∧ j ≤ 1000000 ∧ i.natAbs < 2 ^ 64 := of_decide_eq_true h
def dPow : D → D → Option D
  | .int i, .int j => if powOk i j = true then some (.int (i ^ j.toNat)) else none
  | _, _ => none
def dNeg : D → Option D
  | .int i => some (.int (-i))
  | _ => none
def dLt : D → D → Option D
  | .int i, .int j => some (.bl (decide (i < j)))
  | _, _ => none
def dLe : D → D → Option D
  | .int i, .int j => some (.bl (decide (i ≤ j)))
  | _, _ => none
def dGt : D → D → Option D
  | .int i, .int j => some (.bl (decide (j < i)))
  | _, _ => none
def dGe : D → D → Option D
  | .int i, .int j => some (.bl (decide (j ≤ i)))
  | _, _ => none
def D.isNon : D → Bool
  | .non => true
  | _ => false
def dIsN : D → Option D := fun d => some (.bl d.isNon)
def dNotN : D → Option D := fun d => some (.bl (!d.isNon))

/-! data that == reads: none, bools, ints, texts, lists, tuples -/
mutual
def D.py : D → Option PyData
  | .non => some .none
  | .bl b => some (.bool b)
  | .int i => some (.int i)
  | .str x => some (.str x)
  | .tup xs => (pyL xs).map .tuple
  | .lst xs => (pyL xs).map .list
  | _ => none
def pyL : List D → Option (List PyData)
  | [] => some []
  | d :: ds => match d.py, pyL ds with
    | some a, some as => some (a :: as)
    | _, _ => none
end
def dEqP (d e : D) : Option Bool := match d.py, e.py with
  | some a, some b => if (SeqAt.shaped a && SeqAt.shaped b) = true then some (PyData.eqv a b) else none
  | _, _ => none
def dEqB (d e : D) : Option Bool := match d, e with
  | .str x, .str y => some (x == y)
  | .int i, .int j => some (i == j)
  | d, e => dEqP d e
def dEq (d e : D) : Option D := (dEqB d e).map .bl
def dNe (d e : D) : Option D := (dEqB d e).map fun b => .bl (!b)
/-! in -/
def D.flat : D → Bool
  | .non => true
  | .bl _ => true
  | .int _ => true
  | .str _ => true
  | _ => false
def flatEq : D → D → Bool
  | .non, .non => true
  | .bl a, .bl b => a == b
  | .bl a, .int b => (if a then 1 else 0) == b
  | .int a, .bl b => a == (if b then 1 else 0)
  | .int a, .int b => a == b
  | .str a, .str b => a == b
  | _, _ => false
def inB (x : D) (xs : List D) : Bool := xs.any fun y => flatEq y x
def dInB : D → D → Option Bool
  | x, .tup xs => if (x.flat && xs.all D.flat) = true then some (inB x xs) else none
  | x, .lst xs => if (x.flat && xs.all D.flat) = true then some (inB x xs) else none
  | .str x, .str y => some (!(Builtin.Str.occurrences y x 0 y.length 1).isEmpty)
  | .str x, .dic ks _ => some (decide (x ∈ ks))
  | _, _ => none
def dIn (x y : D) : Option D := (dInB x y).map .bl
def dNotIn (x y : D) : Option D := (dInB x y).map fun b => .bl (!b)

/-! ### items, slices -/
/-- a place from the front or the back -/
def dIx : D → D → Option D
  | .lst xs, .int i => L2.atI xs i
  | .tup xs, .int i => L2.atI xs i
  | .scr xs, .int i => L2.atI xs i
  | .str z, .int i => if okLe z.length = true then (L2.atI z.cps.toList i).map fun c => .str ⟨#[c]⟩ else none
  | .dic ks xs, .str k => (ks.zip xs).lookup k
  | _, _ => none
/-- xs[lo:hi] -/
def cut {α : Type} (xs : List α) (lo hi : Option Int) : List α := (xs.drop (HT.sIx xs.length 0 lo)).take (HT.sIx xs.length xs.length hi - HT.sIx xs.length 0 lo)
def dLen : List D → Option D
  | [.lst xs] => some (.int xs.length)
  | [.tup xs] => some (.int xs.length)
  | [.scr xs] => some (.int xs.length)
  | [.str z] => if okLe z.length = true then some (.int z.length) else none
  | [.dic ks _] => some (.int ks.length)
  | _ => none
def dAbs : List D → Option D
  | [.int i] => some (.int (if i < 0 then -i else i))
  | _ => none
def dMax2 : List D → Option D
  | [.int i, .int j] => some (.int (if j > i then j else i))
  | _ => none
def dMin2 : List D → Option D
  | [.int i, .int j] => some (.int (if j < i then j else i))
  | _ => none
def dInt : List D → Option D
  | [.int i] => some (.int i)
  | _ => none
def dStr : List D → Option D
  | [.int i] => if i.natAbs.log2 < 1920 then some (.str (toString i)) else none
  | [.str x] => some (.str x)
  | _ => none
def dList : List D → Option D
  | [.lst xs] => some (.lst xs)
  | [.tup xs] => some (.lst xs)
  | _ => none
def dTuple : List D → Option D
  | [.lst xs] => some (.tup xs)
  | [.tup xs] => some (.tup xs)
  | _ => none
end DL

/-! DRep: how a heap bears the data of the mirrors; the state of a frame. -/
namespace DL
open PySem PySem.Spec PyProof.Rows L2

/-- the fields of the own classes, in the order in which __init__ stores them -/
def flds : Str → List Str := fun c =>
  if c = "Program" then ["_numbers", "_parts", "_texts"]
  else if c = "Undoer" then ["program"]
  else if c = "Forms" then ["program", "start", "modulus", "period"]
  else []
/-- the classes with __slots__ -/
def slotted (c : Str) : Bool := decide (c = "Numbers") || decide (c = "Piece")

def LitL (K : PySem.W.Frag) (a : Addr) (xs : List V) : Prop :=
  ∃ (o : Obj) (its : Array Value) (n : Nat), K.lookup a = some o ∧ o.cls = .type "list" ∧ o.dict = none ∧ o.data = .seq its n ∧ its.size ≤ sizeLine ∧ Vals xs its.toList
def LitT (K : PySem.W.Frag) (a : Addr) (xs : List V) : Prop :=
  ∃ (o : Obj) (its : Array Value) (n : Nat), K.lookup a = some o ∧ o.cls = .type "tuple" ∧ o.data = .seq its n ∧ its.size ≤ sizeLine ∧ Vals xs its.toList
def ObjAt (K : PySem.W.Frag) (S : Addr → Prop) (H : Hp) (a : Addr) (c : Str) (xs : List V) : Prop :=
  ¬ S a ∧ ∃ dx, (slotted c = true ∧ ¬ S dx ∧ H a = some (SlX.SlO a (He.ga K c) dx (xs.map some)) ∧ H dx = some (.xd [])) ∨ (slotted c = false ∧ xs.length = (flds c).length ∧ H a = some (.ins (He.ga K c) dx ((flds c).zip xs)))

mutual
/-- v stands for d; S: the addresses that may change -/
inductive Rep (K : PySem.W.Frag) (S : Addr → Prop) (H : Hp) : V → D → Prop
  | non : Rep K S H .non .non
  | bl (b : Bool) : Rep K S H (.bl b) (.bl b)
  | int (i : Int) : Rep K S H (.int i) (.int i)
  | str (x : Str) : Rep K S H (.str x) (.str x)
  | lst {a : Addr} {xs : List V} {ds : List D} : H a = some (.lst xs) → ¬ S a → RepL K S H xs ds → Rep K S H (.ref a) (.lst ds)
  | tup {a : Addr} {xs : List V} {ds : List D} : H a = some (.tup xs) → ¬ S a → RepL K S H xs ds → Rep K S H (.ref a) (.tup ds)
  | ltp {a : Addr} {xs : List V} {ds : List D} : LitT K a xs → RepL K S H xs ds → Rep K S H (.ref a) (.tup ds)
  | scr {a : Addr} {o : Obj} {xs : List V} {ds : List D} : H a = some (.frz o (.lst xs)) → ¬ S a → RepL K S H xs ds → Rep K S H (.ref a) (.scr ds)
  | scl {a : Addr} {xs : List V} {ds : List D} : LitL K a xs → RepL K S H xs ds → Rep K S H (.ref a) (.scr ds)
  | obj {a : Addr} {c : Str} {xs : List V} {ds : List D} : ObjAt K S H a c xs → RepL K S H xs ds → Rep K S H (.ref a) (.obj c ds)
  | fn (f : Str) : Rep K S H (.ref (He.ga K f)) (.fn f)
  | dic {a : Addr} {ks : List Str} {xs : List V} {ds : List D} : H a = some (.dK ((ks.map Sum.inr).zip xs)) → ¬ S a → ks.length = xs.length → ks.Nodup → RepL K S H xs ds → Rep K S H (.ref a) (.dic ks ds)
inductive RepL (K : PySem.W.Frag) (S : Addr → Prop) (H : Hp) : List V → List D → Prop
  | nil : RepL K S H [] []
  | cons {v : V} {vs : List V} {d : D} {ds : List D} : Rep K S H v d → RepL K S H vs ds → RepL K S H (v :: vs) (d :: ds)
end

section
variable {K : PySem.W.Frag} {S S' : Addr → Prop} {H H' : Hp}
/- the master: what is kept off S, and what S may become -/
mutual
theorem Rep.to (k : ∀ b o, H b = some o → ¬ S b → H' b = some o) (g : ∀ b o, H b = some o → ¬ S b → ¬ S' b) : ∀ {v : V} {d : D}, Rep K S H v d → Rep K S' H' v d
  | _, _, .non => .non
  | _, _, .bl b => .bl b
  | _, _, .int i => .int i
  | _, _, .str x => .str x
  | _, _, .lst h n r => .lst (k _ _ h n) (g _ _ h n) (RepL.to k g r)
  | _, _, .tup h n r => .tup (k _ _ h n) (g _ _ h n) (RepL.to k g r)
  | _, _, .ltp h r => .ltp h (RepL.to k g r)
  | _, _, .scr h n r => .scr (k _ _ h n) (g _ _ h n) (RepL.to k g r)
  | _, _, .scl h r => .scl h (RepL.to k g r)
  | _, _, .obj h r => .obj (by
      obtain ⟨n, dx, h⟩ := h
      rcases h with ⟨e, nd, h, q⟩ | ⟨e, l, h⟩
      · exact ⟨g _ _ h n, dx, .inl ⟨e, g _ _ q nd, k _ _ h n, k _ _ q nd⟩⟩
      · exact ⟨g _ _ h n, dx, .inr ⟨e, l, k _ _ h n⟩⟩) (RepL.to k g r)
  | _, _, .fn f => .fn f
  | _, _, .dic h n l nd r => .dic (k _ _ h n) (g _ _ h n) l nd (RepL.to k g r)
theorem RepL.to (k : ∀ b o, H b = some o → ¬ S b → H' b = some o) (g : ∀ b o, H b = some o → ¬ S b → ¬ S' b) : ∀ {vs : List V} {ds : List D}, RepL K S H vs ds → RepL K S' H' vs ds
  | _, _, .nil => .nil
  | _, _, .cons h r => .cons (Rep.to k g h) (RepL.to k g r)
end
theorem Rep.mono (e : Same H H') {v : V} {d : D} (h : Rep K S H v d) : Rep K S H' v d := h.to (fun b o q _ => e b o q) fun _ _ _ n => n
theorem RepL.mono (e : Same H H') {vs : List V} {ds : List D} (h : RepL K S H vs ds) : RepL K S H' vs ds := h.to (fun b o q _ => e b o q) fun _ _ _ n => n
theorem Rep.less (e : ∀ b, S' b → S b) {v : V} {d : D} (h : Rep K S H v d) : Rep K S' H v d := h.to (fun _ _ q _ => q) fun b _ _ n z => n (e b z)
theorem RepL.less (e : ∀ b, S' b → S b) {vs : List V} {ds : List D} (h : RepL K S H vs ds) : RepL K S' H vs ds := h.to (fun _ _ q _ => q) fun b _ _ n z => n (e b z)
theorem RepL.length : ∀ {vs : List V} {ds : List D}, RepL K S H vs ds → vs.length = ds.length
  | _, _, .nil => rfl
  | _, _, .cons _ r => congrArg Nat.succ r.length
theorem RepL.get : ∀ {vs : List V} {ds : List D} {i : Nat} {d : D}, RepL K S H vs ds → ds[i]? = some d → ∃ v, vs[i]? = some v ∧ Rep K S H v d
  | _, _, _, _, .nil, e => by simp at e
  | _, _, 0, _, .cons h _, e => by simp at e; subst e; exact ⟨_, rfl, h⟩
  | _, _, i + 1, d, .cons _ r, e => by
    obtain ⟨v, h1, h2⟩ := RepL.get (i := i) (d := d) r (by simpa using e)
    exact ⟨v, by simpa using h1, h2⟩
theorem RepL.getV : ∀ {vs : List V} {ds : List D} {i : Nat} {v : V}, RepL K S H vs ds → vs[i]? = some v → ∃ d, ds[i]? = some d ∧ Rep K S H v d
  | _, _, _, _, .nil, e => by simp at e
  | _, _, 0, _, .cons h _, e => by simp at e; subst e; exact ⟨_, rfl, h⟩
  | _, _, i + 1, v, .cons _ r, e => by
    obtain ⟨d, h1, h2⟩ := RepL.getV (i := i) (v := v) r (by simpa using e)
    exact ⟨d, by simpa using h1, h2⟩
theorem RepL.append : ∀ {vs ws : List V} {ds es : List D}, RepL K S H vs ds → RepL K S H ws es → RepL K S H (vs ++ ws) (ds ++ es)
  | _, _, _, _, .nil, s => s
  | _, _, _, _, .cons h r, s => .cons h (r.append s)
theorem RepL.take : ∀ {vs : List V} {ds : List D} (n : Nat), RepL K S H vs ds → RepL K S H (vs.take n) (ds.take n)
  | _, _, 0, _ => .nil
  | _, _, _ + 1, .nil => .nil
  | _, _, n + 1, .cons h r => .cons h (r.take n)
theorem RepL.drop : ∀ {vs : List V} {ds : List D} (n : Nat), RepL K S H vs ds → RepL K S H (vs.drop n) (ds.drop n)
  | _, _, 0, r => r
  | _, _, _ + 1, .nil => .nil
  | _, _, n + 1, .cons _ r => r.drop n
theorem RepL.reverse {vs : List V} {ds : List D} (h : RepL K S H vs ds) : RepL K S H vs.reverse ds.reverse := by
  have go : ∀ {vs : List V} {ds : List D}, RepL K S H vs ds → RepL K S H vs.reverse ds.reverse := by
    intro vs
    induction vs with
    | nil => intro ds h; cases h; exact .nil
    | cons v vs ih =>
      intro ds h
      cases h with
      | cons h r => rw [List.reverse_cons, List.reverse_cons]; exact (ih r).append (.cons h .nil)
  exact go h
theorem RepL.flat {vs : List V} {ds : List D} (h : RepL K S H vs ds) : ∀ n : Nat, RepL K S H (List.replicate n vs).flatten (List.replicate n ds).flatten
  | 0 => .nil
  | n + 1 => by
    rw [List.replicate_succ, List.replicate_succ, List.flatten_cons, List.flatten_cons]
    exact h.append (h.flat n)
theorem RepL.cut {vs : List V} {ds : List D} (h : RepL K S H vs ds) (lo hi : Option Int) : RepL K S H (cutV vs lo hi) (DL.cut ds lo hi) := by
  unfold cutV DL.cut
  rw [h.length]
  exact (h.drop _).take _
theorem RepL.set {v : V} {d : D} (q : Rep K S H v d) : ∀ {vs : List V} {ds : List D} (i : Nat), RepL K S H vs ds → RepL K S H (vs.set i v) (ds.set i d)
  | _, _, _, .nil => .nil
  | _, _, 0, .cons _ r => .cons q r
  | _, _, i + 1, .cons h r => .cons h (RepL.set q i r)
theorem RepL.dropLast {vs : List V} {ds : List D} (h : RepL K S H vs ds) : RepL K S H vs.dropLast ds.dropLast := by
  rw [List.dropLast_eq_take, List.dropLast_eq_take, h.length]
  exact h.take _
end

/-! ### what == reads -/
mutual
theorem Rep.py {K : PySem.W.Frag} {S : Addr → Prop} {H : Hp} : ∀ {v : V} {d : D} {a : PyData}, Rep K S H v d → d.py = some a → Dp K H v a
  | _, _, _, .non, e => by cases e; exact .non
  | _, _, _, .bl b, e => by cases e; exact .bl b
  | _, _, _, .int i, e => by cases e; exact .int i
  | _, _, _, .str x, e => by cases e; exact .str x
  | _, _, _, .lst (ds := ds) h n r, e => by
    have e' : (pyL ds).map PyData.list = some _ := e
    obtain ⟨as, h1, h2⟩ := Option.map_eq_some_iff.mp e'
    subst h2
    exact .lst (SqL.of h) (RepL.py r h1)
  | _, _, _, .tup (ds := ds) h n r, e => by
    have e' : (pyL ds).map PyData.tuple = some _ := e
    obtain ⟨as, h1, h2⟩ := Option.map_eq_some_iff.mp e'
    subst h2
    exact .tup (SqT.of h) (RepL.py r h1)
  | _, _, _, .ltp (ds := ds) h r, e => by
    have e' : (pyL ds).map PyData.tuple = some _ := e
    obtain ⟨as, h1, h2⟩ := Option.map_eq_some_iff.mp e'
    subst h2
    exact .tup (.inr h) (RepL.py r h1)
  | _, _, _, .scr _ _ _, e => by cases e
  | _, _, _, .scl _ _, e => by cases e
  | _, _, _, .obj _ _, e => by cases e
  | _, _, _, .fn _, e => by cases e
  | _, _, _, .dic _ _ _ _ _, e => by cases e
theorem RepL.py {K : PySem.W.Frag} {S : Addr → Prop} {H : Hp} : ∀ {vs : List V} {ds : List D} {as : List PyData}, RepL K S H vs ds → pyL ds = some as → DpAll K H vs as
  | _, _, _, .nil, e => by cases e; exact .nil
  | _, _, _, .cons (d := d) (ds := ds) h r, e => by
    unfold pyL at e
    cases q1 : d.py with
    | none => rw [q1] at e; cases e
    | some a =>
      cases q2 : pyL ds with
      | none => rw [q1, q2] at e; cases e
      | some as =>
        rw [q1, q2] at e
        cases e
        exact .cons (Rep.py h q1) (RepL.py r q2)
end

/-! ### the state of a frame -/
def SlotOk (K : PySem.W.Frag) (S : Addr → Prop) (H : Hp) (o : Option V) : DS → Prop
  | .un => True
  | .fz d => ∃ v, o = some v ∧ Rep K S H v d
  | .ow ds => ∃ a xs, o = some (.ref a) ∧ H a = some (.lst xs) ∧ S a ∧ RepL K S H xs ds
structure StE (K : PySem.W.Frag) (S : Addr → Prop) (σ : L2.St) (H : Hp) (δ : DSt) : Prop where
  len : σ.length = δ.length
  slot : ∀ (i : Nat) (s : DS), δ[i]? = some s → ∃ o, σ[i]? = some o ∧ SlotOk K S H o s
  sep : ∀ (i j : Nat) (a : Addr) (ds es : List D), δ[i]? = some (.ow ds) → δ[j]? = some (.ow es) → σ[i]? = some (some (.ref a)) → σ[j]? = some (some (.ref a)) → i = j
  here : ∀ b, S b → ∃ o, H b = some o
section
variable {K : PySem.W.Frag} {S S' : Addr → Prop} {H H' : Hp} {σ : L2.St} {δ : DSt}
theorem SlotOk.mono (e : Same H H') {o : Option V} : ∀ {s : DS}, SlotOk K S H o s → SlotOk K S H' o s
  | .un, _ => trivial
  | .fz d, ⟨v, q, r⟩ => ⟨v, q, r.mono e⟩
  | .ow ds, ⟨a, xs, q, h, z, r⟩ => ⟨a, xs, q, e _ _ h, z, r.mono e⟩
theorem StE.mono (e : Same H H') (s : StE K S σ H δ) : StE K S σ H' δ :=
  ⟨s.len, fun i t h => let ⟨o, h1, h2⟩ := s.slot i t h; ⟨o, h1, h2.mono e⟩, s.sep, fun b z => let ⟨o, h⟩ := s.here b z; ⟨o, e _ _ h⟩⟩
end
end DL

/-! DExpr: the rules of expressions over the data. -/
namespace DL
open PySem PySem.Spec PyProof.Rows L2
abbrev Sg := L2.St

/-- the fields of the own errors -/
def exF : Str → List Str := fun c =>
  if c = "BadText" then ["place"] else if c = "TooLarge" then ["what"] else if c = "MixedName" then ["name"] else if c = "MissingName" then ["name"]
  else if c = "OutOfRange" then ["number"] else if c = "Confused" then ["first", "second"] else if c = "NoSuchSize" then ["size"] else if c = "BadEntry" then ["entry"] else []
def ExR (K : PySem.W.Frag) (S : Addr → Prop) (H : Hp) (cls : Value) (dx : Option Addr) (n : Str) (xs : List D) : Prop :=
  cls = .ref (He.ga K n) ∧ ∃ a vs, dx = some a ∧ H a = some (.xd ((exF n).zip vs)) ∧ ¬ S a ∧ RepL K S H vs xs

def Res {α : Type} (K : PySem.W.Frag) (S : Addr → Prop) (H : Hp) (E : XK) (r : R α) (P : α → Prop) : Prop := match r with
  | .ok d => P d
  | .exc n xs => ∀ cls dx H', Same H H' → ExR K S H' cls dx n xs → E cls dx H'
  | .bad => False
/-- an expression's, a list's, a test's reading -/
def tD (K : PySem.W.Frag) (E : XK) (f : FE) : TE := fun σ H Q => ∃ S δ, StE K S σ H δ ∧ Res K S H E (f δ) fun d => ∀ v H', Same H H' → Rep K S H' v d → Q v H'
def tDL (K : PySem.W.Frag) (E : XK) (f : FL) : TA := fun σ H Q => ∃ S δ, StE K S σ H δ ∧ Res K S H E (f δ) fun ds => ∀ vs H', Same H H' → RepL K S H' vs ds → Q vs H'
def tDB (K : PySem.W.Frag) (E : XK) (f : FB) : TT := fun σ H Q => ∃ S δ, StE K S σ H δ ∧ Res K S H E (f δ) fun b => ∀ H', Same H H' → Q b H'
def DE (X : Cx) (E : XK) (e : Expr) (f : FE) : Prop := PE X e (tD X.K E f)
structure DA (X : Cx) (E : XK) (es : List Expr) (f : FL) : Prop where
  pa : PA X es (tDL X.K E f)
  len : ∀ δ ds, f δ = .ok ds → ds.length = es.length
def DB (X : Cx) (E : XK) (e : Expr) (f : FB) : Prop := PT X e (tDB X.K E f)
def DW (X : Cx) (E : XK) (e : Expr) (f : FB) : Prop := PW X e (tDB X.K E f)

theorem PE.imp {X : Cx} {e : Expr} {t t' : TE} (h : PE X e t) (k : ∀ σ H Q, t' σ H Q → t σ H Q) : PE X e t' := ⟨fun pins s σ H Q I q => h.run pins s σ H Q I (k σ H Q q)⟩
theorem PA.imp {X : Cx} {es : List Expr} {t t' : TA} (h : PA X es t) (k : ∀ σ H Q, t' σ H Q → t σ H Q) : PA X es t' := ⟨fun pos pins s σ H Q I q => h.run pos pins s σ H Q I (k σ H Q q)⟩
theorem PT.imp {X : Cx} {e : Expr} {t t' : TT} (h : PT X e t) (k : ∀ σ H Q, t' σ H Q → t σ H Q) : PT X e t' := ⟨fun pins s σ H Q I q => h.run pins s σ H Q I (k σ H Q q)⟩
theorem PW.imp {X : Cx} {e : Expr} {t t' : TT} (h : PW X e t) (k : ∀ σ H Q, t' σ H Q → t σ H Q) : PW X e t' := ⟨fun wh pins s σ H Q I q => h.run wh pins s σ H Q I (k σ H Q q)⟩
theorem PS.imp {X : Cx} {st : Stmt} {t t' : TS} (h : PS X st t) (k : ∀ D σ H, t' D σ H → t D σ H) : PS X st t' := ⟨fun pins s σ H D I q => h.run pins s σ H D I (k D σ H q)⟩
theorem PSs.imp {X : Cx} {st : List Stmt} {t t' : TS} (h : PSs X st t) (k : ∀ D σ H, t' D σ H → t D σ H) : PSs X st t' := ⟨fun pins s σ H D I q => h.run pins s σ H D I (k D σ H q)⟩

section
variable {K : PySem.W.Frag} {S : Addr → Prop} {H H1 : Hp} {E : XK} {α β : Type}
theorem same_new {p : Addr} (h : H p = none) (o : HO) : Same H (upd H p o) := fun b u q => by rw [upd_ne (ne_of_none q h)]; exact q
theorem Res.imp {r : R α} {P P' : α → Prop} (h : Res K S H E r P) (k : ∀ a, P a → P' a) : Res K S H E r P' := by
  cases r with
  | ok a => exact k a h
  | exc n xs => exact h
  | bad => exact h
theorem Res.on {r : R α} {f : α → R β} {P : β → Prop} (h : Res K S H E (r.bind f) P) : Res K S H E r fun a => Res K S H E (f a) P := by
  cases r with
  | ok a => exact h
  | exc n xs => exact h
  | bad => exact h
theorem Res.mono {r : R α} {P : α → Prop} (e : Same H H1) (h : Res K S H E r P) : Res K S H1 E r P := by
  cases r with
  | ok a => exact h
  | exc n xs => exact fun cls dx H' e' x => h cls dx H' (e.trans e') x
  | bad => exact h
theorem Res.of {o : Option α} {P : α → Prop} (h : Res K S H E (R.of o) P) : ∃ a, o = some a ∧ P a := by
  cases o with
  | none => exact h.elim
  | some a => exact ⟨a, rfl, h⟩
end

section
variable {X : Cx} {E : XK} {pos : Pos} {a b c : Expr} {f g : FE} {es : List Expr} {fl : FL}
/-! ### names and constants -/
theorem de_var (i : Nat) {x : Str} (hN : X.N[i]? = some x := by rfl) (hv : Vis X.env.scope x := by first | exact Or.inl rfl | exact Or.inr (Or.inl rfl) | exact Or.inr (Or.inr rfl)) (hd : (x == ("__debug__" : Str)) = false := by decide)
    (hcd : (x == ("__classdict__" : Str)) = false := by decide) : DE X E (.Name x pos) (fVar i) := by
  refine PE.imp (pe_var hN hv hd hcd) fun σ H Q h => ?_
  obtain ⟨S, δ, st, r⟩ := h
  unfold fVar at r
  cases q : δ[i]? with
  | none => rw [q] at r; exact r.elim
  | some s =>
    rw [q] at r
    cases s with
    | un => exact r.elim
    | ow ds => exact r.elim
    | fz d =>
      obtain ⟨o, h1, v, h2, h3⟩ := st.slot i _ q
      subst h2
      exact ⟨v, h1, r v H (Same.refl _) h3⟩
theorem de_c {e : Expr} {v : V} {d : D} (h : PE X e (tC v)) (r : ∀ S H, Rep X.K S H v d) : DE X E e (fC d) := by
  refine PE.imp h fun σ H Q h => ?_
  obtain ⟨S, δ, st, q⟩ := h
  exact q v H (Same.refl _) (r S H)
theorem de_int {i j} : DE X E (.Constant (.int i) j pos) (fC (.int i)) := de_c pe_int fun _ _ => .int i
theorem de_bl {b j} : DE X E (.Constant (.bool b) j pos) (fC (.bl b)) := de_c pe_bl fun _ _ => .bl b
theorem de_non {j} : DE X E (.Constant .none j pos) (fC .non) := de_c pe_non fun _ _ => .non
theorem de_str {x j} : DE X E (.Constant (.str x) j pos) (fC (.str x)) := de_c pe_str fun _ _ => .str _
theorem de_glob {x : Str} {v : V} {d : D} {u : Value} (hg : Gl X x) (hm : X.mg x = some u) (r : RelV v u) (h : ∀ S H, Rep X.K S H v d) (hd : (x == ("__debug__" : Str)) = false := by decide) : DE X E (.Name x pos) (fC d) := de_c (pe_glob hg hm r hd) h

/-! ### argument lists -/
theorem da_nil : DA X E [] fNil := by
  refine ⟨PA.imp pa_nil fun σ H Q h => ?_, fun δ ds h => by cases h; rfl⟩
  obtain ⟨S, δ, st, q⟩ := h
  exact q [] H (Same.refl _) .nil
theorem da_cons (ha : DE X E a f) (hr : DA X E es fl) (hs : starEach (a :: es) X.env = (false, eval a X.env) :: starEach es X.env := by rfl) : DA X E (a :: es) (fCons f fl) := by
  refine ⟨PA.imp (pa_cons ha hr.pa hs) fun σ H Q h => ?_, fun δ ds h => ?_⟩
  · obtain ⟨S, δ, st, q⟩ := h
    have q1 := Res.on q
    refine ⟨S, δ, st, q1.imp fun d q2 v H1 e1 r1 => ?_⟩
    refine ⟨S, δ, st.mono e1, (Res.on q2).mono e1 |>.imp fun ds q3 vs H2 e2 r2 => ?_⟩
    exact q3 (v :: vs) H2 (e1.trans e2) (.cons (r1.mono e2) r2)
  · unfold fCons at h
    cases q : f δ with
    | ok d =>
      rw [q, R.bind_ok] at h
      cases q2 : fl δ with
      | ok es' =>
        rw [q2, R.bind_ok] at h
        cases h
        exact congrArg Nat.succ (hr.len _ _ q2)
      | exc n xs => rw [q2] at h; cases h
      | bad => rw [q2] at h; cases h
    | exc n xs => rw [q] at h; cases h
    | bad => rw [q] at h; cases h

/-! ### operations on values -/
def Dom (S : Addr → Prop) (H : Hp) : Prop := ∀ b, S b → ∃ o, H b = some o
theorem Dom.new {S : Addr → Prop} {H : Hp} (h : Dom S H) {p : Addr} (hp : H p = none) : ¬ S p := fun z => by
  obtain ⟨o, q⟩ := h p z
  rw [hp] at q; cases q
/-- what a value may give -/
def Giv (K : PySem.W.Frag) (S : Addr → Prop) (H : Hp) (z : D) (Q : VK) : Prop := ∀ v H', Same H H' → Rep K S H' v z → Q v H'
theorem Giv.here {K : PySem.W.Frag} {S : Addr → Prop} {H : Hp} {z : D} {Q : VK} (q : Giv K S H z Q) {v : V} (r : Rep K S H v z) : Q v H := q v H (Same.refl _) r
theorem Giv.lst {K : PySem.W.Frag} {S : Addr → Prop} {H : Hp} {zs : List D} {Q : VK} (q : Giv K S H (.lst zs) Q) (dm : Dom S H) {xs : List V} (r : RepL K S H xs zs) : ∀ p, H p = none → Q (.ref p) (upd H p (.lst xs)) := fun p hp =>
  q (.ref p) _ (same_new hp _) (.lst upd_same (dm.new hp) (r.mono (same_new hp _)))
theorem Giv.tup {K : PySem.W.Frag} {S : Addr → Prop} {H : Hp} {zs : List D} {Q : VK} (q : Giv K S H (.tup zs) Q) (dm : Dom S H) {xs : List V} (r : RepL K S H xs zs) : ∀ p, H p = none → Q (.ref p) (upd H p (.tup xs)) := fun p hp =>
  q (.ref p) _ (same_new hp _) (.tup upd_same (dm.new hp) (r.mono (same_new hp _)))
def OpD (X : Cx) (f : Value → Value → Sem Value) (F : D → D → Option D) : Prop :=
  OpR X f fun x y H Q => ∃ S d e z, Dom S H ∧ Rep X.K S H x d ∧ Rep X.K S H y e ∧ F d e = some z ∧ Giv X.K S H z Q
def UnD (X : Cx) (f : Value → Sem Value) (F : D → Option D) : Prop :=
  UnR X f fun x H Q => ∃ S d z, Dom S H ∧ Rep X.K S H x d ∧ F d = some z ∧ Giv X.K S H z Q
def CallD (X : Cx) (f : Value) (F : List D → Option D) : Prop :=
  CallR X f fun xs H Q => ∃ S ds z, Dom S H ∧ RepL X.K S H xs ds ∧ F ds = some z ∧ Giv X.K S H z Q
def IxD (X : Cx) (F : D → D → Option D) : Prop :=
  IxR X fun x y H Q => ∃ S d e z, Dom S H ∧ Rep X.K S H x d ∧ Rep X.K S H y e ∧ F d e = some z ∧ Giv X.K S H z Q

/-- two parts, then what is done with them -/
theorem two_of {K : PySem.W.Frag} {f g : FE} {F : D → D → Option D} {r : R2} {σ : Sg} {H : Hp} {Q : VK} (h : tD K E (fB F f g) σ H Q)
    (hr : ∀ x y H Q, (∃ S d e z, Dom S H ∧ Rep K S H x d ∧ Rep K S H y e ∧ F d e = some z ∧ Giv K S H z Q) → r x y H Q) : tOp r (tD K E f) (tD K E g) σ H Q := by
  obtain ⟨S, δ, st, q⟩ := h
  refine ⟨S, δ, st, (Res.on q).imp fun d q1 v H1 e1 r1 => ?_⟩
  refine ⟨S, δ, st.mono e1, ((Res.on q1).mono e1).imp fun e q2 u H2 e2 r2 => ?_⟩
  obtain ⟨z, hz, q3⟩ := Res.of q2
  exact hr v u H2 Q ⟨S, d, e, z, ((st.mono e1).mono e2).here, r1.mono e2, r2, hz, fun w H3 e3 r3 => q3 w H3 (e1.trans (e2.trans e3)) r3⟩
theorem de_op {op : Operator} {F : D → D → Option D} (ho : OpD X (binaryOp op) F) (ha : DE X E a f) (hb : DE X E b g) : DE X E (.BinOp a op b pos) (fB F f g) :=
  PE.imp (pe_op ho ha hb) fun σ H Q h => two_of h fun _ _ _ _ q => q
theorem de_cmp {op : CmpOp} {F : D → D → Option D} (ho : OpD X (compareOp op) F) (ha : DE X E a f) (hb : DE X E b g) (hm : behindInMarks op b = false) : DE X E (.Compare a [op] [b] pos) (fB F f g) :=
  PE.imp (pe_cmpR ho ha hb hm) fun σ H Q h => two_of h fun _ _ _ _ q => q
theorem de_ix {F : D → D → Option D} (ho : IxD X F) (ha : DE X E a f) (hb : DE X E b g) (hs : PlainIx b) : DE X E (.Subscript a b pos) (fB F f g) :=
  PE.imp (pe_ix ho ha hb hs) fun σ H Q h => two_of h fun _ _ _ _ q => q
theorem de_un {op : UnaryOp} {F : D → Option D} (ho : UnD X (unaryOp op) F) (ha : DE X E a f) : DE X E (.UnaryOp op a pos) (fU F f) := by
  refine PE.imp (pe_un ho ha) fun σ H Q h => ?_
  obtain ⟨S, δ, st, q⟩ := h
  refine ⟨S, δ, st, (Res.on q).imp fun d q1 v H1 e1 r1 => ?_⟩
  obtain ⟨z, hz, q2⟩ := Res.of q1
  exact ⟨S, d, z, (st.mono e1).here, r1, hz, fun w H2 e2 r2 => q2 w H2 (e1.trans e2) r2⟩
/-! ### displays -/
theorem de_tup {k} (h : DA X E es fl) (hl : es.length ≤ sizeLine := by exact Nat.le_of_ble_eq_true rfl) : DE X E (.Tuple es k pos) (fTup fl) := by
  refine PE.imp (pe_tup h.pa) fun σ H Q hq => ?_
  obtain ⟨S, δ, st, q⟩ := hq
  refine ⟨S, δ, st, ?_⟩
  have q1 := Res.on (show Res X.K S H E ((fl δ).bind fun xs => R.of (some (D.tup xs))) _ from q)
  cases e : fl δ with
  | bad => rw [e] at q1; exact q1.elim
  | exc n xs => rw [e] at q1; exact q1
  | ok ds =>
    rw [e] at q1
    intro vs H1 e1 r1
    have q2 : Giv X.K S H (.tup ds) Q := q1
    refine ⟨by rw [r1.length, h.len _ _ e]; exact hl, fun p hp => ?_⟩
    exact Giv.tup (fun w H2 e2 r2 => q2 w H2 (e1.trans e2) r2) (st.mono e1).here r1 p hp
theorem de_lst (h : DA X E es fl) (hl : es.length ≤ sizeLine := by exact Nat.le_of_ble_eq_true rfl) : DE X E (.List es pos) (fLst fl) := by
  refine PE.imp (pe_lst h.pa) fun σ H Q hq => ?_
  obtain ⟨S, δ, st, q⟩ := hq
  refine ⟨S, δ, st, ?_⟩
  have q1 := Res.on (show Res X.K S H E ((fl δ).bind fun xs => R.of (some (D.lst xs))) _ from q)
  cases e : fl δ with
  | bad => rw [e] at q1; exact q1.elim
  | exc n xs => rw [e] at q1; exact q1
  | ok ds =>
    rw [e] at q1
    intro vs H1 e1 r1
    have q2 : Giv X.K S H (.lst ds) Q := q1
    refine ⟨by rw [r1.length, h.len _ _ e]; exact hl, fun p hp => ?_⟩
    exact Giv.lst (fun w H2 e2 r2 => q2 w H2 (e1.trans e2) r2) (st.mono e1).here r1 p hp
/-! ### tests -/
theorem db_cmp {op : CmpOp} {F : D → D → Option D} (ho : OpD X (compareOp op) F) (ha : DE X E a f) (hb : DE X E b g) (hm : behindInMarks op b = false) : DB X E (.Compare a [op] [b] pos) (fTest (fB F f g)) := by
  refine PT.imp (pt_cmpR ho ha hb hm) fun σ H Q h => ?_
  obtain ⟨S, δ, st, q⟩ := h
  refine two_of (f := f) (g := g) (F := F) ⟨S, δ, st, (Res.on q).imp fun d q1 v H1 e1 r1 => ?_⟩ fun _ _ _ _ z => z
  cases r1 with
  | bl k => exact ⟨k, rfl, q1 H1 e1⟩
  | _ => exact q1.elim
theorem db_val (h : DE X E a f) (he : ∀ whole, isTrue a X.env whole = (do let v ← whole; standAt a.pos; holding [v] (truthy v)) := by intro _; rfl) : DB X E a (fTest f) := by
  refine PT.imp (pt_val h he) fun σ H Q hq => ?_
  obtain ⟨S, δ, st, q⟩ := hq
  refine ⟨S, δ, st, (Res.on q).imp fun d q1 v H1 e1 r1 => ?_⟩
  cases r1 with
  | bl k => exact ⟨k, rfl, q1 H1 e1⟩
  | _ => exact q1.elim
theorem db_not {c : FB} (h : DB X E a c) : DB X E (.UnaryOp .Not a pos) (fNotB c) := by
  refine PT.imp (pt_not h) fun σ H Q hq => ?_
  obtain ⟨S, δ, st, q⟩ := hq
  exact ⟨S, δ, st, (Res.on q).imp fun d q1 => q1⟩
variable {rest : List Expr} {p q : FB}
theorem dw_and1 (h : DB X E a p) : DW X E (.BoolOp .And [a] pos) p := pw_and1 h
theorem dw_or1 (h : DB X E a p) : DW X E (.BoolOp .Or [a] pos) p := pw_or1 h
theorem dw_and (h : DB X E a p) (k : DW X E (.BoolOp .And (b :: rest) pos) q) : DW X E (.BoolOp .And (a :: b :: rest) pos) (fAndB p q) := by
  refine PW.imp (pw_and h k) fun σ H Q hq => ?_
  obtain ⟨S, δ, st, r⟩ := hq
  refine ⟨S, δ, st, (Res.on r).imp fun d q1 H1 e1 => ?_⟩
  cases d with
  | true => exact ⟨S, δ, st.mono e1, (q1.mono e1).imp fun b q2 H2 e2 => q2 H2 (e1.trans e2)⟩
  | false => exact q1 H1 e1
theorem dw_or (h : DB X E a p) (k : DW X E (.BoolOp .Or (b :: rest) pos) q) : DW X E (.BoolOp .Or (a :: b :: rest) pos) (fOrB p q) := by
  refine PW.imp (pw_or h k) fun σ H Q hq => ?_
  obtain ⟨S, δ, st, r⟩ := hq
  refine ⟨S, δ, st, (Res.on r).imp fun d q1 H1 e1 => ?_⟩
  cases d with
  | true => exact q1 H1 e1
  | false => exact ⟨S, δ, st.mono e1, (q1.mono e1).imp fun b q2 H2 e2 => q2 H2 (e1.trans e2)⟩
theorem db_of (h : DW X E a p) : DB X E a p := PW.pt h
/-- not, and, or as values -/
theorem de_not (h : DE X E a f) : DE X E (.UnaryOp .Not a pos) (fVal (fNotB (fTest f))) := by
  refine PE.imp (pe_not h) fun σ H Q hq => ?_
  obtain ⟨S, δ, st, r⟩ := hq
  refine ⟨S, δ, st, (Res.on (Res.on (Res.on r))).imp fun d q1 v H1 e1 r1 => ?_⟩
  cases r1 with
  | bl k => exact ⟨k, rfl, q1 _ H1 e1 (.bl _)⟩
  | _ => exact q1.elim
theorem de_one {op} (h : DE X E a f) : DE X E (.BoolOp op [a] pos) f := pe_one h
def fAnd (f g : FE) : FE := fun δ => (f δ).bind fun d => match d with
  | .bl true => g δ
  | .bl false => .ok (.bl false)
  | _ => .bad
def fOr (f g : FE) : FE := fun δ => (f δ).bind fun d => match d with
  | .bl true => .ok (.bl true)
  | .bl false => g δ
  | _ => .bad
theorem de_and (h : DE X E a f) (k : DE X E (.BoolOp .And (b :: rest) pos) g) : DE X E (.BoolOp .And (a :: b :: rest) pos) (fAnd f g) := by
  refine PE.imp (pe_and h k) fun σ H Q hq => ?_
  obtain ⟨S, δ, st, r⟩ := hq
  refine ⟨S, δ, st, (Res.on r).imp fun d q1 v H1 e1 r1 => ?_⟩
  cases r1 with
  | bl k =>
    refine ⟨k, rfl, ?_⟩
    cases k with
    | true => exact ⟨S, δ, st.mono e1, (q1.mono e1).imp fun d q2 v H2 e2 r2 => q2 v H2 (e1.trans e2) r2⟩
    | false => exact q1 _ H1 e1 (.bl _)
  | _ => exact q1.elim
theorem de_or (h : DE X E a f) (k : DE X E (.BoolOp .Or (b :: rest) pos) g) : DE X E (.BoolOp .Or (a :: b :: rest) pos) (fOr f g) := by
  refine PE.imp (pe_or h k) fun σ H Q hq => ?_
  obtain ⟨S, δ, st, r⟩ := hq
  refine ⟨S, δ, st, (Res.on r).imp fun d q1 v H1 e1 r1 => ?_⟩
  cases r1 with
  | bl k =>
    refine ⟨k, rfl, ?_⟩
    cases k with
    | true => exact q1 _ H1 e1 (.bl _)
    | false => exact ⟨S, δ, st.mono e1, (q1.mono e1).imp fun d q2 v H2 e2 r2 => q2 v H2 (e1.trans e2) r2⟩
  | _ => exact q1.elim
theorem de_if {t : FB} (ht : DB X E c t) (ha : DE X E a f) (hb : DE X E b g) : DE X E (.IfExp c a b pos) (fIf t f g) := by
  refine PE.imp (pe_ifExp ht ha hb) fun σ H Q hq => ?_
  obtain ⟨S, δ, st, r⟩ := hq
  refine ⟨S, δ, st, (Res.on r).imp fun d q1 H1 e1 => ?_⟩
  cases d with
  | true => exact ⟨S, δ, st.mono e1, (q1.mono e1).imp fun d q2 v H2 e2 r2 => q2 v H2 (e1.trans e2) r2⟩
  | false => exact ⟨S, δ, st.mono e1, (q1.mono e1).imp fun d q2 v H2 e2 r2 => q2 v H2 (e1.trans e2) r2⟩
end
end DL

/-! DOps: the operators and built-ins over the data. -/
namespace DL
open PySem PySem.Spec PyProof.Rows L2
section
variable {X : Cx}
theorem Rep.seqT {K : PySem.W.Frag} {S : Addr → Prop} {H : Hp} {v : V} {ds : List D} (r : Rep K S H v (.tup ds)) : ∃ a xs, v = .ref a ∧ SqT K H a xs ∧ RepL K S H xs ds := by
  cases r with
  | tup h n r => exact ⟨_, _, rfl, SqT.of h, r⟩
  | ltp h r => exact ⟨_, _, rfl, .inr h, r⟩
theorem Rep.lstH {K : PySem.W.Frag} {S : Addr → Prop} {H : Hp} {v : V} {ds : List D} (r : Rep K S H v (.lst ds)) : ∃ a xs, v = .ref a ∧ H a = some (.lst xs) ∧ RepL K S H xs ds := by
  cases r with
  | lst h n r => exact ⟨_, _, rfl, h, r⟩
theorem Rep.scrH {K : PySem.W.Frag} {S : Addr → Prop} {H : Hp} {v : V} {ds : List D} (r : Rep K S H v (.scr ds)) : ∃ a xs, v = .ref a ∧ SqL K H a xs ∧ RepL K S H xs ds := by
  cases r with
  | scr h n r => exact ⟨_, _, rfl, .inl (.inr ⟨_, h⟩), r⟩
  | scl h r => exact ⟨_, _, rfl, .inr h, r⟩
theorem Rep.intE {K : PySem.W.Frag} {S : Addr → Prop} {H : Hp} {v : V} {i : Int} (r : Rep K S H v (.int i)) : v = .int i := by cases r; rfl
theorem Rep.strE {K : PySem.W.Frag} {S : Addr → Prop} {H : Hp} {v : V} {i : Str} (r : Rep K S H v (.str i)) : v = .str i := by cases r; rfl
theorem Rep.blE {K : PySem.W.Frag} {S : Addr → Prop} {H : Hp} {v : V} {i : Bool} (r : Rep K S H v (.bl i)) : v = .bl i := by cases r; rfl
theorem Rep.nonE {K : PySem.W.Frag} {S : Addr → Prop} {H : Hp} {v : V} (r : Rep K S H v .non) : v = .non := by cases r; rfl
theorem Rep.non_iff {K : PySem.W.Frag} {S : Addr → Prop} {H : Hp} {v : V} {d : D} (r : Rep K S H v d) : decide (v = .non) = d.isNon := by
  cases r <;> simp [D.isNon]

/-- an operation of two ints -/
theorem opd_int {f : Value → Value → Sem Value} {C : Int → Int → Prop} {g : Int → Int → V} {gD : Int → Int → D} {F : D → D → Option D} (h : OpR X f (rI C g)) (hg : ∀ S H i j, Rep X.K S H (g i j) (gD i j))
    (hF : ∀ d e z, F d e = some z → ∃ i j, d = .int i ∧ e = .int j ∧ C i j ∧ z = gD i j) : OpD X f F := by
  intro pins s σ H x y v u Q I rx ry q
  obtain ⟨S, d, e, z, dm, r1, r2, hz, q⟩ := q
  obtain ⟨i, j, rfl, rfl, hc, rfl⟩ := hF d e z hz
  exact h pins s σ H x y v u Q I rx ry ⟨i, j, r1.intE, r2.intE, hc, q.here (hg S H i j)⟩
theorem opd_int0 {f : Value → Value → Sem Value} {g : Int → Int → V} {gD : Int → Int → D} {F : D → D → Option D} (h : OpR X f (rI0 g)) (hg : ∀ S H i j, Rep X.K S H (g i j) (gD i j))
    (hF : ∀ d e z, F d e = some z → ∃ i j, d = .int i ∧ e = .int j ∧ z = gD i j) : OpD X f F := by
  intro pins s σ H x y v u Q I rx ry q
  obtain ⟨S, d, e, z, dm, r1, r2, hz, q⟩ := q
  obtain ⟨i, j, rfl, rfl, rfl⟩ := hF d e z hz
  exact h pins s σ H x y v u Q I rx ry ⟨i, j, r1.intE, r2.intE, q.here (hg S H i j)⟩
theorem opd_sub : OpD X (binaryOp .Sub) dSub := opd_int0 (gD := fun i j => .int (i - j)) op_sub (fun _ _ i j => .int _) fun d e z h => by
  cases d <;> cases e <;> simp [dSub] at h
  exact ⟨_, _, rfl, rfl, h.symm⟩
theorem opd_fdiv : OpD X (binaryOp .FloorDiv) dFdiv := opd_int (gD := fun i j => .int (i / j)) op_fdiv (fun _ _ i j => .int _) fun d e z h => by
  cases d <;> cases e <;> simp [dFdiv] at h
  exact ⟨_, _, rfl, rfl, h.1, h.2.symm⟩
theorem opd_mod : OpD X (binaryOp .Mod) dMod := opd_int (gD := fun i j => .int (i % j)) op_mod (fun _ _ i j => .int _) fun d e z h => by
  cases d <;> cases e <;> simp [dMod] at h
  exact ⟨_, _, rfl, rfl, h.1, h.2.symm⟩
theorem opd_pow : OpD X (binaryOp .Pow) dPow := opd_int (gD := fun i j => .int (i ^ j.toNat)) op_pow (fun _ _ i j => .int _) fun d e z h => by
  cases d <;> cases e <;> simp only [dPow, Option.ite_none_right_eq_some, Option.some.injEq, reduceCtorEq] at h
  exact ⟨_, _, rfl, rfl, powOk_of h.1, h.2.symm⟩
theorem opd_lt : OpD X (compareOp .Lt) dLt := opd_int0 (gD := fun i j => .bl (decide (i < j))) op_lt (fun _ _ i j => .bl _) fun d e z h => by
  cases d <;> cases e <;> simp [dLt] at h
  exact ⟨_, _, rfl, rfl, h.symm⟩
theorem opd_le : OpD X (compareOp .LtE) dLe := opd_int0 (gD := fun i j => .bl (decide (i ≤ j))) op_le (fun _ _ i j => .bl _) fun d e z h => by
  cases d <;> cases e <;> simp [dLe] at h
  exact ⟨_, _, rfl, rfl, h.symm⟩
theorem opd_gt : OpD X (compareOp .Gt) dGt := opd_int0 (gD := fun i j => .bl (decide (j < i))) op_gt (fun _ _ i j => .bl _) fun d e z h => by
  cases d <;> cases e <;> simp [dGt] at h
  exact ⟨_, _, rfl, rfl, h.symm⟩
theorem opd_ge : OpD X (compareOp .GtE) dGe := opd_int0 (gD := fun i j => .bl (decide (j ≤ i))) op_ge (fun _ _ i j => .bl _) fun d e z h => by
  cases d <;> cases e <;> simp [dGe] at h
  exact ⟨_, _, rfl, rfl, h.symm⟩
theorem und_neg : UnD X (unaryOp .USub) dNeg := by
  intro pins s σ H x v Q I rx q
  obtain ⟨S, d, z, dm, r1, hz, q⟩ := q
  cases d <;> simp [dNeg] at hz
  subst hz
  exact un_neg pins s σ H x v Q I rx ⟨_, r1.intE, q.here (.int _)⟩
theorem lim_abs {k : Nat} {i : Int} (h : lim k i = true) : i.natAbs < 2 ^ k := Nat.blt_eq.mp h
theorem lim_of {k : Nat} {i : Int} (h : lim k i = true) : -(2 ^ k) < i ∧ i < 2 ^ k := by
  have h1 := lim_abs h
  have e : ((2 ^ k : Nat) : Int) = 2 ^ k := by simp
  omega
theorem opd_add : OpD X (binaryOp .Add) dAdd := by
  intro pins s σ H x y v u Q I rx ry q
  obtain ⟨S, d, e, z, dm, r1, r2, hz, q⟩ := q
  cases d with
  | int i =>
    cases e <;> simp [dAdd] at hz
    subst hz
    exact op_add pins s σ H x y v u Q I rx ry ⟨_, _, r1.intE, r2.intE, q.here (.int _)⟩
  | str i =>
    cases e <;> simp [dAdd] at hz
    obtain ⟨h1, h2⟩ := hz
    subst h2
    exact op_add_str pins s σ H x y v u Q I rx ry ⟨_, _, r1.strE, r2.strE, okLe_of h1, q.here (.str _)⟩
  | lst xs =>
    cases e <;> simp [dAdd] at hz
    obtain ⟨h1, h2⟩ := hz
    subst h2
    obtain ⟨a, vs, e1, e2, e3⟩ := r1.lstH
    obtain ⟨b, ws, e4, e5, e6⟩ := r2.lstH
    exact op_cat pins s σ H x y v u Q I rx ry ⟨a, b, vs, ws, e1, e4, e2, e5, by rw [e3.length, e6.length]; exact okLe_of h1, q.lst dm (e3.append e6)⟩
  | tup xs =>
    cases xs with
    | nil => cases e <;> simp [dAdd] at hz
    | cons x0 xs =>
      cases e <;> simp only [dAdd, Option.ite_none_right_eq_some, Option.some.injEq, reduceCtorEq] at hz
      rename_i ys
      obtain ⟨h1, h2⟩ := hz
      subst h2
      obtain ⟨a, vs, e1, e2, e3⟩ := r1.seqT
      obtain ⟨b, ws, e4, e5, e6⟩ := r2.seqT
      have l1 := e3.length
      have l2 := e6.length
      refine op_catT pins s σ H x y v u Q I rx ry ⟨a, b, vs, ws, e1, e4, e2, e5, ?_, by rw [l1, l2]; exact okLe_of h1, ?_, ?_⟩
      · intro z
        rw [z] at l1
        cases l1
      · intro z
        subst z
        cases e6
        rw [e1] at r1
        rw [List.append_nil] at q
        exact q.here r1
      · intro _ p hp
        exact q.tup dm (e3.append e6) p hp
  | _ => cases e <;> simp [dAdd] at hz
theorem opd_mul : OpD X (binaryOp .Mult) dMul := by
  intro pins s σ H x y v u Q I rx ry q
  obtain ⟨S, d, e, z, dm, r1, r2, hz, q⟩ := q
  cases d with
  | int i =>
    cases e <;> simp only [dMul, Option.ite_none_right_eq_some, Option.some.injEq, reduceCtorEq] at hz
    rename_i j
    obtain ⟨h1, h2⟩ := hz
    subst h2
    simp only [mulOk, Bool.or_eq_true, Bool.and_eq_true] at h1
    rcases h1 with (h1 | h1) | ⟨h1, h2⟩
    · exact op_mul pins s σ H x y v u Q I rx ry ⟨_, _, r1.intE, r2.intE, .inl (lim_of h1), q.here (.int _)⟩
    · exact op_mul pins s σ H x y v u Q I rx ry ⟨_, _, r1.intE, r2.intE, .inr (lim_of h1), q.here (.int _)⟩
    · exact op_mulW pins s σ H x y v u Q I rx ry ⟨_, _, r1.intE, r2.intE, wide_mul (lim_abs h1) (lim_abs h2) (by decide) (by decide) (by decide), q.here (.int _)⟩
  | lst xs =>
    cases e <;> simp only [dMul, Option.ite_none_right_eq_some, Option.some.injEq, reduceCtorEq] at hz
    obtain ⟨h5, h4⟩ := hz
    subst h4
    obtain ⟨h6, h3⟩ := Bool.and_eq_true_iff.mp (show (lim 63 _ && okLe _) = true from h5)
    obtain ⟨h1, h2⟩ := lim_of h6
    have h3 := okLe_of h3
    obtain ⟨a, vs, e1, e2, e3⟩ := r1.lstH
    exact op_rep pins s σ H x y v u Q I rx ry ⟨a, _, vs, e1, r2.intE, e2, Int.le_of_lt h1, h2, by rw [e3.length]; exact h3, q.lst dm (e3.flat _)⟩
  | _ => cases e <;> simp [dMul] at hz
theorem opd_eq (hu : X.A.units + 64 < cLine) : OpD X (compareOp .Eq) dEq := by
  intro pins s σ H x y v u Q I rx ry q
  obtain ⟨S, d, e, z, dm, r1, r2, hz, q⟩ := q
  unfold dEq dEqB at hz
  split at hz
  · simp only [Option.map_some, Option.some.injEq] at hz
    subst hz
    have e1 := r1.strE
    have e2 := r2.strE
    subst e1
    subst e2
    exact op_eq pins s σ H _ _ v u Q I rx ry ⟨rfl, by rw [dec_str]; exact q.here (.bl _)⟩
  · simp only [Option.map_some, Option.some.injEq] at hz
    subst hz
    have e1 := r1.intE
    have e2 := r2.intE
    subst e1
    subst e2
    exact op_eq pins s σ H _ _ v u Q I rx ry ⟨rfl, by rw [dec_int]; exact q.here (.bl _)⟩
  unfold dEqP at hz
  cases h1 : d.py with
  | none => rw [h1] at hz; cases hz
  | some a =>
    cases h2 : e.py with
    | none => rw [h1, h2] at hz; cases hz
    | some b =>
      rw [h1, h2] at hz
      by_cases c : (SeqAt.shaped a && SeqAt.shaped b) = true
      · simp only [c, if_true, Option.map_some, Option.some.injEq] at hz
        subst hz
        obtain ⟨c1, c2⟩ := Bool.and_eq_true_iff.mp c
        exact op_eqD hu pins s σ H x y v u Q I rx ry ⟨a, b, r1.py h1, r2.py h2, c1, c2, q.here (.bl _)⟩
      · simp only [c] at hz
        cases hz
theorem opd_ne (hu : X.A.units + 64 < cLine) : OpD X (compareOp .NotEq) dNe := by
  intro pins s σ H x y v u Q I rx ry q
  obtain ⟨S, d, e, z, dm, r1, r2, hz, q⟩ := q
  unfold dNe dEqB at hz
  split at hz
  · simp only [Option.map_some, Option.some.injEq] at hz
    subst hz
    have e1 := r1.strE
    have e2 := r2.strE
    subst e1
    subst e2
    exact op_ne pins s σ H _ _ v u Q I rx ry ⟨rfl, by rw [dec_str]; exact q.here (.bl _)⟩
  · simp only [Option.map_some, Option.some.injEq] at hz
    subst hz
    have e1 := r1.intE
    have e2 := r2.intE
    subst e1
    subst e2
    exact op_ne pins s σ H _ _ v u Q I rx ry ⟨rfl, by rw [dec_int]; exact q.here (.bl _)⟩
  unfold dEqP at hz
  cases h1 : d.py with
  | none => rw [h1] at hz; cases hz
  | some a =>
    cases h2 : e.py with
    | none => rw [h1, h2] at hz; cases hz
    | some b =>
      rw [h1, h2] at hz
      by_cases c : (SeqAt.shaped a && SeqAt.shaped b) = true
      · simp only [c, if_true, Option.map_some, Option.some.injEq] at hz
        subst hz
        obtain ⟨c1, c2⟩ := Bool.and_eq_true_iff.mp c
        exact op_neD hu pins s σ H x y v u Q I rx ry ⟨a, b, r1.py h1, r2.py h2, c1, c2, q.here (.bl _)⟩
      · simp only [c] at hz
        cases hz
/-- is None, is not None -/
theorem de_isN {E : XK} {a : Expr} {f : FE} {pos p2 : Pos} {j : Nat} (h : DE X E a f) : DE X E (.Compare a [.Is] [.Constant .none j p2] pos) (fU dIsN f) := by
  refine PE.imp (pe_cmp (pc_isN h)) fun σ H Q hq => ?_
  obtain ⟨S, δ, st, q⟩ := hq
  refine ⟨S, δ, st, (Res.on q).imp fun d q1 v H1 e1 r1 => ?_⟩
  have q2 : Giv X.K S H (.bl d.isNon) Q := q1
  show Q (.bl (decide (v = .non))) H1
  rw [r1.non_iff]
  exact q2 _ H1 e1 (.bl _)
theorem de_notN {E : XK} {a : Expr} {f : FE} {pos p2 : Pos} {j : Nat} (h : DE X E a f) : DE X E (.Compare a [.IsNot] [.Constant .none j p2] pos) (fU dNotN f) := by
  refine PE.imp (pe_cmp (pc_notN h)) fun σ H Q hq => ?_
  obtain ⟨S, δ, st, q⟩ := hq
  refine ⟨S, δ, st, (Res.on q).imp fun d q1 v H1 e1 r1 => ?_⟩
  have q2 : Giv X.K S H (.bl (!d.isNon)) Q := q1
  show Q (.bl (!decide (v = .non))) H1
  rw [r1.non_iff]
  exact q2 _ H1 e1 (.bl _)
/-! ### in -/
theorem Rep.flatV {K : PySem.W.Frag} {S : Addr → Prop} {H : Hp} {v : V} {d : D} (r : Rep K S H v d) (h : d.flat = true) : flatV v = true := by
  cases r <;> first | rfl | cases h
theorem Rep.eqV {K : PySem.W.Frag} {S : Addr → Prop} {H : Hp} {v w : V} {d e : D} (r : Rep K S H v d) (r2 : Rep K S H w e) (h : d.flat = true) (h2 : e.flat = true) : eqV v w = flatEq d e := by
  cases r <;> first | (cases r2 <;> first | rfl | cases h2) | cases h
theorem RepL.flatV {K : PySem.W.Frag} {S : Addr → Prop} {H : Hp} : ∀ {vs : List V} {ds : List D}, RepL K S H vs ds → ds.all D.flat = true → vs.all L2.flatV = true
  | _, _, .nil, _ => rfl
  | _, _, .cons h r, e => by
    rw [List.all_cons, Bool.and_eq_true] at e ⊢
    exact ⟨h.flatV e.1, r.flatV e.2⟩
theorem RepL.inV {K : PySem.W.Frag} {S : Addr → Prop} {H : Hp} {v : V} {d : D} (q : Rep K S H v d) (hd : d.flat = true) : ∀ {vs : List V} {ds : List D}, RepL K S H vs ds → ds.all D.flat = true → L2.inV v vs = inB d ds
  | _, _, .nil, _ => rfl
  | _, _, .cons h r, e => by
    rw [List.all_cons, Bool.and_eq_true] at e
    have e1 := RepL.inV q hd r e.2
    unfold L2.inV inB at e1 ⊢
    rw [List.any_cons, List.any_cons, e1, h.eqV q e.1 hd]
/-! a dict's keys -/
abbrev kvsOf (ks : List Str) (vs : List V) : List (Key × V) := (ks.map Sum.inr).zip vs
theorem valV_of : ∀ {ks : List Str} {vs : List V} {k : Str}, ks.length = vs.length → (valV (kvsOf ks vs) (Sum.inr k)).isSome = decide (k ∈ ks)
  | [], [], k, _ => by simp [valV]
  | [], _ :: _, _, h => by cases h
  | _ :: _, [], _, h => by cases h
  | x :: ks, v :: vs, k, h => by
    have ih := valV_of (k := k) (Nat.succ.inj h)
    show (valV ((Sum.inr x, v) :: kvsOf ks vs) (Sum.inr k)).isSome = _
    by_cases e : x = k
    · subst e
      rw [valV_pos (p := ((Sum.inr x : Key), v)) rfl]
      simp
    · rw [valV_neg (p := ((Sum.inr x : Key), v)) (fun z => e (Sum.inr.inj z)), ih]
      have e' : ¬ k = x := fun z => e z.symm
      simp [e']
theorem valV_get : ∀ {K : PySem.W.Frag} {S : Addr → Prop} {H : Hp} {ks : List Str} {vs : List V} {ds : List D} {k : Str} {d : D}, ks.length = vs.length → RepL K S H vs ds → (ks.zip ds).lookup k = some d → ∃ v, valV (kvsOf ks vs) (Sum.inr k) = some v ∧ Rep K S H v d
  | _, _, _, [], _, _, _, _, _, _, h => by cases h
  | _, _, _, _ :: _, [], _, _, _, l, _, _ => by cases l
  | _, _, _, x :: ks, v :: vs, _, k, d, l, .cons (d := e) (ds := es) r rs, h => by
    have h' : ((x, e) :: ks.zip es).lookup k = some d := h
    show ∃ w, valV ((Sum.inr x, v) :: kvsOf ks vs) (Sum.inr k) = some w ∧ _
    by_cases q : x = k
    · subst q
      have : e = d := by simpa [List.lookup] using h'
      subst this
      exact ⟨v, valV_pos (p := ((Sum.inr x : Key), v)) rfl, r⟩
    · have q' : (k == x) = false := by simpa using fun z : k = x => q z.symm
      rw [List.lookup_cons, q'] at h'
      obtain ⟨w, h1, h2⟩ := valV_get (Nat.succ.inj l) rs h'
      exact ⟨w, by rw [valV_neg (p := ((Sum.inr x : Key), v)) (fun z => q (Sum.inr.inj z))]; exact h1, h2⟩
theorem op_inD (hu : X.A.units + 1 < cLine) : OpR X (compareOp .In) fun x y H Q => ∃ (a : Addr) (k : Str) (ks : List Str) (vs : List V), x = .str k ∧ y = .ref a ∧ H a = some (.dK (kvsOf ks vs)) ∧ ks.length = vs.length ∧ Q (.bl (decide (k ∈ ks))) H := by
  intro pins s σ H x y v u Q I rx ry h
  obtain ⟨a, k, ks, vs, rfl, rfl, h, l, q⟩ := h
  obtain rfl : u = Value.ref a := ry
  refine d_in hu I (DGet.k (k := Sum.inr k) h) rx fun s' I' => ?_
  rw [valV_of l]
  exact ⟨.bl _, H, I', rfl, q⟩
theorem op_notInD (hu : X.A.units + 1 < cLine) : OpR X (compareOp .NotIn) fun x y H Q => ∃ (a : Addr) (k : Str) (ks : List Str) (vs : List V), x = .str k ∧ y = .ref a ∧ H a = some (.dK (kvsOf ks vs)) ∧ ks.length = vs.length ∧ Q (.bl (!decide (k ∈ ks))) H := by
  intro pins s σ H x y v u Q I rx ry h
  obtain ⟨a, k, ks, vs, rfl, rfl, h, l, q⟩ := h
  obtain rfl : u = Value.ref a := ry
  refine d_notIn hu I (DGet.k (k := Sum.inr k) h) rx fun s' I' => ?_
  rw [valV_of l]
  exact ⟨.bl _, H, I', rfl, q⟩
/-- in, by what it answers -/
theorem opd_inG {op : CmpOp} {neg : Bool} (h1 : OpR X (compareOp op) (rIn X.K neg)) (h2 : OpR X (compareOp op) fun x y H Q => ∃ i j, x = .str i ∧ y = .str j ∧ Q (.bl (if neg then !(!(Builtin.Str.occurrences j i 0 j.length 1).isEmpty) else !(Builtin.Str.occurrences j i 0 j.length 1).isEmpty)) H)
    (h3 : OpR X (compareOp op) fun x y H Q => ∃ (a : Addr) (k : Str) (ks : List Str) (vs : List V), x = .str k ∧ y = .ref a ∧ H a = some (.dK (kvsOf ks vs)) ∧ ks.length = vs.length ∧ Q (.bl (if neg then !decide (k ∈ ks) else decide (k ∈ ks))) H) :
    OpD X (compareOp op) fun x y => (dInB x y).map fun b => .bl (if neg then !b else b) := by
  intro pins s σ H x y v u Q I rx ry q
  obtain ⟨S, d, e, z, dm, r1, r2, hz, q⟩ := q
  obtain ⟨b, hb, ez⟩ := Option.map_eq_some_iff.mp hz
  subst ez
  have tl : ∀ a xs ds, y = .ref a → (SqL X.K H a xs ∨ SqT X.K H a xs) → RepL X.K S H xs ds → (d.flat && ds.all D.flat) = true → inB d ds = b → wpAny (model X.prog X.w) X.A (compareOp op v u) (EP X pins σ Q) X.xe s := by
    intro a xs ds e1 e2 e3 e4 e5
    obtain ⟨f1, f2⟩ := Bool.and_eq_true_iff.mp e4
    refine h1 pins s σ H x y v u Q I rx ry ⟨a, xs, e1, e2, r1.flatV f1, e3.flatV f2, ?_⟩
    rw [RepL.inV r1 f1 e3 f2, e5]
    exact q.here (.bl _)
  cases e with
  | tup ds =>
    obtain ⟨a, xs, e1, e2, e3⟩ := r2.seqT
    cases d <;> (simp only [dInB, Option.ite_none_right_eq_some, Option.some.injEq] at hb; exact tl a xs ds e1 (.inr e2) e3 hb.1 hb.2)
  | lst ds =>
    obtain ⟨a, xs, e1, e2, e3⟩ := r2.lstH
    cases d <;> (simp only [dInB, Option.ite_none_right_eq_some, Option.some.injEq] at hb; exact tl a xs ds e1 (.inl (SqL.of e2)) e3 hb.1 hb.2)
  | str j =>
    cases d <;> simp only [dInB, Option.some.injEq, reduceCtorEq] at hb
    subst hb
    exact h2 pins s σ H x y v u Q I rx ry ⟨_, _, r1.strE, r2.strE, q.here (.bl _)⟩
  | dic ks ds =>
    cases d <;> simp only [dInB, Option.some.injEq, reduceCtorEq] at hb
    subst hb
    cases r2 with
    | dic h n l nd r => exact h3 pins s σ H _ _ v u Q I rx ry ⟨_, _, ks, _, r1.strE, rfl, h, l, q.here (.bl _)⟩
  | _ => cases d <;> simp [dInB] at hb
theorem opd_in (hu : X.A.units + 1 < cLine) : OpD X (compareOp .In) dIn := opd_inG (neg := false) op_in_seq op_in_str (op_inD hu)
theorem opd_notIn (hu : X.A.units + 1 < cLine) : OpD X (compareOp .NotIn) dNotIn := opd_inG (neg := true) op_notIn_seq op_notin_str (op_notInD hu)
/-! ### items -/
theorem repL_atI {K : PySem.W.Frag} {S : Addr → Prop} {H : Hp} {vs : List V} {ds : List D} {i : Int} {d : D} (r : RepL K S H vs ds) (h : L2.atI ds i = some d) : ∃ v, L2.atI vs i = some v ∧ Rep K S H v d := by
  unfold L2.atI at h ⊢
  rw [r.length]
  cases e : L2.ixN ds.length i with
  | none => rw [e] at h; cases h
  | some j =>
    rw [e] at h
    exact r.get (i := j) h
theorem ixd_all (hu : X.A.units + 1 < cLine) : IxD X dIx := by
  intro value slice pins s σ H x y v u Q I rx ry q hs
  obtain ⟨S, d, e, z, dm, r1, r2, hz, q⟩ := q
  cases d with
  | lst ds =>
    cases e <;> simp only [dIx, reduceCtorEq] at hz
    obtain ⟨a, xs, e1, e2, e3⟩ := r1.lstH
    obtain ⟨w, h1, h2⟩ := repL_atI e3 hz
    exact ix_list value slice pins s σ H x y v u Q I rx ry ⟨a, xs, _, w, e1, r2.intE, SqL.of e2, h1, q.here h2⟩ hs
  | tup ds =>
    cases e <;> simp only [dIx, reduceCtorEq] at hz
    obtain ⟨a, xs, e1, e2, e3⟩ := r1.seqT
    obtain ⟨w, h1, h2⟩ := repL_atI e3 hz
    exact ix_tup value slice pins s σ H x y v u Q I rx ry ⟨a, xs, _, w, e1, r2.intE, e2, h1, q.here h2⟩ hs
  | scr ds =>
    cases e <;> simp only [dIx, reduceCtorEq] at hz
    obtain ⟨a, xs, e1, e2, e3⟩ := r1.scrH
    obtain ⟨w, h1, h2⟩ := repL_atI e3 hz
    exact ix_list value slice pins s σ H x y v u Q I rx ry ⟨a, xs, _, w, e1, r2.intE, e2, h1, q.here h2⟩ hs
  | str i =>
    cases e <;> simp only [dIx, Option.ite_none_right_eq_some, reduceCtorEq] at hz
    obtain ⟨h1, h2⟩ := hz
    obtain ⟨c, h3, h4⟩ := Option.map_eq_some_iff.mp h2
    subst h4
    exact ix_str value slice pins s σ H x y v u Q I rx ry ⟨_, _, c, r1.strE, r2.intE, okLe_of h1, h3, q.here (.str _)⟩ hs
  | dic ks ds =>
    cases e <;> simp only [dIx, reduceCtorEq] at hz
    rename_i k
    cases r1 with
    | dic h n l nd r =>
      rename_i a vs
      obtain ⟨w, h1, h2⟩ := valV_get l r hz
      obtain rfl : v = Value.ref a := rx
      have g : DGet H a y (some w) := by
        rw [r2.strE, ← h1]
        exact DGet.k (k := Sum.inr k) h
      exact PyProof.Rows.tail_any (dict_typeIs I g) PySem.F.slot_dict_getitem.lookup (d_getItem hu I g ry fun w' s' I' r' => ⟨w, H, I', r', q.here h2⟩) hs
  | _ => cases e <;> simp [dIx] at hz
/-! ### built-ins -/
theorem vl1 {K : PySem.W.Frag} {S : Addr → Prop} {H : Hp} {xs : List V} {d : D} (r : RepL K S H xs [d]) : ∃ v, xs = [v] ∧ Rep K S H v d := by
  cases r with
  | cons h r => cases r; exact ⟨_, rfl, h⟩
theorem vl2 {K : PySem.W.Frag} {S : Addr → Prop} {H : Hp} {xs : List V} {d e : D} (r : RepL K S H xs [d, e]) : ∃ v w, xs = [v, w] ∧ Rep K S H v d ∧ Rep K S H w e := by
  cases r with
  | cons h r =>
    cases r with
    | cons h2 r => cases r; exact ⟨_, _, rfl, h, h2⟩
theorem one_of {F : List D → Option D} {G : D → Option D} (h : ∀ ds z, F ds = some z → ∃ d, ds = [d] ∧ G d = some z) {ds : List D} {z : D} (e : F ds = some z) : ∃ d, ds = [d] ∧ G d = some z := h ds z e
theorem cd_len : CallD X (.builtin "len") dLen := by
  intro pins s σ H xs us Q I r q
  obtain ⟨S, ds, z, dm, rl, hz, q⟩ := q
  match ds, hz with
  | [.lst ys], hz =>
    simp only [dLen, Option.some.injEq] at hz
    subst hz
    obtain ⟨v, rfl, r1⟩ := vl1 rl
    obtain ⟨a, ws, e1, e2, e3⟩ := r1.lstH
    exact call_len pins s σ H _ us Q I r ⟨v, ys.length, rfl, by rw [e1]; exact .inl ⟨ws, SqL.of e2, e3.length.symm⟩, q.here (.int _)⟩
  | [.tup ys], hz =>
    simp only [dLen, Option.some.injEq] at hz
    subst hz
    obtain ⟨v, rfl, r1⟩ := vl1 rl
    obtain ⟨a, ws, e1, e2, e3⟩ := r1.seqT
    exact call_len pins s σ H _ us Q I r ⟨v, ys.length, rfl, by rw [e1]; exact .inr ⟨ws, e2, e3.length.symm⟩, q.here (.int _)⟩
  | [.scr ys], hz =>
    simp only [dLen, Option.some.injEq] at hz
    subst hz
    obtain ⟨v, rfl, r1⟩ := vl1 rl
    obtain ⟨a, ws, e1, e2, e3⟩ := r1.scrH
    exact call_len pins s σ H _ us Q I r ⟨v, ys.length, rfl, by rw [e1]; exact .inl ⟨ws, e2, e3.length.symm⟩, q.here (.int _)⟩
  | [.str y], hz =>
    simp only [dLen, Option.ite_none_right_eq_some, Option.some.injEq] at hz
    obtain ⟨h1, h2⟩ := hz
    subst h2
    obtain ⟨v, rfl, r1⟩ := vl1 rl
    exact call_len pins s σ H _ us Q I r ⟨v, y.length, rfl, by rw [r1.strE]; exact ⟨okLe_of h1, rfl⟩, q.here (.int _)⟩
  | [.dic ks _], hz =>
    simp only [dLen, Option.some.injEq] at hz
    subst hz
    obtain ⟨v, rfl, r1⟩ := vl1 rl
    cases r1 with
    | dic h n l nd r' =>
      rename_i a vs
      refine call_lenD pins s σ H _ us Q I r ⟨a, _, rfl, h, ?_⟩
      have e : (kvsOf ks vs).length = ks.length := by
        show ((ks.map Sum.inr).zip vs).length = _
        rw [List.length_zip, List.length_map, l, Nat.min_self]
      have e2 : Q (.int (kvsOf ks vs).length) H := by
        rw [e]
        exact q.here (.int _)
      exact e2
  | [], hz => cases hz
  | _ :: _ :: _, hz => simp [dLen] at hz
  | [.non], hz => simp [dLen] at hz
  | [.bl _], hz => simp [dLen] at hz
  | [.int _], hz => simp [dLen] at hz
  | [.obj _ _], hz => simp [dLen] at hz
  | [.fn _], hz => simp [dLen] at hz
theorem cd_abs : CallD X (.builtin "abs") dAbs := by
  intro pins s σ H xs us Q I r q
  obtain ⟨S, ds, z, dm, rl, hz, q⟩ := q
  unfold dAbs at hz
  split at hz
  · cases hz
    obtain ⟨v, rfl, r1⟩ := vl1 rl
    exact call_abs pins s σ H _ us Q I r ⟨_, by rw [r1.intE], q.here (.int _)⟩
  · cases hz
theorem cd_max2 (hc : X.calm = true) : CallD X (.builtin "max") dMax2 := by
  intro pins s σ H xs us Q I r q
  obtain ⟨S, ds, z, dm, rl, hz, q⟩ := q
  unfold dMax2 at hz
  split at hz
  · cases hz
    obtain ⟨v, w, rfl, r1, r2⟩ := vl2 rl
    exact call_max2 hc pins s σ H _ us Q I r ⟨_, _, by rw [r1.intE, r2.intE], q.here (.int _)⟩
  · cases hz
theorem cd_min2 (hc : X.calm = true) : CallD X (.builtin "min") dMin2 := by
  intro pins s σ H xs us Q I r q
  obtain ⟨S, ds, z, dm, rl, hz, q⟩ := q
  unfold dMin2 at hz
  split at hz
  · cases hz
    obtain ⟨v, w, rfl, r1, r2⟩ := vl2 rl
    exact call_min2 hc pins s σ H _ us Q I r ⟨_, _, by rw [r1.intE, r2.intE], q.here (.int _)⟩
  · cases hz
theorem cd_int : CallD X (.type "int") dInt := by
  intro pins s σ H xs us Q I r q
  obtain ⟨S, ds, z, dm, rl, hz, q⟩ := q
  unfold dInt at hz
  split at hz
  · cases hz
    obtain ⟨v, rfl, r1⟩ := vl1 rl
    exact call_int1 pins s σ H _ us Q I r (.inl ⟨_, by rw [r1.intE], q.here (.int _)⟩)
  · cases hz
theorem cd_str : CallD X (.type "str") dStr := by
  intro pins s σ H xs us Q I r q
  obtain ⟨S, ds, z, dm, rl, hz, q⟩ := q
  unfold dStr at hz
  split at hz
  · simp only [Option.ite_none_right_eq_some, Option.some.injEq] at hz
    obtain ⟨h1, h2⟩ := hz
    subst h2
    obtain ⟨v, rfl, r1⟩ := vl1 rl
    exact call_str_int pins s σ H _ us Q I r ⟨_, by rw [r1.intE], h1, q.here (.str _)⟩
  · cases hz
    obtain ⟨v, rfl, r1⟩ := vl1 rl
    exact SkE.call_str_str pins s σ H _ us Q I r ⟨_, by rw [r1.strE], q.here (.str _)⟩
  · cases hz
theorem cd_list : CallD X (.type "list") dList := by
  intro pins s σ H xs us Q I r q
  obtain ⟨S, ds, z, dm, rl, hz, q⟩ := q
  unfold dList at hz
  split at hz
  · cases hz
    obtain ⟨v, rfl, r1⟩ := vl1 rl
    obtain ⟨a, ws, e1, e2, e3⟩ := r1.lstH
    exact call_list_of pins s σ H _ us Q I r ⟨a, ws, by rw [e1], .inl (SqL.of e2), q.lst dm e3⟩
  · cases hz
    obtain ⟨v, rfl, r1⟩ := vl1 rl
    obtain ⟨a, ws, e1, e2, e3⟩ := r1.seqT
    exact call_list_of pins s σ H _ us Q I r ⟨a, ws, by rw [e1], .inr e2, q.lst dm e3⟩
  · cases hz
theorem cd_tuple : CallD X (.type "tuple") dTuple := by
  intro pins s σ H xs us Q I r q
  obtain ⟨S, ds, z, dm, rl, hz, q⟩ := q
  unfold dTuple at hz
  split at hz
  · cases hz
    obtain ⟨v, rfl, r1⟩ := vl1 rl
    obtain ⟨a, ws, e1, e2, e3⟩ := r1.lstH
    exact call_tuple_of pins s σ H _ us Q I r ⟨a, ws, by rw [e1], .inl ⟨SqL.of e2, q.tup dm e3⟩⟩
  · cases hz
    obtain ⟨v, rfl, r1⟩ := vl1 rl
    obtain ⟨a, ws, e1, e2, e3⟩ := r1.seqT
    exact call_tuple_of pins s σ H _ us Q I r ⟨a, ws, by rw [e1], .inr ⟨e2, by rw [← e1]; exact q.here r1⟩⟩
  · cases hz
theorem cb_of {E : XK} {σ : Sg} {H : Hp} {Q : VK} {f : Value} {F : List D → Option D} {fl : FL} (h : tD X.K E (fL F fl) σ H Q) :
    tCB (fun xs H Q => ∃ S ds z, Dom S H ∧ RepL X.K S H xs ds ∧ F ds = some z ∧ Giv X.K S H z Q) (tDL X.K E fl) σ H Q := by
  obtain ⟨S, δ, st, q⟩ := h
  refine ⟨S, δ, st, (Res.on q).imp fun ds q1 vs H1 e1 r1 => ?_⟩
  obtain ⟨z, hz, q2⟩ := Res.of q1
  exact ⟨S, ds, z, (st.mono e1).here, r1, hz, fun w H2 e2 r2 => q2 w H2 (e1.trans e2) r2⟩
theorem de_callB {E : XK} {x : Str} {p pos : Pos} {e : Expr} {es : List Expr} {fl : FL} {id : String} {F : List D → Option D} (hc : CallD X (.builtin id) F) (hg : Gl X x) (hm : X.mg x = none) (hv : bootBuiltins x = some (.builtin id)) (ha : DA X E (e :: es) fl)
    (hn : x ≠ "__name__" := by decide) (hdb : (x == ("__debug__" : Str)) = false := by decide) (he : starEach (e :: es) X.env = (false, eval e X.env) :: starEach es X.env := by rfl) (hpl : (backTo pos (starEach es X.env)).any (·.1) = false := by rfl) :
    DE X E (.Call (.Name x p) (e :: es) [] pos) (fL F fl) := PE.imp (pe_callB hc hg hm hv ha.pa hn hdb he hpl) fun σ H Q h => cb_of (f := .builtin id) h
theorem de_callTy {E : XK} {x : Str} {p pos : Pos} {e : Expr} {es : List Expr} {fl : FL} {T : String} {F : List D → Option D} (hc : CallD X (.type T) F) (hg : Gl X x) (hm : X.mg x = none) (hv : bootBuiltins x = some (.type T)) (ha : DA X E (e :: es) fl)
    (hn : x ≠ "__name__" := by decide) (hdb : (x == ("__debug__" : Str)) = false := by decide) (he : starEach (e :: es) X.env = (false, eval e X.env) :: starEach es X.env := by rfl) (hpl : (backTo pos (starEach es X.env)).any (·.1) = false := by rfl) :
    DE X E (.Call (.Name x p) (e :: es) [] pos) (fL F fl) := PE.imp (pe_callTy hc hg hm hv ha.pa hn hdb he hpl) fun σ H Q h => cb_of (f := .type T) h
end
end DL

/-! DStmt: the rules of statements over the data. -/
namespace DL
open PySem PySem.Spec PyProof.Rows L2

/-- how a statement ends -/
inductive O where
  | nx (δ : DSt) | rt (d : D) | bk (δ : DSt) | ct (δ : DSt) | exc (n : Str) (xs : List D) | bad
abbrev FS := DSt → O
def O.on {α : Type} (r : R α) (f : α → O) : O := match r with
  | .ok a => f a
  | .exc n xs => .exc n xs
  | .bad => .bad
@[simp] theorem O.on_ok {α : Type} (a : α) (f : α → O) : O.on (R.ok a) f = f a := rfl
@[simp] theorem O.on_exc {α : Type} (n : Str) (xs : List D) (f : α → O) : O.on (R.exc n xs) f = .exc n xs := rfl
@[simp] theorem O.on_bad {α : Type} (f : α → O) : O.on (R.bad : R α) f = .bad := rfl
/-- what stood and may not change stays -/
structure Ev (S : Addr → Prop) (H : Hp) (S' : Addr → Prop) (H' : Hp) : Prop where
  keep : ∀ b o, H b = some o → ¬ S b → H' b = some o
  off : ∀ b o, H b = some o → ¬ S b → ¬ S' b
theorem Ev.refl {S : Addr → Prop} {H : Hp} : Ev S H S H := ⟨fun _ _ h _ => h, fun _ _ _ n => n⟩
theorem Ev.trans {S S1 S2 : Addr → Prop} {H H1 H2 : Hp} (a : Ev S H S1 H1) (b : Ev S1 H1 S2 H2) : Ev S H S2 H2 :=
  ⟨fun c o h n => b.keep c o (a.keep c o h n) (a.off c o h n), fun c o h n => b.off c o (a.keep c o h n) (a.off c o h n)⟩
theorem Ev.same {S : Addr → Prop} {H H' : Hp} (e : Same H H') : Ev S H S H' := ⟨fun b o h _ => e b o h, fun _ _ _ n => n⟩
theorem Rep.ev {K : PySem.W.Frag} {S S' : Addr → Prop} {H H' : Hp} (e : Ev S H S' H') {v : V} {d : D} (r : Rep K S H v d) : Rep K S' H' v d := r.to e.keep e.off
theorem RepL.ev {K : PySem.W.Frag} {S S' : Addr → Prop} {H H' : Hp} (e : Ev S H S' H') {v : List V} {d : List D} (r : RepL K S H v d) : RepL K S' H' v d := r.to e.keep e.off

structure StS (K : PySem.W.Frag) (S0 : Addr → Prop) (H0 : Hp) (S : Addr → Prop) (σ : Sg) (H : Hp) (δ : DSt) : Prop where
  st : StE K S σ H δ
  same : Same H0 H
  sub : ∀ b, S0 b → S b
  dom : Dom S0 H0
  own : ∀ (i : Nat) (a : Addr) (ds : List D), δ[i]? = some (.ow ds) → σ[i]? = some (some (.ref a)) → H0 a = none
def Fin (K : PySem.W.Frag) (S0 : Addr → Prop) (H0 : Hp) (E : XK) (D : Ends) (S : Addr → Prop) (H : Hp) : O → Prop
  | .nx δ => ∀ S' σ' H', StS K S0 H0 S' σ' H' δ → Ev S H S' H' → D.nx σ' H'
  | .rt d => ∀ v H', Same H0 H' → Rep K S0 H' v d → D.rt v H'
  | .bk δ => ∀ S' σ' H', StS K S0 H0 S' σ' H' δ → Ev S H S' H' → D.bk σ' H'
  | .ct δ => ∀ S' σ' H', StS K S0 H0 S' σ' H' δ → Ev S H S' H' → D.ct σ' H'
  | .exc n xs => ∀ cls dx H', Same H0 H' → ExR K S0 H' cls dx n xs → E cls dx H'
  | .bad => False
def tS (K : PySem.W.Frag) (S0 : Addr → Prop) (H0 : Hp) (E : XK) (F : FS) : TS := fun D σ H => ∃ S δ, StS K S0 H0 S σ H δ ∧ Fin K S0 H0 E D S H (F δ)
/-- the entry's heap and the caller's own -/
structure Ent where
  S : Addr → Prop
  H : Hp
def DSt1 (X : Cx) (e : Ent) (E : XK) (st : Stmt) (F : FS) : Prop := PS X st (tS X.K e.S e.H E F)
def DSts (X : Cx) (e : Ent) (E : XK) (st : List Stmt) (F : FS) : Prop := PSs X st (tS X.K e.S e.H E F)

section
variable {K : PySem.W.Frag} {S0 S S1 : Addr → Prop} {H0 H H1 : Hp} {E : XK} {Dn : Ends} {σ : Sg} {δ : DSt}
theorem ExR.to {cls : Value} {dx : Option Addr} {n : Str} {xs : List D} (h : ExR K S H cls dx n xs) (e : ∀ b, S0 b → S b) : ExR K S0 H cls dx n xs := by
  obtain ⟨h1, a, vs, h2, h3, h4, h5⟩ := h
  exact ⟨h1, a, vs, h2, h3, fun z => h4 (e a z), h5.less e⟩
theorem StS.mono (e : Same H H1) (s : StS K S0 H0 S σ H δ) : StS K S0 H0 S σ H1 δ := ⟨s.st.mono e, s.same.trans e, s.sub, s.dom, s.own⟩
theorem Fin.ev {o : O} (e : Ev S H S1 H1) (h : Fin K S0 H0 E Dn S H o) : Fin K S0 H0 E Dn S1 H1 o := by
  cases o with
  | nx δ => exact fun S' σ' H' s e' => h S' σ' H' s (e.trans e')
  | rt d => exact h
  | bk δ => exact fun S' σ' H' s e' => h S' σ' H' s (e.trans e')
  | ct δ => exact fun S' σ' H' s e' => h S' σ' H' s (e.trans e')
  | exc n xs => exact h
  | bad => exact h
/-- an expression within a statement: what it gives goes on -/
theorem Fin.on {α : Type} {r : R α} {f : α → O} (s : StS K S0 H0 S σ H δ) (h : Fin K S0 H0 E Dn S H (O.on r f)) {P : α → Prop} (k : ∀ a, Fin K S0 H0 E Dn S H (f a) → P a) : Res K S H E r P := by
  cases r with
  | ok a => exact k a h
  | exc n xs => exact fun cls dx H' e x => h cls dx H' (s.same.trans e) (x.to s.sub)
  | bad => exact h
end

section
variable {X : Cx} {e0 : Ent} {E : XK} {pos : Pos} {st : Stmt} {rest : List Stmt} {F G : FS} {a b c : Expr} {f g : FE} {es : List Expr} {fl : FL}
/-! ### blocks -/
def fSkip : FS := fun δ => .nx δ
def fSeq (F G : FS) : FS := fun δ => match F δ with
  | .nx δ' => G δ'
  | o => o
theorem dss_nil : DSts X e0 E [] fSkip := by
  refine PSs.imp pss_nil fun D σ H h => ?_
  obtain ⟨S, δ, s, q⟩ := h
  exact q S σ H s .refl
theorem dss_cons (h : DSt1 X e0 E st F) (k : DSts X e0 E rest G) : DSts X e0 E (st :: rest) (fSeq F G) := by
  refine PSs.imp (pss_cons h k) fun D σ H hq => ?_
  obtain ⟨S, δ, s, q⟩ := hq
  refine ⟨S, δ, s, ?_⟩
  unfold fSeq at q
  cases r : F δ with
  | nx δ' =>
    rw [r] at q
    exact fun S' σ' H' s' e' => ⟨S', δ', s', q.ev e'⟩
  | rt d => rw [r] at q; exact q
  | bk d => rw [r] at q; exact q
  | ct d => rw [r] at q; exact q
  | exc n xs => rw [r] at q; exact q
  | bad => rw [r] at q; exact q
theorem dss_one (h : DSt1 X e0 E st F) : DSts X e0 E [st] F := pss_one h
theorem ds_pass : DSt1 X e0 E (.Pass pos) fSkip := by
  refine PS.imp ps_pass fun D σ H h => ?_
  obtain ⟨S, δ, s, q⟩ := h
  exact q S σ H s .refl
theorem ds_break : DSt1 X e0 E (.Break pos) (fun δ => .bk δ) := by
  refine PS.imp ps_break fun D σ H h => ?_
  obtain ⟨S, δ, s, q⟩ := h
  exact q S σ H s .refl
theorem ds_cont : DSt1 X e0 E (.Continue pos) (fun δ => .ct δ) := by
  refine PS.imp ps_continue fun D σ H h => ?_
  obtain ⟨S, δ, s, q⟩ := h
  exact q S σ H s .refl
def fRet (f : FE) : FS := fun δ => O.on (f δ) fun d => .rt d
theorem ds_ret (h : DE X E a f) : DSt1 X e0 E (.Return (some a) pos) (fRet f) := by
  refine PS.imp (ps_ret h) fun D σ H hq => ?_
  obtain ⟨S, δ, s, q⟩ := hq
  exact ⟨S, δ, s.st, Fin.on s q fun d q v H' e' r => q v H' (s.same.trans e') (r.less s.sub)⟩
theorem ds_retN : DSt1 X e0 E (.Return none pos) (fun _ => .rt .non) := by
  refine PS.imp ps_retN fun D σ H hq => ?_
  obtain ⟨S, δ, s, q⟩ := hq
  exact q .non H s.same .non
def fIfS (c : FB) (F G : FS) : FS := fun δ => O.on (c δ) fun b => match b with
  | true => F δ
  | false => G δ
theorem ds_if {t : FB} {A B : List Stmt} (hc : DB X E c t) (ha : DSts X e0 E A F) (hb : DSts X e0 E B G) : DSt1 X e0 E (.If c A B pos) (fIfS t F G) := by
  refine PS.imp (ps_if hc ha hb) fun D σ H hq => ?_
  obtain ⟨S, δ, s, q⟩ := hq
  refine ⟨S, δ, s.st, Fin.on s q fun b q H' e' => ?_⟩
  cases b with
  | true => exact ⟨S, δ, s.mono e', q.ev (.same e')⟩
  | false => exact ⟨S, δ, s.mono e', q.ev (.same e')⟩
def fExp (f : FE) : FS := fun δ => O.on (f δ) fun _ => .nx δ
theorem ds_expr (h : DE X E a f) (hs : swapsWith a none pos.line X.env = pure false := by rfl) : DSt1 X e0 E (.Expr a pos) (fExp f) := by
  refine PS.imp (ps_expr h hs) fun D σ H hq => ?_
  obtain ⟨S, δ, s, q⟩ := hq
  exact ⟨S, δ, s.st, Fin.on s q fun d q v H' e' r => q S σ H' (s.mono e') (.same e')⟩
/-! ### stores -/
theorem set_get {α : Type} {xs : List α} {i j : Nat} {v w : α} (h : (xs.set i v)[j]? = some w) : (j = i ∧ w = v) ∨ (j ≠ i ∧ xs[j]? = some w) := by
  by_cases e : j = i
  · subst e
    rw [List.getElem?_set_self'] at h
    cases q : xs[j]? with
    | none => rw [q] at h; cases h
    | some z => rw [q] at h; exact .inl ⟨rfl, (Option.some.inj h).symm⟩
  · rw [List.getElem?_set_ne (Ne.symm e)] at h
    exact .inr ⟨e, h⟩
theorem StE.set {K : PySem.W.Frag} {S : Addr → Prop} {H : Hp} {σ : Sg} {δ : DSt} (s : StE K S σ H δ) (i : Nat) {v : V} {d : D} (r : Rep K S H v d) : StE K S (σ.set i (some v)) H (δ.set i (.fz d)) := by
  refine ⟨by rw [List.length_set, List.length_set, s.len], fun j t h => ?_, fun j k a ds es h1 h2 h3 h4 => ?_, s.here⟩
  · rcases set_get h with ⟨rfl, rfl⟩ | ⟨hne, h⟩
    · have hl : j < δ.length := by
        have := (List.getElem?_eq_some_iff.mp h).1
        rwa [List.length_set] at this
      exact ⟨some v, List.getElem?_set_self (by rw [s.len]; exact hl), v, rfl, r⟩
    · obtain ⟨o, h1, h2⟩ := s.slot j t h
      exact ⟨o, by rw [List.getElem?_set_ne (Ne.symm hne)]; exact h1, h2⟩
  · rcases set_get h1 with ⟨_, e⟩ | ⟨n1, h1⟩
    · cases e
    · rcases set_get h2 with ⟨_, e⟩ | ⟨n2, h2⟩
      · cases e
      · rw [List.getElem?_set_ne (Ne.symm n1)] at h3
        rw [List.getElem?_set_ne (Ne.symm n2)] at h4
        exact s.sep j k a ds es h1 h2 h3 h4
theorem StS.set {K : PySem.W.Frag} {S0 S : Addr → Prop} {H0 H : Hp} {σ : Sg} {δ : DSt} (s : StS K S0 H0 S σ H δ) (i : Nat) {v : V} {d : D} (r : Rep K S H v d) : StS K S0 H0 S (σ.set i (some v)) H (δ.set i (.fz d)) := by
  refine ⟨s.st.set i r, s.same, s.sub, s.dom, fun j a ds h1 h2 => ?_⟩
  rcases set_get h1 with ⟨_, e⟩ | ⟨n1, h1⟩
  · cases e
  · rw [List.getElem?_set_ne (Ne.symm n1)] at h2
    exact s.own j a ds h1 h2
/-- a list of the frame's own is laid -/
theorem StS.newG {K : PySem.W.Frag} {S0 S : Addr → Prop} {H0 H : Hp} {σ : Sg} {δ : DSt} (s : StS K S0 H0 S σ H δ) (i : Nat) {p : Addr} {H' : Hp} {vs : List V} {ds : List D} (hp : H p = none) (e : Same H H') (hv : H' p = some (.lst vs)) (r : RepL K (fun b => S b ∨ b = p) H' vs ds) :
    StS K S0 H0 (fun b => S b ∨ b = p) (σ.set i (some (.ref p))) H' (δ.set i (.ow ds)) ∧ Ev S H (fun b => S b ∨ b = p) H' := by
  have ev : Ev S H (fun b => S b ∨ b = p) H' := ⟨fun b o h _ => e b o h, fun b o h n z => z.elim n fun z => by rw [z, hp] at h; cases h⟩
  have h0 : H0 p = none := by
    cases q : H0 p with
    | none => rfl
    | some o => have := s.same p o q; rw [hp] at this; cases this
  refine ⟨⟨⟨by rw [List.length_set, List.length_set, s.st.len], fun j t h => ?_, fun j k a es fs h1 h2 h3 h4 => ?_, fun b z => ?_⟩, s.same.trans e, fun b z => .inl (s.sub b z), s.dom, fun j a es h1 h2 => ?_⟩, ev⟩
  · rcases set_get h with ⟨rfl, rfl⟩ | ⟨hne, h⟩
    · have hl : j < δ.length := by
        have := (List.getElem?_eq_some_iff.mp h).1
        rwa [List.length_set] at this
      exact ⟨_, List.getElem?_set_self (by rw [s.st.len]; exact hl), p, vs, rfl, hv, .inr rfl, r⟩
    · obtain ⟨o, h1, h2⟩ := s.st.slot j t h
      refine ⟨o, by rw [List.getElem?_set_ne (Ne.symm hne)]; exact h1, ?_⟩
      cases t with
      | un => trivial
      | fz d => obtain ⟨v, q, r'⟩ := h2; exact ⟨v, q, r'.ev ev⟩
      | ow es => obtain ⟨a, xs, q, h, z, r'⟩ := h2; exact ⟨a, xs, q, e _ _ h, .inl z, r'.ev ev⟩
  · have ne : ∀ (j : Nat) (es : List D), δ[j]? = some (DS.ow es) → σ[j]? = some (some (V.ref p)) → False := fun j es q1 q2 => by
      obtain ⟨o, w1, a', xs, w2, w3, _⟩ := s.st.slot j _ q1
      rw [q2] at w1
      cases w1
      cases w2
      rw [hp] at w3; cases w3
    rcases set_get h1 with ⟨e1, _⟩ | ⟨n1, h1⟩
    · rcases set_get h2 with ⟨e2, _⟩ | ⟨n2, h2⟩
      · rw [e1, e2]
      · exfalso
        rw [List.getElem?_set_ne (Ne.symm n2)] at h4
        rcases set_get h3 with ⟨_, z⟩ | ⟨z, _⟩
        · cases z
          exact ne _ _ h2 h4
        · exact z e1
    · rcases set_get h2 with ⟨e2, _⟩ | ⟨n2, h2⟩
      · exfalso
        rw [List.getElem?_set_ne (Ne.symm n1)] at h3
        rcases set_get h4 with ⟨_, z⟩ | ⟨z, _⟩
        · cases z
          exact ne _ _ h1 h3
        · exact z e2
      · rw [List.getElem?_set_ne (Ne.symm n1)] at h3
        rw [List.getElem?_set_ne (Ne.symm n2)] at h4
        exact s.st.sep j k a es fs h1 h2 h3 h4
  · rcases z with z | z
    · obtain ⟨o, h⟩ := s.st.here b z
      exact ⟨o, e _ _ h⟩
    · exact ⟨_, by rw [z]; exact hv⟩
  · rcases set_get h1 with ⟨e1, _⟩ | ⟨n1, h1⟩
    · rcases set_get h2 with ⟨_, z⟩ | ⟨z, _⟩
      · cases z
        exact h0
      · exact absurd e1 z
    · rw [List.getElem?_set_ne (Ne.symm n1)] at h2
      exact s.own j a es h1 h2
theorem StS.new {K : PySem.W.Frag} {S0 S : Addr → Prop} {H0 H : Hp} {σ : Sg} {δ : DSt} (s : StS K S0 H0 S σ H δ) (i : Nat) {p : Addr} {vs : List V} {ds : List D} (hp : H p = none) (r : RepL K S H vs ds) :
    StS K S0 H0 (fun b => S b ∨ b = p) (σ.set i (some (.ref p))) (upd H p (.lst vs)) (δ.set i (.ow ds)) ∧ Ev S H (fun b => S b ∨ b = p) (upd H p (.lst vs)) := by
  have e : Same H (upd H p (.lst vs)) := same_new hp _
  exact s.newG i hp e upd_same (r.ev ⟨fun b o h _ => e b o h, fun b o h n z => z.elim n fun z => by rw [z, hp] at h; cases h⟩)
/-- the own list at slot i is changed -/
theorem StS.chg {K : PySem.W.Frag} {S0 S : Addr → Prop} {H0 H : Hp} {σ : Sg} {δ : DSt} (s : StS K S0 H0 S σ H δ) {i : Nat} {a : Addr} {xs : List V} {ds : List D} (h : δ[i]? = some (.ow ds)) (hs : σ[i]? = some (some (.ref a))) {ys : List V} {es : List D}
    (r : RepL K S H ys es) : StS K S0 H0 S σ (upd H a (.lst ys)) (δ.set i (.ow es)) ∧ Ev S H S (upd H a (.lst ys)) := by
  obtain ⟨o, w1, a', xs', w2, w3, w4, w5⟩ := s.st.slot i _ h
  rw [hs] at w1
  cases w1
  cases w2
  have ev : Ev S H S (upd H a (.lst ys)) := ⟨fun b o h n => by rw [upd_ne (fun z => n (by rw [z]; exact w4))]; exact h, fun _ _ _ n => n⟩
  refine ⟨⟨⟨by rw [List.length_set, s.st.len], fun j t hj => ?_, fun j k b fs gs h1 h2 h3 h4 => ?_, fun b z => ?_⟩, fun b o q => ?_, s.sub, s.dom, fun j b fs h1 h2 => ?_⟩, ev⟩
  · rcases set_get hj with ⟨rfl, rfl⟩ | ⟨hne, hj⟩
    · exact ⟨_, hs, a, ys, rfl, upd_same, w4, r.ev ev⟩
    · obtain ⟨o, h1, h2⟩ := s.st.slot j t hj
      refine ⟨o, h1, ?_⟩
      cases t with
      | un => trivial
      | fz d => obtain ⟨v, q, r'⟩ := h2; exact ⟨v, q, r'.ev ev⟩
      | ow fs =>
        obtain ⟨b, zs, q, hb, z, r'⟩ := h2
        subst q
        have nab : b ≠ a := fun z => hne (s.st.sep j i a fs ds hj h (by rw [← z]; exact h1) hs)
        exact ⟨b, zs, rfl, by rw [upd_ne nab]; exact hb, z, r'.ev ev⟩
  · have back : ∀ {j : Nat} {fs : List D}, (δ.set i (DS.ow es))[j]? = some (DS.ow fs) → ∃ fs' : List D, δ[j]? = some (DS.ow fs') := fun {j fs} q => by
      rcases set_get q with ⟨rfl, _⟩ | ⟨_, q⟩
      · exact ⟨_, h⟩
      · exact ⟨_, q⟩
    obtain ⟨_, q1⟩ := back h1
    obtain ⟨_, q2⟩ := back h2
    exact s.st.sep j k b _ _ q1 q2 h3 h4
  · by_cases e : b = a
    · exact ⟨_, by rw [e]; exact upd_same⟩
    · obtain ⟨o, h⟩ := s.st.here b z
      exact ⟨o, by rw [upd_ne e]; exact h⟩
  · have : b ≠ a := fun z => by
      rw [z, s.own i a ds h hs] at q
      cases q
    rw [upd_ne this]
    exact s.same b o q
  · rcases set_get h1 with ⟨rfl, _⟩ | ⟨_, h1⟩
    · rw [hs] at h2
      cases h2
      exact s.own _ a ds h hs
    · exact s.own j b fs h1 h2
/-- from now on the list at slot i is not changed any more -/
def frz (i : Nat) (δ : DSt) : DSt := match δ[i]? with
  | some (.ow ds) => δ.set i (.fz (.lst ds))
  | _ => δ
theorem StS.frz {K : PySem.W.Frag} {S0 S : Addr → Prop} {H0 H : Hp} {σ : Sg} {δ : DSt} (s : StS K S0 H0 S σ H δ) (i : Nat) : ∃ S', StS K S0 H0 S' σ H (DL.frz i δ) ∧ Ev S H S' H := by
  unfold DL.frz
  cases h : δ[i]? with
  | none => exact ⟨S, s, .refl⟩
  | some t =>
    cases t with
    | un => exact ⟨S, s, .refl⟩
    | fz d => exact ⟨S, s, .refl⟩
    | ow ds =>
      obtain ⟨o, w1, a, xs, w2, w3, w4, w5⟩ := s.st.slot i _ h
      subst w2
      have h0 := s.own i a ds h w1
      have ev : Ev S H (fun b => S b ∧ b ≠ a) H := ⟨fun _ _ h _ => h, fun _ _ _ n z => n z.1⟩
      refine ⟨fun b => S b ∧ b ≠ a, ⟨⟨by rw [List.length_set, s.st.len], fun j t hj => ?_, fun j k b fs gs h1 h2 h3 h4 => ?_, fun b z => s.st.here b z.1⟩, s.same, fun b z => ⟨s.sub b z, fun q => ?_⟩, s.dom, fun j b fs h1 h2 => ?_⟩, ev⟩
      · rcases set_get hj with ⟨rfl, rfl⟩ | ⟨hne, hj⟩
        · exact ⟨_, w1, _, rfl, .lst w3 (fun z => z.2 rfl) (w5.ev ev)⟩
        · obtain ⟨o, h1, h2⟩ := s.st.slot j t hj
          refine ⟨o, h1, ?_⟩
          cases t with
          | un => trivial
          | fz d => obtain ⟨v, q, r'⟩ := h2; exact ⟨v, q, r'.ev ev⟩
          | ow fs =>
            obtain ⟨b, zs, q, hb, z, r'⟩ := h2
            subst q
            have nab : b ≠ a := fun z => hne (s.st.sep j i a fs ds hj h (by rw [← z]; exact h1) w1)
            exact ⟨b, zs, rfl, hb, ⟨z, nab⟩, r'.ev ev⟩
      · rcases set_get h1 with ⟨_, q⟩ | ⟨_, h1⟩
        · cases q
        · rcases set_get h2 with ⟨_, q⟩ | ⟨_, h2⟩
          · cases q
          · exact s.st.sep j k b fs gs h1 h2 h3 h4
      · obtain ⟨o, q'⟩ := s.dom b z
        rw [q, h0] at q'
        cases q'
      · rcases set_get h1 with ⟨_, q⟩ | ⟨_, h1⟩
        · cases q
        · exact s.own j b fs h1 h2
/-- a freeze ahead of a block, of a statement -/
def fFrz (i : Nat) (F : FS) : FS := fun δ => F (frz i δ)
theorem dss_frz (i : Nat) (h : DSts X e0 E rest F) : DSts X e0 E rest (fFrz i F) := by
  refine PSs.imp h fun D σ H hq => ?_
  obtain ⟨S, δ, s, q⟩ := hq
  obtain ⟨S', s', e'⟩ := s.frz i
  exact ⟨S', frz i δ, s', q.ev e'⟩
theorem ds_frz (i : Nat) (h : DSt1 X e0 E st F) : DSt1 X e0 E st (fun δ => F (frz i δ)) := by
  refine PS.imp h fun D σ H hq => ?_
  obtain ⟨S, δ, s, q⟩ := hq
  obtain ⟨S', s', e'⟩ := s.frz i
  exact ⟨S', frz i δ, s', q.ev e'⟩
/-- name = e -/
def fSet (i : Nat) (f : FE) : FS := fun δ => O.on (f δ) fun d => .nx (δ.set i (.fz d))
theorem ds_set {i : Nat} {x : Str} {pos' : Pos} (hN : X.N.Nodup) (hi : X.N[i]? = some x) (hx : Loc X.env.scope x) (h : DE X E a f) (hs : swapsWith a (some (.Name x pos')) pos.line X.env = pure false := by rfl)
    (hf : X.fn x = true ∨ X.env.scope.names.lookup x = some .local := by first | exact .inl rfl | exact .inr rfl | assumption) : DSt1 X e0 E (.Assign [.Name x pos'] a pos) (fSet i f) := by
  refine PS.imp (ps_set hN hi hx h hs hf) fun D σ H hq => ?_
  obtain ⟨S, δ, s, q⟩ := hq
  exact ⟨S, δ, s.st, Fin.on s q fun d q v H' e' r => q S _ H' ((s.mono e').set i r) (.same e')⟩
/-- name = [..], the frame's own from now on -/
def fNew (i : Nat) (fl : FL) : FS := fun δ => O.on (fl δ) fun ds => .nx (δ.set i (.ow ds))
theorem ds_new {i : Nat} {x : Str} {pos' p : Pos} (hN : X.N.Nodup) (hi : X.N[i]? = some x) (hx : Loc X.env.scope x) (h : DA X E es fl) (hs : swapsWith (.List es p) (some (.Name x pos')) pos.line X.env = pure false := by rfl)
    (hl : es.length ≤ sizeLine := by exact Nat.le_of_ble_eq_true rfl) (hf : X.fn x = true ∨ X.env.scope.names.lookup x = some .local := by first | exact .inl rfl | exact .inr rfl | assumption) : DSt1 X e0 E (.Assign [.Name x pos'] (.List es p) pos) (fNew i fl) := by
  refine PS.imp (ps_set hN hi hx (pe_lst h.pa) hs hf) fun D σ H hq => ?_
  obtain ⟨S, δ, s, q⟩ := hq
  refine ⟨S, δ, s.st, ?_⟩
  have len := h.len δ
  unfold fNew at q
  cases r : fl δ with
  | bad => rw [r] at q; exact q.elim
  | exc n xs =>
    rw [r] at q
    exact fun cls dx H' e x => q cls dx H' (s.same.trans e) (x.to s.sub)
  | ok ds =>
    rw [r] at q
    intro vs H1 e1 r1
    refine ⟨by rw [r1.length, len ds r]; exact hl, fun p hp => ?_⟩
    obtain ⟨s2, e2⟩ := (s.mono e1).new i hp r1
    exact q _ _ _ s2 ((Ev.same e1).trans e2)
/-- the own list at slot i: x.append(e), x.extend(e), y = x.pop(), x[k] = e -/
def fOwn (i : Nat) (δ : DSt) : R (List D) := match δ[i]? with
  | some (.ow ds) => .ok ds
  | _ => .bad
theorem fOwn_at {i : Nat} {δ : DSt} {ds : List D} (h : fOwn i δ = .ok ds) : δ[i]? = some (.ow ds) := by
  unfold fOwn at h
  cases q : δ[i]? with
  | none => rw [q] at h; cases h
  | some t =>
    rw [q] at h
    cases t with
    | ow es => cases h; rfl
    | un => cases h
    | fz d => cases h
def fApp (i : Nat) (f : FE) : FS := fun δ => O.on (fOwn i δ) fun ds => O.on (f δ) fun d => if okLt ds.length = true then .nx (δ.set i (.ow (ds ++ [d]))) else .bad
theorem ds_app {i : Nat} {call : Expr} (hb : ∀ t, PA X [a] t → PE X call (tBM X.K "list" rAppend (tVar i) t)) (h : DE X E a f) (hst : starEach (a :: []) X.env = (false, eval a X.env) :: starEach [] X.env := by rfl)
    (hs : swapsWith call none pos.line X.env = pure false := by rfl) : DSt1 X e0 E (.Expr call pos) (fApp i f) := by
  refine PS.imp (ps_expr (hb _ (pa_cons h pa_nil hst)) hs) fun D σ H hq => ?_
  obtain ⟨S, δ, s, q⟩ := hq
  unfold fApp at q
  cases r : fOwn i δ with
  | bad => rw [r] at q; exact q.elim
  | exc n xs => unfold fOwn at r; split at r <;> cases r
  | ok ds =>
    rw [r] at q
    have hd := fOwn_at r
    obtain ⟨o, w1, b, xs, w2, w3, w4, w5⟩ := s.st.slot i _ hd
    subst w2
    refine ⟨.ref b, w1, .inl ⟨rfl, _, SqL.of w3⟩, S, δ, s.st, Fin.on (f := fun d => if okLt ds.length = true then .nx (δ.set i (.ow (ds ++ [d]))) else .bad) s q fun d q v H' e' r1 => ?_⟩
    by_cases c : okLt ds.length = true
    · simp only [c, if_true] at q
      refine ⟨b, xs, v, rfl, rfl, e' _ _ w3, by rw [w5.length]; exact okLt_of c, ?_⟩
      obtain ⟨s2, e2⟩ := (s.mono e').chg (xs := xs) hd w1 (ys := xs ++ [v]) (es := ds ++ [d]) ((w5.mono e').append (.cons r1 .nil))
      exact q S σ _ s2 ((Ev.same e').trans e2)
    · simp only [c, if_false] at q
      exact q.elim
end
end DL

/-! DLoop: loops, targets, match. -/
namespace DL
open PySem PySem.Spec PyProof.Rows L2

/-! ### targets -/
abbrev FP := DSt → D → Option DSt
abbrev FPs := DSt → List D → Option DSt
def tG (K : PySem.W.Frag) (S0 : Addr → Prop) (H0 : Hp) (put : FP) : TG := fun v σ H Q => ∃ S δ d δ', StS K S0 H0 S σ H δ ∧ Rep K S H v d ∧ put δ d = some δ' ∧ ∀ σ', StS K S0 H0 S σ' H δ' → Q σ' H
def tGs (K : PySem.W.Frag) (S0 : Addr → Prop) (H0 : Hp) (put : FPs) : TGs := fun vs σ H Q => ∃ S δ ds δ', StS K S0 H0 S σ H δ ∧ RepL K S H vs ds ∧ put δ ds = some δ' ∧ ∀ σ', StS K S0 H0 S σ' H δ' → Q σ' H
def DG (X : Cx) (e0 : Ent) (tg : Expr) (put : FP) : Prop := PG X tg (tG X.K e0.S e0.H put)
def DGs (X : Cx) (e0 : Ent) (tgs : List Expr) (put : FPs) : Prop := PGs X tgs (tGs X.K e0.S e0.H put)
theorem PG.imp {X : Cx} {e : Expr} {t t' : TG} (h : PG X e t) (k : ∀ v σ H Q, t' v σ H Q → t v σ H Q) : PG X e t' := ⟨fun pins s σ H v u Q I r q => h.run pins s σ H v u Q I r (k v σ H Q q)⟩
theorem PGs.imp {X : Cx} {es : List Expr} {t t' : TGs} (h : PGs X es t) (k : ∀ v σ H Q, t' v σ H Q → t v σ H Q) : PGs X es t' := ⟨fun pins s σ H v u Q I r q => h.run pins s σ H v u Q I r (k v σ H Q q)⟩
def pName (i : Nat) : FP := fun δ d => some (δ.set i (.fz d))
def pNil : FPs := fun δ ds => match ds with
  | [] => some δ
  | _ => none
def pCons (p : FP) (ps : FPs) : FPs := fun δ ds => match ds with
  | d :: ds => (p δ d).bind fun δ' => ps δ' ds
  | [] => none
def pTup (n : Nat) (ps : FPs) : FP := fun δ d => match d with
  | .tup ds => if ds.length = n then ps δ ds else none
  | _ => none
section
variable {X : Cx} {e0 : Ent} {E : XK} {pos : Pos} {st : Stmt} {rest : List Stmt} {F G : FS} {a b c tg : Expr} {f g : FE} {es : List Expr} {fl : FL}
theorem dg_name (i : Nat) {x : Str} (hN : X.N.Nodup) (hi : X.N[i]? = some x) (hx : Loc X.env.scope x) (hf : X.fn x = true ∨ X.env.scope.names.lookup x = some .local := by first | exact .inl rfl | exact .inr rfl | assumption) : DG X e0 (.Name x pos) (pName i) := by
  refine PG.imp (pg_name hN hi hx hf) fun v σ H Q h => ?_
  obtain ⟨S, δ, d, δ', s, r, e, q⟩ := h
  cases e
  exact q _ (s.set i r)
theorem dgs_nil : DGs X e0 [] pNil := by
  refine PGs.imp pgs_nil fun vs σ H Q h => ?_
  obtain ⟨S, δ, ds, δ', s, r, e, q⟩ := h
  cases r with
  | nil => cases e; exact ⟨rfl, q _ s⟩
  | cons _ _ => cases e
theorem dgs_cons {p : FP} {ps : FPs} (h : DG X e0 a p) (k : DGs X e0 es ps) (hs : (assignEach (a :: es) X.env).map (·.2) = assign a X.env :: (assignEach es X.env).map (·.2) := by rfl) : DGs X e0 (a :: es) (pCons p ps) := by
  refine PGs.imp (pgs_cons h k hs) fun vs σ H Q h => ?_
  obtain ⟨S, δ, ds, δ', s, r, e, q⟩ := h
  cases r with
  | nil => cases e
  | cons r0 r1 =>
    obtain ⟨δ1, e1, e2⟩ := Option.bind_eq_some_iff.mp e
    exact ⟨_, _, rfl, S, δ, _, δ1, s, r0, e1, fun σ' s' => ⟨S, δ1, _, δ', s', r1, e2, q⟩⟩
theorem dg_tup {k n : Nat} {ps : FPs} (hc : X.calm = true) (h : DGs X e0 es ps) (hn : (assignEach es X.env).length = n := by rfl) (hst : (assignEach es X.env).findIdx? (·.1) = none := by rfl) : DG X e0 (.Tuple es k pos) (pTup n ps) := by
  refine PG.imp (pg_tup hc h hn hst) fun v σ H Q h => ?_
  obtain ⟨S, δ, d, δ', s, r, e, q⟩ := h
  unfold pTup at e
  split at e
  · rename_i ds
    by_cases c : ds.length = n
    · rw [if_pos c] at e
      obtain ⟨b, xs, e1, e2, e3⟩ := r.seqT
      exact ⟨b, xs, e1, e2, by rw [e3.length]; exact c, S, δ, ds, δ', s, e3, e, q⟩
    · rw [if_neg c] at e; cases e
  · cases e
/-- target = e, a target of any form -/
def fAsg (p : FP) (f : FE) : FS := fun δ => O.on (f δ) fun d => match p δ d with
  | some δ' => .nx δ'
  | none => .bad
theorem ds_asg {p : FP} (h : DE X E a f) (hg : DG X e0 tg p) (hs : swapsWithSole [tg] a pos.line X.env = pure false := by rfl) (hw : swappedStores [tg] a X.env = pure none := by rfl)
    (h1 : (assignEach [tg] X.env).map (·.2) = [assign tg X.env] := by rfl) : DSt1 X e0 E (.Assign [tg] a pos) (fAsg p f) := by
  refine PS.imp (ps_asg h hg hs hw h1) fun D σ H hq => ?_
  obtain ⟨S, δ, s, q⟩ := hq
  refine ⟨S, δ, s.st, Fin.on (f := fun d => match p δ d with
    | some δ' => .nx δ'
    | none => .bad) s q fun d q v H' e' r => ?_⟩
  cases e : p δ d with
  | none => rw [e] at q; exact q.elim
  | some δ' =>
    rw [e] at q
    exact ⟨S, δ, d, δ', s.mono e', r, e, fun σ' s' => q S σ' H' s' (.same e')⟩
/-- x op= e -/
def fAug (F : D → D → Option D) (i : Nat) (f : FE) : FS := fun δ => O.on (fVar i δ) fun x => O.on (f δ) fun y => O.on (R.of (F x y)) fun z => .nx (δ.set i (.fz z))
theorem ds_aug {i : Nat} {x : Str} {op : Operator} {F : D → D → Option D} {pos' : Pos} (hN : X.N.Nodup) (hi : X.N[i]? = some x) (hx : Loc X.env.scope x) (h : DE X E a f) (ho : OpD X (inplaceOp op) F)
    (hf : X.fn x = true ∨ X.env.scope.names.lookup x = some .local := by first | exact .inl rfl | exact .inr rfl | assumption) : DSt1 X e0 E (.AugAssign (.Name x pos') op a pos) (fAug F i f) := by
  refine PS.imp (ps_aug hN hi hx h ho hf) fun D σ H hq => ?_
  obtain ⟨S, δ, s, q⟩ := hq
  unfold fAug at q
  cases r : fVar i δ with
  | bad => rw [r] at q; exact q.elim
  | exc n xs =>
    unfold fVar at r
    split at r <;> cases r
  | ok d =>
    rw [r] at q
    unfold fVar at r
    split at r
    · rename_i d' hd
      cases r
      obtain ⟨o, w1, v, w2, w3⟩ := s.st.slot i _ hd
      subst w2
      refine ⟨v, w1, S, δ, s.st, Fin.on (f := fun y => O.on (R.of (F d y)) fun z => .nx (δ.set i (.fz z))) s q fun e q w H' e' r1 => ?_⟩
      cases z : F d e with
      | none => rw [z] at q; exact q.elim
      | some k =>
        rw [z] at q
        exact ⟨S, d, e, k, (s.mono e').st.here, w3.mono e', r1, z, fun u H2 e2 r2 => q S _ H2 (((s.mono e').mono e2).set i r2) (.same (e'.trans e2))⟩
    · cases r

/-! ### iterables -/
def ItOk (K : PySem.W.Frag) (S : Addr → Prop) (H : Hp) (J : It) (ds : List D) : Prop :=
  ∀ S' H', Ev S H S' H' → Dom S' H' → ∀ i : Nat, (i < ds.length → J.go i H' ∧ ∀ x H2, J.yld i H' x H2 → Same H' H2 ∧ ∃ d, ds[i]? = some d ∧ Rep K S' H2 x d) ∧ (ds.length ≤ i → J.stop i H')
def tI (K : PySem.W.Frag) (E : XK) (f : FL) : TI := fun σ H R => ∃ S δ, StE K S σ H δ ∧ Res K S H E (f δ) fun ds => ∀ J H', Same H H' → ItOk K S H' J ds → R J H'
def DI (X : Cx) (E : XK) (tg iter : Expr) (f : FL) : Prop := PI X tg iter (tI X.K E f)
theorem PI.imp {X : Cx} {tg e : Expr} {t t' : TI} (h : PI X tg e t) (k : ∀ σ H R, t' σ H R → t σ H R) : PI X tg e t' := ⟨fun pins s σ H R I q => h.run pins s σ H R I (k σ H R q)⟩
def dItems : D → Option (List D)
  | .lst xs => some xs
  | .tup xs => some xs
  | .scr xs => some xs
  | .str z => some (z.cps.toList.map fun c => .str ⟨#[c]⟩)
  | _ => none
def fItems (f : FE) : FL := fun δ => (f δ).bind fun d => R.of (dItems d)
/-- a list, a tuple, a text walked -/
theorem di_seq (h : DE X E a f) : DI X E tg a (fItems f) := by
  refine ⟨fun pins s σ H R I hq => ?_⟩
  obtain ⟨S, δ, st, q⟩ := hq
  have key : Res X.K S H E (f δ) fun d => ∀ v H', Same H H' → Rep X.K S H' v d → ∃ ds, dItems d = some ds ∧ ∀ J H2, Same H H2 → ItOk X.K S H2 J ds → R J H2 := (Res.on q).imp fun d q1 v H' e' r => by
    obtain ⟨ds, h1, h2⟩ := Res.of q1
    exact ⟨ds, h1, h2⟩
  have ans := h.run pins s σ H (fun v H1 => Same H H1 ∧ ∃ d ds, Rep X.K S H1 v d ∧ dItems d = some ds ∧ ∀ J H2, Same H H2 → ItOk X.K S H2 J ds → R J H2) I ⟨S, δ, st, key.imp fun d q1 v H' e' r => by
    obtain ⟨ds, h1, h2⟩ := q1 v H' e' r
    exact ⟨e', d, ds, r, h1, h2⟩⟩
  refine thn ans fun v s1 ⟨x, H1, I1, r1, e1, d, ds, rx, hd, q1⟩ => ?_
  have lst : ∀ (b : Addr) (xs : List V) (ds : List D), x = .ref b → SqL X.K H1 b xs → (∀ S' H', Ev S H1 S' H' → SqL X.K H' b xs) → RepL X.K S H1 xs ds → (∀ J H2, Same H H2 → ItOk X.K S H2 J ds → R J H2) → wpAny (model X.prog X.w) X.A (pyIter v) (PIE X pins σ tg R) X.xe s1 := by
    intro b xs ds ex hs hev rl q2
    subst ex
    obtain rfl : v = Value.ref b := r1
    obtain ⟨its, rv, p, hz⟩ := I1.list hs
    refine wpAny_pyIter_list p.isList ?_
    refine ⟨s1.heap.objs.size, [s1.heap.objs.size], _, Itl X.K b, H1, rfl, I1.kept (t' := s1.toks) fun b o e => Heap.get?_push_of_some _ e, turn_list b _, ⟨_, Heap.get?_push_size _ rfl, rfl, rfl⟩, fun b hb => ?_, ?_⟩
    · have e : b = s1.heap.objs.size := by simpa using hb
      subst e
      exact I1.fpOk (Nat.le_refl _) (I1.hok.fresh (Nat.le_refl _))
    · refine q2 _ H1 e1 fun S' H' ev dm i => ⟨fun hi => ?_, fun hi => ⟨xs, hev S' H' ev, by rw [rl.length]; exact hi⟩⟩
      obtain ⟨y, hy, ry⟩ := rl.get (i := i) (d := ds[i]) (by simp [hi])
      refine ⟨⟨xs, y, hev S' H' ev, hy⟩, fun z H2 yz => ?_⟩
      obtain ⟨e3, hz⟩ := yz
      subst e3
      have := hz xs (hev S' _ ev)
      rw [hy] at this
      cases this
      exact ⟨Same.refl _, ds[i], by simp [hi], ry.ev ev⟩
  have tup : ∀ (b : Addr) (xs : List V) (ds : List D), x = .ref b → SqT X.K H1 b xs → (∀ S' H', Ev S H1 S' H' → SqT X.K H' b xs) → RepL X.K S H1 xs ds → (∀ J H2, Same H H2 → ItOk X.K S H2 J ds → R J H2) → wpAny (model X.prog X.w) X.A (pyIter v) (PIE X pins σ tg R) X.xe s1 := by
    intro b xs ds ex hs hev rl q2
    subst ex
    obtain rfl : v = Value.ref b := r1
    obtain ⟨its, rv, p, hz⟩ := I1.tuple hs
    refine wpAny_pyIter_tuple (show s1.heap.IsTuple b its.toArray from p) ?_
    refine ⟨s1.heap.objs.size, [s1.heap.objs.size], _, Itt X.K b, H1, rfl, I1.kept (t' := s1.toks) fun b o e => Heap.get?_push_of_some _ e, turn_tuple b _, ⟨_, Heap.get?_push_size _ rfl, rfl, rfl⟩, fun b hb => ?_, ?_⟩
    · have e : b = s1.heap.objs.size := by simpa using hb
      subst e
      exact I1.fpOk (Nat.le_refl _) (I1.hok.fresh (Nat.le_refl _))
    · refine q2 _ H1 e1 fun S' H' ev dm i => ⟨fun hi => ?_, fun hi => ⟨xs, hev S' H' ev, by rw [rl.length]; exact hi⟩⟩
      obtain ⟨y, hy, ry⟩ := rl.get (i := i) (d := ds[i]) (by simp [hi])
      refine ⟨⟨xs, y, hev S' H' ev, hy⟩, fun z H2 yz => ?_⟩
      obtain ⟨e3, hz⟩ := yz
      subst e3
      have := hz xs (hev S' _ ev)
      rw [hy] at this
      cases this
      exact ⟨Same.refl _, ds[i], by simp [hi], ry.ev ev⟩
  cases rx with
  | lst h n r =>
    cases hd
    exact lst _ _ _ rfl (SqL.of h) (fun S' H' ev => SqL.of (ev.keep _ _ h n)) r q1
  | scr h n r =>
    cases hd
    exact lst _ _ _ rfl (.inl (.inr ⟨_, h⟩)) (fun S' H' ev => .inl (.inr ⟨_, ev.keep _ _ h n⟩)) r q1
  | scl h r =>
    cases hd
    exact lst _ _ _ rfl (.inr h) (fun S' H' ev => .inr h) r q1
  | tup h n r =>
    cases hd
    exact tup _ _ _ rfl (SqT.of h) (fun S' H' ev => SqT.of (ev.keep _ _ h n)) r q1
  | ltp h r =>
    cases hd
    exact tup _ _ _ rfl (.inr h) (fun S' H' ev => .inr h) r q1
  | str z =>
    cases hd
    obtain ⟨tk, rfl⟩ := (show ∃ t, v = Value.str z t from r1)
    have fin : R (Its z) H1 := by
      refine q1 _ H1 e1 fun S' H' ev dm i => ?_
      have hl : (z.cps.toList.map fun c => D.str ⟨#[c]⟩).length = z.cps.size := by simp
      refine ⟨fun hi => ?_, fun hi => by rw [hl] at hi; exact hi⟩
      rw [hl] at hi
      refine ⟨hi, fun w H2 yz => ?_⟩
      obtain ⟨e3, c, hc, rfl⟩ := yz
      subst e3
      refine ⟨Same.refl _, .str ⟨#[c]⟩, ?_, .str _⟩
      rw [List.getElem?_map, Array.getElem?_toList, hc]
      rfl
    cases ha : z.cps.all (· < 128)
    · exact wpAny_pyIter_wide ha (pi_one (tk := s1.toks) I1 _ (turn_str _ z tk "str_iterator" (.inr rfl)) ⟨_, Heap.get?_push_size _ rfl, rfl, rfl⟩ fin)
    · exact wpAny_pyIter_ascii ha (pi_one (tk := s1.toks) I1 _ (turn_str _ z tk "str_ascii_iterator" (.inl rfl)) ⟨_, Heap.get?_push_size _ rfl, rfl, rfl⟩ fin)
  | _ => cases hd
/-- ranges -/
def dInts (lo : Int) (n : Nat) : List D := (List.range n).map fun i : Nat => .int (lo + i)
theorem itOk_r {K : PySem.W.Frag} {S : Addr → Prop} {H : Hp} {lo : Int} {n : Nat} : ItOk K S H (Itr lo n) (dInts lo n) := fun S' H' ev dm i => by
  have hl : (dInts lo n).length = n := by simp [dInts]
  rw [hl]
  refine ⟨fun hi => ⟨hi, fun x H2 y => ?_⟩, fun hi => hi⟩
  obtain ⟨rfl, rfl⟩ := y
  exact ⟨Same.refl _, .int (lo + i), by simp [dInts, hi], .int _⟩
def small62 (i : Int) : Bool := Nat.blt i.natAbs (2 ^ 62)
theorem small62_of {i : Int} (h : small62 i = true) : -(2 ^ 62) ≤ i ∧ i < 2 ^ 62 := by
  have h1 : i.natAbs < 2 ^ 62 := Nat.blt_eq.mp h
  omega
theorem small62_by {i : Int} (h : i.natAbs < 4611686018427387904) : small62 i = true := Nat.blt_eq.mpr h
def dRange : List D → Option (List D)
  | [.int j] => if small62 j = true then some (dInts 0 j.toNat) else none
  | [.int i, .int j] => if (small62 i && small62 j) = true then some (dInts i (j - i).toNat) else none
  | _ => none
def fRange (fl : FL) : FL := fun δ => (fl δ).bind fun ds => R.of (dRange ds)
theorem di_range1 {p : Pos} (hg : Gl X "range") (hm : X.mg "range" = none) (ha : DA X E [a] fl) (hs : starEach [a] X.env = [(false, eval a X.env)] := by rfl) : DI X E tg (.Call (.Name "range" p) [a] [] pos) (fRange fl) := by
  refine PI.imp (pi_range1 hg hm ha.pa hs) fun σ H R h => ?_
  obtain ⟨S, δ, st, q⟩ := h
  refine ⟨S, δ, st, ?_⟩
  have q' := Res.on q
  cases r : fl δ with
  | bad => rw [r] at q'; exact q'.elim
  | exc n xs => rw [r] at q'; exact q'
  | ok ds =>
    rw [r] at q'
    intro vs H' e' rl
    obtain ⟨es, h1, h2⟩ := Res.of q'
    have hl := ha.len δ ds r
    match ds, hl with
    | [d], _ =>
      cases d <;> simp only [dRange, Option.ite_none_right_eq_some, Option.some.injEq, reduceCtorEq] at h1
      obtain ⟨c, rfl⟩ := h1
      obtain ⟨v, rfl, r1⟩ := vl1 rl
      obtain ⟨c1, c2⟩ := small62_of c
      exact ⟨_, by rw [r1.intE], c1, c2, h2 _ H' e' itOk_r⟩
theorem di_range2 {p : Pos} (hg : Gl X "range") (hm : X.mg "range" = none) (ha : DA X E [a, b] fl) (hs : starEach [a, b] X.env = [(false, eval a X.env), (false, eval b X.env)] := by rfl) (hs2 : starEach [b] X.env = [(false, eval b X.env)] := by rfl) :
    DI X E tg (.Call (.Name "range" p) [a, b] [] pos) (fRange fl) := by
  refine PI.imp (pi_range2 hg hm ha.pa hs hs2) fun σ H R h => ?_
  obtain ⟨S, δ, st, q⟩ := h
  refine ⟨S, δ, st, ?_⟩
  have q' := Res.on q
  cases r : fl δ with
  | bad => rw [r] at q'; exact q'.elim
  | exc n xs => rw [r] at q'; exact q'
  | ok ds =>
    rw [r] at q'
    intro vs H' e' rl
    obtain ⟨es, h1, h2⟩ := Res.of q'
    have hl := ha.len δ ds r
    match ds, hl with
    | [d, e], _ =>
      cases d <;> cases e <;> simp only [dRange, Option.ite_none_right_eq_some, Option.some.injEq, reduceCtorEq] at h1
      obtain ⟨c, rfl⟩ := h1
      obtain ⟨v, w, rfl, r1, r2⟩ := vl2 rl
      obtain ⟨c1, c2⟩ := Bool.and_eq_true_iff.mp c
      obtain ⟨c3, c4⟩ := small62_of c1
      obtain ⟨c5, c6⟩ := small62_of c2
      exact ⟨_, _, by rw [r1.intE, r2.intE], ⟨c3, c4, c5, c6⟩, h2 _ H' e' itOk_r⟩
/-! ### for -/
def loopF (put : FP) (body : FS) : List D → DSt → O
  | [], δ => .nx δ
  | d :: ds, δ => match put δ d with
    | none => .bad
    | some δ1 => match body δ1 with
      | .nx δ2 => loopF put body ds δ2
      | .ct δ2 => loopF put body ds δ2
      | .bk δ2 => .nx δ2
      | .rt d => .rt d
      | .exc n xs => .exc n xs
      | .bad => .bad
def fFor (fi : FL) (put : FP) (body : FS) : FS := fun δ => O.on (fi δ) fun ds => loopF put body ds δ
theorem ds_for {iter : Expr} {body : List Stmt} {fi : FL} {put : FP} (hp : PassesOwn (model X.prog X.w) X.A X.env X.xe) (hc : X.calm = true) (hi : DI X E tg iter fi) (hg : DG X e0 tg put) (hb : DSts X e0 E body F)
    (hs : ∀ x, foldedSetIterable iter X.env x = pure x := by intro _; rfl) : DSt1 X e0 E (.For tg iter body [] pos) (fFor fi put F) := by
  refine PS.imp (ps_for hp hc hi hg hb hs) fun D σ H hq => ?_
  obtain ⟨S, δ, s, q⟩ := hq
  refine ⟨S, δ, s.st, Fin.on (f := fun ds => loopF put F ds δ) s q fun ds q J H1 e1 io => ?_⟩
  refine ⟨fun i m σ' H' => ∃ S' δ', StS X.K e0.S e0.H S' σ' H' δ' ∧ Ev S H1 S' H' ∧ m = ds.length - i ∧ i ≤ ds.length ∧ Fin X.K e0.S e0.H E D S' H' (loopF put F (ds.drop i) δ'),
    ⟨ds.length, S, δ, s.mono e1, .refl, rfl, Nat.zero_le _, q.ev (.same e1)⟩, ?_⟩
  rintro i m σ' H' ⟨S', δ', s', ev, rfl, hi, q'⟩
  obtain ⟨go, stop⟩ := io S' H' ev s'.st.here i
  by_cases hlt : i < ds.length
  · obtain ⟨g1, g2⟩ := go hlt
    refine .inr ⟨g1, fun σ2 H2 => ∃ m', m' < ds.length - i ∧ ∃ S2 δ2, StS X.K e0.S e0.H S2 σ2 H2 δ2 ∧ Ev S H1 S2 H2 ∧ m' = ds.length - (i + 1) ∧ i + 1 ≤ ds.length ∧ Fin X.K e0.S e0.H E D S2 H2 (loopF put F (ds.drop (i + 1)) δ2), fun _ _ z => z, fun x H2 y => ?_⟩
    obtain ⟨e2, d, hd, rx⟩ := g2 x H2 y
    rw [List.drop_eq_getElem_cons hlt] at q'
    have ed : d = ds[i] := by
      rw [List.getElem?_eq_getElem hlt] at hd
      exact (Option.some.inj hd).symm
    subst ed
    unfold loopF at q'
    cases pd : put δ' ds[i] with
    | none => rw [pd] at q'; exact q'.elim
    | some δ1 =>
      rw [pd] at q'
      dsimp only at q'
      refine ⟨S', δ', _, δ1, s'.mono e2, rx, pd, fun σ2 s2 => ⟨S', δ1, s2, ?_⟩⟩
      have again : ∀ {S3 : Addr → Prop} {σ3 : Sg} {H3 : Hp} {δ2 : DSt}, Fin X.K e0.S e0.H E D S' H' (loopF put F (ds.drop (i + 1)) δ2) → StS X.K e0.S e0.H S3 σ3 H3 δ2 → Ev S' H2 S3 H3 →
          ∃ m', m' < ds.length - i ∧ ∃ S2 δ2, StS X.K e0.S e0.H S2 σ3 H3 δ2 ∧ Ev S H1 S2 H3 ∧ m' = ds.length - (i + 1) ∧ i + 1 ≤ ds.length ∧ Fin X.K e0.S e0.H E D S2 H3 (loopF put F (ds.drop (i + 1)) δ2) :=
        fun {S3 σ3 H3 δ2} z s3 e3 => ⟨ds.length - (i + 1), by omega, S3, δ2, s3, ev.trans ((Ev.same e2).trans e3), rfl, hlt, z.ev ((Ev.same e2).trans e3)⟩
      cases bd : F δ1 with
      | nx δ2 => rw [bd] at q'; exact fun S3 σ3 H3 s3 e3 => again q' s3 e3
      | ct δ2 => rw [bd] at q'; exact fun S3 σ3 H3 s3 e3 => again q' s3 e3
      | bk δ2 => rw [bd] at q'; exact fun S3 σ3 H3 s3 e3 => q' S3 σ3 H3 s3 ((Ev.same e2).trans e3)
      | rt d => rw [bd] at q'; exact q'
      | exc n xs => rw [bd] at q'; exact q'
      | bad => rw [bd] at q'; exact q'
  · have e : i = ds.length := by omega
    subst e
    rw [List.drop_length] at q'
    exact .inl ⟨stop (Nat.le_refl _), q' S' σ' H' s' .refl⟩
/-! ### while -/
def whileF (c : FB) (body : FS) : Nat → DSt → O
  | 0, _ => .bad
  | n + 1, δ => O.on (c δ) fun b => match b with
    | false => .nx δ
    | true => match body δ with
      | .nx δ2 => whileF c body n δ2
      | .ct δ2 => whileF c body n δ2
      | .bk δ2 => .nx δ2
      | .rt d => .rt d
      | .exc n xs => .exc n xs
      | .bad => .bad
theorem ds_while {t : FB} {body : List Stmt} (n : Nat) (hp : PassesOwn (model X.prog X.w) X.A X.env X.xe) (hc : DB X E c t) (hb : DSts X e0 E body F) : DSt1 X e0 E (.While c body [] pos) (whileF t F n) := by
  refine PS.imp (ps_while hp hc hb) fun D σ H hq => ?_
  obtain ⟨S, δ, s, q⟩ := hq
  refine ⟨fun m σ' H' => ∃ S' δ', StS X.K e0.S e0.H S' σ' H' δ' ∧ Ev S H S' H' ∧ Fin X.K e0.S e0.H E D S' H' (whileF t F m δ'), ⟨n, S, δ, s, .refl, q⟩, ?_⟩
  rintro m σ' H' ⟨S', δ', s', ev, q'⟩
  cases m with
  | zero => exact q'.elim
  | succ m =>
    unfold whileF at q'
    refine ⟨S', δ', s'.st, Fin.on s' q' fun b q2 H2 e2 => ?_⟩
    cases b with
    | false => exact q2 S' σ' H2 (s'.mono e2) (.same e2)
    | true =>
      rw [if_pos rfl]
      refine ⟨fun σ3 H3 => ∃ m', m' < m + 1 ∧ ∃ S3 δ3, StS X.K e0.S e0.H S3 σ3 H3 δ3 ∧ Ev S H S3 H3 ∧ Fin X.K e0.S e0.H E D S3 H3 (whileF t F m' δ3), fun _ _ z => z, S', δ', s'.mono e2, ?_⟩
      have again : ∀ {S3 : Addr → Prop} {σ3 : Sg} {H3 : Hp} {δ2 : DSt}, Fin X.K e0.S e0.H E D S' H' (whileF t F m δ2) → StS X.K e0.S e0.H S3 σ3 H3 δ2 → Ev S' H2 S3 H3 →
          ∃ m', m' < m + 1 ∧ ∃ S3 δ3, StS X.K e0.S e0.H S3 σ3 H3 δ3 ∧ Ev S H S3 H3 ∧ Fin X.K e0.S e0.H E D S3 H3 (whileF t F m' δ3) := fun {S3 σ3 H3 δ2} z s3 e3 => ⟨m, Nat.lt_succ_self _, S3, δ2, s3, ev.trans ((Ev.same e2).trans e3), z.ev ((Ev.same e2).trans e3)⟩
      cases bd : F δ' with
      | nx δ2 => simp only [bd] at q2; exact fun S3 σ3 H3 s3 e3 => again q2 s3 e3
      | ct δ2 => simp only [bd] at q2; exact fun S3 σ3 H3 s3 e3 => again q2 s3 e3
      | bk δ2 => simp only [bd] at q2; exact fun S3 σ3 H3 s3 e3 => q2 S3 σ3 H3 s3 ((Ev.same e2).trans e3)
      | rt d => simp only [bd] at q2; exact q2
      | exc n xs => simp only [bd] at q2; exact q2
      | bad => simp only [bd] at q2; exact q2.elim
/-! ### match upon a text -/
def DM (X : Cx) (e0 : Ent) (E : XK) (cs : List MatchCase) (G : Str → FS) : Prop :=
  ∀ (pins : List (Addr × Obj)) (s : Shared) (σ : Sg) (H : Hp) (D : Ends) (z : Str) (t : Tok) (first : Bool), Inv X pins σ H s → tS X.K e0.S e0.H E (G z) D σ H → wpAny (model X.prog X.w) X.A (matchCases cs X.env (.str z t) first) (SP X pins D) X.xe s
theorem dm_nil : DM X e0 E [] (fun _ => fSkip) := fun pins s σ H D z t first I h => by
  obtain ⟨S, δ, st, q⟩ := h
  exact wpAny_matchCases_nil ⟨σ, H, I, q S σ H st .refl⟩
/-- case "w": -/
theorem dm_val {w : Str} {j : Nat} {p1 p2 : Pos} {body : List Stmt} {cs : List MatchCase} {G : Str → FS} (hb : DSts X e0 E body F) (h : DM X e0 E cs G) : DM X e0 E (⟨.MatchValue (.Constant (.str w) j p1) p2, none, body⟩ :: cs) (fun z => if z = w then F else G z) := fun pins s σ H D z t first I q => by
  refine wpAny_matchCases_cons (wpAny_matchPattern_Value (Calls.Constant_str (eq_str (wpAny_truthy_bool ?_))))
  have I' := I.tok (s.toks + 1)
  by_cases e : z = w
  · subst e
    simp only [beq_self_eq_true, if_true] at q ⊢
    exact wpAny_assignInOrder_none (hb.run pins _ σ H D I' q)
  · have e' : (z == w) = false := beq_eq_false_iff_ne.mpr e
    simp only [e', if_neg e] at q ⊢
    exact h pins _ σ H D z t false I' q
/-- case _: -/
theorem dm_any {p : Pos} {body : List Stmt} {cs : List MatchCase} (hb : DSts X e0 E body F) : DM X e0 E (⟨.MatchAs none none p, none, body⟩ :: cs) (fun _ => F) := fun pins s σ H D z t first I q =>
  wpAny_matchCases_cons (wpAny_matchPattern_Capture (wpAny_assignInOrder_none (hb.run pins s σ H D I q)))
/-- case "a" | "b": -/
def DOr (X : Cx) (ps : List Pattern) (ws : List Str) : Prop :=
  ∀ (pins : List (Addr × Obj)) (s : Shared) (σ : Sg) (H : Hp) (z : Str) (t : Tok) (Q : Option (List (Str × Value)) → Shared → Prop), Inv X pins σ H s → (∀ s', Inv X pins σ H s' → Q (if z ∈ ws then some [] else none) s') →
    wpAny (model X.prog X.w) X.A (matchFirst ps X.env (.str z t)) Q X.xe s
theorem dor_nil : DOr X [] [] := fun pins s σ H z t Q I q => wpAny_matchFirst_nil (by simpa using q s I)
theorem dor_cons {w : Str} {j : Nat} {p1 p2 : Pos} {ps : List Pattern} {ws : List Str} (h : DOr X ps ws) : DOr X (.MatchValue (.Constant (.str w) j p1) p2 :: ps) (w :: ws) := fun pins s σ H z t Q I q => by
  refine wpAny_matchFirst_cons (wpAny_matchPattern_Value (Calls.Constant_str (eq_str (wpAny_truthy_bool ?_))))
  have I' := I.tok (s.toks + 1)
  by_cases e : z = w
  · subst e
    simp only [beq_self_eq_true, if_true]
    have := q _ I'
    simpa using this
  · have e' : (z == w) = false := beq_eq_false_iff_ne.mpr e
    simp only [e']
    refine h pins _ σ H z t Q I' fun s' I2 => ?_
    have := q s' I2
    simpa [e] using this
theorem dm_or {ps : List Pattern} {ws : List Str} {p : Pos} {body : List Stmt} {cs : List MatchCase} {G : Str → FS} (ho : DOr X ps ws) (hn : namesOfAll (ps.take 1) = [] := by rfl) (hb : DSts X e0 E body F) (h : DM X e0 E cs G) :
    DM X e0 E (⟨.MatchOr ps p, none, body⟩ :: cs) (fun z => if z ∈ ws then F else G z) := fun pins s σ H D z t first I q => by
  refine wpAny_matchCases_cons (wpAny_matchPattern_Or (ho pins s σ H z t _ I fun s' I' => ?_))
  by_cases e : z ∈ ws
  · simp only [e, if_true, hn, List.filterMap_nil, List.map_nil] at q ⊢
    exact wpAny_assignInOrder_none (hb.run pins _ σ H D I' q)
  · simp only [e, if_false] at q ⊢
    exact h pins _ σ H D z t false I' q
def fMatch (f : FE) (G : Str → FS) : FS := fun δ => O.on (f δ) fun d => match d with
  | .str z => G z δ
  | _ => .bad
theorem ds_match {cs : List MatchCase} {G : Str → FS} (h : DE X E a f) (hm : DM X e0 E cs G) : DSt1 X e0 E (.Match a cs pos) (fMatch f G) := by
  refine ⟨fun pins s σ H D I hq => ?_⟩
  obtain ⟨S, δ, st, q⟩ := hq
  refine wpAny_Match (thn (h.run pins s σ H (fun v H1 => ∃ z, v = .str z ∧ tS X.K e0.S e0.H E (G z) D σ H1) I ⟨S, δ, st.st, Fin.on (f := fun d => match d with
    | .str z => G z δ
    | _ => .bad) st q fun d q2 v H1 e1 r => ?_⟩) fun v s1 ⟨x, H1, I1, r1, z, ex, q1⟩ => ?_)
  · cases r with
    | str z => exact ⟨z, rfl, S, δ, st.mono e1, q2.ev (.same e1)⟩
    | _ => exact q2.elim
  · subst ex
    obtain ⟨t, rfl⟩ := r1
    exact hm pins s1 σ H1 D z t true I1 q1
end
end DL

/-! DCall: defs and their calls, comprehensions, slices, methods of lists. -/
namespace DL
open PySem PySem.Spec PyProof.Rows L2

/-! ### what a def promises: its mirror -/
def spD (K : PySem.W.Frag) (n : Nat) (G : List D → R D) : Sp := fun vs H Q E => ∃ S ds, Dom S H ∧ RepL K S H vs ds ∧ ds.length = n ∧ Res K S H E (G ds) fun d => ∀ v H', Same H H' → Rep K S H' v d → Q v H'
def FnG (P : Program) (w : World) (K : PySem.W.Frag) (mg : Str → Option Value) (base : Heap) (k : Nat) (f : Addr) (n : Nat) (G : List D → R D) : Prop := FnR P w K mg base (L2.CX P w) k f (spD K n G)
/-- what a body's context has -/
structure Bd (X : Cx) (E : XK) (k : Nat) : Prop where
  room : Room k X.A
  pass : Passes (L2.CX X.prog X.w) X E
  calm : X.calm = true
  own : PassesOwn (model X.prog X.w) X.A X.env X.xe
theorem Bd.blk {X : Cx} {E : XK} {k : Nat} (b : Bd X E k) {s : Shared} {H : Hp} {scope : Scope} {cenv : Env} {fp : List Addr} : Bd (X.blk s H scope cenv fp) E0 k := ⟨b.room, passL, b.calm, PassesOwn.never⟩
theorem Bd.hu {X : Cx} {E : XK} {k : Nat} (b : Bd X E k) : X.A.units + 1 < cLine := hu_of b.room
theorem Bd.hu64 {X : Cx} {E : XK} {k : Nat} (b : Bd X E k) : X.A.units + 64 < cLine := b.room.units
section
variable {P : Program} {w : World} {K : PySem.W.Frag} {mg : Str → Option Value} {base : Heap}
theorem fng_zero {f : Addr} {n : Nat} {k : Nat} : FnG P w K mg base k f n (fun _ => .bad) := fun A outer s H us vs Q E hr e0 r h => by
  obtain ⟨S, ds, _, _, _, q⟩ := h
  exact q.elim
theorem FnG.mono {f : Addr} {n j k : Nat} {G : List D → R D} (F : FnG P w K mg base j f n G) (h : j ≤ k) : FnG P w K mg base k f n G := FnR.mono F h
/-- a mirror's run: the parameters, the other slots -/
def runD (m : Nat) (F : FS) (ds : List D) : R D := match F (ds.map DS.fz ++ List.replicate (m - ds.length) DS.un) with
  | .rt d => .ok d
  | .nx _ => .ok .non
  | .exc n xs => .exc n xs
  | _ => .bad
theorem start_st {S : Addr → Prop} {H : Hp} {N : List Str} {vs : List V} {ds : List D} (r : RepL K S H vs ds) (dm : Dom S H) (hl : ds.length ≤ N.length) :
    StS K S H S (L2.start N vs) H (ds.map DS.fz ++ List.replicate (N.length - ds.length) DS.un) := by
  have l := r.length
  have no : ∀ (i : Nat) (es : List D), (ds.map DS.fz ++ List.replicate (N.length - ds.length) DS.un)[i]? = some (DS.ow es) → False := fun i es h => by
    have m := List.mem_of_getElem? h
    rcases List.mem_append.mp m with m | m
    · obtain ⟨d, _, e⟩ := List.mem_map.mp m
      cases e
    · cases List.eq_of_mem_replicate m
  refine ⟨⟨?_, fun i s h => ?_, fun i j a es fs h1 _ _ _ => (no i es h1).elim, dm⟩, Same.refl _, fun _ z => z, dm, fun i a es h1 _ => (no i es h1).elim⟩
  · unfold L2.start
    rw [List.length_append, List.length_append, List.length_map, List.length_map, List.length_replicate, List.length_replicate, l]
  · by_cases hi : i < ds.length
    · rw [List.getElem?_append_left (by simpa using hi), List.getElem?_map] at h
      cases e : ds[i]? with
      | none => rw [e] at h; cases h
      | some d =>
        rw [e] at h
        cases h
        obtain ⟨v, h1, h2⟩ := r.get e
        refine ⟨some v, ?_, v, rfl, h2⟩
        unfold L2.start
        rw [List.getElem?_append_left (by rw [List.length_map, l]; exact hi), List.getElem?_map, h1]
        rfl
    · rw [List.getElem?_append_right (by simpa using hi)] at h
      rw [List.getElem?_replicate] at h
      split at h
      · rename_i hlt
        cases h
        refine ⟨none, ?_, trivial⟩
        unfold L2.start
        rw [List.length_map] at hlt
        rw [List.getElem?_append_right (by rw [List.length_map, l]; omega), List.getElem?_replicate, List.length_map, l, if_pos hlt]
      · cases h
/-- a def of the text keeps its mirror's promise -/
theorem fnok_of {x qual : Str} {params : Arguments} {body : List Stmt} {scope : Scope} {dvs : List V} {kws : List (Str × V)} {f : Addr} {fd : FuncData} {N ps : List Str} {k : Nat} {F : FS} (Fd : FunD K x qual params body scope dvs kws f fd) (Sc : FnScope N ps scope)
    (hbody : ∀ (cdv : Value) (A : Around) (outer : List Env) (s : Shared) (e0 : Ent) (H : Hp) (E : XK), Bd (cxOf (L2.CX P w) P w K mg base N qual scope f cdv A outer s H E) E k →
      Takes (cxOf (L2.CX P w) P w K mg base N qual scope f cdv A outer s H E) (fun cls d _ H => E cls d H) → DSts (cxOf (L2.CX P w) P w K mg base N qual scope f cdv A outer s H E) e0 E body F) : FnOk P w K mg base (L2.CX P w) (k + 1) f fd ps (spD K ps.length (runD N.length F)) := by
  have hpl : ps.length ≤ N.length := by have := congrArg List.length Sc.pre; rw [List.length_take] at this; omega
  refine FunD.ok Fd Sc (fun vs H Q E h => ?_) (fun cdv A outer s H vs Q E hr h => ?_)
  · obtain ⟨S, ds, _, r, hl, _⟩ := h
    rw [r.length, hl]
  · obtain ⟨S, ds, dm, r, hl, q⟩ := h
    have tk : Takes (cxOf (L2.CX P w) P w K mg base N qual scope f cdv A outer s H E) (fun cls d _ H => E cls d H) := takes_of rfl rfl rfl rfl
    refine ⟨_, hbody cdv A outer s ⟨S, H⟩ H E ⟨hr, passes_call tk fun _ _ _ _ z => z, rfl, passes_of rfl⟩ tk, S, _, start_st r dm (by omega), ?_⟩
    unfold runD at q
    show Fin K S H E _ S H (F _)
    cases e : F (ds.map DS.fz ++ List.replicate (N.length - ds.length) DS.un) with
    | rt d =>
      rw [e] at q
      exact fun v H' e' r' => q v H' e' r'
    | nx δ =>
      rw [e] at q
      exact fun S' σ' H' s' _ => q .non H' s'.same .non
    | exc n xs =>
      rw [e] at q
      exact q
    | bk δ => rw [e] at q; exact q.elim
    | ct δ => rw [e] at q; exact q.elim
    | bad => rw [e] at q; exact q.elim
theorem fng_of {x qual : Str} {params : Arguments} {body : List Stmt} {scope : Scope} {dvs : List V} {kws : List (Str × V)} {f : Addr} {fd : FuncData} {N ps : List Str} {k : Nat} {F : FS} (Fd : FunD K x qual params body scope dvs kws f fd) (Sc : FnScope N ps scope)
    (hb : Binds K fd ps []) (hbody : ∀ (cdv : Value) (A : Around) (outer : List Env) (s : Shared) (e0 : Ent) (H : Hp) (E : XK), Bd (cxOf (L2.CX P w) P w K mg base N qual scope f cdv A outer s H E) E k →
      Takes (cxOf (L2.CX P w) P w K mg base N qual scope f cdv A outer s H E) (fun cls d _ H => E cls d H) → DSts (cxOf (L2.CX P w) P w K mg base N qual scope f cdv A outer s H E) e0 E body F) : FnG P w K mg base (k + 1) f ps.length (runD N.length F) := by
  have G2 := (fnok_of (P := P) (w := w) (mg := mg) (base := base) Fd Sc hbody).raw hb (.nil : Vals [] [])
  exact FnR.imp G2 fun vs H Q E h => by rw [List.append_nil]; exact h
end
section
variable {X : Cx} {e0 : Ent} {E : XK} {k : Nat} {pos p : Pos} {x : Str} {st : Stmt} {rest : List Stmt} {F : FS} {a b c tg : Expr} {f g : FE} {es : List Expr} {fl : FL}
theorem sp_of {n : Nat} {G : List D → R D} {σ : Sg} {H : Hp} {Q : VK} (ha : DA X E es fl) (hn : es.length = n) (h : tD X.K E (fCall G fl) σ H Q) : tDL X.K E fl σ H fun vs H1 => spD X.K n G vs H1 Q E := by
  obtain ⟨S, δ, st, q⟩ := h
  refine ⟨S, δ, st, ?_⟩
  have q' := Res.on q
  cases r : fl δ with
  | bad => rw [r] at q'; exact q'.elim
  | exc n xs => rw [r] at q'; exact q'
  | ok ds =>
    rw [r] at q'
    exact fun vs H1 e1 r1 => ⟨S, ds, (st.mono e1).here, r1, (ha.len δ ds r).trans hn, (Res.mono e1 (show Res X.K S H E (G ds) (fun d => ∀ v H', Same H H' → Rep X.K S H' v d → Q v H') from q')).imp fun d q2 v H2 e2 r2 => q2 v H2 (e1.trans e2) r2⟩
/-- f(e, ..) -/
theorem de_call {fa : Addr} {n : Nat} {G : List D → R D} (Fn : FnG X.prog X.w X.K X.mg X.base k fa n G) (B : Bd X E k) (hg : Gl X x) (hm : X.mg x = some (.ref fa)) (hk : PySem.W.keepIn X.K (.ref fa) = true) (ha : DA X E (a :: es) fl)
    (hn : (a :: es).length = n := by rfl) (hdb : (x == ("__debug__" : Str)) = false := by decide) (he : starEach (a :: es) X.env = (false, eval a X.env) :: starEach es X.env := by rfl) (hpl : (backTo pos (starEach es X.env)).any (·.1) = false := by rfl) :
    DE X E (.Call (.Name x p) (a :: es) [] pos) (fCall G fl) := by
  refine ⟨fun pins s σ H Q I h => ?_⟩
  refine wpAny_Call_Name_kw (ld_glob I hg hm ?_ hdb)
  refine PySem.W.callWith_K (h₀ := X.base) I.ok.mod.kin hk (thn (ha.pa.run pos pins s σ H _ I (sp_of ha hn h)) fun us s1 ⟨vs, H1, I1, r, q⟩ => ⟨I1.kIn, ?_⟩) he hpl
  exact wpAny_call (run_fnR Fn B.room B.pass I1 r q)
theorem de_call0 {fa : Addr} {G : List D → R D} (Fn : FnG X.prog X.w X.K X.mg X.base k fa 0 G) (B : Bd X E k) (hg : Gl X x) (hm : X.mg x = some (.ref fa)) (hk : PySem.W.keepIn X.K (.ref fa) = true) (hdb : (x == ("__debug__" : Str)) = false := by decide) :
    DE X E (.Call (.Name x p) [] [] pos) (fCall G fNil) := by
  refine ⟨fun pins s σ H Q I h => ?_⟩
  refine wpAny_Call_Name_kw (ld_glob I hg hm ?_ hdb)
  obtain ⟨S, δ, st, q⟩ := h
  exact PySem.W.callWith_K0 I.kIn hk (wpAny_call (run_fnR (us := []) (vs := []) Fn B.room B.pass I .nil ⟨S, [], st.here, .nil, rfl, q⟩))

/-! ### slices -/
abbrev FO := DSt → R (Option Int)
def tDO (K : PySem.W.Frag) (E : XK) (f : FO) : TO := fun σ H Q => ∃ S δ, StE K S σ H δ ∧ Res K S H E (f δ) fun o => ∀ H', Same H H' → Q o H'
def DO (X : Cx) (E : XK) (e : Option Expr) (f : FO) : Prop := PO X e (tDO X.K E f)
theorem PO.imp {X : Cx} {e : Option Expr} {t t' : TO} (h : PO X e t) (k : ∀ σ H Q, t' σ H Q → t σ H Q) : PO X e t' := ⟨fun pins s σ H Q I q => h.run pins s σ H Q I (k σ H Q q)⟩
def fNo : FO := fun _ => .ok none
def fSome (f : FE) : FO := fun δ => (f δ).bind fun d => match d with
  | .int i => .ok (some i)
  | _ => .bad
theorem do_no : DO X E none fNo := by
  refine PO.imp po_none fun σ H Q h => ?_
  obtain ⟨S, δ, st, q⟩ := h
  exact q H (Same.refl _)
theorem do_some (h : DE X E a f) : DO X E (some a) (fSome f) := by
  refine PO.imp (po_some h) fun σ H Q h => ?_
  obtain ⟨S, δ, st, q⟩ := h
  refine ⟨S, δ, st, (Res.on q).imp fun d q1 v H1 e1 r1 => ?_⟩
  cases r1 with
  | int i => exact ⟨i, rfl, q1 H1 e1⟩
  | _ => exact q1.elim
def dCut : D → Option Int → Option Int → Option D
  | .lst xs, lo, hi => some (.lst (cut xs lo hi))
  | .tup xs, lo, hi => some (.tup (cut xs lo hi))
  | .str z, lo, hi => if okLe z.length = true then some (.str (cutS z lo hi)) else none
  | _, _, _ => none
def fSl (f : FE) (l h : FO) : FE := fun δ => (f δ).bind fun d => (l δ).bind fun lo => (h δ).bind fun hi => R.of (dCut d lo hi)
theorem cutV_all {vs : List V} {lo hi : Option Int} (h : HT.sIx vs.length 0 lo = 0 ∧ HT.sIx vs.length vs.length hi = vs.length) : cutV vs lo hi = vs := by
  unfold cutV
  rw [h.1, h.2, List.drop_zero, Nat.sub_zero, List.take_length]
theorem sl_all : SlR X fun x lo hi H Q => ∃ S d z, Dom S H ∧ Rep X.K S H x d ∧ dCut d lo hi = some z ∧ Giv X.K S H z Q := by
  intro pins s σ H x v vl vu lo hi sl Q I rx hs pl pu q
  obtain ⟨S, d, z, dm, r, hz, q⟩ := q
  cases d with
  | lst ds =>
    simp only [dCut, Option.some.injEq] at hz
    subst hz
    obtain ⟨b, xs, e1, e2, e3⟩ := r.lstH
    exact sl_list pins s σ H x v vl vu lo hi sl Q I rx hs pl pu ⟨b, xs, e1, SqL.of e2, q.lst dm (e3.cut lo hi)⟩
  | tup ds =>
    simp only [dCut, Option.some.injEq] at hz
    subst hz
    obtain ⟨b, xs, e1, e2, e3⟩ := r.seqT
    refine sl_tupA pins s σ H x v vl vu lo hi sl Q I rx hs pl pu ⟨b, xs, e1, e2, fun hw => ?_, fun _ => q.tup dm (e3.cut lo hi)⟩
    have e4 := e3.cut lo hi
    rw [cutV_all hw] at e4
    have e5 : cut ds lo hi = ds := by
      unfold cut
      rw [← e3.length, hw.1, hw.2, List.drop_zero, Nat.sub_zero, e3.length, List.take_length]
    rw [e5] at q
    rw [← e1]
    exact q.here r
  | str y =>
    simp only [dCut, Option.ite_none_right_eq_some, Option.some.injEq] at hz
    obtain ⟨h1, rfl⟩ := hz
    exact sl_str pins s σ H x v vl vu lo hi sl Q I rx hs pl pu ⟨y, r.strE, okLe_of h1, q.here (.str _)⟩
  | _ => simp [dCut] at hz
theorem de_slice {lo hi : Option Expr} {p2 : Pos} {l h : FO} (ha : DE X E a f) (hl : DO X E lo l) (hh : DO X E hi h) : DE X E (.Subscript a (.Slice lo hi none p2) pos) (fSl f l h) := by
  refine PE.imp (pe_slice sl_all ha hl hh) fun σ H Q hq => ?_
  obtain ⟨S, δ, st, q⟩ := hq
  refine ⟨S, δ, st, (Res.on q).imp fun d q1 v H1 e1 r1 => ?_⟩
  refine ⟨S, δ, st.mono e1, ((Res.on q1).mono e1).imp fun lo' q2 H2 e2 => ?_⟩
  refine ⟨S, δ, (st.mono e1).mono e2, ((Res.on q2).mono (e1.trans e2)).imp fun hi' q3 H3 e3 => ?_⟩
  obtain ⟨z, hz, q4⟩ := Res.of q3
  have e := e1.trans (e2.trans e3)
  exact ⟨S, d, z, (st.mono e).here, (r1.mono e2).mono e3, hz, fun w H4 e4 r4 => q4 w H4 (e.trans e4) r4⟩
/-- x[lo:hi] of the own list at slot i -/
def fSlOw (i : Nat) (l h : FO) : FE := fun δ => (fOwn i δ).bind fun ds => (l δ).bind fun lo => (h δ).bind fun hi => .ok (.lst (cut ds lo hi))
theorem de_sliceOw {lo hi : Option Expr} {p1 p2 : Pos} {l h : FO} (i : Nat) (hl : DO X E lo l) (hh : DO X E hi h) (hN : X.N[i]? = some x := by rfl) (hv : Vis X.env.scope x := by first | exact Or.inl rfl | exact Or.inr (Or.inl rfl) | exact Or.inr (Or.inr rfl))
    (hd : (x == ("__debug__" : Str)) = false := by decide) (hcd : (x == ("__classdict__" : Str)) = false := by decide) : DE X E (.Subscript (.Name x p1) (.Slice lo hi none p2) pos) (fSlOw i l h) := by
  refine PE.imp (pe_slice sl_list (pe_var hN hv hd hcd) hl hh) fun σ H Q hq => ?_
  obtain ⟨S, δ, st, q⟩ := hq
  unfold fSlOw at q
  cases r : fOwn i δ with
  | bad => rw [r] at q; exact q.elim
  | exc n xs => unfold fOwn at r; split at r <;> cases r
  | ok ds =>
    rw [r] at q
    obtain ⟨o, w1, b, xs, w2, w3, w4, w5⟩ := st.slot i _ (fOwn_at r)
    subst w2
    have q0 : Res X.K S H E ((l δ).bind fun lo => (h δ).bind fun hi => .ok (.lst (cut ds lo hi))) fun d => ∀ v H', Same H H' → Rep X.K S H' v d → Q v H' := q
    refine ⟨_, w1, S, δ, st, (Res.on q0).imp fun lo' q2 H2 e2 => ?_⟩
    refine ⟨S, δ, st.mono e2, ((Res.on q2).mono e2).imp fun hi' q3 H3 e3 => ?_⟩
    refine ⟨b, xs, rfl, SqL.of (e3 _ _ (e2 _ _ w3)), ?_⟩
    have e := e2.trans e3
    exact Giv.lst (zs := cut ds lo' hi') (fun w H4 e4 r4 => q3 w H4 (e.trans e4) r4) (st.mono e).here ((w5.mono e).cut lo' hi')
/-- len(x), x the own list at slot i -/
def fLenOw (i : Nat) : FE := fun δ => (fOwn i δ).bind fun ds => .ok (.int ds.length)

/-! ### methods of the own list -/
def fExt (i : Nat) (f : FE) : FS := fun δ => O.on (fOwn i δ) fun ds => O.on (f δ) fun d => match d with
  | .lst es => if okLe (ds.length + es.length) = true then .nx (δ.set i (.ow (ds ++ es))) else .bad
  | _ => .bad
theorem ds_ext {i : Nat} {call : Expr} (hb : ∀ t, PA X [a] t → PE X call (tBM X.K "list" rExtend (tVar i) t)) (h : DE X E a f) (hst : starEach (a :: []) X.env = (false, eval a X.env) :: starEach [] X.env := by rfl)
    (hs : swapsWith call none pos.line X.env = pure false := by rfl) : DSt1 X e0 E (.Expr call pos) (fExt i f) := by
  refine PS.imp (ps_expr (hb _ (pa_cons h pa_nil hst)) hs) fun D σ H hq => ?_
  obtain ⟨S, δ, s, q⟩ := hq
  unfold fExt at q
  cases r : fOwn i δ with
  | bad => rw [r] at q; exact q.elim
  | exc n xs => unfold fOwn at r; split at r <;> cases r
  | ok ds =>
    rw [r] at q
    have hd := fOwn_at r
    obtain ⟨o, w1, b, xs, w2, w3, w4, w5⟩ := s.st.slot i _ hd
    subst w2
    refine ⟨.ref b, w1, .inl ⟨rfl, _, SqL.of w3⟩, S, δ, s.st, Fin.on (f := fun d => match d with
      | .lst es => if okLe (ds.length + es.length) = true then .nx (δ.set i (.ow (ds ++ es))) else .bad
      | _ => .bad) s q fun d q v H' e' r1 => ?_⟩
    cases d with
    | lst es =>
      by_cases c : okLe (ds.length + es.length) = true
      · simp only [c, if_true] at q
        obtain ⟨b2, ys, e1, e2, e3⟩ := r1.lstH
        subst e1
        refine ⟨b, b2, xs, ys, rfl, rfl, e' _ _ w3, e2, by rw [w5.length, e3.length]; exact okLe_of c, ?_⟩
        obtain ⟨s2, ev⟩ := (s.mono e').chg (xs := xs) hd w1 (ys := xs ++ ys) (es := ds ++ es) ((w5.mono e').append e3)
        exact q S σ _ s2 ((Ev.same e').trans ev)
      · simp only [c, if_false] at q
        exact q.elim
    | _ => exact q.elim
/-- y = x.pop() -/
def fPop (j i : Nat) : FS := fun δ => O.on (fOwn i δ) fun ds => match ds.getLast? with
  | some d => .nx ((δ.set i (.ow ds.dropLast)).set j (.fz d))
  | none => .bad
theorem ds_pop {i j : Nat} {y : Str} {pos' : Pos} {call : Expr} (hb : PE X call (tBM0 X.K "list" rPop (tVar i))) (hN : X.N.Nodup) (hj : X.N[j]? = some y) (hy : Loc X.env.scope y) (hs : swapsWith call (some (.Name y pos')) pos.line X.env = pure false := by rfl)
    (hf : X.fn y = true ∨ X.env.scope.names.lookup y = some .local := by first | exact .inl rfl | exact .inr rfl | assumption) : DSt1 X e0 E (.Assign [.Name y pos'] call pos) (fPop j i) := by
  refine PS.imp (ps_set hN hj hy hb hs hf) fun D σ H hq => ?_
  obtain ⟨S, δ, s, q⟩ := hq
  unfold fPop at q
  cases r : fOwn i δ with
  | bad => rw [r] at q; exact q.elim
  | exc n xs => unfold fOwn at r; split at r <;> cases r
  | ok ds =>
    rw [r] at q
    have hd := fOwn_at r
    obtain ⟨o, w1, b, xs, w2, w3, w4, w5⟩ := s.st.slot i _ hd
    subst w2
    have q1 : Fin X.K e0.S e0.H E D S H (match ds.getLast? with
      | some d => .nx ((δ.set i (.ow ds.dropLast)).set j (.fz d))
      | none => .bad) := q
    cases e : ds.getLast? with
    | none => rw [e] at q1; exact q1.elim
    | some d =>
      rw [e] at q1
      have e2 : ds[ds.length - 1]? = some d := by rw [← List.getLast?_eq_getElem?]; exact e
      obtain ⟨v, h1, h2⟩ := w5.get e2
      refine ⟨.ref b, w1, .inl ⟨rfl, _, SqL.of w3⟩, b, xs, v, rfl, rfl, w3, by rw [w5.length]; exact h1, ?_⟩
      obtain ⟨s2, ev⟩ := s.chg (xs := xs) hd w1 (ys := xs.dropLast) (es := ds.dropLast) w5.dropLast
      exact q1 S _ _ (s2.set j (h2.ev ev)) ev
/-- x[k] = e -/
def fPut (i : Nat) (fk fe : FE) : FS := fun δ => O.on (fe δ) fun d => O.on (fOwn i δ) fun ds => O.on (fk δ) fun k => match k with
  | .int n => match L2.ixN ds.length n with
    | some j => .nx (δ.set i (.ow (ds.set j d)))
    | none => .bad
  | _ => .bad
theorem ds_put {i : Nat} {p1 p2 : Pos} (ha : DE X E a f) (hk : DE X E b g) (hN : X.N[i]? = some x := by rfl) (hv : Vis X.env.scope x := by first | exact Or.inl rfl | exact Or.inr (Or.inl rfl) | exact Or.inr (Or.inr rfl))
    (hd : (x == ("__debug__" : Str)) = false := by decide) (hcd : (x == ("__classdict__" : Str)) = false := by decide)
    (hs : swapsWithSole [.Subscript (.Name x p1) b p2] a pos.line X.env = pure false := by rfl) (hw : swappedStores [.Subscript (.Name x p1) b p2] a X.env = pure none := by rfl)
    (h1 : (assignEach [.Subscript (.Name x p1) b p2] X.env).map (·.2) = [assign (.Subscript (.Name x p1) b p2) X.env] := by rfl)
    (hx : ∀ v, assign (.Subscript (.Name x p1) b p2) X.env v = (do
      let ov ← holding [v] (eval (.Name x p1) X.env)
      let iv ← holding [v, ov] (eval b X.env)
      standAt p2
      holding [v, ov, iv] (setItem ov iv v)
      release [v, ov, iv] []) := by intro _; rfl) : DSt1 X e0 E (.Assign [.Subscript (.Name x p1) b p2] a pos) (fPut i g f) := by
  refine PS.imp (ps_asg ha (pg_sub (pe_var hN hv hd hcd) hk set_list hx) hs hw h1) fun D σ H hq => ?_
  obtain ⟨S, δ, s, q⟩ := hq
  refine ⟨S, δ, s.st, Fin.on (f := fun d => O.on (fOwn i δ) fun ds => O.on (g δ) fun k => match k with
    | .int n => match L2.ixN ds.length n with
      | some j => .nx (δ.set i (.ow (ds.set j d)))
      | none => .bad
    | _ => .bad) s q fun d q v H1 e1 r1 => ?_⟩
  cases r : fOwn i δ with
  | bad => rw [r] at q; exact q.elim
  | exc n xs => unfold fOwn at r; split at r <;> cases r
  | ok ds =>
    rw [r] at q
    have hd := fOwn_at r
    obtain ⟨o, w1, b', xs, w2, w3, w4, w5⟩ := s.st.slot i _ hd
    subst w2
    refine ⟨.ref b', w1, S, δ, (s.mono e1).st, Fin.on (f := fun k => match k with
      | .int n => match L2.ixN ds.length n with
        | some j => .nx (δ.set i (.ow (ds.set j d)))
        | none => .bad
      | _ => .bad) (s.mono e1) (q.ev (.same e1)) fun k q2 kv H2 e2 r2 => ?_⟩
    cases r2 with
    | int n =>
      have q3 : Fin X.K e0.S e0.H E D S H1 (match L2.ixN ds.length n with
        | some j => .nx (δ.set i (.ow (ds.set j d)))
        | none => .bad) := q2
      cases ej : L2.ixN ds.length n with
      | none => rw [ej] at q3; exact q3.elim
      | some j =>
        rw [ej] at q3
        have e := e1.trans e2
        refine ⟨b', xs, n, j, rfl, rfl, e _ _ w3, by rw [w5.length]; exact ej, ?_⟩
        obtain ⟨s2, ev⟩ := (s.mono e).chg (xs := xs) hd w1 (ys := xs.set j v) (es := ds.set j d) (RepL.set (r1.mono e2) j (w5.mono e))
        exact q3 S σ _ s2 ((Ev.same e2).trans ev)
    | _ => exact q2.elim
end
end DL

/-! DMore: isinstance, in and len of an own list, star defs, comprehensions, join. -/
namespace DL
open PySem PySem.Spec PyProof.Rows L2

/-! ### isinstance of a built-in type -/
def D.tyN : D → Option String
  | .non => some "NoneType"
  | .bl _ => some "bool"
  | .int _ => some "int"
  | .str _ => some "str"
  | .lst _ => some "list"
  | .scr _ => some "list"
  | .tup _ => some "tuple"
  | _ => none
inductive IsTy : String → Prop
  | int : IsTy "int"
  | bool : IsTy "bool"
  | str : IsTy "str"
  | list : IsTy "list"
  | tuple : IsTy "tuple"
def isT (t T : String) : Bool := decide (t = T) || (decide (t = "bool") && decide (T = "int"))
def dIsi (T : String) (d : D) : Option D := d.tyN.map fun t => .bl (isT t T)
theorem kitB_is {T : String} (h : IsTy T) : ∀ t, (t = "NoneType" ∨ t = "bool" ∨ t = "int" ∨ t = "str" ∨ t = "list" ∨ t = "tuple") → kitB t T = some (isT t T) := by
  intro t ht
  cases h <;> (rcases ht with rfl | rfl | rfl | rfl | rfl | rfl <;> decide +kernel)
theorem Rep.tyX {K : PySem.W.Frag} {S : Addr → Prop} {H : Hp} {v : V} {d : D} {t : String} (r : Rep K S H v d) (h : d.tyN = some t) : TyX K H v (.type t) ∧ (t = "NoneType" ∨ t = "bool" ∨ t = "int" ∨ t = "str" ∨ t = "list" ∨ t = "tuple") := by
  cases r with
  | non => cases h; exact ⟨.base .non, by simp⟩
  | bl b => cases h; exact ⟨.base (.bl b), by simp⟩
  | int i => cases h; exact ⟨.base (.int i), by simp⟩
  | str x => cases h; exact ⟨.base (.str x), by simp⟩
  | lst e n r => cases h; exact ⟨.base (.lst e), by simp⟩
  | tup e n r => cases h; exact ⟨.base (.tup e), by simp⟩
  | ltp e r => cases h; obtain ⟨o, its, n, e, c, _⟩ := e; exact ⟨.kTuple e c, by simp⟩
  | scr e n r => cases h; exact ⟨.base (.frz e), by simp⟩
  | scl e r => cases h; obtain ⟨o, its, n, e, c, _⟩ := e; exact ⟨.kList e c, by simp⟩
  | _ => cases h
section
variable {X : Cx} {e0 : Ent} {E : XK} {k : Nat} {pos p : Pos} {x : Str} {st : Stmt} {rest : List Stmt} {F : FS} {a b c tg : Expr} {f g : FE} {es : List Expr} {fl : FL}
theorem de_isi {T : String} {xT : Str} {p2 : Pos} (hT : IsTy T) (hg : Gl X "isinstance") (hm : X.mg "isinstance" = none) (hgT : Gl X xT) (hmT : X.mg xT = none) (hvT : bootBuiltins xT = some (.type T)) (ha : DE X E a f)
    (hn : xT ≠ "__name__" := by decide) (hd : (xT == ("__debug__" : Str)) = false := by decide)
    (hs2 : starEach [.Name xT p2] X.env = (false, eval (.Name xT p2) X.env) :: starEach [] X.env := by rfl) (hs1 : starEach [a, .Name xT p2] X.env = (false, eval a X.env) :: starEach [.Name xT p2] X.env := by rfl)
    (hpl : (backTo pos (starEach [.Name xT p2] X.env)).any (·.1) = false := by rfl) : DE X E (.Call (.Name "isinstance" p) [a, .Name xT p2] [] pos) (fU (dIsi T) f) := by
  refine PE.imp (pe_callB call_isi hg hm PyProof.Rows.boot_isinstance (pa_cons ha (pa_cons (pe_bltn (v := .ty T) hgT hmT hvT rfl hn hd) pa_nil hs2) hs1) (by decide) (by decide) hs1 hpl) fun σ H Q h => ?_
  obtain ⟨S, δ, st, q⟩ := h
  refine ⟨S, δ, st, (Res.on q).imp fun d q1 v H1 e1 r1 => ?_⟩
  obtain ⟨z, hz, q2⟩ := Res.of q1
  obtain ⟨t, ht, ez⟩ := Option.map_eq_some_iff.mp hz
  subst ez
  obtain ⟨w1, w2⟩ := r1.tyX ht
  exact ⟨v, .ty T, .type t, .type T, isT t T, rfl, .ty T, w1, kit_ty (kitB_is hT t w2), q2 _ H1 e1 (.bl _)⟩
/-! ### the own list: in, not in, len -/
def fInOw (neg : Bool) (f : FE) (i : Nat) : FE := fun δ => (f δ).bind fun d => (fOwn i δ).bind fun ds => if (d.flat && ds.all D.flat) = true then .ok (.bl (if neg then !inB d ds else inB d ds)) else .bad
theorem inOw_of {neg : Bool} {i : Nat} {σ : Sg} {H : Hp} {Q : VK} (hq : tD X.K E (fInOw neg f i) σ H Q) : tOp (rIn X.K neg) (tD X.K E f) (tVar i) σ H Q := by
  obtain ⟨S, δ, st, q⟩ := hq
  refine ⟨S, δ, st, (Res.on q).imp fun d q1 v H1 e1 r1 => ?_⟩
  cases r : fOwn i δ with
  | bad => rw [r] at q1; exact q1.elim
  | exc n xs => unfold fOwn at r; split at r <;> cases r
  | ok ds =>
    rw [r] at q1
    obtain ⟨o, w1, b, xs, w2, w3, w4, w5⟩ := st.slot i _ (fOwn_at r)
    subst w2
    have q2 : Res X.K S H E (if (d.flat && ds.all D.flat) = true then R.ok (D.bl (if neg then !inB d ds else inB d ds)) else .bad) fun d => ∀ v H', Same H H' → Rep X.K S H' v d → Q v H' := q1
    by_cases c : (d.flat && ds.all D.flat) = true
    · rw [if_pos c] at q2
      obtain ⟨c1, c2⟩ := Bool.and_eq_true_iff.mp c
      have w6 := w5.mono e1
      refine ⟨_, w1, b, xs, rfl, .inl (SqL.of (e1 _ _ w3)), r1.flatV c1, w6.flatV c2, ?_⟩
      rw [RepL.inV r1 c1 w6 c2]
      exact q2 _ H1 e1 (.bl _)
    · rw [if_neg c] at q2
      exact q2.elim
theorem de_inOwG {op : CmpOp} {neg : Bool} {p1 : Pos} (i : Nat) (h1 : OpR X (compareOp op) (rIn X.K neg)) (ha : DE X E a f) (hm : behindInMarks op (.Name x p1) = false) (hN : X.N[i]? = some x) (hv : Vis X.env.scope x)
    (hd : (x == ("__debug__" : Str)) = false) (hcd : (x == ("__classdict__" : Str)) = false) : DE X E (.Compare a [op] [.Name x p1] pos) (fInOw neg f i) :=
  PE.imp (pe_cmpR h1 ha (pe_var hN hv hd hcd) hm) fun σ H Q hq => inOw_of hq
theorem test_bl {f : FE} {σ : Sg} {H : Hp} {Q : Bool → Hp → Prop} (hq : tDB X.K E (fTest f) σ H Q) : tD X.K E f σ H fun x H' => ∃ k, x = .bl k ∧ Q k H' := by
  obtain ⟨S, δ, st, q⟩ := hq
  refine ⟨S, δ, st, (Res.on q).imp fun d q1 v H1 e1 r1 => ?_⟩
  cases r1 with
  | bl k => exact ⟨k, rfl, q1 H1 e1⟩
  | _ => exact q1.elim
theorem db_inOwG {op : CmpOp} {neg : Bool} {p1 : Pos} (i : Nat) (h1 : OpR X (compareOp op) (rIn X.K neg)) (ha : DE X E a f) (hm : behindInMarks op (.Name x p1) = false) (hN : X.N[i]? = some x) (hv : Vis X.env.scope x)
    (hd : (x == ("__debug__" : Str)) = false) (hcd : (x == ("__classdict__" : Str)) = false) : DB X E (.Compare a [op] [.Name x p1] pos) (fTest (fInOw neg f i)) :=
  PT.imp (pt_cmpR h1 ha (pe_var hN hv hd hcd) hm) fun σ H Q hq => inOw_of (test_bl hq)
theorem isN_of {f : FE} {σ : Sg} {H : Hp} {Q : VK} (h : tD X.K E (fU dIsN f) σ H Q) : tIsN (tD X.K E f) σ H Q := by
  obtain ⟨S, δ, st, q⟩ := h
  refine ⟨S, δ, st, (Res.on q).imp fun d q1 v H1 e1 r1 => ?_⟩
  have q2 : Giv X.K S H (.bl d.isNon) Q := q1
  show Q (.bl (decide (v = .non))) H1
  rw [r1.non_iff]
  exact q2 _ H1 e1 (.bl _)
theorem notN_of {f : FE} {σ : Sg} {H : Hp} {Q : VK} (h : tD X.K E (fU dNotN f) σ H Q) : tNotN (tD X.K E f) σ H Q := by
  obtain ⟨S, δ, st, q⟩ := h
  refine ⟨S, δ, st, (Res.on q).imp fun d q1 v H1 e1 r1 => ?_⟩
  have q2 : Giv X.K S H (.bl (!d.isNon)) Q := q1
  show Q (.bl (!decide (v = .non))) H1
  rw [r1.non_iff]
  exact q2 _ H1 e1 (.bl _)
theorem db_isN {p2 : Pos} {j : Nat} (h : DE X E a f) : DB X E (.Compare a [.Is] [.Constant .none j p2] pos) (fTest (fU dIsN f)) := PT.imp (pt_cmp (pc_isN h)) fun σ H Q hq => isN_of (test_bl hq)
theorem db_notN {p2 : Pos} {j : Nat} (h : DE X E a f) : DB X E (.Compare a [.IsNot] [.Constant .none j p2] pos) (fTest (fU dNotN f)) := PT.imp (pt_cmp (pc_notN h)) fun σ H Q hq => notN_of (test_bl hq)
theorem db_inOw {p1 : Pos} (i : Nat) (ha : DE X E a f) (hN : X.N[i]? = some x := by rfl) (hv : Vis X.env.scope x := by first | exact Or.inl rfl | exact Or.inr (Or.inl rfl) | exact Or.inr (Or.inr rfl)) (hm : behindInMarks .In (.Name x p1) = false := by rfl)
    (hd : (x == ("__debug__" : Str)) = false := by decide) (hcd : (x == ("__classdict__" : Str)) = false := by decide) : DB X E (.Compare a [.In] [.Name x p1] pos) (fTest (fInOw false f i)) := db_inOwG i op_in_seq ha hm hN hv hd hcd
theorem db_ninOw {p1 : Pos} (i : Nat) (ha : DE X E a f) (hN : X.N[i]? = some x := by rfl) (hv : Vis X.env.scope x := by first | exact Or.inl rfl | exact Or.inr (Or.inl rfl) | exact Or.inr (Or.inr rfl)) (hm : behindInMarks .NotIn (.Name x p1) = false := by rfl)
    (hd : (x == ("__debug__" : Str)) = false := by decide) (hcd : (x == ("__classdict__" : Str)) = false := by decide) : DB X E (.Compare a [.NotIn] [.Name x p1] pos) (fTest (fInOw true f i)) := db_inOwG i op_notIn_seq ha hm hN hv hd hcd
theorem de_inOw {p1 : Pos} (i : Nat) (ha : DE X E a f) (hN : X.N[i]? = some x := by rfl) (hv : Vis X.env.scope x := by first | exact Or.inl rfl | exact Or.inr (Or.inl rfl) | exact Or.inr (Or.inr rfl)) (hm : behindInMarks .In (.Name x p1) = false := by rfl)
    (hd : (x == ("__debug__" : Str)) = false := by decide) (hcd : (x == ("__classdict__" : Str)) = false := by decide) : DE X E (.Compare a [.In] [.Name x p1] pos) (fInOw false f i) := de_inOwG i op_in_seq ha hm hN hv hd hcd
theorem de_ninOw {p1 : Pos} (i : Nat) (ha : DE X E a f) (hN : X.N[i]? = some x := by rfl) (hv : Vis X.env.scope x := by first | exact Or.inl rfl | exact Or.inr (Or.inl rfl) | exact Or.inr (Or.inr rfl)) (hm : behindInMarks .NotIn (.Name x p1) = false := by rfl)
    (hd : (x == ("__debug__" : Str)) = false := by decide) (hcd : (x == ("__classdict__" : Str)) = false := by decide) : DE X E (.Compare a [.NotIn] [.Name x p1] pos) (fInOw true f i) := de_inOwG i op_notIn_seq ha hm hN hv hd hcd
/-! ### the own list: an item, its length -/
def fIxOw (i : Nat) (f : FE) : FE := fun δ => (fOwn i δ).bind fun ds => (f δ).bind fun d => R.of (dIx (.lst ds) d)
theorem de_ixOw {p1 : Pos} (i : Nat) (hb : DE X E b g) (hs : PlainIx b) (hN : X.N[i]? = some x := by rfl) (hv : Vis X.env.scope x := by first | exact Or.inl rfl | exact Or.inr (Or.inl rfl) | exact Or.inr (Or.inr rfl))
    (hd : (x == ("__debug__" : Str)) = false := by decide) (hcd : (x == ("__classdict__" : Str)) = false := by decide) : DE X E (.Subscript (.Name x p1) b pos) (fIxOw i g) := by
  refine PE.imp (pe_ix ix_list (pe_var hN hv hd hcd) hb hs) fun σ H Q hq => ?_
  obtain ⟨S, δ, st, q⟩ := hq
  unfold fIxOw at q
  cases r : fOwn i δ with
  | bad => rw [r] at q; exact q.elim
  | exc n xs => unfold fOwn at r; split at r <;> cases r
  | ok ds =>
    rw [r] at q
    obtain ⟨o, w1, b', xs, w2, w3, w4, w5⟩ := st.slot i _ (fOwn_at r)
    subst w2
    have q0 : Res X.K S H E ((g δ).bind fun d => R.of (dIx (.lst ds) d)) fun d => ∀ v H', Same H H' → Rep X.K S H' v d → Q v H' := q
    refine ⟨_, w1, S, δ, st, (Res.on q0).imp fun d q1 v H1 e1 r1 => ?_⟩
    obtain ⟨z, hz, q2⟩ := Res.of q1
    cases d <;> simp only [dIx, reduceCtorEq] at hz
    obtain ⟨w, h1, h2⟩ := repL_atI (w5.mono e1) hz
    exact ⟨b', xs, _, w, rfl, r1.intE, SqL.of (e1 _ _ w3), h1, q2 _ H1 e1 h2⟩
theorem de_lenOw {p1 : Pos} (i : Nat) (hg : Gl X "len") (hm : X.mg "len" = none) (hN : X.N[i]? = some x := by rfl) (hv : Vis X.env.scope x := by first | exact Or.inl rfl | exact Or.inr (Or.inl rfl) | exact Or.inr (Or.inr rfl))
    (hd : (x == ("__debug__" : Str)) = false := by decide) (hcd : (x == ("__classdict__" : Str)) = false := by decide)
    (he : starEach [.Name x p1] X.env = (false, eval (.Name x p1) X.env) :: starEach [] X.env := by rfl) (hpl : (backTo pos (starEach [] X.env)).any (·.1) = false := by rfl) : DE X E (.Call (.Name "len" p) [.Name x p1] [] pos) (fLenOw i) := by
  refine PE.imp (pe_callB call_len_seq hg hm PySem.boot_len (pa_cons (pe_var hN hv hd hcd) pa_nil he) (by decide) (by decide) he hpl) fun σ H Q hq => ?_
  obtain ⟨S, δ, st, q⟩ := hq
  unfold fLenOw at q
  cases r : fOwn i δ with
  | bad => rw [r] at q; exact q.elim
  | exc n xs => unfold fOwn at r; split at r <;> cases r
  | ok ds =>
    rw [r] at q
    obtain ⟨o, w1, b', xs, w2, w3, w4, w5⟩ := st.slot i _ (fOwn_at r)
    subst w2
    refine ⟨_, w1, b', xs, rfl, .inl (SqL.of w3), ?_⟩
    rw [w5.length]
    exact q _ H (Same.refl _) (.int _)
/-! ### def f(a, .., *v) -/
def starD (n m : Nat) (F : FS) (ds : List D) : R D := if (decide (n ≤ ds.length) && okLe ds.length) = true then runD m F (ds.take n ++ [.tup (ds.drop n)]) else .bad
/-- a promise of any number of arguments -/
def spV (K : PySem.W.Frag) (G : List D → R D) : Sp := fun vs H Q E => ∃ S ds, Dom S H ∧ RepL K S H vs ds ∧ Res K S H E (G ds) fun d => ∀ v H', Same H H' → Rep K S H' v d → Q v H'
def FnV (P : Program) (w : World) (K : PySem.W.Frag) (mg : Str → Option Value) (base : Heap) (k : Nat) (f : Addr) (G : List D → R D) : Prop := FnR P w K mg base (L2.CX P w) k f (spV K G)
theorem FnV.mono {P : Program} {w : World} {K : PySem.W.Frag} {mg : Str → Option Value} {base : Heap} {f : Addr} {j k : Nat} {G : List D → R D} (F : FnV P w K mg base j f G) (h : j ≤ k) : FnV P w K mg base k f G := FnR.mono F h
theorem FnV.at {P : Program} {w : World} {K : PySem.W.Frag} {mg : Str → Option Value} {base : Heap} {f : Addr} {k : Nat} {G : List D → R D} (F : FnV P w K mg base k f G) (n : Nat) : FnG P w K mg base k f n G := FnR.imp F fun vs H Q E ⟨S, ds, dm, r, _, q⟩ => ⟨S, ds, dm, r, q⟩
theorem fnv_star {P : Program} {w : World} {K : PySem.W.Frag} {mg : Str → Option Value} {base : Heap} {x qual : Str} {params : Arguments} {body : List Stmt} {scope : Scope} {kws : List (Str × V)} {f : Addr} {fd : FuncData} {N ps : List Str} {pv : Str} {k : Nat} {F : FS}
    (Fd : FunD K x qual params body scope [] kws f fd) (Sc : FnScope N (ps ++ [pv]) scope)
    (hb : ∀ (kV doc pm : Value) (an : Option Addr) (cdv ct : Value) (us rest : List Value), us.length = ps.length → bindArgs (PySem.W.fnOf x qual params body scope .none kV doc pm an cdv ct) ⟨us ++ rest, []⟩ = (newTuple rest >>= fun t => pure (ps.zip us ++ [(pv, t)])))
    (hbody : ∀ (cdv : Value) (A : Around) (outer : List Env) (s : Shared) (e0 : Ent) (H : Hp) (E : XK), Bd (cxOf (L2.CX P w) P w K mg base N qual scope f cdv A outer s H E) E k →
      Takes (cxOf (L2.CX P w) P w K mg base N qual scope f cdv A outer s H E) (fun cls d _ H => E cls d H) → DSts (cxOf (L2.CX P w) P w K mg base N qual scope f cdv A outer s H E) e0 E body F) : FnV P w K mg base (k + 1) f (starD ps.length N.length F) := by
  have hpl : ps.length + 1 ≤ N.length := by have := congrArg List.length Sc.pre; rw [List.length_take, List.length_append] at this; simp only [List.length_singleton] at this; omega
  obtain ⟨oc, od, dV, kV, doc, pm, an, cdv, ct, osl, rfl, lk, hcd, hD, _⟩ := Fd.ex
  rcases hD with ⟨_, rfl⟩ | ⟨z, _⟩
  · have G := StX.fn_star (k := k) (sp := fun vs H Q E => ∃ S ds, Dom S H ∧ RepL K S H vs ds ∧ ds.length = ps.length + 1 ∧ Res K S H E (runD N.length F ds) fun d => ∀ v H', Same H H' → Rep K S H' v d → Q v H') (P := P) (w := w) (mg := mg) (base := base) (CX := L2.CX P w) (ps := ps) (pv := pv) lk hcd Sc (StX.cxUp) (hb kV doc pm an cdv ct) (fun A outer s H vs Q E hr h => ?_)
    · refine FnR.imp G fun vs H Q E h => ?_
      obtain ⟨S, ds, dm, r, q⟩ := h
      unfold starD at q
      by_cases c0 : (decide (ps.length ≤ ds.length) && okLe ds.length) = true
      · rw [if_pos c0] at q
        have c : ps.length ≤ ds.length ∧ ds.length ≤ sizeLine := ⟨of_decide_eq_true (Bool.and_eq_true_iff.mp c0).1, okLe_of (Bool.and_eq_true_iff.mp c0).2⟩
        have l := r.length
        refine ⟨vs.take ps.length, vs.drop ps.length, (List.take_append_drop _ _).symm, by rw [List.length_take, l]; omega, by rw [List.length_drop, l]; omega, fun p hp => ?_⟩
        have e : Same H (upd H p (.tup (vs.drop ps.length))) := same_new hp _
        refine ⟨S, ds.take ps.length ++ [.tup (ds.drop ps.length)], fun b z => let ⟨o, ho⟩ := dm b z; ⟨o, e _ _ ho⟩, ((r.take _).mono e).append (.cons (.tup upd_same (dm.new hp) ((r.drop _).mono e)) .nil), by rw [List.length_append, List.length_take]; simp only [List.length_singleton]; omega, (q.mono e).imp fun d q2 v H2 e2 r2 => q2 v H2 (e.trans e2) r2⟩
      · rw [if_neg c0] at q
        exact q.elim
    · obtain ⟨S, ds, dm, r, hl, q⟩ := h
      have tk : Takes (cxOf (L2.CX P w) P w K mg base N qual scope f cdv A outer s H E) (fun cls d _ H => E cls d H) := takes_of rfl rfl rfl rfl
      refine ⟨_, hbody cdv A outer s ⟨S, H⟩ H E ⟨hr, passes_call tk fun _ _ _ _ z => z, rfl, passes_of rfl⟩ tk, S, _, start_st r dm (by omega), ?_⟩
      unfold runD at q
      show Fin K S H E _ S H (F _)
      cases e : F (ds.map DS.fz ++ List.replicate (N.length - ds.length) DS.un) with
      | rt d => rw [e] at q; exact fun v H' e' r' => q v H' e' r'
      | nx δ => rw [e] at q; exact fun S' σ' H' s' _ => q .non H' s'.same .non
      | exc n xs => rw [e] at q; exact q
      | bk δ => rw [e] at q; exact q.elim
      | ct δ => rw [e] at q; exact q.elim
      | bad => rw [e] at q; exact q.elim
  · exact absurd rfl z
end
end DL

/-! DComp: list comprehensions with one name as the target. -/
namespace DL
open PySem PySem.Spec PyProof.Rows L2

/-- no own error leaves a comprehension -/
def R.quiet {α : Type} (r : R α) : R α := match r with
  | .ok a => .ok a
  | _ => .bad
def lcF (i : Nat) (t : FB) (f : FE) (δ : DSt) : List D → List D → R (List D)
  | [], acc => .ok acc
  | d :: ds, acc => (t (δ.set i (.fz d))).quiet.bind fun b => match b with
    | true => (f (δ.set i (.fz d))).quiet.bind fun y => if okLt acc.length = true then lcF i t f δ ds (acc ++ [y]) else .bad
    | false => lcF i t f δ ds acc
def fLcL (fi : FL) (i : Nat) (t : FB) (f : FE) : FL := fun δ => (fi δ).bind fun ds => lcF i t f δ ds []
def fLc (fi : FL) (i : Nat) (t : FB) (f : FE) : FE := fun δ => (fLcL fi i t f δ).bind fun ds => .ok (.lst ds)
theorem quiet_on {α β : Type} {r : R α} {f : α → R β} {b : β} (h : r.quiet.bind f = .ok b) : ∃ a, r = .ok a ∧ f a = .ok b := by
  cases r with
  | ok a => exact ⟨a, rfl, h⟩
  | exc n xs => cases h
  | bad => cases h
theorem lcF_noexc {i : Nat} {t : FB} {f : FE} {δ : DSt} : ∀ (ds acc : List D) (n : Str) (xs : List D), lcF i t f δ ds acc ≠ .exc n xs
  | [], acc, n, xs => by unfold lcF; exact fun z => by cases z
  | d :: ds, acc, n, xs => by
    unfold lcF
    intro z
    cases q : t (δ.set i (.fz d)) with
    | bad => rw [q] at z; cases z
    | exc n xs => rw [q] at z; cases z
    | ok b =>
      rw [q] at z
      cases b with
      | false => exact lcF_noexc ds acc n xs z
      | true =>
        have z' : ((f (δ.set i (.fz d))).quiet.bind fun y => if okLt acc.length = true then lcF i t f δ ds (acc ++ [y]) else .bad) = .exc n xs := z
        cases q2 : f (δ.set i (.fz d)) with
        | bad => rw [q2] at z'; cases z'
        | exc n xs => rw [q2] at z'; cases z'
        | ok y =>
          rw [q2] at z'
          have z2 : (if okLt acc.length = true then lcF i t f δ ds (acc ++ [y]) else .bad) = .exc n xs := z'
          by_cases c : okLt acc.length = true
          · rw [if_pos c] at z2; exact lcF_noexc ds _ n xs z2
          · rw [if_neg c] at z2; cases z2
/-- the tests of a comprehension -/
def tDT (K : PySem.W.Frag) (f : FB) : TT := tDB K (fun _ _ _ => False) f
def DTs (X : Cx) (ifs : List Expr) (f : FB) : Prop := PTs X ifs (tDB X.K E0 f)
def fYes : FB := fun _ => .ok true
theorem dts_nil {X : Cx} : DTs X [] fYes := by
  refine ⟨fun pins s σ H Q I h => ?_⟩
  obtain ⟨S, δ, st, q⟩ := h
  exact pts_nil.run pins s σ H Q I (q H (Same.refl _))
theorem dts_one {X : Cx} {c : Expr} {t : FB} (h : DB X E0 c t) : DTs X [c] t := pts_one h
section
variable {X : Cx} {e0 : Ent} {E : XK} {pos p : Pos} {x y : Str} {a b c tg elt iter : Expr} {f g : FE} {fi : FL} {t : FB} {ifs : List Expr} {scope : Scope} {own : List (Str × Nat)} {i : Nat}
/-- the reading: D the new list -/
theorem lc_read {σ : Sg} {H : Hp} {Q : VK} {S : Addr → Prop} {δ : DSt} (st : StE X.K S σ H δ) {ds : List D} {J : It} {H1 : Hp} (e1 : Same H H1) (io : ItOk X.K S H1 J ds) {res : List D} (hr : lcF i t f δ ds [] = .ok res)
    (hq : ∀ D H', H1 D = none → Same H H' → (∃ vs, H' D = some (.lst vs) ∧ ¬ S D ∧ RepL X.K (fun b => S b ∨ b = D) H' vs res) → StE X.K (fun b => S b ∨ b = D) σ H' δ → Q (.ref D) H') :
    ∀ D, H1 D = none → ∃ W : Nat → Nat → Hp → Prop, (∃ m, W 0 m (upd H1 D (.lst []))) ∧ ∀ k m H, W k m H →
      (J.stop k H ∧ Q (.ref D) H) ∨ (J.go k H ∧ ∃ Nx : Hp → Prop, (∀ H', Nx H' → ∃ m', m' < m ∧ W (k + 1) m' H') ∧ ∀ x H', J.yld k H x H' → gName i x (wipe σ [i]) H' fun σ2 H2 => wipe σ2 [i] = wipe σ [i] ∧ tDB X.K E0 t σ2 H2 fun b H3 =>
        if b = true then tD X.K E0 f σ2 H3 fun y H4 => ∃ acc, H4 D = some (.lst acc) ∧ acc.length < sizeLine ∧ Nx (upd H4 D (.lst (acc ++ [y]))) else Nx H3) := by
  intro D hD
  have hDH : H D = none := by
    cases q : H D with
    | none => rfl
    | some o => have := e1 D o q; rw [hD] at this; cases this
  have nSD : ¬ S D := fun z => by obtain ⟨o, q⟩ := st.here D z; rw [hDH] at q; cases q
  -- what holds between the turns
  let Good : Nat → List DL.D → Hp → Prop := fun k acc H' => Same H H' ∧ Ev S H1 (fun b => S b ∨ b = D) H' ∧ (∃ vs, H' D = some (.lst vs) ∧ RepL X.K (fun b => S b ∨ b = D) H' vs acc) ∧ StE X.K (fun b => S b ∨ b = D) σ H' δ ∧ lcF i t f δ (ds.drop k) acc = .ok res
  have grow : ∀ H', Same H H' → (∃ o, H' D = some o) → StE X.K (fun b => S b ∨ b = D) σ H' δ := fun H' e hd => by
    have s1 := st.mono e
    refine ⟨s1.len, fun j u h => ?_, s1.sep, fun b z => ?_⟩
    · obtain ⟨o, h1, h2⟩ := st.slot j u h
      refine ⟨o, h1, ?_⟩
      have ev : Ev S H (fun b => S b ∨ b = D) H' := ⟨fun b o h _ => e b o h, fun b o h n z => z.elim n fun z => by rw [z, hDH] at h; cases h⟩
      cases u with
      | un => trivial
      | fz d => obtain ⟨v, q, r⟩ := h2; exact ⟨v, q, r.ev ev⟩
      | ow es => obtain ⟨a, xs, q, h, z, r⟩ := h2; exact ⟨a, xs, q, e _ _ h, .inl z, r.ev ev⟩
    · rcases z with z | z
      · exact s1.here b z
      · rw [z]; exact hd
  refine ⟨fun k m H' => m = ds.length - k ∧ k ≤ ds.length ∧ ∃ acc, Good k acc H', ⟨ds.length, rfl, Nat.zero_le _, [], ?_⟩, ?_⟩
  · have e2 : Same H (upd H1 D (.lst [])) := e1.trans (same_new hD _)
    exact ⟨e2, ⟨fun b o h _ => same_new hD _ b o h, fun b o h n z => z.elim n fun z => by rw [z, hD] at h; cases h⟩, ⟨[], upd_same, .nil⟩, grow _ e2 ⟨_, upd_same⟩, by rw [List.drop_zero]; exact hr⟩
  · rintro k m H' ⟨rfl, hk, acc, e2, ev, ⟨vs, hv, rv⟩, s2, hl⟩
    obtain ⟨go, stop⟩ := io _ H' ev s2.here k
    by_cases hlt : k < ds.length
    · obtain ⟨g1, g2⟩ := go hlt
      refine .inr ⟨g1, fun H3 => ∃ acc', Good (k + 1) acc' H3, fun H3 z => ⟨ds.length - (k + 1), by omega, rfl, hlt, z⟩, fun z H3 yz => ?_⟩
      obtain ⟨e3, d, hd, rz⟩ := g2 z H3 yz
      rw [List.drop_eq_getElem_cons hlt] at hl
      have ed : d = ds[k] := by
        rw [List.getElem?_eq_getElem hlt] at hd
        exact (Option.some.inj hd).symm
      subst ed
      unfold lcF at hl
      obtain ⟨bb, ht, hl2⟩ := quiet_on hl
      have es : wipe σ [i] = σ.set i none := rfl
      have s3 : StE X.K (fun b => S b ∨ b = D) ((wipe σ [i]).set i (some z)) H3 (δ.set i (.fz ds[k])) := by
        rw [es, List.set_set]
        exact (s2.mono e3).set i rz
      refine ⟨?_, _, _, s3, ?_⟩
      · show ((σ.set i none).set i (some z)).set i none = σ.set i none
        rw [List.set_set, List.set_set]
      rw [ht]
      intro H4 e4
      cases bb with
      | true =>
        rw [if_pos rfl]
        obtain ⟨yv, hf, hl3⟩ := quiet_on (show ((f (δ.set i (.fz ds[k]))).quiet.bind fun y => if okLt acc.length = true then lcF i t f δ (ds.drop (k + 1)) (acc ++ [y]) else .bad) = .ok res from hl2)
        refine ⟨_, _, s3.mono e4, ?_⟩
        rw [hf]
        intro w H5 e5 rw5
        by_cases c : okLt acc.length = true
        · rw [if_pos c] at hl3
          have e35 := e3.trans (e4.trans e5)
          have hv5 := e35 _ _ hv
          have evU : Ev (fun b => S b ∨ b = D) H5 (fun b => S b ∨ b = D) (upd H5 D (.lst (vs ++ [w]))) := ⟨fun b o h n => by rw [upd_ne (fun z => n (.inr z))]; exact h, fun _ _ _ n => n⟩
          have eH : Same H (upd H5 D (.lst (vs ++ [w]))) := fun b o h => by
            rw [upd_ne (fun z => by rw [z, hDH] at h; cases h)]
            exact e35 _ _ (e2 _ _ h)
          refine ⟨vs, hv5, by rw [rv.length]; exact okLt_of c, acc ++ [yv], eH, ev.trans ((Ev.same e35).trans evU), ⟨vs ++ [w], upd_same, (((rv.mono e35).append (.cons rw5 .nil)).ev evU)⟩, grow _ eH ⟨_, upd_same⟩, hl3⟩
        · rw [if_neg c] at hl3; cases hl3
      | false =>
        rw [if_neg Bool.false_ne_true]
        have e34 := e3.trans e4
        exact ⟨acc, e2.trans e34, ev.trans (Ev.same e34), ⟨vs, e34 _ _ hv, rv.mono e34⟩, s2.mono e34, hl2⟩
    · have e : k = ds.length := by omega
      subst e
      rw [List.drop_length] at hl
      unfold lcF at hl
      cases hl
      exact .inl ⟨stop (Nat.le_refl _), hq D H' hD e2 ⟨vs, hv, nSD, rv⟩ s2⟩
theorem lc_tl {σ : Sg} {H : Hp} {Q : VK} {S : Addr → Prop} {δ : DSt} (st : StE X.K S σ H δ) (h : Res X.K S H E (fLcL fi i t f δ) fun res => ∀ D H', Same H H' → H D = none → (∃ vs, H' D = some (.lst vs) ∧ ¬ S D ∧ RepL X.K (fun b => S b ∨ b = D) H' vs res) → StE X.K (fun b => S b ∨ b = D) σ H' δ → Q (.ref D) H') :
    tLc (tI X.K E fi) (gName i) (tDB X.K E0 t) (tD X.K E0 f) [i] σ H Q := by
  refine ⟨S, δ, st, (Res.on (show Res X.K S H E ((fi δ).bind fun ds => lcF i t f δ ds []) _ from h)).imp fun ds q J H1 e1 io => ?_⟩
  cases r : lcF i t f δ ds [] with
  | bad => rw [r] at q; exact q.elim
  | exc n xs => exact absurd r (lcF_noexc _ _ _ _)
  | ok res =>
    rw [r] at q
    exact lc_read st e1 io r fun D H' hD e' h3 s' => q D H' e' (by
      cases z : H D with
      | none => rfl
      | some o => have := e1 D o z; rw [hD] at this; cases this) h3 s'
theorem de_lc (hc : X.calm = true) (hN : X.N.Nodup) (hi : DI X E tg iter fi) (ok : BlkOk X.N X.env.scope scope own) (ho : own.map (·.2) = [i])
    (hg : ∀ (s : Shared) (H : Hp) (C : Addr) (cl : List (Str × Addr)) (fp : List Addr), PG (X.blk s H scope (compEnvC scope cl C X.env) fp) tg (gName i))
    (ht : ∀ (s : Shared) (H : Hp) (C : Addr) (cl : List (Str × Addr)) (fp : List Addr), DTs (X.blk s H scope (compEnvC scope cl C X.env) fp) ifs t)
    (he : ∀ (s : Shared) (H : Hp) (C : Addr) (cl : List (Str × Addr)) (fp : List Addr), DE (X.blk s H scope (compEnvC scope cl C X.env) fp) E0 elt f) (hs : ∀ x, foldedSetIterable iter X.env x = pure x := by intro _; rfl) :
    DE X E (.ListComp elt [⟨tg, iter, ifs, 0⟩] scope pos) (fLc fi i t f) := by
  refine PE.imp (pe_lc (tt := tDB X.K E0 t) (te := tD X.K E0 f) hc hN hi ok hg ht he hs) fun σ H Q h => ?_
  obtain ⟨S, δ, st, q⟩ := h
  rw [ho]
  refine lc_tl st ((Res.on (show Res X.K S H E ((fLcL fi i t f δ).bind fun ds => R.ok (D.lst ds)) _ from q)).imp fun res q2 D H' e' hD h3 s' => ?_)
  obtain ⟨vs, h1, h2, h3⟩ := h3
  have q3 : ∀ v H', Same H H' → Rep X.K S H' v (.lst res) → Q v H' := q2
  exact q3 _ H' e' (.lst h1 h2 (h3.less fun b z => .inl z))
/-- y = [..]: frozen, or the frame's own -/
theorem ds_setLc {j : Nat} {py spos : Pos} (hc : X.calm = true) (hN : X.N.Nodup) (hy : X.N[j]? = some y) (hyl : X.env.scope.names.lookup y = some .local) (hsw : swapsWith (.ListComp elt [⟨tg, iter, ifs, 0⟩] scope pos) (some (.Name y py)) spos.line X.env = pure true)
    (hi : DI X E tg iter fi) (ok : BlkOk X.N X.env.scope scope own) (ho : own.map (·.2) = [i])
    (hg : ∀ (s : Shared) (H : Hp) (C : Addr) (cl : List (Str × Addr)) (fp : List Addr), PG (X.blk s H scope (compEnvC scope cl C X.env) fp) tg (gName i))
    (ht : ∀ (s : Shared) (H : Hp) (C : Addr) (cl : List (Str × Addr)) (fp : List Addr), DTs (X.blk s H scope (compEnvC scope cl C X.env) fp) ifs t)
    (he : ∀ (s : Shared) (H : Hp) (C : Addr) (cl : List (Str × Addr)) (fp : List Addr), DE (X.blk s H scope (compEnvC scope cl C X.env) fp) E0 elt f) (hs : ∀ x, foldedSetIterable iter X.env x = pure x := by intro _; rfl) :
    DSt1 X e0 E (.Assign [.Name y py] (.ListComp elt [⟨tg, iter, ifs, 0⟩] scope pos) spos) (fSet j (fLc fi i t f)) := by
  refine PS.imp (ps_setLc (tt := tDB X.K E0 t) (te := tD X.K E0 f) hc hN hy hyl hsw hi ok hg ht he hs) fun Dn σ H h => ?_
  obtain ⟨S, δ, s, q⟩ := h
  rw [ho]
  have q0 : Fin X.K e0.S e0.H E Dn S H (O.on ((fLcL fi i t f δ).bind fun ds => R.ok (D.lst ds)) fun d => .nx (δ.set j (.fz d))) := q
  have q1 : Fin X.K e0.S e0.H E Dn S H (O.on (fLcL fi i t f δ) fun ds => .nx (δ.set j (.fz (.lst ds)))) := by
    cases r : fLcL fi i t f δ with
    | ok a => rw [r] at q0; exact q0
    | exc n xs => rw [r] at q0; exact q0
    | bad => rw [r] at q0; exact q0
  refine lc_tl s.st (Fin.on (f := fun ds => .nx (δ.set j (.fz (.lst ds)))) s q1 fun res q2 D H' e' hD h3 s' => ?_)
  obtain ⟨vs, h1, h2, h3⟩ := h3
  exact q2 S _ H' ((s.mono e').set j (.lst h1 h2 (h3.less fun b z => .inl z))) (.same e')
theorem ds_newLc {j : Nat} {py spos : Pos} (hc : X.calm = true) (hN : X.N.Nodup) (hy : X.N[j]? = some y) (hyl : X.env.scope.names.lookup y = some .local) (hsw : swapsWith (.ListComp elt [⟨tg, iter, ifs, 0⟩] scope pos) (some (.Name y py)) spos.line X.env = pure true)
    (hi : DI X E tg iter fi) (ok : BlkOk X.N X.env.scope scope own) (ho : own.map (·.2) = [i])
    (hg : ∀ (s : Shared) (H : Hp) (C : Addr) (cl : List (Str × Addr)) (fp : List Addr), PG (X.blk s H scope (compEnvC scope cl C X.env) fp) tg (gName i))
    (ht : ∀ (s : Shared) (H : Hp) (C : Addr) (cl : List (Str × Addr)) (fp : List Addr), DTs (X.blk s H scope (compEnvC scope cl C X.env) fp) ifs t)
    (he : ∀ (s : Shared) (H : Hp) (C : Addr) (cl : List (Str × Addr)) (fp : List Addr), DE (X.blk s H scope (compEnvC scope cl C X.env) fp) E0 elt f) (hs : ∀ x, foldedSetIterable iter X.env x = pure x := by intro _; rfl) :
    DSt1 X e0 E (.Assign [.Name y py] (.ListComp elt [⟨tg, iter, ifs, 0⟩] scope pos) spos) (fNew j (fLcL fi i t f)) := by
  refine PS.imp (ps_setLc (tt := tDB X.K E0 t) (te := tD X.K E0 f) hc hN hy hyl hsw hi ok hg ht he hs) fun Dn σ H h => ?_
  obtain ⟨S, δ, s, q⟩ := h
  rw [ho]
  refine lc_tl s.st (Fin.on (f := fun ds => .nx (δ.set j (.ow ds))) s q fun res q2 D H' e' hD h3 s' => ?_)
  obtain ⟨vs, h1, h2, h3⟩ := h3
  obtain ⟨s2, ev⟩ := s.newG j hD e' h1 h3
  exact q2 _ _ H' s2 ev
end
end DL

/-! DStr: joined texts. -/
namespace DL
open PySem PySem.Spec PyProof.Rows L2
def strsOf : List D → Option (List Str)
  | [] => some []
  | .str x :: ds => (strsOf ds).map (x :: ·)
  | _ :: _ => none
/-- within the line of a joined text -/
def joinOk (a : Str) (ys : List Str) : Bool := Nat.ble ((ys.map (·.length)).sum + ys.length * a.length) 16777216
def dJoin (a : Str) : D → Option D
  | .lst ds => match strsOf ds with
    | some ys => if joinOk a ys = true then some (.str (Str.join a ys)) else none
    | none => none
  | .tup ds => match strsOf ds with
    | some ys => if joinOk a ys = true then some (.str (Str.join a ys)) else none
    | none => none
  | _ => none
def rJoin (g : FE) (δ : DSt) : D → R D
  | .str a => (g δ).bind fun e => R.of (dJoin a e)
  | _ => .bad
def fJoin (f g : FE) : FE := fun δ => (f δ).bind (rJoin g δ)
theorem strsOf_map : ∀ ys : List Str, strsOf (ys.map .str) = some ys
  | [] => rfl
  | y :: ys => by
    show (strsOf (ys.map .str)).map (y :: ·) = _
    rw [strsOf_map ys]
    rfl
theorem repL_strs {K : PySem.W.Frag} {S : Addr → Prop} {H : Hp} : ∀ {ds : List D} {ys : List Str} {vs : List V}, strsOf ds = some ys → RepL K S H vs ds → vs = ys.map V.str
  | [], ys, vs, h, r => by cases h; cases r; rfl
  | d :: ds, ys, vs, h, r => by
    cases r with
    | cons r1 r2 =>
      cases d with
      | str x =>
        have h' : (strsOf ds).map (x :: ·) = some ys := h
        cases e : strsOf ds with
        | none => rw [e] at h'; cases h'
        | some zs =>
          rw [e] at h'
          cases h'
          rw [r1.strE, repL_strs e r2]
          rfl
      | _ => cases h
section
variable {X : Cx} {e0 : Ent} {E : XK} {pos apos : Pos} {a b : Expr} {f g : FE}
theorem de_join (ha : DE X E a f) (hb : DE X E b g) (hs : starEach [b] X.env = [(false, eval b X.env)] := by rfl) (hbase : attributeBase a "join" X.env (eval a X.env) = eval a X.env := by rfl) (hline : (apos.endLine == pos.line) = true := by rfl) :
    DE X E (.Call (.Attribute a "join" apos) [b] [] pos) (fJoin f g) := by
  refine PE.imp (pe_join ha hb hs hbase hline) fun σ H Q hq => ?_
  obtain ⟨S, δ, st, q⟩ := hq
  refine ⟨S, δ, st, (Res.on q).imp fun d q1 v H1 e1 r1 => ?_⟩
  cases d with
  | str x =>
    refine ⟨⟨x, r1.strE⟩, S, δ, st.mono e1, ((Res.on (show Res X.K S H E ((g δ).bind fun e => R.of (dJoin x e)) _ from q1)).mono e1).imp fun e q2 u H2 e2 r2 => ?_⟩
    obtain ⟨z, hz, q3⟩ := Res.of q2
    have key : ∀ ds : List D, (match strsOf ds with | some ys => if joinOk x ys = true then some (D.str (Str.join x ys)) else none | none => none) = some z → ∃ ys, strsOf ds = some ys ∧ (ys.map (·.length)).sum + ys.length * x.length ≤ 16777216 ∧ z = .str (Str.join x ys) := fun ds h => by
      cases e : strsOf ds with
      | none => rw [e] at h; cases h
      | some ys =>
        rw [e] at h
        by_cases c : joinOk x ys = true
        · simp only [c, if_true, Option.some.injEq] at h
          exact ⟨ys, rfl, Nat.le_of_ble_eq_true c, h.symm⟩
        · simp only [c] at h
          cases h
    cases e with
    | lst ds =>
      obtain ⟨ys, h1, h2, rfl⟩ := key ds hz
      obtain ⟨p, xs, w1, w2, w3⟩ := r2.lstH
      subst w1
      refine ⟨x, p, ys, r1.strE, rfl, .inl ?_, h2, ?_⟩
      · rw [← repL_strs h1 w3]; exact SqL.of w2
      · rw [TL.join_eq]
        exact q3 _ H2 (e1.trans e2) (.str _)
    | tup ds =>
      obtain ⟨ys, h1, h2, rfl⟩ := key ds hz
      obtain ⟨p, xs, w1, w2, w3⟩ := r2.seqT
      subst w1
      refine ⟨x, p, ys, r1.strE, rfl, .inr ?_, h2, ?_⟩
      · rw [← repL_strs h1 w3]; exact w2
      · rw [TL.join_eq]
        exact q3 _ H2 (e1.trans e2) (.str _)
    | _ => cases hz
  | _ => exact q1.elim
end
end DL

/-! DHead: the head's facts for the data's rules, the end of a law. -/
namespace DL
open PySem PySem.Spec PyProof.Rows L2

/-! ### the Hook: facts by names, defs, and a check of one's own -/
abbrev AlX : Type := Bool × He.AlD
def obsX (fa : List He.Fa) (ex : PySem.W.Frag → Bool) (fn : List He.DefD) (K : PySem.W.Frag) : AlX := (ex K, He.obsD fa fn K)
def valX (fn : List He.DefD) : AlX := (true, He.valD fn)
def obsXG (n : Nat) (fa : List He.Fa) (ex : PySem.W.Frag → Bool) (fn : List He.DefD) (g : Addr → Option Obj) : AlX := obsX fa ex fn (He.frG g (He.asD g n))
def hookX (n : Nat) (fa : List He.Fa) (ex : PySem.W.Frag → Bool) (fn : List He.DefD) : PySem.W.Hook where
  α := AlX
  obs := fun s => obsXG n fa ex fn s.heap.get?
  val := fun _ => valX fn
  says := fun _ h => ∃ K : PySem.W.Frag, K.In h ∧ obsX fa ex fn K = valX fn
  of := fun _ _ e => ⟨_, He.frG_in, e⟩
  keeps := fun _ _ _ ⟨K, hK, c⟩ k => ⟨K, PySem.W.Frag.In.keeps hK k, c⟩
theorem obsXG_eq {n : Nat} {fa : List He.Fa} {ex : PySem.W.Frag → Bool} {fn : List He.DefD} {g : Addr → Option Obj} {s : Shared} (h : ∀ a, g a = s.heap.get? a) : obsXG n fa ex fn g = (hookX n fa ex fn).obs s := by
  have e : g = s.heap.get? := funext h
  rw [e] <;> rfl
/-- what is known of the top -/
structure Tx (fa : List He.Fa) (ex : PySem.W.Frag → Bool) (fn : List He.DefD) (K : PySem.W.Frag) (mg : Str → Option Value) : Prop where
  c : obsX fa ex fn K = valX fn
  at_ : ∃ h : Heap, K.In h ∧ h.Ns mainGlobals mg
section
variable {fa : List He.Fa} {ex : PySem.W.Frag → Bool} {fn : List He.DefD} {K : PySem.W.Frag} {mg : Str → Option Value}
theorem Tx.says (T : Tx fa ex fn K mg) : He.SaysD fa fn K := congrArg (fun z : AlX => z.2) T.c
theorem Tx.extra (T : Tx fa ex fn K mg) : ex K = true := congrArg (fun z : AlX => z.1) T.c
theorem Tx.glo (T : Tx fa ex fn K mg) (i : Nat) {x : Str} (h : fa[i]? = some (.glo x) := by rfl) : mg x = some (.ref (He.ga K x)) := by
  obtain ⟨hp, X, G⟩ := T.at_
  exact He.glo_ok X G (T.says.fact i h)
theorem Tx.free (T : Tx fa ex fn K mg) (i : Nat) {x : Str} (h : fa[i]? = some (.free x) := by rfl) : mg x = none := by
  obtain ⟨hp, X, G⟩ := T.at_
  exact He.free_ok X G (T.says.fact i h)
theorem Tx.def_ (T : Tx fa ex fn K mg) (i : Nat) {d : He.DefD} (h : fn[i]? = some d := by rfl) : ∃ fd, FunD K d.name d.qual d.params d.body d.scope (d.dvs K) (d.kws K) (He.fAd K d.at_) fd := T.says.def_ i h
theorem Tx.kp (T : Tx fa ex fn K mg) (i : Nat) {d : He.DefD} (h : fn[i]? = some d := by rfl) : PySem.W.keepIn K (.ref (He.fAd K d.at_)) = true := by
  obtain ⟨fd, F⟩ := T.says.def_ i h
  exact F.kp
end
/-! ### the law's end -/
theorem cx_no {P : Program} {w : World} {l : List Env} {H : Hp} {s : Shared} {e : Value} {s' : Shared} (h : L2.CX P w l H s (fun _ _ _ => False) e s') : False := by
  obtain ⟨_, _, _, _, _, _, _, _, _, _, _, _, z⟩ := h
  exact z.elim
theorem rep_ints {K : PySem.W.Frag} {S : Addr → Prop} {H : Hp} : ∀ ns : List Int, RepL K S H (ns.map V.int) (ns.map D.int)
  | [] => .nil
  | n :: ns => .cons (.int n) (rep_ints ns)
/-- the law's promise out of its mirror's -/
theorem law_sp {K : PySem.W.Frag} {G : List D → R D} {m : Nat} (h : ∀ ns : List Int, ns.length ≤ m → G [.scr (ns.map .int)] = .ok (.bl true)) (H : Hp) (hO : Only H) (a : Addr) (ns : List Int) (hl : ns.length ≤ m) (hS : SqL K H a (ns.map V.int)) :
    spD K 1 G [.ref a] H (fun v _ => v = .bl true) (fun _ _ _ => False) := by
  have fin : ∀ d, G [d] = .ok (.bl true) → Rep K (fun _ => False) H (.ref a) d → spD K 1 G [.ref a] H (fun v _ => v = .bl true) (fun _ _ _ => False) := fun d e r => by
    refine ⟨fun _ => False, [d], fun _ z => z.elim, .cons r .nil, rfl, ?_⟩
    rw [e]
    intro v H' _ r'
    cases r' with
    | bl b => rfl
  rcases hS with (h1 | ⟨o, h1⟩) | h1
  · rcases hO a with z | ⟨o, xs, z⟩
    · rw [z] at h1; cases h1
    · rw [z] at h1; cases h1
  · exact fin _ (h ns hl) (.scr h1 (fun z => z) (rep_ints ns))
  · exact fin _ (h ns hl) (.scl h1 (rep_ints ns))
/-- the law's call, by its promise; what leaves a def may hang on the world -/
theorem walk_ofX {l : PySem.W.OpenLaw} {n k : Nat} {q : Program} {loose : List Str} {XP : (Str → Option Value) → Heap → Prop} {YP : World → Heap → Prop} {d : DefRec} {x : Str}
    (hn : l.most = some n) (hn2 : n ≤ sizeLine) (hdf : d.params.defaults = []) (hr : Room k callerA)
    (F : ∀ (w : World) (mg : Str → Option Value) (fa : Addr) (h : Heap), YP w h → h.Ns mainGlobals mg → mg d.name = some (.ref fa) →
      ∃ (K : PySem.W.Frag) (fd : FuncData) (sp : Sp), K.In h ∧ (∀ (s : Shared) (u : Value), BindsTo s fd ⟨[u], []⟩ [(x, u)]) ∧
        (∀ (H : Hp) (a : Addr) (ns : List Int), ns.length ≤ n → Only H → SqL K H a (ns.map V.int) → sp [.ref a] H (fun v _ => v = .bl true) fun _ _ _ => False) ∧
        ∀ base : Heap, K.In base → base.Ns mainGlobals mg → FnOk l.prog w K mg base (L2.CX l.prog w) k fa fd [x] sp) :
    PySem.W.WalkO q loose XP YP l.row.toRowW d [] (fun f vs => PySem.call f vs) := by
  refine Att.attach_call hn hdf fun w s₀ s₁ mg mb fa o pm cd doc a vs ns G Y ho hd hcd hmg hobj hints hlen hg => ?_
  obtain ⟨K, fd, sp, KX, hb, hsp, hF⟩ := F w mg fa _ Y G.T.g hmg
  exact law_call KX G.T.g G.T.b G.T.builtins G.T.nolimit hg hobj hints (Nat.le_trans hlen hn2) hr hF hb (fun H hO hS => hsp H a ns hlen hO hS) fun H e s' z => cx_no z
end DL

namespace LW
open PySem PySem.Spec PyProof.Rows L2 DL
def topS (i : Nat) : Stmt := PySem.Challenge.pw_unlookedlists_k02_show.main.body.getD i (.Pass ⟨0, 0, 0, 0⟩)
abbrev s_item : Stmt := topS 1
abbrev N_item : List Str := ["place"]
abbrev P_item : List Str := ["place"]
def dd_item : He.DefD := ⟨("item", none), "item", "item", defArgs s_item, defBody s_item, defScope s_item, [], []⟩
abbrev s_call : Stmt := topS 2
abbrev N_call : List Str := ["name", "arguments"]
abbrev P_call : List Str := ["name", "arguments"]
def dd_call : He.DefD := ⟨("call", none), "call", "call", defArgs s_call, defBody s_call, defScope s_call, [], []⟩
abbrev s_show : Stmt := topS 3
abbrev N_show : List Str := ["term", "argument"]
abbrev P_show : List Str := ["term"]
def dd_show : He.DefD := ⟨("show", none), "show", "show", defArgs s_show, defBody s_show, defScope s_show, [], []⟩
abbrev s__law_draws : Stmt := topS 5
abbrev N__law_draws : List Str := ["_law_script", "_law_many", "_law_draws_here", "_law_k", "_law_cell", "_law_step", "_law_mixed"]
abbrev P__law_draws : List Str := ["_law_script", "_law_many"]
def dd__law_draws : He.DefD := ⟨("_law_draws", none), "_law_draws", "_law_draws", defArgs s__law_draws, defBody s__law_draws, defScope s__law_draws, [], []⟩
abbrev s__law_name : Stmt := topS 6
abbrev N__law_name : List Str := ["_law_draw", "_law_name_here", "_law_step"]
abbrev P__law_name : List Str := ["_law_draw"]
def dd__law_name : He.DefD := ⟨("_law_name", none), "_law_name", "_law_name", defArgs s__law_name, defBody s__law_name, defScope s__law_name, [], []⟩
abbrev s_law : Stmt := topS 7
abbrev N_law : List Str := ["_law_script", "_law_entries", "_law_draw", "_law_kind", "_law_name_here", "_law_last", "_law_before", "_law_right", "_law_left", "_law_only", "_law_place", "_law_entry", "_law_told"]
abbrev P_law : List Str := ["_law_script"]
def dd_law : He.DefD := ⟨("law", none), "law", "law", defArgs s_law, defBody s_law, defScope s_law, [], []⟩
def fa : List He.Fa := [.glo "law", .free "str", .free "len", .glo "show", .free "min", .free "range", .free "abs", .free "int", .glo "_law_draws", .glo "_law_name", .free "max", .glo "call", .glo "item", .free "isinstance"]
def ex (K : PySem.W.Frag) : Bool := true
def fn : List He.DefD := [dd_item, dd_call, dd_show, dd__law_draws, dd__law_name, dd_law]
abbrev TT (K : PySem.W.Frag) (mg : Str → Option Value) : Prop := Tx fa ex fn K mg
theorem sc_item : FnScope N_item P_item (defScope s_item) := ⟨rfl, rfl, rfl, by decide +kernel, rfl, by decide +kernel, by decide +kernel⟩
theorem sc_call : FnScope N_call P_call (defScope s_call) := ⟨rfl, rfl, rfl, by decide +kernel, rfl, by decide +kernel, by decide +kernel⟩
theorem sc_show : FnScope N_show P_show (defScope s_show) := ⟨rfl, rfl, rfl, by decide +kernel, rfl, by decide +kernel, by decide +kernel⟩
theorem sc__law_draws : FnScope N__law_draws P__law_draws (defScope s__law_draws) := ⟨rfl, rfl, rfl, by decide +kernel, rfl, by decide +kernel, by decide +kernel⟩
theorem sc__law_name : FnScope N__law_name P__law_name (defScope s__law_name) := ⟨rfl, rfl, rfl, by decide +kernel, rfl, by decide +kernel, by decide +kernel⟩
theorem sc_law : FnScope N_law P_law (defScope s_law) := ⟨rfl, rfl, rfl, by decide +kernel, rfl, by decide +kernel, by decide +kernel⟩
section
variable {P : Program} {w : World} {K : PySem.W.Frag} {mg : Str → Option Value} {base : Heap}
def b_item : FS := (fRet (fTup (fCons (fC (.str "item")) (fCons (fVar 0) fNil))))
def m_item : List D → R D := runD 1 b_item
theorem ok_item (T : TT K mg) : FnG P w K mg base 1 (He.ga K "item") 1 m_item := by
  obtain ⟨fd, Fd⟩ := T.def_ 0 (d := dd_item) rfl
  exact fng_of (N := N_item) Fd sc_item (FunD.bindsN Fd fun _ _ _ _ _ _ us hl => match us, hl with | [_], _ => rfl) (fun cdv A outer s e0 H E B tk => (dss_one (ds_ret (de_tup (da_cons de_str (da_cons (de_var 0) da_nil))))))
def b_call : FS := (fRet (fTup (fCons (fC (.str "call")) (fCons (fVar 0) (fCons (fVar 1) fNil)))))
def m_call : List D → R D := starD 1 2 b_call
theorem ok_call (T : TT K mg) : FnV P w K mg base 1 (He.ga K "call") m_call := by
  obtain ⟨fd, Fd⟩ := T.def_ 1 (d := dd_call) rfl
  exact fnv_star (ps := ["name"]) (N := N_call) Fd sc_call (fun _ _ _ _ _ _ us rest hl => match us, hl with | [_], _ => by cases rest <;> rfl) (fun cdv A outer s e0 H E B tk => (dss_one (ds_ret (de_tup (da_cons de_str (da_cons (de_var 0) (da_cons (de_var 1) da_nil)))))))
def b_show (r_show : List D → R D) : FS := (fSeq (fIfS (fTest (fB dEq (fB dIx (fVar 0) (fC (.int 0))) (fC (.str "item")))) (fRet (fB dAdd (fC (.str "x")) (fL dStr (fCons (fB dIx (fVar 0) (fC (.int 1))) fNil)))) fSkip) (fSeq (fIfS (fTest (fB dEq (fL dLen (fCons (fB dIx (fVar 0) (fC (.int 2))) fNil)) (fC (.int 0)))) (fRet (fB dIx (fVar 0) (fC (.int 1)))) fSkip) (fRet (fB dAdd (fB dAdd (fB dAdd (fB dIx (fVar 0) (fC (.int 1))) (fC (.str "("))) (fJoin (fC (.str ",")) (fLc (fItems (fB dIx (fVar 0) (fC (.int 2)))) 1 fYes (fCall r_show (fCons (fVar 1) fNil))))) (fC (.str ")"))))))
def m_show : Nat → List D → R D
  | 0 => fun _ => .bad
  | n + 1 => runD 2 (b_show (m_show n))
theorem st_show (T : TT K mg) {n : Nat} (hn : 0 ≤ n) {r_show : List D → R D} (h_show : FnG P w K mg base (0 + n) (He.ga K "show") 1 r_show) : FnG P w K mg base (0 + n + 1) (He.ga K "show") 1 (runD 2 (b_show r_show)) := by
  obtain ⟨fd, Fd⟩ := T.def_ 2 (d := dd_show) rfl
  exact fng_of (N := N_show) Fd sc_show (FunD.bindsN Fd fun _ _ _ _ _ _ us hl => match us, hl with | [_], _ => rfl) (fun cdv A outer s e0 H E B tk => (dss_cons (ds_if (db_cmp (opd_eq B.hu64) (de_ix (ixd_all B.hu) (de_var 0) de_int (fun _ _ => rfl)) de_str (nomark _)) (dss_one (ds_ret (de_op opd_add de_str (de_callTy cd_str rfl (T.free 1) (by decide +kernel) (da_cons (de_ix (ixd_all B.hu) (de_var 0) de_int (fun _ _ => rfl)) da_nil))))) dss_nil) (dss_cons (ds_if (db_cmp (opd_eq B.hu64) (de_callB cd_len rfl (T.free 2) (by decide +kernel) (da_cons (de_ix (ixd_all B.hu) (de_var 0) de_int (fun _ _ => rfl)) da_nil)) de_int (nomark _)) (dss_one (ds_ret (de_ix (ixd_all B.hu) (de_var 0) de_int (fun _ _ => rfl)))) dss_nil) (dss_one (ds_ret (de_op opd_add (de_op opd_add (de_op opd_add (de_ix (ixd_all B.hu) (de_var 0) de_int (fun _ _ => rfl)) de_str) (de_join de_str (de_lc B.calm sc_show.nd (di_seq (de_ix (ixd_all B.hu) (de_var 0) de_int (fun _ _ => rfl))) (own := [("argument", 1)]) (blkOk_by (N := N_show) (sc := defScope s_show) (by decide +kernel)) rfl (fun _ _ _ _ _ => pg_name (i := 1) sc_show.nd rfl (Or.inl rfl)) (fun _ _ _ _ _ => dts_nil) (fun _ _ _ _ _ => (de_call h_show (B.blk) rfl (T.glo 3) (T.kp 2 (d := dd_show)) (da_cons (de_var 1) da_nil)))))) de_str))))))
theorem all_show (T : TT K mg) : ∀ n : Nat, FnG P w K mg base (0 + n) (He.ga K "show") 1 (m_show n)
  | 0 => fng_zero
  | n + 1 => by
    have ih := all_show T n
    exact st_show T (Nat.zero_le _) ih
theorem ok_show (T : TT K mg) (n : Nat) : FnG P w K mg base (0 + n) (He.ga K "show") 1 (m_show n) := (all_show T n)
def l1__law_draws : FS := (fSeq (fIfS (fTest (fB dGt (fVar 4) (fC (.int 0)))) (fApp 2 (fB dMod (fL dInt (fCons (fVar 4) fNil)) (fC (.int 1000000)))) fSkip) (fSet 4 (fB dFdiv (fVar 4) (fC (.int 1000000)))))
def l2__law_draws : FS := (fSeq (fSet 4 (fL dAbs (fCons (fB dIx (fVar 0) (fVar 3)) fNil))) (fIfS (fTest (fB dGe (fVar 4) (fB dPow (fC (.int 10)) (fC (.int 18))))) (fFor (fRange (fCons (fC (.int 20)) fNil)) (pName 5) l1__law_draws) (fSeq (fSet 6 (fB dMod (fL dInt (fCons (fB dAdd (fB dAdd (fB dMul (fVar 4) (fC (.int 48271))) (fB dMul (fVar 3) (fC (.int 7919)))) (fC (.int 1))) fNil)) (fC (.int 2147483647)))) (fApp 2 (fB dMod (fL dInt (fCons (fB dMod (fL dInt (fCons (fB dMul (fVar 6) (fVar 6)) fNil)) (fC (.int 2147483629))) fNil)) (fC (.int 1000000)))))))
def b__law_draws : FS := (fSeq (fNew 2 fNil) (fSeq (fFor (fRange (fCons (fL dMin2 (fCons (fL dLen (fCons (fVar 0) fNil)) (fCons (fC (.int 63)) fNil))) fNil)) (pName 3) l2__law_draws) (fFrz 2 (fRet (fSl (fB dAdd (fVar 2) (fB dMul (fLst (fCons (fC (.int 0)) fNil)) (fVar 1))) fNo (fSome (fVar 1)))))))
def m__law_draws : List D → R D := runD 7 b__law_draws
theorem ok__law_draws (T : TT K mg) : FnG P w K mg base 1 (He.ga K "_law_draws") 2 m__law_draws := by
  obtain ⟨fd, Fd⟩ := T.def_ 3 (d := dd__law_draws) rfl
  exact fng_of (N := N__law_draws) Fd sc__law_draws (FunD.bindsN Fd fun _ _ _ _ _ _ us hl => match us, hl with | [_, _], _ => rfl) (fun cdv A outer s e0 H E B tk => (dss_cons (ds_new (i := 2) sc__law_draws.nd rfl (by first | exact .inl rfl | exact .inr rfl) da_nil) (dss_cons (ds_for B.own B.calm (di_range1 rfl (T.free 5) (da_cons (de_callB (cd_min2 B.calm) rfl (T.free 4) (by decide +kernel) (da_cons (de_callB cd_len rfl (T.free 2) (by decide +kernel) (da_cons (de_var 0) da_nil)) (da_cons de_int da_nil))) da_nil)) (dg_name 3 sc__law_draws.nd rfl (by first | exact .inl rfl | exact .inr rfl)) (dss_cons (ds_set (i := 4) sc__law_draws.nd rfl (by first | exact .inl rfl | exact .inr rfl) (de_callB cd_abs rfl (T.free 6) (by decide +kernel) (da_cons (de_ix (ixd_all B.hu) (de_var 0) (de_var 3) (fun _ _ => rfl)) da_nil))) (dss_one (ds_if (db_cmp opd_ge (de_var 4) (de_op opd_pow de_int de_int) (nomark _)) (dss_one (ds_for B.own B.calm (di_range1 rfl (T.free 5) (da_cons de_int da_nil)) (dg_name 5 sc__law_draws.nd rfl (by first | exact .inl rfl | exact .inr rfl)) (dss_cons (ds_if (db_cmp opd_gt (de_var 4) de_int (nomark _)) (dss_one (ds_app (i := 2) (fun _ h => pe_bm PySem.F.plainAttrs_list PySem.F.slot_list_append PySem.F.type_list_append mt_append (pv 2) h) (de_op opd_mod (de_callTy cd_int rfl (T.free 7) (by decide +kernel) (da_cons (de_var 4) da_nil)) de_int))) dss_nil) (dss_one (ds_set (i := 4) sc__law_draws.nd rfl (by first | exact .inl rfl | exact .inr rfl) (de_op opd_fdiv (de_var 4) de_int)))))) (dss_cons (ds_set (i := 6) sc__law_draws.nd rfl (by first | exact .inl rfl | exact .inr rfl) (de_op opd_mod (de_callTy cd_int rfl (T.free 7) (by decide +kernel) (da_cons (de_op opd_add (de_op opd_add (de_op opd_mul (de_var 4) de_int) (de_op opd_mul (de_var 3) de_int)) de_int) da_nil)) de_int)) (dss_one (ds_app (i := 2) (fun _ h => pe_bm PySem.F.plainAttrs_list PySem.F.slot_list_append PySem.F.type_list_append mt_append (pv 2) h) (de_op opd_mod (de_callTy cd_int rfl (T.free 7) (by decide +kernel) (da_cons (de_op opd_mod (de_callTy cd_int rfl (T.free 7) (by decide +kernel) (da_cons (de_op opd_mul (de_var 6) (de_var 6)) da_nil)) de_int) da_nil)) de_int)))))))) (dss_frz 2 (dss_one (ds_ret (de_slice (de_op opd_add (de_var 2) (de_op opd_mul (de_lst (da_cons de_int da_nil)) (de_var 1))) do_no (do_some (de_var 1)))))))))
def l1__law_name : FS := (fSeq (fSet 0 (fB dFdiv (fVar 0) (fC (.int 9)))) (fSet 1 (fB dAdd (fVar 1) (fB dIx (fC (.str "abm")) (fB dMod (fL dInt (fCons (fVar 0) fNil)) (fC (.int 3)))))))
def b__law_name : FS := (fSeq (fSet 1 (fB dIx (fC (.str "abm")) (fB dMod (fL dInt (fCons (fVar 0) fNil)) (fC (.int 3))))) (fSeq (fFor (fRange (fCons (fB dMod (fL dInt (fCons (fB dFdiv (fVar 0) (fC (.int 3))) fNil)) (fC (.int 3))) fNil)) (pName 2) l1__law_name) (fRet (fVar 1))))
def m__law_name : List D → R D := runD 3 b__law_name
theorem ok__law_name (T : TT K mg) : FnG P w K mg base 1 (He.ga K "_law_name") 1 m__law_name := by
  obtain ⟨fd, Fd⟩ := T.def_ 4 (d := dd__law_name) rfl
  exact fng_of (N := N__law_name) Fd sc__law_name (FunD.bindsN Fd fun _ _ _ _ _ _ us hl => match us, hl with | [_], _ => rfl) (fun cdv A outer s e0 H E B tk => (dss_cons (ds_set (i := 1) sc__law_name.nd rfl (by first | exact .inl rfl | exact .inr rfl) (de_ix (ixd_all B.hu) de_str (de_op opd_mod (de_callTy cd_int rfl (T.free 7) (by decide +kernel) (da_cons (de_var 0) da_nil)) de_int) (fun _ _ => rfl))) (dss_cons (ds_for B.own B.calm (di_range1 rfl (T.free 5) (da_cons (de_op opd_mod (de_callTy cd_int rfl (T.free 7) (by decide +kernel) (da_cons (de_op opd_fdiv (de_var 0) de_int) da_nil)) de_int) da_nil)) (dg_name 2 sc__law_name.nd rfl (by first | exact .inl rfl | exact .inr rfl)) (dss_cons (ds_set (i := 0) sc__law_name.nd rfl (by first | exact .inl rfl | exact .inr rfl) (de_op opd_fdiv (de_var 0) de_int)) (dss_one (ds_set (i := 1) sc__law_name.nd rfl (by first | exact .inl rfl | exact .inr rfl) (de_op opd_add (de_var 1) (de_ix (ixd_all B.hu) de_str (de_op opd_mod (de_callTy cd_int rfl (T.free 7) (by decide +kernel) (da_cons (de_var 0) da_nil)) de_int) (fun _ _ => rfl))))))) (dss_one (ds_ret (de_var 1))))))
def l1_law : FS := (fSeq (fSet 3 (fB dMod (fL dInt (fCons (fVar 2) fNil)) (fC (.int 4)))) (fSeq (fSet 4 (fCall m__law_name (fCons (fB dFdiv (fVar 2) (fC (.int 4))) fNil))) (fSeq (fSet 5 (fSlOw 1 (fSome (fU dNeg (fC (.int 1)))) fNo)) (fSeq (fSet 6 (fSlOw 1 (fSome (fU dNeg (fC (.int 2)))) (fSome (fU dNeg (fC (.int 1)))))) (fIfS (fAndB (fTest (fB dEq (fVar 3) (fC (.int 3)))) (fAndB (fTest (fB dEq (fL dLen (fCons (fVar 6) fNil)) (fC (.int 1)))) (fTest (fB dLt (fL dMax2 (fCons (fB dIx (fB dIx (fVar 5) (fC (.int 0))) (fC (.int 2))) (fCons (fB dIx (fB dIx (fVar 6) (fC (.int 0))) (fC (.int 2))) fNil))) (fC (.int 20)))))) (fSeq (fPop 7 1) (fSeq (fPop 8 1) (fApp 1 (fLst (fCons (fCall m_call (fCons (fVar 4) (fCons (fB dIx (fVar 8) (fC (.int 0))) (fCons (fB dIx (fVar 7) (fC (.int 0))) fNil)))) (fCons (fB dAdd (fB dAdd (fB dAdd (fB dAdd (fB dAdd (fVar 4) (fC (.str "("))) (fB dIx (fVar 8) (fC (.int 1)))) (fC (.str ","))) (fB dIx (fVar 7) (fC (.int 1)))) (fC (.str ")"))) (fCons (fB dAdd (fC (.int 1)) (fL dMax2 (fCons (fB dIx (fVar 8) (fC (.int 2))) (fCons (fB dIx (fVar 7) (fC (.int 2))) fNil)))) fNil))))))) (fIfS (fAndB (fTest (fB dEq (fVar 3) (fC (.int 2)))) (fAndB (fTest (fB dEq (fL dLen (fCons (fVar 5) fNil)) (fC (.int 1)))) (fTest (fB dLt (fB dIx (fB dIx (fVar 5) (fC (.int 0))) (fC (.int 2))) (fC (.int 20)))))) (fSeq (fPop 9 1) (fApp 1 (fLst (fCons (fCall m_call (fCons (fVar 4) (fCons (fB dIx (fVar 9) (fC (.int 0))) fNil))) (fCons (fB dAdd (fB dAdd (fB dAdd (fVar 4) (fC (.str "("))) (fB dIx (fVar 9) (fC (.int 1)))) (fC (.str ")"))) (fCons (fB dAdd (fC (.int 1)) (fB dIx (fVar 9) (fC (.int 2)))) fNil)))))) (fIfS (fTest (fB dEq (fVar 3) (fC (.int 1)))) (fApp 1 (fLst (fCons (fCall m_call (fCons (fVar 4) fNil)) (fCons (fVar 4) (fCons (fC (.int 1)) fNil))))) (fSeq (fSet 10 (fB dFdiv (fVar 2) (fC (.int 4)))) (fSeq (fIfS (fTest (fB dEq (fB dMod (fL dInt (fCons (fVar 10) fNil)) (fC (.int 4))) (fC (.int 1)))) (fSet 10 (fB dMul (fVar 10) (fB dPow (fC (.int 10)) (fC (.int 35))))) fSkip) (fApp 1 (fLst (fCons (fCall m_item (fCons (fVar 10) fNil)) (fCons (fB dAdd (fC (.str "x")) (fL dStr (fCons (fVar 10) fNil))) (fCons (fC (.int 0)) fNil))))))))))))))
def l2_law : FS := (fSeq (fSet 12 (fCall (m_show 60) (fCons (fB dIx (fVar 11) (fC (.int 0))) fNil))) (fIfS (fOrB (fNotB (fTest (fU (dIsi "str") (fVar 12)))) (fTest (fB dNe (fVar 12) (fB dIx (fVar 11) (fC (.int 1)))))) (fRet (fC (.bl false))) fSkip))
def b_law : FS := (fSeq (fNew 1 fNil) (fSeq (fFor (fItems (fCall m__law_draws (fCons (fVar 0) (fCons (fC (.int 63)) fNil)))) (pName 2) l1_law) (fFrz 1 (fSeq (fFor (fItems (fVar 1)) (pName 11) l2_law) (fRet (fC (.bl true)))))))
def m_law : List D → R D := runD 13 b_law
theorem ok_law (T : TT K mg) : ∃ fd : FuncData, (∀ (s : Shared) (v : Value), BindsTo s fd ⟨[v], []⟩ [("_law_script", v)]) ∧ ∀ base : Heap, FnOk P w K mg base (L2.CX P w) 61 (He.ga K "law") fd P_law (spD K 1 m_law) := by
  obtain ⟨fd, Fd⟩ := T.def_ 5 (d := dd_law) rfl
  have b := FunD.bindsA (ps := P_law) Fd fun _ _ _ _ _ _ us hl => match us, hl with | [_], _ => rfl
  refine ⟨fd, fun s v => b s [v] rfl, fun base => ?_⟩
  exact fnok_of (N := N_law) Fd sc_law (fun cdv A outer s e0 H E B tk => (dss_cons (ds_new (i := 1) sc_law.nd rfl (by first | exact .inl rfl | exact .inr rfl) da_nil) (dss_cons (ds_for B.own B.calm (di_seq (de_call ((ok__law_draws T).mono (by decide)) B rfl (T.glo 8) (T.kp 3 (d := dd__law_draws)) (da_cons (de_var 0) (da_cons de_int da_nil)))) (dg_name 2 sc_law.nd rfl (by first | exact .inl rfl | exact .inr rfl)) (dss_cons (ds_set (i := 3) sc_law.nd rfl (by first | exact .inl rfl | exact .inr rfl) (de_op opd_mod (de_callTy cd_int rfl (T.free 7) (by decide +kernel) (da_cons (de_var 2) da_nil)) de_int)) (dss_cons (ds_set (i := 4) sc_law.nd rfl (by first | exact .inl rfl | exact .inr rfl) (de_call ((ok__law_name T).mono (by decide)) B rfl (T.glo 9) (T.kp 4 (d := dd__law_name)) (da_cons (de_op opd_fdiv (de_var 2) de_int) da_nil))) (dss_cons (ds_set (i := 5) sc_law.nd rfl (by first | exact .inl rfl | exact .inr rfl) (de_sliceOw 1 (do_some (de_un und_neg de_int)) do_no)) (dss_cons (ds_set (i := 6) sc_law.nd rfl (by first | exact .inl rfl | exact .inr rfl) (de_sliceOw 1 (do_some (de_un und_neg de_int)) (do_some (de_un und_neg de_int)))) (dss_one (ds_if (db_of (dw_and (db_cmp (opd_eq B.hu64) (de_var 3) de_int (nomark _)) (dw_and (db_cmp (opd_eq B.hu64) (de_callB cd_len rfl (T.free 2) (by decide +kernel) (da_cons (de_var 6) da_nil)) de_int (nomark _)) (dw_and1 (db_cmp opd_lt (de_callB (cd_max2 B.calm) rfl (T.free 10) (by decide +kernel) (da_cons (de_ix (ixd_all B.hu) (de_ix (ixd_all B.hu) (de_var 5) de_int (fun _ _ => rfl)) de_int (fun _ _ => rfl)) (da_cons (de_ix (ixd_all B.hu) (de_ix (ixd_all B.hu) (de_var 6) de_int (fun _ _ => rfl)) de_int (fun _ _ => rfl)) da_nil))) de_int (nomark _)))))) (dss_cons (ds_pop (i := 1) (j := 7) (pe_bm0 PySem.F.plainAttrs_list PySem.F.slot_list_pop PySem.F.type_list_pop mt_pop (pv 1)) sc_law.nd rfl (by first | exact .inl rfl | exact .inr rfl)) (dss_cons (ds_pop (i := 1) (j := 8) (pe_bm0 PySem.F.plainAttrs_list PySem.F.slot_list_pop PySem.F.type_list_pop mt_pop (pv 1)) sc_law.nd rfl (by first | exact .inl rfl | exact .inr rfl)) (dss_one (ds_app (i := 1) (fun _ h => pe_bm PySem.F.plainAttrs_list PySem.F.slot_list_append PySem.F.type_list_append mt_append (pv 1) h) (de_lst (da_cons (de_call (((ok_call T).mono (by decide)).at 3) B rfl (T.glo 11) (T.kp 1 (d := dd_call)) (da_cons (de_var 4) (da_cons (de_ix (ixd_all B.hu) (de_var 8) de_int (fun _ _ => rfl)) (da_cons (de_ix (ixd_all B.hu) (de_var 7) de_int (fun _ _ => rfl)) da_nil)))) (da_cons (de_op opd_add (de_op opd_add (de_op opd_add (de_op opd_add (de_op opd_add (de_var 4) de_str) (de_ix (ixd_all B.hu) (de_var 8) de_int (fun _ _ => rfl))) de_str) (de_ix (ixd_all B.hu) (de_var 7) de_int (fun _ _ => rfl))) de_str) (da_cons (de_op opd_add de_int (de_callB (cd_max2 B.calm) rfl (T.free 10) (by decide +kernel) (da_cons (de_ix (ixd_all B.hu) (de_var 8) de_int (fun _ _ => rfl)) (da_cons (de_ix (ixd_all B.hu) (de_var 7) de_int (fun _ _ => rfl)) da_nil)))) da_nil)))))))) (dss_one (ds_if (db_of (dw_and (db_cmp (opd_eq B.hu64) (de_var 3) de_int (nomark _)) (dw_and (db_cmp (opd_eq B.hu64) (de_callB cd_len rfl (T.free 2) (by decide +kernel) (da_cons (de_var 5) da_nil)) de_int (nomark _)) (dw_and1 (db_cmp opd_lt (de_ix (ixd_all B.hu) (de_ix (ixd_all B.hu) (de_var 5) de_int (fun _ _ => rfl)) de_int (fun _ _ => rfl)) de_int (nomark _)))))) (dss_cons (ds_pop (i := 1) (j := 9) (pe_bm0 PySem.F.plainAttrs_list PySem.F.slot_list_pop PySem.F.type_list_pop mt_pop (pv 1)) sc_law.nd rfl (by first | exact .inl rfl | exact .inr rfl)) (dss_one (ds_app (i := 1) (fun _ h => pe_bm PySem.F.plainAttrs_list PySem.F.slot_list_append PySem.F.type_list_append mt_append (pv 1) h) (de_lst (da_cons (de_call (((ok_call T).mono (by decide)).at 2) B rfl (T.glo 11) (T.kp 1 (d := dd_call)) (da_cons (de_var 4) (da_cons (de_ix (ixd_all B.hu) (de_var 9) de_int (fun _ _ => rfl)) da_nil))) (da_cons (de_op opd_add (de_op opd_add (de_op opd_add (de_var 4) de_str) (de_ix (ixd_all B.hu) (de_var 9) de_int (fun _ _ => rfl))) de_str) (da_cons (de_op opd_add de_int (de_ix (ixd_all B.hu) (de_var 9) de_int (fun _ _ => rfl))) da_nil))))))) (dss_one (ds_if (db_cmp (opd_eq B.hu64) (de_var 3) de_int (nomark _)) (dss_one (ds_app (i := 1) (fun _ h => pe_bm PySem.F.plainAttrs_list PySem.F.slot_list_append PySem.F.type_list_append mt_append (pv 1) h) (de_lst (da_cons (de_call (((ok_call T).mono (by decide)).at 1) B rfl (T.glo 11) (T.kp 1 (d := dd_call)) (da_cons (de_var 4) da_nil)) (da_cons (de_var 4) (da_cons de_int da_nil)))))) (dss_cons (ds_set (i := 10) sc_law.nd rfl (by first | exact .inl rfl | exact .inr rfl) (de_op opd_fdiv (de_var 2) de_int)) (dss_cons (ds_if (db_cmp (opd_eq B.hu64) (de_op opd_mod (de_callTy cd_int rfl (T.free 7) (by decide +kernel) (da_cons (de_var 10) da_nil)) de_int) de_int (nomark _)) (dss_one (ds_set (i := 10) sc_law.nd rfl (by first | exact .inl rfl | exact .inr rfl) (de_op opd_mul (de_var 10) (de_op opd_pow de_int de_int)))) dss_nil) (dss_one (ds_app (i := 1) (fun _ h => pe_bm PySem.F.plainAttrs_list PySem.F.slot_list_append PySem.F.type_list_append mt_append (pv 1) h) (de_lst (da_cons (de_call ((ok_item T).mono (by decide)) B rfl (T.glo 12) (T.kp 0 (d := dd_item)) (da_cons (de_var 10) da_nil)) (da_cons (de_op opd_add de_str (de_callTy cd_str rfl (T.free 1) (by decide +kernel) (da_cons (de_var 10) da_nil))) (da_cons de_int da_nil))))))))))))))))))) (dss_frz 1 (dss_cons (ds_for B.own B.calm (di_seq (de_var 1)) (dg_name 11 sc_law.nd rfl (by first | exact .inl rfl | exact .inr rfl)) (dss_cons (ds_set (i := 12) sc_law.nd rfl (by first | exact .inl rfl | exact .inr rfl) (de_call ((ok_show T 60).mono (by decide)) B rfl (T.glo 3) (T.kp 2 (d := dd_show)) (da_cons (de_ix (ixd_all B.hu) (de_var 11) de_int (fun _ _ => rfl)) da_nil))) (dss_one (ds_if (db_of (dw_or (db_not (db_val (de_isi (T := "str") .str rfl (T.free 13) rfl (T.free 1) (by decide +kernel) (de_var 12)))) (dw_or1 (db_cmp (opd_ne B.hu64) (de_var 12) (de_ix (ixd_all B.hu) (de_var 11) de_int (fun _ _ => rfl)) (nomark _))))) (dss_one (ds_ret de_bl)) dss_nil)))) (dss_one (ds_ret de_bl)))))))
end
end LW
/-! MBase: how the mirrors are reckoned with. -/
namespace DL
open PySem PySem.Spec PyProof.Rows
theorem loopF_nil {put : FP} {body : FS} {δ : DSt} : loopF put body [] δ = .nx δ := rfl
/-- a loop that runs through, by what holds of the items done and the state -/
theorem loopF_ind {put : FP} {body : FS} {items : List D} {δ : DSt} (I : List D → DSt → Prop) (h0 : I [] δ)
    (step : ∀ pre d post δ, items = pre ++ d :: post → I pre δ → ∃ δ1, put δ d = some δ1 ∧ ∃ δ2, (body δ1 = .nx δ2 ∨ body δ1 = .ct δ2) ∧ I (pre ++ [d]) δ2) : ∃ δ', loopF put body items δ = .nx δ' ∧ I items δ' := by
  have go : ∀ (post pre : List D) (δ : DSt), items = pre ++ post → I pre δ → ∃ δ', loopF put body post δ = .nx δ' ∧ I items δ' := by
    intro post
    induction post with
    | nil => intro pre δ e h; rw [List.append_nil] at e; subst e; exact ⟨δ, rfl, h⟩
    | cons d post ih =>
      intro pre δ e h
      obtain ⟨δ1, h1, δ2, h2, h3⟩ := step pre d post δ e h
      obtain ⟨δ', h4, h5⟩ := ih (pre ++ [d]) δ2 (by rw [e, List.append_assoc]; rfl) h3
      refine ⟨δ', ?_, h5⟩
      unfold loopF
      rw [h1]
      rcases h2 with h2 | h2 <;> (simp only [h2]; exact h4)
  exact go items [] δ rfl h0
/-- over ints lo, lo + 1, .. -/
theorem loopF_range {put : FP} {body : FS} {lo : Int} {n : Nat} {δ : DSt} (I : Nat → DSt → Prop) (h0 : I 0 δ)
    (step : ∀ (k : Nat) δ, k < n → I k δ → ∃ δ1, put δ (.int (lo + k)) = some δ1 ∧ ∃ δ2, (body δ1 = .nx δ2 ∨ body δ1 = .ct δ2) ∧ I (k + 1) δ2) : ∃ δ', loopF put body (dInts lo n) δ = .nx δ' ∧ I n δ' := by
  have hl : (dInts lo n).length = n := by simp [dInts]
  obtain ⟨δ', h1, h2⟩ := loopF_ind (put := put) (body := body) (items := dInts lo n) (δ := δ) (fun pre δ => I pre.length δ) h0 (fun pre d post δ e h => by
    have hk : pre.length < n := by
      have := congrArg List.length e
      rw [hl] at this
      simp only [List.length_append, List.length_cons] at this
      omega
    have hd : d = .int (lo + (pre.length : Nat)) := by
      have e1 : (dInts lo n)[pre.length]? = some d := by rw [e]; simp
      simp [dInts, hk] at e1
      exact e1.symm
    obtain ⟨δ1, h1, δ2, h2, h3⟩ := step pre.length δ hk h
    exact ⟨δ1, by rw [hd]; exact h1, δ2, h2, by simpa using h3⟩)
  rw [hl] at h2
  exact ⟨δ', h1, h2⟩
/-! slices -/
theorem cut_to {α : Type} (xs : List α) (k : Nat) : cut xs none (some (k : Int)) = xs.take k := by
  unfold cut
  rw [HT.sIx_none, HT.sIx_nat, List.drop_zero, Nat.sub_zero]
  by_cases h : k ≤ xs.length
  · rw [Nat.min_eq_left h]
  · rw [Nat.min_eq_right (by omega), List.take_of_length_le (Nat.le_refl _), List.take_of_length_le (by omega)]
theorem cut_from {α : Type} (xs : List α) (k : Nat) : cut xs (some (k : Int)) none = xs.drop k := by
  unfold cut
  rw [HT.sIx_none, HT.sIx_nat, List.take_of_length_le (by rw [List.length_drop]; exact Nat.le_refl _)]
  by_cases h : k ≤ xs.length
  · rw [Nat.min_eq_left h]
  · rw [Nat.min_eq_right (by omega), List.drop_of_length_le (Nat.le_refl _), List.drop_of_length_le (by omega)]
theorem cut_all {α : Type} (xs : List α) : cut xs none none = xs := by
  unfold cut
  rw [HT.sIx_none, HT.sIx_none, List.drop_zero, Nat.sub_zero, List.take_length]
theorem cut_tl {α : Type} (x : α) (xs : List α) : cut (x :: xs) (some 1) none = xs := cut_from (x :: xs) 1
theorem map_rep {α β : Type} (f : α → β) (n : Nat) (a : α) : List.replicate n (f a) = (List.replicate n a).map f := List.map_replicate.symm
theorem flat_one {α : Type} (n : Nat) (a : α) : (List.replicate n [a]).flatten = List.replicate n a := by
  induction n with
  | zero => rfl
  | succ n ih => rw [List.replicate_succ, List.flatten_cons, ih]; rfl
/-! loops, step by step -/
theorem loopF_nx {put : FP} {body : FS} {d : D} {ds : List D} {δ δ1 δ2 : DSt} (h1 : put δ d = some δ1) (h2 : body δ1 = .nx δ2) : loopF put body (d :: ds) δ = loopF put body ds δ2 := by
  show (match put δ d with | none => O.bad | some δ1 => _) = _
  rw [h1]
  simp only [h2]
theorem loopF_rt {put : FP} {body : FS} {d z : D} {ds : List D} {δ δ1 : DSt} (h1 : put δ d = some δ1) (h2 : body δ1 = .rt z) : loopF put body (d :: ds) δ = .rt z := by
  show (match put δ d with | none => O.bad | some δ1 => _) = _
  rw [h1]
  simp only [h2]
/-! what == says -/
theorem dEqB_ss {x y : Str} : dEqB (.str x) (.str y) = some (x == y) := rfl
theorem dEqB_ii {i j : Int} : dEqB (.int i) (.int j) = some (i == j) := rfl
/-- data that == reads, at most n deep -/
def Eqb (n : Nat) (d : D) : Prop := ∃ p, d.py = some p ∧ p.canLay0 = true ∧ p.depth ≤ n
def EqbL (n : Nat) (ds : List D) : Prop := ∃ ps, pyL ds = some ps ∧ PyData.canLayAll0 ps = true ∧ PyData.depthAll ps ≤ n
theorem Eqb.int (n : Nat) (i : Int) : Eqb n (.int i) := ⟨_, by unfold D.py; rfl, by simp [PyData.canLay0], by simp [PyData.depth]⟩
theorem Eqb.non (n : Nat) : Eqb n .non := ⟨_, by unfold D.py; rfl, by simp [PyData.canLay0], by simp [PyData.depth]⟩
theorem Eqb.bl (n : Nat) (b : Bool) : Eqb n (.bl b) := ⟨_, by unfold D.py; rfl, by simp [PyData.canLay0], by simp [PyData.depth]⟩
/-- texts of characters -/
abbrev Sok (x : Str) : Prop := PyData.strOk x = true
theorem Sok.app {x y : Str} (h : Sok x) (k : Sok y) : Sok (x ++ y) := by
  show (x.cps ++ y.cps).all _ = true
  rw [Array.all_append]
  exact Bool.and_eq_true_iff.mpr ⟨h, k⟩
theorem Eqb.str {n : Nat} {x : Str} (h : Sok x) : Eqb n (.str x) := ⟨_, by unfold D.py; rfl, by unfold PyData.canLay0; exact h, by simp [PyData.depth]⟩
theorem EqbL.nil (n : Nat) : EqbL n [] := ⟨[], by unfold pyL; rfl, by simp [PyData.canLayAll0], by simp [PyData.depthAll]⟩
theorem EqbL.cons {n : Nat} {d : D} {ds : List D} (h : Eqb n d) (k : EqbL n ds) : EqbL n (d :: ds) := by
  obtain ⟨p, h1, h2, h3⟩ := h
  obtain ⟨ps, k1, k2, k3⟩ := k
  refine ⟨p :: ps, by unfold pyL; rw [h1, k1], by unfold PyData.canLayAll0; rw [h2, k2]; rfl, ?_⟩
  unfold PyData.depthAll
  omega
theorem EqbL.of {n : Nat} {ds : List D} (h : ∀ d ∈ ds, Eqb n d) : EqbL n ds := by
  induction ds with
  | nil => exact .nil n
  | cons d ds ih => exact .cons (h d (List.mem_cons_self)) (ih fun e he => h e (List.mem_cons_of_mem _ he))
theorem Eqb.tup {n : Nat} {ds : List D} (h : EqbL n ds) : Eqb (n + 1) (.tup ds) := by
  obtain ⟨ps, k1, k2, k3⟩ := h
  refine ⟨.tuple ps, by unfold D.py; rw [k1]; rfl, by unfold PyData.canLay0; exact k2, ?_⟩
  unfold PyData.depth
  omega
theorem Eqb.lst {n : Nat} {ds : List D} (h : EqbL n ds) : Eqb (n + 1) (.lst ds) := by
  obtain ⟨ps, k1, k2, k3⟩ := h
  refine ⟨.list ps, by unfold D.py; rw [k1]; rfl, by unfold PyData.canLay0; exact k2, ?_⟩
  unfold PyData.depth
  omega
theorem Eqb.mono {n m : Nat} {d : D} (h : Eqb n d) (l : n ≤ m) : Eqb m d := by
  obtain ⟨p, h1, h2, h3⟩ := h
  exact ⟨p, h1, h2, by omega⟩
theorem Eqb.ints (n : Nat) (is : List Int) : Eqb (n + 1) (.lst (is.map .int)) := Eqb.lst (.of fun d hd => by
  obtain ⟨i, _, rfl⟩ := List.mem_map.mp hd
  exact .int n i)
theorem Eqb.strs {n : Nat} {xs : List Str} (h : ∀ x ∈ xs, Sok x) : Eqb (n + 1) (.lst (xs.map .str)) := Eqb.lst (.of fun d hd => by
  obtain ⟨i, hi, rfl⟩ := List.mem_map.mp hd
  exact .str (h i hi))
/-- equal to itself -/
theorem dEqB_refl {d : D} (h : Eqb 64 d) : dEqB d d = some true := by
  obtain ⟨p, h1, h2, h3⟩ := h
  have key : dEqP d d = some true := by
    unfold dEqP
    rw [h1]
    have s : SeqAt.shaped p = true := Bool.and_eq_true_iff.mpr ⟨h2, decide_eq_true h3⟩
    show (if (SeqAt.shaped p && SeqAt.shaped p) = true then _ else _) = _
    rw [s, SeqAt.eqv_refl p h2]
    rfl
  cases d with
  | str x => exact congrArg some (beq_self_eq_true x)
  | int i => exact congrArg some (beq_self_eq_true i)
  | _ => exact key
theorem dNe_refl {d : D} (h : Eqb 64 d) : dNe d d = some (.bl false) := by
  unfold dNe
  rw [dEqB_refl h]
  rfl
theorem dEq_refl {d : D} (h : Eqb 64 d) : dEq d d = some (.bl true) := by
  unfold dEq
  rw [dEqB_refl h]
  rfl
/-! in, for texts -/
theorem flat_strs (xs : List Str) : (xs.map D.str).all D.flat = true := by
  rw [List.all_map]
  exact List.all_eq_true.mpr fun _ _ => rfl
theorem inB_strs (x : Str) (xs : List Str) : inB (.str x) (xs.map .str) = decide (x ∈ xs) := by
  unfold inB
  rw [List.any_map]
  induction xs with
  | nil => rfl
  | cons y ys ih =>
    rw [List.any_cons, ih]
    show ((y == x) || _) = _
    by_cases h : y = x
    · subst h; simp
    · have h2 : x ≠ y := fun e => h e.symm
      simp [h, h2]
theorem dInB_strs {x : Str} {xs : List Str} : dInB (.str x) (.lst (xs.map .str)) = some (decide (x ∈ xs)) := by
  show (if (true && (xs.map D.str).all D.flat) = true then some (inB (.str x) (xs.map .str)) else none) = _
  rw [flat_strs, inB_strs]
  rfl
theorem dInB_strsT {x : Str} {xs : List Str} : dInB (.str x) (.tup (xs.map .str)) = some (decide (x ∈ xs)) := by
  show (if (true && (xs.map D.str).all D.flat) = true then some (inB (.str x) (xs.map .str)) else none) = _
  rw [flat_strs, inB_strs]
  rfl
theorem cut_m1_0 {α : Type} : cut ([] : List α) (some (-1)) none = [] := rfl
theorem cut_m1 {α : Type} (xs : List α) (a : α) : cut (xs ++ [a]) (some (-1)) none = [a] := by
  have e : HT.sIx (xs ++ [a]).length 0 (some (-1)) = xs.length := by
    unfold HT.sIx
    simp only [List.length_append, List.length_cons, List.length_nil]
    split <;> omega
  unfold cut
  rw [e, HT.sIx_none, List.drop_left]
  simp
theorem cut_m2_0 {α : Type} : cut ([] : List α) (some (-2)) (some (-1)) = [] := rfl
theorem cut_m2_1 {α : Type} (a : α) : cut [a] (some (-2)) (some (-1)) = [] := rfl
theorem cut_m2 {α : Type} (xs : List α) (a b : α) : cut (xs ++ [a, b]) (some (-2)) (some (-1)) = [a] := by
  have e : HT.sIx (xs ++ [a, b]).length 0 (some (-2)) = xs.length := by
    unfold HT.sIx
    simp only [List.length_append, List.length_cons, List.length_nil]
    split <;> omega
  have e2 : HT.sIx (xs ++ [a, b]).length (xs ++ [a, b]).length (some (-1)) = xs.length + 1 := by
    unfold HT.sIx
    simp only [List.length_append, List.length_cons, List.length_nil]
    split <;> omega
  unfold cut
  rw [e, e2, List.drop_left, Nat.add_sub_cancel_left]
  rfl
theorem dIx_sC {z : Str} {i : Int} (h : okLe z.length = true) : dIx (.str z) (.int i) = (L2.atI z.cps.toList i).map (fun c => .str ⟨#[c]⟩) := if_pos h
/-- an index into a text of three -/
theorem abm {z : Str} {c0 c1 c2 : Nat} (e : z = ⟨#[c0, c1, c2]⟩) (i : Int) (h0 : 0 ≤ i) (h1 : i < 3) : ∃ c : Nat, (c = c0 ∨ c = c1 ∨ c = c2) ∧ dIx (.str z) (.int i) = some (.str ⟨#[c]⟩) := by
  subst e
  have hi : i = 0 ∨ i = 1 ∨ i = 2 := by omega
  have ok : okLe (⟨#[c0, c1, c2]⟩ : Str).length = true := okLe_by (by show 3 ≤ _; decide)
  rcases hi with rfl | rfl | rfl
  · exact ⟨c0, .inl rfl, (dIx_sC ok).trans rfl⟩
  · exact ⟨c1, .inr (.inl rfl), (dIx_sC ok).trans rfl⟩
  · exact ⟨c2, .inr (.inr rfl), (dIx_sC ok).trans rfl⟩
end DL

/-! DEval: the mirrors' equations, each applied to what it is reckoned at. -/
namespace DL
open PySem PySem.Spec PyProof.Rows

theorem fVar_0 {d : D} {r : DSt} : fVar 0 (.fz d :: r) = .ok d := rfl
theorem fVar_s {i : Nat} {s : DS} {r : DSt} : fVar (i + 1) (s :: r) = fVar i r := rfl
theorem fOwn_0 {ds : List D} {r : DSt} : fOwn 0 (.ow ds :: r) = .ok ds := rfl
theorem fOwn_s {i : Nat} {s : DS} {r : DSt} : fOwn (i + 1) (s :: r) = fOwn i r := rfl
theorem fC_e {d : D} {δ : DSt} : fC d δ = .ok d := rfl
theorem fU_e {F : D → Option D} {f : FE} {δ : DSt} : fU F f δ = (f δ).bind fun x => R.of (F x) := rfl
theorem fB_e {F : D → D → Option D} {f g : FE} {δ : DSt} : fB F f g δ = (f δ).bind fun x => (g δ).bind fun y => R.of (F x y) := rfl
theorem fNil_e {δ : DSt} : fNil δ = .ok [] := rfl
theorem fCons_e {f : FE} {fl : FL} {δ : DSt} : fCons f fl δ = (f δ).bind fun x => (fl δ).bind fun xs => .ok (x :: xs) := rfl
theorem fL_e {F : List D → Option D} {fl : FL} {δ : DSt} : fL F fl δ = (fl δ).bind fun xs => R.of (F xs) := rfl
theorem fCall_e {F : List D → R D} {fl : FL} {δ : DSt} : fCall F fl δ = (fl δ).bind F := rfl
theorem fTup_e {fl : FL} {δ : DSt} : fTup fl δ = (fl δ).bind fun xs => .ok (.tup xs) := rfl
theorem fLst_e {fl : FL} {δ : DSt} : fLst fl δ = (fl δ).bind fun xs => .ok (.lst xs) := rfl
/-- by a test's answer -/
def rIf {α β : Type} (r : R Bool) (f g : α → R β) (a : α) : R β := r.bind fun b => match b with
  | true => f a
  | false => g a
theorem rIf_t {α β : Type} {f g : α → R β} {a : α} : rIf (.ok true) f g a = f a := rfl
theorem rIf_f {α β : Type} {f g : α → R β} {a : α} : rIf (.ok false) f g a = g a := rfl
theorem fIf_e {c : FB} {f g : FE} {δ : DSt} : fIf c f g δ = rIf (c δ) f g δ := rfl
def tBl : D → R Bool
  | .bl b => .ok b
  | _ => .bad
theorem tBl_e {b : Bool} : tBl (.bl b) = .ok b := rfl
theorem fTest_e {f : FE} {δ : DSt} : fTest f δ = (f δ).bind tBl := by
  unfold fTest tBl
  cases f δ <;> rfl
def tTr : D → R Bool
  | .bl b => .ok b
  | .lst xs => .ok (!xs.isEmpty)
  | .tup xs => .ok (!xs.isEmpty)
  | _ => .bad
theorem fTru_e {f : FE} {δ : DSt} : fTru f δ = (f δ).bind tTr := by
  unfold fTru tTr
  cases f δ <;> rfl
theorem fNotB_e {c : FB} {δ : DSt} : fNotB c δ = (c δ).bind fun b => .ok (!b) := rfl
theorem fAndB_e {c d : FB} {δ : DSt} : fAndB c d δ = rIf (c δ) d (fun _ => .ok false) δ := rfl
theorem fOrB_e {c d : FB} {δ : DSt} : fOrB c d δ = rIf (c δ) (fun _ => .ok true) d δ := rfl
theorem fVal_e {c : FB} {δ : DSt} : fVal c δ = (c δ).bind fun b => .ok (.bl b) := rfl
theorem fAnd_e {f g : FE} {δ : DSt} : fAnd f g δ = rIf ((f δ).bind tBl) g (fun _ => .ok (.bl false)) δ := by
  unfold fAnd rIf tBl
  cases f δ with
  | ok d => cases d <;> first | rfl | (rename_i b; cases b <;> rfl)
  | exc n xs => rfl
  | bad => rfl
theorem fOr_e {f g : FE} {δ : DSt} : fOr f g δ = rIf ((f δ).bind tBl) (fun _ => .ok (.bl true)) g δ := by
  unfold fOr rIf tBl
  cases f δ with
  | ok d => cases d <;> first | rfl | (rename_i b; cases b <;> rfl)
  | exc n xs => rfl
  | bad => rfl
theorem fNo_e {δ : DSt} : fNo δ = .ok none := rfl
def tInt : D → R (Option Int)
  | .int i => .ok (some i)
  | _ => .bad
theorem tInt_e {i : Int} : tInt (.int i) = .ok (some i) := rfl
theorem fSome_e {f : FE} {δ : DSt} : fSome f δ = (f δ).bind tInt := by
  unfold fSome tInt
  cases f δ <;> rfl
theorem fSl_e {f : FE} {l h : FO} {δ : DSt} : fSl f l h δ = (f δ).bind fun d => (l δ).bind fun lo => (h δ).bind fun hi => R.of (dCut d lo hi) := rfl
theorem fSlOw_e {i : Nat} {l h : FO} {δ : DSt} : fSlOw i l h δ = (fOwn i δ).bind fun ds => (l δ).bind fun lo => (h δ).bind fun hi => .ok (.lst (cut ds lo hi)) := rfl
theorem fLenOw_e {i : Nat} {δ : DSt} : fLenOw i δ = (fOwn i δ).bind fun ds => .ok (.int ds.length) := rfl
theorem fIxOw_e {i : Nat} {f : FE} {δ : DSt} : fIxOw i f δ = (fOwn i δ).bind fun ds => (f δ).bind fun d => R.of (dIx (.lst ds) d) := rfl
theorem fInOw_e {neg : Bool} {i : Nat} {f : FE} {δ : DSt} : fInOw neg f i δ = (f δ).bind fun d => (fOwn i δ).bind fun ds => R.of ((dInB d (.lst ds)).map fun b => .bl (if neg then !b else b)) := by
  unfold fInOw
  cases f δ with
  | ok d =>
    cases fOwn i δ with
    | ok ds =>
      have e : dInB d (.lst ds) = if (d.flat && ds.all D.flat) = true then some (inB d ds) else none := by cases d <;> rfl
      show (if (d.flat && ds.all D.flat) = true then R.ok (D.bl (if neg then !inB d ds else inB d ds)) else .bad) = R.of ((dInB d (.lst ds)).map _)
      rw [e]
      by_cases c : (d.flat && ds.all D.flat) = true
      · rw [if_pos c, if_pos c]; rfl
      · rw [if_neg c, if_neg c]; rfl
    | exc n xs => rfl
    | bad => rfl
  | exc n xs => rfl
  | bad => rfl
/-! statements -/
def O.thn (o : O) (G : FS) : O := match o with
  | .nx δ => G δ
  | o => o
theorem thn_nx {δ : DSt} {G : FS} : (O.nx δ).thn G = G δ := rfl
theorem thn_rt {d : D} {G : FS} : (O.rt d).thn G = .rt d := rfl
theorem thn_bk {δ : DSt} {G : FS} : (O.bk δ).thn G = .bk δ := rfl
theorem thn_ct {δ : DSt} {G : FS} : (O.ct δ).thn G = .ct δ := rfl
theorem thn_exc {n : Str} {xs : List D} {G : FS} : (O.exc n xs).thn G = .exc n xs := rfl
theorem thn_bad {G : FS} : O.bad.thn G = .bad := rfl
theorem fSeq_e {F G : FS} {δ : DSt} : fSeq F G δ = (F δ).thn G := by
  unfold fSeq O.thn
  cases F δ <;> rfl
def oIf (r : R Bool) (F G : FS) (δ : DSt) : O := O.on r fun b => match b with
  | true => F δ
  | false => G δ
theorem oIf_t {F G : FS} {δ : DSt} : oIf (.ok true) F G δ = F δ := rfl
theorem oIf_f {F G : FS} {δ : DSt} : oIf (.ok false) F G δ = G δ := rfl
theorem oIf_exc {n : Str} {xs : List D} {F G : FS} {δ : DSt} : oIf (.exc n xs) F G δ = .exc n xs := rfl
theorem fIfS_e {c : FB} {F G : FS} {δ : DSt} : fIfS c F G δ = oIf (c δ) F G δ := rfl
theorem fSkip_e {δ : DSt} : fSkip δ = .nx δ := rfl
theorem fRet_e {f : FE} {δ : DSt} : fRet f δ = O.on (f δ) O.rt := rfl
theorem fExp_e {f : FE} {δ : DSt} : fExp f δ = O.on (f δ) fun _ => .nx δ := rfl
theorem fSet_e {i : Nat} {f : FE} {δ : DSt} : fSet i f δ = O.on (f δ) fun d => .nx (δ.set i (.fz d)) := rfl
theorem fNew_e {i : Nat} {fl : FL} {δ : DSt} : fNew i fl δ = O.on (fl δ) fun ds => .nx (δ.set i (.ow ds)) := rfl
def oApp (i : Nat) (δ : DSt) (ds : List D) (d : D) : O := if okLt ds.length = true then .nx (δ.set i (.ow (ds ++ [d]))) else .bad
theorem oApp_ok {i : Nat} {δ : DSt} {ds : List D} {d : D} (h : okLt ds.length = true) : oApp i δ ds d = .nx (δ.set i (.ow (ds ++ [d]))) := if_pos h
theorem fApp_e {i : Nat} {f : FE} {δ : DSt} : fApp i f δ = O.on (fOwn i δ) fun ds => O.on (f δ) fun d => oApp i δ ds d := rfl
def oExt (i : Nat) (δ : DSt) (ds : List D) (d : D) : O := match d with
  | .lst es => if okLe (ds.length + es.length) = true then .nx (δ.set i (.ow (ds ++ es))) else .bad
  | _ => .bad
theorem oExt_ok {i : Nat} {δ : DSt} {ds es : List D} (h : okLe (ds.length + es.length) = true) : oExt i δ ds (.lst es) = .nx (δ.set i (.ow (ds ++ es))) := if_pos h
theorem fExt_e {i : Nat} {f : FE} {δ : DSt} : fExt i f δ = O.on (fOwn i δ) fun ds => O.on (f δ) fun d => oExt i δ ds d := rfl
def oPop (j i : Nat) (δ : DSt) (ds : List D) : O := match ds.getLast? with
  | some d => .nx ((δ.set i (.ow ds.dropLast)).set j (.fz d))
  | none => .bad
theorem oPop_ok {j i : Nat} {δ : DSt} {ds : List D} {d : D} : oPop j i δ (ds ++ [d]) = .nx ((δ.set i (.ow ds)).set j (.fz d)) := by
  unfold oPop
  rw [List.getLast?_concat, List.dropLast_concat]
theorem fPop_e {j i : Nat} {δ : DSt} : fPop j i δ = O.on (fOwn i δ) fun ds => oPop j i δ ds := rfl
def oPut (i : Nat) (δ : DSt) (ds : List D) (d k : D) : O := match k with
  | .int n => match L2.ixN ds.length n with
    | some j => .nx (δ.set i (.ow (ds.set j d)))
    | none => .bad
  | _ => .bad
theorem fPut_e {i : Nat} {fk fe : FE} {δ : DSt} : fPut i fk fe δ = O.on (fe δ) fun d => O.on (fOwn i δ) fun ds => O.on (fk δ) fun k => oPut i δ ds d k := rfl
theorem fFrz_e {i : Nat} {F : FS} {δ : DSt} : fFrz i F δ = F (frz i δ) := rfl
theorem frz_0o {ds : List D} {r : DSt} : frz 0 (.ow ds :: r) = .fz (.lst ds) :: r := rfl
theorem frz_s {i : Nat} {s : DS} {r : DSt} : frz (i + 1) (s :: r) = s :: frz i r := by
  unfold frz
  rw [List.getElem?_cons_succ]
  cases r[i]? with
  | none => rfl
  | some t => cases t <;> rfl
theorem fFor_e {fi : FL} {put : FP} {body : FS} {δ : DSt} : fFor fi put body δ = O.on (fi δ) fun ds => loopF put body ds δ := rfl
theorem fItems_e {f : FE} {δ : DSt} : fItems f δ = (f δ).bind fun d => R.of (dItems d) := rfl
theorem fRange_e {fl : FL} {δ : DSt} : fRange fl δ = (fl δ).bind fun ds => R.of (dRange ds) := rfl
def oAsg (p : FP) (δ : DSt) (d : D) : O := match p δ d with
  | some δ' => .nx δ'
  | none => .bad
theorem fAsg_e {p : FP} {f : FE} {δ : DSt} : fAsg p f δ = O.on (f δ) fun d => oAsg p δ d := rfl
def oMat (G : Str → FS) (δ : DSt) (d : D) : O := match d with
  | .str z => G z δ
  | _ => .bad
theorem oMat_e {G : Str → FS} {δ : DSt} {z : Str} : oMat G δ (.str z) = G z δ := rfl
theorem fMatch_e {f : FE} {G : Str → FS} {δ : DSt} : fMatch f G δ = O.on (f δ) fun d => oMat G δ d := by
  unfold fMatch oMat
  cases f δ <;> rfl
theorem fAug_e {F : D → D → Option D} {i : Nat} {f : FE} {δ : DSt} : fAug F i f δ = O.on (fVar i δ) fun x => O.on (f δ) fun y => O.on (R.of (F x y)) fun z => .nx (δ.set i (.fz z)) := rfl
theorem whileF_e {c : FB} {body : FS} {n : Nat} {δ : DSt} : whileF c body (n + 1) δ = oIf (c δ) (fun δ => match body δ with
      | .nx δ2 => whileF c body n δ2
      | .ct δ2 => whileF c body n δ2
      | .bk δ2 => .nx δ2
      | .rt d => .rt d
      | .exc n xs => .exc n xs
      | .bad => .bad) (fun δ => .nx δ) δ := by
  show (O.on (c δ) _) = O.on (c δ) _
  congr 1
  funext b
  cases b <;> rfl
/-- a run's end -/
def O.fin (o : O) : R D := match o with
  | .rt d => .ok d
  | .nx _ => .ok .non
  | .exc n xs => .exc n xs
  | _ => .bad
theorem fin_rt {d : D} : (O.rt d).fin = .ok d := rfl
theorem fin_nx {δ : DSt} : (O.nx δ).fin = .ok .non := rfl
theorem fin_exc {n : Str} {xs : List D} : (O.exc n xs).fin = .exc n xs := rfl
theorem runD_e {m : Nat} {F : FS} {ds : List D} : runD m F ds = (F (ds.map DS.fz ++ List.replicate (m - ds.length) DS.un)).fin := rfl
theorem pName_e {i : Nat} {δ : DSt} {d : D} : pName i δ d = some (δ.set i (.fz d)) := rfl
theorem pNil_e {δ : DSt} : pNil δ [] = some δ := rfl
theorem pCons_e {p : FP} {ps : FPs} {δ : DSt} {d : D} {ds : List D} : pCons p ps δ (d :: ds) = (p δ d).bind fun δ' => ps δ' ds := rfl
theorem pTup_e {n : Nat} {ps : FPs} {δ : DSt} {ds : List D} : pTup n ps δ (.tup ds) = if ds.length = n then ps δ ds else none := rfl
theorem starD_e {n m : Nat} {F : FS} {ds : List D} (h : n ≤ ds.length) (h2 : okLe ds.length = true) : starD n m F ds = runD m F (ds.take n ++ [.tup (ds.drop n)]) := by
  unfold starD
  rw [if_pos (by rw [decide_eq_true h, h2]; rfl)]
theorem dAdd_ii {i j : Int} : dAdd (.int i) (.int j) = some (.int (i + j)) := rfl
theorem dAdd_ss {x y : Str} (h : okLe (x.length + y.length) = true) : dAdd (.str x) (.str y) = some (.str (x ++ y)) := if_pos h
theorem dAdd_ll {xs ys : List D} (h : okLe (xs.length + ys.length) = true) : dAdd (.lst xs) (.lst ys) = some (.lst (xs ++ ys)) := if_pos h
theorem dAdd_tt {x : D} {xs ys : List D} (h : okLe ((x :: xs).length + ys.length) = true) : dAdd (.tup (x :: xs)) (.tup ys) = some (.tup (x :: xs ++ ys)) := if_pos h
theorem dSub_ii {i j : Int} : dSub (.int i) (.int j) = some (.int (i - j)) := rfl
theorem dMul_ii {i j : Int} (h : mulOk i j = true) : dMul (.int i) (.int j) = some (.int (i * j)) := if_pos h
theorem lim_by {k : Nat} {i : Int} (h : i.natAbs < 2 ^ k) : lim k i = true := Nat.blt_eq.mpr h
theorem mulOk_l {i j : Int} (h : lim 64 i = true) : mulOk i j = true := by unfold mulOk; rw [h]; rfl
theorem mulOk_r {i j : Int} (h : lim 64 j = true) : mulOk i j = true := by unfold mulOk; rw [h]; cases lim 64 i <;> rfl
theorem mulOk_w {i j : Int} (h : lim 400 i = true) (k : lim 400 j = true) : mulOk i j = true := by unfold mulOk; rw [h, k]; cases lim 64 i <;> cases lim 64 j <;> rfl
theorem dMul_li {xs : List D} {k : Int} (h : repOk xs.length k = true) : dMul (.lst xs) (.int k) = some (.lst (List.replicate k.toNat xs).flatten) := if_pos h
theorem repOk_by {n : Nat} {k : Int} (h : lim 63 k = true) (g : n * k.toNat ≤ 16777216) : repOk n k = true := by unfold repOk; rw [h, okLe_by g]; rfl
theorem dFdiv_ii {i j : Int} (h : 0 < j) (g : j < 1073741824) : dFdiv (.int i) (.int j) = some (.int (i / j)) := if_pos ⟨h, g⟩
theorem dMod_ii {i j : Int} (h : 0 < j) : dMod (.int i) (.int j) = some (.int (i % j)) := if_pos h
theorem dNeg_i {i : Int} : dNeg (.int i) = some (.int (-i)) := rfl
theorem dLt_ii {i j : Int} : dLt (.int i) (.int j) = some (.bl (decide (i < j))) := rfl
theorem dLe_ii {i j : Int} : dLe (.int i) (.int j) = some (.bl (decide (i ≤ j))) := rfl
theorem dGt_ii {i j : Int} : dGt (.int i) (.int j) = some (.bl (decide (j < i))) := rfl
theorem dGe_ii {i j : Int} : dGe (.int i) (.int j) = some (.bl (decide (j ≤ i))) := rfl
theorem dIx_l {xs : List D} {i : Int} : dIx (.lst xs) (.int i) = L2.atI xs i := rfl
theorem dIx_t {xs : List D} {i : Int} : dIx (.tup xs) (.int i) = L2.atI xs i := rfl
theorem dIx_c {xs : List D} {i : Int} : dIx (.scr xs) (.int i) = L2.atI xs i := rfl
theorem dIx_s {z : Str} {i : Int} (h : okLe z.length = true) : dIx (.str z) (.int i) = (L2.atI z.cps.toList i).map (fun c => .str ⟨#[c]⟩) := if_pos h
theorem dLen_l {xs : List D} : dLen [.lst xs] = some (.int xs.length) := rfl
theorem dLen_t {xs : List D} : dLen [.tup xs] = some (.int xs.length) := rfl
theorem dLen_c {xs : List D} : dLen [.scr xs] = some (.int xs.length) := rfl
theorem dLen_s {z : Str} (h : okLe z.length = true) : dLen [.str z] = some (.int z.length) := if_pos h
theorem dAbs_i {i : Int} : dAbs [.int i] = some (.int (if i < 0 then -i else i)) := rfl
theorem dMax2_ii {i j : Int} : dMax2 [.int i, .int j] = some (.int (if j > i then j else i)) := rfl
theorem dMin2_ii {i j : Int} : dMin2 [.int i, .int j] = some (.int (if j < i then j else i)) := rfl
theorem dInt_i {i : Int} : dInt [.int i] = some (.int i) := rfl
theorem dStr_i {i : Int} (h : i.natAbs.log2 < 1920) : dStr [.int i] = some (.str (toString i)) := if_pos h
theorem dStr_s {x : Str} : dStr [.str x] = some (.str x) := rfl
theorem dList_l {xs : List D} : dList [.lst xs] = some (.lst xs) := rfl
theorem dList_t {xs : List D} : dList [.tup xs] = some (.lst xs) := rfl
theorem dTuple_l {xs : List D} : dTuple [.lst xs] = some (.tup xs) := rfl
theorem dTuple_t {xs : List D} : dTuple [.tup xs] = some (.tup xs) := rfl
theorem dCut_l {xs : List D} {lo hi : Option Int} : dCut (.lst xs) lo hi = some (.lst (cut xs lo hi)) := rfl
theorem dCut_t {xs : List D} {lo hi : Option Int} : dCut (.tup xs) lo hi = some (.tup (cut xs lo hi)) := rfl
theorem dItems_l {xs : List D} : dItems (.lst xs) = some xs := rfl
theorem dItems_t {xs : List D} : dItems (.tup xs) = some xs := rfl
theorem dItems_s {z : Str} : dItems (.str z) = some (z.cps.toList.map fun c => .str ⟨#[c]⟩) := rfl
theorem dRange_1 {j : Int} (h : small62 j = true) : dRange [.int j] = some (dInts 0 j.toNat) := if_pos h
theorem dRange_2 {i j : Int} (h : small62 i = true) (g : small62 j = true) : dRange [.int i, .int j] = some (dInts i (j - i).toNat) := if_pos (by rw [h, g]; rfl)
theorem dIsN_e {d : D} : dIsN d = some (.bl d.isNon) := rfl
theorem dNotN_e {d : D} : dNotN d = some (.bl (!d.isNon)) := rfl
theorem isNon_n  : D.isNon .non = true := rfl
theorem isNon_b {b : Bool} : D.isNon (.bl b) = false := rfl
theorem isNon_i {i : Int} : D.isNon (.int i) = false := rfl
theorem isNon_s {x : Str} : D.isNon (.str x) = false := rfl
theorem isNon_t {xs : List D} : D.isNon (.tup xs) = false := rfl
theorem isNon_l {xs : List D} : D.isNon (.lst xs) = false := rfl
theorem isNon_o {c : Str} {xs : List D} : D.isNon (.obj c xs) = false := rfl
theorem dIsi_n {T : String} : dIsi T .non = some (.bl (isT "NoneType" T)) := rfl
theorem dIsi_b {T : String} {b : Bool} : dIsi T (.bl b) = some (.bl (isT "bool" T)) := rfl
theorem dIsi_i {T : String} {i : Int} : dIsi T (.int i) = some (.bl (isT "int" T)) := rfl
theorem dIsi_s {T : String} {x : Str} : dIsi T (.str x) = some (.bl (isT "str" T)) := rfl
theorem dIsi_t {T : String} {xs : List D} : dIsi T (.tup xs) = some (.bl (isT "tuple" T)) := rfl
theorem dIsi_l {T : String} {xs : List D} : dIsi T (.lst xs) = some (.bl (isT "list" T)) := rfl
theorem dIn_e {x y : D} : dIn x y = (dInB x y).map D.bl := rfl
theorem dNotIn_e {x y : D} : dNotIn x y = (dInB x y).map fun b => D.bl (!b) := rfl
theorem dEq_e {x y : D} : dEq x y = (dEqB x y).map D.bl := rfl
theorem dNe_e {x y : D} : dNe x y = (dEqB x y).map fun b => D.bl (!b) := rfl
theorem oPop_2 {j i : Nat} {δ : DSt} {ds : List D} {c d : D} : oPop j i δ (ds ++ [c, d]) = .nx ((δ.set i (.ow (ds ++ [c]))).set j (.fz d)) := by
  rw [show ds ++ [c, d] = (ds ++ [c]) ++ [d] from by rw [List.append_assoc]; rfl]
  exact oPop_ok
theorem oPop_1 {j i : Nat} {δ : DSt} {d : D} : oPop j i δ [d] = .nx ((δ.set i (.ow [])).set j (.fz d)) := rfl
theorem cast_0 : ((0 : Nat) : Int) = 0 := rfl
theorem cast_1 : ((1 : Nat) : Int) = 1 := rfl
theorem cast_2 : ((2 : Nat) : Int) = 2 := rfl
theorem cast_3 : ((3 : Nat) : Int) = 3 := rfl
theorem at_0 {a : D} {r : List D} : L2.atI (a :: r) 0 = some a := L2.atI_nat (j := 0) rfl
theorem at_1 {a b : D} {r : List D} : L2.atI (a :: b :: r) 1 = some b := L2.atI_nat (j := 1) rfl
theorem at_2 {a b c : D} {r : List D} : L2.atI (a :: b :: c :: r) 2 = some c := L2.atI_nat (j := 2) rfl
theorem at_3 {a b c d : D} {r : List D} : L2.atI (a :: b :: c :: d :: r) 3 = some d := L2.atI_nat (j := 3) rfl
theorem at_4 {a b c d e : D} {r : List D} : L2.atI (a :: b :: c :: d :: e :: r) 4 = some e := L2.atI_nat (j := 4) rfl
theorem at_5 {a b c d e f : D} {r : List D} : L2.atI (a :: b :: c :: d :: e :: f :: r) 5 = some f := L2.atI_nat (j := 5) rfl
theorem at_6 {a b c d e f g : D} {r : List D} : L2.atI (a :: b :: c :: d :: e :: f :: g :: r) 6 = some g := L2.atI_nat (j := 6) rfl
theorem lcF_nil {i : Nat} {t : FB} {f : FE} {δ : DSt} {acc : List D} : lcF i t f δ [] acc = .ok acc := rfl
theorem lcF_yes {i : Nat} {t : FB} {f : FE} {δ : DSt} {d e : D} {ds acc : List D} (ht : t (δ.set i (.fz d)) = .ok true) (hf : f (δ.set i (.fz d)) = .ok e) (hl : okLt acc.length = true) : lcF i t f δ (d :: ds) acc = lcF i t f δ ds (acc ++ [e]) := by
  show ((t (δ.set i (.fz d))).quiet.bind _) = _
  rw [ht]
  show ((f (δ.set i (.fz d))).quiet.bind _) = _
  rw [hf]
  exact if_pos hl
theorem lcF_no {i : Nat} {t : FB} {f : FE} {δ : DSt} {d : D} {ds acc : List D} (ht : t (δ.set i (.fz d)) = .ok false) : lcF i t f δ (d :: ds) acc = lcF i t f δ ds acc := by
  show ((t (δ.set i (.fz d))).quiet.bind _) = _
  rw [ht]
  rfl
/-- all items are taken -/
theorem lcF_all {α : Type} {i : Nat} {f : FE} {δ : DSt} {g h : α → D} : ∀ {xs : List α} {acc : List D}, (∀ x ∈ xs, f (δ.set i (.fz (g x))) = .ok (h x)) → acc.length + xs.length ≤ 16777215 → lcF i fYes f δ (xs.map g) acc = .ok (acc ++ xs.map h)
  | [], acc, _, _ => by rw [List.map_nil, List.map_nil, List.append_nil]; rfl
  | x :: xs, acc, hx, hl => by
    rw [List.length_cons] at hl
    rw [List.map_cons, lcF_yes (e := h x) rfl (hx x List.mem_cons_self) (okLt_by (by omega)), lcF_all (h := h) (fun y hy => hx y (List.mem_cons_of_mem _ hy)) (by rw [List.length_append, List.length_singleton]; omega), List.append_assoc]
    rfl
theorem fLc_e {fi : FL} {i : Nat} {t : FB} {f : FE} {δ : DSt} : fLc fi i t f δ = (fi δ).bind fun ds => (lcF i t f δ ds []).bind fun es => .ok (.lst es) := by
  unfold fLc fLcL
  cases fi δ <;> rfl
theorem fLcL_e {fi : FL} {i : Nat} {t : FB} {f : FE} {δ : DSt} : fLcL fi i t f δ = (fi δ).bind fun ds => lcF i t f δ ds [] := rfl
theorem fJoin_e {f g : FE} {δ : DSt} : fJoin f g δ = (f δ).bind (rJoin g δ) := rfl
theorem rJoin_e {a : Str} {g : FE} {δ : DSt} : rJoin g δ (.str a) = (g δ).bind fun e => R.of (dJoin a e) := rfl
theorem dJoin_l {a : Str} {ys : List Str} (h : joinOk a ys = true) : dJoin a (.lst (ys.map .str)) = some (.str (Str.join a ys)) := by
  show (match strsOf (ys.map .str) with | some ys => if joinOk a ys = true then some (D.str (Str.join a ys)) else none | none => none) = _
  rw [strsOf_map]
  exact if_pos h
theorem joinOk_by {a : Str} {ys : List Str} (h : (ys.map (·.length)).sum + ys.length * a.length ≤ 16777216) : joinOk a ys = true := Nat.ble_eq_true_of_le h
end DL

/-! MTerm: terms as data. -/
namespace DL
open PySem PySem.Spec PyProof.Rows
inductive Trm where
  | item (i : Int)
  | call (n : Str) (ts : List Trm)
mutual
def Trm.enc : Trm → D
  | .item i => .tup [.str "item", .int i]
  | .call n ts => .tup [.str "call", .str n, .tup (encL ts)]
def encL : List Trm → List D
  | [] => []
  | t :: ts => t.enc :: encL ts
end
mutual
def Trm.dep : Trm → Nat
  | .item _ => 0
  | .call _ ts => depL ts + 1
def depL : List Trm → Nat
  | [] => 0
  | t :: ts => max t.dep (depL ts)
end
mutual
/-- the places, from left to right -/
def Trm.pls : Trm → List Int
  | .item i => [i]
  | .call _ ts => plsL ts
def plsL : List Trm → List Int
  | [] => []
  | t :: ts => t.pls ++ plsL ts
end
/-- put those of ys behind xs that are not there -/
def addN (xs : List Str) : List Str → List Str
  | [] => xs
  | y :: ys => addN (if y ∈ xs then xs else xs ++ [y]) ys
mutual
/-- the names in written order, each once -/
def Trm.nms : Trm → List Str
  | .item _ => []
  | .call n ts => nmsL [n] ts
def nmsL (acc : List Str) : List Trm → List Str
  | [] => acc
  | t :: ts => nmsL (addN acc t.nms) ts
end
mutual
def Trm.sok : Trm → Prop
  | .item _ => True
  | .call n ts => Sok n ∧ sokL ts
def sokL : List Trm → Prop
  | [] => True
  | t :: ts => t.sok ∧ sokL ts
end
theorem encL_map : ∀ ts : List Trm, encL ts = ts.map Trm.enc
  | [] => rfl
  | t :: ts => congrArg (t.enc :: ·) (encL_map ts)
theorem encL_cons {t : Trm} {ts : List Trm} : encL (t :: ts) = t.enc :: encL ts := by rw [encL]
theorem encL_len (ts : List Trm) : (encL ts).length = ts.length := by rw [encL_map, List.length_map]
theorem enc_item {i : Int} : (Trm.item i).enc = .tup [.str "item", .int i] := by unfold Trm.enc; rfl
theorem enc_call {n : Str} {ts : List Trm} : (Trm.call n ts).enc = .tup [.str "call", .str n, .tup (encL ts)] := by unfold Trm.enc; rfl
theorem pls_item {i : Int} : (Trm.item i).pls = [i] := by unfold Trm.pls; rfl
theorem pls_call {n : Str} {ts : List Trm} : (Trm.call n ts).pls = plsL ts := by rw [Trm.pls]
theorem plsL_cons {t : Trm} {ts : List Trm} : plsL (t :: ts) = t.pls ++ plsL ts := by rw [plsL]
theorem plsL_nil : plsL [] = [] := by rw [plsL]
theorem nms_item {i : Int} : (Trm.item i).nms = [] := by rw [Trm.nms]
theorem nms_call {n : Str} {ts : List Trm} : (Trm.call n ts).nms = nmsL [n] ts := by rw [Trm.nms]
theorem nmsL_cons {acc : List Str} {t : Trm} {ts : List Trm} : nmsL acc (t :: ts) = nmsL (addN acc t.nms) ts := by rw [nmsL]
theorem nmsL_nil {acc : List Str} : nmsL acc [] = acc := by rw [nmsL]
theorem dep_item {i : Int} : (Trm.item i).dep = 0 := by rw [Trm.dep]
theorem dep_call {n : Str} {ts : List Trm} : (Trm.call n ts).dep = depL ts + 1 := by rw [Trm.dep]
theorem depL_cons {t : Trm} {ts : List Trm} : depL (t :: ts) = max t.dep (depL ts) := by rw [depL]
theorem depL_nil : depL [] = 0 := by rw [depL]
theorem sok_item {i : Int} : (Trm.item i).sok = True := by rw [Trm.sok]
theorem sok_call {n : Str} {ts : List Trm} : (Trm.call n ts).sok = (Sok n ∧ sokL ts) := by rw [Trm.sok]
theorem sokL_cons {t : Trm} {ts : List Trm} : sokL (t :: ts) = (t.sok ∧ sokL ts) := by rw [sokL]
theorem sokL_nil : sokL [] = True := by rw [sokL]
theorem addN_len (ys : List Str) : ∀ xs : List Str, xs.length ≤ (addN xs ys).length ∧ (addN xs ys).length ≤ xs.length + ys.length := by
  induction ys with
  | nil => intro xs; exact ⟨Nat.le_refl _, Nat.le_refl _⟩
  | cons y ys ih =>
    intro xs
    unfold addN
    have := ih (if y ∈ xs then xs else xs ++ [y])
    split at this
    · rename_i h; rw [if_pos h]; simp only [List.length_cons]; omega
    · rename_i h; rw [if_neg h]; simp only [List.length_cons, List.length_append, List.length_nil] at *; omega
theorem addN_mem {xs ys : List Str} {z : Str} : z ∈ addN xs ys ↔ z ∈ xs ∨ z ∈ ys := by
  induction ys generalizing xs with
  | nil => simp [addN]
  | cons y ys ih =>
    unfold addN
    rw [ih]
    split
    · rename_i h
      constructor
      · rintro (a | a)
        · exact .inl a
        · exact .inr (List.mem_cons_of_mem _ a)
      · rintro (a | a)
        · exact .inl a
        · rcases List.mem_cons.mp a with rfl | a
          · exact .inl h
          · exact .inr a
    · rw [List.mem_append, List.mem_singleton, List.mem_cons]
      exact or_assoc
theorem item_ne_call : (("call" : Str) == "item") = false := by decide
mutual
theorem Trm.eqb : ∀ (t : Trm), t.sok → Eqb (2 * t.dep + 1) t.enc
  | .item i, h => by
    rw [enc_item]
    exact (Eqb.tup (n := 0) (.cons (.str (by decide +kernel)) (.cons (.int _ _) (.nil _)))).mono (by omega)
  | .call n ts, h => by
    rw [sok_call] at h
    rw [enc_call, dep_call]
    exact (Eqb.tup (n := 2 * depL ts + 2) (.cons (.str (by decide +kernel)) (.cons (.str h.1) (.cons (.tup (eqbL ts h.2)) (.nil _))))).mono (by omega)
theorem eqbL : ∀ (ts : List Trm), sokL ts → EqbL (2 * depL ts + 1) (encL ts)
  | [], _ => .nil _
  | t :: ts, h => by
    rw [sokL_cons] at h
    unfold encL
    rw [depL_cons]
    obtain ⟨ps, k1, k2, k3⟩ := eqbL ts h.2
    exact .cons ((Trm.eqb t h.1).mono (by omega)) ⟨ps, k1, k2, by omega⟩
end
mutual
/-- the number of nodes -/
def Trm.sz : Trm → Nat
  | .item _ => 1
  | .call _ ts => szL ts + 1
def szL : List Trm → Nat
  | [] => 0
  | t :: ts => t.sz + szL ts
end
theorem sz_item {i : Int} : (Trm.item i).sz = 1 := by rw [Trm.sz]
theorem sz_call {n : Str} {ts : List Trm} : (Trm.call n ts).sz = szL ts + 1 := by rw [Trm.sz]
theorem szL_cons {t : Trm} {ts : List Trm} : szL (t :: ts) = t.sz + szL ts := by rw [szL]
theorem szL_nil : szL [] = 0 := by rw [szL]
mutual
theorem Trm.pls_sz : ∀ t : Trm, t.pls.length ≤ t.sz
  | .item i => by rw [pls_item, sz_item]; exact Nat.le_refl _
  | .call n ts => by rw [pls_call, sz_call]; exact Nat.le_succ_of_le (plsL_sz ts)
theorem plsL_sz : ∀ ts : List Trm, (plsL ts).length ≤ szL ts
  | [] => by rw [plsL_nil, szL_nil]; exact Nat.le_refl _
  | t :: ts => by
    rw [plsL_cons, szL_cons, List.length_append]
    exact Nat.add_le_add (Trm.pls_sz t) (plsL_sz ts)
end
mutual
theorem Trm.nms_sz : ∀ t : Trm, t.nms.length ≤ t.sz
  | .item i => by rw [nms_item, sz_item]; exact Nat.zero_le _
  | .call n ts => by
    rw [nms_call, sz_call]
    have := nmsL_sz ts [n]
    simp only [List.length_cons, List.length_nil] at this
    omega
theorem nmsL_sz : ∀ (ts : List Trm) (acc : List Str), (nmsL acc ts).length ≤ acc.length + szL ts
  | [], acc => by rw [nmsL_nil, szL_nil]; exact Nat.le_refl _
  | t :: ts, acc => by
    rw [nmsL_cons, szL_cons]
    have h1 := nmsL_sz ts (addN acc t.nms)
    have h2 := (addN_len t.nms acc).2
    have h3 := Trm.nms_sz t
    omega
end
theorem dep_mem {ts : List Trm} : ∀ t ∈ ts, t.dep ≤ depL ts := by
  induction ts with
  | nil => intro t h; cases h
  | cons u us ih =>
    intro t h
    rw [depL_cons]
    rcases List.mem_cons.mp h with rfl | h
    · omega
    · have := ih t h; omega
theorem sz_mem {ts : List Trm} : ∀ t ∈ ts, t.sz ≤ szL ts := by
  induction ts with
  | nil => intro t h; cases h
  | cons u us ih =>
    intro t h
    rw [szL_cons]
    rcases List.mem_cons.mp h with rfl | h
    · omega
    · have := ih t h; omega
mutual
theorem nms_sok : ∀ t : Trm, t.sok → ∀ x ∈ t.nms, Sok x
  | .item i, _ => by rw [nms_item]; intro x h; cases h
  | .call n ts, h => by
    rw [sok_call] at h
    rw [nms_call]
    exact nmsL_sok ts [n] h.2 (fun x hx => by rw [List.mem_singleton.mp hx]; exact h.1)
theorem nmsL_sok : ∀ (ts : List Trm) (acc : List Str), sokL ts → (∀ x ∈ acc, Sok x) → ∀ x ∈ nmsL acc ts, Sok x
  | [], acc, _, h => by rw [nmsL_nil]; exact h
  | t :: ts, acc, h, k => by
    rw [sokL_cons] at h
    rw [nmsL_cons]
    exact nmsL_sok ts _ h.2 fun x hx => by
      rcases addN_mem.mp hx with q | q
      · exact k x q
      · exact nms_sok t h.1 x q
end
/-! the written form -/
mutual
def Trm.txt : Trm → Str
  | .item i => ("x" : Str) ++ Str.ofString (toString i)
  | .call n ts => if ts.isEmpty = true then n else n ++ ("(" : Str) ++ Str.join "," (txtL ts) ++ (")" : Str)
def txtL : List Trm → List Str
  | [] => []
  | t :: ts => t.txt :: txtL ts
end
theorem txt_item {i : Int} : (Trm.item i).txt = ("x" : Str) ++ Str.ofString (toString i) := by rw [Trm.txt]
theorem txt_call0 {n : Str} : (Trm.call n []).txt = n := by rw [Trm.txt]; rfl
theorem txt_call {n : Str} {t : Trm} {ts : List Trm} : (Trm.call n (t :: ts)).txt = n ++ ("(" : Str) ++ Str.join "," (txtL (t :: ts)) ++ (")" : Str) := by rw [Trm.txt]; rfl
theorem txtL_nil : txtL [] = [] := by rw [txtL]
theorem txtL_cons {t : Trm} {ts : List Trm} : txtL (t :: ts) = t.txt :: txtL ts := by rw [txtL]
theorem txtL_map : ∀ ts : List Trm, txtL ts = ts.map Trm.txt
  | [] => txtL_nil
  | t :: ts => by rw [txtL_cons, txtL_map ts]; rfl
mutual
def Trm.shw : Trm → Prop
  | .item i => i.natAbs.log2 < 1900
  | .call _ ts => shwL ts
def shwL : List Trm → Prop
  | [] => True
  | t :: ts => t.shw ∧ shwL ts
end
theorem shw_item {i : Int} : (Trm.item i).shw = (i.natAbs.log2 < 1900) := by rw [Trm.shw]
theorem shw_call {n : Str} {ts : List Trm} : (Trm.call n ts).shw = shwL ts := by rw [Trm.shw]
theorem shwL_cons {t : Trm} {ts : List Trm} : shwL (t :: ts) = (t.shw ∧ shwL ts) := by rw [shwL]
theorem shwL_nil : shwL [] = True := by rw [shwL]
theorem shw_mem {ts : List Trm} (h : shwL ts) : ∀ t ∈ ts, t.shw := by
  induction ts with
  | nil => intro t h; cases h
  | cons u us ih =>
    rw [shwL_cons] at h
    intro t ht
    rcases List.mem_cons.mp ht with rfl | ht
    · exact h.1
    · exact ih h.2 t ht
theorem str_app_len (x y : Str) : (x ++ y).length = x.length + y.length := Array.size_append
theorem join_len (a : Str) : ∀ ys : List Str, ys ≠ [] → (ys.map (·.length)).sum + ys.length * a.length = (Str.join a ys).length + a.length
  | [], h => absurd rfl h
  | [x], _ => by
    show x.length + 0 + 1 * a.length = x.length + a.length
    omega
  | x :: y :: r, _ => by
    have ih := join_len a (y :: r) (by simp)
    have e : (Str.join a (x :: y :: r)).length = x.length + a.length + (Str.join a (y :: r)).length := by
      show (x ++ a ++ Str.join a (y :: r)).length = _
      rw [str_app_len, str_app_len]
    rw [e]
    rw [List.map_cons, List.sum_cons, List.length_cons, Nat.succ_mul]
    omega
theorem len_mem (ys : List Str) : ∀ y ∈ ys, y.length ≤ (ys.map (·.length)).sum := by
  induction ys with
  | nil => intro y h; cases h
  | cons z zs ih =>
    intro y h
    rw [List.map_cons, List.sum_cons]
    rcases List.mem_cons.mp h with rfl | h
    · omega
    · have := ih y h; omega
end DL

/-! MEnt: lists of entries, by their end. -/
namespace DL
open PySem PySem.Spec PyProof.Rows
theorem shape3 (ts : List Trm) : ts = [] ∨ (∃ a, ts = [a]) ∨ ∃ us a b, ts = us ++ [a, b] := by
  rcases List.eq_nil_or_concat ts with rfl | ⟨vs, b, rfl⟩
  · exact .inl rfl
  · rcases List.eq_nil_or_concat vs with rfl | ⟨us, a, rfl⟩
    · exact .inr (.inl ⟨b, rfl⟩)
    · exact .inr (.inr ⟨us, a, b, by simp⟩)
theorem len_sz (us : List Trm) : us.length ≤ szL us := by
  induction us with
  | nil => exact Nat.zero_le _
  | cons u us ih =>
    rw [szL_cons, List.length_cons]
    have : 1 ≤ u.sz := by cases u <;> first | (rw [sz_item]; omega) | (rw [sz_call]; omega)
    omega
def Good (n : Nat) (ts : List Trm) : Prop := (∀ t ∈ ts, t.sok ∧ t.dep ≤ 20) ∧ szL ts ≤ n
theorem szL_app (as bs : List Trm) : szL (as ++ bs) = szL as + szL bs := by
  induction as with
  | nil => rw [szL_nil, List.nil_append, Nat.zero_add]
  | cons a as ih => rw [List.cons_append, szL_cons, szL_cons, ih, Nat.add_assoc]
theorem Good.snoc {n : Nat} {ts : List Trm} {t : Trm} (g : ∀ t ∈ ts, t.sok ∧ t.dep ≤ 20) (h1 : t.sok) (h2 : t.dep ≤ 20) (h3 : szL ts + t.sz ≤ n) : Good n (ts ++ [t]) := by
  refine ⟨fun u hu => ?_, by rw [szL_app, szL_cons, szL_nil]; omega⟩
  rcases List.mem_append.mp hu with q | q
  · exact g u q
  · rw [List.mem_singleton.mp q]; exact ⟨h1, h2⟩
end DL

/-! MDraws: what _law_draws gives. -/
namespace LW
open PySem PySem.Spec PyProof.Rows DL
local macro_rules | `(tactic| walk_at "ev") => `(tactic| simp only [R.bind_ok, R.bind_bad, R.bind_exc, R.of_some, R.of_none, O.on_ok, O.on_bad, O.on_exc, fVar_0, fVar_s, fOwn_0, fOwn_s, fC_e, fU_e, fB_e, fNil_e, fCons_e, fL_e, fCall_e, fTup_e, fLst_e, rIf_t, rIf_f, fIf_e, tBl_e, fTest_e, fTru_e, fNotB_e, fAndB_e, fOrB_e, fVal_e, fAnd_e, fOr_e, fNo_e, tInt_e, fSome_e, fSl_e, fSlOw_e, fLenOw_e, fIxOw_e, fInOw_e, thn_nx, thn_rt, thn_bk, thn_ct, thn_exc, thn_bad, fSeq_e, oIf_t, oIf_f, oIf_exc, fIfS_e, fSkip_e, fRet_e, fExp_e, fSet_e, fNew_e, fApp_e, fExt_e, fPop_e, fPut_e, fFrz_e, frz_0o, frz_s, fFor_e, fItems_e, fRange_e, fAsg_e, oMat_e, fMatch_e, fAug_e, fin_rt, fin_nx, fin_exc, runD_e, pName_e, pNil_e, pCons_e, pTup_e, dAdd_ii, dAdd_ss, dAdd_ll, dAdd_tt, dSub_ii, dMul_ii, dMul_li, dFdiv_ii, dMod_ii, dNeg_i, dLt_ii, dLe_ii, dGt_ii, dGe_ii, dIx_l, dIx_t, dIx_c, dIx_s, dLen_l, dLen_t, dLen_c, dLen_s, dAbs_i, dMax2_ii, dMin2_ii, dInt_i, dStr_i, dStr_s, dList_l, dList_t, dTuple_l, dTuple_t, dCut_l, dCut_t, dItems_l, dItems_t, dItems_s, dRange_1, dRange_2, dIsN_e, dNotN_e, isNon_n, isNon_b, isNon_i, isNon_s, isNon_t, isNon_l, isNon_o, dIsi_n, dIsi_b, dIsi_i, dIsi_s, dIsi_t, dIsi_l, dIn_e, dNotIn_e, dEqB_ss, dEqB_ii, dInB_strs, dInB_strsT, dEq_e, dNe_e, beq_self_eq_true, List.set_cons_zero, List.set_cons_succ, List.length_cons, List.length_nil, List.length_map, List.length_append, Option.map_some, Option.map_none, Option.bind_some, Option.bind_none, if_true, if_false, ite_true, ite_false, decide_true, decide_false, and_self, true_and, and_true, Int.zero_add, Int.toNat_natCast, cut_tl, cut_all, List.map_append, List.map_cons, List.map_nil, List.nil_append, List.cons_append, List.append_nil, List.replicate, Int.reduceLT, Int.reduceLE, Int.reduceAdd, Int.reduceSub, Int.reduceMul, Int.reduceNeg, Int.reduceToNat, Nat.reduceAdd, Nat.reduceSub, Nat.reduceLT, Nat.reduceLeDiff, Nat.reduceMul, Int.reduceEq, Nat.reduceEqDiff, Bool.not_true, Bool.not_false, Bool.and_true, Bool.true_and, Bool.and_false, Bool.false_and, Bool.or_true, Bool.true_or, Bool.or_false, Bool.false_or, Bool.and_self, Bool.or_self, reduceCtorEq, decide_eq_true_eq, Bool.false_eq_true, fLc_e, fLcL_e, lcF_nil, fJoin_e, rJoin_e, dJoin_l, oPop_ok, oPop_2, oPop_1, cast_0, cast_1, cast_2, cast_3, at_0, at_1, at_2, at_3, at_4, at_5, at_6, Int.reduceBEq, Nat.reduceBEq, oApp_ok, oExt_ok, *])
theorem pow18 : dPow (.int 10) (.int 18) = some (.int 1000000000000000000) := by
  have h : powOk 10 18 = true := by decide
  show (if powOk 10 18 = true then some (D.int (10 ^ Int.toNat 18)) else none) = _
  rw [if_pos h]
  rfl
theorem small20 : small62 20 = true := by decide
/-- small draws -/
def Dr (ds : List Int) : Prop := ∀ d ∈ ds, 0 ≤ d ∧ d < 1000000
theorem Dr.nil : Dr [] := fun _ h => by cases h
theorem Dr.app {ds : List Int} {d : Int} (h : Dr ds) (h0 : 0 ≤ d) (h1 : d < 1000000) : Dr (ds ++ [d]) := fun e he => by
  rcases List.mem_append.mp he with q | q
  · exact h e q
  · cases List.mem_singleton.mp q; exact ⟨h0, h1⟩
theorem draws_in (a b : DS) (c0 : Int) (ds : List Int) (s3 s5 s6 : DS) (hc : 0 ≤ c0) (hd : Dr ds) (hl : ds.length ≤ 10000) : ∃ ds' c' s5', Dr ds' ∧ ds'.length ≤ ds.length + 20 ∧
    loopF (pName 5) l1__law_draws (dInts 0 20) [a, b, .ow (ds.map .int), s3, .fz (.int c0), s5, s6] = .nx [a, b, .ow (ds'.map .int), s3, .fz (.int c'), s5', s6] := by
  obtain ⟨δ', h1, ds', c', s5', h2, h3, h4, h5⟩ := loopF_range (put := pName 5) (body := l1__law_draws) (lo := 0) (n := 20) (δ := [a, b, .ow (ds.map .int), s3, .fz (.int c0), s5, s6])
    (fun k δ => ∃ (ds' : List Int) (c' : Int) (s5' : DS), Dr ds' ∧ ds'.length ≤ ds.length + k ∧ 0 ≤ c' ∧ δ = [a, b, .ow (ds'.map .int), s3, .fz (.int c'), s5', s6])
    ⟨ds, c0, s5, hd, Nat.le_refl _, hc, rfl⟩ (fun k δ hk h => by
      obtain ⟨ds', c', s5', h1, h2, h3, rfl⟩ := h
      have hlt : okLt ds'.length = true := okLt_by (by omega)
      refine ⟨_, rfl, ?_⟩
      by_cases z : (0 : Int) < c'
      · refine ⟨[a, b, .ow ((ds' ++ [c' % 1000000]).map .int), s3, .fz (.int (c' / 1000000)), .fz (.int (0 + (k : Nat))), s6], .inl ?_, _, _, _, h1.app (by omega) (by omega), by simp; omega, by omega, rfl⟩
        unfold l1__law_draws
        walk_at "ev"
      · refine ⟨[a, b, .ow (ds'.map .int), s3, .fz (.int (c' / 1000000)), .fz (.int (0 + (k : Nat))), s6], .inl ?_, _, _, _, h1, by omega, by omega, rfl⟩
        unfold l1__law_draws
        walk_at "ev")
  exact ⟨ds', c', s5', h2, h3, by rw [h1, h5]⟩
theorem draws_ok (ns : List Int) (hn : ns.length ≤ 63) (m : Nat) (hm : m ≤ 1000) : ∃ ds : List Int, ds.length = m ∧ Dr ds ∧ m__law_draws [.scr (ns.map .int), .int m] = .ok (.lst (ds.map .int)) := by
  obtain ⟨δ', h1, ds', s3, s4, s5, s6, h2, h3, h4⟩ := loopF_range (put := pName 3) (body := l2__law_draws) (lo := 0) (n := ns.length) (δ := [.fz (.scr (ns.map .int)), .fz (.int m), .ow (([] : List Int).map .int), .un, .un, .un, .un])
    (fun k δ => ∃ (ds' : List Int) (s3 s4 s5 s6 : DS), Dr ds' ∧ ds'.length ≤ 20 * k ∧ δ = [.fz (.scr (ns.map .int)), .fz (.int m), .ow (ds'.map .int), s3, s4, s5, s6])
    ⟨[], _, _, _, _, Dr.nil, Nat.le_refl _, rfl⟩ (fun k δ hk h => by
      obtain ⟨ds', s3, s4, s5, s6, h1, h2, rfl⟩ := h
      refine ⟨_, rfl, ?_⟩
      have hat : L2.atI (ns.map D.int) (k : Nat) = some (.int ns[k]) := L2.atI_nat (by rw [List.getElem?_map, List.getElem?_eq_getElem hk]; rfl)
      generalize hc : (if ns[k] < 0 then -ns[k] else ns[k]) = c
      have hc0 : 0 ≤ c := by rw [← hc]; split <;> omega
      have p18 := pow18
      by_cases z : (1000000000000000000 : Int) ≤ c
      · obtain ⟨ds2, c', s5', g1, g2, g3⟩ := draws_in (.fz (.scr (ns.map .int))) (.fz (.int m)) c ds' (.fz (.int (k : Nat))) s5 s6 hc0 h1 (by omega)
        refine ⟨[.fz (.scr (ns.map .int)), .fz (.int m), .ow (ds2.map .int), .fz (.int (k : Nat)), .fz (.int c'), s5', s6], .inl ?_, ds2, _, _, _, _, g1, by omega, rfl⟩
        have s20 := small20
        unfold l2__law_draws
        walk_at "ev"
      · have hlt : okLt ds'.length = true := okLt_by (by omega)
        have l1 : mulOk c 48271 = true := mulOk_r (by decide)
        have l2 : mulOk (k : Nat) 7919 = true := mulOk_r (by decide)
        have m1 : 0 ≤ (c * 48271 + (k : Nat) * 7919 + 1) % 2147483647 := by omega
        have m2 : (c * 48271 + (k : Nat) * 7919 + 1) % 2147483647 < 2147483647 := by omega
        generalize hx : (c * 48271 + (k : Nat) * 7919 + 1) % 2147483647 = x at m1 m2
        have l3 : mulOk x x = true := mulOk_l (lim_by (by show x.natAbs < 18446744073709551616; omega))
        refine ⟨[.fz (.scr (ns.map .int)), .fz (.int m), .ow ((ds' ++ [x * x % 2147483629 % 1000000]).map .int), .fz (.int (k : Nat)), .fz (.int c), s5, .fz (.int x)], .inl ?_, _, _, _, _, _, h1.app (by omega) (by omega), by simp; omega, rfl⟩
        unfold l2__law_draws
        walk_at "ev")
  refine ⟨(ds' ++ List.replicate m 0).take m, by simp, fun d hd => ?_, ?_⟩
  · rcases List.mem_append.mp (List.mem_of_mem_take hd) with q | q
    · exact h2 d q
    · rw [List.eq_of_mem_replicate q]; decide
  · have lt : (if (63 : Int) < (ns.length : Nat) then (63 : Int) else (ns.length : Nat)) = (ns.length : Nat) := by split <;> omega
    have sm : small62 (ns.length : Nat) = true := small62_by (by omega)
    have ro : repOk 1 m = true := repOk_by (lim_by (by show Int.natAbs _ < 9223372036854775808; omega)) (by omega)
    have ro2 : okLe (ds'.length + (List.replicate m [D.int 0]).flatten.length) = true := okLe_by (by rw [flat_one, List.length_replicate]; omega)
    subst h4
    rw [List.map_nil] at h1
    unfold m__law_draws b__law_draws
    walk_at "ev"
    rw [cut_to, flat_one, map_rep, List.map_take, List.map_append]
end LW

/-! MCall: call, item. -/
namespace LW
open PySem PySem.Spec PyProof.Rows DL
local macro_rules | `(tactic| walk_at "ev") => `(tactic| simp only [R.bind_ok, R.bind_bad, R.bind_exc, R.of_some, R.of_none, O.on_ok, O.on_bad, O.on_exc, fVar_0, fVar_s, fOwn_0, fOwn_s, fC_e, fU_e, fB_e, fNil_e, fCons_e, fL_e, fCall_e, fTup_e, fLst_e, rIf_t, rIf_f, fIf_e, tBl_e, fTest_e, fTru_e, fNotB_e, fAndB_e, fOrB_e, fVal_e, fAnd_e, fOr_e, fNo_e, tInt_e, fSome_e, fSl_e, fSlOw_e, fLenOw_e, fIxOw_e, fInOw_e, thn_nx, thn_rt, thn_bk, thn_ct, thn_exc, thn_bad, fSeq_e, oIf_t, oIf_f, oIf_exc, fIfS_e, fSkip_e, fRet_e, fExp_e, fSet_e, fNew_e, fApp_e, fExt_e, fPop_e, fPut_e, fFrz_e, frz_0o, frz_s, fFor_e, fItems_e, fRange_e, fAsg_e, oMat_e, fMatch_e, fAug_e, fin_rt, fin_nx, fin_exc, runD_e, pName_e, pNil_e, pCons_e, pTup_e, dAdd_ii, dAdd_ss, dAdd_ll, dAdd_tt, dSub_ii, dMul_ii, dMul_li, dFdiv_ii, dMod_ii, dNeg_i, dLt_ii, dLe_ii, dGt_ii, dGe_ii, dIx_l, dIx_t, dIx_c, dIx_s, dLen_l, dLen_t, dLen_c, dLen_s, dAbs_i, dMax2_ii, dMin2_ii, dInt_i, dStr_i, dStr_s, dList_l, dList_t, dTuple_l, dTuple_t, dCut_l, dCut_t, dItems_l, dItems_t, dItems_s, dRange_1, dRange_2, dIsN_e, dNotN_e, isNon_n, isNon_b, isNon_i, isNon_s, isNon_t, isNon_l, isNon_o, dIsi_n, dIsi_b, dIsi_i, dIsi_s, dIsi_t, dIsi_l, dIn_e, dNotIn_e, dEqB_ss, dEqB_ii, dInB_strs, dInB_strsT, dEq_e, dNe_e, beq_self_eq_true, List.set_cons_zero, List.set_cons_succ, List.length_cons, List.length_nil, List.length_map, List.length_append, Option.map_some, Option.map_none, Option.bind_some, Option.bind_none, if_true, if_false, ite_true, ite_false, decide_true, decide_false, and_self, true_and, and_true, Int.zero_add, Int.toNat_natCast, cut_tl, cut_all, List.map_append, List.map_cons, List.map_nil, List.nil_append, List.cons_append, List.append_nil, List.replicate, Int.reduceLT, Int.reduceLE, Int.reduceAdd, Int.reduceSub, Int.reduceMul, Int.reduceNeg, Int.reduceToNat, Nat.reduceAdd, Nat.reduceSub, Nat.reduceLT, Nat.reduceLeDiff, Nat.reduceMul, Int.reduceEq, Nat.reduceEqDiff, Bool.not_true, Bool.not_false, Bool.and_true, Bool.true_and, Bool.and_false, Bool.false_and, Bool.or_true, Bool.true_or, Bool.or_false, Bool.false_or, Bool.and_self, Bool.or_self, reduceCtorEq, decide_eq_true_eq, Bool.false_eq_true, fLc_e, fLcL_e, lcF_nil, fJoin_e, rJoin_e, dJoin_l, oPop_ok, oPop_2, oPop_1, cast_0, cast_1, cast_2, cast_3, at_0, at_1, at_2, at_3, at_4, at_5, at_6, Int.reduceBEq, Nat.reduceBEq, oApp_ok, oExt_ok, *])
theorem call_ok {x : Str} {as : List D} (h : as.length ≤ 1000) : m_call (.str x :: as) = .ok (.tup [.str "call", .str x, .tup as]) := by
  have e : starD 1 2 b_call (.str x :: as) = runD 2 b_call ((.str x :: as).take 1 ++ [.tup ((.str x :: as).drop 1)]) := starD_e (Nat.succ_le_succ (Nat.zero_le _)) (okLe_by (by rw [List.length_cons]; omega))
  unfold m_call
  rw [e]
  rfl
theorem item_ok {i : Int} : m_item [.int i] = .ok (.tup [.str "item", .int i]) := rfl
end LW

/-! MNameA: _law_name over a, b, m. -/
namespace LW
open PySem PySem.Spec PyProof.Rows DL
local macro_rules | `(tactic| walk_at "ev") => `(tactic| simp only [R.bind_ok, R.bind_bad, R.bind_exc, R.of_some, R.of_none, O.on_ok, O.on_bad, O.on_exc, fVar_0, fVar_s, fOwn_0, fOwn_s, fC_e, fU_e, fB_e, fNil_e, fCons_e, fL_e, fCall_e, fTup_e, fLst_e, rIf_t, rIf_f, fIf_e, tBl_e, fTest_e, fTru_e, fNotB_e, fAndB_e, fOrB_e, fVal_e, fAnd_e, fOr_e, fNo_e, tInt_e, fSome_e, fSl_e, fSlOw_e, fLenOw_e, fIxOw_e, fInOw_e, thn_nx, thn_rt, thn_bk, thn_ct, thn_exc, thn_bad, fSeq_e, oIf_t, oIf_f, oIf_exc, fIfS_e, fSkip_e, fRet_e, fExp_e, fSet_e, fNew_e, fApp_e, fExt_e, fPop_e, fPut_e, fFrz_e, frz_0o, frz_s, fFor_e, fItems_e, fRange_e, fAsg_e, oMat_e, fMatch_e, fAug_e, fin_rt, fin_nx, fin_exc, runD_e, pName_e, pNil_e, pCons_e, pTup_e, dAdd_ii, dAdd_ss, dAdd_ll, dAdd_tt, dSub_ii, dMul_ii, dMul_li, dFdiv_ii, dMod_ii, dNeg_i, dLt_ii, dLe_ii, dGt_ii, dGe_ii, dIx_l, dIx_t, dIx_c, dIx_s, dLen_l, dLen_t, dLen_c, dLen_s, dAbs_i, dMax2_ii, dMin2_ii, dInt_i, dStr_i, dStr_s, dList_l, dList_t, dTuple_l, dTuple_t, dCut_l, dCut_t, dItems_l, dItems_t, dItems_s, dRange_1, dRange_2, dIsN_e, dNotN_e, isNon_n, isNon_b, isNon_i, isNon_s, isNon_t, isNon_l, isNon_o, dIsi_n, dIsi_b, dIsi_i, dIsi_s, dIsi_t, dIsi_l, dIn_e, dNotIn_e, dEqB_ss, dEqB_ii, dInB_strs, dInB_strsT, dEq_e, dNe_e, beq_self_eq_true, List.set_cons_zero, List.set_cons_succ, List.length_cons, List.length_nil, List.length_map, List.length_append, Option.map_some, Option.map_none, Option.bind_some, Option.bind_none, if_true, if_false, ite_true, ite_false, decide_true, decide_false, and_self, true_and, and_true, Int.zero_add, Int.toNat_natCast, cut_tl, cut_all, List.map_append, List.map_cons, List.map_nil, List.nil_append, List.cons_append, List.append_nil, List.replicate, Int.reduceLT, Int.reduceLE, Int.reduceAdd, Int.reduceSub, Int.reduceMul, Int.reduceNeg, Int.reduceToNat, Nat.reduceAdd, Nat.reduceSub, Nat.reduceLT, Nat.reduceLeDiff, Nat.reduceMul, Int.reduceEq, Nat.reduceEqDiff, Bool.not_true, Bool.not_false, Bool.and_true, Bool.true_and, Bool.and_false, Bool.false_and, Bool.or_true, Bool.true_or, Bool.or_false, Bool.false_or, Bool.and_self, Bool.or_self, reduceCtorEq, decide_eq_true_eq, Bool.false_eq_true, fLc_e, fLcL_e, lcF_nil, fJoin_e, rJoin_e, dJoin_l, oPop_ok, oPop_2, oPop_1, cast_0, cast_1, cast_2, cast_3, at_0, at_1, at_2, at_3, at_4, at_5, at_6, Int.reduceBEq, Nat.reduceBEq, oApp_ok, oExt_ok, *])
theorem abm_ok (i : Int) (h0 : 0 ≤ i) (h1 : i < 3) : ∃ c : Str, Sok c ∧ c.length = 1 ∧ dIx (.str "abm") (.int i) = some (.str c) := by
  obtain ⟨c, hc, e⟩ := abm (z := "abm") (c0 := 97) (c1 := 98) (c2 := 109) (by decide +kernel) i h0 h1
  refine ⟨_, ?_, rfl, e⟩
  rcases hc with rfl | rfl | rfl <;> decide +kernel
theorem name_ok (d : Int) (h : 0 ≤ d) : ∃ x : Str, Sok x ∧ x.length ≤ 3 ∧ m__law_name [.int d] = .ok (.str x) := by
  obtain ⟨c, hc, hl, ce⟩ := abm_ok (d % 3) (by omega) (by omega)
  have hn : ((d / 3 % 3).toNat : Int) = d / 3 % 3 := Int.toNat_of_nonneg (by omega)
  have sm : small62 (d / 3 % 3) = true := small62_by (by omega)
  obtain ⟨δ', h1, x, d', s2, h2, h3, h4, h5⟩ := loopF_range (put := pName 2) (body := l1__law_name) (lo := 0) (n := (d / 3 % 3).toNat) (δ := [.fz (.int d), .fz (.str c), .un])
    (fun k δ => ∃ (x : Str) (d' : Int) (s2 : DS), Sok x ∧ x.length ≤ k + 1 ∧ 0 ≤ d' ∧ δ = [.fz (.int d'), .fz (.str x), s2])
    ⟨c, d, .un, hc, by omega, h, rfl⟩ (fun k δ hk h => by
      obtain ⟨x, d', s2, h1, h2, h3, rfl⟩ := h
      refine ⟨_, rfl, ?_⟩
      obtain ⟨c2, hc2, hl2, ce2⟩ := abm_ok (d' / 9 % 3) (by omega) (by omega)
      have ok : okLe (x.length + c2.length) = true := okLe_by (by omega)
      refine ⟨[.fz (.int (d' / 9)), .fz (.str (x ++ c2)), .fz (.int (0 + (k : Nat)))], .inl ?_, _, _, _, h1.app hc2, ?_, by omega, rfl⟩
      · clear hl2
        unfold l1__law_name
        walk_at "ev"
      · have e : (x ++ c2).length = x.length + c2.length := Array.size_append
        omega)
  refine ⟨x, h2, by omega, ?_⟩
  subst h5
  unfold m__law_name b__law_name
  walk_at "ev"
end LW

/-! MShow: show. -/
namespace LW
open PySem PySem.Spec PyProof.Rows DL
local macro_rules | `(tactic| walk_at "ev") => `(tactic| simp only [R.bind_ok, R.bind_bad, R.bind_exc, R.of_some, R.of_none, O.on_ok, O.on_bad, O.on_exc, fVar_0, fVar_s, fOwn_0, fOwn_s, fC_e, fU_e, fB_e, fNil_e, fCons_e, fL_e, fCall_e, fTup_e, fLst_e, rIf_t, rIf_f, fIf_e, tBl_e, fTest_e, fTru_e, fNotB_e, fAndB_e, fOrB_e, fVal_e, fAnd_e, fOr_e, fNo_e, tInt_e, fSome_e, fSl_e, fSlOw_e, fLenOw_e, fIxOw_e, fInOw_e, thn_nx, thn_rt, thn_bk, thn_ct, thn_exc, thn_bad, fSeq_e, oIf_t, oIf_f, oIf_exc, fIfS_e, fSkip_e, fRet_e, fExp_e, fSet_e, fNew_e, fApp_e, fExt_e, fPop_e, fPut_e, fFrz_e, frz_0o, frz_s, fFor_e, fItems_e, fRange_e, fAsg_e, oMat_e, fMatch_e, fAug_e, fin_rt, fin_nx, fin_exc, runD_e, pName_e, pNil_e, pCons_e, pTup_e, dAdd_ii, dAdd_ss, dAdd_ll, dAdd_tt, dSub_ii, dMul_ii, dMul_li, dFdiv_ii, dMod_ii, dNeg_i, dLt_ii, dLe_ii, dGt_ii, dGe_ii, dIx_l, dIx_t, dIx_c, dIx_s, dLen_l, dLen_t, dLen_c, dLen_s, dAbs_i, dMax2_ii, dMin2_ii, dInt_i, dStr_i, dStr_s, dList_l, dList_t, dTuple_l, dTuple_t, dCut_l, dCut_t, dItems_l, dItems_t, dItems_s, dRange_1, dRange_2, dIsN_e, dNotN_e, isNon_n, isNon_b, isNon_i, isNon_s, isNon_t, isNon_l, isNon_o, dIsi_n, dIsi_b, dIsi_i, dIsi_s, dIsi_t, dIsi_l, dIn_e, dNotIn_e, dEqB_ss, dEqB_ii, dInB_strs, dInB_strsT, dEq_e, dNe_e, beq_self_eq_true, List.set_cons_zero, List.set_cons_succ, List.length_cons, List.length_nil, List.length_map, List.length_append, Option.map_some, Option.map_none, Option.bind_some, Option.bind_none, if_true, if_false, ite_true, ite_false, decide_true, decide_false, and_self, true_and, and_true, Int.zero_add, Int.toNat_natCast, cut_tl, cut_all, List.map_append, List.map_cons, List.map_nil, List.nil_append, List.cons_append, List.append_nil, List.replicate, Int.reduceLT, Int.reduceLE, Int.reduceAdd, Int.reduceSub, Int.reduceMul, Int.reduceNeg, Int.reduceToNat, Nat.reduceAdd, Nat.reduceSub, Nat.reduceLT, Nat.reduceLeDiff, Nat.reduceMul, Int.reduceEq, Nat.reduceEqDiff, Bool.not_true, Bool.not_false, Bool.and_true, Bool.true_and, Bool.and_false, Bool.false_and, Bool.or_true, Bool.true_or, Bool.or_false, Bool.false_or, Bool.and_self, Bool.or_self, reduceCtorEq, decide_eq_true_eq, Bool.false_eq_true, fLc_e, fLcL_e, lcF_nil, fJoin_e, rJoin_e, dJoin_l, oPop_ok, oPop_2, oPop_1, cast_0, cast_1, cast_2, cast_3, at_0, at_1, at_2, at_3, at_4, at_5, at_6, Int.reduceBEq, Nat.reduceBEq, oApp_ok, oExt_ok, *])
theorem show_ok : ∀ (n : Nat) (t : Trm), t.dep < n → t.shw → t.txt.length ≤ 1000000 → m_show n [t.enc] = .ok (.str t.txt)
  | 0, t, h, _, _ => absurd h (Nat.not_lt_zero _)
  | n + 1, .item i, _, h, hl => by
    rw [shw_item] at h
    rw [txt_item, str_app_len] at hl
    have h2 : i.natAbs.log2 < 1920 := by omega
    have ok : okLe (("x" : Str).length + (Str.ofString (toString i)).length) = true := okLe_by (by omega)
    rw [enc_item, txt_item]
    clear h hl
    unfold m_show b_show
    walk_at "ev"
  | n + 1, .call f [], _, _, _ => by
    rw [enc_call, txt_call0]
    have ic := item_ne_call
    have e : encL [] = [] := by unfold encL; rfl
    unfold m_show b_show
    walk_at "ev"
  | n + 1, .call f (t :: ts), hd, hs, hl => by
    rw [dep_call] at hd
    rw [shw_call] at hs
    rw [txt_call, str_app_len, str_app_len, str_app_len] at hl
    have jl := join_len "," (txtL (t :: ts)) (by rw [txtL_cons]; simp)
    have l1 : (("," : Str)).length = 1 := by decide +kernel
    have lp : (("(" : Str)).length = 1 := by decide +kernel
    have lq : ((")" : Str)).length = 1 := by decide +kernel
    have ih : ∀ u ∈ (t :: ts), fCall (m_show n) (fCons (fVar 1) fNil) (([.fz (.tup [.str "call", .str f, .tup (encL (t :: ts))]), .un] : DSt).set 1 (.fz u.enc)) = .ok (.str u.txt) := fun u hu => by
      have hu2 : u.txt ∈ txtL (t :: ts) := by rw [txtL_map]; exact List.mem_map_of_mem hu
      have := len_mem _ _ hu2
      show m_show n [u.enc] = _
      exact show_ok n u (by have := dep_mem u hu; omega) (shw_mem hs u hu) (by omega)
    have hn : (t :: ts).length ≤ 1000002 := by
      have e : (txtL (t :: ts)).length = (t :: ts).length := by rw [txtL_map, List.length_map]
      rw [l1, Nat.mul_one, e] at jl
      omega
    have lc := lcF_all (i := 1) (f := fCall (m_show n) (fCons (fVar 1) fNil)) (δ := [.fz (.tup [.str "call", .str f, .tup (encL (t :: ts))]), .un]) (g := Trm.enc) (h := fun u => D.str u.txt) (xs := t :: ts) (acc := []) ih (by rw [List.length_nil]; omega)
    have em : (t :: ts).map (fun u => D.str u.txt) = (txtL (t :: ts)).map .str := by rw [txtL_map, List.map_map]; rfl
    rw [List.nil_append, em, ← encL_map] at lc
    have jo : joinOk "," (txtL (t :: ts)) = true := joinOk_by (by omega)
    have ic := item_ne_call
    have nz : (((encL (t :: ts)).length : Int) == 0) = false := by
      rw [encL_len, List.length_cons]
      rw [Bool.eq_false_iff]
      intro z
      have := eq_of_beq z
      omega
    have o1 : okLe (f.length + ("(" : Str).length) = true := okLe_by (by omega)
    have o2 : okLe ((f ++ ("(" : Str)).length + (Str.join "," (txtL (t :: ts))).length) = true := okLe_by (by rw [str_app_len]; omega)
    have o3 : okLe ((f ++ ("(" : Str) ++ Str.join "," (txtL (t :: ts))).length + (")" : Str).length) = true := okLe_by (by rw [str_app_len, str_app_len]; omega)
    rw [enc_call, txt_call]
    clear ih hn em jl l1 lp lq hl hs hd
    generalize encL (t :: ts) = es at *
    generalize txtL (t :: ts) = ys at *
    unfold m_show b_show
    walk_at "ev"
end LW

/-! M02: law_k02. -/
namespace LW
open PySem PySem.Spec PyProof.Rows DL
local macro_rules | `(tactic| walk_at "ev") => `(tactic| simp only [R.bind_ok, R.bind_bad, R.bind_exc, R.of_some, R.of_none, O.on_ok, O.on_bad, O.on_exc, fVar_0, fVar_s, fOwn_0, fOwn_s, fC_e, fU_e, fB_e, fNil_e, fCons_e, fL_e, fCall_e, fTup_e, fLst_e, rIf_t, rIf_f, fIf_e, tBl_e, fTest_e, fTru_e, fNotB_e, fAndB_e, fOrB_e, fVal_e, fAnd_e, fOr_e, fNo_e, tInt_e, fSome_e, fSl_e, fSlOw_e, fLenOw_e, fIxOw_e, fInOw_e, thn_nx, thn_rt, thn_bk, thn_ct, thn_exc, thn_bad, fSeq_e, oIf_t, oIf_f, oIf_exc, fIfS_e, fSkip_e, fRet_e, fExp_e, fSet_e, fNew_e, fApp_e, fExt_e, fPop_e, fPut_e, fFrz_e, frz_0o, frz_s, fFor_e, fItems_e, fRange_e, fAsg_e, oMat_e, fMatch_e, fAug_e, fin_rt, fin_nx, fin_exc, runD_e, pName_e, pNil_e, pCons_e, pTup_e, dAdd_ii, dAdd_ss, dAdd_ll, dAdd_tt, dSub_ii, dMul_ii, dMul_li, dFdiv_ii, dMod_ii, dNeg_i, dLt_ii, dLe_ii, dGt_ii, dGe_ii, dIx_l, dIx_t, dIx_c, dIx_s, dLen_l, dLen_t, dLen_c, dLen_s, dAbs_i, dMax2_ii, dMin2_ii, dInt_i, dStr_i, dStr_s, dList_l, dList_t, dTuple_l, dTuple_t, dCut_l, dCut_t, dItems_l, dItems_t, dItems_s, dRange_1, dRange_2, dIsN_e, dNotN_e, isNon_n, isNon_b, isNon_i, isNon_s, isNon_t, isNon_l, isNon_o, dIsi_n, dIsi_b, dIsi_i, dIsi_s, dIsi_t, dIsi_l, dIn_e, dNotIn_e, dEqB_ss, dEqB_ii, dInB_strs, dInB_strsT, dEq_e, dNe_e, beq_self_eq_true, List.set_cons_zero, List.set_cons_succ, List.length_cons, List.length_nil, List.length_map, List.length_append, Option.map_some, Option.map_none, Option.bind_some, Option.bind_none, if_true, if_false, ite_true, ite_false, decide_true, decide_false, and_self, true_and, and_true, Int.zero_add, Int.toNat_natCast, cut_tl, cut_all, List.map_append, List.map_cons, List.map_nil, List.nil_append, List.cons_append, List.append_nil, List.replicate, Int.reduceLT, Int.reduceLE, Int.reduceAdd, Int.reduceSub, Int.reduceMul, Int.reduceNeg, Int.reduceToNat, Nat.reduceAdd, Nat.reduceSub, Nat.reduceLT, Nat.reduceLeDiff, Nat.reduceMul, Int.reduceEq, Nat.reduceEqDiff, Bool.not_true, Bool.not_false, Bool.and_true, Bool.true_and, Bool.and_false, Bool.false_and, Bool.or_true, Bool.true_or, Bool.or_false, Bool.false_or, Bool.and_self, Bool.or_self, reduceCtorEq, decide_eq_true_eq, Bool.false_eq_true, fLc_e, fLcL_e, lcF_nil, fJoin_e, rJoin_e, dJoin_l, oPop_ok, oPop_2, oPop_1, cast_0, cast_1, cast_2, cast_3, at_0, at_1, at_2, at_3, at_4, at_5, at_6, Int.reduceBEq, Nat.reduceBEq, oApp_ok, oExt_ok, *])
def ent (t : Trm) : D := .lst [t.enc, .str t.txt, .int t.dep]
theorem i0 (t : Trm) : dIx (ent t) (.int 0) = some t.enc := rfl
theorem i1 (t : Trm) : dIx (ent t) (.int 1) = some (.str t.txt) := rfl
theorem i2 (t : Trm) : dIx (ent t) (.int 2) = some (.int t.dep) := rfl
theorem lx : ("x" : Str).length = 1 := by decide +kernel
def T35 : Int := 100000000000000000000000000000000000
theorem pow35 : dPow (.int 10) (.int 35) = some (.int T35) := by
  have h : powOk 10 35 = true := by decide
  show (if powOk 10 35 = true then some (D.int (10 ^ Int.toNat 35)) else none) = _
  rw [if_pos h]
  rfl
theorem ent_item (i : Int) : ent (.item i) = .lst [.tup [.str "item", .int i], .str (("x" : Str) ++ Str.ofString (toString i)), .int 0] := by
  unfold ent
  rw [enc_item, txt_item, dep_item]
  rfl
theorem ent_call0 (x : Str) : ent (.call x []) = .lst [.tup [.str "call", .str x, .tup []], .str x, .int 1] := by
  unfold ent
  rw [enc_call, txt_call0, dep_call, depL_nil]
  rfl
theorem ent_call1 (x : Str) (a : Trm) : ent (.call x [a]) = .lst [.tup [.str "call", .str x, .tup [a.enc]], .str (x ++ ("(" : Str) ++ a.txt ++ (")" : Str)), .int (1 + a.dep)] := by
  unfold ent
  rw [enc_call, txt_call, dep_call, depL_cons, depL_nil, encL_cons, txtL_cons, txtL_nil]
  have e : ((max a.dep 0 + 1 : Nat) : Int) = 1 + a.dep := by omega
  rw [e]
  rfl
theorem str_app_assoc (x y z : Str) : x ++ y ++ z = x ++ (y ++ z) := congrArg Str.mk Array.append_assoc
theorem ent_call2 (x : Str) (a b : Trm) (m : Nat) (h : m = max a.dep b.dep) : ent (.call x [a, b]) = .lst [.tup [.str "call", .str x, .tup [a.enc, b.enc]], .str (x ++ ("(" : Str) ++ a.txt ++ ("," : Str) ++ b.txt ++ (")" : Str)), .int (1 + m)] := by
  unfold ent
  rw [enc_call, txt_call, dep_call, depL_cons, depL_cons, depL_nil, encL_cons, encL_cons, txtL_cons, txtL_cons, txtL_nil]
  have e : ((max a.dep (max b.dep 0) + 1 : Nat) : Int) = 1 + m := by omega
  rw [e]
  have e2 : Str.join "," [a.txt, b.txt] = a.txt ++ ("," : Str) ++ b.txt := rfl
  rw [e2, str_app_assoc (x ++ ("(" : Str)) a.txt, str_app_assoc (x ++ ("(" : Str)) (a.txt ++ ("," : Str))]
  rfl
theorem log_lt {n k : Nat} (h : n < 2 ^ (k + 1)) : n.log2 < k + 1 := by
  by_cases z : n = 0
  · subst z; simp
  · exact (Nat.log2_lt z).mpr h
theorem txt_int {p : Int} {k : Nat} (hk : 0 < k) (h : p.natAbs.log2 < k) : (Str.ofString (toString p)).length ≤ k + 1 := by
  rw [PySem.ofString_length]
  exact int_text_length_le hk h
theorem place_ok (d : Int) (h : 0 ≤ d) (h2 : d < 1000000) : ((d / 4 % 4 == 1) = false ∧ (d / 4).natAbs.log2 < 1900 ∧ (Str.ofString (toString (d / 4))).length ≤ 300) ∨
    ((d / 4 % 4 == 1) = true ∧ mulOk (d / 4) T35 = true ∧ (d / 4 * T35).natAbs.log2 < 1900 ∧ (Str.ofString (toString (d / 4 * T35))).length ≤ 300) := by
  by_cases c : d / 4 % 4 = 1
  · refine .inr ⟨by rw [c]; rfl, mulOk_l (lim_by (by show Int.natAbs _ < 18446744073709551616; omega)), ?_⟩
    have b : (d / 4 * T35).natAbs < 2 ^ 250 := by
      rw [Int.natAbs_mul]
      have b1 : (d / 4).natAbs ≤ 1000000 := by omega
      exact Nat.lt_of_le_of_lt (Nat.mul_le_mul_right _ b1) (by decide +kernel)
    have l := log_lt (k := 249) b
    exact ⟨by omega, Nat.le_trans (txt_int (k := 250) (by decide) l) (by decide)⟩
  · refine .inl ⟨beq_eq_false_iff_ne.mpr c, ?_⟩
    have b : (d / 4).natAbs < 2 ^ 30 := by omega
    have l := log_lt (k := 29) b
    exact ⟨by omega, Nat.le_trans (txt_int (k := 30) (by decide) l) (by decide)⟩
section
variable {s0 s3' s4' s5' s6' s7' s8' s9' s10' s11' s12' : DS} {d : Int} {x : Str}
abbrev S13 (s0 : DS) (es : List D) (d : Int) (s3 s4 s5 s6 s7 s8 s9 s10 s11 s12 : DS) : DSt := [s0, .ow es, .fz (.int d), s3, s4, s5, s6, s7, s8, s9, s10, s11, s12]
theorem st_const (es : List D) (nm : m__law_name [.int (d / 4)] = .ok (.str x)) (ok : okLt es.length = true) (k : d % 4 = 1) :
    l1_law (S13 s0 es d s3' s4' s5' s6' s7' s8' s9' s10' s11' s12') = .nx (S13 s0 (es ++ [ent (.call x [])]) d (.fz (.int 1)) (.fz (.str x)) (.fz (.lst (cut es (some (-1)) none))) (.fz (.lst (cut es (some (-2)) (some (-1))))) s7' s8' s9' s10' s11' s12') := by
  have cl := call_ok (x := x) (as := []) (by decide)
  rw [ent_call0]
  unfold l1_law S13
  walk_at "ev"
theorem st_item0 (es : List D) (h : 0 ≤ d) (h2 : d < 1000000) (nm : m__law_name [.int (d / 4)] = .ok (.str x)) (ok : okLt es.length = true) (k : d % 4 = 0) : ∃ p : Int, p.natAbs.log2 < 1900 ∧ (Str.ofString (toString p)).length ≤ 300 ∧
    l1_law (S13 s0 es d s3' s4' s5' s6' s7' s8' s9' s10' s11' s12') = .nx (S13 s0 (es ++ [ent (.item p)]) d (.fz (.int 0)) (.fz (.str x)) (.fz (.lst (cut es (some (-1)) none))) (.fz (.lst (cut es (some (-2)) (some (-1))))) s7' s8' s9' (.fz (.int p)) s11' s12') := by
  have p35 := pow35
  have f4 : (0 : Int) < 4 := by decide

  rcases place_ok d h h2 with ⟨c, g1, g2⟩ | ⟨c, g3, g1, g2⟩
  · refine ⟨_, g1, g2, ?_⟩
    have cl := item_ok (i := d / 4)
    have o1 : okLe (("x" : Str).length + (Str.ofString (toString (d / 4))).length) = true := okLe_by (by rw [lx]; omega)
    have g1 : (d / 4).natAbs.log2 < 1920 := by omega
    rw [ent_item]
    clear g2 h h2
    unfold l1_law S13
    walk_at "ev"
  · refine ⟨_, g1, g2, ?_⟩
    have cl := item_ok (i := d / 4 * T35)
    have o1 : okLe (("x" : Str).length + (Str.ofString (toString (d / 4 * T35))).length) = true := okLe_by (by rw [lx]; omega)
    have g1 : (d / 4 * T35).natAbs.log2 < 1920 := by omega
    rw [ent_item]
    clear g2 h h2
    unfold l1_law S13
    walk_at "ev"
theorem st_item2 (us : List Trm) (a : Trm) (h : 0 ≤ d) (h2 : d < 1000000) (nm : m__law_name [.int (d / 4)] = .ok (.str x)) (ok : okLt (us.length + 1) = true) (q : ¬ (a.dep : Int) < 20) (k : d % 4 = 2) : ∃ p : Int, p.natAbs.log2 < 1900 ∧ (Str.ofString (toString p)).length ≤ 300 ∧
    l1_law (S13 s0 (us.map ent ++ [ent a]) d s3' s4' s5' s6' s7' s8' s9' s10' s11' s12') = .nx (S13 s0 (us.map ent ++ [ent a] ++ [ent (.item p)]) d (.fz (.int 2)) (.fz (.str x)) (.fz (.lst [ent a])) (.fz (.lst (cut (us.map ent ++ [ent a]) (some (-2)) (some (-1))))) s7' s8' s9' (.fz (.int p)) s11' s12') := by
  have p35 := pow35
  have f4 : (0 : Int) < 4 := by decide
  have c1 := cut_m1 (us.map ent) (ent a)
  have j4 := i2
  rcases place_ok d h h2 with ⟨c, g1, g2⟩ | ⟨c, g3, g1, g2⟩
  · refine ⟨_, g1, g2, ?_⟩
    have cl := item_ok (i := d / 4)
    have o1 : okLe (("x" : Str).length + (Str.ofString (toString (d / 4))).length) = true := okLe_by (by rw [lx]; omega)
    have g1 : (d / 4).natAbs.log2 < 1920 := by omega
    rw [ent_item]
    clear g2 h h2
    unfold l1_law S13
    walk_at "ev"
  · refine ⟨_, g1, g2, ?_⟩
    have cl := item_ok (i := d / 4 * T35)
    have o1 : okLe (("x" : Str).length + (Str.ofString (toString (d / 4 * T35))).length) = true := okLe_by (by rw [lx]; omega)
    have g1 : (d / 4 * T35).natAbs.log2 < 1920 := by omega
    rw [ent_item]
    clear g2 h h2
    unfold l1_law S13
    walk_at "ev"
theorem st_item2n  (h : 0 ≤ d) (h2 : d < 1000000) (nm : m__law_name [.int (d / 4)] = .ok (.str x))  (k : d % 4 = 2) : ∃ p : Int, p.natAbs.log2 < 1900 ∧ (Str.ofString (toString p)).length ≤ 300 ∧
    l1_law (S13 s0 [] d s3' s4' s5' s6' s7' s8' s9' s10' s11' s12') = .nx (S13 s0 [ent (.item p)] d (.fz (.int 2)) (.fz (.str x)) (.fz (.lst [])) (.fz (.lst [])) s7' s8' s9' (.fz (.int p)) s11' s12') := by
  have p35 := pow35
  have f4 : (0 : Int) < 4 := by decide
  have c1 := @cut_m1_0 D
  have c2 := @cut_m2_0 D
  have ok : okLt 0 = true := okLt_by (by decide)
  rcases place_ok d h h2 with ⟨c, g1, g2⟩ | ⟨c, g3, g1, g2⟩
  · refine ⟨_, g1, g2, ?_⟩
    have cl := item_ok (i := d / 4)
    have o1 : okLe (("x" : Str).length + (Str.ofString (toString (d / 4))).length) = true := okLe_by (by rw [lx]; omega)
    have g1 : (d / 4).natAbs.log2 < 1920 := by omega
    rw [ent_item]
    clear g2 h h2
    unfold l1_law S13
    walk_at "ev"
  · refine ⟨_, g1, g2, ?_⟩
    have cl := item_ok (i := d / 4 * T35)
    have o1 : okLe (("x" : Str).length + (Str.ofString (toString (d / 4 * T35))).length) = true := okLe_by (by rw [lx]; omega)
    have g1 : (d / 4 * T35).natAbs.log2 < 1920 := by omega
    rw [ent_item]
    clear g2 h h2
    unfold l1_law S13
    walk_at "ev"
theorem st_item3n  (h : 0 ≤ d) (h2 : d < 1000000) (nm : m__law_name [.int (d / 4)] = .ok (.str x))  (k : d % 4 = 3) : ∃ p : Int, p.natAbs.log2 < 1900 ∧ (Str.ofString (toString p)).length ≤ 300 ∧
    l1_law (S13 s0 [] d s3' s4' s5' s6' s7' s8' s9' s10' s11' s12') = .nx (S13 s0 [ent (.item p)] d (.fz (.int 3)) (.fz (.str x)) (.fz (.lst [])) (.fz (.lst [])) s7' s8' s9' (.fz (.int p)) s11' s12') := by
  have p35 := pow35
  have f4 : (0 : Int) < 4 := by decide
  have c1 := @cut_m1_0 D
  have c2 := @cut_m2_0 D
  have ok : okLt 0 = true := okLt_by (by decide)
  rcases place_ok d h h2 with ⟨c, g1, g2⟩ | ⟨c, g3, g1, g2⟩
  · refine ⟨_, g1, g2, ?_⟩
    have cl := item_ok (i := d / 4)
    have o1 : okLe (("x" : Str).length + (Str.ofString (toString (d / 4))).length) = true := okLe_by (by rw [lx]; omega)
    have g1 : (d / 4).natAbs.log2 < 1920 := by omega
    rw [ent_item]
    clear g2 h h2
    unfold l1_law S13
    walk_at "ev"
  · refine ⟨_, g1, g2, ?_⟩
    have cl := item_ok (i := d / 4 * T35)
    have o1 : okLe (("x" : Str).length + (Str.ofString (toString (d / 4 * T35))).length) = true := okLe_by (by rw [lx]; omega)
    have g1 : (d / 4 * T35).natAbs.log2 < 1920 := by omega
    rw [ent_item]
    clear g2 h h2
    unfold l1_law S13
    walk_at "ev"
theorem st_item3o (a : Trm) (h : 0 ≤ d) (h2 : d < 1000000) (nm : m__law_name [.int (d / 4)] = .ok (.str x))  (k : d % 4 = 3) : ∃ p : Int, p.natAbs.log2 < 1900 ∧ (Str.ofString (toString p)).length ≤ 300 ∧
    l1_law (S13 s0 [ent a] d s3' s4' s5' s6' s7' s8' s9' s10' s11' s12') = .nx (S13 s0 [ent a, ent (.item p)] d (.fz (.int 3)) (.fz (.str x)) (.fz (.lst [ent a])) (.fz (.lst [])) s7' s8' s9' (.fz (.int p)) s11' s12') := by
  have p35 := pow35
  have f4 : (0 : Int) < 4 := by decide
  have c1 := cut_m1 [] (ent a)
  rw [List.nil_append] at c1
  have c2 := cut_m2_1 (ent a)
  have ok : okLt 1 = true := okLt_by (by decide)
  rcases place_ok d h h2 with ⟨c, g1, g2⟩ | ⟨c, g3, g1, g2⟩
  · refine ⟨_, g1, g2, ?_⟩
    have cl := item_ok (i := d / 4)
    have o1 : okLe (("x" : Str).length + (Str.ofString (toString (d / 4))).length) = true := okLe_by (by rw [lx]; omega)
    have g1 : (d / 4).natAbs.log2 < 1920 := by omega
    rw [ent_item]
    clear g2 h h2
    unfold l1_law S13
    walk_at "ev"
  · refine ⟨_, g1, g2, ?_⟩
    have cl := item_ok (i := d / 4 * T35)
    have o1 : okLe (("x" : Str).length + (Str.ofString (toString (d / 4 * T35))).length) = true := okLe_by (by rw [lx]; omega)
    have g1 : (d / 4 * T35).natAbs.log2 < 1920 := by omega
    rw [ent_item]
    clear g2 h h2
    unfold l1_law S13
    walk_at "ev"
theorem st_item3 (us : List Trm) (a b : Trm) (m : Nat) (h : 0 ≤ d) (h2 : d < 1000000) (nm : m__law_name [.int (d / 4)] = .ok (.str x)) (ok : okLt (us.length + 2) = true) (hm : m = max a.dep b.dep) (q : ¬ (m : Int) < 20) (k : d % 4 = 3) : ∃ p : Int, p.natAbs.log2 < 1900 ∧ (Str.ofString (toString p)).length ≤ 300 ∧
    l1_law (S13 s0 (us.map ent ++ [ent a, ent b]) d s3' s4' s5' s6' s7' s8' s9' s10' s11' s12') = .nx (S13 s0 (us.map ent ++ [ent a, ent b] ++ [ent (.item p)]) d (.fz (.int 3)) (.fz (.str x)) (.fz (.lst [ent b])) (.fz (.lst [ent a])) s7' s8' s9' (.fz (.int p)) s11' s12') := by
  have p35 := pow35
  have f4 : (0 : Int) < 4 := by decide
  have c1 := cut_m1 (us.map ent ++ [ent a]) (ent b)
  rw [List.append_assoc] at c1
  have c1 : cut (us.map ent ++ [ent a, ent b]) (some (-1)) none = [ent b] := c1
  have c2 := cut_m2 (us.map ent) (ent a) (ent b)
  have j4 := i2
  have m1 : (if (a.dep : Int) > b.dep then (a.dep : Int) else b.dep) = m := by split <;> omega
  clear hm
  rcases place_ok d h h2 with ⟨c, g1, g2⟩ | ⟨c, g3, g1, g2⟩
  · refine ⟨_, g1, g2, ?_⟩
    have cl := item_ok (i := d / 4)
    have o1 : okLe (("x" : Str).length + (Str.ofString (toString (d / 4))).length) = true := okLe_by (by rw [lx]; omega)
    have g1 : (d / 4).natAbs.log2 < 1920 := by omega
    rw [ent_item]
    clear g2 h h2
    unfold l1_law S13
    walk_at "ev"
  · refine ⟨_, g1, g2, ?_⟩
    have cl := item_ok (i := d / 4 * T35)
    have o1 : okLe (("x" : Str).length + (Str.ofString (toString (d / 4 * T35))).length) = true := okLe_by (by rw [lx]; omega)
    have g1 : (d / 4 * T35).natAbs.log2 < 1920 := by omega
    rw [ent_item]
    clear g2 h h2
    unfold l1_law S13
    walk_at "ev"
theorem st_call1 (us : List Trm) (a : Trm) (nm : m__law_name [.int (d / 4)] = .ok (.str x)) (ok : okLt us.length = true) (hx : x.length ≤ 3) (ha : a.txt.length ≤ 100000) (k : d % 4 = 2) (q : (a.dep : Int) < 20) :
    l1_law (S13 s0 (us.map ent ++ [ent a]) d s3' s4' s5' s6' s7' s8' s9' s10' s11' s12') = .nx (S13 s0 (us.map ent ++ [ent (.call x [a])]) d (.fz (.int 2)) (.fz (.str x)) (.fz (.lst [ent a])) (.fz (.lst (cut (us.map ent ++ [ent a]) (some (-2)) (some (-1))))) s7' s8' (.fz (ent a)) s10' s11' s12') := by
  have cl := call_ok (x := x) (as := [a.enc]) (by simp)
  have c1 := cut_m1 (us.map ent) (ent a)
  have lp : (("(" : Str)).length = 1 := by decide +kernel
  have lq : ((")" : Str)).length = 1 := by decide +kernel
  have o1 : okLe (x.length + ("(" : Str).length) = true := okLe_by (by omega)
  have o2 : okLe ((x ++ ("(" : Str)).length + a.txt.length) = true := okLe_by (by rw [str_app_len]; omega)
  have o3 : okLe ((x ++ ("(" : Str) ++ a.txt).length + (")" : Str).length) = true := okLe_by (by rw [str_app_len, str_app_len]; omega)
  have j0 := i0
  have j1 := i1
  have j4 := i2
  clear ha hx lp lq
  rw [ent_call1]
  unfold l1_law S13
  walk_at "ev"
theorem st_call2 (us : List Trm) (a b : Trm) (m : Nat) (nm : m__law_name [.int (d / 4)] = .ok (.str x)) (ok : okLt us.length = true) (hx : x.length ≤ 3) (ha : a.txt.length + b.txt.length ≤ 100000) (k : d % 4 = 3) (hm : m = max a.dep b.dep) (q : (m : Int) < 20) :
    l1_law (S13 s0 (us.map ent ++ [ent a, ent b]) d s3' s4' s5' s6' s7' s8' s9' s10' s11' s12') = .nx (S13 s0 (us.map ent ++ [ent (.call x [a, b])]) d (.fz (.int 3)) (.fz (.str x)) (.fz (.lst [ent b])) (.fz (.lst [ent a])) (.fz (ent b)) (.fz (ent a)) s9' s10' s11' s12') := by
  have cl := call_ok (x := x) (as := [a.enc, b.enc]) (by simp)
  have c1 := cut_m1 (us.map ent ++ [ent a]) (ent b)
  rw [List.append_assoc] at c1
  have c1 : cut (us.map ent ++ [ent a, ent b]) (some (-1)) none = [ent b] := c1
  have c2 := cut_m2 (us.map ent) (ent a) (ent b)
  have lp : (("(" : Str)).length = 1 := by decide +kernel
  have lq : ((")" : Str)).length = 1 := by decide +kernel
  have lc : (("," : Str)).length = 1 := by decide +kernel
  have o1 : okLe (x.length + ("(" : Str).length) = true := okLe_by (by omega)
  have o2 : okLe ((x ++ ("(" : Str)).length + a.txt.length) = true := okLe_by (by rw [str_app_len]; omega)
  have o3 : okLe ((x ++ ("(" : Str) ++ a.txt).length + ("," : Str).length) = true := okLe_by (by rw [str_app_len, str_app_len]; omega)
  have o4 : okLe ((x ++ ("(" : Str) ++ a.txt ++ ("," : Str)).length + b.txt.length) = true := okLe_by (by rw [str_app_len, str_app_len, str_app_len]; omega)
  have o5 : okLe ((x ++ ("(" : Str) ++ a.txt ++ ("," : Str) ++ b.txt).length + (")" : Str).length) = true := okLe_by (by rw [str_app_len, str_app_len, str_app_len, str_app_len]; omega)
  have m1 : (if (a.dep : Int) > b.dep then (a.dep : Int) else b.dep) = m := by split <;> omega
  have m2 : (if (b.dep : Int) > a.dep then (b.dep : Int) else a.dep) = m := by split <;> omega
  have j0 := i0
  have j1 := i1
  have j4 := i2
  rw [ent_call2 x a b m hm]
  clear ha hm hx lp lq lc
  unfold l1_law S13
  walk_at "ev"
def G2 (n : Nat) (ts : List Trm) : Prop := (∀ t ∈ ts, t.shw ∧ t.dep ≤ 20 ∧ t.txt.length ≤ 400 * t.sz) ∧ szL ts ≤ n
theorem G2.snoc {n : Nat} {ts : List Trm} {t : Trm} (g : ∀ t ∈ ts, t.shw ∧ t.dep ≤ 20 ∧ t.txt.length ≤ 400 * t.sz) (h1 : t.shw) (h2 : t.dep ≤ 20) (h4 : t.txt.length ≤ 400 * t.sz) (h3 : szL ts + t.sz ≤ n) : G2 n (ts ++ [t]) := by
  refine ⟨fun u hu => ?_, by rw [szL_app, szL_cons, szL_nil]; omega⟩
  rcases List.mem_append.mp hu with q | q
  · exact g u q
  · rw [List.mem_singleton.mp q]; exact ⟨h1, h2, h4⟩
theorem lp : (("(" : Str)).length = 1 := by decide +kernel
theorem lq : ((")" : Str)).length = 1 := by decide +kernel
theorem lc : (("," : Str)).length = 1 := by decide +kernel
theorem law_step (ts : List Trm) (n : Nat) (hn : n ≤ 200) (g : G2 n ts) (h : 0 ≤ d) (h2 : d < 1000000) :
    ∃ ts', G2 (n + 1) ts' ∧ ∃ s3 s4 s5 s6 s7 s8 s9 s10 s11 s12, l1_law (S13 s0 (ts.map ent) d s3' s4' s5' s6' s7' s8' s9' s10' s11' s12') = .nx (S13 s0 (ts'.map ent) d s3 s4 s5 s6 s7 s8 s9 s10 s11 s12) := by
  obtain ⟨x, hx, hxl, nm⟩ := name_ok (d / 4) (by omega)
  obtain ⟨g1, g2⟩ := g
  have hl := len_sz ts
  have itm : ∀ p : Int, p.natAbs.log2 < 1900 → (Str.ofString (toString p)).length ≤ 300 → G2 (n + 1) (ts ++ [.item p]) := fun p q1 q2 => G2.snoc g1 (by rw [shw_item]; exact q1) (by rw [dep_item]; omega) (by rw [txt_item, sz_item, str_app_len, lx]; omega) (by rw [sz_item]; omega)
  have hk : d % 4 = 0 ∨ d % 4 = 1 ∨ d % 4 = 2 ∨ d % 4 = 3 := by omega
  rcases hk with k | k | k | k
  · obtain ⟨p, q1, q2, st⟩ := st_item0 (s0 := s0) (s3' := s3') (s4' := s4') (s5' := s5') (s6' := s6') (s7' := s7') (s8' := s8') (s9' := s9') (s10' := s10') (s11' := s11') (s12' := s12') (ts.map ent) h h2 nm (okLt_by (by rw [List.length_map]; omega)) k
    exact ⟨_, itm p q1 q2, _, _, _, _, _, _, _, _, _, _, by rw [List.map_append]; exact st⟩
  · exact ⟨ts ++ [.call x []], G2.snoc g1 (by rw [shw_call, shwL_nil]; trivial) (by rw [dep_call, depL_nil]; omega) (by rw [txt_call0, sz_call]; omega) (by rw [sz_call, szL_nil]; omega), _, _, _, _, _, _, _, _, _, _, by rw [List.map_append]; exact st_const _ nm (okLt_by (by rw [List.length_map]; omega)) k⟩
  · rcases List.eq_nil_or_concat ts with rfl | ⟨us, a, rfl⟩
    · obtain ⟨p, q1, q2, st⟩ := st_item2n (s0 := s0) (s3' := s3') (s4' := s4') (s5' := s5') (s6' := s6') (s7' := s7') (s8' := s8') (s9' := s9') (s10' := s10') (s11' := s11') (s12' := s12') h h2 nm k
      exact ⟨_, itm p q1 q2, _, _, _, _, _, _, _, _, _, _, st⟩
    · rw [List.concat_eq_append] at *
      rw [List.length_append] at hl
      rw [szL_app, szL_cons, szL_nil] at g2
      simp only [List.length_cons, List.length_nil] at hl
      have ha := g1 a (List.mem_append_right _ List.mem_cons_self)
      have hu := len_sz us
      by_cases q : (a.dep : Int) < 20
      · exact ⟨us ++ [.call x [a]], G2.snoc (fun t ht => g1 t (List.mem_append_left _ ht)) (by rw [shw_call, shwL_cons, shwL_nil]; exact ⟨ha.1, trivial⟩) (by rw [dep_call, depL_cons, depL_nil]; omega)
          (by rw [txt_call, sz_call, szL_cons, szL_nil, txtL_cons, txtL_nil, str_app_len, str_app_len, str_app_len, lp, lq]; show x.length + 1 + a.txt.length + 1 ≤ _; omega) (by rw [sz_call, szL_cons, szL_nil]; omega), _, _, _, _, _, _, _, _, _, _, by rw [List.map_append, List.map_append]; exact st_call1 us a nm (okLt_by (by omega)) hxl (by omega) k q⟩
      · obtain ⟨p, q1, q2, st⟩ := st_item2 (s0 := s0) (s3' := s3') (s4' := s4') (s5' := s5') (s6' := s6') (s7' := s7') (s8' := s8') (s9' := s9') (s10' := s10') (s11' := s11') (s12' := s12') us a h h2 nm (okLt_by (by omega)) q k
        exact ⟨_, itm p q1 q2, _, _, _, _, _, _, _, _, _, _, by rw [List.map_append, List.map_append, List.map_append]; exact st⟩
  · rcases shape3 ts with rfl | ⟨a, rfl⟩ | ⟨us, a, b, rfl⟩
    · obtain ⟨p, q1, q2, st⟩ := st_item3n (s0 := s0) (s3' := s3') (s4' := s4') (s5' := s5') (s6' := s6') (s7' := s7') (s8' := s8') (s9' := s9') (s10' := s10') (s11' := s11') (s12' := s12') h h2 nm k
      exact ⟨_, itm p q1 q2, _, _, _, _, _, _, _, _, _, _, st⟩
    · obtain ⟨p, q1, q2, st⟩ := st_item3o (s0 := s0) (s3' := s3') (s4' := s4') (s5' := s5') (s6' := s6') (s7' := s7') (s8' := s8') (s9' := s9') (s10' := s10') (s11' := s11') (s12' := s12') a h h2 nm k
      exact ⟨_, itm p q1 q2, _, _, _, _, _, _, _, _, _, _, st⟩
    · rw [szL_app, szL_cons, szL_cons, szL_nil] at g2
      have ha := g1 a (List.mem_append_right _ List.mem_cons_self)
      have hb := g1 b (List.mem_append_right _ (List.mem_cons_of_mem _ List.mem_cons_self))
      have hu := len_sz us
      by_cases q : ((max a.dep b.dep : Nat) : Int) < 20
      · exact ⟨us ++ [.call x [a, b]], G2.snoc (fun t ht => g1 t (List.mem_append_left _ ht)) (by rw [shw_call, shwL_cons, shwL_cons, shwL_nil]; exact ⟨ha.1, hb.1, trivial⟩) (by rw [dep_call, depL_cons, depL_cons, depL_nil]; omega)
          (by rw [txt_call, sz_call, szL_cons, szL_cons, szL_nil, txtL_cons, txtL_cons, txtL_nil, str_app_len, str_app_len, str_app_len, lp, lq, show Str.join "," [a.txt, b.txt] = a.txt ++ ("," : Str) ++ b.txt from rfl, str_app_len, str_app_len, lc]; omega) (by rw [sz_call, szL_cons, szL_cons, szL_nil]; omega), _, _, _, _, _, _, _, _, _, _, by rw [List.map_append, List.map_append]; exact st_call2 us a b _ nm (okLt_by (by omega)) hxl (by omega) k rfl q⟩
      · obtain ⟨p, q1, q2, st⟩ := st_item3 (s0 := s0) (s3' := s3') (s4' := s4') (s5' := s5') (s6' := s6') (s7' := s7') (s8' := s8') (s9' := s9') (s10' := s10') (s11' := s11') (s12' := s12') us a b _ h h2 nm (okLt_by (by omega)) rfl q k
        exact ⟨_, itm p q1 q2, _, _, _, _, _, _, _, _, _, _, by rw [List.map_append, List.map_append, List.map_append]; exact st⟩
end
theorem loop_all {s0 s1 s2 s3 s4 s5 s6 s7 s8 s9 s10 : DS} : ∀ (ts : List Trm) (s11 s12 : DS), (∀ t ∈ ts, t.shw ∧ t.dep ≤ 20 ∧ t.txt.length ≤ 1000000) →
    ∃ s11' s12', loopF (pName 11) l2_law (ts.map ent) [s0, s1, s2, s3, s4, s5, s6, s7, s8, s9, s10, s11, s12] = .nx [s0, s1, s2, s3, s4, s5, s6, s7, s8, s9, s10, s11', s12']
  | [], s11, s12, _ => ⟨s11, s12, rfl⟩
  | t :: ts, s11, s12, h => by
    obtain ⟨s', s'', ih⟩ := loop_all (s0 := s0) (s1 := s1) (s2 := s2) (s3 := s3) (s4 := s4) (s5 := s5) (s6 := s6) (s7 := s7) (s8 := s8) (s9 := s9) (s10 := s10) ts (.fz (ent t)) (.fz (.str t.txt)) (fun u hu => h u (List.mem_cons_of_mem _ hu))
    obtain ⟨h1, h2, h3⟩ := h t List.mem_cons_self
    refine ⟨s', s'', ?_⟩
    rw [← ih, List.map_cons]
    refine loopF_nx (put := pName 11) (d := ent t) (δ := [s0, s1, s2, s3, s4, s5, s6, s7, s8, s9, s10, s11, s12]) (δ1 := [s0, s1, s2, s3, s4, s5, s6, s7, s8, s9, s10, .fz (ent t), s12]) rfl ?_
    have r := show_ok 60 t (by omega) h1 h3
    have j0 := i0
    have j1 := i1
    have iss : isT "str" "str" = true := rfl
    clear ih h h1 h2 h3
    unfold l2_law
    walk_at "ev"
theorem law_true (ns : List Int) (hn : ns.length ≤ 63) : m_law [.scr (ns.map .int)] = .ok (.bl true) := by
  obtain ⟨ds, hl, hd, dr⟩ := draws_ok ns hn 63 (by omega)
  obtain ⟨δ', h1, h2⟩ := loopF_ind (put := pName 2) (body := l1_law) (items := ds.map .int) (δ := [.fz (.scr (ns.map .int)), .ow [], .un, .un, .un, .un, .un, .un, .un, .un, .un, .un, .un])
    (fun pre δ => ∃ (ts : List Trm) (s2 s3 s4 s5 s6 s7 s8 s9 s10 s11 s12 : DS), G2 pre.length ts ∧ δ = [.fz (.scr (ns.map .int)), .ow (ts.map ent), s2, s3, s4, s5, s6, s7, s8, s9, s10, s11, s12])
    ⟨[], _, _, _, _, _, _, _, _, _, _, _, ⟨fun t h => (by cases h), by rw [szL_nil]; exact Nat.zero_le _⟩, rfl⟩ (fun pre d post δ e h => by
      obtain ⟨ts, s2, s3, s4, s5, s6, s7, s8, s9, s10, s11, s12, g, rfl⟩ := h
      have hm : d ∈ ds.map D.int := by rw [e]; exact List.mem_append_right _ List.mem_cons_self
      obtain ⟨i, hi, rfl⟩ := List.mem_map.mp hm
      have hp : pre.length ≤ 63 := by
        have := congrArg List.length e
        rw [List.length_map, List.length_append] at this
        omega
      obtain ⟨ts', g', t3, t4, t5, t6, t7, t8, t9, t10, t11, t12, st⟩ := law_step (s0 := .fz (.scr (ns.map .int))) (s3' := s3) (s4' := s4) (s5' := s5) (s6' := s6) (s7' := s7) (s8' := s8) (s9' := s9) (s10' := s10) (s11' := s11) (s12' := s12) ts pre.length (by omega) g (hd i hi).1 (hd i hi).2
      exact ⟨_, rfl, _, .inl st, ts', _, _, _, _, _, _, _, _, _, _, _, by rw [List.length_append]; exact g', rfl⟩)
  obtain ⟨ts, s2, s3, s4, s5, s6, s7, s8, s9, s10, s11, s12, g, rfl⟩ := h2
  have gz : ∀ t ∈ ts, t.shw ∧ t.dep ≤ 20 ∧ t.txt.length ≤ 1000000 := fun t ht => ⟨(g.1 t ht).1, (g.1 t ht).2.1, by
    have a0 := (g.1 t ht).2.2
    have a1 := sz_mem t ht
    have a2 := g.2
    rw [List.length_map] at a2
    omega⟩
  obtain ⟨s11', s12', lp⟩ := loop_all (s0 := .fz (.scr (ns.map .int))) (s1 := .fz (.lst (ts.map ent))) (s2 := s2) (s3 := s3) (s4 := s4) (s5 := s5) (s6 := s6) (s7 := s7) (s8 := s8) (s9 := s9) (s10 := s10) ts s11 s12 gz
  have dr : m__law_draws [.scr (ns.map .int), .int 63] = .ok (.lst (ds.map .int)) := dr
  clear g gz hd hl hn
  unfold m_law b_law
  walk_at "ev"
end LW

namespace LW
open PySem PySem.Spec PyProof.Rows L2 DL
abbrev RR : PySem.W.OpenRow := PySem.W.OpenLaw.row PySem.Challenge.rw_unlookedlists_k02_show
abbrev qv : Program := PySem.W.view RR.prog [7]
def loose : List PySem.Str := ([PySem.Str.ofString "__name__", PySem.Str.ofString "item", PySem.Str.ofString "call", PySem.Str.ofString "show", PySem.Str.ofString "_law_draws", PySem.Str.ofString "_law_name"] : List PySem.Str)
abbrev hk : PySem.W.Hook := hookX 5 fa ex fn
def ob (s : PySem.W.SharedT) : AlX := obsXG 5 fa ex fn (HandSHeadRun.getT s)
theorem ob_eq (s : PySem.W.SharedT) : ob s = hk.obs s.abs := obsXG_eq (HandSHeadRun.getT_eq s)
theorem run (w : World) : HandSHeadRun.RunEq RR qv hk ob 20000 loose w := by
  intro os
  kernel_rfl
theorem facts {w : World} {K : PySem.W.Frag} {h : Heap} {mg : Str → Option Value} {f : Addr} (X : K.In h) (G : h.Ns mainGlobals mg) (hfa : mg ("law" : Str) = some (.ref f)) (c : obsX fa ex fn K = valX fn) :
    ∃ (K : PySem.W.Frag) (fd : FuncData) (sp : Sp), K.In h ∧ (∀ (s : Shared) (u : Value), BindsTo s fd ⟨[u], []⟩ [(("_law_script" : Str), u)]) ∧
      (∀ (H : Hp) (a : Addr) (ns : List Int), ns.length ≤ 63 → Only H → SqL K H a (ns.map V.int) → sp [.ref a] H (fun v _ => v = .bl true) fun _ _ _ => False) ∧
      ∀ base : Heap, K.In base → base.Ns mainGlobals mg → FnOk PySem.Challenge.pw_unlookedlists_k02_show w K mg base (L2.CX PySem.Challenge.pw_unlookedlists_k02_show w) 61 f fd ["_law_script"] sp := by
  have T : TT K mg := ⟨c, h, X, G⟩
  obtain ⟨fd, hb, hF⟩ := ok_law (P := PySem.Challenge.pw_unlookedlists_k02_show) (w := w) T
  have e := hfa.symm.trans (T.glo 0)
  cases e
  exact ⟨K, fd, _, X, hb, fun H a ns hl hO hS => law_sp (m := 63) law_true H hO a ns hl hS, fun base _ _ => hF base⟩
end LW
open PySem PySem.W PySem.Calls PyProof.Rows
set_option maxRecDepth 100000 in
set_option maxHeartbeats 0 in
theorem PySem.Challenge.cw_unlookedlists_k02_show_holds : PySem.Challenge.rw_unlookedlists_k02_show.Holds := by
  w_on; o_law
  refine HandSHeadRun.head_any (r := OpenLaw.row PySem.Challenge.rw_unlookedlists_k02_show) (q := LW.qv) (H := LW.hk) (ob := LW.ob) (M := 20000) (loose := LW.loose) (d := HandSHeadRun.topDef (OpenLaw.row PySem.Challenge.rw_unlookedlists_k02_show).prog 7) (kwd := []) LW.ob_eq
    (by kernel_rfl) (fun s => by kernel_rfl) LW.run (by kernel_rfl) (by kernel_rfl) (by kernel_rfl) (by rfl) (by first | assumption | decide +kernel) (by decide +kernel) ⟨rfl, rfl, rfl, rfl, rfl, by decide +kernel⟩ ?hw ?hc
  case hw => w_witness2
  case hc =>
    refine DL.walk_ofX (l := PySem.Challenge.rw_unlookedlists_k02_show) (n := 63) (k := 61) (x := "_law_script") rfl (by decide) (by kernel_rfl) ⟨rfl, by decide, by decide⟩ ?F
    intro w mg fa h Y G hmg0
    obtain ⟨K, KX, c⟩ := Y
    have hmg : mg ("law" : PySem.Str) = some (.ref fa) := by
      have e : (HandSHeadRun.topDef (OpenLaw.row PySem.Challenge.rw_unlookedlists_k02_show).prog 7).name = ("law" : PySem.Str) := by kernel_rfl
      rw [← e]
      exact hmg0
    exact LW.facts KX G hmg c
