import PyProof.Rows.All
import Wide.All
import OpenK.AllK
import Wide.FinOn
import HandS.ForMost
import HandS.ForExc
import HandS.Wide
import HandS.Defaults
import HandS.ExcInit
import HandS.ExcCtx
import HandS.CallSlots
import HandS.HeadHook2
import HandS.Comp
import HandS.IsInst
import HandS.HeadWalk
import HandS.Iter
import HandS.TryMany
import HandS.ExcField
import HandS.Small
import KE.KExcIs
import HandS.TupLen
import HandS.WordsDict
import HandS.Zip
import HandS.ClsMeth
import HandS.Codes
import HandS.WordsExc
import HandS.HeadHook4
import HandS.HeadEnd
import HandS.Head2
import PySem.Challenge.RW_groupbooks_k19_refusals_apart
import KE.KStateDown
import HandS.Head0
import HandS.Head1
set_option Elab.async false
set_option linter.all false
/-! A small evaluator of the Python that the program and the laws are written in: values, objects by number, results; what each operation gives. -/
namespace Ev
open PySem

/-- a value; tuples are values, lists, dicts and instances stand in the state by number -/
inductive U where
  | non | bl (b : Bool) | int (i : Int) | str (x : Str) | tup (us : List U) | ref (n : Nat)
  deriving Inhabited
/-- a key: an int or a text, or a tuple of such -/
inductive Ky where
  | k (a : L2.Key) | t (as : List L2.Key)
  deriving DecidableEq
/-- an object: a list, the script (read alone), a dict, an instance of a class, a dict that a loop walks -/
inductive O where
  | lst (us : List U) | ro (us : List U) | dic (kvs : List (Ky × U)) | ins (c : String) (fs : List (String × U)) | lck (kvs : List (Ky × U))
abbrev Sx := List O
/-- an exception of the program's own: class, fields, whether it was raised while another one was handled -/
structure Exn where
  cls : String
  fs : List (String × U)
  ch : Bool
inductive R (α : Type) where
  | ok (a : α) (S : Sx) | exc (e : Exn) (S : Sx) | stuck
def R.bind {α β : Type} : R α → (α → Sx → R β) → R β
  | .ok a S, f => f a S
  | .exc e S, _ => .exc e S
  | .stuck, _ => .stuck
@[simp] theorem R.bind_ok {α β : Type} (a : α) (S : Sx) (f : α → Sx → R β) : (R.ok a S).bind f = f a S := by simp only [R.bind]
@[simp] theorem R.bind_exc {α β : Type} (e : Exn) (S : Sx) (f : α → Sx → R β) : (R.exc e S).bind f = .exc e S := by simp only [R.bind]
@[simp] theorem R.bind_stuck {α β : Type} (f : α → Sx → R β) : R.stuck.bind f = .stuck := by simp only [R.bind]
/-- a value that must be there -/
def R.opt {α : Type} (o : Option α) (S : Sx) : R α := match o with
  | some a => .ok a S
  | none => .stuck
@[simp] theorem R.opt_some {α : Type} (a : α) (S : Sx) : R.opt (some a) S = .ok a S := by simp only [R.opt]
@[simp] theorem R.opt_none {α : Type} (S : Sx) : R.opt (none : Option α) S = .stuck := by simp only [R.opt]
abbrev Sl := List (Option U)
/-- a statement's end -/
inductive RS where
  | nx (σ : Sl) (S : Sx) | rt (u : U) (S : Sx) | bk (σ : Sl) (S : Sx) | ct (σ : Sl) (S : Sx) | exc (e : Exn) (σ : Sl) (S : Sx) | stuck
/-- an expression's result ahead of a statement's rest -/
def R.thenS {α : Type} : R α → Sl → (α → Sx → RS) → RS
  | .ok a S, _, f => f a S
  | .exc e S, σ, _ => .exc e σ S
  | .stuck, _, _ => .stuck
@[simp] theorem R.thenS_ok {α : Type} (a : α) (S : Sx) (σ : Sl) (f : α → Sx → RS) : (R.ok a S).thenS σ f = f a S := by simp only [R.thenS]
@[simp] theorem R.thenS_exc {α : Type} (e : Exn) (S : Sx) (σ : Sl) (f : α → Sx → RS) : (R.exc e S).thenS σ f = .exc e σ S := by simp only [R.thenS]
@[simp] theorem R.thenS_stuck {α : Type} (σ : Sl) (f : α → Sx → RS) : R.stuck.thenS σ f = .stuck := by simp only [R.thenS]
def RS.next : RS → (Sl → Sx → RS) → RS
  | .nx σ S, f => f σ S
  | r, _ => r
@[simp] theorem RS.next_nx (σ : Sl) (S : Sx) (f : Sl → Sx → RS) : (RS.nx σ S).next f = f σ S := by simp only [RS.next]
@[simp] theorem RS.next_rt (u : U) (S : Sx) (f : Sl → Sx → RS) : (RS.rt u S).next f = .rt u S := by simp only [RS.next]
@[simp] theorem RS.next_bk (σ : Sl) (S : Sx) (f : Sl → Sx → RS) : (RS.bk σ S).next f = .bk σ S := by simp only [RS.next]
@[simp] theorem RS.next_ct (σ : Sl) (S : Sx) (f : Sl → Sx → RS) : (RS.ct σ S).next f = .ct σ S := by simp only [RS.next]
@[simp] theorem RS.next_exc (e : Exn) (σ : Sl) (S : Sx) (f : Sl → Sx → RS) : (RS.exc e σ S).next f = .exc e σ S := by simp only [RS.next]
@[simp] theorem RS.next_stuck (f : Sl → Sx → RS) : RS.stuck.next f = .stuck := by simp only [RS.next]

/-! ### the state -/
def lstAt (S : Sx) : U → Option (List U)
  | .ref n => match S[n]? with
    | some (.lst us) => some us
    | some (.ro us) => some us
    | _ => none
  | _ => none
/-- a list or a tuple -/
def seqAt (S : Sx) : U → Option (List U)
  | .tup us => some us
  | u => lstAt S u
def dicAt (S : Sx) : U → Option (List (Ky × U))
  | .ref n => match S[n]? with
    | some (.dic kvs) => some kvs
    | some (.lck kvs) => if kvs.isEmpty = true then none else some kvs
    | _ => none
  | _ => none
def key1 : U → Option L2.Key
  | .int i => some (.inl i)
  | .str x => some (.inr x)
  | _ => none
def keys1 : List U → Option (List L2.Key)
  | [] => some []
  | u :: us => match key1 u, keys1 us with
    | some k, some ks => some (k :: ks)
    | _, _ => none
def keyOf : U → Option Ky
  | .tup us => (keys1 us).map .t
  | u => (key1 u).map .k
def k1U : L2.Key → U
  | .inl i => .int i
  | .inr x => .str x
def kyU : Ky → U
  | .k a => k1U a
  | .t as => .tup (as.map k1U)
def sameKind : Ky → Ky → Bool
  | .k _, .k _ => true
  | .t _, .t _ => true
  | _, _ => false
section
variable {κ β : Type} [DecidableEq κ]
def get' (kvs : List (κ × β)) (k : κ) : Option β := (kvs.find? fun kv => decide (kv.1 = k)).map (·.2)
def put' (kvs : List (κ × β)) (k : κ) (v : β) : List (κ × β) :=
  if (kvs.any fun kv => decide (kv.1 = k)) = true then kvs.map (fun kv => if kv.1 = k then (kv.1, v) else kv) else kvs ++ [(k, v)]
def drop' (kvs : List (κ × β)) (k : κ) : List (κ × β) := kvs.filter fun kv => decide (kv.1 ≠ k)
def putAll (kvs more : List (κ × β)) : List (κ × β) := more.foldl (fun acc kv => put' acc kv.1 kv.2) kvs
end
/-- all keys of one kind with k -/
def fits' (kvs : List (Ky × U)) (k : Ky) : Bool := kvs.all fun kv => sameKind kv.1 k
def fieldPut (f : String) (u : U) : List (String × U) → List (String × U)
  | [] => [(f, u)]
  | (g, v) :: r => if g = f then (g, u) :: r else (g, v) :: fieldPut f u r
def new (o : O) (S : Sx) : R U := .ok (.ref S.length) (S ++ [o])

/-! ### data as a whole -/
section
variable {β : Type}
def optAll (f : U → Option β) : List U → Option (List β)
  | [] => some []
  | u :: us => match f u, optAll f us with
    | some d, some ds => some (d :: ds)
    | _, _ => none
end
/-- the data that a value is, n deep at most -/
def dat (S : Sx) : Nat → U → Option PyData
  | 0, _ => none
  | n + 1, u => match u with
    | .non => some .none
    | .bl b => some (.bool b)
    | .int i => some (.int i)
    | .str x => some (.str x)
    | .tup us => (optAll (dat S n) us).map .tuple
    | .ref r => match S[r]? with
      | some (.lst us) => (optAll (dat S n) us).map .list
      | some (.ro us) => (optAll (dat S n) us).map .list
      | _ => none
/-- u == v: data alone -/
def eqD (S : Sx) (u v : U) : Option Bool := match dat S 60 u, dat S 60 v with
  | some d, some e => if (SeqAt.shaped d && SeqAt.shaped e) = true then some (PyData.eqv d e) else none
  | _, _ => none

/-! ### operations -/
def flatU : U → Bool
  | .non => true
  | .bl _ => true
  | .int _ => true
  | .str _ => true
  | _ => false
/-- == of flat values -/
def eqF : U → U → Bool
  | .non, .non => true
  | .bl a, .bl b => a == b
  | .bl a, .int b => (if a then 1 else 0) == b
  | .int a, .bl b => a == (if b then 1 else 0)
  | .int a, .int b => a == b
  | .str a, .str b => a == b
  | _, _ => false
def opAdd : U → U → Sx → R U
  | .int i, .int j, S => .ok (.int (i + j)) S
  | .str x, .str y, S => if x.length + y.length ≤ sizeLine then .ok (.str (x ++ y)) S else .stuck
  | .tup us, .tup vs, S => if us.isEmpty = false ∧ us.length + vs.length ≤ sizeLine then .ok (.tup (us ++ vs)) S else .stuck
  | .ref a, .ref b, S => match S[a]?, S[b]? with
    | some (.lst us), some (.lst vs) => if us.length + vs.length ≤ sizeLine then new (.lst (us ++ vs)) S else .stuck
    | _, _ => .stuck
  | _, _, _ => .stuck
def opSub : U → U → Sx → R U
  | .int i, .int j, S => .ok (.int (i - j)) S
  | _, _, _ => .stuck
def opMul : U → U → Sx → R U
  | .int i, .int j, S => if i.natAbs.log2 + j.natAbs.log2 < 1000000 then .ok (.int (i * j)) S else .stuck
  | .ref a, .int k, S => match S[a]? with
    | some (.lst us) => if -(2 ^ 63) ≤ k ∧ k < 2 ^ 63 ∧ us.length * k.toNat ≤ sizeLine then new (.lst (List.replicate k.toNat us).flatten) S else .stuck
    | _ => .stuck
  | _, _, _ => .stuck
def opDiv : U → U → Sx → R U
  | .int i, .int j, S => if 0 < j ∧ j.natAbs.log2 < 9000 then .ok (.int (i / j)) S else .stuck
  | _, _, _ => .stuck
def opMod : U → U → Sx → R U
  | .int i, .int j, S => if 0 < j then .ok (.int (i % j)) S else .stuck
  | _, _, _ => .stuck
def opPow : U → U → Sx → R U
  | .int i, .int j, S => if 0 ≤ j ∧ (Builtin.Int.intBits i : Int) * j ≤ 2 ^ 27 then .ok (.int (i ^ j.toNat)) S else .stuck
  | _, _, _ => .stuck
def opShr : U → U → Sx → R U
  | .int i, .int j, S => if 0 ≤ j then .ok (.int (i / 2 ^ j.toNat)) S else .stuck
  | _, _, _ => .stuck
def opAnd : U → U → Sx → R U
  | .int i, .int j, S => .ok (.int (Builtin.bitAnd i j)) S
  | _, _, _ => .stuck
def opBin : Operator → U → U → Sx → R U
  | .Add => opAdd
  | .Sub => opSub
  | .Mult => opMul
  | .FloorDiv => opDiv
  | .Mod => opMod
  | .Pow => opPow
  | .RShift => opShr
  | .BitAnd => opAnd
  | _ => fun _ _ _ => .stuck
/-- op=, on ints -/
def opIn : Operator → U → U → Option U
  | .Add, .int i, .int j => some (.int (i + j))
  | .Sub, .int i, .int j => some (.int (i - j))
  | _, _, _ => none
def isIn (S : Sx) (u v : U) : Option Bool := match dicAt S v with
  | some kvs => match keyOf u with
    | some k => if fits' kvs k = true then some (get' kvs k).isSome else none
    | none => none
  | none => match seqAt S v with
    | some us => if (flatU u && us.all flatU) = true then some (us.any fun y => eqF y u) else none
    | none => match u, v with
      | .str x, .str y => some (!(Builtin.Str.occurrences y x 0 y.length 1).isEmpty)
      | _, _ => none
def ltI : U → U → Option Bool
  | .int i, .int j => some (decide (i < j))
  | _, _ => none
def leI : U → U → Option Bool
  | .int i, .int j => some (decide (i ≤ j))
  | _, _ => none
def isN : U → U → Option Bool
  | .non, .non => some true
  | .bl _, .non => some false
  | .int _, .non => some false
  | .str _, .non => some false
  | .tup _, .non => some false
  | .ref _, .non => some false
  | _, _ => none
def opCmp (S : Sx) : CmpOp → U → U → Option Bool
  | .Eq, u, v => eqD S u v
  | .NotEq, u, v => (eqD S u v).map (!·)
  | .Lt, u, v => ltI u v
  | .LtE, u, v => leI u v
  | .Gt, u, v => ltI v u
  | .GtE, u, v => leI v u
  | .In, u, v => isIn S u v
  | .NotIn, u, v => (isIn S u v).map (!·)
  | .Is, u, v => isN u v
  | .IsNot, u, v => (isN u v).map (!·)
/-- o[i] -/
def opSub' (S : Sx) (u v : U) : Option U := match dicAt S u with
  | some kvs => match keyOf v with
    | some k => if fits' kvs k = true then get' kvs k else none
    | none => none
  | none => match seqAt S u with
    | some us => match v with
      | .int i => L2.atI us i
      | _ => none
    | none => match u, v with
      | .str z, .int i => if z.length ≤ sizeLine then (L2.atI z.cps.toList i).map fun c => .str ⟨#[c]⟩ else none
      | _, _ => none
def cutU (us : List U) (lo hi : Option Int) : List U := (us.drop (HT.sIx us.length 0 lo)).take (HT.sIx us.length us.length hi - HT.sIx us.length 0 lo)
def intO : Option U → Option (Option Int)
  | none => some none
  | some (.int i) => some (some i)
  | _ => none
/-- o[lo:hi] -/
def opSlc (u : U) (lo hi : Option U) (S : Sx) : R U := match intO lo, intO hi with
  | some lo, some hi => match u with
    | .str z => if z.length ≤ sizeLine then .ok (.str (L2.cutS z lo hi)) S else .stuck
    | .tup us => if HT.sIx us.length 0 lo = 0 ∧ HT.sIx us.length us.length hi = us.length then .stuck else .ok (.tup (cutU us lo hi)) S
    | u => match lstAt S u with
      | some us => new (.lst (cutU us lo hi)) S
      | none => .stuck
  | _, _ => .stuck
def opAttr (S : Sx) (u : U) (f : String) : Option U := match u with
  | .ref n => match S[n]? with
    | some (.ins _ fs) => fs.lookup f
    | _ => none
  | _ => none
/-- o.f = u -/
def setAttr (S : Sx) (o : U) (f : String) (u : U) : Option Sx := match o with
  | .ref n => match S[n]? with
    | some (.ins c fs) => if fs.length < 1000 then some (S.set n (.ins c (fieldPut f u fs))) else none
    | _ => none
  | _ => none
/-- o[i] = u -/
def setItem (S : Sx) (o i u : U) : Option Sx := match o with
  | .ref n => match S[n]? with
    | some (.lst us) => match i with
      | .int i => (L2.ixN us.length i).map fun j => S.set n (.lst (us.set j u))
      | _ => none
    | some (.dic kvs) => match keyOf i with
      | some k => if fits' kvs k = true ∧ kvs.length < sizeLine then some (S.set n (.dic (put' kvs k u))) else none
      | none => none
    | _ => none
  | _ => none

end Ev

set_option Elab.async false
set_option linter.all false
set_option autoImplicit false
set_option maxHeartbeats 1000000
/-! The evaluator's values and states beside the layer's: what stands for what. -/
namespace Ev
open PySem PySem.Spec PyProof.Rows L2

mutual
/-- u is v: tuples by what stands at their address, numbered objects by the list m -/
inductive RelU (m : List Addr) (H : Hp) : U → V → Prop
  | non : RelU m H .non .non
  | bl (b : Bool) : RelU m H (.bl b) (.bl b)
  | int (i : Int) : RelU m H (.int i) (.int i)
  | str (x : Str) : RelU m H (.str x) (.str x)
  | tup {us : List U} {a : Addr} {vs : List V} : H a = some (.tup vs) → RelUs m H us vs → RelU m H (.tup us) (.ref a)
  | ref {n : Nat} {a : Addr} : m[n]? = some a → RelU m H (.ref n) (.ref a)
inductive RelUs (m : List Addr) (H : Hp) : List U → List V → Prop
  | nil : RelUs m H [] []
  | cons {u : U} {v : V} {us : List U} {vs : List V} : RelU m H u v → RelUs m H us vs → RelUs m H (u :: us) (v :: vs)
end
/-- what never changes: a tuple, the fields of an exception -/
def still : HO → Bool
  | .tup _ => true
  | .xd _ => true
  | _ => false
/-- more numbers, what never changes as it was -/
structure Ext (m : List Addr) (H : Hp) (m' : List Addr) (H' : Hp) : Prop where
  more : ∃ l, m' = m ++ l
  stay : ∀ a u, still u = true → H a = some u → H' a = some u
theorem Ext.tups {m m' : List Addr} {H H' : Hp} (e : Ext m H m' H') : ∀ a vs, H a = some (.tup vs) → H' a = some (.tup vs) := fun a vs h => e.stay a _ rfl h
theorem Ext.refl {m : List Addr} {H : Hp} : Ext m H m H := ⟨⟨[], by simp⟩, fun _ _ _ h => h⟩
theorem Ext.trans {m m1 m2 : List Addr} {H H1 H2 : Hp} (a : Ext m H m1 H1) (b : Ext m1 H1 m2 H2) : Ext m H m2 H2 := by
  obtain ⟨⟨l, rfl⟩, t⟩ := a
  obtain ⟨⟨l2, rfl⟩, t2⟩ := b
  exact ⟨⟨l ++ l2, by simp⟩, fun a u z h => t2 a u z (t a u z h)⟩
theorem Ext.at {m m' : List Addr} {H H' : Hp} (e : Ext m H m' H') {n : Nat} {a : Addr} (h : m[n]? = some a) : m'[n]? = some a := by
  obtain ⟨⟨l, rfl⟩, _⟩ := e
  obtain ⟨hn, _⟩ := List.getElem?_eq_some_iff.mp h
  rw [List.getElem?_append_left hn]; exact h
mutual
theorem RelU.ext {m m' : List Addr} {H H' : Hp} (e : Ext m H m' H') : ∀ {u : U} {v : V}, RelU m H u v → RelU m' H' u v
  | _, _, .non => .non
  | _, _, .bl b => .bl b
  | _, _, .int i => .int i
  | _, _, .str x => .str x
  | _, _, .tup h r => .tup (e.tups _ _ h) (RelUs.ext e r)
  | _, _, .ref h => .ref (e.at h)
theorem RelUs.ext {m m' : List Addr} {H H' : Hp} (e : Ext m H m' H') : ∀ {us : List U} {vs : List V}, RelUs m H us vs → RelUs m' H' us vs
  | _, _, .nil => .nil
  | _, _, .cons r t => .cons (RelU.ext e r) (RelUs.ext e t)
end
section
variable {m : List Addr} {H : Hp}
theorem RelUs.length : ∀ {us : List U} {vs : List V}, RelUs m H us vs → us.length = vs.length
  | _, _, .nil => rfl
  | _, _, .cons _ t => by simp [t.length]
theorem RelUs.get : ∀ {us : List U} {vs : List V} {i : Nat} {u : U}, RelUs m H us vs → us[i]? = some u → ∃ v, vs[i]? = some v ∧ RelU m H u v
  | _, _, _, _, .nil, e => by simp at e
  | _, _, 0, _, .cons r _, e => by simp at e; subst e; exact ⟨_, rfl, r⟩
  | _, _, i + 1, u, .cons _ t, e => by
    obtain ⟨v, h1, h2⟩ := RelUs.get (i := i) (u := u) t (by simpa using e)
    exact ⟨v, by simpa using h1, h2⟩
theorem RelUs.getV : ∀ {us : List U} {vs : List V} {i : Nat} {v : V}, RelUs m H us vs → vs[i]? = some v → ∃ u, us[i]? = some u ∧ RelU m H u v
  | _, _, _, _, .nil, e => by simp at e
  | _, _, 0, _, .cons r _, e => by simp at e; subst e; exact ⟨_, rfl, r⟩
  | _, _, i + 1, u, .cons _ t, e => by
    obtain ⟨v, h1, h2⟩ := RelUs.getV (i := i) (v := u) t (by simpa using e)
    exact ⟨v, by simpa using h1, h2⟩
theorem RelUs.append : ∀ {us us' : List U} {vs vs' : List V}, RelUs m H us vs → RelUs m H us' vs' → RelUs m H (us ++ us') (vs ++ vs')
  | _, _, _, _, .nil, s => s
  | _, _, _, _, .cons r t, s => .cons r (RelUs.append t s)
theorem RelUs.one {u : U} {v : V} (r : RelU m H u v) : RelUs m H [u] [v] := .cons r .nil
theorem RelUs.take : ∀ {us : List U} {vs : List V} (n : Nat), RelUs m H us vs → RelUs m H (us.take n) (vs.take n)
  | _, _, 0, _ => by simp; exact .nil
  | _, _, _ + 1, .nil => by simp; exact .nil
  | _, _, n + 1, .cons r t => by simp; exact .cons r (RelUs.take n t)
theorem RelUs.drop : ∀ {us : List U} {vs : List V} (n : Nat), RelUs m H us vs → RelUs m H (us.drop n) (vs.drop n)
  | _, _, 0, r => by simpa using r
  | _, _, _ + 1, .nil => by simp; exact .nil
  | _, _, n + 1, .cons _ t => by simpa using RelUs.drop n t
theorem RelUs.set {u : U} {v : V} (r : RelU m H u v) : ∀ {us : List U} {vs : List V} (i : Nat), RelUs m H us vs → RelUs m H (us.set i u) (vs.set i v)
  | _, _, _, .nil => .nil
  | _, _, 0, .cons _ t => .cons r t
  | _, _, i + 1, .cons q t => .cons q (RelUs.set r i t)
theorem RelUs.rep (n : Nat) {us : List U} {vs : List V} (r : RelUs m H us vs) : RelUs m H (List.replicate n us).flatten (List.replicate n vs).flatten := by
  induction n with
  | zero => simp; exact .nil
  | succ n ih => simp only [List.replicate_succ, List.flatten_cons]; exact r.append ih
theorem RelUs.rev : ∀ {us : List U} {vs : List V}, RelUs m H us vs → RelUs m H us.reverse vs.reverse
  | _, _, .nil => .nil
  | _, _, .cons r t => by simp only [List.reverse_cons]; exact t.rev.append (.one r)
end
/-- entries of a dict -/
inductive RelE {κ : Type} (m : List Addr) (H : Hp) (f : κ → Ky) : List (Ky × U) → List (κ × V) → Prop
  | nil : RelE m H f [] []
  | cons {k : κ} {u : U} {v : V} {l : List (Ky × U)} {l' : List (κ × V)} : RelU m H u v → RelE m H f l l' → RelE m H f ((f k, u) :: l) ((k, v) :: l')
/-- fields of an instance -/
inductive RelF (m : List Addr) (H : Hp) : List (String × U) → List (Str × V) → Prop
  | nil : RelF m H [] []
  | cons {f : String} {u : U} {v : V} {l : List (String × U)} {l' : List (Str × V)} : RelU m H u v → RelF m H l l' → RelF m H ((f, u) :: l) ((Str.ofString f, v) :: l')
theorem RelE.ext {κ : Type} {f : κ → Ky} {m m' : List Addr} {H H' : Hp} (e : Ext m H m' H') : ∀ {l : List (Ky × U)} {l' : List (κ × V)}, RelE m H f l l' → RelE m' H' f l l'
  | _, _, .nil => .nil
  | _, _, .cons r t => .cons (r.ext e) (t.ext e)
theorem RelF.ext {m m' : List Addr} {H H' : Hp} (e : Ext m H m' H') : ∀ {l : List (String × U)} {l' : List (Str × V)}, RelF m H l l' → RelF m' H' l l'
  | _, _, .nil => .nil
  | _, _, .cons r t => .cons (r.ext e) (t.ext e)
/-- dicts: keys of one kind -/
def RelD (m : List Addr) (H : Hp) (kvs : List (Ky × U)) (u : HO) : Prop :=
  (∃ l, u = .dK l ∧ RelE m H Ky.k kvs l) ∨ (∃ l, u = .dT l ∧ RelE m H Ky.t kvs l)
/-- where the classes lie: of instances, of exceptions -/
structure Lay where
  i : String → Option Addr
  x : String → Option Addr
  hx : Option (Exn × Value × Option Addr) := none
  hs : Option (Nat × Addr) := none
/-- the slot does not hold the handled exception -/
def Lay.nk (cl : Lay) (i : Nat) : Prop := ∀ a, cl.hs ≠ some (i, a)
/-- an exception: its class, its fields -/
def RelX (cl : Lay) (m : List Addr) (H : Hp) (e : Exn) (c : Value) (d : Option Addr) : Prop :=
  (∃ C, cl.x e.cls = some C ∧ c = .ref C) ∧ (e.fs = [] ∧ d = none ∨ ∃ dx l, d = some dx ∧ H dx = some (.xd l) ∧ ∀ f u, e.fs.lookup f = some u → ∃ v, l.lookup (Str.ofString f) = some v ∧ RelU m H u v)
theorem RelX.ext {cl : Lay} {m m' : List Addr} {H H' : Hp} {e : Exn} {c : Value} {d : Option Addr} (h : RelX cl m H e c d) (x : Ext m H m' H') : RelX cl m' H' e c d := by
  obtain ⟨h1, h2⟩ := h
  refine ⟨h1, h2.imp id fun ⟨dx, l, a, b, k⟩ => ⟨dx, l, a, x.stay _ _ rfl b, fun f u hu => ?_⟩⟩
  obtain ⟨v, k1, k2⟩ := k f u hu
  exact ⟨v, k1, k2.ext x⟩
/-- the object o is what stands at a -/
def RelO (cl : Lay) (m : List Addr) (H : Hp) (a : Addr) : O → HO → Prop
  | .lst us, u => ∃ vs, u = .lst vs ∧ RelUs m H us vs
  | .ro us, u => ∃ o vs, u = .frz o (.lst vs) ∧ RelUs m H us vs
  | .dic kvs, u => RelD m H kvs u
  | .lck kvs, u => ∃ o d, u = .frz o d ∧ RelD m H kvs d
  | .ins c fs, u => ∃ C dx l, cl.i c = some C ∧ u = .ins C dx l ∧ H dx = some (.own a) ∧ RelF m H fs l
theorem RelO.ext {cl : Lay} {m m' : List Addr} {H H' : Hp} {a : Addr} (e : Ext m H m' H') (ho : ∀ b, H b = some (.own a) → H' b = some (.own a)) : ∀ {o : O} {u : HO}, RelO cl m H a o u → RelO cl m' H' a o u
  | .lst _, _, ⟨vs, h, r⟩ => ⟨vs, h, r.ext e⟩
  | .ro _, _, ⟨o, vs, h, r⟩ => ⟨o, vs, h, r.ext e⟩
  | .dic _, _, .inl ⟨l, h, r⟩ => .inl ⟨l, h, r.ext e⟩
  | .dic _, _, .inr ⟨l, h, r⟩ => .inr ⟨l, h, r.ext e⟩
  | .lck _, _, ⟨o, d, h, .inl ⟨l, h2, r⟩⟩ => ⟨o, d, h, .inl ⟨l, h2, r.ext e⟩⟩
  | .lck _, _, ⟨o, d, h, .inr ⟨l, h2, r⟩⟩ => ⟨o, d, h, .inr ⟨l, h2, r.ext e⟩⟩
  | .ins _ _, _, ⟨C, dx, l, hc, h, h2, r⟩ => ⟨C, dx, l, hc, h, ho _ h2, r.ext e⟩
theorem RelO.not_still {cl : Lay} {m : List Addr} {H : Hp} {a : Addr} {o : O} {u : HO} (h : RelO cl m H a o u) : still u = false := by
  cases o with
  | lst => obtain ⟨_, e, _⟩ := h; cases e; rfl
  | ro => obtain ⟨_, _, e, _⟩ := h; cases e; rfl
  | dic => rcases h with ⟨_, e, _⟩ | ⟨_, e, _⟩ <;> cases e <;> rfl
  | lck => obtain ⟨_, _, e, _⟩ := h; cases e; rfl
  | ins => obtain ⟨_, _, _, _, e, _⟩ := h; cases e; rfl
theorem RelO.not_own {cl : Lay} {m : List Addr} {H : Hp} {a x : Addr} {o : O} : ¬ RelO cl m H a o (.own x) := by
  intro h
  cases o with
  | lst => obtain ⟨_, e, _⟩ := h; cases e
  | ro => obtain ⟨_, _, e, _⟩ := h; cases e
  | dic => rcases h with ⟨_, e, _⟩ | ⟨_, e, _⟩ <;> cases e
  | lck => obtain ⟨_, _, e, _⟩ := h; cases e
  | ins => obtain ⟨_, _, _, _, e, _⟩ := h; cases e
/-- the state is what stands in the heap -/
structure RelS (cl : Lay) (m : List Addr) (S : Sx) (H : Hp) : Prop where
  len : m.length = S.length
  nd : m.Nodup
  obj : ∀ (n : Nat) (o : O) (a : Addr), S[n]? = some o → m[n]? = some a → ∃ u, H a = some u ∧ RelO cl m H a o u
  held : ∀ e c d, cl.hx = some (e, c, d) → RelX cl m H e c d
section
variable {cl : Lay} {m : List Addr} {S : Sx} {H : Hp}
theorem RelS.at (r : RelS cl m S H) {n : Nat} {o : O} (h : S[n]? = some o) : ∃ a u, m[n]? = some a ∧ H a = some u ∧ RelO cl m H a o u := by
  obtain ⟨hn, _⟩ := List.getElem?_eq_some_iff.mp h
  have hm : n < m.length := by rw [r.len]; exact hn
  obtain ⟨u, h1, h2⟩ := r.obj n o m[n] h (List.getElem?_eq_getElem hm)
  exact ⟨_, u, List.getElem?_eq_getElem hm, h1, h2⟩
theorem RelS.atR (r : RelS cl m S H) {n : Nat} {o : O} {v : V} (h : S[n]? = some o) (q : RelU m H (.ref n) v) : ∃ a u, v = .ref a ∧ m[n]? = some a ∧ H a = some u ∧ RelO cl m H a o u := by
  obtain ⟨a, u, h1, h2, h3⟩ := r.at h
  cases q with
  | ref e => rw [h1] at e; cases e; exact ⟨a, u, rfl, h1, h2, h3⟩
/-- a thing laid at a free place -/
theorem Ext.free {p : Addr} {u : HO} (hp : H p = none) : Ext m H m (upd H p u) := ⟨⟨[], by simp⟩, fun a u z h => by rw [upd_ne (ne_of_none h hp)]; exact h⟩
theorem RelS.free {p : Addr} {u : HO} (r : RelS cl m S H) (hp : H p = none) : RelS cl m S (upd H p u) :=
  ⟨r.len, r.nd, fun n o a h1 h2 => by
    obtain ⟨w, h3, h4⟩ := r.obj n o a h1 h2
    exact ⟨w, by rw [upd_ne (ne_of_none h3 hp)]; exact h3, h4.ext (Ext.free hp) fun b hb => by rw [upd_ne (ne_of_none hb hp)]; exact hb⟩, fun e c d h => (r.held e c d h).ext (Ext.free hp)⟩
theorem Ext.new {p : Addr} {u : HO} (hp : H p = none) : Ext m H (m ++ [p]) (upd H p u) := ⟨⟨[p], rfl⟩, fun a u z h => by rw [upd_ne (ne_of_none h hp)]; exact h⟩
theorem RelS.mem (r : RelS cl m S H) {a : Addr} (h : a ∈ m) : ∃ u, H a = some u ∧ ∃ o, RelO cl m H a o u := by
  obtain ⟨n, hn, e⟩ := List.mem_iff_getElem.mp h
  have hs : n < S.length := by rw [← r.len]; exact hn
  obtain ⟨u, h1, h2⟩ := r.obj n S[n] a (List.getElem?_eq_getElem hs) (by rw [List.getElem?_eq_getElem hn, e])
  exact ⟨u, h1, _, h2⟩
/-- a new object -/
theorem RelS.new {p : Addr} {u : HO} {o : O} (r : RelS cl m S H) (hp : H p = none) (h : RelO cl (m ++ [p]) (upd H p u) p o u) : RelS cl (m ++ [p]) (S ++ [o]) (upd H p u) := by
  have hm : p ∉ m := fun z => by
    obtain ⟨u, h1, _⟩ := r.mem z
    rw [hp] at h1; cases h1
  refine ⟨by simp [r.len], ?_, fun n o' a h1 h2 => ?_, fun e c d h => (r.held e c d h).ext (Ext.new hp)⟩
  · rw [List.nodup_append]
    refine ⟨r.nd, by simp, fun a ha b hb => ?_⟩
    have : b = p := by simpa using hb
    subst this
    exact fun z => hm (z ▸ ha)
  · by_cases hn : n < S.length
    · rw [List.getElem?_append_left hn] at h1
      rw [List.getElem?_append_left (by rw [r.len]; exact hn)] at h2
      obtain ⟨w, h3, h4⟩ := r.obj n o' a h1 h2
      exact ⟨w, by rw [upd_ne (ne_of_none h3 hp)]; exact h3, h4.ext (Ext.new hp) fun b hb => by rw [upd_ne (ne_of_none hb hp)]; exact hb⟩
    · have hl : n < (S ++ [o]).length := (List.getElem?_eq_some_iff.mp h1).1
      have e : n = S.length := by simp at hl; omega
      subst e
      rw [List.getElem?_append_right (Nat.le_refl _)] at h1
      rw [List.getElem?_append_right (by rw [r.len]; exact Nat.le_refl _)] at h2
      simp at h1
      simp [r.len] at h2
      subst h1
      subst h2
      exact ⟨u, upd_same, h⟩
theorem RelS.extSet {n : Nat} {a : Addr} {o0 : O} {u0 u : HO} (r : RelS cl m S H) (hm : m[n]? = some a) (h0 : H a = some u0) (hs : S[n]? = some o0) : Ext m H m (upd H a u) := by
  obtain ⟨w, hw, hr⟩ := r.obj n o0 a hs hm
  rw [h0] at hw; cases hw
  exact ⟨⟨[], by simp⟩, fun b w y z => by
    rw [upd_ne]
    · exact z
    · intro e; subst e; rw [h0] at z; cases z; rw [hr.not_still] at y; cases y⟩
/-- an object changed -/
theorem RelS.set {n : Nat} {a : Addr} {o0 o : O} {u0 u : HO} (r : RelS cl m S H) (hm : m[n]? = some a) (h0 : H a = some u0) (hs : S[n]? = some o0) (h : RelO cl m (upd H a u) a o u) : RelS cl m (S.set n o) (upd H a u) ∧ Ext m H m (upd H a u) := by
  obtain ⟨w, hw, hr⟩ := r.obj n o0 a hs hm
  rw [h0] at hw; cases hw
  have nt : ∀ b w, still w = true → H b = some w → b ≠ a := fun b w y z e => by subst e; rw [h0] at z; cases z; rw [hr.not_still] at y; cases y
  have no : ∀ b x, H b = some (.own x) → b ≠ a := fun b x z e => by subst e; rw [h0] at z; cases z; exact hr.not_own
  have ex : Ext m H m (upd H a u) := ⟨⟨[], by simp⟩, fun b w y z => by rw [upd_ne (nt b w y z)]; exact z⟩
  refine ⟨⟨by simp [r.len], r.nd, fun k o' b h1 h2 => ?_, fun e c d h => (r.held e c d h).ext ex⟩, ex⟩
  by_cases hk : k = n
  · subst hk
    rw [hm] at h2; cases h2
    have hn : k < S.length := (List.getElem?_eq_some_iff.mp hs).1
    rw [List.getElem?_set_self hn] at h1; cases h1
    exact ⟨u, upd_same, h⟩
  · rw [List.getElem?_set_ne (Ne.symm hk)] at h1
    have hb : b ≠ a := fun e => by
      subst e
      obtain ⟨h3, e3⟩ := List.getElem?_eq_some_iff.mp h2
      obtain ⟨h4, e4⟩ := List.getElem?_eq_some_iff.mp hm
      exact hk ((List.getElem_inj r.nd).mp (e3.trans e4.symm))
    obtain ⟨w, h3, h4⟩ := r.obj k o' b h1 h2
    exact ⟨w, by rw [upd_ne hb]; exact h3, h4.ext ex fun c hc => by rw [upd_ne (no c _ hc)]; exact hc⟩
/-- a list, a tuple to be read -/
theorem RelS.lst (r : RelS cl m S H) {u : U} {v : V} {us : List U} (K : PySem.W.Frag) (h : lstAt S u = some us) (q : RelU m H u v) : ∃ a vs, v = .ref a ∧ SqL K H a vs ∧ RelUs m H us vs := by
  cases u with
  | ref n =>
    simp only [lstAt] at h
    cases e : S[n]? with
    | none => rw [e] at h; cases h
    | some o =>
      rw [e] at h
      obtain ⟨a, w, rfl, h1, h2, h3⟩ := r.atR e q
      cases o with
      | lst xs => cases h; obtain ⟨vs, rfl, r3⟩ := h3; exact ⟨a, vs, rfl, .inl (.inl h2), r3⟩
      | ro xs => cases h; obtain ⟨o, vs, rfl, r3⟩ := h3; exact ⟨a, vs, rfl, .inl (.inr ⟨o, h2⟩), r3⟩
      | _ => cases h
  | _ => cases h
theorem RelS.seq (r : RelS cl m S H) {u : U} {v : V} {us : List U} (K : PySem.W.Frag) (h : seqAt S u = some us) (q : RelU m H u v) : ∃ a vs, v = .ref a ∧ (SqL K H a vs ∨ SqT K H a vs) ∧ RelUs m H us vs := by
  cases u with
  | tup ws => cases h; cases q with | tup h1 h2 => exact ⟨_, _, rfl, .inr (.inl (.inl h1)), h2⟩
  | ref n => obtain ⟨a, vs, e, h1, h2⟩ := r.lst K (u := .ref n) h q; exact ⟨a, vs, e, .inl h1, h2⟩
  | _ => cases h
end
theorem RelU.key1 {m : List Addr} {H : Hp} {u : U} {v : V} {k : Key} (h : Ev.key1 u = some k) (r : RelU m H u v) : v = kV k := by
  cases r <;> cases h <;> rfl
theorem RelUs.keys {m : List Addr} {H : Hp} : ∀ {us : List U} {vs : List V} {ks : List Key}, Ev.keys1 us = some ks → RelUs m H us vs → vs = ks.map kV
  | _, _, _, h, .nil => by cases h; rfl
  | u :: us, _, ks, h, .cons r t => by
    unfold Ev.keys1 at h
    cases e1 : Ev.key1 u with
    | none => rw [e1] at h; cases h
    | some k =>
      cases e2 : Ev.keys1 us with
      | none => rw [e1, e2] at h; cases h
      | some ks' =>
        rw [e1, e2] at h; cases h
        rw [r.key1 e1, RelUs.keys e2 t]; rfl
theorem RelU.key {m : List Addr} {H : Hp} {u : U} {v : V} {k : Ky} (h : keyOf u = some k) (r : RelU m H u v) :
    (∃ k1, k = .k k1 ∧ v = kV k1) ∨ ∃ ks b, k = .t ks ∧ v = .ref b ∧ H b = some (.tup (ks.map kV)) := by
  cases r with
  | tup h1 h2 =>
    obtain ⟨ks, h3, h4⟩ := Option.map_eq_some_iff.mp h
    subst h4
    rw [RelUs.keys h3 h2] at h1
    exact .inr ⟨ks, _, rfl, rfl, h1⟩
  | int i => cases h; exact .inl ⟨_, rfl, rfl⟩
  | str x => cases h; exact .inl ⟨_, rfl, rfl⟩
  | non => cases h
  | bl b => cases h
  | ref h1 => cases h
section
variable {m : List Addr} {H : Hp} {κ : Type} [DecidableEq κ] {f : κ → Ky}
theorem RelE.length : ∀ {l : List (Ky × U)} {l' : List (κ × V)}, RelE m H f l l' → l.length = l'.length
  | _, _, .nil => rfl
  | _, _, .cons _ t => by simp [t.length]
theorem RelE.get (inj : ∀ a b, f a = f b → a = b) (k : κ) : ∀ {l : List (Ky × U)} {l' : List (κ × V)}, RelE m H f l l' → (∀ u, get' l (f k) = some u → ∃ v, valV l' k = some v ∧ RelU m H u v) ∧ (get' l (f k) = none → valV l' k = none)
  | _, _, .nil => ⟨(fun u h => nomatch h), fun _ => rfl⟩
  | _, _, .cons (k := k0) (u := u0) (v := v0) (l := l) (l' := l') r t => by
    have ih := RelE.get inj k t
    by_cases e : k0 = k
    · subst e
      have h1 : get' ((f k0, u0) :: l) (f k0) = some u0 := by simp [get']
      have h2 : valV ((k0, v0) :: l') k0 = some v0 := by simp [valV]
      exact ⟨fun u h => by rw [h1] at h; cases h; exact ⟨v0, h2, r⟩, fun h => by rw [h1] at h; cases h⟩
    · have e' : ¬ f k0 = f k := fun z => e (inj _ _ z)
      have h1 : get' ((f k0, u0) :: l) (f k) = get' l (f k) := by simp [get', e']
      have h2 : valV ((k0, v0) :: l') k = valV l' k := by simp [valV, e]
      rw [h1, h2]; exact ih
theorem RelE.any (inj : ∀ a b, f a = f b → a = b) (k : κ) : ∀ {l : List (Ky × U)} {l' : List (κ × V)}, RelE m H f l l' → (l.any fun kv => decide (kv.1 = f k)) = (l'.any fun kv => decide (kv.1 = k))
  | _, _, .nil => rfl
  | _, _, .cons (k := k0) r t => by
    simp only [List.any_cons, RelE.any inj k t]
    congr 1
    by_cases e : k0 = k
    · subst e; simp
    · have e' : ¬ f k0 = f k := fun z => e (inj _ _ z)
      simp [e, e']
theorem RelE.append : ∀ {l s : List (Ky × U)} {l' s' : List (κ × V)}, RelE m H f l l' → RelE m H f s s' → RelE m H f (l ++ s) (l' ++ s')
  | _, _, _, _, .nil, s => s
  | _, _, _, _, .cons r t, s => .cons r (RelE.append t s)
theorem RelE.mapPut (inj : ∀ a b, f a = f b → a = b) {k : κ} {u : U} {v : V} (q : RelU m H u v) : ∀ {l : List (Ky × U)} {l' : List (κ × V)}, RelE m H f l l' →
    RelE m H f (l.map fun kv => if kv.1 = f k then (kv.1, u) else kv) (l'.map fun kv => if kv.1 = k then (kv.1, v) else kv)
  | _, _, .nil => .nil
  | _, _, .cons (k := k0) r t => by
    simp only [List.map_cons]
    by_cases e : k0 = k
    · subst e; simp; exact .cons q (RelE.mapPut inj q t)
    · have e' : ¬ f k0 = f k := fun z => e (inj _ _ z)
      simp [e, e']; exact .cons r (RelE.mapPut inj q t)
theorem RelE.put (inj : ∀ a b, f a = f b → a = b) {k : κ} {u : U} {v : V} (q : RelU m H u v) {l : List (Ky × U)} {l' : List (κ × V)} (r : RelE m H f l l') : RelE m H f (put' l (f k) u) (putK l' k v) := by
  unfold put' putK
  rw [r.any inj k]
  split
  · exact r.mapPut inj q
  · exact r.append (.cons q .nil)
theorem RelE.drop (inj : ∀ a b, f a = f b → a = b) (k : κ) : ∀ {l : List (Ky × U)} {l' : List (κ × V)}, RelE m H f l l' → RelE m H f (drop' l (f k)) (dropK l' k)
  | _, _, .nil => .nil
  | _, _, .cons (k := k0) r t => by
    have ih := RelE.drop inj k t
    unfold drop' dropK at *
    by_cases e : k0 = k
    · subst e; simpa using ih
    · have e' : ¬ f k0 = f k := fun z => e (inj _ _ z)
      simp only [List.filter_cons, e, e', ne_eq, not_false_eq_true, decide_true, if_true]
      exact .cons r ih
end
theorem kyK_inj (a b : Key) (h : Ky.k a = Ky.k b) : a = b := by cases h; rfl
theorem kyT_inj (a b : List Key) (h : Ky.t a = Ky.t b) : a = b := by cases h; rfl
section
variable {m : List Addr} {H : Hp}
theorem ofString_inj {a b : String} (h : Str.ofString a = Str.ofString b) : a = b := by
  rw [Str.ofString_eq_toList, Str.ofString_eq_toList] at h
  injection h with h
  have h2 : a.toList.map Char.toNat = b.toList.map Char.toNat := by simpa using congrArg Array.toList h
  have inj : ∀ (l r : List Char), l.map Char.toNat = r.map Char.toNat → l = r := by
    intro l
    induction l with
    | nil => intro r h; cases r with
      | nil => rfl
      | cons _ _ => cases h
    | cons x l ih => intro r h; cases r with
      | nil => cases h
      | cons y r =>
        simp only [List.map_cons, List.cons.injEq] at h
        rw [ih r h.2, Char.toNat_inj.mp h.1]
  exact String.toList_inj.mp (inj _ _ h2)
theorem RelF.lookup : ∀ {l : List (String × U)} {l' : List (Str × V)} {f : String} {u : U}, RelF m H l l' → l.lookup f = some u → ∃ v, l'.lookup (Str.ofString f) = some v ∧ RelU m H u v
  | _, _, _, _, .nil, h => by cases h
  | _, _, f, u, .cons (f := g) (u := u0) (v := v0) (l := l) (l' := l') r t, h => by
    by_cases e : f = g
    · subst e
      simp [List.lookup] at h
      subst h
      exact ⟨v0, by simp [List.lookup], r⟩
    · have e' : ¬ Str.ofString f = Str.ofString g := fun z => e (ofString_inj z)
      have h' : l.lookup f = some u := by
        have eb : (f == g) = false := by simp [e]
        simpa [List.lookup, eb] using h
      obtain ⟨v, h1, h2⟩ := RelF.lookup t h'
      refine ⟨v, ?_, h2⟩
      have eb : (Str.ofString f == Str.ofString g) = false := by simp [e']
      simpa [List.lookup, eb] using h1
end
end Ev

set_option Elab.async false
set_option linter.all false
set_option autoImplicit false
set_option maxHeartbeats 1000000
/-! Operations: what the evaluator gives, the machine gives. -/
namespace Ev
open PySem PySem.Spec PyProof.Rows L2

/-- what is wanted of exceptions, by whether they were raised in a handler -/
abbrev WK := Bool → Value → Option Addr → Hp → Prop
/-- the result r is met by what is wanted -/
def Den (cl : Lay) (m : List Addr) (H : Hp) (r : R U) (Q : VK) (W : WK) : Prop := match r with
  | .ok w S' => ∀ m' H' z, Ext m H m' H' → RelS cl m' S' H' → RelU m' H' w z → Q z H'
  | .exc e S' => ∀ m' H' c d, Ext m H m' H' → RelS cl m' S' H' → RelX cl m' H' e c d → W e.ch c d H'
  | .stuck => False
def Dens (cl : Lay) (m : List Addr) (H : Hp) (r : R (List U)) (Q : List V → Hp → Prop) (W : WK) : Prop := match r with
  | .ok w S' => ∀ m' H' z, Ext m H m' H' → RelS cl m' S' H' → RelUs m' H' w z → Q z H'
  | .exc e S' => ∀ m' H' c d, Ext m H m' H' → RelS cl m' S' H' → RelX cl m' H' e c d → W e.ch c d H'
  | .stuck => False
def DenB (cl : Lay) (m : List Addr) (H : Hp) (r : R Bool) (Q : Bool → Hp → Prop) (W : WK) : Prop := match r with
  | .ok b S' => ∀ m' H', Ext m H m' H' → RelS cl m' S' H' → Q b H'
  | .exc e S' => ∀ m' H' c d, Ext m H m' H' → RelS cl m' S' H' → RelX cl m' H' e c d → W e.ch c d H'
  | .stuck => False
/-- a sure result -/
def DenV (cl : Lay) (m : List Addr) (H : Hp) (r : R U) (Q : VK) : Prop := ∃ w S', r = .ok w S' ∧ ∀ m' H' z, Ext m H m' H' → RelS cl m' S' H' → RelU m' H' w z → Q z H'
section
variable {cl : Lay} {m m' : List Addr} {H H' : Hp} {r : R U} {Q : VK} {W : WK}
theorem Den.ext (h : Den cl m H r Q W) (e : Ext m H m' H') : Den cl m' H' r Q W := by
  cases r with
  | ok w S' => exact fun m2 H2 z e2 => h m2 H2 z (e.trans e2)
  | exc x S' => exact fun m2 H2 c d e2 => h m2 H2 c d (e.trans e2)
  | stuck => exact h
theorem Dens.ext {r : R (List U)} {Q : List V → Hp → Prop} (h : Dens cl m H r Q W) (e : Ext m H m' H') : Dens cl m' H' r Q W := by
  cases r with
  | ok w S' => exact fun m2 H2 z e2 => h m2 H2 z (e.trans e2)
  | exc x S' => exact fun m2 H2 c d e2 => h m2 H2 c d (e.trans e2)
  | stuck => exact h
theorem DenB.ext {r : R Bool} {Q : Bool → Hp → Prop} (h : DenB cl m H r Q W) (e : Ext m H m' H') : DenB cl m' H' r Q W := by
  cases r with
  | ok w S' => exact fun m2 H2 e2 => h m2 H2 (e.trans e2)
  | exc x S' => exact fun m2 H2 c d e2 => h m2 H2 c d (e.trans e2)
  | stuck => exact h
/-- the first of two -/
theorem Den.first {α : R U} {f : U → Sx → R U} {Q' : VK} (h : Den cl m H (α.bind f) Q W)
    (k : ∀ u S1 m1 H1 z, α = .ok u S1 → Ext m H m1 H1 → RelS cl m1 S1 H1 → RelU m1 H1 u z → Den cl m1 H1 (f u S1) Q W → Q' z H1) : Den cl m H α Q' W := by
  cases α with
  | ok u S1 => exact fun m1 H1 z e rs ru => k u S1 m1 H1 z rfl e rs ru (Den.ext h e)
  | exc x S1 => exact h
  | stuck => exact h
theorem Den.firstB {α : R U} {f : U → Sx → R Bool} {QB : Bool → Hp → Prop} {Q' : VK} (h : DenB cl m H (α.bind f) QB W)
    (k : ∀ u S1 m1 H1 z, α = .ok u S1 → Ext m H m1 H1 → RelS cl m1 S1 H1 → RelU m1 H1 u z → DenB cl m1 H1 (f u S1) QB W → Q' z H1) : Den cl m H α Q' W := by
  cases α with
  | ok u S1 => exact fun m1 H1 z e rs ru => k u S1 m1 H1 z rfl e rs ru (DenB.ext h e)
  | exc x S1 => exact h
  | stuck => exact h
theorem Den.firstL {α : R U} {f : U → Sx → R (List U)} {QL : List V → Hp → Prop} {Q' : VK} (h : Dens cl m H (α.bind f) QL W)
    (k : ∀ u S1 m1 H1 z, α = .ok u S1 → Ext m H m1 H1 → RelS cl m1 S1 H1 → RelU m1 H1 u z → Dens cl m1 H1 (f u S1) QL W → Q' z H1) : Den cl m H α Q' W := by
  cases α with
  | ok u S1 => exact fun m1 H1 z e rs ru => k u S1 m1 H1 z rfl e rs ru (Dens.ext h e)
  | exc x S1 => exact h
  | stuck => exact h
theorem Dens.first {α : R (List U)} {f : List U → Sx → R U} {Q' : List V → Hp → Prop} (h : Den cl m H (α.bind f) Q W)
    (k : ∀ u S1 m1 H1 z, α = .ok u S1 → Ext m H m1 H1 → RelS cl m1 S1 H1 → RelUs m1 H1 u z → Den cl m1 H1 (f u S1) Q W → Q' z H1) : Dens cl m H α Q' W := by
  cases α with
  | ok u S1 => exact fun m1 H1 z e rs ru => k u S1 m1 H1 z rfl e rs ru (Den.ext h e)
  | exc x S1 => exact h
  | stuck => exact h
theorem Dens.firstL {α : R (List U)} {f : List U → Sx → R (List U)} {QL Q' : List V → Hp → Prop} (h : Dens cl m H (α.bind f) QL W)
    (k : ∀ u S1 m1 H1 z, α = .ok u S1 → Ext m H m1 H1 → RelS cl m1 S1 H1 → RelUs m1 H1 u z → Dens cl m1 H1 (f u S1) QL W → Q' z H1) : Dens cl m H α Q' W := by
  cases α with
  | ok u S1 => exact fun m1 H1 z e rs ru => k u S1 m1 H1 z rfl e rs ru (Dens.ext h e)
  | exc x S1 => exact h
  | stuck => exact h
theorem DenB.first {α : R Bool} {f : Bool → Sx → R U} {Q' : Bool → Hp → Prop} (h : Den cl m H (α.bind f) Q W)
    (k : ∀ b S1 m1 H1, α = .ok b S1 → Ext m H m1 H1 → RelS cl m1 S1 H1 → Den cl m1 H1 (f b S1) Q W → Q' b H1) : DenB cl m H α Q' W := by
  cases α with
  | ok u S1 => exact fun m1 H1 e rs => k u S1 m1 H1 rfl e rs (Den.ext h e)
  | exc x S1 => exact h
  | stuck => exact h
theorem DenB.firstB {α : R Bool} {f : Bool → Sx → R Bool} {QB Q' : Bool → Hp → Prop} (h : DenB cl m H (α.bind f) QB W)
    (k : ∀ b S1 m1 H1, α = .ok b S1 → Ext m H m1 H1 → RelS cl m1 S1 H1 → DenB cl m1 H1 (f b S1) QB W → Q' b H1) : DenB cl m H α Q' W := by
  cases α with
  | ok u S1 => exact fun m1 H1 e rs => k u S1 m1 H1 rfl e rs (DenB.ext h e)
  | exc x S1 => exact h
  | stuck => exact h
/-- a value as it stands -/
theorem Den.val {S : Sx} {u : U} {z : V} (h : Den cl m H (.ok u S) Q W) (rs : RelS cl m S H) (ru : RelU m H u z) : Q z H := h m H z .refl rs ru
theorem DenV.val {S : Sx} {u : U} {z : V} (h : DenV cl m H (.ok u S) Q) (rs : RelS cl m S H) (ru : RelU m H u z) : Q z H := by
  obtain ⟨w, S', e, k⟩ := h
  cases e
  exact k m H z .refl rs ru
theorem DenV.tup {S : Sx} {us : List U} {vs : List V} {p : Addr} (h : DenV cl m H (.ok (.tup us) S) Q) (rs : RelS cl m S H) (ru : RelUs m H us vs) (hp : H p = none) : Q (.ref p) (upd H p (.tup vs)) := by
  obtain ⟨w, S', e, k⟩ := h
  cases e
  exact k m _ _ (Ext.free hp) (rs.free hp) (.tup upd_same (ru.ext (Ext.free hp)))
theorem DenV.lst {S : Sx} {us : List U} {vs : List V} {p : Addr} (h : DenV cl m H (new (.lst us) S) Q) (rs : RelS cl m S H) (ru : RelUs m H us vs) (hp : H p = none) : Q (.ref p) (upd H p (.lst vs)) := by
  obtain ⟨w, S', e, k⟩ := h
  cases e
  refine k (m ++ [p]) _ _ (Ext.new hp) (rs.new hp ⟨vs, rfl, ru.ext (Ext.new hp)⟩) (.ref ?_)
  rw [← rs.len]
  simp
theorem Den.sure {r : R U} (h : Den cl m H r Q W) (hn : ∀ e S', r ≠ .exc e S') : DenV cl m H r Q := by
  cases r with
  | ok w S' => exact ⟨w, S', rfl, h⟩
  | exc e S' => exact absurd rfl (hn e S')
  | stuck => exact h.elim
theorem DenV.stuck {P : Prop} (h : DenV cl m H .stuck Q) : P := by
  obtain ⟨_, _, e, _⟩ := h
  cases e
end
/-- a rule for an operation of two values -/
def rOp (cl : Lay) (g : U → U → Sx → R U) : R2 := fun x y H Q => ∃ m S u v, RelS cl m S H ∧ RelU m H u x ∧ RelU m H v y ∧ DenV cl m H (g u v S) Q
def rCmp (cl : Lay) (g : Sx → U → U → Option Bool) : R2 := fun x y H Q => ∃ m S u v b, RelS cl m S H ∧ RelU m H u x ∧ RelU m H v y ∧ g S u v = some b ∧ ∀ m' H', Ext m H m' H' → RelS cl m' S H' → Q (.bl b) H'
section
variable {X : Cx} {cl : Lay}
theorem ofOpR {f : Value → Value → Sem Value} {r r' : R2} (h : OpR X f r) (i : ∀ x y H Q, r' x y H Q → r x y H Q) : OpR X f r' :=
  fun pins s σ H x y v u Q I rx ry q => h pins s σ H x y v u Q I rx ry (i _ _ _ _ q)
theorem opI_any {op : Operator} {g : U → U → Sx → R U} {C : Int → Int → Prop} {k : Int → Int → Int} (h : OpR X (binaryOp op) (rI C fun i j => .int (k i j)))
    (hg : ∀ u v S w S', g u v S = .ok w S' → ∃ i j, u = .int i ∧ v = .int j ∧ C i j ∧ w = .int (k i j) ∧ S' = S) : OpR X (binaryOp op) (rOp cl g) := by
  refine ofOpR h fun x y H Q ⟨m, S, u, v, rs, rx, ry, w, S', e, q⟩ => ?_
  obtain ⟨i, j, rfl, rfl, hc, rfl, rfl⟩ := hg _ _ _ _ _ e
  cases rx; cases ry
  exact ⟨i, j, rfl, rfl, hc, q m H _ .refl rs (.int _)⟩
theorem rI0_rI {g : Int → Int → V} {f : Value → Value → Sem Value} (h : OpR X f (rI0 g)) : OpR X f (rI (fun _ _ => True) g) := ofOpR h fun _ _ _ _ ⟨i, j, a, b, _, q⟩ => ⟨i, j, a, b, q⟩
theorem op_pow_any : OpR X (binaryOp .Pow) (rI (fun i j => 0 ≤ j ∧ (Builtin.Int.intBits i : Int) * j ≤ 2 ^ 27) fun i j => .int (i ^ j.toNat)) := opI fun _ _ _ _ _ _ _ hc q => pow_int hc.1 hc.2 q
theorem add_ok : OpR X (binaryOp .Add) (rOp cl opAdd) := by
  intro pins s σ H x y v u Q I rx ry h
  obtain ⟨m, S, u1, v1, rs, r1, r2, h⟩ := h
  cases r1 with
  | int i => cases r2 with
    | int j => exact op_add pins s σ H _ _ v u Q I rx ry ⟨i, j, rfl, rfl, h.val rs (.int _)⟩
    | _ => exact h.stuck
  | str i => cases r2 with
    | str j =>
      by_cases hz : i.length + j.length ≤ sizeLine
      · simp only [opAdd, hz, if_true] at h
        exact op_add_str pins s σ H _ _ v u Q I rx ry ⟨i, j, rfl, rfl, hz, h.val rs (.str _)⟩
      · simp only [opAdd, hz, if_false] at h; exact h.stuck
    | _ => exact h.stuck
  | tup ha hr => cases r2 with
    | tup hb hr2 =>
      rename_i us a vs us2 b vs2
      by_cases hz : us.isEmpty = false ∧ us.length + us2.length ≤ sizeLine
      · simp only [opAdd, hz, and_self, if_true] at h
        refine op_catT pins s σ H _ _ v u Q I rx ry ⟨a, b, vs, vs2, rfl, rfl, .inl (.inl ha), .inl (.inl hb), ?_, ?_, fun e => ?_, fun e p hp => h.tup rs (hr.append hr2) hp⟩
        · rintro rfl; cases hr; simp at hz
        · rw [← hr.length, ← hr2.length]; exact hz.2
        · subst e; cases hr2; rw [List.append_nil] at h; exact h.val rs (.tup ha hr)
      · simp only [opAdd, hz, if_false] at h; exact h.stuck
    | _ => exact h.stuck
  | ref ha => cases r2 with
    | ref hb =>
      rename_i n a n2 b
      simp only [opAdd] at h
      cases e1 : S[n]? with
      | none => rw [e1] at h; exact h.stuck
      | some o1 => cases e2 : S[n2]? with
        | none => rw [e1, e2] at h; cases o1 <;> exact h.stuck
        | some o2 =>
          rw [e1, e2] at h
          cases o1 with
          | lst us => cases o2 with
            | lst us2 =>
              obtain ⟨w1, h1, vs, rfl, q1⟩ := rs.obj _ _ _ e1 ha
              obtain ⟨w2, h2, vs2, rfl, q2⟩ := rs.obj _ _ _ e2 hb
              by_cases hz : us.length + us2.length ≤ sizeLine
              · simp only [hz, if_true] at h
                exact op_cat pins s σ H _ _ v u Q I rx ry ⟨a, b, vs, vs2, rfl, rfl, h1, h2, by rw [← q1.length, ← q2.length]; exact hz, fun p hp => h.lst rs (q1.append q2) hp⟩
              · simp only [hz, if_false] at h; exact h.stuck
            | _ => exact h.stuck
          | _ => exact h.stuck
    | _ => exact h.stuck
  | _ => exact h.stuck
theorem mul_ok : OpR X (binaryOp .Mult) (rOp cl opMul) := by
  intro pins s σ H x y v u Q I rx ry h
  obtain ⟨m, S, u1, v1, rs, r1, r2, h⟩ := h
  cases r1 with
  | int i => cases r2 with
    | int j =>
      by_cases hz : i.natAbs.log2 + j.natAbs.log2 < 1000000
      · simp only [opMul, hz, if_true] at h
        exact op_mulW pins s σ H _ _ v u Q I rx ry ⟨i, j, rfl, rfl, hz, h.val rs (.int _)⟩
      · simp only [opMul, hz, if_false] at h; exact h.stuck
    | _ => exact h.stuck
  | ref ha => cases r2 with
    | int k =>
      rename_i n a
      simp only [opMul] at h
      cases e1 : S[n]? with
      | none => rw [e1] at h; exact h.stuck
      | some o1 =>
        rw [e1] at h
        cases o1 with
        | lst us =>
          obtain ⟨w1, h1, vs, rfl, q1⟩ := rs.obj _ _ _ e1 ha
          by_cases hz : -(2 ^ 63) ≤ k ∧ k < 2 ^ 63 ∧ us.length * k.toNat ≤ sizeLine
          · simp only [hz, and_self, if_true] at h
            refine op_rep pins s σ H _ _ v u Q I rx ry ⟨a, k, vs, rfl, rfl, h1, hz.1, hz.2.1, by rw [← q1.length]; exact hz.2.2, fun p hp => h.lst rs (q1.rep _) hp⟩
          · simp only [hz, if_false] at h; exact h.stuck
        | _ => exact h.stuck
    | _ => exact h.stuck
  | _ => exact h.stuck
theorem sub_ok : OpR X (binaryOp .Sub) (rOp cl opSub) := by
  refine opI_any (rI0_rI op_sub) fun u v S w S' e => ?_
  cases u <;> cases v <;> simp only [opSub] at e <;> first | (cases e; done) | skip
  cases e; exact ⟨_, _, rfl, rfl, trivial, rfl, rfl⟩
theorem div_ok : OpR X (binaryOp .FloorDiv) (rOp cl opDiv) := by
  refine opI_any op_fdivW fun u v S w S' e => ?_
  cases u <;> cases v <;> simp only [opDiv] at e <;> first | (cases e; done) | skip
  split at e
  · cases e; exact ⟨_, _, rfl, rfl, by assumption, rfl, rfl⟩
  · cases e
theorem mod_ok : OpR X (binaryOp .Mod) (rOp cl opMod) := by
  refine opI_any op_mod fun u v S w S' e => ?_
  cases u <;> cases v <;> simp only [opMod] at e <;> first | (cases e; done) | skip
  split at e
  · cases e; exact ⟨_, _, rfl, rfl, by assumption, rfl, rfl⟩
  · cases e
theorem pow_ok : OpR X (binaryOp .Pow) (rOp cl opPow) := by
  refine opI_any op_pow_any fun u v S w S' e => ?_
  cases u <;> cases v <;> simp only [opPow] at e <;> first | (cases e; done) | skip
  split at e
  · cases e; exact ⟨_, _, rfl, rfl, by assumption, rfl, rfl⟩
  · cases e
theorem shr_ok : OpR X (binaryOp .RShift) (rOp cl opShr) := by
  refine opI_any op_shr fun u v S w S' e => ?_
  cases u <;> cases v <;> simp only [opShr] at e <;> first | (cases e; done) | skip
  split at e
  · cases e; exact ⟨_, _, rfl, rfl, by assumption, rfl, rfl⟩
  · cases e
theorem and_ok : OpR X (binaryOp .BitAnd) (rOp cl opAnd) := by
  refine opI_any (rI0_rI op_and) fun u v S w S' e => ?_
  cases u <;> cases v <;> simp only [opAnd] at e <;> first | (cases e; done) | skip
  cases e; exact ⟨_, _, rfl, rfl, trivial, rfl, rfl⟩
theorem bin_ok (op : Operator) : OpR X (binaryOp op) (rOp cl (opBin op)) := by
  have no : ∀ op, OpR X (binaryOp op) (rOp cl fun _ _ _ => .stuck) := fun op pins s σ H x y v u Q I rx ry ⟨m, S, u1, v1, rs, r1, r2, h⟩ => h.stuck
  cases op
  case Add => exact add_ok
  case Mult => exact mul_ok
  case Sub => exact sub_ok
  case FloorDiv => exact div_ok
  case Mod => exact mod_ok
  case Pow => exact pow_ok
  case RShift => exact shr_ok
  case BitAnd => exact and_ok
  all_goals exact no _
/-- op= on ints -/
theorem ip_ok (op : Operator) : PIp X op (fun x y H Q => ∃ m u v w, RelU m H u x ∧ RelU m H v y ∧ opIn op u v = some w ∧ ∀ z, (∀ m' H', RelU m' H' w z) → Q z H) := by
  intro pins s σ H x y v u Q I rx ry h
  obtain ⟨m, u1, v1, w, r1, r2, e, q⟩ := h
  cases op <;> first | (cases u1 <;> cases v1 <;> cases e; done) | skip
  · cases u1 <;> first | (cases v1 <;> cases e; done) | skip
    cases v1 <;> cases e
    cases r1; cases r2
    exact ip_add pins s σ H _ _ v u Q I rx ry ⟨_, _, rfl, rfl, q _ fun _ _ => .int _⟩
  · cases u1 <;> first | (cases v1 <;> cases e; done) | skip
    cases v1 <;> cases e
    cases r1; cases r2
    exact ip_sub pins s σ H _ _ v u Q I rx ry ⟨_, _, rfl, rfl, q _ fun _ _ => .int _⟩

/-! ### comparisons -/
theorem optAll_dp {K : PySem.W.Frag} {m : List Addr} {H : Hp} {f : U → Option PyData} (hf : ∀ u v d, f u = some d → RelU m H u v → Dp K H v d) : ∀ {us : List U} {vs : List V} {ds : List PyData}, optAll f us = some ds → RelUs m H us vs → DpAll K H vs ds
  | _, _, _, h, .nil => by cases h; exact .nil
  | u :: us, _, ds, h, .cons r t => by
    unfold optAll at h
    cases e1 : f u with
    | none => rw [e1] at h; cases h
    | some d => cases e2 : optAll f us with
      | none => rw [e1, e2] at h; cases h
      | some ds' =>
        rw [e1, e2] at h; cases h
        exact .cons (hf _ _ _ e1 r) (optAll_dp hf e2 t)
theorem dat_dp {K : PySem.W.Frag} {m : List Addr} {H : Hp} {S : Sx} (rs : RelS cl m S H) : ∀ (n : Nat) (u : U) (v : V) (d : PyData), dat S n u = some d → RelU m H u v → Dp K H v d := by
  intro n
  induction n with
  | zero => intro u v d h; cases h
  | succ n ih =>
    intro u v d h r
    cases r with
    | non => cases h; exact .non
    | bl b => cases h; exact .bl b
    | int i => cases h; exact .int i
    | str x => cases h; exact .str x
    | tup ha hr =>
      obtain ⟨ds, h1, rfl⟩ := Option.map_eq_some_iff.mp h
      exact .tup (.inl (.inl ha)) (optAll_dp ih h1 hr)
    | ref ha =>
      rename_i k a
      simp only [dat] at h
      cases e1 : S[k]? with
      | none => rw [e1] at h; cases h
      | some o =>
        rw [e1] at h
        obtain ⟨w1, h1, h2⟩ := rs.obj _ _ _ e1 ha
        cases o with
        | lst us =>
          obtain ⟨vs, rfl, q⟩ := h2
          obtain ⟨ds, h3, rfl⟩ := Option.map_eq_some_iff.mp h
          exact .lst (.inl (.inl h1)) (optAll_dp ih h3 q)
        | ro us =>
          obtain ⟨o, vs, rfl, q⟩ := h2
          obtain ⟨ds, h3, rfl⟩ := Option.map_eq_some_iff.mp h
          exact .lst (.inl (.inr ⟨o, h1⟩)) (optAll_dp ih h3 q)
        | _ => cases h
theorem eqD_dp {K : PySem.W.Frag} {m : List Addr} {H : Hp} {S : Sx} {u v : U} {x y : V} {b : Bool} (rs : RelS cl m S H) (rx : RelU m H u x) (ry : RelU m H v y) (h : eqD S u v = some b) :
    ∃ d e, Dp K H x d ∧ Dp K H y e ∧ SeqAt.shaped d = true ∧ SeqAt.shaped e = true ∧ PyData.eqv d e = b := by
  unfold eqD at h
  cases e1 : dat S 60 u with
  | none => rw [e1] at h; cases h
  | some d => cases e2 : dat S 60 v with
    | none => rw [e1, e2] at h; cases h
    | some e =>
      rw [e1, e2] at h
      simp only at h
      split at h
      · rename_i hs
        cases h
        exact ⟨d, e, dat_dp rs _ _ _ _ e1 rx, dat_dp rs _ _ _ _ e2 ry, (Bool.and_eq_true_iff.mp hs).1, (Bool.and_eq_true_iff.mp hs).2, rfl⟩
      · cases h
theorem eq_ok (hu : X.A.units + 64 < cLine) : OpR X (compareOp .Eq) (rCmp cl eqD) := ofOpR (op_eqD hu) fun x y H Q ⟨m, S, u, v, b, rs, rx, ry, h, q⟩ => by
  obtain ⟨d, e, h1, h2, h3, h4, h5⟩ := eqD_dp (K := X.K) rs rx ry h
  exact ⟨d, e, h1, h2, h3, h4, by rw [h5]; exact q m H .refl rs⟩
theorem ne_ok (hu : X.A.units + 64 < cLine) : OpR X (compareOp .NotEq) (rCmp cl fun S u v => (eqD S u v).map (!·)) := ofOpR (op_neD hu) fun x y H Q ⟨m, S, u, v, b, rs, rx, ry, h, q⟩ => by
  obtain ⟨b', h0, rfl⟩ := Option.map_eq_some_iff.mp h
  obtain ⟨d, e, h1, h2, h3, h4, h5⟩ := eqD_dp (K := X.K) rs rx ry h0
  exact ⟨d, e, h1, h2, h3, h4, by rw [h5]; exact q m H .refl rs⟩
theorem RelU.flat {m : List Addr} {H : Hp} {u : U} {v : V} (r : RelU m H u v) : flatV v = flatU u := by cases r <;> rfl
theorem RelUs.flat {m : List Addr} {H : Hp} : ∀ {us : List U} {vs : List V}, RelUs m H us vs → vs.all flatV = us.all flatU
  | _, _, .nil => rfl
  | _, _, .cons r t => by simp only [List.all_cons, r.flat, RelUs.flat t]
theorem RelU.eqF {m : List Addr} {H : Hp} {u w : U} {v z : V} (r : RelU m H u v) (r2 : RelU m H w z) : eqV v z = Ev.eqF u w := by cases r <;> cases r2 <;> rfl
theorem RelUs.eqF {m : List Addr} {H : Hp} {w : U} {z : V} (r2 : RelU m H w z) : ∀ {us : List U} {vs : List V}, RelUs m H us vs → (vs.any fun y => eqV y z) = us.any fun y => Ev.eqF y w
  | _, _, .nil => rfl
  | _, _, .cons r t => by simp only [List.any_cons, r.eqF r2, RelUs.eqF r2 t]
theorem RelU.eqF' {m : List Addr} {H : Hp} {w : U} {z : V} (r2 : RelU m H w z) {us : List U} {vs : List V} (r : RelUs m H us vs) : inV z vs = us.any fun y => Ev.eqF y w := RelUs.eqF r2 r
/-! ### dicts -/
/-- an empty dict is one of either kind -/
theorem reT {pins : List (Addr × Obj)} {σ : L2.St} {H : Hp} {s : Shared} {a : Addr} (I : Inv X pins σ H s) (h : H a = some (.dK [])) : Inv X pins σ (upd H a (.dT [])) s := by
  obtain ⟨z, hd, vs, rel, dd⟩ := dk_of I.hok h
  cases rel
  obtain ⟨o, es, ep, h1, h2, h3, h4, h5, h6⟩ := dd
  have he : es.toList = [] := by cases e : es.toList with
    | nil => rfl
    | cons _ _ => rw [e] at h5; cases h5
  have hm : Mut (H a) := by rw [h]; exact trivial
  refine I.write (t' := s.toks) (h' := s.heap) (e := a) hm (.inl rfl) (fun b u _ q => q) ⟨o, h1⟩ ?_
  exact ⟨Nat.zero_le _, hd, [], .nil, o, es, ep, h1, h2, h3, by simpa using he, by simp⟩
theorem reK {pins : List (Addr × Obj)} {σ : L2.St} {H : Hp} {s : Shared} {a : Addr} (I : Inv X pins σ H s) (h : H a = some (.dT [])) : Inv X pins σ (upd H a (.dK [])) s := by
  obtain ⟨z, hd, xs, rel, o, es, ep, h1, h2, h3, h4, h5⟩ := I.hok a _ h
  cases rel
  have he : es = #[] := by
    have : es.toList = [] := by simpa using h4
    simpa using this
  subst he
  have hm : Mut (H a) := by rw [h]; exact trivial
  refine I.write (t' := s.toks) (h' := s.heap) (e := a) hm (.inl rfl) (fun b u _ q => q) ⟨o, h1⟩ ?_
  exact ⟨Nat.zero_le _, hd, [], .nil, o, _, ep, h1, h2, h3, by intro e h; simp at h, .nil, by simp⟩
theorem set_self {α : Type} {S : List α} {n : Nat} {o : α} (h : S[n]? = some o) : S.set n o = S := by
  obtain ⟨hn, e⟩ := List.getElem?_eq_some_iff.mp h
  subst e
  exact List.set_getElem_self hn
/-- the dict a by keys of k's kind -/
structure DAt (X : Cx) (cl : Lay) (pins : List (Addr × Obj)) (σ : L2.St) (s : Shared) (m : List Addr) (S : Sx) (H : Hp) (a : Addr) (kvs : List (Ky × U)) (k : Ky) (H2 : Hp) : Prop where
  inv : Inv X pins σ H2 s
  rel : RelS cl m S H2
  ext : Ext m H m H2
  kind : (∃ l k1, Rd H2 a (.dK l) ∧ RelE m H2 Ky.k kvs l ∧ k = .k k1) ∨ (∃ l ks, Rd H2 a (.dT l) ∧ RelE m H2 Ky.t kvs l ∧ k = .t ks)
theorem dic_at {pins : List (Addr × Obj)} {σ : L2.St} {H : Hp} {s : Shared} {m : List Addr} {S : Sx} {u : U} {v : V} {k : Ky} {kvs : List (Ky × U)} (I : Inv X pins σ H s) (rs : RelS cl m S H) (hd : dicAt S u = some kvs) (ru : RelU m H u v) (hf : fits' kvs k = true) :
    ∃ n a H2, u = .ref n ∧ v = .ref a ∧ m[n]? = some a ∧ DAt X cl pins σ s m S H a kvs k H2 := by
  cases u with
  | ref n =>
    simp only [dicAt] at hd
    cases e1 : S[n]? with
    | none => rw [e1] at hd; cases hd
    | some o =>
      rw [e1] at hd
      obtain ⟨a, w, rfl, h1, h2, h3⟩ := rs.atR e1 ru
      refine ⟨n, a, ?_⟩
      have mismK : ∀ {l : List (List Key × V)} {k1 : Key}, RelE m H Ky.t kvs l → fits' kvs (.k k1) = true → kvs = [] ∧ l = [] := fun {l k1} r hf => by
        cases r with
        | nil => exact ⟨rfl, rfl⟩
        | cons _ _ => simp [fits', sameKind] at hf
      have mismT : ∀ {l : List (Key × V)} {k1 : List Key}, RelE m H Ky.k kvs l → fits' kvs (.t k1) = true → kvs = [] ∧ l = [] := fun {l k1} r hf => by
        cases r with
        | nil => exact ⟨rfl, rfl⟩
        | cons _ _ => simp [fits', sameKind] at hf
      cases o with
      | dic kv2 =>
        cases hd
        cases k with
        | k k1 =>
          rcases h3 with ⟨l, rfl, r⟩ | ⟨l, rfl, r⟩
          · exact ⟨H, rfl, rfl, h1, I, rs, .refl, .inl ⟨l, k1, .inl h2, r, rfl⟩⟩
          · obtain ⟨rfl, rfl⟩ := mismK r hf
            obtain ⟨q1, q2⟩ := rs.set (o := .dic []) (u := .dK []) h1 h2 e1 (.inl ⟨[], rfl, .nil⟩)
            rw [set_self e1] at q1
            exact ⟨_, rfl, rfl, h1, reK I h2, q1, q2, .inl ⟨[], k1, .inl upd_same, .nil, rfl⟩⟩
        | t ks =>
          rcases h3 with ⟨l, rfl, r⟩ | ⟨l, rfl, r⟩
          · obtain ⟨rfl, rfl⟩ := mismT r hf
            obtain ⟨q1, q2⟩ := rs.set (o := .dic []) (u := .dT []) h1 h2 e1 (.inr ⟨[], rfl, .nil⟩)
            rw [set_self e1] at q1
            exact ⟨_, rfl, rfl, h1, reT I h2, q1, q2, .inr ⟨[], ks, .inl upd_same, .nil, rfl⟩⟩
          · exact ⟨H, rfl, rfl, h1, I, rs, .refl, .inr ⟨l, ks, .inl h2, r, rfl⟩⟩
      | lck kv2 =>
        simp only at hd
        split at hd
        · cases hd
        · rename_i hne
          cases hd
          obtain ⟨ob, d, rfl, h3⟩ := h3
          cases k with
          | k k1 =>
            rcases h3 with ⟨l, rfl, r⟩ | ⟨l, rfl, r⟩
            · exact ⟨H, rfl, rfl, h1, I, rs, .refl, .inl ⟨l, k1, .inr ⟨ob, h2⟩, r, rfl⟩⟩
            · obtain ⟨rfl, rfl⟩ := mismK r hf
              exact absurd rfl hne
          | t ks =>
            rcases h3 with ⟨l, rfl, r⟩ | ⟨l, rfl, r⟩
            · obtain ⟨rfl, rfl⟩ := mismT r hf
              exact absurd rfl hne
            · exact ⟨H, rfl, rfl, h1, I, rs, .refl, .inr ⟨l, ks, .inr ⟨ob, h2⟩, r, rfl⟩⟩
      | _ => cases hd
  | _ => cases hd
section
variable {pins : List (Addr × Obj)} {σ : L2.St} {H H2 : Hp} {s : Shared} {m : List Addr} {S : Sx} {a : Addr} {kvs : List (Ky × U)} {k : Ky} {i : U} {y : V}
/-- what it holds at a key -/
theorem DAt.get (D : DAt X cl pins σ s m S H a kvs k H2) (hk : keyOf i = some k) (ri : RelU m H i y) : ∃ o, DGet H2 a y o ∧ (∀ w, get' kvs k = some w → ∃ z, o = some z ∧ RelU m H2 w z) ∧ (get' kvs k = none → o = none) := by
  have ri2 := ri.ext D.ext
  rcases D.kind with ⟨l, k1, hr, re, rfl⟩ | ⟨l, ks, hr, re, rfl⟩
  · rcases ri2.key hk with ⟨k1', e, rfl⟩ | ⟨ks, b, e, _⟩ <;> cases e
    refine ⟨valV l k1, .inl ⟨l, k1, hr, rfl, rfl⟩, fun w h => ?_, (re.get kyK_inj k1).2⟩
    obtain ⟨z, h1, h2⟩ := (re.get kyK_inj k1).1 w h
    exact ⟨z, h1, h2⟩
  · rcases ri2.key hk with ⟨k1', e, rfl⟩ | ⟨ks', b, e, rfl, hb⟩ <;> cases e
    refine ⟨valV l ks, .inr ⟨l, ks, b, hr, rfl, hb, rfl⟩, fun w h => ?_, (re.get kyT_inj ks).2⟩
    obtain ⟨z, h1, h2⟩ := (re.get kyT_inj ks).1 w h
    exact ⟨z, h1, h2⟩
end
/-- x in v: a dict, a list or tuple of flat things, a text -/
theorem in_any {neg : Bool} (hu : X.A.units + 1 < cLine) : OpR X (compareOp (if neg then .NotIn else .In)) (rCmp cl fun S u v => (isIn S u v).map fun b => if neg then !b else b) := by
  intro pins s σ H x y v u Q I rx ry h
  obtain ⟨m, S, u1, v1, b, rs, r1, r2, h, q⟩ := h
  obtain ⟨b0, h0, rfl⟩ := Option.map_eq_some_iff.mp h
  unfold isIn at h0
  cases e1 : dicAt S v1 with
  | some kvs =>
    rw [e1] at h0
    simp only at h0
    cases e2 : keyOf u1 with
    | none => rw [e2] at h0; cases h0
    | some k =>
      rw [e2] at h0
      simp only at h0
      split at h0
      · rename_i hf
        cases h0
        obtain ⟨n, a, H2, rfl, rfl, hm, D⟩ := dic_at I rs e1 r2 hf
        obtain ⟨o, g, g1, g2⟩ := D.get e2 r1
        have eo : o.isSome = (get' kvs k).isSome := by
          cases e3 : get' kvs k with
          | none => rw [g2 e3]; rfl
          | some w => obtain ⟨z, hz, _⟩ := g1 w e3; rw [hz]; rfl
        obtain rfl : u = Value.ref a := ry
        have fin := q m H2 D.ext D.rel
        rw [← eo] at fin
        cases neg with
        | true => exact d_notIn hu D.inv g rx fun s' I' => ⟨.bl (!o.isSome), H2, I', rfl, fin⟩
        | false => exact d_in hu D.inv g rx fun s' I' => ⟨.bl o.isSome, H2, I', rfl, fin⟩
      · cases h0
  | none =>
    rw [e1] at h0
    simp only at h0
    cases e2 : seqAt S v1 with
    | some us =>
      rw [e2] at h0
      simp only at h0
      split at h0
      · rename_i hf
        cases h0
        obtain ⟨hf1, hf2⟩ := Bool.and_eq_true_iff.mp hf
        obtain ⟨p, vs, rfl, hq, re⟩ := rs.seq X.K e2 r2
        have fin := q m H .refl rs
        rw [← r1.eqF' re] at fin
        cases neg with
        | true => exact op_notIn_seq pins s σ H _ _ v u Q I rx ry ⟨p, vs, rfl, hq, by rw [r1.flat]; exact hf1, by rw [re.flat]; exact hf2, fin⟩
        | false => exact op_in_seq pins s σ H _ _ v u Q I rx ry ⟨p, vs, rfl, hq, by rw [r1.flat]; exact hf1, by rw [re.flat]; exact hf2, fin⟩
      · cases h0
    | none =>
      rw [e2] at h0
      simp only at h0
      cases r1 with
      | str i => cases r2 with
        | str j =>
          cases h0
          have fin := q m H .refl rs
          cases neg with
          | true => exact op_notin_str pins s σ H _ _ v u Q I rx ry ⟨i, j, rfl, rfl, fin⟩
          | false => exact op_in_str pins s σ H _ _ v u Q I rx ry ⟨i, j, rfl, rfl, fin⟩
        | _ => cases h0
      | _ => cases h0
theorem cmpI_any {op : CmpOp} {p : Int → Int → Bool} {g : Sx → U → U → Option Bool} (h : OpR X (compareOp op) (rI0 fun i j => .bl (p i j)))
    (hg : ∀ S u v b, g S u v = some b → ∃ i j, u = .int i ∧ v = .int j ∧ b = p i j) : OpR X (compareOp op) (rCmp cl g) := by
  refine ofOpR h fun x y H Q ⟨m, S, u, v, b, rs, rx, ry, e, q⟩ => ?_
  obtain ⟨i, j, rfl, rfl, rfl⟩ := hg _ _ _ _ e
  cases rx; cases ry
  exact ⟨i, j, rfl, rfl, q m H .refl rs⟩
theorem isN_any {m : List Addr} {H : Hp} {u v : U} {x y : V} {b : Bool} (rx : RelU m H u x) (ry : RelU m H v y) (h : isN u v = some b) : y = .non ∧ b = decide (x = .non) := by
  cases ry <;> cases rx <;> cases h <;> exact ⟨rfl, by simp⟩
theorem cmp_ok (hu : X.A.units + 64 < cLine) (op : CmpOp) : OpR X (compareOp op) (rCmp cl fun S => opCmp S op) := by
  cases op
  case Eq => exact eq_ok hu
  case NotEq => exact ne_ok hu
  case Lt =>
    refine cmpI_any op_lt fun S u v b e => ?_
    cases u <;> cases v <;> simp only [opCmp, ltI] at e <;> cases e
    exact ⟨_, _, rfl, rfl, rfl⟩
  case LtE =>
    refine cmpI_any op_le fun S u v b e => ?_
    cases u <;> cases v <;> simp only [opCmp, leI] at e <;> cases e
    exact ⟨_, _, rfl, rfl, rfl⟩
  case Gt =>
    refine cmpI_any op_gt fun S u v b e => ?_
    cases u <;> cases v <;> simp only [opCmp, ltI] at e <;> cases e
    exact ⟨_, _, rfl, rfl, rfl⟩
  case GtE =>
    refine cmpI_any op_ge fun S u v b e => ?_
    cases u <;> cases v <;> simp only [opCmp, leI] at e <;> cases e
    exact ⟨_, _, rfl, rfl, rfl⟩
  case In =>
    have h := in_any (X := X) (cl := cl) (neg := false) (by omega)
    have e : (fun S => opCmp S .In) = fun S u v => isIn S u v := by funext S u v; rfl
    rw [e]; simpa using h
  case NotIn =>
    have h := in_any (X := X) (cl := cl) (neg := true) (by omega)
    have e : (fun S => opCmp S .NotIn) = fun S u v => (isIn S u v).map (!·) := by funext S u v; rfl
    rw [e]; simpa using h
  case Is =>
    refine ofOpR op_isN fun x y H Q ⟨m, S, u, v, b, rs, rx, ry, e, q⟩ => ?_
    obtain ⟨rfl, rfl⟩ := isN_any rx ry e
    exact ⟨rfl, q m H .refl rs⟩
  case IsNot =>
    refine ofOpR op_notN fun x y H Q ⟨m, S, u, v, b, rs, rx, ry, e, q⟩ => ?_
    obtain ⟨b0, e0, rfl⟩ := Option.map_eq_some_iff.mp e
    obtain ⟨rfl, rfl⟩ := isN_any rx ry e0
    exact ⟨rfl, q m H .refl rs⟩
end
end Ev

set_option Elab.async false
set_option linter.all false
set_option autoImplicit false
set_option maxHeartbeats 1000000
/-! Subscripts, attributes, stores. -/
namespace Ev
open PySem PySem.Spec PyProof.Rows L2
section
variable {X : Cx} {cl : Lay}
theorem PE_or {e : Expr} {t t' : TE} (h : PE X e t) (h' : PE X e t') : PE X e (fun σ H Q => t σ H Q ∨ t' σ H Q) :=
  ⟨fun pins s σ H Q I q => q.elim (h.run pins s σ H Q I) (h'.run pins s σ H Q I)⟩
theorem PE_imp {e : Expr} {t t' : TE} (h : PE X e t) (i : ∀ σ H Q, t' σ H Q → t σ H Q) : PE X e t' := ⟨fun pins s σ H Q I q => h.run pins s σ H Q I (i σ H Q q)⟩
/-- items of a list, a tuple, a text -/
theorem ixSeq : IxR X (fun x y H Q => rIxL X.K x y H Q ∨ rIxT X.K x y H Q ∨ rIxS x y H Q) := by
  intro value slice pins s σ H x y v u Q I rx ry h hs
  rcases h with h | h | h
  · exact ix_list value slice pins s σ H x y v u Q I rx ry h hs
  · exact ix_tup value slice pins s σ H x y v u Q I rx ry h hs
  · exact ix_str value slice pins s σ H x y v u Q I rx ry h hs
theorem RelUs.atI {m : List Addr} {H : Hp} {us : List U} {vs : List V} {i : Int} {u : U} (r : RelUs m H us vs) (h : L2.atI us i = some u) : ∃ v, L2.atI vs i = some v ∧ RelU m H u v := by
  unfold L2.atI at *
  rw [← r.length]
  obtain ⟨j, h1, h2⟩ := Option.bind_eq_some_iff.mp h
  obtain ⟨v, h3, h4⟩ := r.get h2
  exact ⟨v, by rw [h1]; exact h3, h4⟩
/-- o[i] of no dict -/
theorem sub_seq {m : List Addr} {H : Hp} {S : Sx} {u v w : U} {x y : V} {Q : VK} (rs : RelS cl m S H) (rx : RelU m H u x) (ry : RelU m H v y) (hd : dicAt S u = none) (h : opSub' S u v = some w) (q : ∀ z, RelU m H w z → Q z H) :
    rIxL X.K x y H Q ∨ rIxT X.K x y H Q ∨ rIxS x y H Q := by
  unfold opSub' at h
  rw [hd] at h
  simp only at h
  cases e : seqAt S u with
  | some us =>
    rw [e] at h
    cases ry <;> simp only at h <;> first | (cases h; done) | skip
    obtain ⟨p, vs, rfl, hq, re⟩ := rs.seq X.K e rx
    obtain ⟨z, h1, h2⟩ := re.atI h
    rcases hq with hq | hq
    · exact .inl ⟨p, vs, _, z, rfl, rfl, hq, h1, q z h2⟩
    · exact .inr (.inl ⟨p, vs, _, z, rfl, rfl, hq, h1, q z h2⟩)
  | none =>
    rw [e] at h
    simp only at h
    cases rx with
    | str z => cases ry with
      | int i =>
        simp only at h
        split at h
        · rename_i hz
          obtain ⟨c, h1, rfl⟩ := Option.map_eq_some_iff.mp h
          exact .inr (.inr ⟨z, i, c, rfl, rfl, hz, h1, q _ (.str _)⟩)
        · cases h
      | _ => cases h
    | _ => cases h
/-- d[i], the dict found -/
theorem dget_ok (hu : X.A.units + 1 < cLine) {pins : List (Addr × Obj)} {σ : L2.St} {H : Hp} {s : Shared} {m : List Addr} {S : Sx} {u v w : U} {x y : V} {a b : Value} {kvs : List (Ky × U)} {Q : VK} (I : Inv X pins σ H s) (rs : RelS cl m S H)
    (hd : dicAt S u = some kvs) (r1 : RelU m H u x) (r2 : RelU m H v y) (rx : RelV x a) (ry : RelV y b) (h : opSub' S u v = some w) (q : ∀ m' H' z, Ext m H m' H' → RelS cl m' S H' → RelU m' H' w z → Q z H') :
    wpAny (model X.prog X.w) X.A (getItem a b) (EP X pins σ Q) X.xe s ∧ s.TypeIs a "dict" ∧ ∀ c, a = .ref c → ∃ ob, s.heap.get? c = some ob ∧ ob.dict = none := by
  unfold opSub' at h
  rw [hd] at h
  simp only at h
  cases e : keyOf v with
  | none => rw [e] at h; cases h
  | some k =>
    rw [e] at h
    simp only at h
    split at h
    · rename_i hf
      obtain ⟨n, ad, H2, rfl, rfl, hm, D⟩ := dic_at I rs hd r1 hf
      obtain ⟨o, g, g1, g2⟩ := D.get e r2
      obtain ⟨z, rfl, rz⟩ := g1 w h
      obtain rfl : a = Value.ref ad := rx
      exact ⟨d_getItem hu D.inv g ry fun w' s' I' rw' => ⟨z, H2, I', rw', q m H2 z D.ext D.rel rz⟩, dict_typeIs D.inv g, dict_noDict D.inv g⟩
    · cases h
/-- o[i] -/
def tSubU (cl : Lay) (ta tb : TE) : TE := fun σ H Q => ta σ H fun x H1 => tb σ H1 fun y H2 => ∃ m S u v w, RelS cl m S H2 ∧ RelU m H2 u x ∧ RelU m H2 v y ∧ opSub' S u v = some w ∧ ∀ m' H' z, Ext m H2 m' H' → RelS cl m' S H' → RelU m' H' w z → Q z H'
theorem pe_subU {a b : Expr} {ta tb : TE} {pos : Pos} (hu : X.A.units + 1 < cLine) (ha : PE X a ta) (hb : PE X b tb) (hs : PlainIx b) : PE X (.Subscript a b pos) (tSubU cl ta tb) := by
  refine ⟨fun pins s σ H Q I h => ?_⟩
  refine Subscript_ (thn (ha.run pins s σ H _ I h) fun v s1 ⟨x, H1, I1, r1, q1⟩ => thn (hb.run pins s1 σ H1 _ I1 q1) fun u s2 ⟨y, H2, I2, r2, m, S, u1, v1, w, rs, rx, ry, e, q⟩ => ?_)
  cases ed : dicAt S u1 with
  | none =>
    exact ixSeq a b pins s2 σ H2 x y v u Q I2 r1 r2 (sub_seq rs rx ry ed e fun z rz => q m H2 z .refl rs rz) (hs _ _)
  | some kvs =>
    obtain ⟨h1, h2, h3⟩ := dget_ok hu I2 rs ed rx ry r1 r2 e q
    unfold subscriptTail
    refine wpAny_bind ?_
    rw [getitemInPython_of_ne h2.not_modules]
    refine wpAny_bind (wpAny_specialOf h2 PySem.F.slot_dict_getitem.lookup ?_)
    have fin : wpAny (model X.prog X.w) X.A (subscripted b false v u) (fun r s₃ => wpAny (model X.prog X.w) X.A (letTemporaryGo a v r >>= fun _ => pure r) (EP X pins σ Q) X.xe s₃) X.xe s2 := by
      rw [hs v u]
      exact wpAny_operating (wpAny_mono h1 (fun r s₃ h₃ => wpAny_bind (wpAny_letTemporaryGo (wpAny_pure h₃))) fun _ _ x => x)
    first
      | exact wpAny_pure (wpAny_bind fin)
      | exact wpAny_bind (wpAny_pure (wpAny_bind fin))
      | exact wpAny_bind fin
/-! ### slices -/
theorem RelUs.cut {m : List Addr} {H : Hp} {us : List U} {vs : List V} (r : RelUs m H us vs) (lo hi : Option Int) : RelUs m H (cutU us lo hi) (cutV vs lo hi) := by
  unfold cutU cutV
  rw [r.length]
  exact (r.drop _).take _
def rSlcU (cl : Lay) : V → Option Int → Option Int → Hp → VK → Prop := fun x lo hi H Q => ∃ m S u, RelS cl m S H ∧ RelU m H u x ∧ DenV cl m H (opSlc u (lo.map .int) (hi.map .int) S) Q
theorem intO_map (lo : Option Int) : intO (lo.map .int) = some lo := by cases lo <;> rfl
theorem sl_any : SlR X (rSlcU cl) := by
  refine fun pins s σ H x v vl vu lo hi sl Q I rx hs pl pu h => ?_
  obtain ⟨m, S, u, rs, ru, h⟩ := h
  unfold opSlc at h
  simp only [intO_map] at h
  cases ru with
  | str z =>
    simp only at h
    split at h
    · rename_i hz
      exact sl_str pins s σ H _ v vl vu lo hi sl Q I rx hs pl pu ⟨z, rfl, hz, h.val rs (.str _)⟩
    · exact h.stuck
  | tup ha hr =>
    simp only at h
    split at h
    · exact h.stuck
    · rename_i hz
      exact sl_tup pins s σ H _ v vl vu lo hi sl Q I rx hs pl pu ⟨_, _, rfl, .inl (.inl ha), by rw [← hr.length]; exact hz, fun p hp => h.tup rs (hr.cut lo hi) hp⟩
  | ref ha =>
    rename_i n a
    simp only at h
    cases e : lstAt S (.ref n) with
    | none => rw [e] at h; exact h.stuck
    | some us =>
      rw [e] at h
      obtain ⟨a', vs, e2, hq, re⟩ := rs.lst X.K e (.ref ha)
      cases e2
      exact sl_list pins s σ H _ v vl vu lo hi sl Q I rx hs pl pu ⟨a, vs, rfl, hq, fun p hp => h.lst rs (re.cut lo hi) hp⟩
  | non => simp only [lstAt] at h; exact h.stuck
  | bl => simp only [lstAt] at h; exact h.stuck
  | int => simp only [lstAt] at h; exact h.stuck
/-! ### stores -/
theorem RelF.put {m : List Addr} {H : Hp} {f : String} {u : U} {v : V} (r : RelU m H u v) : ∀ {l : List (String × U)} {l' : List (Str × V)}, RelF m H l l' → RelF m H (fieldPut f u l) (putF (Str.ofString f) v l')
  | _, _, .nil => .cons r .nil
  | _, _, .cons (f := g) q t => by
    unfold fieldPut putF
    by_cases e : g = f
    · subst e
      simp
      exact .cons r t
    · have e' : ¬ Str.ofString g = Str.ofString f := fun z => e (ofString_inj z)
      simp [e, e']
      exact .cons q (RelF.put r t)
theorem RelF.length {m : List Addr} {H : Hp} : ∀ {l : List (String × U)} {l' : List (Str × V)}, RelF m H l l' → l.length = l'.length
  | _, _, .nil => rfl
  | _, _, .cons _ t => by simp [t.length]
/-- o[i] = u -/
def rSetU (cl : Lay) : TSet := fun o i v H Q => ∃ m S uo ui uv S', RelS cl m S H ∧ RelU m H uo o ∧ RelU m H ui i ∧ RelU m H uv v ∧ setItem S uo ui uv = some S' ∧ ∀ H', Ext m H m H' → RelS cl m S' H' → Q H'
theorem set_any (hu : X.A.units + 1 < cLine) : PSet X (rSetU cl) := by
  intro pins s σ H o i v ov iv u Q I ro ri rv h
  obtain ⟨m, S, uo, ui, uv, S', rs, r1, r2, r3, h, q⟩ := h
  cases r1 with
  | ref ha =>
    rename_i n a
    simp only [setItem] at h
    cases e1 : S[n]? with
    | none => rw [e1] at h; cases h
    | some ob =>
      rw [e1] at h
      obtain ⟨w, h1, h2⟩ := rs.obj _ _ _ e1 ha
      cases ob with
      | lst us =>
        obtain ⟨vs, rfl, re⟩ := h2
        cases r2 <;> simp only at h <;> first | (cases h; done) | skip
        obtain ⟨j, h3, rfl⟩ := Option.map_eq_some_iff.mp h
        have ex : Ext m H m (upd H a (.lst (vs.set j v))) := rs.extSet ha h1 e1
        obtain ⟨q1, q2⟩ := rs.set (o := .lst (us.set j uv)) (u := .lst (vs.set j v)) ha h1 e1 ⟨_, rfl, (re.set r3 j).ext ex⟩
        exact set_list pins s σ H _ _ v ov iv u Q I ro ri rv ⟨a, vs, _, j, rfl, rfl, h1, by rw [← re.length]; exact h3, q _ q2 q1⟩
      | dic kvs =>
        simp only at h
        cases e2 : keyOf ui with
        | none => rw [e2] at h; cases h
        | some k =>
          rw [e2] at h
          simp only at h
          split at h
          · rename_i hf
            cases h
            obtain ⟨n', a', H2, en, ea, hm, D⟩ := dic_at I rs (show dicAt S (.ref n) = some kvs by simp [dicAt, e1]) (.ref ha) hf.1
            cases en; cases ea
            obtain rfl : ov = Value.ref a := ro
            have ri2 := r2.ext D.ext
            have rv2 := r3.ext D.ext
            obtain ⟨w2, hw2, hr2⟩ := D.rel.obj _ _ _ e1 ha
            have nofrz : ∀ o d, H2 a ≠ some (.frz o d) := fun o d z => by
              rw [hw2] at z; cases z
              rcases hr2 with ⟨_, e, _⟩ | ⟨_, e, _⟩ <;> cases e
            rcases D.kind with ⟨l, k1, hr, re, rfl⟩ | ⟨l, ks, hr, re, rfl⟩
            · rcases hr with hr | ⟨o, hr⟩
              · rcases ri2.key e2 with ⟨k1', e, rfl⟩ | ⟨ks, b, e, _⟩ <;> cases e
                have ex : Ext m H2 m (upd H2 a (.dK (putK l k1 v))) := D.rel.extSet ha hr e1
                obtain ⟨q1, q2⟩ := D.rel.set (o := .dic (put' kvs (.k k1) uv)) (u := .dK (putK l k1 v)) ha hr e1 (.inl ⟨_, rfl, (re.put kyK_inj rv2).ext ex⟩)
                exact d_setItem hu D.inv (DPut.k hr (by rw [← re.length]; exact hf.2)) ri rv fun s' I' => ⟨_, I', q _ (D.ext.trans q2) q1⟩
              · exact absurd hr (nofrz _ _)
            · rcases hr with hr | ⟨o, hr⟩
              · rcases ri2.key e2 with ⟨k1', e, rfl⟩ | ⟨ks', b, e, rfl, hb⟩ <;> cases e
                have ex : Ext m H2 m (upd H2 a (.dT (putK l ks v))) := D.rel.extSet ha hr e1
                obtain ⟨q1, q2⟩ := D.rel.set (o := .dic (put' kvs (.t ks) uv)) (u := .dT (putK l ks v)) ha hr e1 (.inr ⟨_, rfl, (re.put kyT_inj rv2).ext ex⟩)
                exact d_setItem hu D.inv (DPut.t hr hb (by rw [← re.length]; exact hf.2)) ri rv fun s' I' => ⟨_, I', q _ (D.ext.trans q2) q1⟩
              · exact absurd hr (nofrz _ _)
          · cases h
      | _ => cases h
  | _ => cases h
end
end Ev

set_option Elab.async false
set_option linter.all false
set_option autoImplicit false
/-! The evaluator: the language behind the compiling, and what it gives. -/
namespace Ev
open PySem

mutual
inductive UE where
  | var (i : Nat)
  | con (u : U)
  | bin (op : Operator) (a b : UE)
  | neg (a : UE)
  | notV (a : UE)
  | andV (a b : UE)
  | orV (a b : UE)
  | cmp (op : CmpOp) (a b : UE)
  | chain (op op2 : CmpOp) (a b c : UE)
  | ife (t : UT) (a b : UE)
  | tup (es : UEs)
  | lst (es : UEs)
  | dct (es : UEs)
  | sub (a b : UE)
  | slc (a : UE) (lo hi : UO)
  | attr (a : UE) (f : String)
  | xattr (f : String)
  | xisa (c : String)
  | isty (a : UE) (ts : List String)
  | inC (neg : Bool) (a : UE) (xs : List Str)
  | call (f : String) (es : UEs)
  | mk (c f : String) (es : UEs)
  | base (f : String) (es : UEs)
  | meth (m : String) (a : UE) (es : UEs)
  | bcall (b : String) (es : UEs)
  | items (a : UE)
  | lc (own : List Nat) (tg : UTg) (it : UI) (cs : UTs) (e : UE)
inductive UEs where
  | nil | cons (e : UE) (es : UEs)
inductive UO where
  | none | some (e : UE)
inductive UT where
  | val (a : UE)
  | and (a b : UT)
  | or (a b : UT)
  | not (a : UT)
inductive UTs where
  | nil | cons (t : UT) (ts : UTs)
/-- what is walked -/
inductive UI where
  | seq (e : UE) | con (xs : List Str) | rng1 (a : UE) | rng2 (a b : UE) | enum (e : UE) (k : Int) | zip (a b : UE) | items (e : UE) | rev (e : UE)
inductive UTg where
  | name (i : Nat) | tup (l : UTgs) | sub (o i : UE) | attr (o : UE) (f : String)
inductive UTgs where
  | nil | cons (t : UTg) (ts : UTgs)
end
mutual
inductive US where
  | expr (e : UE)
  | asg (t : UTg) (e : UE)
  | aug (i : Nat) (op : Operator) (e : UE)
  | augS (o i : UE) (op : Operator) (e : UE)
  | ret (e : UE)
  | retN
  | pass
  | brk
  | cont
  | ife (t : UT) (a b : USs)
  | whl (t : UT) (b : USs)
  | for (t : UTg) (it : UI) (b : USs)
  | raise (c : String) (fs : List String) (es : UEs)
  | try (b : USs) (hs : UHs) (el : USs)
inductive USs where
  | nil | cons (s : US) (ss : USs)
/-- except clauses: the class, the name's slot, the suite -/
inductive UHs where
  | nil | cons (c : String) (i : Option Nat) (b : USs) (hs : UHs)
end

/-- what a body runs in: the defs, the methods, exceptions by class -/
structure Gam where
  call : String → List U → Sx → R U
  meth : String → String → Option String
  sub : String → String → Bool
  cur : Option Exn

/-! ### built-in functions -/
def ints1 : List U → Option (List Int)
  | [] => some []
  | .int i :: us => (ints1 us).map (i :: ·)
  | _ => none
def bools1 : List U → Option (List Bool)
  | [] => some []
  | .bl b :: us => (bools1 us).map (b :: ·)
  | _ => none
def strs1 : List U → Option (List Str)
  | [] => some []
  | .str x :: us => (strs1 us).map (x :: ·)
  | _ => none
/-- the order of texts, by the numbers of their signs -/
def leS (x y : Str) : Bool := decide (x.cps.toList ≤ y.cps.toList)
def leKey : L2.Key → L2.Key → Bool
  | .inl i, .inl j => decide (i ≤ j)
  | .inr x, .inr y => leS x y
  | .inl _, .inr _ => true
  | .inr _, .inl _ => false
def lenOf (S : Sx) (u : U) : Option Nat := match u with
  | .str x => if x.length ≤ sizeLine then some x.length else none
  | u => match seqAt S u with
    | some us => some us.length
    | none => match u with
      | .ref n => match S[n]? with
        | some (.dic kvs) => some kvs.length
        | _ => none
      | _ => none
/-- pairs (key, value) of a list -/
def pairs1 : List U → Option (List (L2.Key × U))
  | [] => some []
  | .tup [k, v] :: us => match key1 k, pairs1 us with
    | some k, some r => some ((k, v) :: r)
    | _, _ => none
  | _ => none
def entK (kv : L2.Key × U) : Ky × U := (.k kv.1, kv.2)
def sortS (xs : List Str) : List Str := xs.mergeSort leS
def bcall (b : String) (us : List U) (S : Sx) : R U := match b, us with
  | "len", [u] => R.opt ((lenOf S u).map fun (n : Nat) => U.int (n : Int)) S
  | "abs", [.int i] => .ok (.int (if i < 0 then -i else i)) S
  | "int", [.int i] => .ok (.int i) S
  | "int", [.bl k] => .ok (.int (if k then 1 else 0)) S
  | "max", [.int i, .int j] => .ok (.int (if j > i then j else i)) S
  | "min", [.int i, .int j] => .ok (.int (if j < i then j else i)) S
  | "list", [u] => match seqAt S u with
    | some us => new (.lst us) S
    | none => .stuck
  | "sum", [u] => match lstAt S u with
    | some us => R.opt ((ints1 us).map fun ns => .int ns.sum) S
    | none => .stuck
  | "all", [u] => match lstAt S u with
    | some us => R.opt ((bools1 us).map fun bs => .bl (bs.all id)) S
    | none => .stuck
  | "any", [u] => match lstAt S u with
    | some us => R.opt ((bools1 us).map fun bs => .bl (bs.any id)) S
    | none => .stuck
  | _, _ => .stuck
/-! ### methods of built-in types -/
def lmeth (m : String) (n : Nat) (us : List U) (args : List U) (S : Sx) : R U := match m, args with
  | "append", [u] => if us.length < sizeLine then .ok .non (S.set n (.lst (us ++ [u]))) else .stuck
  | "extend", [u] => match u with
    | .ref k => match S[k]? with
      | some (.lst vs) => if us.length + vs.length ≤ sizeLine then .ok .non (S.set n (.lst (us ++ vs))) else .stuck
      | _ => .stuck
    | _ => .stuck
  | "pop", [] => match us[us.length - 1]? with
    | some u => .ok u (S.set n (.lst us.dropLast))
    | none => .stuck
  | "clear", [] => .ok .non (S.set n (.lst []))
  | _, _ => .stuck
def dmeth (m : String) (n : Nat) (kvs : List (Ky × U)) (args : List U) (S : Sx) : R U := match m, args with
  | "get", [u, d] => match keyOf u with
    | some k => if fits' kvs k = true then .ok ((get' kvs k).getD d) S else .stuck
    | none => .stuck
  | _, _ => .stuck
inductive Recv where
  | own (key : String) | lst | dic | str
def recv (Γ : Gam) (S : Sx) (m : String) : U → Option Recv
  | .str _ => some .str
  | .ref n => match S[n]? with
    | some (.ins c fs) => if (fs.lookup m).isNone = true then (Γ.meth c m).map .own else none
    | some (.lst _) => some .lst
    | some (.dic _) => some .dic
    | _ => none
  | _ => none
def mcall (Γ : Gam) (m : String) (r : Recv) (u : U) (args : List U) (S : Sx) : R U := match r with
  | .own key => Γ.call key (u :: args) S
  | .lst => match u with
    | .ref n => match S[n]? with
      | some (.lst us) => lmeth m n us args S
      | _ => .stuck
    | _ => .stuck
  | .dic => match u with
    | .ref n => match S[n]? with
      | some (.dic kvs) => dmeth m n kvs args S
      | _ => .stuck
    | _ => .stuck
  | .str => .stuck
def tyIs (S : Sx) (u : U) (t : String) : Option Bool := match u with
  | .non => some false
  | .bl _ => some (t == "bool" || t == "int")
  | .int _ => some (t == "int")
  | .str _ => some (t == "str")
  | .tup _ => some (t == "tuple")
  | .ref n => match S[n]? with
    | some (.lst _) => some (t == "list")
    | some (.dic _) => some (t == "dict")
    | _ => none
/-! ### walks -/
/-- the items, and the lists that have to stand as they are -/
abbrev Wk := List U × List (Nat × O)
def signs (x : Str) : List U := x.cps.toList.map fun c => .str ⟨#[c]⟩
def seqW (S : Sx) (u : U) : Option Wk := match u with
  | .tup us => some (us, [])
  | .str x => some (signs x, [])
  | .ref n => match S[n]? with
    | some (.lst us) => some (us, [(n, .lst us)])
    | some (.ro us) => some (us, [(n, .ro us)])
    | _ => none
  | _ => none
def lstW (S : Sx) (u : U) : Option Wk := match u with
  | .ref n => match S[n]? with
    | some (.lst us) => some (us, [(n, .lst us)])
    | some (.ro us) => some (us, [(n, .ro us)])
    | _ => none
  | _ => none
def rngU (lo : Int) (n : Nat) (c : Int) : List U := (List.range n).map fun (i : Nat) => .int (lo + i * c)
def rngW : List U → Option Wk
  | [.int j] => if -(2 ^ 62) ≤ j ∧ j < 2 ^ 62 then some (rngU 0 j.toNat 1, []) else none
  | [.int i, .int j] => if -(2 ^ 62) ≤ i ∧ i < 2 ^ 62 ∧ -(2 ^ 62) ≤ j ∧ j < 2 ^ 62 then some (rngU i (j - i).toNat 1, []) else none
  | _ => none
def enumU (k : Int) : List U → List U
  | [] => []
  | u :: us => .tup [.int k, u] :: enumU (k + 1) us
def zipU : List U → List U → List U
  | u :: us, v :: vs => .tup [u, v] :: zipU us vs
  | _, _ => []
open Classical in
/-- all stands as it did -/
noncomputable def standW (c : List (Nat × O)) (S : Sx) : Bool := decide (∀ p ∈ c, S[p.1]? = some p.2)
theorem standW_nil (S : Sx) : standW [] S = true := by simp [standW]
theorem standW_one {n : Nat} {o : O} {S : Sx} (h : S[n]? = some o) : standW [(n, o)] S = true := by simp [standW, h]
/-- one item after the other -/
noncomputable def forGo (turn : U → Sl → Sx → RS) (c : List (Nat × O)) : List U → Sl → Sx → RS
  | [], σ, S => if standW c S = true then .nx σ S else .stuck
  | u :: us, σ, S => if standW c S = true then match turn u σ S with
      | .nx σ' S' => forGo turn c us σ' S'
      | .ct σ' S' => forGo turn c us σ' S'
      | .bk σ' S' => .nx σ' S'
      | r => r
    else .stuck
def whlGo (test : Sl → Sx → R Bool) (body : Sl → Sx → RS) : Nat → Sl → Sx → RS
  | 0, _, _ => .stuck
  | n + 1, σ, S => (test σ S).thenS σ fun b S1 => if b = true then match body σ S1 with
      | .nx σ' S' => whlGo test body n σ' S'
      | .ct σ' S' => whlGo test body n σ' S'
      | .bk σ' S' => .nx σ' S'
      | r => r
    else .nx σ S1
/-- a comprehension's items; nothing is raised within -/
noncomputable def lcGo (turn : U → Sx → R (Option U)) (c : List (Nat × O)) (D : Nat) : List U → Sx → R U
  | [], S => if standW c S = true then .ok (.ref D) S else .stuck
  | u :: us, S => if standW c S = true then match turn u S with
      | .ok (some v) S' => match S'[D]? with
        | some (.lst acc) => if acc.length < sizeLine then lcGo turn c D us (S'.set D (.lst (acc ++ [v]))) else .stuck
        | _ => .stuck
      | .ok none S' => lcGo turn c D us S'
      | _ => .stuck
    else .stuck
/-- a walk of a dict: the dict is locked meanwhile -/
def dicW (S : Sx) (u : U) : Option (Nat × List (Ky × U)) := match u with
  | .ref n => match S[n]? with
    | some (.dic kvs) => some (n, kvs)
    | _ => none
  | _ => none
def keysU (kvs : List (Ky × U)) : List U := kvs.map fun kv => kyU kv.1
def itemsU : List (Ky × U) → Option (List U)
  | [] => some []
  | (.k a, u) :: r => (itemsU r).map (.tup [k1U a, u] :: ·)
  | _ => none
def unlock (n : Nat) (kvs : List (Ky × U)) : RS → RS
  | .nx σ S => if S[n]?.isSome then .nx σ (S.set n (.dic kvs)) else .stuck
  | .rt u S => .rt u (S.set n (.dic kvs))
  | .bk σ S => .bk σ (S.set n (.dic kvs))
  | .ct σ S => .ct σ (S.set n (.dic kvs))
  | _ => .stuck
def wipe' (σ : Sl) : List Nat → Sl
  | [] => σ
  | v :: vs => (wipe' σ vs).set v none

/-! ### expressions -/
mutual
noncomputable def evE (Γ : Gam) : UE → Sl → Sx → R U
  | .var i, σ, S => match σ[i]? with
    | some (some u) => .ok u S
    | _ => .stuck
  | .con u, _, S => .ok u S
  | .bin op a b, σ, S => (evE Γ a σ S).bind fun u S1 => (evE Γ b σ S1).bind fun v S2 => opBin op u v S2
  | .neg a, σ, S => (evE Γ a σ S).bind fun u S1 => match u with
    | .int i => .ok (.int (-i)) S1
    | _ => .stuck
  | .notV a, σ, S => (evE Γ a σ S).bind fun u S1 => match u with
    | .bl b => .ok (.bl (!b)) S1
    | _ => .stuck
  | .andV a b, σ, S => (evE Γ a σ S).bind fun u S1 => match u with
    | .bl true => evE Γ b σ S1
    | .bl false => .ok (.bl false) S1
    | _ => .stuck
  | .orV a b, σ, S => (evE Γ a σ S).bind fun u S1 => match u with
    | .bl false => evE Γ b σ S1
    | .bl true => .ok (.bl true) S1
    | _ => .stuck
  | .cmp op a b, σ, S => (evE Γ a σ S).bind fun u S1 => (evE Γ b σ S1).bind fun v S2 => R.opt ((opCmp S2 op u v).map .bl) S2
  | .chain op op2 a b c, σ, S => (evE Γ a σ S).bind fun u S1 => (evE Γ b σ S1).bind fun v S2 => match opCmp S2 op u v with
    | some true => (evE Γ c σ S2).bind fun w S3 => R.opt ((opCmp S3 op2 v w).map .bl) S3
    | some false => .ok (.bl false) S2
    | none => .stuck
  | .ife t a b, σ, S => (evT Γ t σ S).bind fun c S1 => if c = true then evE Γ a σ S1 else evE Γ b σ S1
  | .tup es, σ, S => (evEs Γ es σ S).bind fun us S1 => if us.length ≤ sizeLine then .ok (.tup us) S1 else .stuck
  | .lst es, σ, S => (evEs Γ es σ S).bind fun us S1 => if us.length ≤ sizeLine then new (.lst us) S1 else .stuck
  | .dct .nil, _, S => new (.dic []) S
  | .dct _, _, _ => .stuck
  | .sub a b, σ, S => (evE Γ a σ S).bind fun u S1 => (evE Γ b σ S1).bind fun v S2 => R.opt (opSub' S2 u v) S2
  | .slc a lo hi, σ, S => (evE Γ a σ S).bind fun u S1 => (evO Γ lo σ S1).bind fun l S2 => (evO Γ hi σ S2).bind fun h S3 => opSlc u (l.map .int) (h.map .int) S3
  | .attr a f, σ, S => (evE Γ a σ S).bind fun u S1 => R.opt (opAttr S1 u f) S1
  | .xattr f, _, S => R.opt (Γ.cur.bind fun e => e.fs.lookup f) S
  | .xisa c, _, S => R.opt (Γ.cur.map fun e => .bl (Γ.sub e.cls c)) S
  | .isty a ts, σ, S => (evE Γ a σ S).bind fun u S1 => match ts with
    | [t] => R.opt ((tyIs S1 u t).map .bl) S1
    | _ => .stuck
  | .inC neg a xs, σ, S => (evE Γ a σ S).bind fun u S1 => match u with
    | .str x => .ok (.bl (if neg then !(xs.any fun y => y == x) else xs.any fun y => y == x)) S1
    | _ => .stuck
  | .call f es, σ, S => (evEs Γ es σ S).bind fun us S1 => Γ.call f us S1
  | .mk c f es, σ, S => (evEs Γ es σ S).bind fun us S1 => (Γ.call f (.ref S1.length :: us) (S1 ++ [.ins c []])).bind fun u S2 => match u with
    | .non => .ok (.ref S1.length) S2
    | _ => .stuck
  | .base f es, σ, S => (evEs Γ es σ S).bind fun us S1 => Γ.call f us S1
  | .meth m a es, σ, S => (evE Γ a σ S).bind fun u S1 => match recv Γ S1 m u with
    | none => .stuck
    | some r => (evEs Γ es σ S1).bind fun us S2 => mcall Γ m r u us S2
  | .bcall b es, σ, S => (evEs Γ es σ S).bind fun us S1 => bcall b us S1
  | .items a, σ, S => .stuck
  | .lc own tg it cs e, σ, S => (evI Γ it σ S).bind fun w S1 =>
      lcGo (fun u S2 => match evTg Γ tg u (wipe' σ own) S2 with
        | .nx σ2 S3 => (evTs Γ cs σ2 S3).bind fun b S4 => if b = true then (evE Γ e σ2 S4).bind fun v S5 => .ok (some v) S5 else .ok none S4
        | _ => .stuck) w.2 S1.length w.1 (S1 ++ [.lst []])
noncomputable def evEs (Γ : Gam) : UEs → Sl → Sx → R (List U)
  | .nil, _, S => .ok [] S
  | .cons e es, σ, S => (evE Γ e σ S).bind fun u S1 => (evEs Γ es σ S1).bind fun us S2 => .ok (u :: us) S2
noncomputable def evO (Γ : Gam) : UO → Sl → Sx → R (Option Int)
  | .none, _, S => .ok none S
  | .some e, σ, S => (evE Γ e σ S).bind fun u S1 => match u with
    | .int i => .ok (some i) S1
    | _ => .stuck
noncomputable def evT (Γ : Gam) : UT → Sl → Sx → R Bool
  | .val a, σ, S => (evE Γ a σ S).bind fun u S1 => match u with
    | .bl b => .ok b S1
    | _ => .stuck
  | .and a b, σ, S => (evT Γ a σ S).bind fun c S1 => if c = true then evT Γ b σ S1 else .ok false S1
  | .or a b, σ, S => (evT Γ a σ S).bind fun c S1 => if c = true then .ok true S1 else evT Γ b σ S1
  | .not a, σ, S => (evT Γ a σ S).bind fun c S1 => .ok (!c) S1
noncomputable def evTs (Γ : Gam) : UTs → Sl → Sx → R Bool
  | .nil, _, S => .ok true S
  | .cons t ts, σ, S => (evT Γ t σ S).bind fun c S1 => if c = true then evTs Γ ts σ S1 else .ok false S1
noncomputable def evI (Γ : Gam) : UI → Sl → Sx → R Wk
  | .seq e, σ, S => (evE Γ e σ S).bind fun u S1 => R.opt (seqW S1 u) S1
  | .con xs, _, S => .ok (xs.map .str, []) S
  | .rng1 a, σ, S => (evE Γ a σ S).bind fun u S1 => R.opt (rngW [u]) S1
  | .rng2 a b, σ, S => (evE Γ a σ S).bind fun u S1 => (evE Γ b σ S1).bind fun v S2 => R.opt (rngW [u, v]) S2
  | .enum e k, σ, S => (evE Γ e σ S).bind fun u S1 => R.opt ((lstW S1 u).map fun w => (enumU k w.1, w.2)) S1
  | .zip a b, σ, S => (evE Γ a σ S).bind fun u S1 => (evE Γ b σ S1).bind fun v S2 => match lstW S2 u, lstW S2 v with
    | some w, some w' => .ok (zipU w.1 w'.1, w.2 ++ w'.2) S2
    | _, _ => .stuck
  | .items _, _, _ => .stuck
  | .rev e, σ, S => (evE Γ e σ S).bind fun u S1 => R.opt ((lstW S1 u).map fun w => (w.1.reverse, w.2)) S1
noncomputable def evTg (Γ : Gam) : UTg → U → Sl → Sx → RS
  | .name i, u, σ, S => .nx (σ.set i (some u)) S
  | .tup l, u, σ, S => match u with
    | .tup us => evTgs Γ l us σ S
    | _ => .stuck
  | .sub o i, u, σ, S => (evE Γ o σ S).thenS σ fun a S1 => (evE Γ i σ S1).thenS σ fun b S2 => match setItem S2 a b u with
    | some S3 => .nx σ S3
    | none => .stuck
  | .attr o f, u, σ, S => .stuck
noncomputable def evTgs (Γ : Gam) : UTgs → List U → Sl → Sx → RS
  | .nil, [], σ, S => .nx σ S
  | .cons t ts, u :: us, σ, S => (evTg Γ t u σ S).next fun σ1 S1 => evTgs Γ ts us σ1 S1
  | _, _, _, _ => .stuck
end
/-! ### statements -/
/-- an except suite: the name's slot is empty behind it; nothing is raised out of it -/
def suiteE (i : Option Nat) (f : Sl → Sx → RS) (σ : Sl) (S : Sx) : RS := match i with
  | none => match f σ S with
    | .exc _ _ _ => .stuck
    | r => r
  | some i => if i < σ.length then match f (σ.set i none) S with
      | .nx σ1 S1 => .nx (σ1.set i none) S1
      | .bk σ1 S1 => .bk (σ1.set i none) S1
      | .ct σ1 S1 => .ct (σ1.set i none) S1
      | .rt u S1 => .rt u S1
      | _ => .stuck
    else .stuck
mutual
noncomputable def evS (Γ : Gam) : US → Sl → Sx → RS
  | .expr e, σ, S => (evE Γ e σ S).thenS σ fun _ S1 => .nx σ S1
  | .asg (.attr o f) e, σ, S => (evE Γ e σ S).thenS σ fun u S1 => (evE Γ o σ S1).thenS σ fun a S2 => match setAttr S2 a f u with
    | some S3 => .nx σ S3
    | none => .stuck
  | .asg t e, σ, S => (evE Γ e σ S).thenS σ fun u S1 => evTg Γ t u σ S1
  | .aug i op e, σ, S => match σ[i]? with
    | some (some u) => (evE Γ e σ S).thenS σ fun v S1 => match opIn op u v with
      | some w => .nx (σ.set i (some w)) S1
      | none => .stuck
    | _ => .stuck
  | .augS o i op e, σ, S => (evE Γ o σ S).thenS σ fun a S1 => (evE Γ i σ S1).thenS σ fun b S2 => match opSub' S2 a b with
    | some u => (evE Γ e σ S2).thenS σ fun v S3 => match opIn op u v with
      | some w => match setItem S3 a b w with
        | some S4 => .nx σ S4
        | none => .stuck
      | none => .stuck
    | none => .stuck
  | .ret e, σ, S => (evE Γ e σ S).thenS σ fun u S1 => .rt u S1
  | .retN, _, S => .rt .non S
  | .pass, σ, S => .nx σ S
  | .brk, σ, S => .bk σ S
  | .cont, σ, S => .ct σ S
  | .ife t a b, σ, S => (evT Γ t σ S).thenS σ fun c S1 => if c = true then evSs Γ a σ S1 else evSs Γ b σ S1
  | .whl t b, σ, S => whlGo (evT Γ t) (evSs Γ b) 1000000 σ S
  | .for tg it b, σ, S => (evI Γ it σ S).thenS σ fun w S1 => forGo (fun u σ S => (evTg Γ tg u σ S).next fun σ' S' => evSs Γ b σ' S') w.2 w.1 σ S1
  | .raise c fs es, σ, S => (evEs Γ es σ S).thenS σ fun us S1 => if fs.length = us.length ∨ fs = [] then .exc ⟨c, fs.zip us, Γ.cur.isSome⟩ σ S1 else .stuck
  | .try b hs el, σ, S => match evSs Γ b σ S with
    | .exc e σ1 S1 => evH Γ hs e σ1 S1
    | .nx σ1 S1 => evSs Γ el σ1 S1
    | r => r
noncomputable def evSs (Γ : Gam) : USs → Sl → Sx → RS
  | .nil, σ, S => .nx σ S
  | .cons s ss, σ, S => (evS Γ s σ S).next fun σ1 S1 => evSs Γ ss σ1 S1
noncomputable def evH (Γ : Gam) : UHs → Exn → Sl → Sx → RS
  | .nil, _, _, _ => .stuck
  | .cons c i b hs, e, σ, S => if Γ.sub e.cls c = true then suiteE i (evSs { Γ with cur := some e } b) σ S
    else evH Γ hs e σ S
end
/-! ### defs -/
structure DefU where
  n : Nat
  N : Nat
  dfl : List U
  body : USs
structure Prg where
  defs : List (String × DefU)
  meth : String → String → Option String
  sub : String → String → Bool
def RS.done : RS → R U
  | .nx _ S => .ok .non S
  | .rt u S => .ok u S
  | .exc e _ S => .exc e S
  | _ => .stuck
/-- a body, all arguments told -/
noncomputable def evB (P : Prg) (call : String → List U → Sx → R U) (d : DefU) (us : List U) (S : Sx) : R U :=
  (evSs ⟨call, P.meth, P.sub, none⟩ d.body (us.map some ++ List.replicate (d.N - us.length) none) S).done
/-- arguments, and the defaults of those that lack -/
def padded (d : DefU) (us : List U) : Option (List U) :=
  if us.length ≤ d.n ∧ d.n ≤ us.length + d.dfl.length then some (us ++ d.dfl.drop (us.length + d.dfl.length - d.n)) else none
noncomputable def evD (P : Prg) : Nat → String → List U → Sx → R U
  | 0, _, _, _ => .stuck
  | k + 1, f, us, S => match P.defs.lookup f with
    | some d => match padded d us with
      | some ws => evB P (evD P k) d ws S
      | none => .stuck
    | none => .stuck
end Ev

set_option Elab.async false
set_option linter.all false
set_option autoImplicit false
set_option maxHeartbeats 1000000
/-! Promises of defs by the evaluator; the context of a body. -/
namespace Ev
open PySem PySem.Spec PyProof.Rows L2

/-- a def of the text beside what it was compiled to -/
structure DefL where
  key : String
  at_ : Str × Option Str
  name : Str
  qual : Str
  params : Arguments
  body : List Stmt
  scope : Scope
  ps : List Str
  N : List Str
  dfl : List He.Dv
  u : DefU
/-- what is promised of a def that does F: mode false: of exceptions raised where none was handled, mode true: of all -/
def spF (cl : Lay) (n : Nat) (F : List U → Sx → R U) (mode : Bool) : Sp := fun vs H Q E => vs.length = n ∧
  ∃ m S us, RelS cl m S H ∧ RelUs m H us vs ∧ Den cl m H (F us S) Q fun ch c d H' => (ch = true → mode = true) ∧ E c d H'
/-- how exceptions of a mode fly -/
def cxt (P : Program) (w : World) : Bool → CXT
  | false => L2N.CX P w
  | true => L2.CX P w
/-- both promises of a def -/
structure FnB (P : Program) (w : World) (K : PySem.W.Frag) (mg : Str → Option Value) (base : Heap) (cl : Lay) (k : Nat) (f : Addr) (fd : FuncData) (ps : List Str) (n : Nat) (F : List U → Sx → R U) : Prop where
  ok : ∀ mode, FnOk P w K mg base (cxt P w mode) k f fd ps (spF cl n F mode)
/-- a wish about exceptions with the slots -/
abbrev WS := Bool → WX
/-- exceptions of the context X are wanted as W says -/
structure Tk (X : Cx) (W : WS) : Prop where
  n : L2N.Takes X (W false)
  f : L2.Takes X (W true)
theorem Tk.at {X : Cx} {W : WS} (t : Tk X W) (mode : Bool) (σ : L2.St) : PassesAt (cxt X.prog X.w mode) X σ (WE (W mode) σ) := by
  cases mode with
  | false => exact L2N.passAt t.n σ
  | true => exact passAt t.f σ
/-- how a def binds what it is called with -/
def BindAll (K : PySem.W.Frag) (d : DefL) (fd : FuncData) : Prop := ∀ j, j ≤ d.dfl.length → ∃ ds, Vals ((d.dfl.map (He.Dv.v K)).drop j) ds ∧ Binds K fd d.ps ds
inductive RelDv (K : PySem.W.Frag) : List U → List He.Dv → Prop
  | nil : RelDv K [] []
  | non {us : List U} {ds : List He.Dv} : RelDv K us ds → RelDv K (.non :: us) (.non :: ds)
  | bl {b : Bool} {us : List U} {ds : List He.Dv} : RelDv K us ds → RelDv K (.bl b :: us) (.bl b :: ds)
  | int {i : Int} {us : List U} {ds : List He.Dv} : RelDv K us ds → RelDv K (.int i :: us) (.int i :: ds)
  | str {x : Str} {us : List U} {ds : List He.Dv} : RelDv K us ds → RelDv K (.str x :: us) (.str x :: ds)
theorem RelDv.rel {K : PySem.W.Frag} {m : List Addr} {H : Hp} : ∀ {us : List U} {ds : List He.Dv}, RelDv K us ds → RelUs m H us (ds.map (He.Dv.v K))
  | _, _, .nil => .nil
  | _, _, .non t => .cons .non t.rel
  | _, _, .bl t => .cons (.bl _) t.rel
  | _, _, .int t => .cons (.int _) t.rel
  | _, _, .str t => .cons (.str _) t.rel
/-- a def stands at f, with its promises -/
structure DefOkP (P : Program) (w : World) (K : PySem.W.Frag) (mg : Str → Option Value) (base : Heap) (cl : Lay) (k : Nat) (d : DefL) (f : Addr) (F : List U → Sx → R U) : Prop where
  ex : ∃ fd, FnB P w K mg base cl k f fd d.ps d.u.n F ∧ BindAll K d fd
  kp : PySem.W.keepIn K (.ref f) = true
  dfl : RelDv K d.u.dfl d.dfl
abbrev DefOk (X : Cx) (cl : Lay) (k : Nat) (d : DefL) (f : Addr) (F : List U → Sx → R U) : Prop := DefOkP X.prog X.w X.K X.mg X.base cl k d f F
/-- a call, its arguments told -/
theorem run_def {X : Cx} {cl : Lay} {k : Nat} {d : DefL} {f : Addr} {F : List U → Sx → R U} (D : DefOk X cl k d f F) (hr : Room k X.A) {W : WS} (tk : Tk X W)
    {pins : List (Addr × Obj)} {σ : L2.St} {H : Hp} {s : Shared} {Q : VK} {us : List Value} {vs : List V} {m : List Addr} {S : Sx} {ws xs : List U} (I : Inv X pins σ H s) (r : Vals vs us) (rs : RelS cl m S H) (rv : RelUs m H ws vs)
    (hp : padded d.u ws = some xs) (h : Den cl m H (F xs S) Q fun ch c dd H' => W ch c dd σ H') : wpAny (model X.prog X.w) X.A (call (.ref f) us) (EP X pins σ Q) X.xe s := by
  obtain ⟨fd, B, hb⟩ := D.ex
  unfold padded at hp
  split at hp
  · rename_i hl
    cases hp
    have e1 : d.u.dfl.length = d.dfl.length := by have := (D.dfl.rel (m := m) (H := H)).length; simpa using this
    obtain ⟨ds, v1, b1⟩ := hb (ws.length + d.u.dfl.length - d.u.n) (by omega)
    have e2 : (vs ++ (d.dfl.map (He.Dv.v X.K)).drop (ws.length + d.u.dfl.length - d.u.n)).length = d.u.n := by
      rw [List.length_append, List.length_drop, List.length_map, ← rv.length, ← e1]; omega
    have rr : RelUs m H (ws ++ d.u.dfl.drop (ws.length + d.u.dfl.length - d.u.n)) (vs ++ (d.dfl.map (He.Dv.v X.K)).drop (ws.length + d.u.dfl.length - d.u.n)) := rv.append (D.dfl.rel.drop _)
    have go : ∀ mode, (Den cl m H (F (ws ++ d.u.dfl.drop (ws.length + d.u.dfl.length - d.u.n)) S) Q fun ch c dd H' => (ch = true → mode = true) ∧ W mode c dd σ H') → wpAny (model X.prog X.w) X.A (call (.ref f) us) (EP X pins σ Q) X.xe s := fun mode hd =>
      run_fnSD (E := fun σ => WE (W mode) σ) (B.ok mode) hr b1 v1 (tk.at mode σ) I r ⟨e2, m, S, _, rs, rr, hd⟩
    cases e : F (ws ++ d.u.dfl.drop (ws.length + d.u.dfl.length - d.u.n)) S with
    | ok u S' => rw [e] at h; exact go false (by rw [e]; exact h)
    | stuck => rw [e] at h; exact h.elim
    | exc x S' =>
      rw [e] at h
      cases hx : x.ch with
      | true => exact go true (by rw [e]; intro m' H' c dd a b cc; have := h m' H' c dd a b cc; rw [hx] at this; exact ⟨fun _ => rfl, this⟩)
      | false => exact go false (by rw [e]; intro m' H' c dd a b cc; have := h m' H' c dd a b cc; rw [hx] at this; exact ⟨(fun z => by rw [hx] at z; cases z), this⟩)
  · cases hp
end Ev

set_option Elab.async false
set_option linter.all false
set_option autoImplicit false
set_option maxHeartbeats 1000000
/-! Syntax: what the model looks at besides values. -/
namespace Ev
open PySem PySem.Spec PyProof.Rows L2

def starB : Expr → Bool
  | .Starred _ _ => true
  | _ => false
theorem star_cons {e : Expr} {es : List Expr} {env : Env} (h : starB e = false) : starEach (e :: es) env = (false, eval e env) :: starEach es env := by
  cases e <;> first | rfl | cases h
theorem star_all {env : Env} {pos : Pos} : ∀ {es : List Expr}, es.all (fun e => !starB e) = true → (backTo pos (starEach es env)).any (·.1) = false ∧ (backTo pos (starEach es env)).all (fun x => !x.1) = true
  | [], _ => ⟨rfl, rfl⟩
  | e :: es, h => by
    simp only [List.all_cons, Bool.and_eq_true, Bool.not_eq_true'] at h
    obtain ⟨h1, h2⟩ := star_all (env := env) (pos := pos) (es := es) (by simpa using h.2)
    rw [star_cons h.1]
    exact ⟨by simpa [backTo] using h1, by simpa [backTo] using h2⟩
def compB : Expr → Bool
  | .ListComp .. => true
  | .SetComp .. => true
  | .DictComp .. => true
  | _ => false
theorem swaps_no {e : Expr} {t : Option Expr} {l : Nat} {env : Env} (h : compB e = false) : swapsWith e t l env = pure false := by
  cases e <;> first | rfl | cases h
def call0B : Expr → Bool
  | .Call (.Name _ _) [] [] _ => true
  | _ => false
theorem abase {o : Expr} {f : Str} {env : Env} {t : Sem Value} (h : call0B o = false) : attributeBase o f env t = t := by
  unfold attributeBase
  split
  · cases h
  · rfl
def sliceB : Expr → Bool
  | .Slice .. => true
  | _ => false
theorem plainIx {b : Expr} (h : sliceB b = false) : PlainIx b := by
  intro o i
  cases b <;> first | rfl | cases h
def setB : Expr → Bool
  | .Set .. => true
  | _ => false
theorem nomarks {op : CmpOp} {b : Expr} (h : setB b = false) : behindInMarks op b = false := by
  cases b <;> first | rfl | cases h
/-- no expression of its own in a test -/
def testB : Expr → Bool
  | .UnaryOp .Not _ _ => true
  | .BoolOp .. => true
  | .IfExp .. => true
  | .Compare .. => true
  | _ => false
theorem plainTest {e : Expr} {env : Env} (h : testB e = false) : ∀ whole, isTrue e env whole = (do let v ← whole; standAt e.pos; holding [v] (truthy v)) := by
  intro whole
  cases e
  case UnaryOp op a pos => cases op <;> first | rfl | cases h
  all_goals first | rfl | cases h
theorem folded {e : Expr} {env : Env} (h : setB e = false) : ∀ x, foldedSetIterable e env x = pure x := by
  intro x
  cases e <;> first | rfl | cases h
/-- o.m(..) on one line -/
theorem eval_meth {o : Expr} {m : Str} {apos pos : Pos} {args : List Expr} {env : Env} (h : call0B o = false) (hl : (apos.endLine == pos.line) = true) (hs : args.all (fun e => !starB e) = true) (hn : args.length < 29) :
    eval (.Call (.Attribute o m apos) args [] pos) env = (do
      let ov ← eval o env
      standAt apos.atName
      let (f, first) ← holding [ov] (getMethod ov m (plainOf o env))
      callWith pos f first (backTo pos (starEach args env)) (backToKw pos (keywordEach [] env))) := by
  have e1 : eval (.Call (.Attribute o m apos) args [] pos) env = (do
      let ov ← attributeBase o m env (eval o env)
      standAt apos.atName
      methodCall o m apos pos env ov (args.length + ([] : List Keyword).length) (backTo pos (starEach args env)) (backToKw pos (keywordEach [] env))) := by rfl
  rw [e1, abase h]
  have hf : methodCallForm (args.length + ([] : List Keyword).length) (backTo pos (starEach args env)) (backToKw pos (keywordEach [] env)) = true := by
    unfold methodCallForm
    rw [(star_all hs).2]
    simp [backToKw, keywordEach]
    omega
  congr 1
  funext ov
  congr 1
  funext _
  exact mcall_line hf hl
end Ev

set_option Elab.async false
set_option linter.all false
set_option autoImplicit false
set_option maxHeartbeats 1000000
/-! Expressions: the evaluator's step is the machine's. -/
namespace Ev
open PySem PySem.Spec PyProof.Rows L2

/-- the slots -/
structure RelL (cl : Lay) (m : List Addr) (H : Hp) (su : Sl) (σ : L2.St) : Prop where
  len : su.length = σ.length
  at_ : ∀ (i : Nat) (u : U), su[i]? = some (some u) → ∃ v, σ[i]? = some (some v) ∧ RelU m H u v
  held : ∀ i a, cl.hs = some (i, a) → σ[i]? = some (some (.ref a))
section
variable {cl : Lay} {m m' : List Addr} {H H' : Hp} {su : Sl} {σ : L2.St}
theorem RelL.ext (r : RelL cl m H su σ) (e : Ext m H m' H') : RelL cl m' H' su σ :=
  ⟨r.len, fun i u h => let ⟨v, h1, h2⟩ := r.at_ i u h; ⟨v, h1, h2.ext e⟩, r.held⟩
theorem RelL.set (r : RelL cl m H su σ) {i : Nat} {u : U} {v : V} (h : RelU m H u v) (k : cl.nk i) : RelL cl m H (su.set i (some u)) (σ.set i (some v)) := by
  refine ⟨by simp [r.len], fun j w hj => ?_, fun j a hj => ?_⟩
  · by_cases e : j = i
    · subst e
      by_cases hl : j < su.length
      · rw [List.getElem?_set_self hl] at hj
        cases hj
        exact ⟨v, by rw [List.getElem?_set_self (by rw [← r.len]; exact hl)], h⟩
      · rw [List.getElem?_eq_none (by simpa using hl)] at hj; cases hj
    · rw [List.getElem?_set_ne (Ne.symm e)] at hj ⊢
      exact r.at_ j w hj
  · rw [List.getElem?_set_ne]
    · exact r.held j a hj
    · intro e; subst e; exact k a hj
theorem RelL.unset (r : RelL cl m H su σ) {i : Nat} {o : Option V} (k : cl.nk i) : RelL cl m H (su.set i none) (σ.set i o) := by
  refine ⟨by simp [r.len], fun j w hj => ?_, fun j a hj => ?_⟩
  · by_cases e : j = i
    · subst e
      by_cases hl : j < su.length
      · rw [List.getElem?_set_self hl] at hj; cases hj
      · rw [List.getElem?_eq_none (by simpa using hl)] at hj; cases hj
    · rw [List.getElem?_set_ne (Ne.symm e)] at hj ⊢
      exact r.at_ j w hj
  · rw [List.getElem?_set_ne]
    · exact r.held j a hj
    · intro e; subst e; exact k a hj
theorem RelL.wipe (r : RelL cl m H su σ) (k : cl.hs = none) : ∀ own : List Nat, RelL cl m H (wipe' su own) (L2.wipe σ own)
  | [] => r
  | v :: vs => (r.wipe k vs).unset (fun a h => by rw [k] at h; cases h)
end
abbrev Fe := Sl → Sx → R U
/-- the expression e gives what f gives -/
def PEU (X : Cx) (cl : Lay) (W : WS) (e : Expr) (f : Fe) : Prop := ∃ t : TE, PE X e t ∧ ∀ m S H su σ Q, RelS cl m S H → RelL cl m H su σ → Den cl m H (f su S) Q (fun ch c d H' => W ch c d σ H') → t σ H Q
def PTU (X : Cx) (cl : Lay) (W : WS) (e : Expr) (f : Sl → Sx → R Bool) : Prop := ∃ t : TT, PT X e t ∧ ∀ m S H su σ Q, RelS cl m S H → RelL cl m H su σ → DenB cl m H (f su S) Q (fun ch c d H' => W ch c d σ H') → t σ H Q
def PWU (X : Cx) (cl : Lay) (W : WS) (e : Expr) (f : Sl → Sx → R Bool) : Prop := ∃ t : TT, PW X e t ∧ ∀ m S H su σ Q, RelS cl m S H → RelL cl m H su σ → DenB cl m H (f su S) Q (fun ch c d H' => W ch c d σ H') → t σ H Q
def PAU (X : Cx) (cl : Lay) (W : WS) (es : List Expr) (f : Sl → Sx → R (List U)) : Prop := ∃ t : TA, PA X es t ∧ ∀ m S H su σ Q, RelS cl m S H → RelL cl m H su σ → Dens cl m H (f su S) Q (fun ch c d H' => W ch c d σ H') → t σ H Q
section
variable {X : Cx} {cl : Lay} {W : WS} {pos : Pos}
theorem PEU.cong {e : Expr} {f g : Fe} (h : PEU X cl W e f) (q : ∀ σ S, f σ S = g σ S) : PEU X cl W e g := by
  have : f = g := by funext σ S; exact q σ S
  rw [← this]; exact h
theorem peu_var {i : Nat} {x : Str} (hN : X.N[i]? = some x) (hv : Vis X.env.scope x) (hd : (x == ("__debug__" : Str)) = false) (hcd : (x == ("__classdict__" : Str)) = false) :
    PEU X cl W (.Name x pos) (fun σ S => match σ[i]? with | some (some u) => .ok u S | _ => .stuck) := by
  refine ⟨_, pe_var hN hv hd hcd, fun m S H su σ Q rs rl h => ?_⟩
  cases e : su[i]? with
  | none => simp only [e] at h; exact h.elim
  | some o =>
    cases o with
    | none => simp only [e] at h; exact h.elim
    | some u =>
      simp only [e] at h
      obtain ⟨v, h1, h2⟩ := rl.at_ i u e
      exact ⟨v, h1, h.val rs h2⟩
theorem peu_con {e : Expr} {u : U} {v : V} (h : PE X e (tC v)) (r : ∀ m H, RelU m H u v) : PEU X cl W e (fun _ S => .ok u S) :=
  ⟨_, h, fun m S H su σ Q rs rl q => q.val rs (r m H)⟩
theorem peu_bin {a b : Expr} {fa fb : Fe} {op : Operator} (ha : PEU X cl W a fa) (hb : PEU X cl W b fb) :
    PEU X cl W (.BinOp a op b pos) (fun σ S => (fa σ S).bind fun u S1 => (fb σ S1).bind fun v S2 => opBin op u v S2) := by
  obtain ⟨ta, ha, sa⟩ := ha
  obtain ⟨tb, hb, sb⟩ := hb
  refine ⟨_, pe_op (bin_ok (cl := cl) op) ha hb, fun m S H su σ Q rs rl h => ?_⟩
  refine sa m S H su σ _ rs rl (h.first fun u S1 m1 H1 x _ e1 rs1 ru1 h1 => ?_)
  refine sb m1 S1 H1 su σ _ rs1 (rl.ext e1) (h1.first fun v S2 m2 H2 y _ e2 rs2 ru2 h2 => ?_)
  refine ⟨m2, S2, u, v, rs2, ru1.ext e2, ru2, h2.sure fun x S' z => ?_⟩
  cases op <;> cases u <;> cases v <;> simp only [opBin, opAdd, opSub, opMul, opDiv, opMod, opPow, opShr, opAnd, new] at z <;> first | (cases z; done) | (split at z <;> first | (cases z; done) | (split at z <;> cases z))
theorem R.opt_sure {α : Type} {o : Option α} {S : Sx} {e : Exn} {S' : Sx} : R.opt o S ≠ .exc e S' := by
  cases o <;> intro h <;> cases h
theorem peu_cmp {a b : Expr} {fa fb : Fe} {op : CmpOp} (hu : X.A.units + 64 < cLine) (hs : setB b = false) (ha : PEU X cl W a fa) (hb : PEU X cl W b fb) :
    PEU X cl W (.Compare a [op] [b] pos) (fun σ S => (fa σ S).bind fun u S1 => (fb σ S1).bind fun v S2 => R.opt ((opCmp S2 op u v).map .bl) S2) := by
  obtain ⟨ta, ha, sa⟩ := ha
  obtain ⟨tb, hb, sb⟩ := hb
  refine ⟨_, pe_cmpR (cmp_ok (cl := cl) hu op) ha hb (nomarks hs), fun m S H su σ Q rs rl h => ?_⟩
  refine sa m S H su σ _ rs rl (h.first fun u S1 m1 H1 x _ e1 rs1 ru1 h1 => ?_)
  refine sb m1 S1 H1 su σ _ rs1 (rl.ext e1) (h1.first fun v S2 m2 H2 y _ e2 rs2 ru2 h2 => ?_)
  cases e : opCmp S2 op u v with
  | none => rw [e] at h2; exact h2.elim
  | some b =>
    rw [e] at h2
    exact ⟨m2, S2, u, v, b, rs2, ru1.ext e2, ru2, e, fun m' H' ex rs' => h2 m' H' _ ex rs' (.bl b)⟩
/-- a comparison as a test -/
theorem ptu_cmp {a b : Expr} {fa fb : Fe} {op : CmpOp} (hu : X.A.units + 64 < cLine) (hs : setB b = false) (ha : PEU X cl W a fa) (hb : PEU X cl W b fb) :
    PTU X cl W (.Compare a [op] [b] pos) (fun σ S => ((fa σ S).bind fun u S1 => (fb σ S1).bind fun v S2 => R.opt ((opCmp S2 op u v).map U.bl) S2).bind fun u S1 => match u with | .bl b => .ok b S1 | _ => .stuck) := by
  obtain ⟨ta, ha, sa⟩ := ha
  obtain ⟨tb, hb, sb⟩ := hb
  refine ⟨_, pt_cmpR (cmp_ok (cl := cl) hu op) ha hb (nomarks hs), fun m S H su σ Q rs rl h => ?_⟩
  have ass : ∀ {α : R U} {f : U → Sx → R U} {g : U → Sx → R Bool}, (α.bind f).bind g = α.bind fun u S => (f u S).bind g := fun {α f g} => by cases α <;> rfl
  simp only [ass] at h
  refine sa m S H su σ _ rs rl (Den.firstB h fun u S1 m1 H1 x _ e1 rs1 ru1 h1 => ?_)
  refine sb m1 S1 H1 su σ _ rs1 (rl.ext e1) (Den.firstB h1 fun v S2 m2 H2 y _ e2 rs2 ru2 h2 => ?_)
  cases e : opCmp S2 op u v with
  | none => rw [e] at h2; exact h2.elim
  | some b =>
    rw [e] at h2
    exact ⟨m2, S2, u, v, b, rs2, ru1.ext e2, ru2, e, fun m' H' ex rs' => ⟨b, rfl, h2 m' H' ex rs'⟩⟩
theorem peu_not {a : Expr} {fa : Fe} (ha : PEU X cl W a fa) : PEU X cl W (.UnaryOp .Not a pos) (fun σ S => (fa σ S).bind fun u S1 => match u with | .bl b => .ok (.bl (!b)) S1 | _ => .stuck) := by
  obtain ⟨ta, ha, sa⟩ := ha
  refine ⟨_, pe_not ha, fun m S H su σ Q rs rl h => ?_⟩
  refine sa m S H su σ _ rs rl (h.first fun u S1 m1 H1 x _ e1 rs1 ru1 h1 => ?_)
  cases ru1 <;> first | exact h1.elim | exact ⟨_, rfl, h1.val rs1 (.bl _)⟩
theorem peu_neg {a : Expr} {fa : Fe} (ha : PEU X cl W a fa) : PEU X cl W (.UnaryOp .USub a pos) (fun σ S => (fa σ S).bind fun u S1 => match u with | .int i => .ok (.int (-i)) S1 | _ => .stuck) := by
  obtain ⟨ta, ha, sa⟩ := ha
  refine ⟨_, pe_un un_neg ha, fun m S H su σ Q rs rl h => ?_⟩
  refine sa m S H su σ _ rs rl (h.first fun u S1 m1 H1 x _ e1 rs1 ru1 h1 => ?_)
  cases ru1 <;> first | exact h1.elim | exact ⟨_, rfl, h1.val rs1 (.int _)⟩
theorem peu_and {a b : Expr} {rest : List Expr} {fa fb : Fe} (ha : PEU X cl W a fa) (hb : PEU X cl W (.BoolOp .And (b :: rest) pos) fb) :
    PEU X cl W (.BoolOp .And (a :: b :: rest) pos) (fun σ S => (fa σ S).bind fun u S1 => match u with | .bl true => fb σ S1 | .bl false => .ok (.bl false) S1 | _ => .stuck) := by
  obtain ⟨ta, ha, sa⟩ := ha
  obtain ⟨tb, hb, sb⟩ := hb
  refine ⟨_, pe_and ha hb, fun m S H su σ Q rs rl h => ?_⟩
  refine sa m S H su σ _ rs rl (h.first fun u S1 m1 H1 x _ e1 rs1 ru1 h1 => ?_)
  cases ru1 with
  | bl c =>
    refine ⟨c, rfl, ?_⟩
    cases c with
    | true => exact sb m1 S1 H1 su σ Q rs1 (rl.ext e1) h1
    | false => exact h1.val rs1 (.bl _)
  | _ => exact h1.elim
theorem peu_or {a b : Expr} {rest : List Expr} {fa fb : Fe} (ha : PEU X cl W a fa) (hb : PEU X cl W (.BoolOp .Or (b :: rest) pos) fb) :
    PEU X cl W (.BoolOp .Or (a :: b :: rest) pos) (fun σ S => (fa σ S).bind fun u S1 => match u with | .bl false => fb σ S1 | .bl true => .ok (.bl true) S1 | _ => .stuck) := by
  obtain ⟨ta, ha, sa⟩ := ha
  obtain ⟨tb, hb, sb⟩ := hb
  refine ⟨_, pe_or ha hb, fun m S H su σ Q rs rl h => ?_⟩
  refine sa m S H su σ _ rs rl (h.first fun u S1 m1 H1 x _ e1 rs1 ru1 h1 => ?_)
  cases ru1 with
  | bl c =>
    refine ⟨c, rfl, ?_⟩
    cases c with
    | false => exact sb m1 S1 H1 su σ Q rs1 (rl.ext e1) h1
    | true => exact h1.val rs1 (.bl _)
  | _ => exact h1.elim
theorem peu_one {a : Expr} {fa : Fe} {op : BoolOp} (ha : PEU X cl W a fa) : PEU X cl W (.BoolOp op [a] pos) fa := let ⟨ta, ha, sa⟩ := ha; ⟨ta, pe_one ha, sa⟩
theorem ptu_val {e : Expr} {f : Fe} (h : PEU X cl W e f) (he : testB e = false) : PTU X cl W e (fun σ S => (f σ S).bind fun u S1 => match u with | .bl b => .ok b S1 | _ => .stuck) := by
  obtain ⟨t, h, s⟩ := h
  refine ⟨_, pt_val h (plainTest he), fun m S H su σ Q rs rl h => ?_⟩
  refine s m S H su σ _ rs rl (Den.firstB h fun u S1 m1 H1 x _ e1 rs1 ru1 h1 => ?_)
  cases ru1 <;> first | exact h1.elim | exact ⟨_, rfl, h1 m1 H1 .refl rs1⟩
theorem ptu_not {e : Expr} {f : Sl → Sx → R Bool} (h : PTU X cl W e f) : PTU X cl W (.UnaryOp .Not e pos) (fun σ S => (f σ S).bind fun c S1 => .ok (!c) S1) := by
  obtain ⟨t, h, s⟩ := h
  refine ⟨_, pt_not h, fun m S H su σ Q rs rl h => ?_⟩
  exact s m S H su σ _ rs rl (DenB.firstB h fun b S1 m1 H1 _ e1 rs1 h1 => h1 m1 H1 .refl rs1)
theorem pwu_one {a : Expr} {f : Sl → Sx → R Bool} {op : BoolOp} (ha : PTU X cl W a f) : PWU X cl W (.BoolOp op [a] pos) f := by
  obtain ⟨ta, ha, sa⟩ := ha
  cases op with
  | And => exact ⟨ta, pw_and1 ha, sa⟩
  | Or => exact ⟨ta, pw_or1 ha, sa⟩
theorem pwu_and {a b : Expr} {rest : List Expr} {fa fb : Sl → Sx → R Bool} (ha : PTU X cl W a fa) (hb : PWU X cl W (.BoolOp .And (b :: rest) pos) fb) :
    PWU X cl W (.BoolOp .And (a :: b :: rest) pos) (fun σ S => (fa σ S).bind fun c S1 => if c = true then fb σ S1 else .ok false S1) := by
  obtain ⟨ta, ha, sa⟩ := ha
  obtain ⟨tb, hb, sb⟩ := hb
  refine ⟨_, pw_and ha hb, fun m S H su σ Q rs rl h => ?_⟩
  refine sa m S H su σ _ rs rl (DenB.firstB h fun c S1 m1 H1 _ e1 rs1 h1 => ?_)
  cases c with
  | true => exact sb m1 S1 H1 su σ Q rs1 (rl.ext e1) h1
  | false => exact h1 m1 H1 .refl rs1
theorem pwu_or {a b : Expr} {rest : List Expr} {fa fb : Sl → Sx → R Bool} (ha : PTU X cl W a fa) (hb : PWU X cl W (.BoolOp .Or (b :: rest) pos) fb) :
    PWU X cl W (.BoolOp .Or (a :: b :: rest) pos) (fun σ S => (fa σ S).bind fun c S1 => if c = true then .ok true S1 else fb σ S1) := by
  obtain ⟨ta, ha, sa⟩ := ha
  obtain ⟨tb, hb, sb⟩ := hb
  refine ⟨_, pw_or ha hb, fun m S H su σ Q rs rl h => ?_⟩
  refine sa m S H su σ _ rs rl (DenB.firstB h fun c S1 m1 H1 _ e1 rs1 h1 => ?_)
  cases c with
  | false => exact sb m1 S1 H1 su σ Q rs1 (rl.ext e1) h1
  | true => exact h1 m1 H1 .refl rs1
theorem PWU.pt {e : Expr} {f : Sl → Sx → R Bool} (h : PWU X cl W e f) : PTU X cl W e f := let ⟨t, h, s⟩ := h; ⟨t, h.pt, s⟩
theorem peu_ife {c a b : Expr} {fc : Sl → Sx → R Bool} {fa fb : Fe} (hc : PTU X cl W c fc) (ha : PEU X cl W a fa) (hb : PEU X cl W b fb) :
    PEU X cl W (.IfExp c a b pos) (fun σ S => (fc σ S).bind fun c S1 => if c = true then fa σ S1 else fb σ S1) := by
  obtain ⟨tc, hc, sc⟩ := hc
  obtain ⟨ta, ha, sa⟩ := ha
  obtain ⟨tb, hb, sb⟩ := hb
  refine ⟨_, pe_ifExp hc ha hb, fun m S H su σ Q rs rl h => ?_⟩
  refine sc m S H su σ _ rs rl (DenB.first h fun c S1 m1 H1 _ e1 rs1 h1 => ?_)
  cases c with
  | true => exact sa m1 S1 H1 su σ Q rs1 (rl.ext e1) h1
  | false => exact sb m1 S1 H1 su σ Q rs1 (rl.ext e1) h1
theorem pau_nil : PAU X cl W [] (fun _ S => .ok [] S) := ⟨_, pa_nil, fun m S H su σ Q rs rl h => h m H [] .refl rs .nil⟩
theorem pau_cons {e : Expr} {es : List Expr} {f : Fe} {g : Sl → Sx → R (List U)} (hs : starB e = false) (h : PEU X cl W e f) (q : PAU X cl W es g) :
    PAU X cl W (e :: es) (fun σ S => (f σ S).bind fun u S1 => (g σ S1).bind fun us S2 => .ok (u :: us) S2) := by
  obtain ⟨t, h, s⟩ := h
  obtain ⟨ts, hq, ss⟩ := q
  refine ⟨_, pa_cons h hq (star_cons hs), fun m S H su σ Q rs rl h => ?_⟩
  refine s m S H su σ _ rs rl (Den.firstL h fun u S1 m1 H1 x _ e1 rs1 ru1 h1 => ?_)
  refine ss m1 S1 H1 su σ _ rs1 (rl.ext e1) (Dens.firstL h1 fun us S2 m2 H2 y _ e2 rs2 ru2 h2 => ?_)
  exact h2 m2 H2 _ .refl rs2 (.cons (ru1.ext e2) ru2)
theorem peu_tup {es : List Expr} {g : Sl → Sx → R (List U)} {k : Nat} (q : PAU X cl W es g) : PEU X cl W (.Tuple es k pos) (fun σ S => (g σ S).bind fun us S1 => if us.length ≤ sizeLine then .ok (.tup us) S1 else .stuck) := by
  obtain ⟨ts, hq, ss⟩ := q
  refine ⟨_, pe_tup hq, fun m S H su σ Q rs rl h => ?_⟩
  refine ss m S H su σ _ rs rl (Dens.first h fun us S1 m1 H1 y _ e1 rs1 ru1 h1 => ?_)
  by_cases hz : us.length ≤ sizeLine
  · simp only [hz, if_true] at h1
    exact ⟨by rw [← ru1.length]; exact hz, fun p hp => (h1.sure fun _ _ z => nomatch z).tup rs1 ru1 hp⟩
  · simp only [hz, if_false] at h1; exact h1.elim
theorem peu_lst {es : List Expr} {g : Sl → Sx → R (List U)} (q : PAU X cl W es g) : PEU X cl W (.List es pos) (fun σ S => (g σ S).bind fun us S1 => if us.length ≤ sizeLine then new (.lst us) S1 else .stuck) := by
  obtain ⟨ts, hq, ss⟩ := q
  refine ⟨_, pe_lst hq, fun m S H su σ Q rs rl h => ?_⟩
  refine ss m S H su σ _ rs rl (Dens.first h fun us S1 m1 H1 y _ e1 rs1 ru1 h1 => ?_)
  by_cases hz : us.length ≤ sizeLine
  · simp only [hz, if_true] at h1
    exact ⟨by rw [← ru1.length]; exact hz, fun p hp => (h1.sure fun _ _ z => nomatch z).lst rs1 ru1 hp⟩
  · simp only [hz, if_false] at h1; exact h1.elim
theorem peu_dnew : PEU X cl W (.Dict [] [] pos) (fun _ S => new (.dic []) S) := by
  refine ⟨_, pe_dnewK, fun m S H su σ Q rs rl h => fun p hp => ?_⟩
  refine h (m ++ [p]) _ _ (Ext.new hp) (rs.new hp (.inl ⟨[], rfl, .nil⟩)) (.ref ?_)
  rw [← rs.len]; simp
theorem peu_sub {a b : Expr} {fa fb : Fe} (hu : X.A.units + 1 < cLine) (hs : sliceB b = false) (ha : PEU X cl W a fa) (hb : PEU X cl W b fb) :
    PEU X cl W (.Subscript a b pos) (fun σ S => (fa σ S).bind fun u S1 => (fb σ S1).bind fun v S2 => R.opt (opSub' S2 u v) S2) := by
  obtain ⟨ta, ha, sa⟩ := ha
  obtain ⟨tb, hb, sb⟩ := hb
  refine ⟨_, pe_subU (cl := cl) hu ha hb (plainIx hs), fun m S H su σ Q rs rl h => ?_⟩
  refine sa m S H su σ _ rs rl (h.first fun u S1 m1 H1 x _ e1 rs1 ru1 h1 => ?_)
  refine sb m1 S1 H1 su σ _ rs1 (rl.ext e1) (h1.first fun v S2 m2 H2 y _ e2 rs2 ru2 h2 => ?_)
  cases e : opSub' S2 u v with
  | none => rw [e] at h2; exact h2.elim
  | some w => rw [e] at h2; exact ⟨m2, S2, u, v, w, rs2, ru1.ext e2, ru2, e, h2⟩
def POU (X : Cx) (cl : Lay) (W : WS) (e : Option Expr) (f : Sl → Sx → R (Option Int)) : Prop := ∃ t : TO, PO X e t ∧ ∀ {α : Type} {g : Option Int → Sx → R U} {QQ : VK} m S H su σ (Q : Option Int → Hp → Prop), RelS cl m S H → RelL cl m H su σ →
    Den cl m H ((f su S).bind g) QQ (fun ch c d H' => W ch c d σ H') → (∀ o S' m' H', f su S = .ok o S' → Ext m H m' H' → RelS cl m' S' H' → Den cl m' H' (g o S') QQ (fun ch c d H' => W ch c d σ H') → Q o H') → t σ H Q
theorem pou_none : POU X cl W none (fun _ S => .ok none S) := ⟨_, po_none, fun m S H su σ Q rs rl h k => k none S m H rfl .refl rs h⟩
theorem pou_some {e : Expr} {f : Fe} (h : PEU X cl W e f) : POU X cl W (some e) (fun σ S => (f σ S).bind fun u S1 => match u with | .int i => .ok (some i) S1 | _ => .stuck) := by
  obtain ⟨t, h, s⟩ := h
  refine ⟨_, po_some h, fun {α g QQ} m S H su σ Q rs rl h k => ?_⟩
  have ass : ∀ {α : R U} {f : U → Sx → R (Option Int)} {g : Option Int → Sx → R U}, (α.bind f).bind g = α.bind fun u S => (f u S).bind g := fun {α f g} => by cases α <;> rfl
  rw [ass] at h
  refine s m S H su σ _ rs rl (h.first fun u S1 m1 H1 x e0 e1 rs1 ru1 h1 => ?_)
  cases ru1 <;> first | exact h1.elim | skip
  exact ⟨_, rfl, k _ S1 m1 H1 (by simp only [e0, R.bind_ok]) e1 rs1 h1⟩
theorem peu_slc {a : Expr} {lo hi : Option Expr} {p2 : Pos} {fa : Fe} {fl fh : Sl → Sx → R (Option Int)} (ha : PEU X cl W a fa) (hl : POU X cl W lo fl) (hh : POU X cl W hi fh) :
    PEU X cl W (.Subscript a (.Slice lo hi none p2) pos) (fun σ S => (fa σ S).bind fun u S1 => (fl σ S1).bind fun l S2 => (fh σ S2).bind fun h S3 => opSlc u (l.map .int) (h.map .int) S3) := by
  obtain ⟨ta, ha, sa⟩ := ha
  obtain ⟨tl, hl, sl⟩ := hl
  obtain ⟨th, hh, sh⟩ := hh
  refine ⟨_, pe_slice (sl_any (cl := cl)) ha hl hh, fun m S H su σ Q rs rl h => ?_⟩
  refine sa m S H su σ _ rs rl (h.first fun u S1 m1 H1 x _ e1 rs1 ru1 h1 => ?_)
  refine sl (α := Unit) m1 S1 H1 su σ _ rs1 (rl.ext e1) h1 fun l S2 m2 H2 _ e2 rs2 h2 => ?_
  refine sh (α := Unit) m2 S2 H2 su σ _ rs2 ((rl.ext e1).ext e2) h2 fun hi' S3 m3 H3 _ e3 rs3 h3 => ?_
  refine ⟨m3, S3, u, rs3, (ru1.ext e2).ext e3, h3.sure fun x S' z => ?_⟩
  unfold opSlc at z
  simp only [intO_map] at z
  cases u <;> simp only [lstAt, new] at z <;> first | (cases z; done) | (split at z <;> cases z)
end
end Ev

set_option Elab.async false
set_option linter.all false
set_option autoImplicit false
set_option maxHeartbeats 1000000
/-! Attributes, calls. -/
namespace Ev
open PySem PySem.Spec PyProof.Rows L2
/-- classes of instances: they read and store their fields plainly -/
def ClsOk (K : PySem.W.Frag) (cl : Lay) (fields : List String) : Prop := ∀ c C, cl.i c = some C → Cls K C ∧ ∀ f, f ∈ fields → NoAttr K C (Str.ofString f)
section
variable {X : Cx} {cl : Lay} {W : WS} {pos : Pos}
theorem peu_attr {o : Expr} {fo : Fe} {f : String} {x : Str} {fields : List String} (hx : x = Str.ofString f) (hc : ClsOk X.K cl fields) (hf : f ∈ fields) (h0 : call0B o = false) (ho : PEU X cl W o fo) :
    PEU X cl W (.Attribute o x pos) (fun σ S => (fo σ S).bind fun u S1 => R.opt (opAttr S1 u f) S1) := by
  subst hx
  obtain ⟨t, h, s⟩ := ho
  refine ⟨_, pe_fld h (abase h0), fun m S H su σ Q rs rl h => ?_⟩
  refine s m S H su σ _ rs rl (h.first fun u S1 m1 H1 x _ e1 rs1 ru1 h1 => ?_)
  cases e : opAttr S1 u f with
  | none => rw [e] at h1; exact h1.elim
  | some w =>
    rw [e] at h1
    cases u with
    | ref n =>
      simp only [opAttr] at e
      cases e2 : S1[n]? with
      | none => rw [e2] at e; cases e
      | some ob =>
        rw [e2] at e
        cases ob with
        | ins c fs =>
          obtain ⟨a, w', rfl, hm, hH, C, dx, l, hcl, rfl, hd, hr⟩ := rs1.atR e2 ru1
          obtain ⟨k1, k2⟩ := hc c C hcl
          obtain ⟨v, hv, rv⟩ := hr.lookup e
          exact ⟨a, C, dx, l, v, rfl, hH, k1, k2 f hf, hv, h1.val rs1 rv⟩
        | _ => cases e
    | _ => cases e
/-- names of an expression's shape that the walk does not look through -/
theorem pos_any {es : List Expr} {env : Env} (hs : es.all (fun e => !starB e) = true) : (backTo pos (starEach es env)).any (·.1) = false := (star_all hs).1
/-- what Γ.call does by F -/
abbrev Calls' (d : DefL) (F : List U → Sx → R U) (call : List U → Sx → R U) : Prop := ∀ us S, call us S = match padded d.u us with | some ws => F ws S | none => .stuck
theorem run_call {k : Nat} {d : DefL} {f : Addr} {F : List U → Sx → R U} {call : List U → Sx → R U} (hc : Calls' d F call) (D : DefOk X cl k d f F) (hr : Room k X.A) (tk : Tk X W) {pins : List (Addr × Obj)} {σ : L2.St} {H1 : Hp} {s1 : Shared} {Q : VK} {us : List Value} {vs : List V}
    {m : List Addr} {S : Sx} {ws : List U} (I1 : Inv X pins σ H1 s1) (r : Vals vs us) (rs : RelS cl m S H1) (rv : RelUs m H1 ws vs) (hd : Den cl m H1 (call ws S) Q fun ch c d H' => W ch c d σ H') :
    wpAny (model X.prog X.w) X.A (PySem.call (.ref f) us) (EP X pins σ Q) X.xe s1 := by
  rw [hc] at hd
  cases e : padded d.u ws with
  | none => rw [e] at hd; exact hd.elim
  | some xs => rw [e] at hd; exact run_def D hr tk I1 r rs rv e hd
/-- f(..): a def of the text -/
theorem peu_call {k : Nat} {d : DefL} {f : Addr} {F : List U → Sx → R U} {x : Str} {p : Pos} {e : Expr} {es : List Expr} {g : Sl → Sx → R (List U)} {call : List U → Sx → R U} (hc : Calls' d F call)
    (D : DefOk X cl k d f F) (hr : Room k X.A) (tk : Tk X W) (hg : Gl X x) (hm : X.mg x = some (.ref f)) (hdb : (x == ("__debug__" : Str)) = false) (hs : (e :: es).all (fun e => !starB e) = true) (h : PAU X cl W (e :: es) g) :
    PEU X cl W (.Call (.Name x p) (e :: es) [] pos) (fun σ S => (g σ S).bind fun us S1 => call us S1) := by
  obtain ⟨t, ht, ss⟩ := h
  refine ⟨fun σ H Q => t σ H fun vs H1 => ∃ m S ws, RelS cl m S H1 ∧ RelUs m H1 ws vs ∧ Den cl m H1 (call ws S) Q fun ch c d H' => W ch c d σ H', ⟨fun pins s σ H Q I h => ?_⟩, fun m S H su σ Q rs rl h => ?_⟩
  · refine wpAny_Call_Name_kw (ld_glob I hg hm ?_ hdb)
    simp only [List.all_cons, Bool.and_eq_true] at hs
    exact PySem.W.callWith_K (h₀ := X.base) I.ok.mod.kin D.kp (thn (ht.run pos pins s σ H _ I h) fun us s1 ⟨vs, H1, I1, r, m, S, ws, rs, rv, hd⟩ => ⟨I1.kIn, run_call hc D hr tk I1 r rs rv hd⟩) (star_cons (by simpa using hs.1)) (pos_any (by simpa using hs.2))
  · exact ss m S H su σ _ rs rl (Dens.first h fun us S1 m1 H1 y _ e1 rs1 ru1 h1 => ⟨m1, S1, us, rs1, ru1, h1⟩)
theorem peu_call0 {k : Nat} {d : DefL} {f : Addr} {F : List U → Sx → R U} {x : Str} {p : Pos} {call : List U → Sx → R U} (hc : Calls' d F call)
    (D : DefOk X cl k d f F) (hr : Room k X.A) (tk : Tk X W) (hg : Gl X x) (hm : X.mg x = some (.ref f)) (hdb : (x == ("__debug__" : Str)) = false) :
    PEU X cl W (.Call (.Name x p) [] [] pos) (fun σ S => call [] S) := by
  refine ⟨fun σ H Q => ∃ m S, RelS cl m S H ∧ Den cl m H (call [] S) Q fun ch c d H' => W ch c d σ H', ⟨fun pins s σ H Q I h => ?_⟩, fun m S H su σ Q rs rl h => ⟨m, S, rs, h⟩⟩
  obtain ⟨m, S, rs, hd⟩ := h
  refine wpAny_Call_Name_kw (ld_glob I hg hm ?_ hdb)
  exact PySem.W.callWith_K0 I.kIn D.kp (run_call hc D hr tk I .nil rs .nil hd)
/-- a class is called, its __init__ keeps a promise; exceptions at these slots -/
theorem make_at {k : Nat} {f C : Addr} {fd : FuncData} {ps : List Str} {sp : Sp} {CX : CXT} {E : XK} {ds : List Value} {dvs : List V} (M : Mk X.K C f) (F : FnOk X.prog X.w X.K X.mg X.base CX k f fd ps sp) (hr : Room (k + 1) X.A) (hb : Binds X.K fd ps ds) (hd : Vals dvs ds)
    {σ : L2.St} (hx : PassesAt CX X σ E) {pins : List (Addr × Obj)} {H : Hp} {s : Shared} {Q : VK} {us : List Value} {vs : List V} (I : Inv X pins σ H s) (r : Vals vs us)
    (want : ∀ x dx, H x = none → H dx = none → dx ≠ x → sp (.ref x :: (vs ++ dvs)) (upd (upd H dx (.own x)) x (.ins C dx [])) (fun v H2 => v = .non ∧ Q (.ref x) H2) E) :
    wpAny (model X.prog X.w) X.A (call (.ref C) us) (EP X pins σ Q) X.xe s := by
  have n0 : H s.heap.objs.size = none := I.hok.fresh (Nat.le_refl _)
  have n1 : H (s.heap.objs.size + 1) = none := I.hok.fresh (Nat.le_succ _)
  have w1 := want _ _ n1 n0 (Nat.ne_of_lt (Nat.lt_succ_self _))
  have J := Inv.made (C := C) I
  have rr : Vals (V.ref (s.heap.objs.size + 1) :: (vs ++ dvs)) (Value.ref (s.heap.objs.size + 1) :: (us ++ ds)) := .cons rfl (r.append hd)
  have len : (Value.ref (s.heap.objs.size + 1) :: us ++ ds).length = ps.length := (rr.length.symm.trans (F.len _ _ _ _ w1) : _)
  have body := F.run (X.A.under (.builtin "type.__call__" ⟨.ref C :: us, []⟩)) X.stack _ _ ⟨Value.ref (s.heap.objs.size + 1) :: us, []⟩ (Value.ref (s.heap.objs.size + 1) :: (us ++ ds)) _ _ E (hr.make C us []) (J.env0.make C us []) (hb _ (Value.ref (s.heap.objs.size + 1) :: us) J.kIn len) rr w1
  refine wpAny_call (make_map (f := f) I.kIn M.makes M.init (beq_iff_eq.mp M.fn) (codeAny_mono body fun res s' got => ?_))
  match res, got with
  | .error e, got => exact hx pins _ _ e s' J got
  | .ok (.ret u), got =>
    obtain ⟨v, H', I3, rv, ev, q3⟩ := J.after got
    subst ev
    exact ⟨rv, ⟨V.ref (s.heap.objs.size + 1), H', I3, rfl, q3⟩⟩
/-- C(..): a new instance -/
theorem run_mk {k : Nat} {d : DefL} {f C : Addr} {F : List U → Sx → R U} {call : List U → Sx → R U} {c : String} (hc : Calls' d F call) (D : DefOk X cl k d f F) (M : Mk X.K C f) (hcl : cl.i c = some C) (hr : Room (k + 1) X.A) (tk : Tk X W) {pins : List (Addr × Obj)} {σ : L2.St} {H1 : Hp} {s1 : Shared} {Q : VK} {us : List Value} {vs : List V}
    {m : List Addr} {S : Sx} {ws : List U} (I1 : Inv X pins σ H1 s1) (r : Vals vs us) (rs : RelS cl m S H1) (rv : RelUs m H1 ws vs)
    (hd : Den cl m H1 ((call (.ref S.length :: ws) (S ++ [.ins c []])).bind fun u S2 => match u with | .non => .ok (.ref S.length) S2 | _ => .stuck) Q fun ch c d H' => W ch c d σ H') :
    wpAny (model X.prog X.w) X.A (PySem.call (.ref C) us) (EP X pins σ Q) X.xe s1 := by
  rw [hc] at hd
  cases e : padded d.u (.ref S.length :: ws) with
  | none => rw [e] at hd; exact hd.elim
  | some xs =>
    rw [e] at hd
    simp only at hd
    obtain ⟨fd, B, hb⟩ := D.ex
    have hp := e
    unfold padded at hp
    split at hp
    · rename_i hl
      cases hp
      simp only [List.length_cons, List.cons_append] at hl hd
      have e1 : d.u.dfl.length = d.dfl.length := by have := (D.dfl.rel (m := m) (H := H1)).length; simpa using this
      obtain ⟨ds, v1, b1⟩ := hb (ws.length + 1 + d.u.dfl.length - d.u.n) (by omega)
      have e2 : ∀ x, (V.ref x :: (vs ++ (d.dfl.map (He.Dv.v X.K)).drop (ws.length + 1 + d.u.dfl.length - d.u.n))).length = d.u.n := fun x => by
        rw [List.length_cons, List.length_append, List.length_drop, List.length_map, ← rv.length, ← e1]; omega
      -- the new instance
      have born : ∀ x dx, H1 x = none → H1 dx = none → dx ≠ x → Ext m H1 (m ++ [x]) (upd (upd H1 dx (.own x)) x (.ins C dx [])) ∧ RelS cl (m ++ [x]) (S ++ [.ins c []]) (upd (upd H1 dx (.own x)) x (.ins C dx [])) := fun x dx hx hdx hne => by
        have hx' : upd H1 dx (.own x) x = none := by rw [upd_ne (Ne.symm hne)]; exact hx
        exact ⟨(Ext.free hdx).trans (Ext.new hx'), (rs.free hdx).new hx' ⟨C, dx, [], hcl, rfl, by rw [upd_ne hne]; exact upd_same, .nil⟩⟩
      have go : ∀ mode, (∀ x dx, H1 x = none → H1 dx = none → dx ≠ x → Den cl (m ++ [x]) (upd (upd H1 dx (.own x)) x (.ins C dx [])) (F (.ref S.length :: (ws ++ d.u.dfl.drop (ws.length + 1 + d.u.dfl.length - d.u.n))) (S ++ [.ins c []])) (fun v H2 => v = .non ∧ Q (.ref x) H2) fun ch c dd H' => (ch = true → mode = true) ∧ W mode c dd σ H') →
          wpAny (model X.prog X.w) X.A (PySem.call (.ref C) us) (EP X pins σ Q) X.xe s1 := fun mode hd' => by
        refine make_at (E := WE (W mode) σ) M (B.ok mode) hr b1 v1 (tk.at mode σ) I1 r fun x dx hx hdx hne => ?_
        obtain ⟨b3, b4⟩ := born x dx hx hdx hne
        refine ⟨e2 x, m ++ [x], _, _, b4, .cons (.ref ?_) ((rv.append (D.dfl.rel.drop _)).ext b3), hd' x dx hx hdx hne⟩
        rw [← rs.len]; simp
      cases e3 : F (.ref S.length :: (ws ++ d.u.dfl.drop (ws.length + 1 + d.u.dfl.length - d.u.n))) (S ++ [.ins c []]) with
      | stuck => rw [e3] at hd; exact hd.elim
      | ok u S' =>
        rw [e3] at hd
        refine go false fun x dx hx hdx hne => ?_
        obtain ⟨b3, b4⟩ := born x dx hx hdx hne
        rw [e3]
        intro m' H' z e4 rs4 ru4
        simp only [R.bind_ok] at hd
        cases ru4 <;> first | exact hd.elim | skip
        refine ⟨rfl, hd m' H' _ (b3.trans e4) rs4 (.ref (e4.at ?_))⟩
        rw [← rs.len]; simp
      | exc x S' =>
        rw [e3] at hd
        simp only [R.bind_exc] at hd
        refine go x.ch fun y dx hy hdx hne => ?_
        obtain ⟨b3, b4⟩ := born y dx hy hdx hne
        rw [e3]
        intro m' H' cc dd e4 rs4 rx4
        exact ⟨fun z => z, hd m' H' cc dd (b3.trans e4) rs4 rx4⟩
    · cases hp
theorem peu_mk {k : Nat} {d : DefL} {f C : Addr} {F : List U → Sx → R U} {x : Str} {p : Pos} {c : String} {e : Expr} {es : List Expr} {g : Sl → Sx → R (List U)} {call : List U → Sx → R U} (hc : Calls' d F call)
    (D : DefOk X cl k d f F) (M : Mk X.K C f) (hcl : cl.i c = some C) (hr : Room (k + 1) X.A) (tk : Tk X W) (hg : Gl X x) (hm : X.mg x = some (.ref C)) (hdb : (x == ("__debug__" : Str)) = false) (hs : (e :: es).all (fun e => !starB e) = true) (h : PAU X cl W (e :: es) g) :
    PEU X cl W (.Call (.Name x p) (e :: es) [] pos) (fun σ S => (g σ S).bind fun us S1 => (call (.ref S1.length :: us) (S1 ++ [.ins c []])).bind fun u S2 => match u with | .non => .ok (.ref S1.length) S2 | _ => .stuck) := by
  obtain ⟨t, ht, ss⟩ := h
  refine ⟨fun σ H Q => t σ H fun vs H1 => ∃ m S ws, RelS cl m S H1 ∧ RelUs m H1 ws vs ∧ Den cl m H1 ((call (.ref S.length :: ws) (S ++ [.ins c []])).bind fun u S2 => match u with | .non => .ok (.ref S.length) S2 | _ => .stuck) Q fun ch c d H' => W ch c d σ H', ⟨fun pins s σ H Q I h => ?_⟩, fun m S H su σ Q rs rl h => ?_⟩
  · refine wpAny_Call_Name_kw (ld_glob I hg hm ?_ hdb)
    simp only [List.all_cons, Bool.and_eq_true] at hs
    exact PySem.W.callWith_K (h₀ := X.base) I.ok.mod.kin M.kp (thn (ht.run pos pins s σ H _ I h) fun us s1 ⟨vs, H1, I1, r, m, S, ws, rs, rv, hd⟩ => ⟨I1.kIn, run_mk hc D M hcl hr tk I1 r rs rv hd⟩) (star_cons (by simpa using hs.1)) (pos_any (by simpa using hs.2))
  · exact ss m S H su σ _ rs rl (Dens.first h fun us S1 m1 H1 y _ e1 rs1 ru1 h1 => ⟨m1, S1, us, rs1, ru1, h1⟩)
theorem peu_mk0 {k : Nat} {d : DefL} {f C : Addr} {F : List U → Sx → R U} {x : Str} {p : Pos} {c : String} {call : List U → Sx → R U} (hc : Calls' d F call)
    (D : DefOk X cl k d f F) (M : Mk X.K C f) (hcl : cl.i c = some C) (hr : Room (k + 1) X.A) (tk : Tk X W) (hg : Gl X x) (hm : X.mg x = some (.ref C)) (hdb : (x == ("__debug__" : Str)) = false) :
    PEU X cl W (.Call (.Name x p) [] [] pos) (fun σ S => (call [.ref S.length] (S ++ [.ins c []])).bind fun u S2 => match u with | .non => .ok (.ref S.length) S2 | _ => .stuck) := by
  refine ⟨fun σ H Q => ∃ m S, RelS cl m S H ∧ Den cl m H ((call [.ref S.length] (S ++ [.ins c []])).bind fun u S2 => match u with | .non => .ok (.ref S.length) S2 | _ => .stuck) Q fun ch c d H' => W ch c d σ H', ⟨fun pins s σ H Q I h => ?_⟩, fun m S H su σ Q rs rl h => ⟨m, S, rs, h⟩⟩
  obtain ⟨m, S, rs, hd⟩ := h
  refine wpAny_Call_Name_kw (ld_glob I hg hm ?_ hdb)
  exact PySem.W.callWith_K0 I.kIn M.kp (run_mk hc D M hcl hr tk I .nil rs .nil hd)
end
end Ev

set_option Elab.async false
set_option linter.all false
set_option autoImplicit false
set_option maxHeartbeats 1000000
/-! Targets, walks, comprehensions. -/
namespace Ev
open PySem PySem.Spec PyProof.Rows L2

/-- the slots but those are as they were -/
structure OffBut (sl : List Nat) (σ σ' : L2.St) : Prop where
  len : σ'.length = σ.length
  at_ : ∀ j, j ∉ sl → σ'[j]? = σ[j]?
theorem OffBut.refl {sl : List Nat} {σ : L2.St} : OffBut sl σ σ := ⟨rfl, fun _ _ => rfl⟩
theorem OffBut.trans {a b : List Nat} {σ σ1 σ2 : L2.St} (x : OffBut a σ σ1) (y : OffBut b σ1 σ2) : OffBut (a ++ b) σ σ2 :=
  ⟨y.len.trans x.len, fun j h => by rw [y.at_ j (fun z => h (List.mem_append_right _ z)), x.at_ j (fun z => h (List.mem_append_left _ z))]⟩
theorem OffBut.mono {a b : List Nat} {σ σ1 : L2.St} (x : OffBut a σ σ1) (h : ∀ j, j ∈ a → j ∈ b) : OffBut b σ σ1 := ⟨x.len, fun j hj => x.at_ j fun z => hj (h j z)⟩
theorem OffBut.set {σ : L2.St} {i : Nat} {o : Option V} : OffBut [i] σ (σ.set i o) := ⟨by simp, fun j h => by rw [List.getElem?_set_ne]; intro e; subst e; exact h (by simp)⟩
theorem wipe_get {σ : L2.St} : ∀ {vs : List Nat} (j : Nat), (L2.wipe σ vs)[j]? = if j ∈ vs then (if j < σ.length then some none else none) else σ[j]?
  | [], j => by simp [L2.wipe]
  | v :: vs, j => by
    unfold L2.wipe
    by_cases e : v = j
    · subst e
      rw [if_pos (by simp)]
      by_cases hl : v < σ.length
      · rw [List.getElem?_set_self (by rw [L2.wipe_length]; exact hl), if_pos hl]
      · rw [if_neg hl, List.getElem?_eq_none]; simp [L2.wipe_length]; omega
    · rw [List.getElem?_set_ne e, wipe_get j]
      simp [Ne.symm e]
theorem OffBut.wiped {a vs : List Nat} {σ σ2 : L2.St} (x : OffBut a (L2.wipe σ vs) σ2) (h : ∀ j, j ∈ a → j ∈ vs) : L2.wipe σ2 vs = L2.wipe σ vs := by
  have hl := x.len
  rw [L2.wipe_length] at hl
  apply List.ext_getElem?
  intro j
  rw [wipe_get, wipe_get, hl]
  by_cases hj : j ∈ vs
  · simp [hj]
  · rw [if_neg hj, if_neg hj, x.at_ j (fun z => hj (h j z)), wipe_get, if_neg hj]

/-- what a target's assignment has to meet -/
def DenT (cl : Lay) (m : List Addr) (H : Hp) (sl : List Nat) (σ : L2.St) (r : RS) (Q : L2.St → Hp → Prop) (W : WS) : Prop := match r with
  | .nx su' S' => ∀ m' H' σ', Ext m H m' H' → RelS cl m' S' H' → RelL cl m' H' su' σ' → OffBut sl σ σ' → Q σ' H'
  | .exc e su' S' => ∀ m' H' c d σ', Ext m H m' H' → RelS cl m' S' H' → RelL cl m' H' su' σ' → RelX cl m' H' e c d → W e.ch c d σ' H'
  | _ => False
abbrev Ft := U → Sl → Sx → RS
def PGU (X : Cx) (cl : Lay) (W : WS) (tg : Expr) (sl : List Nat) (f : Ft) : Prop := ∃ g : TG, PG X tg g ∧ ∀ m S H su σ u v Q, RelS cl m S H → RelL cl m H su σ → RelU m H u v → DenT cl m H sl σ (f u su S) Q W → g v σ H Q
def PGsU (X : Cx) (cl : Lay) (W : WS) (tgs : List Expr) (sl : List Nat) (f : List U → Sl → Sx → RS) : Prop := ∃ g : TGs, PGs X tgs g ∧ ∀ m S H su σ us vs Q, RelS cl m S H → RelL cl m H su σ → RelUs m H us vs → DenT cl m H sl σ (f us su S) Q W → g vs σ H Q
section
variable {X : Cx} {cl : Lay} {W : WS} {pos : Pos}
theorem DenT.ext {m m' : List Addr} {H H' : Hp} {sl sl' : List Nat} {σ σ' : L2.St} {r : RS} {Q : L2.St → Hp → Prop} (h : DenT cl m H sl σ r Q W) (e : Ext m H m' H') (o : OffBut sl' σ σ') {sl2 : List Nat} (hs : ∀ j, j ∈ sl' ++ sl2 → j ∈ sl) : DenT cl m' H' sl2 σ' r Q W := by
  cases r with
  | nx su S => exact fun m2 H2 σ2 e2 rs rl o2 => h m2 H2 σ2 (e.trans e2) rs rl ((o.trans o2).mono hs)
  | exc x su S => exact fun m2 H2 c d σ2 e2 => h m2 H2 c d σ2 (e.trans e2)
  | _ => exact h
theorem pgu_name {i : Nat} {x : Str} (hN : X.N.Nodup) (hi : X.N[i]? = some x) (hx : Loc X.env.scope x) (hf : X.fn x = true ∨ X.env.scope.names.lookup x = some .local) (hk : cl.nk i) : PGU X cl W (.Name x pos) [i] (fun u σ S => .nx (σ.set i (some u)) S) :=
  ⟨_, pg_name hN hi hx hf, fun m S H su σ u v Q rs rl ru h => h m H _ .refl rs (rl.set ru hk) .set⟩
theorem pgsu_nil : PGsU X cl W [] [] (fun us σ S => match us with | [] => .nx σ S | _ => .stuck) := by
  refine ⟨_, pgs_nil, fun m S H su σ us vs Q rs rl ru h => ?_⟩
  cases ru with
  | nil => exact ⟨rfl, h m H _ .refl rs rl .refl⟩
  | cons _ _ => exact h.elim
theorem assign_cons {e : Expr} {es : List Expr} {env : Env} (h : starB e = false) : (assignEach (e :: es) env).map (·.2) = assign e env :: (assignEach es env).map (·.2) := by
  cases e <;> first | rfl | cases h
theorem pgsu_cons {e : Expr} {es : List Expr} {s1 s2 : List Nat} {f : Ft} {g : List U → Sl → Sx → RS} (hs : starB e = false) (h : PGU X cl W e s1 f) (q : PGsU X cl W es s2 g) :
    PGsU X cl W (e :: es) (s1 ++ s2) (fun us σ S => match us with | u :: us => (f u σ S).next fun σ1 S1 => g us σ1 S1 | _ => .stuck) := by
  obtain ⟨t, h, sh⟩ := h
  obtain ⟨ts, hq, sq⟩ := q
  refine ⟨_, pgs_cons h hq (assign_cons hs), fun m S H su σ us vs Q rs rl ru hd => ?_⟩
  cases ru with
  | nil => exact hd.elim
  | cons r t =>
    rename_i u v us vs
    refine ⟨v, vs, rfl, ?_⟩
    refine sh m S H su σ u v _ rs rl r ?_
    simp only at hd
    cases e : f u su S with
    | nx su' S' =>
      rw [e] at hd
      intro m' H' σ' ex rs' rl' o
      exact sq m' S' H' su' σ' us vs Q rs' rl' (t.ext ex) (hd.ext ex o fun j hj => hj)
    | exc x su' S' => rw [e] at hd; exact hd
    | _ => rw [e] at hd; exact hd.elim
theorem assign_len {env : Env} : ∀ {es : List Expr}, es.all (fun e => !starB e) = true → (assignEach es env).length = es.length ∧ (assignEach es env).findIdx? (·.1) = none
  | [], _ => ⟨rfl, rfl⟩
  | e :: es, h => by
    simp only [List.all_cons, Bool.and_eq_true, Bool.not_eq_true'] at h
    obtain ⟨h1, h2⟩ := assign_len (env := env) (es := es) (by simpa using h.2)
    have e1 : assignEach (e :: es) env = (false, assign e env) :: assignEach es env := by
      cases e <;> first | rfl | (exact absurd h.1 (by simp [starB]))
    rw [e1]
    exact ⟨by simp [h1], by simp [List.findIdx?_cons, h2]⟩
theorem RelU.tup_of {m : List Addr} {H : Hp} {us : List U} {v : V} (r : RelU m H (.tup us) v) : ∃ a vs, v = .ref a ∧ H a = some (.tup vs) ∧ RelUs m H us vs := by
  cases r with
  | tup h1 h2 => exact ⟨_, _, rfl, h1, h2⟩
theorem pgu_tup {es : List Expr} {k : Nat} {sl : List Nat} {g : List U → Sl → Sx → RS} (hc : X.calm = true) (hs : es.all (fun e => !starB e) = true) (hg : ∀ us σ S, us.length ≠ es.length → g us σ S = .stuck ∨ ∃ e σ' S', g us σ S = .exc e σ' S') (h : PGsU X cl W es sl g) :
    PGU X cl W (.Tuple es k pos) sl (fun u σ S => match u with | .tup us => if us.length = es.length then g us σ S else .stuck | _ => .stuck) := by
  obtain ⟨ts, hq, sq⟩ := h
  refine ⟨_, pg_tup hc hq (assign_len hs).1 (assign_len hs).2, fun m S H su σ u v Q rs rl ru hd => ?_⟩
  cases u with
  | tup us =>
    obtain ⟨a, vs, rfl, h1, h2⟩ := ru.tup_of
    simp only at hd
    by_cases hl : us.length = es.length
    · rw [if_pos hl] at hd
      exact ⟨a, vs, rfl, .inl (.inl h1), by rw [← h2.length, hl], sq m S H su σ us vs Q rs rl h2 hd⟩
    · rw [if_neg hl] at hd; exact hd.elim
  | _ => exact hd.elim

/-! ### walks -/
/-- the walk J goes through these items -/
structure WalkOk (cl : Lay) (m0 : List Addr) (H0 : Hp) (J : It) (w : Wk) : Prop where
  stop : ∀ m S H, Ext m0 H0 m H → RelS cl m S H → standW w.2 S = true → J.stop w.1.length H
  go : ∀ m S H (i : Nat) (u : U), Ext m0 H0 m H → RelS cl m S H → standW w.2 S = true → w.1[i]? = some u → J.go i H ∧ ∀ x H', J.yld i H x H' → Ext m H m H' ∧ RelS cl m S H' ∧ RelU m H' u x
def DenI (cl : Lay) (m : List Addr) (H : Hp) (r : R Wk) (Q : It → Hp → Prop) (W : WK) : Prop := match r with
  | .ok w S' => ∀ m' H' J, Ext m H m' H' → RelS cl m' S' H' → WalkOk cl m' H' J w → Q J H'
  | .exc e S' => ∀ m' H' c d, Ext m H m' H' → RelS cl m' S' H' → RelX cl m' H' e c d → W e.ch c d H'
  | .stuck => False
def PIU (X : Cx) (cl : Lay) (W : WS) (tg iter : Expr) (f : Sl → Sx → R Wk) : Prop := ∃ wi : TI, PI X tg iter wi ∧ ∀ m S H su σ Q, RelS cl m S H → RelL cl m H su σ → DenI cl m H (f su S) Q (fun ch c d H' => W ch c d σ H') → wi σ H Q
open Classical in
theorem standW_at {c : List (Nat × O)} {S : Sx} (h : standW c S = true) {n : Nat} {o : O} (hm : (n, o) ∈ c) : S[n]? = some o := by
  unfold standW at h
  exact (of_decide_eq_true h : ∀ p ∈ c, S[p.1]? = some p.2) (n, o) hm
theorem DenI.ext {m m' : List Addr} {H H' : Hp} {r : R Wk} {Q : It → Hp → Prop} {W : WK} (h : DenI cl m H r Q W) (e : Ext m H m' H') : DenI cl m' H' r Q W := by
  cases r with
  | ok w S' => exact fun m2 H2 J e2 => h m2 H2 J (e.trans e2)
  | exc x S' => exact fun m2 H2 c d e2 => h m2 H2 c d (e.trans e2)
  | stuck => exact h
theorem Den.firstI {m : List Addr} {H : Hp} {W : WK} {α : R U} {f : U → Sx → R Wk} {QI : It → Hp → Prop} {Q' : VK} (h : DenI cl m H (α.bind f) QI W)
    (k : ∀ u S1 m1 H1 z, α = .ok u S1 → Ext m H m1 H1 → RelS cl m1 S1 H1 → RelU m1 H1 u z → DenI cl m1 H1 (f u S1) QI W → Q' z H1) : Den cl m H α Q' W := by
  cases α with
  | ok u S1 => exact fun m1 H1 z e rs ru => k u S1 m1 H1 z rfl e rs ru (DenI.ext h e)
  | exc x S1 => exact h
  | stuck => exact h
theorem Dens.firstI {m : List Addr} {H : Hp} {W : WK} {α : R (List U)} {f : List U → Sx → R Wk} {QI : It → Hp → Prop} {Q' : List V → Hp → Prop} (h : DenI cl m H (α.bind f) QI W)
    (k : ∀ u S1 m1 H1 z, α = .ok u S1 → Ext m H m1 H1 → RelS cl m1 S1 H1 → RelUs m1 H1 u z → DenI cl m1 H1 (f u S1) QI W → Q' z H1) : Dens cl m H α Q' W := by
  cases α with
  | ok u S1 => exact fun m1 H1 z e rs ru => k u S1 m1 H1 z rfl e rs ru (DenI.ext h e)
  | exc x S1 => exact h
  | stuck => exact h
/-- a list as it stands -/
theorem walk_list {m0 : List Addr} {H0 : Hp} {n : Nat} {a : Addr} {o : O} {us : List U} (K : PySem.W.Frag) (hm : m0[n]? = some a) (ho : lstAt [o] (.ref 0) = some us) : WalkOk cl m0 H0 (Itl K a) (us, [(n, o)]) := by
  have get : ∀ m S H, Ext m0 H0 m H → RelS cl m S H → standW [(n, o)] S = true → ∃ vs, SqL K H a vs ∧ RelUs m H us vs := by
    intro m S H e rs st
    have h1 := standW_at st (n := n) (o := o) (by simp)
    have hl : lstAt S (.ref n) = some us := by
      simp only [lstAt, h1]
      simpa [lstAt] using ho
    obtain ⟨a', vs, e2, hq, re⟩ := rs.lst K hl (.ref (e.at hm))
    cases e2
    exact ⟨vs, hq, re⟩
  refine ⟨fun m S H e rs st => ?_, fun m S H i u e rs st hi => ?_⟩
  · obtain ⟨vs, h1, h2⟩ := get m S H e rs st
    exact ⟨vs, h1, by rw [h2.length]; exact Nat.le_refl _⟩
  · obtain ⟨vs, h1, h2⟩ := get m S H e rs st
    obtain ⟨v, h3, h4⟩ := h2.get hi
    refine ⟨⟨vs, v, h1, h3⟩, fun x H' y => ?_⟩
    obtain ⟨rfl, y⟩ := y
    have := y vs h1
    rw [h3] at this
    cases this
    exact ⟨.refl, rs, h4⟩
theorem walk_tup {m0 : List Addr} {H0 : Hp} {a : Addr} {us : List U} {vs : List V} (K : PySem.W.Frag) (h : H0 a = some (.tup vs)) (r : RelUs m0 H0 us vs) : WalkOk cl m0 H0 (Itt K a) (us, []) := by
  refine ⟨fun m S H e rs st => ⟨vs, .inl (.inl (e.tups _ _ h)), by rw [← r.length]; exact Nat.le_refl _⟩, fun m S H i u e rs st hi => ?_⟩
  obtain ⟨v, h3, h4⟩ := r.get hi
  have hq : SqT K H a vs := .inl (.inl (e.tups _ _ h))
  refine ⟨⟨vs, v, hq, h3⟩, fun x H' y => ?_⟩
  obtain ⟨rfl, y⟩ := y
  have := y vs hq
  rw [h3] at this
  cases this
  exact ⟨.refl, rs, h4.ext e⟩
theorem walk_str {m0 : List Addr} {H0 : Hp} {x : Str} : WalkOk cl m0 H0 (Its x) (signs x, []) := by
  refine ⟨fun m S H e rs st => by show x.cps.size ≤ _; simp [signs], fun m S H i u e rs st hi => ?_⟩
  unfold signs at hi
  rw [List.getElem?_map] at hi
  obtain ⟨c, h1, rfl⟩ := Option.map_eq_some_iff.mp hi
  have h2 : x.cps[i]? = some c := by simpa using h1
  refine ⟨(Array.getElem?_eq_some_iff.mp h2).1, fun v H' y => ?_⟩
  obtain ⟨rfl, c', h3, rfl⟩ := y
  rw [h2] at h3
  cases h3
  exact ⟨.refl, rs, .str _⟩
theorem walk_rng {m0 : List Addr} {H0 : Hp} {lo : Int} {n : Nat} : WalkOk cl m0 H0 (Itr lo n) (rngU lo n 1, []) := by
  have hl : (rngU lo n 1).length = n := by simp [rngU]
  refine ⟨fun m S H e rs st => by show n ≤ _; rw [hl]; exact Nat.le_refl _, fun m S H i u e rs st hi => ?_⟩
  have hn : i < n := by
    have := (List.getElem?_eq_some_iff.mp hi).1
    rw [hl] at this; exact this
  unfold rngU at hi
  rw [List.getElem?_map, List.getElem?_range hn] at hi
  cases hi
  refine ⟨hn, fun v H' y => ?_⟩
  obtain ⟨rfl, rfl⟩ := y
  refine ⟨.refl, rs, ?_⟩
  show RelU m H' (U.int (lo + (i : Int) * 1)) (V.int (lo + i))
  rw [Int.mul_one]
  exact .int _
theorem PI_or {tg e : Expr} {t t' : TI} (h : PI X tg e t) (h' : PI X tg e t') : PI X tg e (fun σ H Q => t σ H Q ∨ t' σ H Q) :=
  ⟨fun pins s σ H Q I q => q.elim (h.run pins s σ H Q I) (h'.run pins s σ H Q I)⟩
theorem lst_of_at {S : Sx} {n : Nat} {us : List U} (h : lstAt S (.ref n) = some us) : ∃ o, S[n]? = some o ∧ lstAt [o] (.ref 0) = some us := by
  simp only [lstAt] at h
  cases e : S[n]? with
  | none => rw [e] at h; cases h
  | some o => exact ⟨o, rfl, by simp only [lstAt, List.getElem?_cons_zero]; rw [e] at h; exact h⟩
theorem piu_seq {tg e : Expr} {f : Fe} (h : PEU X cl W e f) : PIU X cl W tg e (fun σ S => (f σ S).bind fun u S1 => R.opt (seqW S1 u) S1) := by
  obtain ⟨t, h, s⟩ := h
  refine ⟨_, PI_or (pi_list h) (PI_or (pi_tup h) (pi_str h)), fun m S H su σ Q rs rl hd => ?_⟩
  dsimp only at hd
  cases er : f su S with
  | stuck => rw [er] at hd; exact hd.elim
  | exc x S' => rw [er] at hd; exact .inl (s m S H su σ _ rs rl (by rw [er]; exact hd))
  | ok u S1 =>
    rw [er] at hd
    simp only [R.bind_ok] at hd
    cases u with
    | tup us =>
      refine .inr (.inl (s m S H su σ _ rs rl (by
        rw [er]
        intro m1 H1 z e1 rs1 ru1
        obtain ⟨a, vs, rfl, h1, h2⟩ := ru1.tup_of
        exact ⟨a, rfl, ⟨vs, .inl (.inl h1)⟩, hd m1 H1 _ e1 rs1 (walk_tup X.K h1 h2)⟩)))
    | str x =>
      refine .inr (.inr (s m S H su σ _ rs rl (by
        rw [er]
        intro m1 H1 z e1 rs1 ru1
        cases ru1
        exact ⟨x, rfl, hd m1 H1 _ e1 rs1 walk_str⟩)))
    | ref n =>
      have hw : ∀ w, seqW S1 (.ref n) = some w → ∃ o us, S1[n]? = some o ∧ lstAt [o] (.ref 0) = some us ∧ w = (us, [(n, o)]) := by
        intro w hw
        simp only [seqW] at hw
        cases e : S1[n]? with
        | none => rw [e] at hw; cases hw
        | some o => rw [e] at hw; cases o <;> cases hw <;> exact ⟨_, _, rfl, rfl, rfl⟩
      cases ew : seqW S1 (.ref n) with
      | none => rw [ew] at hd; exact hd.elim
      | some w =>
        rw [ew] at hd
        obtain ⟨o, us, ho, hu, rfl⟩ := hw w ew
        refine .inl (s m S H su σ _ rs rl (by
          rw [er]
          intro m1 H1 z e1 rs1 ru1
          obtain ⟨a, w', rfl, hm, hH, hO⟩ := rs1.atR ho ru1
          have hl : lstAt S1 (.ref n) = some us := by simp only [lstAt, ho]; simpa [lstAt] using hu
          obtain ⟨a', vs, e2, hq, re⟩ := rs1.lst X.K hl (.ref hm)
          cases e2
          exact ⟨a, rfl, ⟨vs, hq⟩, hd m1 H1 _ e1 rs1 (walk_list X.K hm hu)⟩))
    | _ => exact hd.elim
theorem rng1_w {u : U} {w : Wk} (h : rngW [u] = some w) : ∃ j : Int, u = .int j ∧ -(2 ^ 62) ≤ j ∧ j < 2 ^ 62 ∧ w = (rngU 0 j.toNat 1, []) := by
  cases u <;> simp only [rngW] at h <;> first | (cases h; done) | skip
  split at h
  · rename_i hh; cases h; exact ⟨_, rfl, hh.1, hh.2, rfl⟩
  · cases h
theorem rng2_w {u v : U} {w : Wk} (h : rngW [u, v] = some w) : ∃ i j : Int, u = .int i ∧ v = .int j ∧ (-(2 ^ 62) ≤ i ∧ i < 2 ^ 62 ∧ -(2 ^ 62) ≤ j ∧ j < 2 ^ 62) ∧ w = (rngU i (j - i).toNat 1, []) := by
  cases u <;> cases v <;> simp only [rngW] at h <;> first | (cases h; done) | skip
  split at h
  · rename_i hh; cases h; exact ⟨_, _, rfl, rfl, hh, rfl⟩
  · cases h
theorem piu_rng1 {tg a : Expr} {p : Pos} {f : Fe} (hg : Gl X "range") (hm : X.mg "range" = none) (hs : starB a = false) (h : PEU X cl W a f) : PIU X cl W tg (.Call (.Name "range" p) [a] [] pos) (fun σ S => (f σ S).bind fun u S1 => R.opt (rngW [u]) S1) := by
  obtain ⟨t, h, s⟩ := h
  refine ⟨_, pi_range1 hg hm (pa_cons h pa_nil (star_cons hs)) (star_cons hs), fun m S H su σ Q rs rl hd => ?_⟩
  refine s m S H su σ _ rs rl (Den.firstI hd fun u S1 m1 H1 y er e1 rs1 ru1 h1 => ?_)
  cases ew : rngW [u] with
  | none => rw [ew] at h1; exact h1.elim
  | some w =>
    rw [ew] at h1
    obtain ⟨j, rfl, b1, b2, rfl⟩ := rng1_w ew
    cases ru1
    exact ⟨j, rfl, b1, b2, h1 m1 H1 _ .refl rs1 walk_rng⟩
theorem piu_rng2 {tg a b : Expr} {p : Pos} {f g : Fe} (hg : Gl X "range") (hm : X.mg "range" = none) (hs : starB a = false) (hs2 : starB b = false) (h : PEU X cl W a f) (q : PEU X cl W b g) :
    PIU X cl W tg (.Call (.Name "range" p) [a, b] [] pos) (fun σ S => (f σ S).bind fun u S1 => (g σ S1).bind fun v S2 => R.opt (rngW [u, v]) S2) := by
  obtain ⟨t, h, s⟩ := h
  obtain ⟨t2, h2, s2⟩ := q
  refine ⟨_, pi_range2 hg hm (pa_cons h (pa_cons h2 pa_nil (star_cons hs2)) (star_cons hs)) ((star_cons hs).trans (by rw [star_cons hs2]; rfl)) (star_cons hs2), fun m S H su σ Q rs rl hd => ?_⟩
  refine s m S H su σ _ rs rl (Den.firstI hd fun u S1 m1 H1 y er e1 rs1 ru1 h1 => ?_)
  refine s2 m1 S1 H1 su σ _ rs1 (rl.ext e1) (Den.firstI h1 fun v S2 m2 H2 z er2 e2 rs2 ru2 h3 => ?_)
  cases ew : rngW [u, v] with
  | none => rw [ew] at h3; exact h3.elim
  | some w =>
    rw [ew] at h3
    obtain ⟨i, j, rfl, rfl, b1, rfl⟩ := rng2_w ew
    cases ru1; cases ru2
    exact ⟨i, j, rfl, b1, h3 m2 H2 _ .refl rs2 walk_rng⟩
end
end Ev

set_option Elab.async false
set_option linter.all false
set_option autoImplicit false
set_option maxHeartbeats 1000000
/-! Comprehensions. -/
namespace Ev
open PySem PySem.Spec PyProof.Rows L2
/-! ### readings that hang on the evaluator alone -/
def tU (cl : Lay) (W : WS) (f : Fe) : TE := fun σ H Q => ∃ m S su, RelS cl m S H ∧ RelL cl m H su σ ∧ Den cl m H (f su S) Q fun ch c d H' => W ch c d σ H'
def tTU (cl : Lay) (W : WS) (f : Sl → Sx → R Bool) : TT := fun σ H Q => ∃ m S su, RelS cl m S H ∧ RelL cl m H su σ ∧ DenB cl m H (f su S) Q fun ch c d H' => W ch c d σ H'
def tGU (cl : Lay) (W : WS) (sl : List Nat) (f : Ft) : TG := fun v σ H Q => ∃ m S su u, RelS cl m S H ∧ RelL cl m H su σ ∧ RelU m H u v ∧ DenT cl m H sl σ (f u su S) Q W
theorem PEU.can {X : Cx} {cl : Lay} {W : WS} {e : Expr} {f : Fe} (h : PEU X cl W e f) : PE X e (tU cl W f) := by
  obtain ⟨t, h, s⟩ := h
  exact PE_imp h fun σ H Q ⟨m, S, su, rs, rl, hd⟩ => s m S H su σ Q rs rl hd
theorem PTU.can {X : Cx} {cl : Lay} {W : WS} {e : Expr} {f : Sl → Sx → R Bool} (h : PTU X cl W e f) : PT X e (tTU cl W f) := by
  obtain ⟨t, h, s⟩ := h
  exact ⟨fun pins st σ H Q I ⟨m, S, su, rs, rl, hd⟩ => h.run pins st σ H Q I (s m S H su σ Q rs rl hd)⟩
theorem PGU.can {X : Cx} {cl : Lay} {W : WS} {e : Expr} {sl : List Nat} {f : Ft} (h : PGU X cl W e sl f) : PG X e (tGU cl W sl f) := by
  obtain ⟨t, h, s⟩ := h
  exact ⟨fun pins st σ H v u Q I r ⟨m, S, su, w, rs, rl, ru, hd⟩ => h.run pins st σ H v u Q I r (s m S H su σ w v Q rs rl ru hd)⟩
/-- a comprehension's tests -/
def PTsU (X : Cx) (cl : Lay) (W : WS) (es : List Expr) (f : Sl → Sx → R Bool) : Prop := PTs X es (tTU cl W f)
theorem ptsu_nil {X : Cx} {cl : Lay} {W : WS} : PTsU X cl W [] (fun _ S => .ok true S) :=
  ⟨fun pins st σ H Q I ⟨m, S, su, rs, rl, hd⟩ => pts_nil.run pins st σ H Q I (hd m H .refl rs)⟩
theorem ptsu_one {X : Cx} {cl : Lay} {W : WS} {e : Expr} {f : Sl → Sx → R Bool} (h : PTU X cl W e f) : PTsU X cl W [e] f := pts_one h.can
/-- nothing is raised within -/
def W0 : WS := fun _ _ _ _ _ => False
theorem tk_blk {X : Cx} {s : Shared} {H : Hp} {scope : Scope} {ce : Env} {fp : List Addr} : Tk (X.blk s H scope ce fp) W0 :=
  ⟨fun u s' ⟨_, _, _, _, _, _, _, _, _, _, _, _, _, _, _, _, w⟩ => w, fun u s' ⟨_, _, _, _, _, _, _, _, _, _, _, _, _, _, _, _, w⟩ => w⟩
section
variable {X : Cx} {cl : Lay} {W : WS} {pos : Pos}
theorem DenI.first {m : List Addr} {H : Hp} {W : WK} {α : R Wk} {f : Wk → Sx → R U} {Q : VK} {Q' : It → Hp → Prop} (h : Den cl m H (α.bind f) Q W)
    (k : ∀ w S1 m1 H1 J, α = .ok w S1 → Ext m H m1 H1 → RelS cl m1 S1 H1 → WalkOk cl m1 H1 J w → Den cl m1 H1 (f w S1) Q W → Q' J H1) : DenI cl m H α Q' W := by
  cases α with
  | ok w S1 => exact fun m1 H1 J e rs wk => k w S1 m1 H1 J rfl e rs wk (Den.ext h e)
  | exc x S1 => exact h
  | stuck => exact h
/-- one turn of a comprehension -/
noncomputable def lcTurn (own : List Nat) (ft : Ft) (fc : Sl → Sx → R Bool) (fe : Fe) (σ : Sl) : U → Sx → R (Option U) := fun u S2 => match ft u (wipe' σ own) S2 with
  | .nx σ2 S3 => (fc σ2 S3).bind fun b S4 => if b = true then (fe σ2 S4).bind fun v S5 => .ok (some v) S5 else .ok none S4
  | _ => .stuck
theorem lc_sim (hk : cl.hs = none) {own sl : List Nat} {fi : Sl → Sx → R Wk} {ft : Ft} {fc : Sl → Sx → R Bool} {fe : Fe} {wi : TI} (hsl : ∀ j, j ∈ sl → j ∈ own)
    (si : ∀ m S H su σ Q, RelS cl m S H → RelL cl m H su σ → DenI cl m H (fi su S) Q (fun ch c d H' => W ch c d σ H') → wi σ H Q) (m : List Addr) (S : Sx) (H : Hp) (su : Sl) (σ : L2.St) (Q : VK) (rs : RelS cl m S H) (rl : RelL cl m H su σ)
    (hd : Den cl m H ((fi su S).bind fun w S1 => lcGo (lcTurn own ft fc fe su) w.2 S1.length w.1 (S1 ++ [.lst []])) Q fun ch c d H' => W ch c d σ H') : tLc wi (tGU cl W0 sl ft) (tTU cl W0 fc) (tU cl W0 fe) own σ H Q := by
  refine si m S H su σ _ rs rl (DenI.first hd fun w S1 m1 H1 J er e1 rs1 wk h1 => fun D hD => ?_)
  have eD : Ext m1 H1 (m1 ++ [D]) (upd H1 D (.lst [])) := Ext.new hD
  have rsD : RelS cl (m1 ++ [D]) (S1 ++ [.lst []]) (upd H1 D (.lst [])) := rs1.new hD ⟨[], rfl, .nil⟩
  have atD : (m1 ++ [D])[S1.length]? = some D := by rw [← rs1.len]; simp
  refine ⟨fun i k H => k = w.1.length - i ∧ i ≤ w.1.length ∧ ∃ m' S', Ext (m1 ++ [D]) (upd H1 D (.lst [])) m' H ∧ RelS cl m' S' H ∧ Den cl m' H (lcGo (lcTurn own ft fc fe su) w.2 S1.length (w.1.drop i) S') Q fun ch c d H' => W ch c d σ H',
    ⟨_, rfl, Nat.zero_le _, _, _, .refl, rsD, by simpa using h1.ext eD⟩, ?_⟩
  rintro i k H ⟨rfl, hi, m2, S2, e2, rs2, h2⟩
  by_cases hlt : i < w.1.length
  · have hu : w.1[i]? = some w.1[i] := List.getElem?_eq_getElem hlt
    rw [List.drop_eq_getElem_cons hlt] at h2
    unfold lcGo at h2
    by_cases st : standW w.2 S2 = true
    · rw [if_pos st] at h2
      obtain ⟨g1, g2⟩ := wk.go m2 S2 H i _ (eD.trans e2) rs2 st hu
      refine .inr ⟨g1, fun H' => ∃ m' S', Ext (m1 ++ [D]) (upd H1 D (.lst [])) m' H' ∧ RelS cl m' S' H' ∧ Den cl m' H' (lcGo (lcTurn own ft fc fe su) w.2 S1.length (w.1.drop (i + 1)) S') Q fun ch c d H' => W ch c d σ H',
        fun H' ⟨m', S', a, b, c⟩ => ⟨_, by omega, rfl, hlt, m', S', a, b, c⟩, fun x H' y => ?_⟩
      obtain ⟨e3, rs3, ru3⟩ := g2 x H' y
      have rl3 : RelL cl m2 H' (wipe' su own) (L2.wipe σ own) := (((((rl.ext e1).ext eD).ext e2).ext e3).wipe hk own)
      refine ⟨m2, S2, wipe' su own, w.1[i], rs3, rl3, ru3, ?_⟩
      simp only [lcTurn] at h2
      cases et : ft w.1[i] (wipe' su own) S2 with
      | nx σ2 S3 =>
        simp only [et] at h2
        intro m4 H4 σ4 e4 rs4 rl4 off
        refine ⟨off.wiped hsl, m4, S3, σ2, rs4, rl4, ?_⟩
        cases ec : fc σ2 S3 with
        | ok b S4 =>
          simp only [ec, R.bind_ok] at h2
          intro m5 H5 e5 rs5
          cases b with
          | true =>
            simp only [if_true] at h2 ⊢
            refine ⟨m5, S4, σ2, rs5, rl4.ext e5, ?_⟩
            cases ee : fe σ2 S4 with
            | ok v S5 =>
              simp only [ee, R.bind_ok] at h2
              intro m6 H6 z e6 rs6 ru6
              cases eo : S5[S1.length]? with
              | none => simp only [eo] at h2; exact h2.elim
              | some ob =>
                cases ob with
                | lst acc =>
                  simp only [eo] at h2
                  by_cases hz : acc.length < sizeLine
                  · rw [if_pos hz] at h2
                    have e26 : Ext m2 H m6 H6 := ((e3.trans e4).trans e5).trans e6
                    have aD : m6[S1.length]? = some D := (e2.trans e26).at atD
                    obtain ⟨w6, q1, accV, rfl, q2⟩ := rs6.obj _ _ _ eo aD
                    have ex : Ext m6 H6 m6 (upd H6 D (.lst (accV ++ [z]))) := rs6.extSet aD q1 eo
                    obtain ⟨rs7, _⟩ := rs6.set (o := .lst (acc ++ [v])) (u := .lst (accV ++ [z])) aD q1 eo ⟨_, rfl, (q2.append (.one ru6)).ext ex⟩
                    refine ⟨accV, q1, by rw [← q2.length]; exact hz, m6, _, (e2.trans e26).trans ex, rs7, h2.ext (e26.trans ex)⟩
                  · rw [if_neg hz] at h2; exact h2.elim
                | _ => simp only [eo] at h2; exact h2.elim
            | exc x S5 => simp only [ee, R.bind_exc] at h2; exact h2.elim
            | stuck => simp only [ee, R.bind_stuck] at h2; exact h2.elim
          | false =>
            simp only [Bool.false_eq_true, if_false] at h2 ⊢
            have e25 : Ext m2 H m5 H5 := (e3.trans e4).trans e5
            exact ⟨m5, S4, e2.trans e25, rs5, h2.ext e25⟩
        | exc x S4 => simp only [ec, R.bind_exc] at h2; exact h2.elim
        | stuck => simp only [ec, R.bind_stuck] at h2; exact h2.elim
      | _ => simp only [et] at h2; exact h2.elim
    · rw [if_neg st] at h2; exact h2.elim
  · have e : i = w.1.length := by omega
    subst e
    rw [List.drop_length] at h2
    unfold lcGo at h2
    by_cases st : standW w.2 S2 = true
    · rw [if_pos st] at h2
      exact .inl ⟨wk.stop m2 S2 H (eD.trans e2) rs2 st, h2 m2 H _ .refl rs2 (.ref (e2.at atD))⟩
    · rw [if_neg st] at h2; exact h2.elim
/-- what is asked of a comprehension's parts, in every block -/
structure LcOk (X : Cx) (cl : Lay) (W : WS) (tg iter : Expr) (ifs : List Expr) (elt : Expr) (scope : Scope) (own : List (Str × Nat)) (sl : List Nat) (fi : Sl → Sx → R Wk) (ft : Ft) (fc : Sl → Sx → R Bool) (fe : Fe) : Prop where
  calm : X.calm = true
  hk : cl.hs = none
  nd : X.N.Nodup
  set : setB iter = false
  i : PIU X cl W tg iter fi
  ok : BlkOk X.N X.env.scope scope own
  hsl : ∀ j, j ∈ sl → j ∈ own.map (·.2)
  g : ∀ (s : Shared) (H : Hp) (C : Addr) (cls : List (Str × Addr)) (fp : List Addr), PGU (X.blk s H scope (compEnvC scope cls C X.env) fp) cl W0 tg sl ft
  t : ∀ (s : Shared) (H : Hp) (C : Addr) (cls : List (Str × Addr)) (fp : List Addr), PTsU (X.blk s H scope (compEnvC scope cls C X.env) fp) cl W0 ifs fc
  e : ∀ (s : Shared) (H : Hp) (C : Addr) (cls : List (Str × Addr)) (fp : List Addr), PEU (X.blk s H scope (compEnvC scope cls C X.env) fp) cl W0 elt fe
variable {tg iter elt : Expr} {ifs : List Expr} {scope : Scope} {own : List (Str × Nat)} {sl : List Nat} {fi : Sl → Sx → R Wk} {ft : Ft} {fc : Sl → Sx → R Bool} {fe : Fe}
noncomputable def lcF (own : List Nat) (fi : Sl → Sx → R Wk) (ft : Ft) (fc : Sl → Sx → R Bool) (fe : Fe) : Fe := fun σ S => (fi σ S).bind fun w S1 => lcGo (lcTurn own ft fc fe σ) w.2 S1.length w.1 (S1 ++ [.lst []])
theorem peu_lc (L : LcOk X cl W tg iter ifs elt scope own sl fi ft fc fe) : PEU X cl W (.ListComp elt [⟨tg, iter, ifs, 0⟩] scope pos) (lcF (own.map (·.2)) fi ft fc fe) := by
  obtain ⟨wi, hi, si⟩ := L.i
  exact ⟨_, pe_lc L.calm L.nd hi L.ok (fun s H C cls fp => (L.g s H C cls fp).can) (fun s H C cls fp => L.t s H C cls fp) (fun s H C cls fp => (L.e s H C cls fp).can) (folded L.set), lc_sim L.hk L.hsl si⟩
end
end Ev

set_option Elab.async false
set_option linter.all false
set_option autoImplicit false
set_option maxHeartbeats 1000000
/-! Statements. -/
namespace Ev
open PySem PySem.Spec PyProof.Rows L2
/-- what a statement's result has to meet -/
def DenS (cl : Lay) (m : List Addr) (H : Hp) (r : RS) (D : Ends) (W : WS) : Prop := match r with
  | .nx su' S' => ∀ m' H' σ', Ext m H m' H' → RelS cl m' S' H' → RelL cl m' H' su' σ' → D.nx σ' H'
  | .rt u S' => ∀ m' H' v, Ext m H m' H' → RelS cl m' S' H' → RelU m' H' u v → D.rt v H'
  | .bk su' S' => ∀ m' H' σ', Ext m H m' H' → RelS cl m' S' H' → RelL cl m' H' su' σ' → D.bk σ' H'
  | .ct su' S' => ∀ m' H' σ', Ext m H m' H' → RelS cl m' S' H' → RelL cl m' H' su' σ' → D.ct σ' H'
  | .exc e su' S' => ∀ m' H' c d σ', Ext m H m' H' → RelS cl m' S' H' → RelL cl m' H' su' σ' → RelX cl m' H' e c d → W e.ch c d σ' H'
  | .stuck => False
abbrev Fs := Sl → Sx → RS
def PSU (X : Cx) (cl : Lay) (W : WS) (st : Stmt) (f : Fs) : Prop := ∃ t : TS, PS X st t ∧ ∀ m S H su σ D, RelS cl m S H → RelL cl m H su σ → DenS cl m H (f su S) D W → t D σ H
def PSsU (X : Cx) (cl : Lay) (W : WS) (st : List Stmt) (f : Fs) : Prop := ∃ t : TS, PSs X st t ∧ ∀ m S H su σ D, RelS cl m S H → RelL cl m H su σ → DenS cl m H (f su S) D W → t D σ H
section
variable {X : Cx} {cl : Lay} {W : WS} {pos : Pos}
theorem DenS.ext {m m' : List Addr} {H H' : Hp} {r : RS} {D : Ends} (h : DenS cl m H r D W) (e : Ext m H m' H') : DenS cl m' H' r D W := by
  cases r with
  | nx su S => exact fun m2 H2 σ2 e2 => h m2 H2 σ2 (e.trans e2)
  | rt u S => exact fun m2 H2 v e2 => h m2 H2 v (e.trans e2)
  | bk su S => exact fun m2 H2 σ2 e2 => h m2 H2 σ2 (e.trans e2)
  | ct su S => exact fun m2 H2 σ2 e2 => h m2 H2 σ2 (e.trans e2)
  | exc x su S => exact fun m2 H2 c d σ2 e2 => h m2 H2 c d σ2 (e.trans e2)
  | stuck => exact h
/-- an expression ahead of the rest -/
theorem Den.firstS {m : List Addr} {H : Hp} {su : Sl} {σ : L2.St} {α : R U} {f : U → Sx → RS} {D : Ends} {Q' : VK} (rl : RelL cl m H su σ) (h : DenS cl m H (α.thenS su f) D W)
    (k : ∀ u S1 m1 H1 z, α = .ok u S1 → Ext m H m1 H1 → RelS cl m1 S1 H1 → RelU m1 H1 u z → DenS cl m1 H1 (f u S1) D W → Q' z H1) : Den cl m H α Q' fun ch c d H' => W ch c d σ H' := by
  cases α with
  | ok u S1 => exact fun m1 H1 z e rs ru => k u S1 m1 H1 z rfl e rs ru (DenS.ext h e)
  | exc x S1 => exact fun m1 H1 c d e rs rx => h m1 H1 c d σ e rs (rl.ext e) rx
  | stuck => exact h
theorem Dens.firstS {m : List Addr} {H : Hp} {su : Sl} {σ : L2.St} {α : R (List U)} {f : List U → Sx → RS} {D : Ends} {Q' : List V → Hp → Prop} (rl : RelL cl m H su σ) (h : DenS cl m H (α.thenS su f) D W)
    (k : ∀ u S1 m1 H1 z, α = .ok u S1 → Ext m H m1 H1 → RelS cl m1 S1 H1 → RelUs m1 H1 u z → DenS cl m1 H1 (f u S1) D W → Q' z H1) : Dens cl m H α Q' fun ch c d H' => W ch c d σ H' := by
  cases α with
  | ok u S1 => exact fun m1 H1 z e rs ru => k u S1 m1 H1 z rfl e rs ru (DenS.ext h e)
  | exc x S1 => exact fun m1 H1 c d e rs rx => h m1 H1 c d σ e rs (rl.ext e) rx
  | stuck => exact h
theorem DenB.firstS {m : List Addr} {H : Hp} {su : Sl} {σ : L2.St} {α : R Bool} {f : Bool → Sx → RS} {D : Ends} {Q' : Bool → Hp → Prop} (rl : RelL cl m H su σ) (h : DenS cl m H (α.thenS su f) D W)
    (k : ∀ b S1 m1 H1, α = .ok b S1 → Ext m H m1 H1 → RelS cl m1 S1 H1 → DenS cl m1 H1 (f b S1) D W → Q' b H1) : DenB cl m H α Q' fun ch c d H' => W ch c d σ H' := by
  cases α with
  | ok u S1 => exact fun m1 H1 e rs => k u S1 m1 H1 rfl e rs (DenS.ext h e)
  | exc x S1 => exact fun m1 H1 c d e rs rx => h m1 H1 c d σ e rs (rl.ext e) rx
  | stuck => exact h
theorem DenI.firstS {m : List Addr} {H : Hp} {su : Sl} {σ : L2.St} {α : R Wk} {f : Wk → Sx → RS} {D : Ends} {Q' : It → Hp → Prop} (rl : RelL cl m H su σ) (h : DenS cl m H (α.thenS su f) D W)
    (k : ∀ w S1 m1 H1 J, α = .ok w S1 → Ext m H m1 H1 → RelS cl m1 S1 H1 → WalkOk cl m1 H1 J w → DenS cl m1 H1 (f w S1) D W → Q' J H1) : DenI cl m H α Q' fun ch c d H' => W ch c d σ H' := by
  cases α with
  | ok u S1 => exact fun m1 H1 J e rs wk => k u S1 m1 H1 J rfl e rs wk (DenS.ext h e)
  | exc x S1 => exact fun m1 H1 c d e rs rx => h m1 H1 c d σ e rs (rl.ext e) rx
  | stuck => exact h
/-- a target's store ahead of the end -/
theorem DenT.ofS {m : List Addr} {H : Hp} {sl : List Nat} {σ : L2.St} {r : RS} {D : Ends} (h : DenS cl m H r D W) (hn : ∀ x, (∃ u S, x = RS.rt u S) ∨ (∃ s S, x = RS.bk s S) ∨ (∃ s S, x = RS.ct s S) → r ≠ x) : DenT cl m H sl σ r D.nx W := by
  cases r with
  | nx su S => exact fun m2 H2 σ2 e2 rs rl _ => h m2 H2 σ2 e2 rs rl
  | exc x su S => exact h
  | rt u S => exact absurd rfl (hn _ (.inl ⟨_, _, rfl⟩))
  | bk u S => exact absurd rfl (hn _ (.inr (.inl ⟨_, _, rfl⟩)))
  | ct u S => exact absurd rfl (hn _ (.inr (.inr ⟨_, _, rfl⟩)))
  | stuck => exact h
/-- a target's store gives next, an exception, or nothing -/
def Plain (r : RS) : Prop := match r with
  | .rt _ _ => False
  | .bk _ _ => False
  | .ct _ _ => False
  | _ => True
theorem Plain.hn {r : RS} (p : Plain r) : ∀ x, (∃ u S, x = RS.rt u S) ∨ (∃ s S, x = RS.bk s S) ∨ (∃ s S, x = RS.ct s S) → r ≠ x := by
  rintro x (⟨u, S, rfl⟩ | ⟨u, S, rfl⟩ | ⟨u, S, rfl⟩) e <;> (subst e; exact p)
theorem psu_pass : PSU X cl W (.Pass pos) (fun σ S => .nx σ S) := ⟨_, ps_pass, fun m S H su σ D rs rl h => h m H σ .refl rs rl⟩
theorem psu_brk : PSU X cl W (.Break pos) (fun σ S => .bk σ S) := ⟨_, ps_break, fun m S H su σ D rs rl h => h m H σ .refl rs rl⟩
theorem psu_cont : PSU X cl W (.Continue pos) (fun σ S => .ct σ S) := ⟨_, ps_continue, fun m S H su σ D rs rl h => h m H σ .refl rs rl⟩
theorem psu_retN : PSU X cl W (.Return none pos) (fun σ S => .rt .non S) := ⟨_, ps_retN, fun m S H su σ D rs rl h => h m H _ .refl rs .non⟩
theorem psu_ret {e : Expr} {f : Fe} (h : PEU X cl W e f) : PSU X cl W (.Return (some e) pos) (fun σ S => (f σ S).thenS σ fun u S1 => .rt u S1) := by
  obtain ⟨t, h, s⟩ := h
  exact ⟨_, ps_ret h, fun m S H su σ D rs rl hd => s m S H su σ _ rs rl (Den.firstS rl hd fun u S1 m1 H1 z _ e1 rs1 ru1 h1 => h1 m1 H1 z .refl rs1 ru1)⟩
theorem psu_expr {e : Expr} {f : Fe} (hs : compB e = false) (h : PEU X cl W e f) : PSU X cl W (.Expr e pos) (fun σ S => (f σ S).thenS σ fun _ S1 => .nx σ S1) := by
  obtain ⟨t, h, s⟩ := h
  exact ⟨_, ps_expr h (swaps_no hs), fun m S H su σ D rs rl hd => s m S H su σ _ rs rl (Den.firstS rl hd fun u S1 m1 H1 z _ e1 rs1 ru1 h1 => h1 m1 H1 σ .refl rs1 (rl.ext e1))⟩
theorem psu_doc {x : Str} {j : Nat} {p : Pos} : PSU X cl W (.Expr (.Constant (.str x) j p) pos) (fun σ S => .nx σ S) := ⟨_, ps_doc, fun m S H su σ D rs rl h => h m H σ .refl rs rl⟩
theorem pssu_nil : PSsU X cl W [] (fun σ S => .nx σ S) := ⟨_, pss_nil, fun m S H su σ D rs rl h => h m H σ .refl rs rl⟩
theorem DenS.next {m : List Addr} {H : Hp} {r : RS} {g : Fs} {D : Ends} {N : L2.St → Hp → Prop} (h : DenS cl m H (r.next g) D W)
    (k : ∀ su' S' m' H' σ', r = .nx su' S' → Ext m H m' H' → RelS cl m' S' H' → RelL cl m' H' su' σ' → DenS cl m' H' (g su' S') D W → N σ' H') : DenS cl m H r { D with nx := N } W := by
  cases r with
  | nx su S => exact fun m1 H1 σ1 e rs rl => k su S m1 H1 σ1 rfl e rs rl (DenS.ext h e)
  | _ => exact h
theorem pssu_cons {st : Stmt} {r : List Stmt} {f g : Fs} (h : PSU X cl W st f) (q : PSsU X cl W r g) : PSsU X cl W (st :: r) (fun σ S => (f σ S).next g) := by
  obtain ⟨t, h, s⟩ := h
  obtain ⟨t2, h2, s2⟩ := q
  exact ⟨_, pss_cons h h2, fun m S H su σ D rs rl hd => s m S H su σ _ rs rl (hd.next fun su' S' m' H' σ' _ e rs' rl' h' => s2 m' S' H' su' σ' D rs' rl' h')⟩
theorem psu_if {c : Expr} {a b : List Stmt} {fc : Sl → Sx → R Bool} {fa fb : Fs} (hc : PTU X cl W c fc) (ha : PSsU X cl W a fa) (hb : PSsU X cl W b fb) :
    PSU X cl W (.If c a b pos) (fun σ S => (fc σ S).thenS σ fun c S1 => if c = true then fa σ S1 else fb σ S1) := by
  obtain ⟨tc, hc, sc⟩ := hc
  obtain ⟨ta, ha, sa⟩ := ha
  obtain ⟨tb, hb, sb⟩ := hb
  refine ⟨_, ps_if hc ha hb, fun m S H su σ D rs rl hd => sc m S H su σ _ rs rl (DenB.firstS rl hd fun b S1 m1 H1 _ e1 rs1 h1 => ?_)⟩
  cases b with
  | true => exact sa m1 S1 H1 su σ D rs1 (rl.ext e1) h1
  | false => exact sb m1 S1 H1 su σ D rs1 (rl.ext e1) h1
/-- x = e -/
theorem psu_set {i : Nat} {x : Str} {e : Expr} {f : Fe} {p : Pos} (hN : X.N.Nodup) (hi : X.N[i]? = some x) (hx : Loc X.env.scope x) (hf : X.fn x = true ∨ X.env.scope.names.lookup x = some .local) (hk : cl.nk i) (hs : compB e = false) (h : PEU X cl W e f) :
    PSU X cl W (.Assign [.Name x p] e pos) (fun σ S => (f σ S).thenS σ fun u S1 => .nx (σ.set i (some u)) S1) := by
  obtain ⟨t, h, s⟩ := h
  exact ⟨_, ps_set hN hi hx h (swaps_no hs) hf, fun m S H su σ D rs rl hd => s m S H su σ _ rs rl (Den.firstS rl hd fun u S1 m1 H1 z _ e1 rs1 ru1 h1 => h1 m1 H1 _ .refl rs1 ((rl.ext e1).set ru1 hk))⟩
theorem psu_setLc {i : Nat} {x : Str} {p lp : Pos} {tg iter elt : Expr} {ifs : List Expr} {scope : Scope} {own : List (Str × Nat)} {sl : List Nat} {fi : Sl → Sx → R Wk} {ft : Ft} {fc : Sl → Sx → R Bool} {fe : Fe}
    (hi : X.N[i]? = some x) (hx : Loc X.env.scope x) (hf : X.fn x = true ∨ X.env.scope.names.lookup x = some .local) (L : LcOk X cl W tg iter ifs elt scope own sl fi ft fc fe) :
    PSU X cl W (.Assign [.Name x p] (.ListComp elt [⟨tg, iter, ifs, 0⟩] scope lp) pos) (fun σ S => (lcF (own.map (·.2)) fi ft fc fe σ S).thenS σ fun u S1 => .nx (σ.set i (some u)) S1) := by
  obtain ⟨wi, hw, si⟩ := L.i
  have sim : ∀ m S H su σ D, RelS cl m S H → RelL cl m H su σ → DenS cl m H ((lcF (own.map (·.2)) fi ft fc fe su S).thenS su fun u S1 => .nx (su.set i (some u)) S1) D W → tAsg (tLc wi (tGU cl W0 sl ft) (tTU cl W0 fc) (tU cl W0 fe) (own.map (·.2))) (gName i) D σ H :=
    fun m S H su σ D rs rl hd => lc_sim L.hk L.hsl si m S H su σ _ rs rl (Den.firstS rl hd fun u S1 m1 H1 z _ e1 rs1 ru1 h1 => h1 m1 H1 _ .refl rs1 ((rl.ext e1).set ru1 (fun a h => by rw [L.hk] at h; cases h)))
  have sw : swapsWith (.ListComp elt [⟨tg, iter, ifs, 0⟩] scope lp) (some (.Name x p)) pos.line X.env = pure (X.env.blockKind == .function && X.env.kindOf x == some .local && p.line == lp.line && !(scope.names.any fun (n, k) => n == x && (k == .local || k == .cell))) := rfl
  cases eb : (X.env.blockKind == .function && X.env.kindOf x == some .local && p.line == lp.line && !(scope.names.any fun (n, k) => n == x && (k == .local || k == .cell))) with
  | true =>
    have hl : X.env.scope.names.lookup x = some .local := by
      simp only [Bool.and_eq_true] at eb
      exact eq_of_beq eb.1.1.2
    exact ⟨_, ps_setLc L.calm L.nd hi hl (by rw [sw, eb]) hw L.ok (fun s H C cls fp => (L.g s H C cls fp).can) (fun s H C cls fp => L.t s H C cls fp) (fun s H C cls fp => (L.e s H C cls fp).can) (folded L.set), sim⟩
  | false =>
    exact ⟨_, ps_set L.nd hi hx (pe_lc L.calm L.nd hw L.ok (fun s H C cls fp => (L.g s H C cls fp).can) (fun s H C cls fp => L.t s H C cls fp) (fun s H C cls fp => (L.e s H C cls fp).can) (folded L.set)) (by rw [sw, eb]) hf, sim⟩
/-- x op= e -/
theorem psu_aug {i : Nat} {x : Str} {e : Expr} {f : Fe} {op : Operator} {p : Pos} (hN : X.N.Nodup) (hi : X.N[i]? = some x) (hx : Loc X.env.scope x) (hf : X.fn x = true ∨ X.env.scope.names.lookup x = some .local) (hk : cl.nk i) (h : PEU X cl W e f) :
    PSU X cl W (.AugAssign (.Name x p) op e pos) (fun σ S => match σ[i]? with
      | some (some u) => (f σ S).thenS σ fun v S1 => match opIn op u v with
        | some w => .nx (σ.set i (some w)) S1
        | none => .stuck
      | _ => .stuck) := by
  obtain ⟨t, h, s⟩ := h
  refine ⟨_, ps_aug hN hi hx h (ip_ok op) hf, fun m S H su σ D rs rl hd => ?_⟩
  dsimp only at hd
  cases e0 : su[i]? with
  | none => simp only [e0] at hd; exact hd.elim
  | some o =>
    cases o with
    | none => simp only [e0] at hd; exact hd.elim
    | some u =>
      simp only [e0] at hd
      obtain ⟨v, h1, h2⟩ := rl.at_ i u e0
      refine ⟨v, h1, s m S H su σ _ rs rl (Den.firstS rl hd fun w S1 m1 H1 z _ e1 rs1 ru1 hh => ?_)⟩
      cases eo : opIn op u w with
      | none => simp only [eo] at hh; exact hh.elim
      | some r =>
        simp only [eo] at hh
        exact ⟨m1, u, w, r, h2.ext e1, ru1, eo, fun z2 rz => hh m1 H1 _ .refl rs1 ((rl.ext e1).set (rz m1 H1) hk)⟩
/-- t = e, any target but a plain name and an attribute -/
theorem psu_asg {tg e : Expr} {sl : List Nat} {f : Fe} {ft : Ft} (hp : ∀ u σ S, Plain (ft u σ S)) (hs : compB e = false) (hst : starB tg = false) (hw : swappedStores [tg] e X.env = pure none) (h : PEU X cl W e f) (g : PGU X cl W tg sl ft) :
    PSU X cl W (.Assign [tg] e pos) (fun σ S => (f σ S).thenS σ fun u S1 => ft u σ S1) := by
  obtain ⟨t, h, s⟩ := h
  obtain ⟨tg', g, sg⟩ := g
  refine ⟨_, ps_asg h g (by show swapsWith e (some tg) pos.line X.env = pure false; exact swaps_no hs) hw (by rw [assign_cons hst]; rfl), fun m S H su σ D rs rl hd => s m S H su σ _ rs rl (Den.firstS rl hd fun u S1 m1 H1 z _ e1 rs1 ru1 h1 => ?_)⟩
  exact sg m1 S1 H1 su σ u z _ rs1 (rl.ext e1) ru1 (DenT.ofS h1 (hp _ _ _).hn)
end
end Ev

set_option Elab.async false
set_option linter.all false
set_option autoImplicit false
set_option maxHeartbeats 1000000
/-! Statements: stores to attributes, pairs, loops. -/
namespace Ev
open PySem PySem.Spec PyProof.Rows L2
section
variable {X : Cx} {cl : Lay} {W : WS} {pos : Pos}
/-- o.f = e -/
theorem psu_fld {o e : Expr} {fo fe : Fe} {f : String} {x : Str} {p : Pos} {fields : List String} (hx : x = Str.ofString f) (hc : ClsOk X.K cl fields) (hf : f ∈ fields) (hs : compB e = false) (ho : PEU X cl W o fo) (he : PEU X cl W e fe) :
    PSU X cl W (.Assign [.Attribute o x p] e pos) (fun σ S => (fe σ S).thenS σ fun u S1 => (fo σ S1).thenS σ fun a S2 => match setAttr S2 a f u with
      | some S3 => .nx σ S3
      | none => .stuck) := by
  subst hx
  obtain ⟨to, ho, so⟩ := ho
  obtain ⟨te, he, se⟩ := he
  refine ⟨_, ps_fld ho he (swaps_no hs), fun m S H su σ D rs rl hd => se m S H su σ _ rs rl (Den.firstS rl hd fun u S1 m1 H1 y _ e1 rs1 ru1 h1 => ?_)⟩
  refine so m1 S1 H1 su σ _ rs1 (rl.ext e1) (Den.firstS (rl.ext e1) h1 fun a S2 m2 H2 z _ e2 rs2 ru2 h2 => ?_)
  cases es : setAttr S2 a f u with
  | none => simp only [es] at h2; exact h2.elim
  | some S3 =>
    simp only [es] at h2
    cases a with
    | ref n =>
      simp only [setAttr] at es
      cases eo : S2[n]? with
      | none => rw [eo] at es; cases es
      | some ob =>
        rw [eo] at es
        cases ob with
        | ins c fs =>
          simp only at es
          split at es
          · rename_i hz
            cases es
            obtain ⟨ad, w', rfl, hm, hH, C, dx, l, hcl, rfl, hd', hr⟩ := rs2.atR eo ru2
            obtain ⟨k1, k2⟩ := hc c C hcl
            have ex : Ext m2 H2 m2 (upd H2 ad (.ins C dx (putF (Str.ofString f) y l))) := rs2.extSet hm hH eo
            have hne : dx ≠ ad := fun z => by subst z; rw [hH] at hd'; cases hd'
            obtain ⟨rs3, _⟩ := rs2.set (o := .ins c (fieldPut f u fs)) (u := .ins C dx (putF (Str.ofString f) y l)) hm hH eo ⟨C, dx, _, hcl, rfl, by rw [upd_ne hne]; exact hd', ((hr.put (ru1.ext e2))).ext ex⟩
            exact ⟨ad, C, dx, l, rfl, hH, k1, k2 f hf, by rw [← hr.length]; exact hz, h2 m2 _ σ ex rs3 (((rl.ext e1).ext e2).ext ex)⟩
          · cases es
        | _ => cases es
    | _ => cases es
/-- a, b = x, y: two plain names -/
theorem psu_par {i j : Nat} {x y : Str} {a b : Expr} {fa fb : Fe} {px py pt pt2 : Pos} {kt k2 : Nat} (hc : X.calm = true) (hki : cl.nk i) (hkj : cl.nk j) (hN : X.N.Nodup) (hi : X.N[i]? = some x) (hj : X.N[j]? = some y) (hij : i ≠ j)
    (hx : X.env.scope.names.lookup x = some .local) (hy : X.env.scope.names.lookup y = some .local) (sa : starB a = false) (sb : starB b = false) (ha : PEU X cl W a fa) (hb : PEU X cl W b fb)
    (hw : swappedStores [.Tuple [.Name x px, .Name y py] kt pt] (.Tuple [a, b] k2 pt2) X.env = pure (some [x, y])) :
    PSU X cl W (.Assign [.Tuple [.Name x px, .Name y py] kt pt] (.Tuple [a, b] k2 pt2) pos) (fun σ S => (fa σ S).thenS σ fun u S1 => (fb σ S1).thenS σ fun v S2 => .nx ((σ.set i (some u)).set j (some v)) S2) := by
  obtain ⟨ta, ha, s1⟩ := ha
  obtain ⟨tb, hb, s2⟩ := hb
  refine ⟨_, ps_par hc hN hi hj hij hx hy (pa_cons ha (pa_cons hb pa_nil (star_cons sb)) (star_cons sa)) hw rfl, fun m S H su σ D rs rl hd => s1 m S H su σ _ rs rl (Den.firstS rl hd fun u S1 m1 H1 v _ e1 rs1 ru1 h1 => ?_)⟩
  refine s2 m1 S1 H1 su σ _ rs1 (rl.ext e1) (Den.firstS (rl.ext e1) h1 fun w S2 m2 H2 z _ e2 rs2 ru2 h2 => ?_)
  exact ⟨v, z, rfl, h2 m2 H2 _ .refl rs2 ((((rl.ext e1).ext e2).set (ru1.ext e2) hki).set ru2 hkj)⟩
/-- for -/
theorem psu_for {tg iter : Expr} {body : List Stmt} {sl : List Nat} {fi : Sl → Sx → R Wk} {ft : Ft} {fb : Fs} (hp : PassesOwn (model X.prog X.w) X.A X.env X.xe) (hc : X.calm = true) (hs : setB iter = false) (hpl : ∀ u σ S, Plain (ft u σ S))
    (hi : PIU X cl W tg iter fi) (hg : PGU X cl W tg sl ft) (hb : PSsU X cl W body fb) :
    PSU X cl W (.For tg iter body [] pos) (fun σ S => (fi σ S).thenS σ fun w S1 => forGo (fun u σ S => (ft u σ S).next fun σ' S' => fb σ' S') w.2 w.1 σ S1) := by
  obtain ⟨wi, hi, si⟩ := hi
  obtain ⟨g, hg, sg⟩ := hg
  obtain ⟨tb, hb, sb⟩ := hb
  refine ⟨_, ps_for hp hc hi hg hb (folded hs), fun m S H su σ D rs rl hd => si m S H su σ _ rs rl (DenI.firstS rl hd fun w S1 m1 H1 J _ e1 rs1 wk h1 => ?_)⟩
  refine ⟨fun i k σ' H => k = w.1.length - i ∧ i ≤ w.1.length ∧ ∃ m' S' su', Ext m1 H1 m' H ∧ RelS cl m' S' H ∧ RelL cl m' H su' σ' ∧ DenS cl m' H (forGo (fun u σ S => (ft u σ S).next fun σ' S' => fb σ' S') w.2 (w.1.drop i) su' S') D W,
    ⟨_, rfl, Nat.zero_le _, m1, S1, su, .refl, rs1, rl.ext e1, by simpa using h1⟩, ?_⟩
  rintro i k σ2 H2 ⟨rfl, hi2, m2, S2, su2, e2, rs2, rl2, h2⟩
  by_cases hlt : i < w.1.length
  · have hu : w.1[i]? = some w.1[i] := List.getElem?_eq_getElem hlt
    rw [List.drop_eq_getElem_cons hlt] at h2
    unfold forGo at h2
    by_cases st : standW w.2 S2 = true
    · rw [if_pos st] at h2
      obtain ⟨g1, g2⟩ := wk.go m2 S2 H2 i _ e2 rs2 st hu
      refine .inr ⟨g1, fun σ' H' => ∃ m' S' su', Ext m1 H1 m' H' ∧ RelS cl m' S' H' ∧ RelL cl m' H' su' σ' ∧ DenS cl m' H' (forGo (fun u σ S => (ft u σ S).next fun σ' S' => fb σ' S') w.2 (w.1.drop (i + 1)) su' S') D W,
        fun σ' H' ⟨m', S', su', a, b, c, d⟩ => ⟨_, by omega, rfl, hlt, m', S', su', a, b, c, d⟩, fun x H' y => ?_⟩
      obtain ⟨e3, rs3, ru3⟩ := g2 x H' y
      refine sg m2 S2 H' su2 σ2 _ x _ rs3 (rl2.ext e3) ru3 ?_
      cases et : ft w.1[i] su2 S2 with
      | nx su3 S3 =>
        simp only [et, RS.next_nx] at h2
        intro m4 H4 σ4 e4 rs4 rl4 _
        refine sb m4 S3 H4 su3 σ4 _ rs4 rl4 ?_
        cases eb : fb su3 S3 with
        | nx su5 S5 => simp only [eb] at h2; exact fun m5 H5 σ5 e5 rs5 rl5 => ⟨m5, S5, su5, ((e2.trans e3).trans e4).trans e5, rs5, rl5, h2.ext ((e3.trans e4).trans e5)⟩
        | ct su5 S5 => simp only [eb] at h2; exact fun m5 H5 σ5 e5 rs5 rl5 => ⟨m5, S5, su5, ((e2.trans e3).trans e4).trans e5, rs5, rl5, h2.ext ((e3.trans e4).trans e5)⟩
        | bk su5 S5 => simp only [eb] at h2; exact h2.ext (e3.trans e4)
        | rt u S5 => simp only [eb] at h2; exact h2.ext (e3.trans e4)
        | exc x su5 S5 => simp only [eb] at h2; exact h2.ext (e3.trans e4)
        | stuck => simp only [eb] at h2; exact h2.elim
      | exc x su3 S3 => simp only [et, RS.next_exc] at h2; exact h2.ext e3
      | stuck => simp only [et, RS.next_stuck] at h2; exact h2.elim
      | rt u S3 => exact absurd (hpl w.1[i] su2 S2) (by rw [et]; exact fun z => z)
      | bk u S3 => exact absurd (hpl w.1[i] su2 S2) (by rw [et]; exact fun z => z)
      | ct u S3 => exact absurd (hpl w.1[i] su2 S2) (by rw [et]; exact fun z => z)
    · rw [if_neg st] at h2; exact h2.elim
  · have e : i = w.1.length := by omega
    subst e
    rw [List.drop_length] at h2
    unfold forGo at h2
    by_cases st : standW w.2 S2 = true
    · rw [if_pos st] at h2
      exact .inl ⟨wk.stop m2 S2 H2 e2 rs2 st, h2 m2 H2 σ2 .refl rs2 rl2⟩
    · rw [if_neg st] at h2; exact h2.elim
/-- while -/
theorem psu_whl {c : Expr} {body : List Stmt} {fc : Sl → Sx → R Bool} {fb : Fs} {n : Nat} (hp : PassesOwn (model X.prog X.w) X.A X.env X.xe) (hc : PTU X cl W c fc) (hb : PSsU X cl W body fb) : PSU X cl W (.While c body [] pos) (whlGo fc fb n) := by
  obtain ⟨tc, hc, sc⟩ := hc
  obtain ⟨tb, hb, sb⟩ := hb
  refine ⟨_, ps_while hp hc hb, fun m S H su σ D rs rl hd => ?_⟩
  refine ⟨fun k σ' H => ∃ m' S' su', RelS cl m' S' H ∧ RelL cl m' H su' σ' ∧ DenS cl m' H (whlGo fc fb k su' S') D W, ⟨n, m, S, su, rs, rl, hd⟩, ?_⟩
  rintro k σ2 H2 ⟨m2, S2, su2, rs2, rl2, h2⟩
  cases k with
  | zero => exact h2.elim
  | succ k =>
    unfold whlGo at h2
    refine sc m2 S2 H2 su2 σ2 _ rs2 rl2 (DenB.firstS rl2 h2 fun b S3 m3 H3 _ e3 rs3 h3 => ?_)
    cases b with
    | true =>
      simp only [if_true] at h3 ⊢
      refine ⟨fun σ' H' => ∃ m' S' su', RelS cl m' S' H' ∧ RelL cl m' H' su' σ' ∧ DenS cl m' H' (whlGo fc fb k su' S') D W, fun σ' H' q => ⟨k, Nat.lt_succ_self _, q⟩, ?_⟩
      refine sb m3 S3 H3 su2 σ2 _ rs3 (rl2.ext e3) ?_
      cases eb : fb su2 S3 with
      | nx su5 S5 => simp only [eb] at h3; exact fun m5 H5 σ5 e5 rs5 rl5 => ⟨m5, S5, su5, rs5, rl5, h3.ext e5⟩
      | ct su5 S5 => simp only [eb] at h3; exact fun m5 H5 σ5 e5 rs5 rl5 => ⟨m5, S5, su5, rs5, rl5, h3.ext e5⟩
      | bk su5 S5 => simp only [eb] at h3; exact h3
      | rt u S5 => simp only [eb] at h3; exact h3
      | exc x su5 S5 => simp only [eb] at h3; exact h3
      | stuck => simp only [eb] at h3; exact h3.elim
    | false =>
      simp only [Bool.false_eq_true, if_false] at h3 ⊢
      exact h3 m3 H3 σ2 .refl rs3 (rl2.ext e3)
end
end Ev

set_option Elab.async false
set_option linter.all false
set_option autoImplicit false
set_option maxHeartbeats 2000000
/-! Exceptions: raised, caught, asked in the suite. -/
namespace Ev
open PySem PySem.Spec PyProof.Rows L2
/-- isinstance asks its instances plainly -/
structure XIs (K : PySem.W.Frag) (C : Addr) : Prop where
  cl : (PySem.W.clsIn K C).isSome = true
  ga : PySem.W.findIn K (.ref C) "__getattribute__" = some (some (.builtin "BaseException.__getattribute__"))
  gt : PySem.W.findIn K (.ref C) "__getattr__" = some none
  sb : PySem.W.subIn K (.ref C) (.type "BaseException") = some true
  ca : PySem.W.findIn K (.ref C) "__class__" = some (some (.builtin "object.__class__"))
  cg : PySem.W.specialIn K (.builtin "object.__class__") "__get__" = some (some (.builtin "getset_descriptor.__get__"))
  ct : PySem.W.takesIn K (.builtin "object.__class__") = some true
  mr : PySem.W.mroIn K C (.type "object") = some true
/-- an exception class of the program's own -/
structure XCls (K : PySem.W.Frag) (C : Addr) : Prop where
  ox : OexC K C
  xf : XfC K C
  xi : XIs K C
/-- without an __init__ of its own -/
theorem made_text {X : Cx} {pins : List (Addr × Obj)} {σ : L2.St} {H1 : Hp} {s1 : Shared} {C : Addr} {Q : XK} {us : List Value} {vs : List V} (hex : PySem.W.excIn X.K C He.veBase "ValueError.__new__" = true) (T : XCls X.K C) (I1 : Inv X pins σ H1 s1) (r : Vals vs us) (hz : vs.length ≤ sizeLine) (q : Q (.ref C) none H1) :
    wpAny (model X.prog X.w) X.A (call (.ref C) us) (L2N.MkP X pins σ Q) X.xe s1 := by
  obtain ⟨bm, N, nm, qn, bs, hdct, sn, sub, ab, col, dd, k0, k1, k2, k3, k5, mN, hC, hN, hni, TT⟩ := exc_obj I1.kIn hex
  refine wpAny_call_exc_subT PySem.F.excBase_ValueError TT hC hN hni (fun h' e hm => ?_) (by rw [← r.length]; exact hz)
  exact L2N.mk_of I1 hm (raises_own T.ox.exC T.ox.tyC) q (I1.hok.gone hm.new)
section
variable {X : Cx} {cl : Lay} {W : WS} {pos : Pos}
/-- raise C(..), C without fields -/
theorem psu_raise_text {C : Addr} {c : String} {x : Str} {p cp : Pos} {e : Expr} {es : List Expr} {g : Sl → Sx → R (List U)} (hc : X.calm = true) (tk : Tk X W) (hex : PySem.W.excIn X.K C He.veBase "ValueError.__new__" = true) (T : XCls X.K C) (hcl : cl.x c = some C) (hg : Gl X x) (hm : X.mg x = some (.ref C)) (hdb : (x == ("__debug__" : Str)) = false)
    (hl : (e :: es).length ≤ sizeLine) (hs : (e :: es).all (fun e => !starB e) = true) (h : PAU X cl W (e :: es) g) (hgl : ∀ σ S us S', g σ S = .ok us S' → us.length = (e :: es).length) :
    PSU X cl W (.Raise (some (.Call (.Name x p) (e :: es) [] cp)) none pos) (fun σ S => (g σ S).thenS σ fun _ S1 => .exc ⟨c, [], false⟩ σ S1) := by
  obtain ⟨t, ht, ss⟩ := h
  have mk : L2N.PMk X (.Call (.Name x p) (e :: es) [] cp) (fun σ H Q => t σ H fun vs H1 => vs.length ≤ sizeLine ∧ Q (.ref C) none H1) := by
    intro pins s σ H Q I h
    refine wpAny_Call_Name_kw (ld_glob I hg hm ?_ hdb)
    simp only [List.all_cons, Bool.and_eq_true] at hs
    exact PySem.W.callWith_K (h₀ := X.base) I.ok.mod.kin T.ox.kC (thn (ht.run cp pins s σ H _ I h) fun us s1 ⟨vs, H1, I1, r, hz, q⟩ => ⟨I1.kIn, made_text hex T I1 r hz q⟩) (star_cons (by simpa using hs.1)) (pos_any (by simpa using hs.2))
  refine ⟨_, L2N.ps_raise hc tk.n mk, fun m S H su σ D rs rl hd => ss m S H su σ _ rs rl (Dens.firstS rl hd fun us S1 m1 H1 vs er e1 rs1 ru1 h1 => ?_)⟩
  exact ⟨by rw [← ru1.length, hgl _ _ _ _ er]; exact hl, h1 m1 H1 _ none σ .refl rs1 (rl.ext e1) ⟨⟨C, hcl, rfl⟩, .inl ⟨rfl, rfl⟩⟩⟩
theorem psu_raise_none {C : Addr} {c : String} {x : Str} {p cp : Pos} (hc : X.calm = true) (tk : Tk X W) (hex : PySem.W.excIn X.K C He.veBase "ValueError.__new__" = true) (T : XCls X.K C) (hcl : cl.x c = some C) (hg : Gl X x) (hm : X.mg x = some (.ref C)) (hdb : (x == ("__debug__" : Str)) = false) :
    PSU X cl W (.Raise (some (.Call (.Name x p) [] [] cp)) none pos) (fun σ S => .exc ⟨c, [], false⟩ σ S) := by
  have mk : L2N.PMk X (.Call (.Name x p) [] [] cp) (fun σ H Q => Q (.ref C) none H) := by
    intro pins s σ H Q I h
    refine wpAny_Call_Name_kw (ld_glob I hg hm ?_ hdb)
    exact PySem.W.callWith_K0 I.kIn T.ox.kC (made_text hex T I .nil (Nat.zero_le _) h)
  exact ⟨_, L2N.ps_raise hc tk.n mk, fun m S H su σ D rs rl hd => hd m H _ none σ .refl rs rl ⟨⟨C, hcl, rfl⟩, .inl ⟨rfl, rfl⟩⟩⟩
/-- what an exception's __init__ does: it stores its arguments under these names -/
def spX (K : PySem.W.Frag) (fs : List Str) : Sp := fun vs H Q _ => vs.length = fs.length + 1 ∧ ∃ (a C : Addr) (ws : List V), vs = .ref a :: ws ∧ H a = some (exo a C none) ∧ OexC K C ∧ (∀ f, f ∈ fs → PySem.W.findIn K (.ref C) f = some none) ∧
  ∀ d H', H d = none → d ≠ a → H' a = some (exo a C (some d)) → H' d = some (exd d (fs.zip ws).reverse) → (∀ b, b ≠ a → b ≠ d → H' b = H b) → Q .non H'
/-- made by its __init__ -/
theorem made_init {pins : List (Addr × Obj)} {σ : L2.St} {H1 : Hp} {s1 : Shared} {C fI : Addr} {k : Nat} {fd : FuncData} {ps fs : List Str} {Q : XK} {us : List Value} {vs : List V} (T : OexC X.K C) (iC : PySem.W.findIn X.K (.ref C) "__init__" = some (some (.ref fI))) (tI : PySem.W.typeIn X.K (.ref fI) = some (.type "function"))
    (F1 : FnOk X.prog X.w X.K X.mg X.base (fun _ _ _ _ _ _ => False) k fI fd ps (spX X.K fs)) (hno : ∀ f, f ∈ fs → PySem.W.findIn X.K (.ref C) f = some none) (hr : Room (k + 1) X.A) (hb : Binds X.K fd ps []) (I1 : Inv X pins σ H1 s1) (r : Vals vs us) (hz : vs.length = fs.length) (hzl : vs.length ≤ 1000)
    (q : ∀ d, H1 d = none → Q (.ref C) (some d) (upd H1 d (.xd (fs.zip vs).reverse))) : wpAny (model X.prog X.w) X.A (call (.ref C) us) (L2N.MkP X pins σ Q) X.xe s1 := by
  obtain ⟨nm, q', N, bs, bm, sn, sub, ab, col, dd, k0, k1, k2, k3, k5, hC, hbm⟩ := T.cls
  obtain ⟨hp, g, dr, tok, os⟩ := s1
  have big : hp.objs.size ≤ hp.objs.size + 1 := Nat.le_succ _
  have nA : H1 (hp.objs.size + 1) = none := I1.hok.fresh big
  have kk : ∀ b o, hp.get? b = some o → ((hp.push (PySem.W.kdv_tup us)).push (PySem.HandSPX.excO C hp.objs.size)).get? b = some o := fun b o e => Heap.get?_push_of_some _ (Heap.get?_push_of_some _ e)
  have at_e : ((hp.push (PySem.W.kdv_tup us)).push (PySem.HandSPX.excO C hp.objs.size)).get? (hp.objs.size + 1) = some (PySem.HandSPX.excO C hp.objs.size) := by heap_get
  have J : Inv X pins σ (upd H1 (hp.objs.size + 1) (exo (hp.objs.size + 1) C none)) ⟨(hp.push (PySem.W.kdv_tup us)).push (PySem.HandSPX.excO C hp.objs.size), g, dr, tok, os⟩ :=
    I1.laid (t' := tok) (a := hp.objs.size + 1) (o := exo (hp.objs.size + 1) C none) kk big (exo_ok at_e)
  have rr : Vals (V.ref (hp.objs.size + 1) :: vs) (Value.ref (hp.objs.size + 1) :: us) := .cons rfl r
  -- what is wanted behind the __init__
  have want : spX X.K fs (V.ref (hp.objs.size + 1) :: vs) (upd H1 (hp.objs.size + 1) (exo (hp.objs.size + 1) C none)) (fun v H2 => v = .non ∧ ∃ d, H2 (hp.objs.size + 1) = some (exo (hp.objs.size + 1) C (some d)) ∧ H2 d = some (exd d (fs.zip vs).reverse) ∧ H1 d = none ∧ Q (.ref C) (some d) (upd (del H2 (hp.objs.size + 1)) d (.xd (fs.zip vs).reverse))) (fun _ _ _ => False) := by
    refine ⟨by simp [hz], hp.objs.size + 1, C, vs, rfl, upd_same, T, hno, fun d H' hd hne h1 h2 h3 => ⟨rfl, d, h1, h2, ?_, ?_⟩⟩
    · rw [upd_ne hne] at hd; exact hd
    · have hd' : H1 d = none := by rw [upd_ne hne] at hd; exact hd
      have e : upd (del H' (hp.objs.size + 1)) d (.xd (fs.zip vs).reverse) = upd H1 d (.xd (fs.zip vs).reverse) := by
        funext b
        by_cases hbd : b = d
        · subst hbd; rw [upd_same, upd_same]
        · rw [upd_ne hbd, upd_ne hbd]
          by_cases hba : b = hp.objs.size + 1
          · subst hba; rw [del_same, nA]
          · rw [del_ne hba, h3 b hba hbd, upd_ne hba]
      rw [e]; exact q d hd'
  have len : (Value.ref (hp.objs.size + 1) :: us).length = ps.length := rr.length.symm.trans (F1.len _ _ _ _ want)
  have hus : us.length ≤ sizeLine := by
    rw [← Paired.length r, sizeLine_eq]
    omega
  have bnd := hb _ (Value.ref (hp.objs.size + 1) :: us) J.kIn (by rw [List.append_nil]; exact len)
  rw [List.append_nil] at bnd
  have body := F1.run (X.A.under (.builtin "type.__call__" ⟨.ref C :: us, []⟩)) X.stack _ _ ⟨Value.ref (hp.objs.size + 1) :: us, []⟩ _ _ _ (fun _ _ _ => False) (hr.make C us []) (J.env0.make C us []) bnd rr want
  refine wpAny_call (PySem.HandSPX.call_own PySem.F.excBase_ValueError (fun Y => PySem.HandSPX.refsVE_contains Y bm hbm) (I1.kIn _ _ hC) (PySem.W.looks_findIn I1.kIn iC) (fun self => PySem.W.bind_fn I1.kIn self tI) hus (codeAny_mono body fun res s' got => ?_))
  match res, got with
  | .error e, got => exact got.elim
  | .ok (.ret u), got =>
    obtain ⟨v, H2, os2, bare2, un2, hok2, rv, ev, d, ea, ed, hd1, q2⟩ := got
    subst ev
    obtain ⟨h2, g2, d2, t2, os'⟩ := s'
    obtain ⟨t0, G, JJ, kG, ge, hoe, na⟩ := mk_end0 (d2 := d2) (t2 := t2) I1 big kk un2 hok2 os2 bare2 ea ed hd1
    exact ⟨rv, ⟨_, _, _, _, _, .ref C, some d, rfl, JJ, kG, ge, hoe, ⟨rfl, rfl, fun vs e => by cases e; rfl⟩, rfl, rfl, na, rfl, bare2, raises_own T.exC T.tyC, q2⟩⟩
end
end Ev

set_option Elab.async false
set_option linter.all false
set_option autoImplicit false
set_option maxHeartbeats 2000000
/-! raise with fields; try; what a suite asks of its exception. -/
namespace Ev
open PySem PySem.Spec PyProof.Rows L2
/-- an exception class with an __init__ that stores its arguments -/
structure XInitP (P : Program) (w : World) (K : PySem.W.Frag) (mg : Str → Option Value) (base : Heap) (k : Nat) (C : Addr) (fs : List Str) : Prop where
  ex : ∃ fI fd ps, PySem.W.findIn K (.ref C) "__init__" = some (some (.ref fI)) ∧ PySem.W.typeIn K (.ref fI) = some (.type "function") ∧
    FnOk P w K mg base (fun _ _ _ _ _ _ => False) k fI fd ps (spX K fs) ∧ Binds K fd ps [] ∧ (∀ f, f ∈ fs → PySem.W.findIn K (.ref C) f = some none)
abbrev XInit (X : Cx) (k : Nat) (C : Addr) (fs : List Str) : Prop := XInitP X.prog X.w X.K X.mg X.base k C fs
theorem zip_lookup {m : List Addr} {H : Hp} : ∀ {fs : List String} {us : List U} {vs : List V} {f : String} {u : U}, fs.Nodup → RelUs m H us vs → fs.length = us.length → (fs.zip us).lookup f = some u → ∃ v, ((fs.map Str.ofString).zip vs).reverse.lookup (Str.ofString f) = some v ∧ RelU m H u v := by
  have key : ∀ {l : List (Str × V)} {f : Str} {v : V}, (l.map (·.1)).Nodup → (f, v) ∈ l → l.lookup f = some v := by
    intro l
    induction l with
    | nil => intro f v _ h; cases h
    | cons p l ih =>
      intro f v nd h
      obtain ⟨g, w⟩ := p
      simp only [List.map_cons, List.nodup_cons] at nd
      rcases List.mem_cons.mp h with h | h
      · cases h; simp [List.lookup]
      · have hne : f ≠ g := fun e => nd.1 (e ▸ (List.mem_map.mpr ⟨(f, v), h, rfl⟩ : f ∈ l.map (·.1)))
        have eb : (f == g) = false := by simp [hne]
        simp only [List.lookup, eb]
        exact ih nd.2 h
  intro fs us vs f u nd r hl h
  have mem : ∃ v, (Str.ofString f, v) ∈ (fs.map Str.ofString).zip vs ∧ RelU m H u v := by
    clear nd
    induction fs generalizing us vs with
    | nil => simp at h
    | cons g fs ih =>
      cases r with
      | nil => simp at hl
      | cons q t =>
        rename_i w z ws zs
        simp only [List.zip_cons_cons, List.lookup, List.map_cons] at h ⊢
        cases e : (f == g) with
        | true =>
          rw [e] at h
          cases h
          have : f = g := eq_of_beq e
          subst this
          exact ⟨z, by simp, q⟩
        | false =>
          rw [e] at h
          obtain ⟨v, h1, h2⟩ := ih t (by simpa using hl) h
          exact ⟨v, by simp [h1], h2⟩
  obtain ⟨v, h1, h2⟩ := mem
  refine ⟨v, key ?_ (by simpa using h1), h2⟩
  rw [List.map_reverse]
  refine ((List.reverse_perm _).nodup_iff).mpr ?_
  have e : ((fs.map Str.ofString).zip vs).map (·.1) = fs.map Str.ofString := by
    apply List.map_fst_zip
    rw [List.length_map, hl, r.length]
    exact Nat.le_refl _
  rw [e]
  exact List.pairwise_map.mpr (List.Pairwise.imp (fun h e => h (ofString_inj e)) nd)
section
variable {X : Cx} {cl : Lay} {W : WS} {pos : Pos}
/-- raise C(..), C with fields -/
theorem psu_raise_init {k : Nat} {C : Addr} {c : String} {fs : List String} {x : Str} {p cp : Pos} {e : Expr} {es : List Expr} {g : Sl → Sx → R (List U)} (hc : X.calm = true) (tk : Tk X W) (T : XCls X.K C) (N : XInit X k C (fs.map Str.ofString)) (nd : fs.Nodup) (hr : Room (k + 1) X.A) (hcl : cl.x c = some C) (hg : Gl X x) (hm : X.mg x = some (.ref C)) (hdb : (x == ("__debug__" : Str)) = false)
    (hl : (e :: es).length = fs.length) (hz : fs.length ≤ 1000) (hs : (e :: es).all (fun e => !starB e) = true) (h : PAU X cl W (e :: es) g) (hgl : ∀ σ S us S', g σ S = .ok us S' → us.length = (e :: es).length) :
    PSU X cl W (.Raise (some (.Call (.Name x p) (e :: es) [] cp)) none pos) (fun σ S => (g σ S).thenS σ fun us S1 => .exc ⟨c, fs.zip us, false⟩ σ S1) := by
  obtain ⟨t, ht, ss⟩ := h
  obtain ⟨fI, fd, ps, iC, tI, F1, hb, hno⟩ := N.ex
  have mk : L2N.PMk X (.Call (.Name x p) (e :: es) [] cp) (fun σ H Q => t σ H fun vs H1 => vs.length = fs.length ∧ ∀ d, H1 d = none → Q (.ref C) (some d) (upd H1 d (.xd ((fs.map Str.ofString).zip vs).reverse))) := by
    intro pins s σ H Q I h
    refine wpAny_Call_Name_kw (ld_glob I hg hm ?_ hdb)
    simp only [List.all_cons, Bool.and_eq_true] at hs
    exact PySem.W.callWith_K (h₀ := X.base) I.ok.mod.kin T.ox.kC (thn (ht.run cp pins s σ H _ I h) fun us s1 ⟨vs, H1, I1, r, hv, q⟩ => ⟨I1.kIn, made_init T.ox iC tI F1 hno hr hb I1 r (by simpa using hv) (by omega) q⟩) (star_cons (by simpa using hs.1)) (pos_any (by simpa using hs.2))
  refine ⟨_, L2N.ps_raise hc tk.n mk, fun m S H su σ D rs rl hd => ss m S H su σ _ rs rl (Dens.firstS rl hd fun us S1 m1 H1 vs er e1 rs1 ru1 h1 => ?_)⟩
  have hul := hgl _ _ _ _ er
  refine ⟨by rw [← ru1.length, hul]; exact hl, fun d hd' => ?_⟩
  refine h1 m1 _ _ (some d) σ (Ext.free hd') (rs1.free hd') ((rl.ext e1).ext (Ext.free hd')) ⟨⟨C, hcl, rfl⟩, .inr ⟨d, _, rfl, upd_same, fun f u hu => ?_⟩⟩
  exact zip_lookup nd (ru1.ext (Ext.free hd')) (by rw [hul, hl]) hu
/-! ### try -/
abbrev TSx := Addr → Value → Option Addr → TS
/-- except clauses: with a name (a slot), or without -/
inductive HdsU (X : Cx) : List ExceptHandler → List (Value × Option Nat × TSx) → Prop
  | nil : HdsU X [] []
  | plain {x : Str} {c : Value} {ts : TSx} {b₀ : Stmt} {suite : List Stmt} {np hp : Pos} {hds : List ExceptHandler} {l : List (Value × Option Nat × TSx)} (hc : Names X x c)
      (hsu : ∀ (a : Addr) (oe : Obj) (cls : Value) (d : Option Addr) (pn : List (Addr × Obj)), Zc cls d oe → (∃ vs, oe.data = .fields vs) → PSs (X.suite a ((a, oe) :: pn)) (b₀ :: suite) (ts a cls d)) (r : HdsU X hds l) :
      HdsU X (.ExceptHandler (some (.Name x np)) none (b₀ :: suite) hp :: hds) ((c, none, ts) :: l)
  | named {x n : Str} {i : Nat} {c : Value} {ts : TSx} {b₀ : Stmt} {suite : List Stmt} {np hp : Pos} {hds : List ExceptHandler} {l : List (Value × Option Nat × TSx)} (hc : Names X x c) (hi : X.N[i]? = some n) (hl : X.env.kindOf n = some .local)
      (hsu : ∀ (a : Addr) (oe : Obj) (cls : Value) (d : Option Addr) (pn : List (Addr × Obj)), Zc cls d oe → (∃ vs, oe.data = .fields vs) → PSs (X.suite a ((a, oe) :: pn)) (b₀ :: suite) (ts a cls d)) (r : HdsU X hds l) :
      HdsU X (.ExceptHandler (some (.Name x np)) (some n) (b₀ :: suite) hp :: hds) ((c, some i, ts) :: l)
/-- the ends of a suite behind which the slot i is empty -/
def unset (i : Nat) (D : Ends) : Ends := { nx := fun σ' H' => D.nx (σ'.set i none) H', rt := D.rt, bk := fun σ' H' => D.bk (σ'.set i none) H', ct := fun σ' H' => D.ct (σ'.set i none) H' }
/-- what the clauses wish of an exception of the body -/
def wMix (K : PySem.W.Frag) (D : Ends) : List (Value × Option Nat × TSx) → WX
  | [] => fun _ _ _ _ => False
  | (c, none, ts) :: r => fun cls d σ H => ∃ b, PySem.W.exmOne K cls c = some b ∧ (b = true → ∀ a, H a = none → ts a cls d D σ H) ∧ (b = false → wMix K D r cls d σ H)
  | (c, some i, ts) :: r => fun cls d σ H => ∃ b, PySem.W.exmOne K cls c = some b ∧ (b = true → ∀ a, H a = none → ts a cls d (unset i D) (σ.set i (some (.ref a))) H) ∧ (b = false → wMix K D r cls d σ H)
theorem ps_try_mix {body : List Stmt} {h₀ : ExceptHandler} {hds : List ExceptHandler} {l : List (Value × Option Nat × TSx)} {tb : WX → TS} (hN : X.N.Nodup) (hs : X.stack = X.env :: X.outer) (hf : X.env.frame = some X.env.locals)
    (hb : ∀ (W : WX) (pn : List (Addr × Obj)) (xe : Value → Shared → Prop), Takes (X.tr pn xe) W → PassesOwn (model X.prog X.w) X.A X.env xe → PSs (X.tr pn xe) body (tb W))
    (hh : HdsU X (h₀ :: hds) l) : PS X (.Try body (h₀ :: hds) [] [] pos) (fun D σ H => tb (wMix X.K D l) D σ H) := by
  refine ⟨fun pins s σ H D I want => ?_⟩
  have ok := I.ok
  have fr : X.A.frames = some (X.env :: X.outer) := by rw [ok.frames, hs]
  refine wpAny_Try_except ?_
  have run := (hb (wMix X.K D l) (X.pn ++ pins) (fun e s₁ => wpAny (model X.prog X.w) X.A (noteFrame e X.env) (fun _ s₂ => wpAny (model X.prog X.w) X.A (setFlight e none) (fun _ s₃ =>
    wpAny (model X.prog X.w) X.A (handleBy e X.env (h₀ :: hds)) (SP X pins D) X.xe s₃) X.xe s₂) X.xe s₁) (fun u s' air => ?_) PassesOwn.looking).run [] s σ H D (I.toTry _) want
  · refine wpAny_mono run (fun fl s1 got => ?_) (fun e s1 he => he)
    match fl, got with
    | .next, ⟨σ', H', J, q⟩ => exact wpAny_execs_nil ⟨σ', H', J.ofTry ok, q⟩
    | .brk, ⟨σ', H', J, q⟩ => exact ⟨σ', H', J.ofTry ok, q⟩
    | .cont, ⟨σ', H', J, q⟩ => exact ⟨σ', H', J.ofTry ok, q⟩
    | .ret u, ⟨v, σ', H', J, r, q⟩ => exact ⟨v, σ', H', J.ofTry ok, r, q⟩
  · -- an exception is met
    obtain ⟨a, B, sI, pins', σ', H', cls, d, rfl, J', nb, up, sky, na, os, ag, w⟩ := air
    have J : Inv X pins σ' H' sI := J'.ofTry ok
    have sky2 : Sky B (X.env :: X.outer) a (Zc cls d) X.env.locals s'.heap := by rw [← hs]; exact sky
    show wpAny (model X.prog X.w) X.A (noteFrame (.ref a) X.env) _ _ _
    refine Sky.land Zc.steady fr hf sky2 fun h3 fl3 up3 => ?_
    have J3 : Inv X pins σ' H' { s' with heap := h3 } := J.landed nb fl3.1 (up.trans up3) os ag
    obtain ⟨oe, vs, he, hz, hd⟩ := fl3.there
    have out : a ∉ frs (X.env :: X.outer) := fun hm => by
      obtain ⟨_, o', e', hnf⟩ := fl3.2.2.1.mem hm
      rw [he] at e'; cases e'
      exact hnf _ hd
    have notL : a ≠ X.env.locals := fun z => out (List.mem_filterMap.mpr ⟨X.env, List.mem_cons_self, by rw [hf, z]⟩)
    have notF : a ∉ X.fs := fun hm => by
      obtain ⟨e, h1, h2⟩ := List.mem_filterMap.mp hm
      exact out (List.mem_filterMap.mpr ⟨e, List.mem_cons_of_mem _ h1, h2⟩)
    have S3 := J3.suite he hd na notL notF
    have ty : PySem.W.Looks (model X.prog X.w) h3 (typeOf (.ref a)) cls := fun A Q E s k q => wpAny_typeOf_ref (k _ _ he) (by rw [hz.1]; exact q)
    have asks : ∀ {x : Str} {np : Pos} {c : Value} {Q : Value → Shared → Prop} {E : Value → Shared → Prop}, Names X x c → Q c { s' with heap := h3 } → wpAny (model X.prog X.w) (X.A.mark (some (.ref a))) (eval (.Name x np) X.env) Q E { s' with heap := h3 } := fun {x np c Q E} nm q => by
      obtain ⟨hg, hdbg, hm | ⟨hm, hv, hnn⟩⟩ := nm
      · exact ld_glob (X := X.suite a ((a, oe) :: (X.pn ++ pins))) S3 hg hm q hdbg
      · exact ld_blt (X := X.suite a ((a, oe) :: (X.pn ++ pins))) S3 hg hm hv q hnn hdbg
    have go : ∀ {hds' : List ExceptHandler} {l' : List (Value × Option Nat × TSx)}, HdsU X hds' l' → wMix X.K D l' cls d σ' H' → wpAny (model X.prog X.w) X.A (handleBy (.ref a) X.env hds') (SP X pins D) X.xe { s' with heap := h3 } := by
      intro hds' l' hk
      induction hk with
      | nil => exact fun w => w.elim
      | @plain x c ts b₀ suite np hp hds2 l2 hc hsu r ih =>
        rintro ⟨b, hb1, hyes, hno⟩
        refine wpAny_handleBy_cons (codeAny_handlers_test ?_) (by intro q; cases q)
        refine asks hc ((PySem.W.exm_one (M := model X.prog X.w) J3.kIn ty hb1).here ?_)
        cases b with
        | false => exact ih (hno rfl)
        | true =>
          refine codeAny_handlers_suite (HandSPX.lands_againZ fl3 fun h4 fl4 up4 => ?_)
          have J4 : Inv X pins σ' H' { s' with heap := h4 } := J.landed nb fl4.1 ((up.trans up3).trans up4) os ag
          obtain ⟨oe4, vs4, he4, hz4, hd4⟩ := fl4.there
          refine wpAny_mono ((hsu a oe4 cls d (X.pn ++ pins) hz4 ⟨_, hd4⟩).run [] _ _ H' _ (J4.suite he4 hd4 na notL notF) (hyes rfl a na)) (fun fl s6 got => ?_) (fun _ _ z => False.elim z)
          match fl, got with
          | .next, ⟨σ6, H6, S6, q6⟩ => exact ⟨_, _, S6.unsuite ok, q6⟩
          | .brk, ⟨σ6, H6, S6, q6⟩ => exact ⟨_, _, S6.unsuite ok, q6⟩
          | .cont, ⟨σ6, H6, S6, q6⟩ => exact ⟨_, _, S6.unsuite ok, q6⟩
          | .ret u, ⟨v6, σ6, H6, S6, r6, q6⟩ => exact ⟨_, _, _, S6.unsuite ok, r6, q6⟩
      | @named x n i c ts b₀ suite np hp hds2 l2 hc hi hl hsu r ih =>
        rintro ⟨b, hb1, hyes, hno⟩
        refine wpAny_handleBy_cons (codeAny_handlers_test ?_) (by intro q; cases q)
        refine asks hc ((PySem.W.exm_one (M := model X.prog X.w) J3.kIn ty hb1).here ?_)
        cases b with
        | false => exact ih (hno rfl)
        | true =>
          refine codeAny_handlers_suite_as (HandSPX.lands_againZ fl3 fun h4 fl4 up4 => ?_)
          have J4 : Inv X pins σ' H' { s' with heap := h4 } := J.landed nb fl4.1 ((up.trans up3).trans up4) os ag
          obtain ⟨oe4, vs4, he4, hz4, hd4⟩ := fl4.there
          refine store_ok (X := X.suite a ((a, oe4) :: (X.pn ++ pins))) (v := .ref a) (J4.suite he4 hd4 na notL notF) hN hi (.inl hl) rfl (fun s5 S5 => ?_) (.inr hl)
          refine wpAny_mono ((hsu a oe4 cls d (X.pn ++ pins) hz4 ⟨_, hd4⟩).run [] s5 _ H' _ S5 (hyes rfl a na)) (fun fl s6 got => ?_) (fun _ _ z => False.elim z)
          match fl, got with
          | .next, ⟨σ6, H6, S6, q6⟩ => exact gone_ok (S6.unsuite ok) hN hi hl fun s7 J7 => ⟨_, _, J7, q6⟩
          | .brk, ⟨σ6, H6, S6, q6⟩ => exact gone_ok (S6.unsuite ok) hN hi hl fun s7 J7 => ⟨_, _, J7, q6⟩
          | .cont, ⟨σ6, H6, S6, q6⟩ => exact gone_ok (S6.unsuite ok) hN hi hl fun s7 J7 => ⟨_, _, J7, q6⟩
          | .ret u, ⟨v6, σ6, H6, S6, r6, q6⟩ => exact gone_ok (S6.unsuite ok) hN hi hl fun s7 J7 => ⟨_, _, _, J7, r6, q6⟩
    exact go hh w
end
end Ev

set_option Elab.async false
set_option linter.all false
set_option autoImplicit false
set_option maxHeartbeats 2000000
/-! try by the evaluator; what a suite asks. -/
namespace Ev
open PySem PySem.Spec PyProof.Rows L2
section
variable {X : Cx} {cl : Lay} {pos : Pos}
theorem L2N_of_L2 {W : WX} (t : L2.Takes X W) : L2N.Takes X W := fun u s' ⟨a, B, sI, pins, σ, H, cls, d, e, I, nb, up, sky, na, os, ag, w⟩ => by
  refine t u s' ⟨a, B, sI, pins, σ, H, cls, d, e, I, nb, up, ?_, na, os, ag, w⟩
  rcases sky with ⟨h1, h2, h3, oe, vs, h4, h5, h6, h7⟩ | fl | hd
  · exact .inl ⟨h1, h2, h3, oe, vs, h4, h5.zc, h6, h7⟩
  · obtain ⟨q1, q2, q3, oe, vs, T, oT, ts, q4, q5, q6⟩ := fl
    exact .inr (.inl ⟨q1, q2, q3, oe, vs, T, oT, ts, q4, q5.zc, q6⟩)
  · obtain ⟨q1, q2, q3, oe, vs, T, oT, ts, q4, q5, q6⟩ := hd
    exact .inr (.inr ⟨q1, q2, q3, oe, vs, T, oT, ts, q4, q5.zc, q6⟩)
/-- the layer in a suite -/
def suiteL (cl : Lay) (e : Exn) (c : Value) (d : Option Addr) (s : Option (Nat × Addr)) : Lay := { cl with hx := some (e, c, d), hs := s }
theorem RelO.lay {cl : Lay} {x : Option (Exn × Value × Option Addr)} {s : Option (Nat × Addr)} {m : List Addr} {H : Hp} {a : Addr} {o : O} {u : HO} : RelO cl m H a o u ↔ RelO { cl with hx := x, hs := s } m H a o u := by cases o <;> exact Iff.rfl
theorem RelX.lay {cl : Lay} {x : Option (Exn × Value × Option Addr)} {s : Option (Nat × Addr)} {m : List Addr} {H : Hp} {e : Exn} {c : Value} {d : Option Addr} : RelX cl m H e c d ↔ RelX { cl with hx := x, hs := s } m H e c d := Iff.rfl
theorem RelS.into {cl : Lay} {m : List Addr} {S : Sx} {H : Hp} {e : Exn} {c : Value} {d : Option Addr} {s : Option (Nat × Addr)} (r : RelS cl m S H) (x : RelX cl m H e c d) : RelS (suiteL cl e c d s) m S H :=
  ⟨r.len, r.nd, fun n o a h1 h2 => let ⟨u, h3, h4⟩ := r.obj n o a h1 h2; ⟨u, h3, RelO.lay.mp h4⟩, fun e' c' d' h => by cases h; exact RelX.lay.mp x⟩
theorem RelS.outof {cl : Lay} {m : List Addr} {S : Sx} {H : Hp} {e : Exn} {c : Value} {d : Option Addr} {s : Option (Nat × Addr)} (h0 : cl.hx = none) (r : RelS (suiteL cl e c d s) m S H) : RelS cl m S H :=
  ⟨r.len, r.nd, fun n o a h1 h2 => let ⟨u, h3, h4⟩ := r.obj n o a h1 h2; ⟨u, h3, RelO.lay.mpr h4⟩, fun e' c' d' h => by rw [h0] at h; cases h⟩
/-- e.f in a suite -/
theorem peh_attr {a : Addr} {oe : Obj} {cls : Value} {d : Option Addr} {pn : List (Addr × Obj)} {i : Nat} {n : Str} {np : Pos} {f : String} {x : Exn} (hX : ∀ c C, cl.x c = some C → XfC X.K C ∧ PySem.W.findIn X.K (.ref C) (Str.ofString f) = some none)
    (hN : X.N[i]? = some n) (hv : Vis X.env.scope n) (hd : (n == ("__debug__" : Str)) = false) (hcd : (n == ("__classdict__" : Str)) = false) (hz : Zc cls d oe) (hf : ∃ vs, oe.data = .fields vs) :
    PEU (X.suite a ((a, oe) :: pn)) (suiteL cl x cls d (some (i, a))) W0 (.Attribute (.Name n np) (Str.ofString f) pos) (fun _ S => R.opt (x.fs.lookup f) S) := by
  have nm : PE (X.suite a ((a, oe) :: pn)) (.Name n np) (tVar i) := pe_var hN hv hd hcd
  refine ⟨fun σ H Q => ∃ C, cl.x x.cls = some C ∧ tXf a cls d C (Str.ofString f) (tVar i) σ H Q, ⟨fun pins s σ H Q I ⟨C, hc, q⟩ => (pe_xf (hX _ C hc).1 (hX _ C hc).2 hz hf nm).run pins s σ H Q I q⟩, fun m S H su σ Q rs rl h => ?_⟩
  obtain ⟨⟨C, h1, h2⟩, h3⟩ := rs.held x cls d rfl
  refine ⟨C, h1, .ref a, rl.held i a rfl, rfl, h2, ?_⟩
  cases e : x.fs.lookup f with
  | none => simp only [e] at h; exact h.elim
  | some u =>
    simp only [e] at h
    rcases h3 with h3 | ⟨dx, l, h4, h5, h6⟩
    · rw [h3.1] at e; cases e
    · obtain ⟨v, k1, k2⟩ := h6 f u e
      exact ⟨dx, l, v, h4, h5, k1, h.val rs k2⟩
/-- isinstance(e, C) in a suite -/
theorem peh_isa {a : Addr} {oe : Obj} {cls : Value} {d : Option Addr} {pn : List (Addr × Obj)} {i : Nat} {n y : Str} {np yp ip : Pos} {x : Exn} {c : Value} {sub : String → Bool} (hX : ∀ c' C, cl.x c' = some C → XIs X.K C ∧ PySem.W.kitOne X.K (.ref C) c = some (sub c'))
    (hN : X.N[i]? = some n) (hv : Vis X.env.scope n) (hd : (n == ("__debug__" : Str)) = false) (hcd : (n == ("__classdict__" : Str)) = false) (hz : Zc cls d oe) (hf : ∃ vs, oe.data = .fields vs)
    (hg : Gl X "isinstance") (hm : X.mg "isinstance" = none) (hy : Names X y c) (rc : ∃ v, RelV v c ∧ ∀ u, RelV v u → u = c) :
    PEU (X.suite a ((a, oe) :: pn)) (suiteL cl x cls d (some (i, a))) W0 (.Call (.Name "isinstance" ip) [.Name n np, .Name y yp] [] pos) (fun _ S => .ok (.bl (sub x.cls)) S) := by
  have nm : PE (X.suite a ((a, oe) :: pn)) (.Name n np) (tVar i) := pe_var hN hv hd hcd
  obtain ⟨vc, rc, hcv⟩ := rc
  have nc : PE (X.suite a ((a, oe) :: pn)) (.Name y yp) (tC vc) := by
    obtain ⟨hg', hdb, hm' | ⟨hm', hb, hnn⟩⟩ := hy
    · exact pe_glob hg' hm' rc hdb
    · exact pe_bltn hg' hm' hb rc hnn hdb
  have call : CallR (X.suite a ((a, oe) :: pn)) (.builtin "isinstance") (fun xs H Q => ∃ C, xs = [.ref a, vc] ∧ cl.x x.cls = some C ∧ cls = .ref C ∧ (d = none ∨ ∃ dx l, d = some dx ∧ H dx = some (.xd l)) ∧ Q (.bl (sub x.cls)) H) := by
    intro pins s σ H xs us Q I r ⟨C, e1, hc, e2, hdx, q⟩
    subst e1
    obtain ⟨u1, u2, rfl, r1, r2⟩ := vals2 r
    obtain rfl : u1 = Value.ref a := r1
    obtain rfl : u2 = c := hcv _ r2
    obtain ⟨hget, _⟩ := I.pin (a, oe) (List.mem_append.mpr (.inl List.mem_cons_self))
    obtain ⟨vs, hvs⟩ := hf
    obtain ⟨z1, z2⟩ := hz
    subst e2
    obtain ⟨T, k⟩ := hX _ C hc
    have fin : ∀ {od : Option Obj}, PySem.W.InstAt s.heap a oe C od → wpAny (model X.prog X.w) (X.suite a ((a, oe) :: pn)).A (PySem.call (.builtin "isinstance") [.ref a, u2]) (EP (X.suite a ((a, oe) :: pn)) pins σ Q) (X.suite a ((a, oe) :: pn)).xe s := fun J =>
      PySem.W.kia_one (PySem.W.kitx_exc T.cl T.ga T.gt T.sb T.ca T.cg T.ct T.mr) I.kIn J k (fun z => nomatch z) fun tk => ⟨.bl (sub x.cls), H, I.kept (t' := tk) fun _ _ z => z, rfl, q⟩
    rcases hdx with hd0 | ⟨dx, l, hd0, hx⟩
    · refine fin (od := none) ⟨hget, z1, by unfold PySem.W.notCls; rw [hvs] <;> rfl, ?_⟩
      rw [z2, hd0]; trivial
    · have hx' : ObjOk X.prog X.w H s.heap dx (.xd l) := I.hok dx _ hx
      obtain ⟨mA, hns, hr⟩ := hx'
      obtain ⟨od, ho, hl⟩ := lookIn_ns hns
      exact fin (od := some od) ⟨hget, z1, by unfold PySem.W.notCls; rw [hvs] <;> rfl, by rw [z2, hd0]; exact ho⟩
  refine ⟨_, pe_callB (X := X.suite a ((a, oe) :: pn)) call hg hm (by decide +kernel) (pa_cons nm (pa_cons nc pa_nil)), fun m S H su σ Q rs rl h => ?_⟩
  obtain ⟨⟨C, h1, h2⟩, h3⟩ := rs.held x cls d rfl
  refine ⟨.ref a, rl.held i a rfl, C, rfl, h1, h2, ?_, h.val rs (.bl _)⟩
  rcases h3 with h3 | ⟨dx, l, h4, h5, h6⟩
  · exact .inl h3.2
  · exact .inr ⟨dx, l, h4, h5⟩
end
end Ev

set_option Elab.async false
set_option linter.all false
set_option autoImplicit false
set_option maxHeartbeats 2000000
/-! try by the evaluator. -/
namespace Ev
open PySem PySem.Spec PyProof.Rows L2
section
variable {X : Cx} {cl : Lay} {W : WS} {pos : Pos}
def tSsU (cl : Lay) (W : WS) (f : Fs) : TS := fun D σ H => ∃ m S su, RelS cl m S H ∧ RelL cl m H su σ ∧ DenS cl m H (f su S) D W
theorem PSsU.can {st : List Stmt} {f : Fs} (h : PSsU X cl W st f) : PSs X st (tSsU cl W f) := by
  obtain ⟨t, h, s⟩ := h
  exact ⟨fun pins st σ H D I ⟨m, S, su, rs, rl, hd⟩ => h.run pins st σ H D I (s m S H su σ D rs rl hd)⟩
abbrev HdL := List (String × Option Nat × (Exn → Fs))
/-- the clauses beside what they do -/
inductive HdsV (X : Cx) (cl : Lay) (sub : String → String → Bool) : List ExceptHandler → List Value → HdL → Prop
  | nil : HdsV X cl sub [] [] []
  | cons {x : Str} {nm : Option Str} {i : Option Nat} {c : Value} {cn : String} {f : Exn → Fs} {b₀ : Stmt} {suite : List Stmt} {np hp : Pos} {hds : List ExceptHandler} {cs : List Value} {l : HdL} (hc : Names X x c)
      (hs : ∀ c' C, cl.x c' = some C → PySem.W.exmOne X.K (.ref C) c = some (sub c' cn))
      (hi : (nm = none ∧ i = none) ∨ ∃ n j, nm = some n ∧ i = some j ∧ X.N[j]? = some n ∧ X.env.kindOf n = some .local)
      (hsu : ∀ (e : Exn) (a : Addr) (oe : Obj) (cls : Value) (d : Option Addr) (pn : List (Addr × Obj)), Zc cls d oe → (∃ vs, oe.data = .fields vs) → PSsU (X.suite a ((a, oe) :: pn)) (suiteL cl e cls d (i.map (·, a))) W0 (b₀ :: suite) (f e)) (r : HdsV X cl sub hds cs l) :
      HdsV X cl sub (.ExceptHandler (some (.Name x np)) nm (b₀ :: suite) hp :: hds) (c :: cs) ((cn, i, f) :: l)
def evHs (sub : String → String → Bool) : HdL → Exn → Fs
  | [], _, _, _ => .stuck
  | (c, i, f) :: l, e, σ, S => if sub e.cls c = true then suiteE i (f e) σ S else evHs sub l e σ S
/-- what a suite asks -/
def tsU (cl : Lay) (i : Option Nat) (f : Exn → Fs) : TSx := fun a cls d D σ H => ∃ e, tSsU (suiteL cl e cls d (i.map (·, a))) W0 (f e) D σ H
def wsU (cl : Lay) : List Value → HdL → List (Value × Option Nat × TSx)
  | c :: cs, (_, i, f) :: l => (c, i, tsU cl i f) :: wsU cl cs l
  | _, _ => []
theorem HdsV.hds {sub : String → String → Bool} {hds : List ExceptHandler} {cs : List Value} {l : HdL} (h : HdsV X cl sub hds cs l) : HdsU X hds (wsU cl cs l) := by
  induction h with
  | nil => exact .nil
  | @cons x nm i c cn f b₀ suite np hp hds cs l hc hs hi hsu r ih =>
    have su : ∀ (a : Addr) (oe : Obj) (cls : Value) (d : Option Addr) (pn : List (Addr × Obj)), Zc cls d oe → (∃ vs, oe.data = .fields vs) → PSs (X.suite a ((a, oe) :: pn)) (b₀ :: suite) (tsU cl i f a cls d) := fun a oe cls d pn hz hf =>
      ⟨fun pins st σ H D I ⟨e, q⟩ => ((hsu e a oe cls d pn hz hf).can).run pins st σ H D I q⟩
    rcases hi with ⟨rfl, rfl⟩ | ⟨n, j, rfl, rfl, h1, h2⟩
    · exact .plain hc su ih
    · exact .named hc h1 h2 su ih
theorem RelL.outof {m : List Addr} {H : Hp} {su : Sl} {σ : L2.St} {e : Exn} {c : Value} {d : Option Addr} {s : Option (Nat × Addr)} (h0 : cl.hs = none) (r : RelL (suiteL cl e c d s) m H su σ) : RelL cl m H su σ :=
  ⟨r.len, r.at_, fun i a h => by rw [h0] at h; cases h⟩
theorem nk_none (h0 : cl.hs = none) {i : Nat} : cl.nk i := fun a h => by rw [h0] at h; cases h
def endsI (i : Option Nat) (D : Ends) : Ends := match i with
  | none => D
  | some j => unset j D
def slotI (i : Option Nat) (a : Addr) (σ : L2.St) : L2.St := match i with
  | none => σ
  | some j => σ.set j (some (.ref a))
/-- a suite's wish -/
theorem suite_sim (hx : cl.hx = none) (hs : cl.hs = none) {e : Exn} {i : Option Nat} {f : Exn → Fs} {m : List Addr} {S : Sx} {H : Hp} {su : Sl} {σ : L2.St} {D : Ends} {cls : Value} {d : Option Addr} (rs : RelS cl m S H) (rl : RelL cl m H su σ) (rx : RelX cl m H e cls d) (hd : DenS cl m H (suiteE i (f e) su S) D W) (a : Addr) :
    tsU cl i f a cls d (endsI i D) (slotI i a σ) H := by
  cases i with
  | none =>
    refine ⟨e, m, S, su, rs.into rx, ⟨rl.len, rl.at_, fun j b h => by cases h⟩, ?_⟩
    simp only [suiteE] at hd
    cases er : f e su S with
    | exc x su' S' => rw [er] at hd; exact hd.elim
    | nx su' S' => rw [er] at hd; exact fun m' H' σ' ex r1 r2 => hd m' H' σ' ex (r1.outof hx) (r2.outof hs)
    | bk su' S' => rw [er] at hd; exact fun m' H' σ' ex r1 r2 => hd m' H' σ' ex (r1.outof hx) (r2.outof hs)
    | ct su' S' => rw [er] at hd; exact fun m' H' σ' ex r1 r2 => hd m' H' σ' ex (r1.outof hx) (r2.outof hs)
    | rt u S' => rw [er] at hd; exact fun m' H' v ex r1 r2 => hd m' H' v ex (r1.outof hx) r2
    | stuck => rw [er] at hd; exact hd.elim
  | some j =>
    by_cases hj : j < su.length
    case neg => simp only [suiteE, if_neg hj] at hd; exact hd.elim
    simp only [suiteE, if_pos hj] at hd
    refine ⟨e, m, S, su.set j none, rs.into rx, ⟨by simp [rl.len, slotI], (rl.unset (o := some (V.ref a)) (nk_none hs)).at_, fun k b h => ?_⟩, ?_⟩
    · cases h
      exact List.getElem?_set_self (by rw [← rl.len]; exact hj)
    · cases er : f e (su.set j none) S with
      | exc x su' S' => simp only [er] at hd; exact hd.elim
      | nx su' S' => simp only [er] at hd; exact fun m' H' σ' ex r1 r2 => hd m' H' _ ex (r1.outof hx) ((r2.outof hs).unset (nk_none hs))
      | bk su' S' => simp only [er] at hd; exact fun m' H' σ' ex r1 r2 => hd m' H' _ ex (r1.outof hx) ((r2.outof hs).unset (nk_none hs))
      | ct su' S' => simp only [er] at hd; exact fun m' H' σ' ex r1 r2 => hd m' H' _ ex (r1.outof hx) ((r2.outof hs).unset (nk_none hs))
      | rt u S' => simp only [er] at hd; exact fun m' H' v ex r1 r2 => hd m' H' v ex (r1.outof hx) r2
      | stuck => simp only [er] at hd; exact hd.elim
/-- the clauses' wish is met -/
theorem hds_sim {sub : String → String → Bool} {hds : List ExceptHandler} {cs : List Value} {l : HdL} (h : HdsV X cl sub hds cs l) (hx : cl.hx = none) (hs : cl.hs = none) {e : Exn} {m : List Addr} {S : Sx} {H : Hp} {su : Sl} {σ : L2.St} {D : Ends} {cls : Value} {d : Option Addr} (rs : RelS cl m S H) (rl : RelL cl m H su σ) (rx : RelX cl m H e cls d) (hd : DenS cl m H (evHs sub l e su S) D W) :
    wMix X.K D (wsU cl cs l) cls d σ H := by
  obtain ⟨C, h1, rfl⟩ := rx.1
  induction h with
  | nil => exact hd.elim
  | @cons x nm i c cn f b₀ suite np hp hds cs l hc hsb hi hsu r ih =>
    have e1 := hsb _ C h1
    unfold evHs at hd
    have yes : sub e.cls cn = true → ∀ a, tsU cl i f a (.ref C) d (endsI i D) (slotI i a σ) H := fun hb a => by
      rw [if_pos hb] at hd
      exact suite_sim hx hs rs rl rx hd a
    have no : sub e.cls cn = false → wMix X.K D (wsU cl cs l) (.ref C) d σ H := fun hb => by
      rw [if_neg (by rw [hb]; exact Bool.false_ne_true)] at hd
      exact ih hd
    cases i with
    | none => exact ⟨_, e1, fun hb a _ => yes hb a, no⟩
    | some j => exact ⟨_, e1, fun hb a _ => yes hb a, no⟩
/-- try .. except .. -/
theorem psu_try {body : List Stmt} {h₀ : ExceptHandler} {hds : List ExceptHandler} {cs : List Value} {l : HdL} {fb : Fs} {sub : String → String → Bool} (hx : cl.hx = none) (hs : cl.hs = none) (hN : X.N.Nodup) (hst : X.stack = X.env :: X.outer) (hf : X.env.frame = some X.env.locals)
    (hb : ∀ (W : WS) (pn : List (Addr × Obj)) (xe : Value → Shared → Prop), Tk (X.tr pn xe) W → PassesOwn (model X.prog X.w) X.A X.env xe → PSsU (X.tr pn xe) cl W body fb)
    (hh : HdsV X cl sub (h₀ :: hds) cs l) :
    PSU X cl W (.Try body (h₀ :: hds) [] [] pos) (fun σ S => match fb σ S with
      | .exc e σ1 S1 => evHs sub l e σ1 S1
      | r => r) := by
  have bb : ∀ (W : WX) (pn : List (Addr × Obj)) (xe : Value → Shared → Prop), Takes (X.tr pn xe) W → PassesOwn (model X.prog X.w) X.A X.env xe → PSs (X.tr pn xe) body (tSsU cl (fun _ => W) fb) := fun W' pn xe tk hp => (hb (fun _ => W') pn xe ⟨L2N_of_L2 tk, tk⟩ hp).can
  refine ⟨_, ps_try_mix hN hst hf bb hh.hds, fun m S H su σ D rs rl hd => ?_⟩
  dsimp only at hd
  refine ⟨m, S, su, rs, rl, ?_⟩
  cases er : fb su S with
  | exc e su' S' =>
    rw [er] at hd
    intro m' H' c d σ' ex rs' rl' rx
    exact hds_sim hh hx hs rs' rl' rx (hd.ext ex)
  | _ => rw [er] at hd; exact hd
end
end Ev

set_option Elab.async false
set_option linter.all false
set_option autoImplicit false
set_option maxHeartbeats 2000000
/-! Built-in functions, isinstance of values, walks of two lists. -/
namespace Ev
open PySem PySem.Spec PyProof.Rows L2
theorem ints1_rel {m : List Addr} {H : Hp} : ∀ {us : List U} {vs : List V} {ns : List Int}, ints1 us = some ns → RelUs m H us vs → vs = ns.map V.int
  | _, _, _, h, .nil => by cases h; rfl
  | u :: us, _, ns, h, .cons r t => by
    cases u <;> first | (cases h; done) | skip
    simp only [ints1] at h
    obtain ⟨ks, h1, rfl⟩ := Option.map_eq_some_iff.mp h
    cases r
    rw [ints1_rel h1 t]; rfl
theorem bools1_rel {m : List Addr} {H : Hp} : ∀ {us : List U} {vs : List V} {ns : List Bool}, bools1 us = some ns → RelUs m H us vs → vs = ns.map V.bl
  | _, _, _, h, .nil => by cases h; rfl
  | u :: us, _, ns, h, .cons r t => by
    cases u <;> first | (cases h; done) | skip
    simp only [bools1] at h
    obtain ⟨ks, h1, rfl⟩ := Option.map_eq_some_iff.mp h
    cases r
    rw [bools1_rel h1 t]; rfl
theorem RelUs.un1 {m : List Addr} {H : Hp} {u : U} {vs : List V} (h : RelUs m H [u] vs) : ∃ v, vs = [v] ∧ RelU m H u v := by
  cases h with
  | cons r t => cases t; exact ⟨_, rfl, r⟩
theorem RelUs.un2 {m : List Addr} {H : Hp} {u u2 : U} {vs : List V} (h : RelUs m H [u, u2] vs) : ∃ v v2, vs = [v, v2] ∧ RelU m H u v ∧ RelU m H u2 v2 := by
  cases h with
  | cons r t => obtain ⟨v2, rfl, r2⟩ := t.un1; exact ⟨_, _, rfl, r, r2⟩
theorem bcall_sure {b : String} {us : List U} {S S' : Sx} {e : Exn} : bcall b us S ≠ .exc e S' := by
  unfold bcall
  split <;> first | exact R.opt_sure | (intro h; cases h; done) | (split <;> first | exact R.opt_sure | (intro h; cases h; done) | (intro h; unfold new at h; cases h))
section
variable {X : Cx} {cl : Lay} {W : WS} {pos : Pos}
/-- what a rule of a built-in asks -/
def RuleOk (cl : Lay) (b : String) (r : List V → Hp → VK → Prop) : Prop := ∀ m S H us vs Q, RelS cl m S H → RelUs m H us vs → DenV cl m H (bcall b us S) Q → r vs H Q
theorem peu_bB {b : String} {x : Str} {id : String} {p : Pos} {e : Expr} {es : List Expr} {g : Sl → Sx → R (List U)} {r : List V → Hp → VK → Prop} (hc : CallR X (.builtin id) r) (ok : RuleOk cl b r) (hg : Gl X x) (hm : X.mg x = none) (hv : bootBuiltins x = some (.builtin id)) (hn : x ≠ "__name__") (hdb : (x == ("__debug__" : Str)) = false)
    (hs : (e :: es).all (fun e => !starB e) = true) (h : PAU X cl W (e :: es) g) : PEU X cl W (.Call (.Name x p) (e :: es) [] pos) (fun σ S => (g σ S).bind fun us S1 => bcall b us S1) := by
  obtain ⟨t, ht, ss⟩ := h
  simp only [List.all_cons, Bool.and_eq_true] at hs
  refine ⟨_, pe_callB hc hg hm hv ht hn hdb (star_cons (by simpa using hs.1)) (pos_any (by simpa using hs.2)), fun m S H su σ Q rs rl h => ?_⟩
  exact ss m S H su σ _ rs rl (Dens.first h fun us S1 m1 H1 y _ e1 rs1 ru1 h1 => ok m1 S1 H1 us y Q rs1 ru1 (h1.sure fun _ _ => bcall_sure))
theorem peu_bT {b : String} {x : Str} {T : String} {p : Pos} {e : Expr} {es : List Expr} {g : Sl → Sx → R (List U)} {r : List V → Hp → VK → Prop} (hc : CallR X (.type T) r) (ok : RuleOk cl b r) (hg : Gl X x) (hm : X.mg x = none) (hv : bootBuiltins x = some (.type T)) (hn : x ≠ "__name__") (hdb : (x == ("__debug__" : Str)) = false)
    (hs : (e :: es).all (fun e => !starB e) = true) (h : PAU X cl W (e :: es) g) : PEU X cl W (.Call (.Name x p) (e :: es) [] pos) (fun σ S => (g σ S).bind fun us S1 => bcall b us S1) := by
  obtain ⟨t, ht, ss⟩ := h
  simp only [List.all_cons, Bool.and_eq_true] at hs
  refine ⟨_, pe_callTy hc hg hm hv ht hn hdb (star_cons (by simpa using hs.1)) (pos_any (by simpa using hs.2)), fun m S H su σ Q rs rl h => ?_⟩
  exact ss m S H su σ _ rs rl (Dens.first h fun us S1 m1 H1 y _ e1 rs1 ru1 h1 => ok m1 S1 H1 us y Q rs1 ru1 (h1.sure fun _ _ => bcall_sure))
theorem DenV.opt {m : List Addr} {H : Hp} {S : Sx} {o : Option U} {Q : VK} (h : DenV cl m H (R.opt o S) Q) : ∃ u, o = some u ∧ DenV cl m H (.ok u S) Q := by
  cases o with
  | none => exact h.stuck
  | some u => exact ⟨u, rfl, h⟩
theorem rule_len : ∃ r, CallR X (.builtin "len") r ∧ RuleOk cl "len" r := by
  refine ⟨_, CallR.or call_len_seq (CallR.or call_len_str (CallR.or call_lenD call_len_dT)), fun m S H us vs Q rs ru h => ?_⟩
  match us, ru, h with
  | [], ru, h => exact h.stuck
  | _ :: _ :: _, ru, h => exact h.stuck
  | [u], ru, h =>
    obtain ⟨v, rfl, r⟩ := ru.un1
    simp only [bcall] at h
    obtain ⟨w, e, h⟩ := h.opt
    obtain ⟨n, e', rfl⟩ := Option.map_eq_some_iff.mp e
    have q : Q (.int (n : Nat)) H := h.val rs (.int _)
    cases hu : seqAt S u with
    | some ws =>
      have en : n = ws.length := by
        cases u <;> simp only [lenOf, hu] at e' <;> first | (cases e'; rfl) | (cases hu)
      subst en
      obtain ⟨a, zs, rfl, hq, re⟩ := rs.seq X.K hu r
      exact .inl ⟨a, zs, rfl, hq, by rw [← re.length]; exact q⟩
    | none =>
      cases r with
      | str x =>
        simp only [lenOf] at e'
        split at e'
        · cases e'; exact .inr (.inl ⟨x, rfl, by assumption, q⟩)
        · cases e'
      | tup _ _ => cases hu
      | @ref nn ad ha =>
        simp only [lenOf, hu] at e'
        cases eo : S[nn]? with
        | none => rw [eo] at e'; cases e'
        | some o =>
          rw [eo] at e'
          cases o <;> first | (cases e'; done) | skip
          cases e'
          obtain ⟨w, h1, h2⟩ := rs.obj _ _ _ eo ha
          rcases h2 with ⟨l, rfl, re⟩ | ⟨l, rfl, re⟩
          · exact .inr (.inr (.inl ⟨_, l, rfl, h1, by rw [← re.length]; exact q⟩))
          · exact .inr (.inr (.inr ⟨_, l, rfl, h1, by rw [← re.length]; exact q⟩))
      | _ => simp only [lenOf, hu] at e'; cases e'
theorem rule_abs : ∃ r, CallR X (.builtin "abs") r ∧ RuleOk cl "abs" r := by
  refine ⟨_, call_abs, fun m S H us vs Q rs ru h => ?_⟩
  match us, ru, h with
  | [], ru, h => exact h.stuck
  | u1 :: u2 :: l, ru, h => cases u1 <;> exact h.stuck
  | [u], ru, h =>
    obtain ⟨v, rfl, r⟩ := ru.un1
    cases r <;> first | exact h.stuck | skip
    exact ⟨_, rfl, h.val rs (.int _)⟩
theorem rule_int : ∃ r, CallR X (.type "int") r ∧ RuleOk cl "int" r := by
  refine ⟨_, call_int1, fun m S H us vs Q rs ru h => ?_⟩
  match us, ru, h with
  | [], ru, h => exact h.stuck
  | u1 :: u2 :: l, ru, h => cases u1 <;> exact h.stuck
  | [u], ru, h =>
    obtain ⟨v, rfl, r⟩ := ru.un1
    cases r <;> first | exact h.stuck | skip
    · exact .inr ⟨_, rfl, h.val rs (.int _)⟩
    · exact .inl ⟨_, rfl, h.val rs (.int _)⟩
theorem rule_list : ∃ r, CallR X (.type "list") r ∧ RuleOk cl "list" r := by
  refine ⟨_, call_list_of, fun m S H us vs Q rs ru h => ?_⟩
  match us, ru, h with
  | [], ru, h => exact h.stuck
  | _ :: _ :: _, ru, h => exact h.stuck
  | [u], ru, h =>
    obtain ⟨v, rfl, r⟩ := ru.un1
    simp only [bcall] at h
    cases hu : seqAt S u with
    | none => rw [hu] at h; exact h.stuck
    | some ws =>
      rw [hu] at h
      obtain ⟨a, zs, rfl, hq, re⟩ := rs.seq X.K hu r
      exact ⟨a, zs, rfl, hq, fun l hl => h.lst rs re hl⟩
theorem rule_sum (hc : X.calm = true) : ∃ r, CallR X (.builtin "sum") r ∧ RuleOk cl "sum" r := by
  refine ⟨_, cr_sum hc, fun m S H us vs Q rs ru h => ?_⟩
  match us, ru, h with
  | [], ru, h => exact h.stuck
  | _ :: _ :: _, ru, h => exact h.stuck
  | [u], ru, h =>
    obtain ⟨v, rfl, r⟩ := ru.un1
    simp only [bcall] at h
    cases hu : lstAt S u with
    | none => rw [hu] at h; exact h.stuck
    | some ws =>
      rw [hu] at h
      obtain ⟨w, e, h⟩ := DenV.opt h
      obtain ⟨ns, e', rfl⟩ := Option.map_eq_some_iff.mp e
      obtain ⟨a, zs, rfl, hq, re⟩ := rs.lst X.K hu r
      rw [ints1_rel e' re] at hq
      exact ⟨a, ns, rfl, hq, h.val rs (.int _)⟩
theorem rule_all (hc : X.calm = true) : ∃ r, CallR X (.builtin "all") r ∧ RuleOk cl "all" r := by
  refine ⟨_, cr_all hc, fun m S H us vs Q rs ru h => ?_⟩
  match us, ru, h with
  | [], ru, h => exact h.stuck
  | _ :: _ :: _, ru, h => exact h.stuck
  | [u], ru, h =>
    obtain ⟨v, rfl, r⟩ := ru.un1
    simp only [bcall] at h
    cases hu : lstAt S u with
    | none => rw [hu] at h; exact h.stuck
    | some ws =>
      rw [hu] at h
      obtain ⟨w, e, h⟩ := DenV.opt h
      obtain ⟨ns, e', rfl⟩ := Option.map_eq_some_iff.mp e
      obtain ⟨a, zs, rfl, hq, re⟩ := rs.lst X.K hu r
      rw [bools1_rel e' re] at hq
      exact ⟨a, ns, rfl, hq, h.val rs (.bl _)⟩
theorem rule_any (hc : X.calm = true) : ∃ r, CallR X (.builtin "any") r ∧ RuleOk cl "any" r := by
  refine ⟨_, cr_any hc, fun m S H us vs Q rs ru h => ?_⟩
  match us, ru, h with
  | [], ru, h => exact h.stuck
  | _ :: _ :: _, ru, h => exact h.stuck
  | [u], ru, h =>
    obtain ⟨v, rfl, r⟩ := ru.un1
    simp only [bcall] at h
    cases hu : lstAt S u with
    | none => rw [hu] at h; exact h.stuck
    | some ws =>
      rw [hu] at h
      obtain ⟨w, e, h⟩ := DenV.opt h
      obtain ⟨ns, e', rfl⟩ := Option.map_eq_some_iff.mp e
      obtain ⟨a, zs, rfl, hq, re⟩ := rs.lst X.K hu r
      rw [bools1_rel e' re] at hq
      exact ⟨a, ns, rfl, hq, h.val rs (.bl _)⟩
/-! ### isinstance of a value -/
theorem tyIs_ty {m : List Addr} {S : Sx} {H : Hp} {K : PySem.W.Frag} {u : U} {v : V} {t : String} {b : Bool} (ht : t = "bool" ∨ t = "int" ∨ t = "str" ∨ t = "tuple" ∨ t = "list" ∨ t = "dict") (rs : RelS cl m S H) (r : RelU m H u v) (h : tyIs S u t = some b) :
    ∃ w, TyX K H v w ∧ PySem.W.kitOne K w (.type t) = some b := by
  have k : ∀ (a : String), a ∈ ["NoneType", "bool", "int", "str", "tuple", "list", "dict"] → kitB a t = some (a == t || (a == "bool" && t == "int")) := by
    rcases ht with rfl | rfl | rfl | rfl | rfl | rfl <;> intro a ha <;> simp only [List.mem_cons, List.not_mem_nil, or_false] at ha <;> rcases ha with rfl | rfl | rfl | rfl | rfl | rfl | rfl <;> decide +kernel
  have nt : ("NoneType" == t) = false := by rcases ht with rfl | rfl | rfl | rfl | rfl | rfl <;> decide
  cases r with
  | non => cases h; exact ⟨_, .base .non, kit_ty ((k "NoneType" (by simp)).trans (by rw [nt]; rfl))⟩
  | bl c => cases h; exact ⟨_, .base (.bl c), kit_ty ((k "bool" (by simp)).trans (by rcases ht with rfl | rfl | rfl | rfl | rfl | rfl <;> decide))⟩
  | int i => cases h; exact ⟨_, .base (.int i), kit_ty ((k "int" (by simp)).trans (by rcases ht with rfl | rfl | rfl | rfl | rfl | rfl <;> decide))⟩
  | str x => cases h; exact ⟨_, .base (.str x), kit_ty ((k "str" (by simp)).trans (by rcases ht with rfl | rfl | rfl | rfl | rfl | rfl <;> decide))⟩
  | tup ha hr => cases h; exact ⟨_, .base (.tup ha), kit_ty ((k "tuple" (by simp)).trans (by rcases ht with rfl | rfl | rfl | rfl | rfl | rfl <;> decide))⟩
  | ref ha =>
    rename_i n a
    simp only [tyIs] at h
    cases eo : S[n]? with
    | none => rw [eo] at h; cases h
    | some o =>
      rw [eo] at h
      obtain ⟨w, h1, h2⟩ := rs.obj _ _ _ eo ha
      cases o <;> first | (cases h; done) | skip
      · cases h
        obtain ⟨vs, rfl, _⟩ := h2
        exact ⟨_, .base (.lst h1), kit_ty ((k "list" (by simp)).trans (by rcases ht with rfl | rfl | rfl | rfl | rfl | rfl <;> decide))⟩
      · cases h
        rcases h2 with ⟨l, rfl, re⟩ | ⟨l, rfl, re⟩
        · exact ⟨_, .base (.dK h1), kit_ty ((k "dict" (by simp)).trans (by rcases ht with rfl | rfl | rfl | rfl | rfl | rfl <;> decide))⟩
        · exact ⟨_, .base (.dT h1), kit_ty ((k "dict" (by simp)).trans (by rcases ht with rfl | rfl | rfl | rfl | rfl | rfl <;> decide))⟩
theorem peu_isty {e : Expr} {f : Fe} {t : String} {x : Str} {ip yp : Pos} (ht : t = "bool" ∨ t = "int" ∨ t = "str" ∨ t = "tuple" ∨ t = "list" ∨ t = "dict") (hg : Gl X "isinstance") (hm : X.mg "isinstance" = none) (hgx : Gl X x) (hmx : X.mg x = none) (hbx : bootBuiltins x = some (.type t)) (hnx : x ≠ "__name__") (hdx : (x == ("__debug__" : Str)) = false) (hs : starB e = false) (h : PEU X cl W e f) :
    PEU X cl W (.Call (.Name "isinstance" ip) [e, .Name x yp] [] pos) (fun σ S => (f σ S).bind fun u S1 => R.opt ((tyIs S1 u t).map .bl) S1) := by
  obtain ⟨te, he, s⟩ := h
  have nc : PE X (.Name x yp) (tC (.ty t)) := pe_bltn hgx hmx hbx rfl hnx hdx
  refine ⟨_, pe_callB call_isi hg hm (by decide +kernel) (pa_cons he (pa_cons nc pa_nil) (star_cons hs)) (by decide) (by decide) (star_cons hs) rfl, fun m S H su σ Q rs rl h => ?_⟩
  refine s m S H su σ _ rs rl (h.first fun u S1 m1 H1 z _ e1 rs1 ru1 h1 => ?_)
  cases eb : tyIs S1 u t with
  | none => rw [eb] at h1; exact h1.elim
  | some b =>
    rw [eb] at h1
    obtain ⟨w, k1, k2⟩ := tyIs_ty (K := X.K) ht rs1 ru1 eb
    exact ⟨z, .ty t, w, .type t, b, rfl, .ty t, k1, k2, h1.val rs1 (.bl b)⟩
end
end Ev

set_option Elab.async false
set_option linter.all false
set_option autoImplicit false
set_option maxHeartbeats 2000000
/-! Walks: enumerate, zip, reversed, a list of the text's. -/
namespace Ev
open PySem PySem.Spec PyProof.Rows L2
theorem enumU_get : ∀ {us : List U} {k : Int} {i : Nat} {u : U}, (enumU k us)[i]? = some u → ∃ w, us[i]? = some w ∧ u = .tup [.int (k + i), w]
  | [], k, i, u, h => by simp [enumU] at h
  | w :: us, k, 0, u, h => by
    simp [enumU] at h
    exact ⟨w, rfl, by simp [← h]⟩
  | w :: us, k, i + 1, u, h => by
    simp only [enumU, List.getElem?_cons_succ] at h
    obtain ⟨x, h1, h2⟩ := enumU_get h
    refine ⟨x, by simpa using h1, ?_⟩
    rw [h2]
    simp; omega
theorem enumU_len : ∀ {us : List U} {k : Int}, (enumU k us).length = us.length
  | [], _ => rfl
  | u :: us, k => by simp [enumU, enumU_len]
theorem zipU_get : ∀ {us vs : List U} {i : Nat} {u : U}, (zipU us vs)[i]? = some u → ∃ a b, us[i]? = some a ∧ vs[i]? = some b ∧ u = .tup [a, b]
  | [], vs, i, u, h => by simp [zipU] at h
  | w :: us, [], i, u, h => by simp [zipU] at h
  | w :: us, x :: vs, 0, u, h => by
    simp [zipU] at h
    exact ⟨w, x, rfl, rfl, h.symm⟩
  | w :: us, x :: vs, i + 1, u, h => by
    simp only [zipU, List.getElem?_cons_succ] at h
    obtain ⟨a, b, h1, h2, h3⟩ := zipU_get h
    exact ⟨a, b, by simpa using h1, by simpa using h2, h3⟩
theorem zipU_len : ∀ {us vs : List U}, (zipU us vs).length = min us.length vs.length
  | [], _ => by simp [zipU]
  | _ :: _, [] => by simp [zipU]
  | u :: us, v :: vs => by simp [zipU, zipU_len]
open Classical in
theorem standW_mono {c c' : List (Nat × O)} {S : Sx} (h : standW c S = true) (i : ∀ p, p ∈ c' → p ∈ c) : standW c' S = true := by
  unfold standW at *
  exact decide_eq_true fun p hp => (of_decide_eq_true h : ∀ p ∈ c, S[p.1]? = some p.2) p (i p hp)
section
variable {X : Cx} {cl : Lay} {W : WS} {pos : Pos}
/-- a list that has to stand: what is there -/
theorem stand_get {m0 : List Addr} {H0 : Hp} {n : Nat} {a : Addr} {o : O} {us : List U} (K : PySem.W.Frag) (hm : m0[n]? = some a) (ho : lstAt [o] (.ref 0) = some us) {c : List (Nat × O)} (hc : (n, o) ∈ c) {m : List Addr} {S : Sx} {H : Hp} (e : Ext m0 H0 m H) (rs : RelS cl m S H) (st : standW c S = true) :
    ∃ vs, SqL K H a vs ∧ RelUs m H us vs := by
  have h1 := standW_at st hc
  have hl : lstAt S (.ref n) = some us := by
    simp only [lstAt, h1]
    simpa [lstAt] using ho
  obtain ⟨a', vs, e2, hq, re⟩ := rs.lst K hl (.ref (e.at hm))
  cases e2
  exact ⟨vs, hq, re⟩
theorem walk_enum {m0 : List Addr} {H0 : Hp} {n : Nat} {a : Addr} {o : O} {us : List U} (K : PySem.W.Frag) (hm : m0[n]? = some a) (ho : lstAt [o] (.ref 0) = some us) : WalkOk cl m0 H0 (Ite K a) (enumU 0 us, [(n, o)]) := by
  refine ⟨fun m S H e rs st => ?_, fun m S H i u e rs st hi => ?_⟩
  · obtain ⟨vs, h1, h2⟩ := stand_get K hm ho (by simp) e rs st
    exact ⟨vs, h1, by rw [← h2.length, enumU_len]; exact Nat.le_refl _⟩
  · obtain ⟨vs, h1, h2⟩ := stand_get K hm ho (by simp) e rs st
    obtain ⟨w, k1, rfl⟩ := enumU_get hi
    obtain ⟨v, h3, h4⟩ := h2.get k1
    refine ⟨⟨vs, v, h1, h3⟩, fun x H' y => ?_⟩
    obtain ⟨T, z, rfl, hT, rfl, hz⟩ := y
    have := hz vs h1
    rw [h3] at this
    cases this
    refine ⟨Ext.free hT, rs.free hT, .tup upd_same (.cons ?_ (.cons (h4.ext (Ext.free hT)) .nil))⟩
    rw [Int.zero_add]; exact .int _
theorem walk_zip {m0 : List Addr} {H0 : Hp} {n n' : Nat} {a b : Addr} {o o' : O} {us us' : List U} (K : PySem.W.Frag) (hm : m0[n]? = some a) (ho : lstAt [o] (.ref 0) = some us) (hm' : m0[n']? = some b) (ho' : lstAt [o'] (.ref 0) = some us') :
    WalkOk cl m0 H0 (Itz K a b) (zipU us us', [(n, o)] ++ [(n', o')]) := by
  refine ⟨fun m S H e rs st => ?_, fun m S H i u e rs st hi => ?_⟩
  · obtain ⟨vs, h1, h2⟩ := stand_get K hm ho (by simp) e rs st
    obtain ⟨vs', h3, h4⟩ := stand_get K hm' ho' (by simp) e rs st
    refine ⟨vs, vs', h1, h3, ?_⟩
    rw [← h2.length, ← h4.length, zipU_len]
    omega
  · obtain ⟨vs, h1, h2⟩ := stand_get K hm ho (by simp) e rs st
    obtain ⟨vs', h3, h4⟩ := stand_get K hm' ho' (by simp) e rs st
    obtain ⟨w, w', k1, k2, rfl⟩ := zipU_get hi
    obtain ⟨v, h5, h6⟩ := h2.get k1
    obtain ⟨v', h7, h8⟩ := h4.get k2
    refine ⟨⟨vs, vs', v, v', h1, h3, h5, h7⟩, fun x H' y => ?_⟩
    obtain ⟨T, z, z', rfl, hT, rfl, hz, hz'⟩ := y
    have e1 := hz vs h1
    rw [h5] at e1
    cases e1
    have e2 := hz' vs' h3
    rw [h7] at e2
    cases e2
    exact ⟨Ext.free hT, rs.free hT, .tup upd_same (.cons (h6.ext (Ext.free hT)) (.cons (h8.ext (Ext.free hT)) .nil))⟩
theorem walk_rev {m0 : List Addr} {H0 : Hp} {n : Nat} {a : Addr} {o : O} {us : List U} (K : PySem.W.Frag) (hm : m0[n]? = some a) (ho : lstAt [o] (.ref 0) = some us) : WalkOk cl m0 H0 (Itv K a us.length) (us.reverse, [(n, o)]) := by
  refine ⟨fun m S H e rs st => by show us.length ≤ us.reverse.length; simp, fun m S H i u e rs st hi => ?_⟩
  obtain ⟨vs, h1, h2⟩ := stand_get K hm ho (by simp) e rs st
  have hil : i < us.length := by have := (List.getElem?_eq_some_iff.mp hi).1; simpa using this
  have k1 : us[us.length - 1 - i]? = some u := by rw [List.getElem?_reverse hil] at hi; exact hi
  obtain ⟨v, h3, h4⟩ := h2.get k1
  refine ⟨⟨hil, vs, v, h1, h3⟩, fun x H' y => ?_⟩
  obtain ⟨rfl, hz⟩ := y
  have := hz vs h1
  rw [h3] at this
  cases this
  exact ⟨.refl, rs, h4⟩
theorem lstW_some {S : Sx} {u : U} {w : Wk} (h : lstW S u = some w) : ∃ n o, u = .ref n ∧ S[n]? = some o ∧ lstAt [o] (.ref 0) = some w.1 ∧ w.2 = [(n, o)] ∧ lstAt S u = some w.1 := by
  cases u <;> simp only [lstW] at h <;> first | (cases h; done) | skip
  rename_i n
  cases e : S[n]? with
  | none => rw [e] at h; cases h
  | some o => rw [e] at h; cases o <;> cases h <;> exact ⟨n, _, rfl, e, rfl, rfl, by simp only [lstAt, e]⟩
theorem piu_enum {elts : List Expr} {kk : Nat} {tpos p : Pos} {a : Expr} {f : Fe} (hg : Gl X "enumerate") (hm : X.mg "enumerate" = none) (hs : starB a = false) (h : PEU X cl W a f) :
    PIU X cl W (.Tuple elts kk tpos) (.Call (.Name "enumerate" p) [a] [] pos) (fun σ S => (f σ S).bind fun u S1 => R.opt ((lstW S1 u).map fun w => (enumU 0 w.1, w.2)) S1) := by
  obtain ⟨t, h, s⟩ := h
  refine ⟨_, pi_enum hg hm (pa_cons h pa_nil (star_cons hs)) (star_cons hs), fun m S H su σ Q rs rl hd => ?_⟩
  refine s m S H su σ _ rs rl (Den.firstI hd fun u S1 m1 H1 y er e1 rs1 ru1 h1 => ?_)
  cases ew : lstW S1 u with
  | none => rw [ew] at h1; exact h1.elim
  | some w =>
    rw [ew] at h1
    obtain ⟨n, o, rfl, ho, hu, h2, hl⟩ := lstW_some ew
    obtain ⟨a, vs, rfl, hq, re⟩ := rs1.lst X.K hl ru1
    cases ru1 with
    | ref ha =>
      obtain ⟨w1, w2⟩ := w
      dsimp only at h2 hu
      subst h2
      exact ⟨a, vs, rfl, hq, h1 m1 H1 _ .refl rs1 (walk_enum X.K ha hu)⟩
theorem piu_zip {elts : List Expr} {kk : Nat} {tpos p : Pos} {a b : Expr} {f g : Fe} (hg : Gl X "zip") (hm : X.mg "zip" = none) (hs : starB a = false) (hs2 : starB b = false) (h : PEU X cl W a f) (h2 : PEU X cl W b g) :
    PIU X cl W (.Tuple elts kk tpos) (.Call (.Name "zip" p) [a, b] [] pos) (fun σ S => (f σ S).bind fun u S1 => (g σ S1).bind fun v S2 => match lstW S2 u, lstW S2 v with
      | some w, some w' => .ok (zipU w.1 w'.1, w.2 ++ w'.2) S2
      | _, _ => .stuck) := by
  obtain ⟨t, h, s⟩ := h
  obtain ⟨t2, h2, s2⟩ := h2
  refine ⟨_, pi_zip hg hm (pa_cons h (pa_cons h2 pa_nil (star_cons hs2)) (star_cons hs)) (star_cons hs) (by rw [star_cons hs2]; rfl), fun m S H su σ Q rs rl hd => ?_⟩
  refine s m S H su σ _ rs rl (Den.firstI hd fun u S1 m1 H1 y er e1 rs1 ru1 h1 => ?_)
  refine s2 m1 S1 H1 su σ _ rs1 (rl.ext e1) (Den.firstI h1 fun v S2 m2 H2 z er2 e2 rs2 ru2 h3 => ?_)
  cases ew : lstW S2 u with
  | none => rw [ew] at h3; exact h3.elim
  | some w =>
    cases ew2 : lstW S2 v with
    | none => rw [ew, ew2] at h3; exact h3.elim
    | some w' =>
      rw [ew, ew2] at h3
      obtain ⟨n, o, rfl, ho, hu, k2, hl⟩ := lstW_some ew
      obtain ⟨n', o', rfl, ho', hu', k2', hl'⟩ := lstW_some ew2
      have ru1' := ru1.ext e2
      obtain ⟨a, vs, rfl, hq, re⟩ := rs2.lst X.K hl ru1'
      obtain ⟨a', vs', rfl, hq', re'⟩ := rs2.lst X.K hl' ru2
      cases ru1' with
      | ref ha => cases ru2 with
        | ref ha' =>
          obtain ⟨w1, w2⟩ := w
          obtain ⟨w1', w2'⟩ := w'
          dsimp only at k2 hu k2' hu'
          subst k2 k2'
          exact ⟨a, a', vs, vs', rfl, hq, hq', h3 m2 H2 _ .refl rs2 (walk_zip X.K ha hu ha' hu')⟩
theorem piu_rev {tg a : Expr} {p : Pos} {f : Fe} (hg : Gl X "reversed") (hm : X.mg "reversed" = none) (hs : starB a = false) (h : PEU X cl W a f) :
    PIU X cl W tg (.Call (.Name "reversed" p) [a] [] pos) (fun σ S => (f σ S).bind fun u S1 => R.opt ((lstW S1 u).map fun w => (w.1.reverse, w.2)) S1) := by
  obtain ⟨t, h, s⟩ := h
  refine ⟨_, pi_reversed hg hm (pa_cons h pa_nil (star_cons hs)) (star_cons hs), fun m S H su σ Q rs rl hd => ?_⟩
  refine s m S H su σ _ rs rl (Den.firstI hd fun u S1 m1 H1 y er e1 rs1 ru1 h1 => ?_)
  cases ew : lstW S1 u with
  | none => rw [ew] at h1; exact h1.elim
  | some w =>
    rw [ew] at h1
    obtain ⟨n, o, rfl, ho, hu, h2, hl⟩ := lstW_some ew
    obtain ⟨a, vs, rfl, hq, re⟩ := rs1.lst X.K hl ru1
    cases ru1 with
    | ref ha =>
      obtain ⟨w1, w2⟩ := w
      dsimp only at h2 hu
      subst h2
      have hlen := re.length
      dsimp only at hlen
      refine ⟨a, vs, rfl, hq, h1 m1 H1 _ .refl rs1 ?_⟩
      rw [← hlen]
      exact walk_rev X.K ha hu
end
end Ev

set_option Elab.async false
set_option linter.all false
set_option autoImplicit false
set_option maxHeartbeats 2000000
/-! The exceptions' own __init__: B.__init__(self, text), then self.f = f for each. -/
namespace Ev
open PySem PySem.Spec PyProof.Rows L2 ClX
/-- B's __init__ is ValueError's -/
structure BIni (K : PySem.W.Frag) (mg : Str → Option Value) (b : Str) : Prop where
  ex : ∃ B mc, mg b = some (.ref B) ∧ CRead K B mc ∧ PySem.W.findCls K (.ref B) mc "__init__" = some (.val (.builtin "ValueError.__init__"))
section
variable {X : Cx} {o e : Expr} {es : List Expr} {to te : TE} {ta : TA} {f b : Str} {p p' p1 p2 pos : Pos}
/-- B.__init__(self, ..) -/
theorem pe_binit (hb : BIni X.K X.mg b) (hg : Gl X b) (hdb : (b == ("__debug__" : Str)) = false) (hl : (p2.endLine == pos.line) = true) (hs : (e :: es).all (fun e => !starB e) = true) (hn : (e :: es).length < 29) (ha : PA X (e :: es) ta) :
    PE X (.Call (.Attribute (.Name b p1) "__init__" p2) (e :: es) [] pos) (tVeI X.K ta) := by
  obtain ⟨B, mc, hm, R, hf⟩ := hb.ex
  have hc := eval_meth (o := .Name b p1) (m := "__init__") (apos := p2) (pos := pos) (args := e :: es) (env := X.env) rfl hl hs hn
  refine ⟨fun pins s σ H Q I h => ?_⟩
  refine PySem.W.methodCall_KW (ld_glob I hg hm ?_ hdb) hc
  refine PySem.W.method_cls I.kIn R.ga (PySem.W.cls_value I.kIn R.rd hf rfl ?_)
  simp only [List.all_cons, Bool.and_eq_true] at hs
  show wpAny _ _ (callWith pos (Value.builtin "ValueError.__init__") [] (backTo pos (starEach (e :: es) X.env)) []) _ _ _
  refine PyProof.Rows.callWith_method1 (thn (ha.run pos pins _ σ H _ (I.tok _) h) fun us s1 ⟨vs, H1, I1, r1, a, C, ws, ev, hl, T, ea, q⟩ => ?_) (star_cons (by simpa using hs.1)) (pos_any (by simpa using hs.2))
  subst ev
  cases r1 with
  | @cons _ u0 _ ur ra rw' =>
    obtain rfl : u0 = Value.ref a := ra
    have hlen : ur.length ≤ sizeLine := by
      rw [← Paired.length rw', sizeLine_eq]
      omega
    exact oinit_ok T I1 ea hlen fun s' J => ⟨.non, H1, J, rfl, q⟩
end
/-- self.f = f, one for each -/
def xiR : List Str → List Stmt → Bool
  | [], [] => true
  | f :: fs, .Assign [.Attribute (.Name s _) g _] (.Name y _) _ :: r => decide (s = "self") && (decide (g = f) && (decide (y = f) && xiR fs r))
  | _, _ => false
/-- the whole body -/
def xiB (b : Str) (fs : List Str) : List Stmt → Bool
  | .Expr (.Call (.Attribute (.Name x _) m p2) [.Name s _, .Constant (.str _) _ _] [] pos) _ :: r => decide (x = b) && (decide (m = "__init__") && (decide (s = "self") && ((p2.endLine == pos.line) && xiR fs r)))
  | _ => false
section
variable {X : Cx}
theorem xiR_cons {f : Str} {fs : List Str} {l : List Stmt} (h : xiR (f :: fs) l = true) : ∃ q1 q2 q3 q4 r, l = .Assign [.Attribute (.Name "self" q1) f q2] (.Name f q3) q4 :: r ∧ xiR fs r = true := by
  unfold xiR at h
  split at h
  next e => cases e
  next f' fs' s q1 g q2 y q3 q4 r e1 =>
    cases e1
    simp only [Bool.and_eq_true, decide_eq_true_eq] at h
    obtain ⟨rfl, rfl, rfl, h⟩ := h
    exact ⟨_, _, _, _, _, rfl, h⟩
  next => cases h
theorem xiR_nil {l : List Stmt} (h : xiR [] l = true) : l = [] := by
  cases l with
  | nil => rfl
  | cons a l => cases h
/-- the slots of the fields -/
structure XiN (X : Cx) (fs : List Str) (i : Nat) : Prop where
  at_ : ∀ j f, fs[j]? = some f → X.N[i + j]? = some f
  vis : ∀ f, f ∈ fs → Vis X.env.scope f
  nd : ∀ f, f ∈ fs → (f == ("__debug__" : Str)) = false ∧ (f == ("__classdict__" : Str)) = false
theorem XiN.tail {f : Str} {fs : List Str} {i : Nat} (h : XiN X (f :: fs) i) : XiN X fs (i + 1) :=
  ⟨fun j g hj => by have := h.at_ (j + 1) g (by simpa using hj); rw [show i + 1 + j = i + (j + 1) by omega]; exact this, fun g hg => h.vis g (List.mem_cons_of_mem _ hg), fun g hg => h.nd g (List.mem_cons_of_mem _ hg)⟩
theorem xi_rest (h0 : X.N[0]? = some ("self" : Str)) (v0 : Vis X.env.scope ("self" : Str)) : ∀ (fs : List Str) (i : Nat) (l : List Stmt), xiR fs l = true → XiN X fs i →
    ∃ t : TS, PSs X l t ∧ ∀ (D : Ends) (σ : L2.St) (H : Hp) (a C d : Addr) (done : List (Str × V)) (ws : List V), σ[0]? = some (some (.ref a)) → OexC X.K C → (∀ f, f ∈ fs → PySem.W.findIn X.K (.ref C) f = some none) → d ≠ a → H a = some (exo a C (some d)) → H d = some (exd d done) → done.length + fs.length ≤ 900 →
      ws.length = fs.length → (∀ (j : Nat) w, ws[j]? = some w → σ[i + j]? = some (some w)) → (∀ H', H' a = some (exo a C (some d)) → H' d = some (exd d ((fs.zip ws).reverse ++ done)) → (∀ b, b ≠ a → b ≠ d → H' b = H b) → D.nx σ H') → t D σ H := by
  intro fs
  induction fs with
  | nil =>
    intro i l h _
    cases xiR_nil h
    refine ⟨_, pss_nil, fun D σ H a C d done ws _ _ _ _ e1 e2 _ hw _ k => ?_⟩
    cases ws with
    | nil => exact k H e1 (by simpa using e2) fun b _ _ => rfl
    | cons _ _ => cases hw
  | cons f fs ih =>
    intro i l h n
    obtain ⟨q1, q2, q3, q4, r, rfl, hr⟩ := xiR_cons h
    obtain ⟨t, ht, kt⟩ := ih (i + 1) r hr n.tail
    have pf : PE X (.Name f q3) (tVar i) := pe_var (by have := n.at_ 0 f rfl; simpa using this) (n.vis f (by simp)) (n.nd f (by simp)).1 (n.nd f (by simp)).2
    have ps : PE X (.Name "self" q1) (tVar 0) := pe_var h0 v0 (by decide +kernel) (by decide +kernel)
    refine ⟨_, pss_cons (ps_ost ps pf (swaps_no rfl)) ht, fun D σ H a C d done ws hσ T hno hda e1 e2 hl hw hws k => ?_⟩
    cases ws with
    | nil => cases hw
    | cons w ws =>
      refine ⟨w, by have := hws 0 w rfl; simpa using this, .ref a, hσ, a, C, rfl, T, hno f (by simp), .inr ⟨d, done, e1, e2, by simp at hl; omega, ?_⟩⟩
      refine kt D σ (upd H d (exd d ((f, w) :: done))) a C d ((f, w) :: done) ws hσ T (fun g hg => hno g (List.mem_cons_of_mem _ hg)) hda (by rw [upd_ne (Ne.symm hda)]; exact e1) upd_same (by simp at hl ⊢; omega) (by simpa using hw)
        (fun j w' hj => by have := hws (j + 1) w' (by simpa using hj); rw [show i + 1 + j = i + (j + 1) by omega]; exact this) fun H' k1 k2 k3 => ?_
      refine k H' k1 (by simpa using k2) fun b hb hd => ?_
      rw [k3 b hb hd, upd_ne hd]
theorem xi_all {b : Str} {fs : List Str} {l : List Stmt} (h : xiB b fs l = true) (hb : BIni X.K X.mg b) (hg : Gl X b) (hdb : (b == ("__debug__" : Str)) = false) (h0 : X.N[0]? = some ("self" : Str)) (v0 : Vis X.env.scope ("self" : Str)) (n : XiN X fs 1) (hf0 : 0 < fs.length) :
    ∃ t : TS, PSs X l t ∧ ∀ (D : Ends) (σ : L2.St) (H : Hp) (a C : Addr) (ws : List V), σ[0]? = some (some (.ref a)) → OexC X.K C → (∀ f, f ∈ fs → PySem.W.findIn X.K (.ref C) f = some none) → H a = some (exo a C none) → fs.length ≤ 900 →
      ws.length = fs.length → (∀ (j : Nat) w, ws[j]? = some w → σ[1 + j]? = some (some w)) → (∀ d H', H d = none → d ≠ a → H' a = some (exo a C (some d)) → H' d = some (exd d (fs.zip ws).reverse) → (∀ b, b ≠ a → b ≠ d → H' b = H b) → D.nx σ H') → t D σ H := by
  unfold xiB at h
  split at h
  · rename_i x p1 m p2 s p3 z j p4 pos p6 r
    simp only [Bool.and_eq_true, decide_eq_true_eq] at h
    obtain ⟨rfl, rfl, rfl, hl, h⟩ := h
    cases fs with
    | nil => cases hf0
    | cons f fs =>
      obtain ⟨q1, q2, q3, q4, r, rfl, hr⟩ := xiR_cons h
      obtain ⟨t, ht, kt⟩ := xi_rest h0 v0 fs 2 r hr n.tail
      have pf : PE X (.Name f q3) (tVar 1) := pe_var (by have := n.at_ 0 f rfl; simpa using this) (n.vis f (by simp)) (n.nd f (by simp)).1 (n.nd f (by simp)).2
      have ps : ∀ q, PE X (.Name "self" q) (tVar 0) := fun q => pe_var h0 v0 (by decide +kernel) (by decide +kernel)
      refine ⟨_, pss_cons (ps_expr (pe_binit hb hg hdb hl (by rfl) (Nat.lt_of_lt_of_le (by decide : 2 < 29) (Nat.le_refl _)) (pa_cons (ps _) (pa_cons pe_str pa_nil))) (swaps_no rfl)) (pss_cons (ps_ost (ps _) pf (swaps_no rfl)) ht), fun D σ H a C ws hσ T hno e1 hl2 hw hws k => ?_⟩
      cases ws with
      | nil => cases hw
      | cons w ws =>
        refine ⟨.ref a, hσ, a, C, [.str z], rfl, by simp, T, e1, w, by have := hws 0 w rfl; simpa using this, .ref a, hσ, a, C, rfl, T, hno f (by simp), .inl ⟨e1, fun d hd hda => ?_⟩⟩
        have had : a ≠ d := Ne.symm hda
        refine kt D σ _ a C d [(f, w)] ws hσ T (fun g hg => hno g (List.mem_cons_of_mem _ hg)) hda upd_same (by rw [upd_ne hda]; exact upd_same) (by simp at hl2 ⊢; omega) (by simpa using hw)
          (fun j w' hj => by have := hws (j + 1) w' (by simpa using hj); rw [show 2 + j = 1 + (j + 1) by omega]; exact this) fun H' k1 k2 k3 => ?_
        refine k d H' hd hda k1 (by simpa using k2) fun b hb hbd => ?_
        rw [k3 b hb hbd, upd_ne hb, upd_ne hbd]
  · cases h
end
/-- the __init__ keeps its promise -/
theorem xi_ok {P : Program} {w : World} {K : PySem.W.Frag} {mg : Str → Option Value} {base : Heap} {x qual b : Str} {params : Arguments} {body : List Stmt} {scope : Scope} {fs : List Str} {f : Addr} {fd : FuncData} (F : FunD K x qual params body scope [] [] f fd) (S : FnScope ("self" :: fs) ("self" :: fs) scope)
    (h : xiB b fs body = true) (hb : BIni K mg b) (hg : scope.names.lookup b = some .globalImplicit) (hdb : (b == ("__debug__" : Str)) = false) (nd : ∀ f, f ∈ fs → (f == ("__debug__" : Str)) = false ∧ (f == ("__classdict__" : Str)) = false) (hf0 : 0 < fs.length) (hl : fs.length ≤ 900)
    : FnOk P w K mg base (fun _ _ _ _ _ _ => False) 1 f fd ("self" :: fs) (spX K fs) := by
  refine F.ok S (fun vs H Q E h => by simpa using h.1) (fun cdv A outer s H vs Q E hr hsp => ?_)
  obtain ⟨hlen, a, C, ws, rfl, ha, T, hno, k⟩ := hsp
  have vis : ∀ y, y ∈ ("self" : Str) :: fs → Vis scope y := fun y hy => (S.par y hy).imp id .inl
  have hw : ws.length = fs.length := by simpa using hlen
  obtain ⟨t, ht, kt⟩ := xi_all (X := cxOf (fun _ _ _ _ _ _ => False) P w K mg base ("self" :: fs) qual scope f cdv A outer s H E) h hb hg hdb rfl (vis _ (by simp)) ⟨fun j g hj => by rw [Nat.add_comm]; exact hj, fun g hg => vis g (by simp [hg]), nd⟩ hf0
  refine ⟨t, ht, kt _ _ H a C ws rfl T hno ha hl hw (fun j w hj => ?_) fun d H' hd hda k1 k2 k3 => k d H' hd hda k1 k2 k3⟩
  obtain ⟨hj2, e⟩ := List.getElem?_eq_some_iff.mp hj
  show ((some (V.ref a) :: ws.map some) ++ _)[1 + j]? = _
  rw [List.getElem?_append_left (by simp; omega), Nat.add_comm, List.getElem?_cons_succ, List.getElem?_map, hj]
  rfl
end Ev

set_option Elab.async false
set_option linter.all false
set_option autoImplicit false
set_option maxHeartbeats 2000000
/-! Compiling. -/
namespace Ev
open PySem PySem.Spec PyProof.Rows L2
section
variable {α β γ : Type}
def o2 (a : Option α) (b : Option β) (f : α → β → Option γ) : Option γ := match a, b with
  | some x, some y => f x y
  | _, _ => none
theorem o2_some {a : Option α} {b : Option β} {f : α → β → Option γ} {c : γ} (h : o2 a b f = some c) : ∃ x y, a = some x ∧ b = some y ∧ f x y = some c := by
  cases a <;> cases b <;> first | (cases h; done) | exact ⟨_, _, rfl, rfl, h⟩
def o1 (a : Option α) (f : α → Option γ) : Option γ := match a with
  | some x => f x
  | none => none
theorem o1_some {a : Option α} {f : α → Option γ} {c : γ} (h : o1 a f = some c) : ∃ x, a = some x ∧ f x = some c := by
  cases a <;> first | (cases h; done) | exact ⟨_, rfl, h⟩
def gd (b : Bool) (o : Option α) : Option α := match b with
  | true => o
  | false => none
theorem gd_some {b : Bool} {o : Option α} {c : α} (h : gd b o = some c) : b = true ∧ o = some c := by
  cases b <;> first | (cases h; done) | exact ⟨rfl, h⟩
end
/-- where an expression stands: a def's body, an except suite, a comprehension -/
inductive Md where
  | body | suite | blk
  deriving DecidableEq
/-- what the names of the module are -/
structure Tb where
  free : List Str
  defs : List (Str × String)
  cls : List (Str × String × String)
  exc : List (Str × String × Option (List String))
  cat : List (Str × String)
  flds : List (Str × String)
structure CE where
  tb : Tb
  N : List Str
  sc : Scope
  asn : List Str
  exc : Option (Str × Nat)
  md : Md
def CE.out (ce : CE) : Bool := match ce.md with
  | .suite => false
  | _ => true
def CE.top (ce : CE) : Bool := match ce.md with
  | .body => true
  | _ => false
def ixOf (N : List Str) (x : Str) : Option Nat := match N.findIdx? (fun y => decide (y = x)) with
  | some i => if N[i]? = some x then some i else none
  | none => none
theorem ixOf_ok {N : List Str} {x : Str} {i : Nat} (h : ixOf N x = some i) : N[i]? = some x := by
  unfold ixOf at h
  split at h
  · split at h
    · cases h; assumption
    · cases h
  · cases h
def visB (sc : Scope) (x : Str) : Bool := match sc.names.lookup x with
  | some .local => true
  | some .cell => true
  | some .free => true
  | _ => false
theorem visB_ok {sc : Scope} {x : Str} (h : visB sc x = true) : Vis sc x := by
  unfold visB at h
  split at h <;> first | (cases h; done) | skip
  · exact .inl ‹_›
  · exact .inr (.inl ‹_›)
  · exact .inr (.inr ‹_›)
def nameB (x : Str) : Bool := !(x == ("__debug__" : Str)) && !(x == ("__classdict__" : Str))
theorem nameB_ok {x : Str} (h : nameB x = true) : (x == ("__debug__" : Str)) = false ∧ (x == ("__classdict__" : Str)) = false := by
  unfold nameB at h
  simp only [Bool.and_eq_true, Bool.not_eq_true'] at h
  exact h
/-- a name of the module -/
def glB (ce : CE) (x : Str) : Bool := decide (ce.sc.names.lookup x = some .globalImplicit) && (!(x == ("__debug__" : Str)) && decide (x ≠ ("__name__" : Str)))
def cVar (ce : CE) (x : Str) : Option Nat := o1 (ixOf ce.N x) fun i => gd (visB ce.sc x && nameB x) (some i)
def conU : Const → Option U
  | .int i => some (.int i)
  | .str x => some (.str x)
  | .bool b => some (.bl b)
  | .none => some .non
  | _ => none
/-- the compilers for the parts -/
structure Fns where
  e : CE → Expr → Option UE
  t : CE → Expr → Option UT
  g : CE → Expr → Option UTg
  s : CE → Stmt → Option US
def Fns.zero : Fns := ⟨fun _ _ => none, fun _ _ => none, fun _ _ => none, fun _ _ => none⟩
def cEs (f : Expr → Option UE) : List Expr → Option UEs
  | [] => some .nil
  | e :: es => gd (!starB e) (o2 (f e) (cEs f es) fun u us => some (.cons u us))
def cAnd (f : Expr → Option UE) : List Expr → Option UE
  | [] => none
  | [a] => f a
  | a :: r => o2 (f a) (cAnd f r) fun u v => some (.andV u v)
def cOr (f : Expr → Option UE) : List Expr → Option UE
  | [] => none
  | [a] => f a
  | a :: r => o2 (f a) (cOr f r) fun u v => some (.orV u v)
def cAndT (f : Expr → Option UT) : List Expr → Option UT
  | [] => none
  | [a] => f a
  | a :: r => o2 (f a) (cAndT f r) fun u v => some (.and u v)
def cOrT (f : Expr → Option UT) : List Expr → Option UT
  | [] => none
  | [a] => f a
  | a :: r => o2 (f a) (cOrT f r) fun u v => some (.or u v)
def cO (f : Expr → Option UE) : Option Expr → Option UO
  | none => some .none
  | some e => o1 (f e) fun u => some (.some u)
def cGs (f : Expr → Option UTg) : List Expr → Option UTgs
  | [] => some .nil
  | e :: es => gd (!starB e) (o2 (f e) (cGs f es) fun u us => some (.cons u us))
def cSs (f : Stmt → Option US) : List Stmt → Option USs
  | [] => some .nil
  | e :: es => o2 (f e) (cSs f es) fun u us => some (.cons u us)
/-- types that isinstance asks for -/
def tyOf (x : Str) : Option String := if x = ("bool" : Str) then some "bool" else if x = ("int" : Str) then some "int" else if x = ("str" : Str) then some "str" else if x = ("tuple" : Str) then some "tuple" else if x = ("list" : Str) then some "list" else if x = ("dict" : Str) then some "dict" else none
/-- built-in functions -/
def bcOf (x : Str) : Option String := if x = ("len" : Str) then some "len" else if x = ("abs" : Str) then some "abs" else if x = ("int" : Str) then some "int" else if x = ("list" : Str) then some "list" else none
/-- built-in functions that run where nothing is handled -/
def bcOf2 (x : Str) : Option String := if x = ("sum" : Str) then some "sum" else if x = ("all" : Str) then some "all" else if x = ("any" : Str) then some "any" else none
def excName (ce : CE) (e : Expr) : Bool := match e, ce.exc with
  | .Name x _, some (n, _) => decide (x = n)
  | _, _ => false
def cIsi (F : Fns) (ce : CE) (a : Expr) (y : Str) : Option UE := gd (glB ce "isinstance" && ce.tb.free.contains ("isinstance" : Str)) (match excName ce a with
  | true => gd (glB ce y) (o1 (ce.tb.cat.lookup y) fun cn => some (.xisa cn))
  | false => gd (glB ce y && (ce.tb.free.contains y && !starB a)) (o2 (tyOf y) (F.e ce a) fun t u => some (.isty u [t])))
def cCall (F : Fns) (ce : CE) (x : Str) (es : List Expr) : Option UE := gd (glB ce x) (match ce.tb.defs.lookup x with
  | some key => gd ce.out (o1 (cEs (F.e ce) es) fun us => some (.call key us))
  | none => match ce.tb.cls.lookup x with
    | some (c, key) => gd ce.out (o1 (cEs (F.e ce) es) fun us => some (.mk c key us))
    | none => gd (ce.tb.free.contains x && !es.isEmpty) (match bcOf x with
      | some b => o1 (cEs (F.e ce) es) fun us => some (.bcall b us)
      | none => gd ce.out (o2 (bcOf2 x) (cEs (F.e ce) es) fun b us => some (.bcall b us))))
def tupE : Expr → Bool
  | .Tuple .. => true
  | _ => false
/-- a walk -/
def cI1 (F : Fns) (ce : CE) (tg : Expr) (x : Str) (a : Expr) : Option UI := gd (!starB a) (if x = ("range" : Str) then o1 (F.e ce a) fun u => some (.rng1 u) else if x = ("enumerate" : Str) then gd (tupE tg) (o1 (F.e ce a) fun u => some (.enum u 0)) else if x = ("reversed" : Str) then o1 (F.e ce a) fun u => some (.rev u) else none)
def cI2 (F : Fns) (ce : CE) (tg : Expr) (x : Str) (a b : Expr) : Option UI := gd (!starB a && !starB b) (if x = ("range" : Str) then o2 (F.e ce a) (F.e ce b) fun u v => some (.rng2 u v) else if x = ("zip" : Str) then gd (tupE tg) (o2 (F.e ce a) (F.e ce b) fun u v => some (.zip u v)) else none)
def cI (F : Fns) (ce : CE) (tg e : Expr) : Option UI := match e with
  | .Call (.Name x _) [a] [] _ => gd (glB ce x && ce.tb.free.contains x) (cI1 F ce tg x a)
  | .Call (.Name x _) [a, b] [] _ => gd (glB ce x && ce.tb.free.contains x) (cI2 F ce tg x a b)
  | _ => none
/-- a walk, or an expression that is walked -/
def cIt (F : Fns) (ce : CE) (tg e : Expr) : Option UI := match cI F ce tg e with
  | some u => some u
  | none => o1 (F.e ce e) fun u => some (.seq u)
def ownFrom (scope : Scope) : Nat → List Str → List (Str × Nat)
  | _, [] => []
  | i, x :: r => match scope.names.lookup x with
    | some .local => (x, i) :: ownFrom scope (i + 1) r
    | some .cell => (x, i) :: ownFrom scope (i + 1) r
    | _ => ownFrom scope (i + 1) r
def ownOf (N : List Str) (scope : Scope) : List (Str × Nat) := ownFrom scope 0 N
def blkB (N : List Str) (sc scope : Scope) (own : List (Str × Nat)) : Bool :=
  decide (scope.kind = .function) && ((scope.names.all fun y => decide (scope.names.lookup y.1 = some y.2)) && ((own.all fun p => decide (N[p.2]? = some p.1)) &&
    ((scope.names.all fun y => !decide (y.2 = .free) || (decide (sc.names.lookup y.1 = some .cell) || decide (sc.names.lookup y.1 = some .free))) &&
      scope.names.all fun y => !(decide (y.2 = .local) || decide (y.2 = .cell)) || ((own.map (·.1)).contains y.1 || !N.contains y.1))))
theorem blkB_ok {N : List Str} {sc scope : Scope} {own : List (Str × Nat)} (h : blkB N sc scope own = true) : BlkOk N sc scope own := by
  unfold blkB at h
  simp only [Bool.and_eq_true, decide_eq_true_eq, List.all_eq_true, Bool.or_eq_true, Bool.not_eq_true', decide_eq_false_iff_not] at h
  obtain ⟨h1, h2, h3, h4, h5⟩ := h
  refine ⟨h1, h2, h3, fun y hy e => (h4 y hy).resolve_left fun z => z e, fun y hy e => ?_⟩
  rcases h5 y hy with h | h | h
  · rcases e with e | e
    · simp [e] at h
    · simp [e] at h
  · exact .inl (List.contains_iff_mem.mp h)
  · exact .inr fun z => by rw [List.contains_iff_mem.mpr z] at h; cases h
mutual
def tgSl : UTg → List Nat
  | .name i => [i]
  | .tup l => tgsSl l
  | _ => []
def tgsSl : UTgs → List Nat
  | .nil => []
  | .cons t ts => tgSl t ++ tgsSl ts
end
def CE.into (ce : CE) (scope : Scope) : CE := { ce with sc := relS scope ce.sc, asn := (scope.names.filter fun y => decide (y.2 = .local) || decide (y.2 = .cell)).map (·.1), md := .blk }
def cTs (F : Fns) (ce : CE) : List Expr → Option UTs
  | [] => some .nil
  | [e] => o1 (F.t ce e) fun u => some (.cons u .nil)
  | _ => none
def cLc (F : Fns) (ce : CE) (elt tg iter : Expr) (ifs : List Expr) (scope : Scope) : Option UE :=
  gd (ce.out && (blkB ce.N ce.sc scope (ownOf ce.N scope) && !setB iter)) (o2 (cIt F ce tg iter) (F.g (ce.into scope) tg) fun it g => gd ((tgSl g).all fun j => ((ownOf ce.N scope).map (·.2)).contains j) (o2 (cTs F (ce.into scope) ifs) (F.e (ce.into scope) elt) fun cs u =>
    some (.lc ((ownOf ce.N scope).map (·.2)) g it cs u)))
def stepE (F : Fns) (ce : CE) : Expr → Option UE
  | .Name x _ => o1 (cVar ce x) fun i => some (.var i)
  | .Constant c _ _ => o1 (conU c) fun u => some (.con u)
  | .BinOp a op b _ => o2 (F.e ce a) (F.e ce b) fun u v => some (.bin op u v)
  | .UnaryOp .USub a _ => o1 (F.e ce a) fun u => some (.neg u)
  | .UnaryOp .Not a _ => o1 (F.e ce a) fun u => some (.notV u)
  | .BoolOp .And vs _ => cAnd (F.e ce) vs
  | .BoolOp .Or vs _ => cOr (F.e ce) vs
  | .Compare a [op] [b] _ => gd (!setB b) (o2 (F.e ce a) (F.e ce b) fun u v => some (.cmp op u v))
  | .IfExp c a b _ => o1 (F.t ce c) fun t => o2 (F.e ce a) (F.e ce b) fun u v => some (.ife t u v)
  | .Tuple es _ _ => o1 (cEs (F.e ce) es) fun us => some (.tup us)
  | .List es _ => o1 (cEs (F.e ce) es) fun us => some (.lst us)
  | .Dict [] [] _ => some (.dct .nil)
  | .Subscript a (.Slice lo hi none _) _ => o1 (F.e ce a) fun u => o2 (cO (F.e ce) lo) (cO (F.e ce) hi) fun l h => some (.slc u l h)
  | .Subscript a b _ => gd (!sliceB b) (o2 (F.e ce a) (F.e ce b) fun u v => some (.sub u v))
  | .Attribute o x _ => o1 (ce.tb.flds.lookup x) fun f => match excName ce o with
    | true => some (.xattr f)
    | false => gd (!call0B o) (o1 (F.e ce o) fun u => some (.attr u f))
  | .Call (.Name x _) es [] _ => match es with
    | [a, .Name y _] => if x = ("isinstance" : Str) then cIsi F ce a y else cCall F ce x es
    | _ => cCall F ce x es
  | .ListComp elt [⟨tg, iter, ifs, 0⟩] scope _ => cLc F ce elt tg iter ifs scope
  | _ => none
def stepT (F : Fns) (ce : CE) : Expr → Option UT
  | .UnaryOp .Not e _ => o1 (F.t ce e) fun u => some (.not u)
  | .BoolOp .And vs _ => cAndT (F.t ce) vs
  | .BoolOp .Or vs _ => cOrT (F.t ce) vs
  | .Compare a [op] [b] _ => gd (!setB b) (o2 (F.e ce a) (F.e ce b) fun u v => some (.val (.cmp op u v)))
  | e => gd (!testB e) (o1 (F.e ce e) fun u => some (.val u))
def cAsn (ce : CE) (x : Str) : Option Nat := o1 (ixOf ce.N x) fun i => gd (ce.asn.contains x && match ce.exc with
  | some (_, j) => !decide (i = j)
  | none => true) (some i)
def stepG (F : Fns) (ce : CE) : Expr → Option UTg
  | .Name x _ => o1 (cAsn ce x) fun i => some (.name i)
  | .Tuple es _ _ => gd ce.out (o1 (cGs (F.g ce) es) fun us => some (.tup us))
  | _ => none
/-- except clauses -/
def cH (F : Fns) (ce : CE) : List ExceptHandler → Option UHs
  | [] => some .nil
  | .ExceptHandler (some (.Name x _)) none (b₀ :: b) _ :: hs => gd (glB ce x) (o2 (ce.tb.cat.lookup x) (cSs (F.s { ce with exc := none, md := .suite }) (b₀ :: b)) fun c u => o1 (cH F ce hs) fun v => some (.cons c none u v))
  | .ExceptHandler (some (.Name x _)) (some n) (b₀ :: b) _ :: hs => gd (glB ce x && (decide (ce.sc.names.lookup n = some .local) && nameB n)) (o2 (ce.tb.cat.lookup x) (ixOf ce.N n) fun c i => o2 (cSs (F.s { ce with exc := some (n, i), md := .suite }) (b₀ :: b)) (cH F ce hs) fun u v => some (.cons c (some i) u v))
  | _ => none
def noAttr : UTg → Bool
  | .attr _ _ => false
  | _ => true
def stepS (F : Fns) (ce : CE) : Stmt → Option US
  | .Expr e _ => match e with
    | .Constant (.str _) _ _ => some .pass
    | e => gd (!compB e) (o1 (F.e ce e) fun u => some (.expr u))
  | .Assign [t] e _ => match t with
    | .Name x _ => o1 (cAsn ce x) fun i => match e with
      | .ListComp elt [⟨tg, iter, ifs, 0⟩] scope _ => o1 (cLc F ce elt tg iter ifs scope) fun u => some (.asg (.name i) u)
      | e => gd (!compB e) (o1 (F.e ce e) fun u => some (.asg (.name i) u))
    | .Attribute o x _ => gd (!compB e) (o1 (ce.tb.flds.lookup x) fun f => o2 (F.e ce o) (F.e ce e) fun u v => some (.asg (.attr u f) v))
    | t => gd (!compB e && (!starB t && !tupE e)) (o2 (F.g ce t) (F.e ce e) fun g u => gd (noAttr g) (some (.asg g u)))
  | .AugAssign (.Name x _) op e _ => o2 (cAsn ce x) (F.e ce e) fun i u => some (.aug i op u)
  | .Return none _ => some .retN
  | .Return (some e) _ => o1 (F.e ce e) fun u => some (.ret u)
  | .Pass _ => some .pass
  | .Break _ => some .brk
  | .Continue _ => some .cont
  | .If c a b _ => o1 (F.t ce c) fun t => o2 (cSs (F.s ce) a) (cSs (F.s ce) b) fun u v => some (.ife t u v)
  | .While c b [] _ => gd ce.top (o2 (F.t ce c) (cSs (F.s ce) b) fun t u => some (.whl t u))
  | .For tg iter b [] _ => gd (ce.top && !setB iter) (o2 (cIt F ce tg iter) (F.g ce tg) fun it g => o1 (cSs (F.s ce) b) fun u => some (.for g it u))
  | .Raise (some (.Call (.Name x _) es [] _)) none _ => gd (ce.top && glB ce x) (o2 (ce.tb.exc.lookup x) (cEs (F.e ce) es) fun c us => match c.2 with
    | none => gd (decide (es.length ≤ 100)) (some (.raise c.1 [] us))
    | some fs => gd (decide (es.length = fs.length) && (!es.isEmpty && decide (es.length ≤ 100))) (some (.raise c.1 fs us)))
  | .Try b (h :: hs) [] [] _ => gd ce.top (o2 (cSs (F.s ce) b) (cH F ce (h :: hs)) fun u v => some (.try u v .nil))
  | _ => none
def step (F : Fns) : Fns := ⟨stepE F, stepT F, stepG F, stepS F⟩
def comp : Nat → Fns
  | 0 => .zero
  | n + 1 => step (comp n)
end Ev

set_option Elab.async false
set_option linter.all false
set_option autoImplicit false
set_option maxHeartbeats 4000000
/-! Compiling is sound: expressions. -/
namespace Ev
open PySem PySem.Spec PyProof.Rows L2
/-- what the module's names are: what hangs on no body -/
structure ModOk (tb : Tb) (K : PySem.W.Frag) (mg : Str → Option Value) (ci cx : String → Option Addr) (sub : String → String → Bool) : Prop where
  free : ∀ x, x ∈ tb.free → mg x = none
  flds : ∀ x f, tb.flds.lookup x = some f → x = Str.ofString f
  cls : ∀ c C, ci c = some C → Cls K C ∧ ∀ x f, tb.flds.lookup x = some f → NoAttr K C (Str.ofString f)
  xat : ∀ c C, cx c = some C → XfC K C ∧ ∀ x f, tb.flds.lookup x = some f → PySem.W.findIn K (.ref C) (Str.ofString f) = some none
  cat : ∀ x cn, tb.cat.lookup x = some cn → ∃ c, (mg x = some c ∨ (mg x = none ∧ bootBuiltins x = some c)) ∧ (∃ v, RelV v c ∧ ∀ u, RelV v u → u = c) ∧
    ∀ c' C, cx c' = some C → PySem.W.exmOne K (.ref C) c = some (sub c' cn) ∧ XIs K C ∧ PySem.W.kitOne K (.ref C) c = some (sub c' cn)
/-- the defs, classes, exceptions that may be called -/
structure CallOk (tb : Tb) (P : Program) (w : World) (K : PySem.W.Frag) (mg : Str → Option Value) (base : Heap) (cl : Lay) (call : String → List U → Sx → R U) (lv : Nat) : Prop where
  defs : ∀ x key, tb.defs.lookup x = some key → ∃ k d f F, DefOkP P w K mg base cl k d f F ∧ Calls' d F (call key) ∧ mg x = some (.ref f) ∧ k ≤ lv
  cls : ∀ x c key, tb.cls.lookup x = some (c, key) → ∃ k d f F C, DefOkP P w K mg base cl k d f F ∧ Calls' d F (call key) ∧ Mk K C f ∧ cl.i c = some C ∧ mg x = some (.ref C) ∧ k + 1 ≤ lv
  exc : ∀ x c fs, tb.exc.lookup x = some (c, fs) → ∃ C, XCls K C ∧ cl.x c = some C ∧ mg x = some (.ref C) ∧ 2 ≤ lv ∧ (fs = none → PySem.W.excIn K C He.veBase "ValueError.__new__" = true) ∧ ∀ l, fs = some l → XInitP P w K mg base 1 C (l.map Str.ofString) ∧ l.Nodup ∧ l.length ≤ 1000
/-- where a compiled text stands -/
structure Cg (ce : CE) (Γ : Gam) (X : Cx) (cl : Lay) (W : WS) (lv : Nat) : Prop where
  N : X.N = ce.N
  sc : X.env.scope = ce.sc
  nd : X.N.Nodup
  hu : X.A.units + 64 < cLine
  asn : ∀ x, x ∈ ce.asn → Loc ce.sc x ∧ (X.fn x = true ∨ ce.sc.names.lookup x = some .local)
  nk : ∀ i, (∀ n j, ce.exc = some (n, j) → i ≠ j) → cl.nk i
  tk : Tk X W
  mod : ModOk ce.tb X.K X.mg cl.i cl.x Γ.sub
  out : ce.out = true → X.calm = true ∧ Room lv X.A ∧ cl.hx = none ∧ cl.hs = none ∧ ce.exc = none ∧ CallOk ce.tb X.prog X.w X.K X.mg X.base cl Γ.call lv
  top : ce.top = true → PassesOwn (model X.prog X.w) X.A X.env X.xe ∧ X.stack = X.env :: X.outer ∧ X.env.frame = some X.env.locals ∧ Γ.cur = none
  exc : ∀ n i, ce.exc = some (n, i) → ∃ (X0 : Cx) (a : Addr) (oe : Obj) (pn : List (Addr × Obj)) (cl0 : Lay) (x : Exn) (cls : Value) (d : Option Addr), X = X0.suite a ((a, oe) :: pn) ∧ cl = suiteL cl0 x cls d (some (i, a)) ∧ Γ.cur = some x ∧ Zc cls d oe ∧ (∃ vs, oe.data = .fields vs) ∧ W = W0 ∧ X.N[i]? = some n ∧ Vis ce.sc n ∧ nameB n = true
/-- a target's end: next, or nothing -/
def Nxt (r : RS) : Prop := match r with
  | .nx _ _ => True
  | .stuck => True
  | _ => False
theorem Nxt.plain {r : RS} (h : Nxt r) : Plain r := by cases r <;> first | trivial | exact h.elim
structure Good (F : Fns) : Prop where
  e : ∀ {ce Γ X cl W lv}, Cg ce Γ X cl W lv → ∀ {e u}, F.e ce e = some u → PEU X cl W e (evE Γ u)
  t : ∀ {ce Γ X cl W lv}, Cg ce Γ X cl W lv → ∀ {e u}, F.t ce e = some u → PTU X cl W e (evT Γ u)
  g : ∀ {ce Γ X cl W lv}, Cg ce Γ X cl W lv → ∀ {e u}, F.g ce e = some u → PGU X cl W e (tgSl u) (evTg Γ u) ∧ ∀ w σ S, Nxt (evTg Γ u w σ S)
  s : ∀ {ce Γ X cl W lv}, Cg ce Γ X cl W lv → ce.md ≠ .blk → ∀ {st u}, F.s ce st = some u → PSU X cl W st (evS Γ u)
theorem good_zero : Good Fns.zero := { e := fun _ _ _ h => (nomatch h), t := fun _ _ _ h => (nomatch h), g := fun _ _ _ h => (nomatch h), s := fun _ _ _ _ h => (nomatch h) }
def UEs.len : UEs → Nat
  | .nil => 0
  | .cons _ es => es.len + 1
theorem evEs_len {Γ : Gam} : ∀ {us : UEs} {σ : Sl} {S S' : Sx} {ws : List U}, evEs Γ us σ S = .ok ws S' → ws.length = us.len
  | .nil, σ, S, S', ws, h => by simp only [evEs] at h; cases h; rfl
  | .cons u us, σ, S, S', ws, h => by
    simp only [evEs] at h
    cases e1 : evE Γ u σ S with
    | ok v S1 =>
      rw [e1] at h
      simp only [R.bind_ok] at h
      cases e2 : evEs Γ us σ S1 with
      | ok vs S2 =>
        rw [e2] at h
        simp only [R.bind_ok] at h
        cases h
        simp [UEs.len, evEs_len e2]
      | exc x S2 => rw [e2] at h; cases h
      | stuck => rw [e2] at h; cases h
    | exc x S1 => rw [e1] at h; cases h
    | stuck => rw [e1] at h; cases h
theorem cEs_len {f : Expr → Option UE} : ∀ {es : List Expr} {us : UEs}, cEs f es = some us → us.len = es.length ∧ es.all (fun e => !starB e) = true
  | [], us, h => by cases h; exact ⟨rfl, rfl⟩
  | e :: es, us, h => by
    obtain ⟨hs, h⟩ := gd_some h
    obtain ⟨x, y, h1, h2, h3⟩ := o2_some h
    cases h3
    obtain ⟨k1, k2⟩ := cEs_len h2
    exact ⟨by simp [UEs.len, k1], by simpa [hs] using k2⟩
section
variable {ce : CE} {Γ : Gam} {X : Cx} {cl : Lay} {W : WS} {lv : Nat} {F : Fns}
theorem Cg.vis (g : Cg ce Γ X cl W lv) {x : Str} (h : Vis ce.sc x) : Vis X.env.scope x := by rw [g.sc]; exact h
theorem Cg.gl (g : Cg ce Γ X cl W lv) {x : Str} (h : glB ce x = true) : Gl X x ∧ (x == ("__debug__" : Str)) = false ∧ x ≠ "__name__" := by
  unfold glB at h
  simp only [Bool.and_eq_true, decide_eq_true_eq, Bool.not_eq_true'] at h
  refine ⟨?_, h.2.1, h.2.2⟩
  show X.env.scope.names.lookup x = _
  rw [g.sc]; exact h.1
theorem Cg.free (g : Cg ce Γ X cl W lv) {x : Str} (h : ce.tb.free.contains x = true) : X.mg x = none := g.mod.free x (List.contains_iff_mem.mp h)
theorem Cg.var (g : Cg ce Γ X cl W lv) {x : Str} {i : Nat} {pos : Pos} (h : cVar ce x = some i) : PEU X cl W (.Name x pos) (evE Γ (.var i)) := by
  obtain ⟨j, h1, h⟩ := o1_some h
  obtain ⟨h2, h⟩ := gd_some h
  cases h
  simp only [Bool.and_eq_true] at h2
  refine (peu_var (i := i) (by rw [g.N]; exact ixOf_ok h1) (g.vis (visB_ok h2.1)) (nameB_ok h2.2).1 (nameB_ok h2.2).2).cong fun σ S => ?_
  (simp only [evE]) <;> rfl
theorem cEs_ok {f : Expr → Option UE} (hf : ∀ {e u}, f e = some u → PEU X cl W e (evE Γ u)) : ∀ {es : List Expr} {us : UEs}, cEs f es = some us → PAU X cl W es (evEs Γ us)
  | [], us, h => by
    cases h
    have : (evEs Γ .nil) = fun _ S => .ok [] S := by funext σ S; simp only [evEs]
    rw [this]; exact pau_nil
  | e :: es, us, h => by
    obtain ⟨hs, h⟩ := gd_some h
    obtain ⟨x, y, h1, h2, h3⟩ := o2_some h
    cases h3
    have : (evEs Γ (.cons x y)) = fun σ S => (evE Γ x σ S).bind fun u S1 => (evEs Γ y σ S1).bind fun us S2 => .ok (u :: us) S2 := by funext σ S; simp only [evEs]
    rw [this]; exact pau_cons (by simpa using hs) (hf h1) (cEs_ok hf h2)
theorem cAnd_ok {f : Expr → Option UE} {pos : Pos} (hf : ∀ {e u}, f e = some u → PEU X cl W e (evE Γ u)) : ∀ {es : List Expr} {u : UE}, cAnd f es = some u → PEU X cl W (.BoolOp .And es pos) (evE Γ u)
  | [], u, h => by cases h
  | [a], u, h => peu_one (hf h)
  | a :: b :: r, u, h => by
    obtain ⟨x, y, h1, h2, h3⟩ := o2_some h
    cases h3
    exact (peu_and (hf h1) (cAnd_ok hf h2)).cong fun σ S => by (simp only [evE]) <;> rfl
theorem cOr_ok {f : Expr → Option UE} {pos : Pos} (hf : ∀ {e u}, f e = some u → PEU X cl W e (evE Γ u)) : ∀ {es : List Expr} {u : UE}, cOr f es = some u → PEU X cl W (.BoolOp .Or es pos) (evE Γ u)
  | [], u, h => by cases h
  | [a], u, h => peu_one (hf h)
  | a :: b :: r, u, h => by
    obtain ⟨x, y, h1, h2, h3⟩ := o2_some h
    cases h3
    exact (peu_or (hf h1) (cOr_ok hf h2)).cong fun σ S => by (simp only [evE]) <;> rfl
theorem PTU.cong {e : Expr} {f g : Sl → Sx → R Bool} (h : PTU X cl W e f) (q : ∀ σ S, f σ S = g σ S) : PTU X cl W e g := by
  have : f = g := by funext σ S; exact q σ S
  rw [← this]; exact h
theorem PWU.cong {e : Expr} {f g : Sl → Sx → R Bool} (h : PWU X cl W e f) (q : ∀ σ S, f σ S = g σ S) : PWU X cl W e g := by
  have : f = g := by funext σ S; exact q σ S
  rw [← this]; exact h
theorem cAndT_ok {f : Expr → Option UT} {pos : Pos} (hf : ∀ {e u}, f e = some u → PTU X cl W e (evT Γ u)) : ∀ {es : List Expr} {u : UT}, cAndT f es = some u → PWU X cl W (.BoolOp .And es pos) (evT Γ u)
  | [], u, h => by cases h
  | [a], u, h => pwu_one (hf h)
  | a :: b :: r, u, h => by
    obtain ⟨x, y, h1, h2, h3⟩ := o2_some h
    cases h3
    exact (pwu_and (hf h1) (cAndT_ok hf h2)).cong fun σ S => by (simp only [evT]) <;> rfl
theorem cOrT_ok {f : Expr → Option UT} {pos : Pos} (hf : ∀ {e u}, f e = some u → PTU X cl W e (evT Γ u)) : ∀ {es : List Expr} {u : UT}, cOrT f es = some u → PWU X cl W (.BoolOp .Or es pos) (evT Γ u)
  | [], u, h => by cases h
  | [a], u, h => pwu_one (hf h)
  | a :: b :: r, u, h => by
    obtain ⟨x, y, h1, h2, h3⟩ := o2_some h
    cases h3
    exact (pwu_or (hf h1) (cOrT_ok hf h2)).cong fun σ S => by (simp only [evT]) <;> rfl
theorem POU.cong {e : Option Expr} {f g : Sl → Sx → R (Option Int)} (h : POU X cl W e f) (q : ∀ σ S, f σ S = g σ S) : POU X cl W e g := by
  have : f = g := by funext σ S; exact q σ S
  rw [← this]; exact h
theorem cO_ok {f : Expr → Option UE} (hf : ∀ {e u}, f e = some u → PEU X cl W e (evE Γ u)) {o : Option Expr} {u : UO} (h : cO f o = some u) : POU X cl W o (evO Γ u) := by
  cases o with
  | none => cases h; exact pou_none.cong fun σ S => by (simp only [evO]) <;> rfl
  | some e =>
    obtain ⟨x, h1, h⟩ := o1_some h
    cases h
    exact (pou_some (hf h1)).cong fun σ S => by (simp only [evO]) <;> rfl
theorem step_t (G : Good F) (g : Cg ce Γ X cl W lv) {e : Expr} {u : UT} (h : stepT F ce e = some u) : PTU X cl W e (evT Γ u) := by
  unfold stepT at h
  split at h
  next =>
    obtain ⟨x, h1, h⟩ := o1_some h
    cases h
    exact (ptu_not (G.t g h1)).cong fun σ S => by (simp only [evT]) <;> rfl
  next => exact (cAndT_ok (fun h => G.t g h) h).pt
  next => exact (cOrT_ok (fun h => G.t g h) h).pt
  next =>
    obtain ⟨hs, h⟩ := gd_some h
    obtain ⟨x, y, h1, h2, h3⟩ := o2_some h
    cases h3
    exact (ptu_cmp g.hu (by simpa using hs) (G.e g h1) (G.e g h2)).cong fun σ S => by (simp only [evT, evE]) <;> rfl
  next =>
    obtain ⟨hs, h⟩ := gd_some h
    obtain ⟨x, h1, h⟩ := o1_some h
    cases h
    exact (ptu_val (G.e g h1) (by simpa using hs)).cong fun σ S => by (simp only [evT]) <;> rfl
end
end Ev

set_option Elab.async false
set_option linter.all false
set_option autoImplicit false
set_option maxHeartbeats 4000000
/-! Compiling is sound: calls, comprehensions, all expressions. -/
namespace Ev
open PySem PySem.Spec PyProof.Rows L2
theorem relS_lookup {sc : Scope} {x : Str} {k : NameKind} (hk : k ≠ .free) : ∀ {l : List (Str × NameKind)}, l.lookup x = some k →
    (l.map fun (n, k) => if (k == .free && sc.kind == .function && sc.names.lookup n == some .cell) then (n, NameKind.cell) else (n, k)).lookup x = some k
  | [], h => by cases h
  | (n, k') :: r, h => by
    show List.lookup x ((if (k' == .free && sc.kind == .function && sc.names.lookup n == some .cell) = true then (n, NameKind.cell) else (n, k')) :: _) = _
    cases e : (x == n) with
    | true =>
      have hk' : k' = k := by simpa [List.lookup, e] using h
      subst hk'
      have hf : (k' == NameKind.free) = false := by cases k' <;> first | rfl | exact absurd rfl hk
      rw [if_neg (by simp [hf])]
      simp only [List.lookup, e]
    | false =>
      have h' : r.lookup x = some k := by simpa [List.lookup, e] using h
      have ih := relS_lookup (sc := sc) hk h'
      by_cases c : (k' == .free && sc.kind == .function && sc.names.lookup n == some .cell) = true
      · rw [if_pos c]
        simp only [List.lookup_cons, e]
        exact ih
      · rw [if_neg c]
        simp only [List.lookup_cons, e]
        exact ih
section
variable {ce : CE} {Γ : Gam} {X : Cx} {cl : Lay} {W : WS} {lv : Nat} {F : Fns} {pos : Pos}
theorem PIU.cong {tg e : Expr} {f g : Sl → Sx → R Wk} (h : PIU X cl W tg e f) (q : ∀ σ S, f σ S = g σ S) : PIU X cl W tg e g := by
  have : f = g := by funext σ S; exact q σ S
  rw [← this]; exact h
/-- into a comprehension -/
theorem Cg.into (g : Cg ce Γ X cl W lv) (ho : ce.out = true) {scope : Scope} {own : List (Str × Nat)} (hb : BlkOk ce.N ce.sc scope own) (s : Shared) (H : Hp) (C : Addr) (cls : List (Str × Addr)) (fp : List Addr) :
    Cg (ce.into scope) Γ (X.blk s H scope (compEnvC scope cls C X.env) fp) cl W0 lv := by
  obtain ⟨o1, o2, o3, o4, o5, o6⟩ := g.out ho
  refine { N := g.N, sc := ?_, nd := g.nd, hu := g.hu, asn := fun x hx => ?_, nk := fun i _ => nk_none o4, tk := tk_blk, mod := g.mod, out := fun _ => ⟨o1, o2, o3, o4, o5, o6⟩, top := fun h => (nomatch h), exc := fun n i h => ?_ }
  · show relS scope X.env.scope = relS scope ce.sc
    rw [g.sc]
  · obtain ⟨y, hy, rfl⟩ := List.mem_map.mp hx
    obtain ⟨hy, hk⟩ := List.mem_filter.mp hy
    have hu := hb.uniq y hy
    simp only [Bool.or_eq_true, decide_eq_true_eq] at hk
    rcases hk with hk | hk
    · rw [hk] at hu
      have := relS_lookup (sc := ce.sc) (by decide) hu
      exact ⟨.inl this, .inr this⟩
    · rw [hk] at hu
      have := relS_lookup (sc := ce.sc) (by decide) hu
      refine ⟨.inr this, .inl ?_⟩
      show (scope.names.lookup y.1 == some .cell) = true
      rw [hu]; rfl
  · have h' : ce.exc = some (n, i) := h
    rw [o5] at h'; cases h'
theorem tupE_ok {e : Expr} (h : tupE e = true) : ∃ es k p, e = .Tuple es k p := by
  cases e <;> first | (cases h; done) | exact ⟨_, _, _, rfl⟩
theorem cI1_ok (G : Good F) (g : Cg ce Γ X cl W lv) {tg a : Expr} {x : Str} {p q : Pos} {u : UI} (hg : Gl X x) (hm : X.mg x = none) (h : cI1 F ce tg x a = some u) : PIU X cl W tg (.Call (.Name x p) [a] [] q) (evI Γ u) := by
  unfold cI1 at h
  obtain ⟨hs, h⟩ := gd_some h
  have hs : starB a = false := by simpa using hs
  split at h
  next e1 =>
    rw [e1] at hg hm ⊢
    obtain ⟨y, h1, h⟩ := o1_some h
    cases h
    exact (piu_rng1 hg hm hs (G.e g h1)).cong fun σ S => by (simp only [evI]) <;> rfl
  next =>
    split at h
    next e1 =>
      rw [e1] at hg hm ⊢
      obtain ⟨ht, h⟩ := gd_some h
      obtain ⟨es, k, p', rfl⟩ := tupE_ok ht
      obtain ⟨y, h1, h⟩ := o1_some h
      cases h
      exact (piu_enum hg hm hs (G.e g h1)).cong fun σ S => by (simp only [evI]) <;> rfl
    next =>
      split at h
      next e1 =>
        rw [e1] at hg hm ⊢
        obtain ⟨y, h1, h⟩ := o1_some h
        cases h
        exact (piu_rev hg hm hs (G.e g h1)).cong fun σ S => by (simp only [evI]) <;> rfl
      next => cases h
theorem cI2_ok (G : Good F) (g : Cg ce Γ X cl W lv) {tg a b : Expr} {x : Str} {p q : Pos} {u : UI} (hg : Gl X x) (hm : X.mg x = none) (h : cI2 F ce tg x a b = some u) : PIU X cl W tg (.Call (.Name x p) [a, b] [] q) (evI Γ u) := by
  unfold cI2 at h
  obtain ⟨hs, h⟩ := gd_some h
  simp only [Bool.and_eq_true, Bool.not_eq_true'] at hs
  split at h
  next e1 =>
    rw [e1] at hg hm ⊢
    obtain ⟨y, z, h1, h2, h⟩ := o2_some h
    cases h
    exact (piu_rng2 hg hm hs.1 hs.2 (G.e g h1) (G.e g h2)).cong fun σ S => by (simp only [evI]) <;> rfl
  next =>
    split at h
    next e1 =>
      rw [e1] at hg hm ⊢
      obtain ⟨ht, h⟩ := gd_some h
      obtain ⟨es, k, p', rfl⟩ := tupE_ok ht
      obtain ⟨y, z, h1, h2, h⟩ := o2_some h
      cases h
      exact (piu_zip hg hm hs.1 hs.2 (G.e g h1) (G.e g h2)).cong fun σ S => by (simp only [evI]) <;> rfl
    next => cases h
theorem cI_ok (G : Good F) (g : Cg ce Γ X cl W lv) {tg e : Expr} {u : UI} (h : cI F ce tg e = some u) : PIU X cl W tg e (evI Γ u) := by
  unfold cI at h
  split at h
  next =>
    obtain ⟨h0, h⟩ := gd_some h
    simp only [Bool.and_eq_true] at h0
    exact cI1_ok G g (g.gl h0.1).1 (g.free h0.2) h
  next =>
    obtain ⟨h0, h⟩ := gd_some h
    simp only [Bool.and_eq_true] at h0
    exact cI2_ok G g (g.gl h0.1).1 (g.free h0.2) h
  next => cases h
theorem cIt_ok (G : Good F) (g : Cg ce Γ X cl W lv) {tg e : Expr} {u : UI} (h : cIt F ce tg e = some u) : PIU X cl W tg e (evI Γ u) := by
  unfold cIt at h
  split at h
  next e1 => cases h; exact cI_ok G g e1
  next =>
    obtain ⟨y, h1, h⟩ := o1_some h
    cases h
    exact (piu_seq (G.e g h1)).cong fun σ S => by (simp only [evI]) <;> rfl
theorem cTs_ok (G : Good F) (g : Cg ce Γ X cl W lv) {es : List Expr} {u : UTs} (h : cTs F ce es = some u) : PTsU X cl W es (evTs Γ u) := by
  unfold cTs at h
  split at h
  next =>
    cases h
    have : evTs Γ .nil = fun _ S => .ok true S := by funext σ S; simp only [evTs]
    rw [this]; exact ptsu_nil
  next =>
    obtain ⟨y, h1, h⟩ := o1_some h
    cases h
    have : evTs Γ (.cons y .nil) = evT Γ y := by
      funext σ S
      simp only [evTs]
      cases evT Γ y σ S with
      | ok b S1 => cases b <;> rfl
      | exc x S1 => rfl
      | stuck => rfl
    rw [this]; exact ptsu_one (G.t g h1)
  next => cases h
/-- what a comprehension's compiling tells -/
theorem cLc_ok (G : Good F) (g : Cg ce Γ X cl W lv) {elt tg iter : Expr} {ifs : List Expr} {scope : Scope} {u : UE} (h : cLc F ce elt tg iter ifs scope = some u) :
    ∃ own sl fi ft fc fe, LcOk X cl W tg iter ifs elt scope own sl fi ft fc fe ∧ evE Γ u = lcF (own.map (·.2)) fi ft fc fe := by
  unfold cLc at h
  obtain ⟨h0, h⟩ := gd_some h
  simp only [Bool.and_eq_true, Bool.not_eq_true'] at h0
  obtain ⟨ho, hb, hs⟩ := h0
  obtain ⟨it, tgu, h1, h2, h⟩ := o2_some h
  obtain ⟨hsl, h⟩ := gd_some h
  obtain ⟨cs, ue, h3, h4, h⟩ := o2_some h
  cases h
  obtain ⟨o1, o2, o3, o4, o5, o6⟩ := g.out ho
  have bk := blkB_ok hb
  refine ⟨ownOf ce.N scope, tgSl tgu, evI Γ it, evTg Γ tgu, evTs Γ cs, evE Γ ue, { calm := o1, hk := o4, nd := g.nd, set := hs, i := cIt_ok G g h1, ok := by rw [g.N, g.sc]; exact bk, hsl := fun j hj => ?_, g := fun s H C cls fp => (G.g (g.into ho bk s H C cls fp) h2).1, t := fun s H C cls fp => cTs_ok G (g.into ho bk s H C cls fp) h3, e := fun s H C cls fp => G.e (g.into ho bk s H C cls fp) h4 }, ?_⟩
  · exact List.contains_iff_mem.mp (List.all_eq_true.mp hsl j hj)
  · funext σ S
    simp only [evE, lcF]
    rfl
theorem cCall_ok (G : Good F) (g : Cg ce Γ X cl W lv) {x : Str} {p : Pos} {es : List Expr} {u : UE} (h : cCall F ce x es = some u) : PEU X cl W (.Call (.Name x p) es [] pos) (evE Γ u) := by
  unfold cCall at h
  obtain ⟨h0, h⟩ := gd_some h
  obtain ⟨hg, hdb, hn⟩ := g.gl h0
  split at h
  next key hk =>
    obtain ⟨ho, h⟩ := gd_some h
    obtain ⟨us, h1, h⟩ := o1_some h
    cases h
    obtain ⟨o1, o2, o3, o4, o5, C⟩ := g.out ho
    obtain ⟨k, d, f, F', D, hc, hm, hl⟩ := C.defs x key hk
    obtain ⟨k1, k2⟩ := cEs_len h1
    have hp := cEs_ok (fun h => G.e g h) h1
    cases es with
    | nil =>
      cases h1
      exact (peu_call0 hc D (o2.mono hl) g.tk hg hm hdb).cong fun σ S => by (simp only [evE, evEs, R.bind_ok]) <;> rfl
    | cons e es => exact (peu_call hc D (o2.mono hl) g.tk hg hm hdb k2 hp).cong fun σ S => by (simp only [evE]) <;> rfl
  next hk =>
    split at h
    next c key hk2 =>
      obtain ⟨ho, h⟩ := gd_some h
      obtain ⟨us, h1, h⟩ := o1_some h
      cases h
      obtain ⟨o1, o2, o3, o4, o5, C⟩ := g.out ho
      obtain ⟨k, d, f, F', A, D, hc, M, hcl, hm, hl⟩ := C.cls x c key hk2
      obtain ⟨k1, k2⟩ := cEs_len h1
      have hp := cEs_ok (fun h => G.e g h) h1
      cases es with
      | nil =>
        cases h1
        exact (peu_mk0 hc D M hcl (o2.mono hl) g.tk hg hm hdb).cong fun σ S => by (simp only [evE, evEs, R.bind_ok]) <;> rfl
      | cons e es => exact (peu_mk hc D M hcl (o2.mono hl) g.tk hg hm hdb k2 hp).cong fun σ S => by (simp only [evE]) <;> rfl
    next hk2 =>
      obtain ⟨h2, h⟩ := gd_some h
      simp only [Bool.and_eq_true, Bool.not_eq_true'] at h2
      have hm := g.free h2.1
      cases es with
      | nil => cases h2.2
      | cons e es =>
        split at h
        next b hb =>
          obtain ⟨us, h1, h⟩ := o1_some h
          cases h
          obtain ⟨k1, k2⟩ := cEs_len h1
          have hp := cEs_ok (fun h => G.e g h) h1
          unfold bcOf at hb
          split at hb
          next e1 =>
            rw [e1] at hg hm hn hdb ⊢; cases hb
            obtain ⟨r, c1, c2⟩ := rule_len (X := X) (cl := cl)
            exact (peu_bB c1 c2 hg hm (by decide +kernel) hn hdb k2 hp).cong fun σ S => by (simp only [evE]) <;> rfl
          next =>
            split at hb
            next e1 =>
              rw [e1] at hg hm hn hdb ⊢; cases hb
              obtain ⟨r, c1, c2⟩ := rule_abs (X := X) (cl := cl)
              exact (peu_bB c1 c2 hg hm (by decide +kernel) hn hdb k2 hp).cong fun σ S => by (simp only [evE]) <;> rfl
            next =>
              split at hb
              next e1 =>
                rw [e1] at hg hm hn hdb ⊢; cases hb
                obtain ⟨r, c1, c2⟩ := rule_int (X := X) (cl := cl)
                exact (peu_bT c1 c2 hg hm (by decide +kernel) hn hdb k2 hp).cong fun σ S => by (simp only [evE]) <;> rfl
              next =>
                split at hb
                next e1 =>
                  rw [e1] at hg hm hn hdb ⊢; cases hb
                  obtain ⟨r, c1, c2⟩ := rule_list (X := X) (cl := cl)
                  exact (peu_bT c1 c2 hg hm (by decide +kernel) hn hdb k2 hp).cong fun σ S => by (simp only [evE]) <;> rfl
                next => cases hb
        next hb =>
          obtain ⟨ho, h⟩ := gd_some h
          obtain ⟨b, us, hb2, h1, h⟩ := o2_some h
          cases h
          obtain ⟨o1, o2, o3, o4, o5, C⟩ := g.out ho
          obtain ⟨k1, k2⟩ := cEs_len h1
          have hp := cEs_ok (fun h => G.e g h) h1
          unfold bcOf2 at hb2
          split at hb2
          next e1 =>
            rw [e1] at hg hm hn hdb ⊢; cases hb2
            obtain ⟨r, c1, c2⟩ := rule_sum (X := X) (cl := cl) o1
            exact (peu_bB c1 c2 hg hm (by decide +kernel) hn hdb k2 hp).cong fun σ S => by (simp only [evE]) <;> rfl
          next =>
            split at hb2
            next e1 =>
              rw [e1] at hg hm hn hdb ⊢; cases hb2
              obtain ⟨r, c1, c2⟩ := rule_all (X := X) (cl := cl) o1
              exact (peu_bB c1 c2 hg hm (by decide +kernel) hn hdb k2 hp).cong fun σ S => by (simp only [evE]) <;> rfl
            next =>
              split at hb2
              next e1 =>
                rw [e1] at hg hm hn hdb ⊢; cases hb2
                obtain ⟨r, c1, c2⟩ := rule_any (X := X) (cl := cl) o1
                exact (peu_bB c1 c2 hg hm (by decide +kernel) hn hdb k2 hp).cong fun σ S => by (simp only [evE]) <;> rfl
              next => cases hb2
theorem excName_ok {e : Expr} (h : excName ce e = true) : ∃ n i p, ce.exc = some (n, i) ∧ e = .Name n p := by
  unfold excName at h
  split at h
  next x p n i e1 =>
    cases of_decide_eq_true h
    exact ⟨_, _, _, e1, rfl⟩
  next => cases h
theorem tyOf_ok {x : Str} {t : String} (h : tyOf x = some t) : (t = "bool" ∨ t = "int" ∨ t = "str" ∨ t = "tuple" ∨ t = "list" ∨ t = "dict") ∧ bootBuiltins x = some (.type t) := by
  unfold tyOf at h
  split at h
  next e1 => subst e1; cases h; exact ⟨by simp, by decide +kernel⟩
  next =>
    split at h
    next e1 => subst e1; cases h; exact ⟨by simp, by decide +kernel⟩
    next =>
      split at h
      next e1 => subst e1; cases h; exact ⟨by simp, by decide +kernel⟩
      next =>
        split at h
        next e1 => subst e1; cases h; exact ⟨by simp, by decide +kernel⟩
        next =>
          split at h
          next e1 => subst e1; cases h; exact ⟨by simp, by decide +kernel⟩
          next =>
            split at h
            next e1 => subst e1; cases h; exact ⟨by simp, by decide +kernel⟩
            next => cases h
theorem cIsi_ok (G : Good F) (g : Cg ce Γ X cl W lv) {a : Expr} {y : Str} {p q : Pos} {u : UE} (h : cIsi F ce a y = some u) : PEU X cl W (.Call (.Name "isinstance" p) [a, .Name y q] [] pos) (evE Γ u) := by
  unfold cIsi at h
  have hh := gd_some h
  clear h
  obtain ⟨h0, h⟩ := hh
  simp only [Bool.and_eq_true] at h0
  obtain ⟨hg, hdb, hn⟩ := g.gl h0.1
  have hm := g.free h0.2
  split at h
  next e1 =>
    obtain ⟨n, i, np, hx, rfl⟩ := excName_ok e1
    obtain ⟨h2, h⟩ := gd_some h
    obtain ⟨cn, hcn, h⟩ := o1_some h
    cases h
    obtain ⟨hgy, hdy, hny⟩ := g.gl h2
    obtain ⟨c, hc, rc, hk⟩ := g.mod.cat y cn hcn
    obtain ⟨X0, ad, oe, pn, cl0, x, cls, d, rfl, rfl, hcur, hz, hf, rfl, hNi, hvis, hnb⟩ := g.exc n i hx
    refine (peh_isa (X := X0) (cl := cl0) (a := ad) (c := c) (x := x) (sub := fun c' => Γ.sub c' cn) (fun c' C e => ⟨(hk c' C e).2.1, (hk c' C e).2.2⟩) hNi (g.vis hvis) (nameB_ok hnb).1 (nameB_ok hnb).2 hz hf hg hm ⟨hgy, hdy, ?_⟩ rc).cong fun σ S => ?_
    · exact hc.imp id fun ⟨a, b⟩ => ⟨a, b, hny⟩
    · simp only [evE, hcur]
      rfl
  next e1 =>
    obtain ⟨h2, h⟩ := gd_some h
    simp only [Bool.and_eq_true, Bool.not_eq_true'] at h2
    obtain ⟨hgy, hdy, hny⟩ := g.gl h2.1
    obtain ⟨t, v, h3, h4, h⟩ := o2_some h
    cases h
    obtain ⟨k1, k2⟩ := tyOf_ok h3
    exact (peu_isty k1 hg hm hgy (g.free h2.2.1) k2 hny hdy h2.2.2 (G.e g h4)).cong fun σ S => by (simp only [evE]) <;> rfl
theorem conU_ok {c : Const} {u : U} {j : Nat} (h : conU c = some u) : PEU X cl W (.Constant c j pos) (evE Γ (.con u)) := by
  cases c <;> simp only [conU] at h <;> cases h
  · exact (peu_con pe_non fun _ _ => .non).cong fun σ S => by (simp only [evE]) <;> rfl
  · exact (peu_con pe_bl fun _ _ => .bl _).cong fun σ S => by (simp only [evE]) <;> rfl
  · exact (peu_con pe_int fun _ _ => .int _).cong fun σ S => by (simp only [evE]) <;> rfl
  · exact (peu_con pe_str fun _ _ => .str _).cong fun σ S => by (simp only [evE]) <;> rfl
theorem cAttr_ok (G : Good F) (g : Cg ce Γ X cl W lv) {o : Expr} {x : Str} {f : String} {u : UE} (hf : ce.tb.flds.lookup x = some f) (h : (match excName ce o with
    | true => some (.xattr f)
    | false => gd (!call0B o) (o1 (F.e ce o) fun u => some (.attr u f))) = some u) : PEU X cl W (.Attribute o x pos) (evE Γ u) := by
  have ex := g.mod.flds x f hf
  split at h
  next e1 =>
    cases h
    obtain ⟨n, i, np, hx, rfl⟩ := excName_ok e1
    obtain ⟨X0, ad, oe, pn, cl0, e, cls, d, rfl, rfl, hcur, hz, hfl, rfl, hNi, hvis, hnb⟩ := g.exc n i hx
    subst ex
    refine (peh_attr (X := X0) (cl := cl0) (a := ad) (x := e) (f := f) (fun c C hc => ⟨(g.mod.xat c C hc).1, (g.mod.xat c C hc).2 _ f hf⟩) hNi (g.vis hvis) (nameB_ok hnb).1 (nameB_ok hnb).2 hz hfl).cong fun σ S => ?_
    simp only [evE, hcur]
    rfl
  next e1 =>
    obtain ⟨h2, h⟩ := gd_some h
    obtain ⟨y, h1, h⟩ := o1_some h
    cases h
    exact (peu_attr (fields := [f]) ex (fun c C hc => ⟨(g.mod.cls c C hc).1, fun f' hf' => by cases List.mem_singleton.mp hf'; exact (g.mod.cls c C hc).2 x f hf⟩) (by simp) (by simpa using h2) (G.e g h1)).cong fun σ S => by (simp only [evE]) <;> rfl
theorem step_e (G : Good F) (g : Cg ce Γ X cl W lv) {e : Expr} {u : UE} (h : stepE F ce e = some u) : PEU X cl W e (evE Γ u) := by
  unfold stepE at h
  split at h
  next => obtain ⟨i, h1, h⟩ := o1_some h; cases h; exact g.var h1
  next => obtain ⟨i, h1, h⟩ := o1_some h; cases h; exact conU_ok h1
  next => obtain ⟨x, y, h1, h2, h⟩ := o2_some h; cases h; exact (peu_bin (G.e g h1) (G.e g h2)).cong fun σ S => by (simp only [evE]) <;> rfl
  next => obtain ⟨x, h1, h⟩ := o1_some h; cases h; exact (peu_neg (G.e g h1)).cong fun σ S => by (simp only [evE]) <;> rfl
  next => obtain ⟨x, h1, h⟩ := o1_some h; cases h; exact (peu_not (G.e g h1)).cong fun σ S => by (simp only [evE]) <;> rfl
  next => exact cAnd_ok (fun h => G.e g h) h
  next => exact cOr_ok (fun h => G.e g h) h
  next =>
    obtain ⟨hs, h⟩ := gd_some h
    obtain ⟨x, y, h1, h2, h⟩ := o2_some h; cases h
    exact (peu_cmp g.hu (by simpa using hs) (G.e g h1) (G.e g h2)).cong fun σ S => by (simp only [evE]) <;> rfl
  next =>
    obtain ⟨t, h0, h⟩ := o1_some h
    obtain ⟨x, y, h1, h2, h⟩ := o2_some h; cases h
    exact (peu_ife (G.t g h0) (G.e g h1) (G.e g h2)).cong fun σ S => by (simp only [evE]) <;> rfl
  next => obtain ⟨x, h1, h⟩ := o1_some h; cases h; exact (peu_tup (cEs_ok (fun h => G.e g h) h1)).cong fun σ S => by (simp only [evE]) <;> rfl
  next => obtain ⟨x, h1, h⟩ := o1_some h; cases h; exact (peu_lst (cEs_ok (fun h => G.e g h) h1)).cong fun σ S => by (simp only [evE]) <;> rfl
  next => cases h; exact peu_dnew.cong fun σ S => by (simp only [evE]) <;> rfl
  next =>
    obtain ⟨x, h1, h⟩ := o1_some h
    obtain ⟨y, z, h2, h3, h⟩ := o2_some h; cases h
    exact (peu_slc (G.e g h1) (cO_ok (fun h => G.e g h) h2) (cO_ok (fun h => G.e g h) h3)).cong fun σ S => by (simp only [evE]) <;> rfl
  next =>
    obtain ⟨hs, h⟩ := gd_some h
    obtain ⟨x, y, h1, h2, h⟩ := o2_some h; cases h
    exact (peu_sub (by have := g.hu; omega) (by simpa using hs) (G.e g h1) (G.e g h2)).cong fun σ S => by (simp only [evE]) <;> rfl
  next =>
    obtain ⟨f, h1, h⟩ := o1_some h
    exact cAttr_ok G g h1 h
  next =>
    split at h
    next =>
      split at h
      next e1 => rw [e1]; exact cIsi_ok G g h
      next => exact cCall_ok G g h
    next => exact cCall_ok G g h
  next =>
    obtain ⟨own, sl, fi, ft, fc, fe, L, e1⟩ := cLc_ok G g h
    rw [e1]
    exact peu_lc L
  next => cases h
end
end Ev

set_option Elab.async false
set_option linter.all false
set_option autoImplicit false
set_option maxHeartbeats 4000000
/-! Compiling is sound: targets, statements. -/
namespace Ev
open PySem PySem.Spec PyProof.Rows L2
section
variable {ce : CE} {Γ : Gam} {X : Cx} {cl : Lay} {W : WS} {lv : Nat} {F : Fns} {pos : Pos}
theorem cAsn_ok (g : Cg ce Γ X cl W lv) {x : Str} {i : Nat} (h : cAsn ce x = some i) : X.N[i]? = some x ∧ Loc X.env.scope x ∧ (X.fn x = true ∨ X.env.scope.names.lookup x = some .local) ∧ cl.nk i := by
  obtain ⟨j, h1, h2⟩ := o1_some h
  obtain ⟨h3, h4⟩ := gd_some h2
  cases h4
  simp only [Bool.and_eq_true] at h3
  obtain ⟨k1, k2⟩ := g.asn x (List.contains_iff_mem.mp h3.1)
  refine ⟨by rw [g.N]; exact ixOf_ok h1, by rw [g.sc]; exact k1, by rw [g.sc]; exact k2, g.nk i fun n j e => ?_⟩
  have h5 := h3.2
  rw [e] at h5
  simp only [Bool.not_eq_true', decide_eq_false_iff_not] at h5
  exact h5
theorem PGU.cong {tg : Expr} {sl : List Nat} {f g : Ft} (h : PGU X cl W tg sl f) (q : ∀ u σ S, f u σ S = g u σ S) : PGU X cl W tg sl g := by
  have : f = g := by funext u σ S; exact q u σ S
  rw [← this]; exact h
theorem PSU.cong {st : Stmt} {f g : Fs} (h : PSU X cl W st f) (q : ∀ σ S, f σ S = g σ S) : PSU X cl W st g := by
  have : f = g := by funext σ S; exact q σ S
  rw [← this]; exact h
theorem cGs_ok (G : Good F) (g : Cg ce Γ X cl W lv) : ∀ {es : List Expr} {us : UTgs}, cGs (F.g ce) es = some us →
    PGsU X cl W es (tgsSl us) (evTgs Γ us) ∧ (∀ ws σ S, Nxt (evTgs Γ us ws σ S)) ∧ (∀ ws σ S, ws.length ≠ es.length → evTgs Γ us ws σ S = .stuck) ∧ es.all (fun e => !starB e) = true
  | [], us, h => by
    cases h
    have e1 : evTgs Γ .nil = fun us σ S => match us with | [] => .nx σ S | _ => .stuck := by
      funext us σ S
      cases us <;> simp only [evTgs]
    refine ⟨?_, fun ws σ S => ?_, fun ws σ S hl => ?_, rfl⟩
    · rw [e1]; exact pgsu_nil
    · rw [e1]; cases ws <;> trivial
    · rw [e1]
      cases ws with
      | nil => exact absurd rfl hl
      | cons _ _ => rfl
  | e :: es, us, h => by
    obtain ⟨hs, h2⟩ := gd_some h
    obtain ⟨x, y, h3, h4, h5⟩ := o2_some h2
    cases h5
    obtain ⟨g1, g2⟩ := G.g g h3
    obtain ⟨i1, i2, i3, i4⟩ := cGs_ok G g h4
    have e1 : evTgs Γ (.cons x y) = fun us σ S => match us with | u :: us => (evTg Γ x u σ S).next fun σ1 S1 => evTgs Γ y us σ1 S1 | _ => .stuck := by
      funext us σ S
      cases us <;> simp only [evTgs]
    refine ⟨?_, fun ws σ S => ?_, fun ws σ S hl => ?_, by simpa [hs] using i4⟩
    · rw [e1]; exact pgsu_cons (by simpa using hs) g1 i1
    · rw [e1]
      cases ws with
      | nil => trivial
      | cons w ws =>
        dsimp only
        have := g2 w σ S
        cases er : evTg Γ x w σ S with
        | nx σ1 S1 => exact i2 ws σ1 S1
        | stuck => trivial
        | _ => rw [er] at this; exact this.elim
    · rw [e1]
      cases ws with
      | nil => rfl
      | cons w ws =>
        dsimp only
        have := g2 w σ S
        cases er : evTg Γ x w σ S with
        | nx σ1 S1 => exact i3 ws σ1 S1 fun z => hl (by simp [z])
        | stuck => rfl
        | _ => rw [er] at this; exact this.elim
theorem step_g (G : Good F) (g : Cg ce Γ X cl W lv) {e : Expr} {u : UTg} (h : stepG F ce e = some u) : PGU X cl W e (tgSl u) (evTg Γ u) ∧ ∀ w σ S, Nxt (evTg Γ u w σ S) := by
  unfold stepG at h
  split at h
  next =>
    obtain ⟨i, h1, h2⟩ := o1_some h
    cases h2
    obtain ⟨k1, k2, k3, k4⟩ := cAsn_ok g h1
    refine ⟨(pgu_name g.nd k1 k2 k3 k4).cong fun u σ S => by (simp only [evTg]), fun w σ S => ?_⟩
    simp only [evTg]; trivial
  next es k p =>
    obtain ⟨ho, h1⟩ := gd_some h
    obtain ⟨us, h2, h3⟩ := o1_some h1
    cases h3
    obtain ⟨i1, i2, i3, i4⟩ := cGs_ok G g h2
    refine ⟨(pgu_tup (g.out ho).1 i4 (fun us σ S hl => .inl (i3 us σ S hl)) i1).cong fun u σ S => ?_, fun w σ S => ?_⟩
    · simp only [evTg]
      cases u <;> first | rfl | skip
      dsimp only
      split
      · rfl
      · exact (i3 _ _ _ ‹_›).symm
    · simp only [evTg]
      cases w <;> first | trivial | exact i2 _ _ _
  next => cases h
theorem cSs_ok {f : Stmt → Option US} (hf : ∀ {st u}, f st = some u → PSU X cl W st (evS Γ u)) : ∀ {l : List Stmt} {us : USs}, cSs f l = some us → PSsU X cl W l (evSs Γ us)
  | [], us, h => by
    cases h
    have : evSs Γ .nil = fun σ S => .nx σ S := by funext σ S; simp only [evSs]
    rw [this]; exact pssu_nil
  | s :: l, us, h => by
    obtain ⟨x, y, h1, h2, h3⟩ := o2_some h
    cases h3
    have : evSs Γ (.cons x y) = fun σ S => (evS Γ x σ S).next (evSs Γ y) := by funext σ S; simp only [evSs]
    rw [this]; exact pssu_cons (hf h1) (cSs_ok hf h2)
theorem tk_suite {a : Addr} {pn : List (Addr × Obj)} : Tk (X.suite a pn) W0 :=
  ⟨fun u s' ⟨_, _, _, _, _, _, _, _, _, _, _, _, _, _, _, _, w⟩ => w, fun u s' ⟨_, _, _, _, _, _, _, _, _, _, _, _, _, _, _, _, w⟩ => w⟩
/-- into an except suite -/
theorem Cg.suite (g : Cg ce Γ X cl W lv) (e : Exn) (a : Addr) (oe : Obj) (cls : Value) (d : Option Addr) (pn : List (Addr × Obj)) (hz : Zc cls d oe) (hf : ∃ vs, oe.data = .fields vs) (x : Option (Str × Nat)) (hx : ∀ n i, x = some (n, i) → X.N[i]? = some n ∧ Vis ce.sc n ∧ nameB n = true) :
    Cg { ce with exc := x, md := .suite } { Γ with cur := some e } (X.suite a ((a, oe) :: pn)) (suiteL cl e cls d (x.map fun p => (p.2, a))) W0 lv := by
  refine { N := g.N, sc := g.sc, nd := g.nd, hu := g.hu, asn := g.asn, nk := fun i hi b hb => ?_, tk := tk_suite, mod := g.mod, out := fun h => (nomatch h), top := fun h => (nomatch h), exc := fun n i h => ?_ }
  · cases x with
    | none => cases hb
    | some p =>
      have : (p.2, a) = (i, b) := Option.some.inj hb
      cases this
      exact hi p.1 p.2 rfl rfl
  · have h' : x = some (n, i) := h
    subst h'
    obtain ⟨k1, k2, k3⟩ := hx n i rfl
    exact ⟨X, a, oe, pn, cl, e, cls, d, rfl, rfl, rfl, hz, hf, rfl, k1, k2, k3⟩
theorem Cg.names (g : Cg ce Γ X cl W lv) {x : Str} {cn : String} (h0 : glB ce x = true) (h : ce.tb.cat.lookup x = some cn) : ∃ c, Names X x c ∧ ∀ c' C, cl.x c' = some C → PySem.W.exmOne X.K (.ref C) c = some (Γ.sub c' cn) := by
  obtain ⟨hg, hdb, hn⟩ := g.gl h0
  obtain ⟨c, hc, _, hk⟩ := g.mod.cat x cn h
  exact ⟨c, ⟨hg, hdb, hc.imp id fun ⟨a, b⟩ => ⟨a, b, hn⟩⟩, fun c' C e => (hk c' C e).1⟩
theorem cH_ok (G : Good F) (g : Cg ce Γ X cl W lv) : ∀ {hs : List ExceptHandler} {u : UHs}, cH F ce hs = some u → ∃ cs l, HdsV X cl Γ.sub hs cs l ∧ ∀ e σ S, evH Γ u e σ S = evHs Γ.sub l e σ S
  | [], u, h => by
    simp only [cH] at h
    cases h
    exact ⟨[], [], .nil, fun e σ S => by simp only [evH, evHs]⟩
  | .ExceptHandler (some (.Name x _)) none (b₀ :: b) _ :: hs, u, h => by
    simp only [cH] at h
    obtain ⟨h0, h1⟩ := gd_some h
    obtain ⟨c, us, h2, h3, h4⟩ := o2_some h1
    obtain ⟨v, h5, h6⟩ := o1_some h4
    cases h6
    obtain ⟨cs, l, i1, i2⟩ := cH_ok G g h5
    obtain ⟨cv, n1, n2⟩ := g.names h0 h2
    refine ⟨cv :: cs, (c, none, fun e => evSs { Γ with cur := some e } us) :: l, .cons n1 n2 (.inl ⟨rfl, rfl⟩) (fun e a oe cls d pn hz hf => ?_) i1, fun e σ S => ?_⟩
    · exact cSs_ok (fun h => G.s (g.suite e a oe cls d pn hz hf none fun n i h => (nomatch h)) (fun z => nomatch z) h) h3
    · simp only [evH, evHs, i2]
  | .ExceptHandler (some (.Name x _)) (some n) (b₀ :: b) _ :: hs, u, h => by
    simp only [cH] at h
    obtain ⟨h0, h1⟩ := gd_some h
    simp only [Bool.and_eq_true, decide_eq_true_eq] at h0
    obtain ⟨c, i, h2, h3, h4⟩ := o2_some h1
    obtain ⟨us, v, h5, h6, h7⟩ := o2_some h4
    cases h7
    obtain ⟨cs, l, i1, i2⟩ := cH_ok G g h6
    obtain ⟨cv, n1, n2⟩ := g.names h0.1 h2
    have hN : X.N[i]? = some n := by rw [g.N]; exact ixOf_ok h3
    refine ⟨cv :: cs, (c, some i, fun e => evSs { Γ with cur := some e } us) :: l, .cons n1 n2 (.inr ⟨n, i, rfl, rfl, hN, ?_⟩) (fun e a oe cls d pn hz hf => ?_) i1, fun e σ S => ?_⟩
    · show X.env.scope.names.lookup n = _
      rw [g.sc]; exact h0.2.1
    · exact cSs_ok (fun h => G.s (g.suite e a oe cls d pn hz hf (some (n, i)) fun n' i' h => by cases h; exact ⟨hN, .inl h0.2.1, h0.2.2⟩) (fun z => nomatch z) h) h5
    · simp only [evH, evHs, i2]
theorem swap_none {t e : Expr} {env : Env} (h : tupE e = false) : swappedStores [t] e env = pure none := by
  cases e <;> first | (cases h; done) | (cases t <;> rfl)
theorem cTry_ok (G : Good F) (g : Cg ce Γ X cl W lv) (ht : ce.top = true) {b : List Stmt} {h₀ : ExceptHandler} {hs : List ExceptHandler} {u : USs} {v : UHs} (h1 : cSs (F.s ce) b = some u) (h2 : cH F ce (h₀ :: hs) = some v) : PSU X cl W (.Try b (h₀ :: hs) [] [] pos) (evS Γ (.try u v .nil)) := by
  obtain ⟨p1, p2, p3, p4⟩ := g.top ht
  have ho : ce.out = true := by cases hm : ce.md <;> simp [CE.top, CE.out, hm] at ht ⊢
  have hmd : ce.md ≠ .blk := by cases hm : ce.md <;> simp [CE.top, hm] at ht ⊢
  obtain ⟨o1, o2, o3, o4, o5, o6⟩ := g.out ho
  obtain ⟨cs, l, i1, i2⟩ := cH_ok G g h2
  refine (psu_try (cs := cs) (l := l) (sub := Γ.sub) (fb := evSs Γ u) o3 o4 g.nd p2 p3 (fun W' pn xe tk hp => ?_) i1).cong fun σ S => ?_
  · have g' : Cg ce Γ (X.tr pn xe) cl W' lv := { N := g.N, sc := g.sc, nd := g.nd, hu := g.hu, asn := g.asn, nk := g.nk, tk := tk, mod := g.mod, out := fun _ => ⟨o1, o2, o3, o4, o5, o6⟩, top := fun _ => ⟨hp, p2, p3, p4⟩, exc := fun n i e => by rw [o5] at e; cases e }
    exact cSs_ok (fun h => G.s g' hmd h) h1
  · simp only [evS]
    cases evSs Γ u σ S with
    | exc e σ1 S1 => exact (i2 e σ1 S1).symm
    | nx σ1 S1 => simp only [evSs]
    | _ => rfl
theorem step_s (G : Good F) (g : Cg ce Γ X cl W lv) (hmd : ce.md ≠ .blk) {st : Stmt} {u : US} (h : stepS F ce st = some u) : PSU X cl W st (evS Γ u) := by
  unfold stepS at h
  split at h
  next =>
    split at h
    next => cases h; exact psu_doc.cong fun σ S => by (simp only [evS])
    next =>
      obtain ⟨h0, h1⟩ := gd_some h
      obtain ⟨x, h2, h3⟩ := o1_some h1
      cases h3
      exact (psu_expr (by simpa using h0) (G.e g h2)).cong fun σ S => by (simp only [evS])
  next =>
    split at h
    next x p =>
      obtain ⟨i, h1, h2⟩ := o1_some h
      obtain ⟨k1, k2, k3, k4⟩ := cAsn_ok g h1
      split at h2
      next =>
        obtain ⟨y, h3, h4⟩ := o1_some h2
        cases h4
        obtain ⟨own, sl, fi, ft, fc, fe, L, e1⟩ := cLc_ok G g h3
        exact (psu_setLc k1 k2 k3 L).cong fun σ S => by (simp only [evS, evTg, e1])
      next =>
        obtain ⟨h3, h4⟩ := gd_some h2
        obtain ⟨y, h5, h6⟩ := o1_some h4
        cases h6
        exact (psu_set g.nd k1 k2 k3 k4 (by simpa using h3) (G.e g h5)).cong fun σ S => by (simp only [evS, evTg])
    next o x p =>
      obtain ⟨h0, h1⟩ := gd_some h
      obtain ⟨f, h2, h3⟩ := o1_some h1
      obtain ⟨y, z, h4, h5, h6⟩ := o2_some h3
      cases h6
      have ex := g.mod.flds x f h2
      exact (psu_fld (fields := [f]) ex (fun c C hc => ⟨(g.mod.cls c C hc).1, fun f' hf' => by cases List.mem_singleton.mp hf'; exact (g.mod.cls c C hc).2 x f h2⟩) (by simp) (by simpa using h0) (G.e g h4) (G.e g h5)).cong fun σ S => by (simp only [evS]) <;> rfl
    next =>
      obtain ⟨h0, h1⟩ := gd_some h
      simp only [Bool.and_eq_true, Bool.not_eq_true'] at h0
      obtain ⟨y, z, h4, h5, h6⟩ := o2_some h1
      obtain ⟨h7, h8⟩ := gd_some h6
      cases h8
      obtain ⟨g1, g2⟩ := G.g g h4
      refine (psu_asg (fun u σ S => (g2 u σ S).plain) h0.1 h0.2.1 (swap_none h0.2.2) (G.e g h5) g1).cong fun σ S => ?_
      cases y <;> first | (cases h7; done) | (simp only [evS])
  next =>
    obtain ⟨i, y, h1, h2, h3⟩ := o2_some h
    cases h3
    obtain ⟨k1, k2, k3, k4⟩ := cAsn_ok g h1
    exact (psu_aug g.nd k1 k2 k3 k4 (G.e g h2)).cong fun σ S => by (simp only [evS]) <;> rfl
  next => cases h; exact psu_retN.cong fun σ S => by (simp only [evS])
  next =>
    obtain ⟨y, h1, h2⟩ := o1_some h
    cases h2
    exact (psu_ret (G.e g h1)).cong fun σ S => by (simp only [evS])
  next => cases h; exact psu_pass.cong fun σ S => by (simp only [evS])
  next => cases h; exact psu_brk.cong fun σ S => by (simp only [evS])
  next => cases h; exact psu_cont.cong fun σ S => by (simp only [evS])
  next =>
    obtain ⟨t, h1, h2⟩ := o1_some h
    obtain ⟨y, z, h3, h4, h5⟩ := o2_some h2
    cases h5
    exact (psu_if (G.t g h1) (cSs_ok (fun h => G.s g hmd h) h3) (cSs_ok (fun h => G.s g hmd h) h4)).cong fun σ S => by (simp only [evS])
  next =>
    obtain ⟨ht, h1⟩ := gd_some h
    obtain ⟨y, z, h2, h3, h4⟩ := o2_some h1
    cases h4
    exact (psu_whl (n := 1000000) (g.top ht).1 (G.t g h2) (cSs_ok (fun h => G.s g hmd h) h3)).cong fun σ S => by (simp only [evS])
  next =>
    obtain ⟨ht, h1⟩ := gd_some h
    simp only [Bool.and_eq_true, Bool.not_eq_true'] at ht
    obtain ⟨it, gu, h2, h3, h4⟩ := o2_some h1
    obtain ⟨b, h5, h6⟩ := o1_some h4
    cases h6
    obtain ⟨g1, g2⟩ := G.g g h3
    have ho : ce.out = true := by cases hm : ce.md <;> simp [CE.top, CE.out, hm] at ht ⊢
    exact (psu_for (g.top ht.1).1 (g.out ho).1 ht.2 (fun u σ S => (g2 u σ S).plain) (cIt_ok G g h2) g1 (cSs_ok (fun h => G.s g hmd h) h5)).cong fun σ S => by (simp only [evS])
  next x p es cp rp =>
    obtain ⟨ht, h1⟩ := gd_some h
    simp only [Bool.and_eq_true] at ht
    obtain ⟨hg, hdb, hn⟩ := g.gl ht.2
    have ho : ce.out = true := by cases hm : ce.md <;> simp [CE.top, CE.out, hm] at ht ⊢
    obtain ⟨o1, o2, o3, o4, o5, C⟩ := g.out ho
    obtain ⟨p1, p2, p3, p4⟩ := g.top ht.1
    obtain ⟨c, us, h2, h3, h4⟩ := o2_some h1
    obtain ⟨c1, c2⟩ := c
    obtain ⟨A, T, hcl, hm, hlv, hex, hI⟩ := C.exc x c1 c2 h2
    obtain ⟨l1, l2⟩ := cEs_len h3
    have hp := cEs_ok (fun h => G.e g h) h3
    cases c2 with
    | none =>
      obtain ⟨h5, h6⟩ := gd_some h4
      cases h6
      have h5 := of_decide_eq_true h5
      cases es with
      | nil =>
        cases h3
        exact (psu_raise_none o1 g.tk (hex rfl) T hcl hg hm hdb).cong fun σ S => by (simp only [evS, evEs, R.thenS_ok, p4]) <;> rfl
      | cons e es =>
        refine (psu_raise_text o1 g.tk (hex rfl) T hcl hg hm hdb (Nat.le_trans h5 (by rw [sizeLine_eq]; decide)) l2 hp fun σ S us' S' e => by rw [evEs_len e, l1]).cong fun σ S => ?_
        simp only [evS, p4, or_true, if_true]
        rfl
    | some fs =>
      obtain ⟨h5, h6⟩ := gd_some h4
      cases h6
      simp only [Bool.and_eq_true, decide_eq_true_eq, Bool.not_eq_true'] at h5
      cases es with
      | nil => cases h5.2.1
      | cons e es =>
        obtain ⟨N, nd, hz⟩ := hI fs rfl
        refine (psu_raise_init o1 g.tk T N nd (o2.mono hlv) hcl hg hm hdb h5.1 hz l2 hp fun σ S us' S' e => by rw [evEs_len e, l1]).cong fun σ S => ?_
        simp only [evS, p4]
        cases er : evEs Γ us σ S with
        | ok ws S1 =>
          have : fs.length = ws.length := by rw [evEs_len er, l1, h5.1]
          simp only [R.thenS_ok, this, true_or, if_true]
          rfl
        | exc x S1 => rfl
        | stuck => rfl
  next =>
    obtain ⟨ht, h1⟩ := gd_some h
    obtain ⟨y, z, h2, h3, h4⟩ := o2_some h1
    cases h4
    exact cTry_ok G g ht h2 h3
  next => cases h
end
theorem good_comp : ∀ n, Good (comp n)
  | 0 => good_zero
  | n + 1 => { e := fun g _ _ h => step_e (good_comp n) g h, t := fun g _ _ h => step_t (good_comp n) g h, g := fun g _ _ h => step_g (good_comp n) g h, s := fun g m _ _ h => step_s (good_comp n) g m h }
end Ev

set_option Elab.async false
set_option linter.all false
set_option autoImplicit false
set_option maxHeartbeats 4000000
/-! Defs keep their promises. -/
namespace Ev
open PySem PySem.Spec PyProof.Rows L2
def ceOf (tb : Tb) (d : DefL) : CE := ⟨tb, d.N, d.scope, (d.scope.names.filter fun y => (decide (y.2 = .local) || decide (y.2 = .cell)) && decide (d.scope.names.lookup y.1 = some y.2)).map (·.1), none, .body⟩
/-- the layer of instances and exceptions -/
def Lay.plain (cl : Lay) : Prop := cl.hx = none ∧ cl.hs = none
section
variable {tb : Tb} {P : Program} {w : World} {K : PySem.W.Frag} {mg : Str → Option Value} {base : Heap} {cl : Lay} {lv fuel : Nat} {d : DefL} {f : Addr} {fd : FuncData} {Pg : Prg} {call : String → List U → Sx → R U}
theorem tk_fn {mode : Bool} {N : List Str} {qual : Str} {scope : Scope} {cdv : Value} {A : Around} {outer : List Env} {s : Shared} {H : Hp} {E : XK} :
    Tk (cxOf (cxt P w mode) P w K mg base N qual scope f cdv A outer s H E) (fun ch c dd _ H' => (ch = true → mode = true) ∧ E c dd H') := by
  cases mode with
  | false =>
    refine ⟨(L2N.takes_of (E := E) rfl rfl rfl rfl).imp fun c dd σ H' h => h.2, fun u s' ⟨_, _, _, _, _, _, _, _, _, _, _, _, _, _, _, _, z⟩ => ?_⟩
    cases z.1 rfl
  | true => exact ⟨L2N_of_L2 ((L2.takes_of (E := E) rfl rfl rfl rfl).imp fun c dd σ H' h => h.2), (L2.takes_of (E := E) rfl rfl rfl rfl).imp fun c dd σ H' h => h.2⟩
theorem RelUs.slots {m : List Addr} {H : Hp} {us : List U} {vs : List V} (r : RelUs m H us vs) (n : Nat) : RelL cl m H (us.map some ++ List.replicate n none) (vs.map some ++ List.replicate n none) ∨ cl.hs ≠ none := by
  by_cases h : cl.hs = none
  · refine .inl ⟨by simp [r.length], fun i u hi => ?_, fun i a hi => by rw [h] at hi; cases hi⟩
    by_cases hl : i < us.length
    · rw [List.getElem?_append_left (by simpa using hl), List.getElem?_map] at hi
      cases e : us[i]? with
      | none => rw [e] at hi; cases hi
      | some w =>
        rw [e] at hi
        cases hi
        obtain ⟨v, h1, h2⟩ := r.get e
        refine ⟨v, ?_, h2⟩
        have hl2 : i < vs.length := by rw [← r.length]; exact hl
        rw [List.getElem?_append_left (by simpa using hl2), List.getElem?_map, h1]
        rfl
    · rw [List.getElem?_append_right (by simpa using hl), List.getElem?_replicate] at hi
      split at hi <;> cases hi
  · exact .inr h
theorem def_ok (F : FunD K d.name d.qual d.params d.body d.scope (d.dfl.map (He.Dv.v K)) [] f fd) (S : FnScope d.N d.ps d.scope) (hc : cSs ((comp fuel).s (ceOf tb d)) d.body = some d.u.body) (hn : d.u.n = d.ps.length) (hN : d.u.N = d.N.length)
    (M : ModOk tb K mg cl.i cl.x Pg.sub) (C : CallOk tb P w K mg base cl call lv) (hp : cl.plain) (mode : Bool) : FnOk P w K mg base (cxt P w mode) (lv + 1) f fd d.ps (spF cl d.u.n (evB Pg call d.u) mode) := by
  refine F.ok S (fun vs H Q E h => h.1.trans hn) (fun cdv A outer s H vs Q E hr hsp => ?_)
  obtain ⟨hlen, m, S0, us, rs, ru, hd⟩ := hsp
  have g : Cg (ceOf tb d) ⟨call, Pg.meth, Pg.sub, none⟩ (cxOf (cxt P w mode) P w K mg base d.N d.qual d.scope f cdv A outer s H E) cl (fun ch c dd _ H' => (ch = true → mode = true) ∧ E c dd H') lv := by
    refine { N := rfl, sc := rfl, nd := S.nd, hu := ?_, asn := fun x hx => ?_, nk := fun i _ => nk_none hp.2, tk := tk_fn, mod := M, out := fun _ => ⟨rfl, hr, hp.1, hp.2, rfl, C⟩, top := fun _ => ⟨PassesOwn.leaving, rfl, rfl, rfl⟩, exc := fun n i h => (nomatch h) }
    · have := hr.un
      show (A.deeper _).units + 64 < cLine
      omega
    · obtain ⟨y, hy, rfl⟩ := List.mem_map.mp hx
      obtain ⟨hy, hk⟩ := List.mem_filter.mp hy
      simp only [Bool.and_eq_true, Bool.or_eq_true, decide_eq_true_eq] at hk
      refine ⟨?_, .inl rfl⟩
      show d.scope.names.lookup y.1 = some .local ∨ d.scope.names.lookup y.1 = some .cell
      rw [hk.2]
      exact hk.1.imp (fun h => by rw [h]) (fun h => by rw [h])
  obtain ⟨t, ht, sim⟩ := cSs_ok (fun h => (good_comp fuel).s g (fun z => nomatch z) h) hc
  refine ⟨t, ht, sim m S0 H (us.map some ++ List.replicate (d.u.N - us.length) none) _ _ rs ?_ ?_⟩
  · have e : L2.start d.N vs = vs.map some ++ List.replicate (d.u.N - us.length) none := by
      unfold L2.start
      rw [hN, ru.length]
    rw [e]
    exact (ru.slots _).resolve_right fun z => z hp.2
  · unfold evB RS.done at hd
    cases er : evSs ⟨call, Pg.meth, Pg.sub, none⟩ d.u.body (us.map some ++ List.replicate (d.u.N - us.length) none) S0 with
    | nx σ' S' => rw [er] at hd; exact fun m' H' σ2 e rs' rl' => hd m' H' .non e rs' .non
    | rt u S' => rw [er] at hd; exact hd
    | exc x σ' S' => rw [er] at hd; exact fun m' H' c dd σ2 e rs' rl' rx => hd m' H' c dd e rs' rx
    | bk σ' S' => rw [er] at hd; exact hd.elim
    | ct σ' S' => rw [er] at hd; exact hd.elim
    | stuck => rw [er] at hd; exact hd.elim
/-- a def that gives nothing -/
theorem stuck_ok {ps : List Str} {n k : Nat} (hn : n = ps.length) (mode : Bool) : FnOk P w K mg base (cxt P w mode) k f fd ps (spF cl n (fun _ _ => .stuck) mode) :=
  ⟨fun vs H Q E h => h.1.trans hn, fun A outer s H args us vs Q E _ _ _ _ h => by
    obtain ⟨_, m, S, us, _, _, hd⟩ := h
    exact hd.elim⟩
end
/-! ### a whole text -/
def defB (tb : Tb) (fuel : Nat) (d : DefL) : Bool := C8.scC d.N d.ps d.scope && (decide (d.u.n = d.ps.length) && decide (d.u.N = d.N.length))
/-- the defs of a text, as they stand behind the top -/
structure TxtOk (tb : Tb) (fuel : Nat) (defs : List DefL) (Pg : Prg) (K : PySem.W.Frag) (mg : Str → Option Value) (cl : Lay) : Prop where
  plain : cl.plain
  mod : ModOk tb K mg cl.i cl.x Pg.sub
  ck : ∀ d, d ∈ defs → FnScope d.N d.ps d.scope ∧ d.u.n = d.ps.length ∧ d.u.N = d.N.length ∧ cSs ((comp fuel).s (ceOf tb d)) d.body = some d.u.body
  fn : ∀ d, d ∈ defs → ∃ fd, FunD K d.name d.qual d.params d.body d.scope (d.dfl.map (He.Dv.v K)) [] (He.fAd K d.at_) fd ∧ BindAll K d fd
  dfl : ∀ d, d ∈ defs → RelDv K d.u.dfl d.dfl
  plk : ∀ d, d ∈ defs → Pg.defs.lookup d.key = some d.u
  mgd : ∀ x key, tb.defs.lookup x = some key → ∃ d, d ∈ defs ∧ d.key = key ∧ mg x = some (.ref (He.fAd K d.at_))
  cls : ∀ x c key, tb.cls.lookup x = some (c, key) → ∃ d C, d ∈ defs ∧ d.key = key ∧ Mk K C (He.fAd K d.at_) ∧ cl.i c = some C ∧ mg x = some (.ref C)
  exc : ∀ x c fs, tb.exc.lookup x = some (c, fs) → ∃ C, XCls K C ∧ cl.x c = some C ∧ mg x = some (.ref C) ∧ (fs = none → PySem.W.excIn K C He.veBase "ValueError.__new__" = true) ∧ ∀ l, fs = some l → (∀ P w base, XInitP P w K mg base 1 C (l.map Str.ofString)) ∧ l.Nodup ∧ l.length ≤ 1000
section
variable {tb : Tb} {P : Program} {w : World} {K : PySem.W.Frag} {mg : Str → Option Value} {base : Heap} {cl : Lay} {fuel : Nat} {defs : List DefL} {Pg : Prg}
theorem calls_of {lv k : Nat} {call : String → List U → Sx → R U} (T : TxtOk tb fuel defs Pg K mg cl) (hl : k + 1 ≤ lv) (h2 : 2 ≤ lv) (h : ∀ d, d ∈ defs → ∃ F, DefOkP P w K mg base cl k d (He.fAd K d.at_) F ∧ Calls' d F (call d.key)) : CallOk tb P w K mg base cl call lv where
  defs := fun x key hx => by
    obtain ⟨d, hd, rfl, hm⟩ := T.mgd x key hx
    obtain ⟨F, D, hc⟩ := h d hd
    exact ⟨k, d, _, F, D, hc, hm, by omega⟩
  cls := fun x c key hx => by
    obtain ⟨d, C, hd, rfl, hM, hi, hm⟩ := T.cls x c key hx
    obtain ⟨F, D, hc⟩ := h d hd
    exact ⟨k, d, _, F, C, D, hc, hM, hi, hm, hl⟩
  exc := fun x c fs hx => by
    obtain ⟨C, h3, h4, h5, h7, h6⟩ := T.exc x c fs hx
    exact ⟨C, h3, h4, h5, h2, h7, fun l e => ⟨(h6 l e).1 P w base, (h6 l e).2⟩⟩
theorem fn_ok {lv : Nat} {call : String → List U → Sx → R U} (T : TxtOk tb fuel defs Pg K mg cl) (C : CallOk tb P w K mg base cl call lv) {d : DefL} (hd : d ∈ defs) : DefOkP P w K mg base cl (lv + 1) d (He.fAd K d.at_) (evB Pg call d.u) := by
  obtain ⟨fd, F, hb⟩ := T.fn d hd
  obtain ⟨S, hn, hN, hc⟩ := T.ck d hd
  exact ⟨⟨fd, ⟨fun mode => def_ok F S hc hn hN T.mod C T.plain mode⟩, hb⟩, F.kp, T.dfl d hd⟩
/-- every def of the text does what the evaluator says, to any depth -/
theorem calls_ok (T : TxtOk tb fuel defs Pg K mg cl) : ∀ k, CallOk tb P w K mg base cl (evD Pg k) (2 * k + 2)
  | 0 => calls_of (k := 1) T (by omega) (by omega) fun d hd => by
    obtain ⟨fd, F, hb⟩ := T.fn d hd
    obtain ⟨S, hn, hN, hc⟩ := T.ck d hd
    refine ⟨fun _ _ => .stuck, ⟨⟨fd, ⟨fun mode => stuck_ok hn mode⟩, hb⟩, F.kp, T.dfl d hd⟩, fun us S => ?_⟩
    simp only [evD]
    cases padded d.u us <;> rfl
  | k + 1 => calls_of (k := 2 * k + 2 + 1) T (by omega) (by omega) fun d hd => by
    refine ⟨_, fn_ok T (calls_ok T k) hd, fun us S => ?_⟩
    (simp only [evD, T.plk d hd]) <;> rfl
end
end Ev

set_option Elab.async false
set_option linter.all false
set_option autoImplicit false
set_option maxHeartbeats 4000000
/-! A text's facts, told by the head; the law's end. -/
namespace Ev
open PySem PySem.Spec PyProof.Rows L2 ClX
/-! ### facts as Bools -/
def oexB (K : PySem.W.Frag) (C : Addr) : Bool := (match K.lookup C with
  | some ⟨.type t, _, .cls cd, sl⟩ => decide (t = "type") && (match cd.mro, sl.toList with
    | .ref C' :: bm, [_, _, _, _, some (.builtin n), _] => decide (C' = C) && (decide (n = "ValueError.__new__") && (!cd.hasDel && (cd.hasDict && PySem.HandSPX.refsVE bm)))
    | _, _ => false)
  | _ => false) && (He.eqO (PySem.W.findIn K (.ref C) "__setattr__") (some (some (.builtin "object.__setattr__"))) && (decide (PySem.W.subIn K (.ref C) (.type "BaseException") = some true) && (decide (PySem.W.typeIn K (.ref C) = some (.type "type")) && PySem.W.keepIn K (.ref C))))
theorem oexB_ok {K : PySem.W.Frag} {C : Addr} (h : oexB K C = true) : OexC K C := by
  unfold oexB at h
  obtain ⟨h1, h⟩ := He.ba h
  obtain ⟨h2, h⟩ := He.ba h
  obtain ⟨h3, h⟩ := He.ba h
  obtain ⟨h4, h5⟩ := He.ba h
  refine ⟨?_, He.eqO_ok h2, of_decide_eq_true h3, of_decide_eq_true h4, h5⟩
  split at h1
  next t dd cd sl ho =>
    obtain ⟨k1, k2⟩ := He.ba h1
    have k1 := of_decide_eq_true k1
    subst k1
    split at k2
    next C' bm k0 k1 k2' k3 n k5 hm hs =>
      simp only [Bool.and_eq_true, decide_eq_true_eq, Bool.not_eq_true'] at k2
      obtain ⟨rfl, rfl, hdel, hdict, ht⟩ := k2
      obtain ⟨nm, bs, mro, ns, qn, hd, sn, sub, ab, col, del⟩ := cd
      dsimp only at hm hdel hdict
      subst hm hdel hdict
      have hsl : sl = #[k0, k1, k2', k3, some (.builtin "ValueError.__new__"), k5] := by
        obtain ⟨l⟩ := sl
        simp only at hs
        rw [hs]
      subst hsl
      exact ⟨_, _, _, _, _, _, _, _, _, _, _, _, _, _, _, ho, ht⟩
    next => cases k2
  next => cases h1
def xisB (K : PySem.W.Frag) (C : Addr) : Bool := (PySem.W.clsIn K C).isSome && (He.eqO (PySem.W.findIn K (.ref C) "__getattribute__") (some (some (.builtin "BaseException.__getattribute__"))) && (He.eqO (PySem.W.findIn K (.ref C) "__getattr__") (some none) &&
  (decide (PySem.W.subIn K (.ref C) (.type "BaseException") = some true) && (He.eqO (PySem.W.findIn K (.ref C) "__class__") (some (some (.builtin "object.__class__"))) && (He.eqO (PySem.W.specialIn K (.builtin "object.__class__") "__get__") (some (some (.builtin "getset_descriptor.__get__"))) &&
  (decide (PySem.W.takesIn K (.builtin "object.__class__") = some true) && decide (PySem.W.mroIn K C (.type "object") = some true)))))))
theorem xisB_ok {K : PySem.W.Frag} {C : Addr} (h : xisB K C = true) : XIs K C := by
  unfold xisB at h
  obtain ⟨h1, h⟩ := He.ba h
  obtain ⟨h2, h⟩ := He.ba h
  obtain ⟨h3, h⟩ := He.ba h
  obtain ⟨h4, h⟩ := He.ba h
  obtain ⟨h5, h⟩ := He.ba h
  obtain ⟨h6, h⟩ := He.ba h
  obtain ⟨h7, h8⟩ := He.ba h
  exact ⟨h1, He.eqO_ok h2, He.eqO_ok h3, of_decide_eq_true h4, He.eqO_ok h5, He.eqO_ok h6, of_decide_eq_true h7, of_decide_eq_true h8⟩
/-- no list of whole numbers is written in K -/
def intV : Value → Bool
  | .int _ _ => true
  | _ => false
def intL : Obj → Bool
  | ⟨.type t, none, .seq its _, _⟩ => decide (t = "list") && its.toList.all intV
  | _ => false
def noIntL (K : PySem.W.Frag) : Bool := K.all fun p => !intL p.2
theorem noIntL_ok {K : PySem.W.Frag} (h : noIntL K = true) {H : Hp} {a : Addr} {ns : List Int} (q : SqL K H a (ns.map V.int)) : Rd H a (.lst (ns.map V.int)) := by
  rcases q with q | ⟨o, its, n, lk, c, dd, dt, _, rv⟩
  · exact q
  · have h1 := List.all_eq_true.mp h _ (He.lookup_mem lk)
    obtain ⟨oc, od, odt, osl⟩ := o
    dsimp only at c dd dt
    subst c dd dt
    have all : ∀ {vs : List V} {us : List Value}, (∀ v ∈ vs, ∃ i, v = V.int i) → Vals vs us → us.all intV = true := by
      intro vs us hv r
      induction r with
      | nil => rfl
      | cons r _ ih =>
        obtain ⟨i, e⟩ := hv _ List.mem_cons_self
        subst e
        obtain ⟨t, rfl⟩ := (r : ∃ t, _ = Value.int i t)
        simpa [intV] using ih fun v hv' => hv v (by simp [hv'])
    have h2 := all (fun v hv => by obtain ⟨i, _, rfl⟩ := List.mem_map.mp hv; exact ⟨i, rfl⟩) rv
    simp only [intL, decide_true, Bool.true_and, h2] at h1
    cases h1
def catV (K : PySem.W.Frag) (x : Str) (own : Bool) : Value := if own = true then .ref (He.ga K x) else .type "ValueError"
/-! ### the data of a text -/
structure XD where
  x : Str
  cn : String
  fs : Option (List String)
  ini : He.DefD
structure CD where
  x : Str
  cn : String
  key : String
structure TxD where
  fuel : Nat
  free : List Str
  defs : List DefL
  fnx : List (Str × String)
  clss : List CD
  excs : List XD
  cat : List (Str × String × Bool)
  flds : List (Str × String)
  xb : Str
  meth : String → String → Option String
  sub : String → String → Bool
namespace TxD
variable (T : TxD)
def tb : Tb := ⟨T.free, T.fnx, T.clss.map fun c => (c.x, c.cn, c.key), T.excs.map fun e => (e.x, e.cn, e.fs), T.cat.map fun c => (c.1, c.2.1), T.flds⟩
def prg : Prg := ⟨T.defs.map fun d => (d.key, d.u), T.meth, T.sub⟩
def lay (K : PySem.W.Frag) : Lay := ⟨fun c => (T.clss.find? fun d => decide (d.cn = c)).map fun d => He.ga K d.x, fun c => (T.excs.find? fun d => decide (d.cn = c)).map fun d => He.ga K d.x, none, none⟩
/-- what the head has to tell: names -/
def fa : List He.Fa := T.free.map .free ++ (T.fnx.map (fun p => .glo p.1) ++ (T.clss.flatMap (fun c => [.glo c.x, .cls c.x, .mkr c.x] ++ T.flds.map fun f => .noat c.x f.1) ++
  (T.excs.flatMap (fun e => [.glo e.x] ++ ((T.flds.map fun f => .noat e.x f.1) ++ (match e.fs with
    | some _ => [.meth e.x "__init__"]
    | none => []))) ++ (T.cat.flatMap fun c => if c.2.2 = true then [.glo c.1] else [.free c.1]))))
/-- .. further facts -/
def ex (K : PySem.W.Frag) : Bool := noIntL K && ((T.excs.all fun e => oexB K (He.ga K e.x) && (xfB K (He.ga K e.x) && (xisB K (He.ga K e.x) && (match e.fs with
    | some _ => true
    | none => PySem.W.excIn K (He.ga K e.x) He.veBase "ValueError.__new__")))) &&
  ((T.cat.all fun c => T.excs.all fun e => decide (PySem.W.exmOne K (.ref (He.ga K e.x)) (catV K c.1 c.2.2) = some (T.sub e.cn c.2.1)) && decide (PySem.W.kitOne K (.ref (He.ga K e.x)) (catV K c.1 c.2.2) = some (T.sub e.cn c.2.1))) &&
    (if T.excs.all (fun e => e.fs.isNone) = true then true else PySem.W.readsIn K (He.ga K T.xb) (.type "type") && (He.eqO (PySem.W.specialIn K (.ref (He.ga K T.xb)) "__getattribute__") (some (some (.builtin "type.__getattribute__"))) && (match PySem.W.findCls K (.ref (He.ga K T.xb)) (.type "type") "__init__" with
      | some (.val (.builtin n)) => decide (n = "ValueError.__init__")
      | _ => false)))))
def fn : List He.DefD := T.defs.map (fun d => ⟨d.at_, d.name, d.qual, d.params, d.body, d.scope, d.dfl, []⟩) ++ T.excs.filterMap fun e => match e.fs with
  | some _ => some e.ini
  | none => none
/-- what has to hold of the data alone -/
def okX (T : TxD) (e : XD) : Bool := match e.fs with
  | some fs => decide (e.ini.at_ = (e.x, some ("__init__" : Str))) && (e.ini.dfl.isEmpty && (e.ini.kwd.isEmpty && (C8.scC ("self" :: fs.map Str.ofString) ("self" :: fs.map Str.ofString) e.ini.scope && (xiB T.xb (fs.map Str.ofString) e.ini.body && (decide (e.ini.scope.names.lookup T.xb = some .globalImplicit) &&
      (!(T.xb == ("__debug__" : Str)) && ((fs.all fun f => nameB (Str.ofString f) && (T.flds.any fun p => decide (p.2 = f))) && (decide (0 < fs.length) && (decide (fs.length ≤ 900) && decide fs.Nodup)))))))))
  | none => true
def ok : Bool := (T.flds.all fun p => decide (p.1 = Str.ofString p.2)) && (decide ((T.defs.map (·.key)).Nodup) && ((T.defs.all fun d => defB T.tb T.fuel d) && ((T.fnx.all fun p => T.defs.any fun d => decide (d.key = p.2) && decide (d.at_ = (p.1, none))) &&
  ((T.clss.all fun c => (T.defs.any fun d => decide (d.key = c.key) && decide (d.at_ = (c.x, some ("__init__" : Str)))) && decide ((T.clss.find? fun d => decide (d.cn = c.cn)).map (·.x) = some c.x)) &&
    ((T.excs.all fun e => T.okX e && decide ((T.excs.find? fun d => decide (d.cn = e.cn)).map (·.x) = some e.x)) &&
      ((T.cat.all fun c => c.2.2 || decide (c.1 = ("ValueError" : Str))) && (T.excs.all (fun e => e.fs.isNone) || T.cat.any fun c => c.2.2 && decide (c.1 = T.xb))))))))
end TxD
/-- how a def binds, whatever stands behind the top -/
def BndOk (d : DefL) : Prop := ∀ (K : PySem.W.Frag) (f : Addr) (fd : FuncData), FunD K d.name d.qual d.params d.body d.scope (d.dfl.map (He.Dv.v K)) [] f fd → BindAll K d fd
theorem bnd0 {d : DefL} (h0 : d.dfl = []) (h : ∀ (kV doc pm : Value) (an : Option Addr) (cdv ct : Value) (us : List Value), us.length = d.ps.length → bindArgs (PySem.W.fnOf d.name d.qual d.params d.body d.scope .none kV doc pm an cdv ct) ⟨us, []⟩ = pure (d.ps.zip us)) : BndOk d := by
  intro K f fd F j hj
  rw [h0] at F hj ⊢
  exact ⟨[], by simpa using Paired.nil, F.bindsN h⟩
theorem lookup_key {l : List DefL} (nd : (l.map (·.key)).Nodup) {d : DefL} (h : d ∈ l) : (l.map fun d => (d.key, d.u)).lookup d.key = some d.u := by
  induction l with
  | nil => cases h
  | cons a l ih =>
    rw [List.map_cons, List.nodup_cons] at nd
    rcases List.mem_cons.mp h with rfl | h
    · simp [List.lookup]
    · have hne : d.key ≠ a.key := fun e => nd.1 (e ▸ List.mem_map_of_mem (f := DefL.key) h)
      have : (d.key == a.key) = false := by simpa using hne
      simp only [List.map_cons, List.lookup, this]
      exact ih nd.2 h
theorem lookup_map {α β γ : Type} [BEq α] [LawfulBEq α] {l : List γ} {f : γ → α} {g : γ → β} {x : α} {y : β} (h : (l.map fun c => (f c, g c)).lookup x = some y) : ∃ c, c ∈ l ∧ f c = x ∧ g c = y := by
  induction l with
  | nil => cases h
  | cons a l ih =>
    simp only [List.map_cons, List.lookup] at h
    split at h
    next e => cases h; exact ⟨a, by simp, (eq_of_beq e).symm, rfl⟩
    next => obtain ⟨c, h1, h2⟩ := ih h; exact ⟨c, by simp [h1], h2⟩
theorem boot_VE : bootBuiltins ("ValueError" : Str) = some (.type "ValueError") := by decide +kernel
theorem find_ok {α : Type} {p : α → Bool} {l : List α} {a : α} (h : l.find? p = some a) : a ∈ l ∧ p a = true := ⟨List.mem_of_find?_eq_some h, List.find?_some h⟩
theorem lookup_mem' {α β : Type} [BEq α] [LawfulBEq α] {l : List (α × β)} {x : α} {y : β} (h : l.lookup x = some y) : (x, y) ∈ l := by
  induction l with
  | nil => cases h
  | cons a l ih =>
    obtain ⟨k, v⟩ := a
    simp only [List.lookup] at h
    split at h
    next e => cases h; rw [eq_of_beq e]; simp
    next => exact List.mem_cons_of_mem _ (ih h)
section
variable {T : TxD} {K : PySem.W.Frag} {h : Heap} {mg : Str → Option Value}
theorem TxD.txt (hok : T.ok = true) (hc : ∀ d, d ∈ T.defs → cSs ((comp T.fuel).s (ceOf T.tb d)) d.body = some d.u.body) (hb : ∀ d, d ∈ T.defs → BndOk d) (hbx : ∀ e, e ∈ T.excs → e.fs ≠ none → ∀ (K : PySem.W.Frag) (f : Addr) (fd : FuncData), FunD K e.ini.name e.ini.qual e.ini.params e.ini.body e.ini.scope [] [] f fd → Binds K fd ("self" :: (e.fs.getD []).map Str.ofString) [])
    (hdv : ∀ d, d ∈ T.defs → ∀ K, RelDv K d.u.dfl d.dfl)
    (X : K.In h) (G : h.Ns mainGlobals mg) (c : He.SaysD T.fa T.fn K) (hex : T.ex K = true) : TxtOk T.tb T.fuel T.defs T.prg K mg (T.lay K) := by
  unfold TxD.ok at hok
  obtain ⟨ok1, hok⟩ := He.ba hok
  obtain ⟨ok2, hok⟩ := He.ba hok
  obtain ⟨ok3, hok⟩ := He.ba hok
  obtain ⟨ok4, hok⟩ := He.ba hok
  obtain ⟨ok5, hok⟩ := He.ba hok
  obtain ⟨ok6, hok⟩ := He.ba hok
  obtain ⟨ok7, ok8⟩ := He.ba hok
  unfold TxD.ex at hex
  obtain ⟨ex1, hex⟩ := He.ba hex
  obtain ⟨ex2, hex⟩ := He.ba hex
  obtain ⟨ex3, ex4⟩ := He.ba hex
  have nd := of_decide_eq_true ok2
  have F : ∀ f, f ∈ T.fa → f.ok K = true := fun f hf => c.facts hf
  have inl : ∀ {α : Type} {l r : List α} {a : α}, a ∈ l → a ∈ l ++ r := fun h => List.mem_append_left _ h
  have inr : ∀ {α : Type} {l r : List α} {a : α}, a ∈ r → a ∈ l ++ r := fun h => List.mem_append_right _ h
  have faFree : ∀ x, x ∈ T.free → mg x = none := fun x hx => He.free_ok X G (F _ (inl (List.mem_map_of_mem hx)))
  have faFn : ∀ p, p ∈ T.fnx → mg p.1 = some (.ref (He.ga K p.1)) := fun p hp => He.glo_ok X G (F _ (inr (inl (List.mem_map.mpr ⟨p, hp, rfl⟩))))
  have clsM : ∀ c, c ∈ T.clss → ∀ f, f ∈ ([.glo c.x, .cls c.x, .mkr c.x] : List He.Fa) ++ T.flds.map (fun f => .noat c.x f.1) → f.ok K = true := fun c hc f hf => F _ (inr (inr (inl (List.mem_flatMap.mpr ⟨c, hc, hf⟩))))
  have excM : ∀ e, e ∈ T.excs → ∀ f, f ∈ ([.glo e.x] : List He.Fa) ++ ((T.flds.map fun f => .noat e.x f.1) ++ (match e.fs with
    | some _ => [.meth e.x "__init__"]
    | none => [])) → f.ok K = true := fun e he f hf => F _ (inr (inr (inr (inl (List.mem_flatMap.mpr ⟨e, he, hf⟩)))))
  have catM : ∀ p, p ∈ T.cat → ∀ f, f ∈ (if p.2.2 = true then [He.Fa.glo p.1] else [.free p.1]) → f.ok K = true := fun p hp f hf => F _ (inr (inr (inr (inr (List.mem_flatMap.mpr ⟨p, hp, hf⟩)))))
  have layI : ∀ c C, (T.lay K).i c = some C → ∃ d, d ∈ T.clss ∧ d.cn = c ∧ C = He.ga K d.x := fun c C h => by
    obtain ⟨d, h1, h2⟩ := Option.map_eq_some_iff.mp h
    obtain ⟨m1, m2⟩ := find_ok h1
    exact ⟨d, m1, of_decide_eq_true m2, h2.symm⟩
  have layX : ∀ c C, (T.lay K).x c = some C → ∃ d, d ∈ T.excs ∧ d.cn = c ∧ C = He.ga K d.x := fun c C h => by
    obtain ⟨d, h1, h2⟩ := Option.map_eq_some_iff.mp h
    obtain ⟨m1, m2⟩ := find_ok h1
    exact ⟨d, m1, of_decide_eq_true m2, h2.symm⟩
  have fld : ∀ x f, T.flds.lookup x = some f → (x, f) ∈ T.flds ∧ x = Str.ofString f := fun x f h => by
    have := lookup_mem' h
    exact ⟨this, of_decide_eq_true (List.all_eq_true.mp ok1 _ this)⟩
  have E : ∀ e, e ∈ T.excs → OexC K (He.ga K e.x) ∧ XfC K (He.ga K e.x) ∧ XIs K (He.ga K e.x) ∧ (e.fs = none → PySem.W.excIn K (He.ga K e.x) He.veBase "ValueError.__new__" = true) := fun e he => by
    obtain ⟨h1, h2⟩ := He.ba (List.all_eq_true.mp ex2 e he)
    obtain ⟨h3, h4⟩ := He.ba h2
    obtain ⟨h5, h6⟩ := He.ba h4
    refine ⟨oexB_ok h1, xfB_ok h3, xisB_ok h5, fun z => ?_⟩
    rw [z] at h6; exact h6
  have C : ∀ p, p ∈ T.cat → ∀ e, e ∈ T.excs → PySem.W.exmOne K (.ref (He.ga K e.x)) (catV K p.1 p.2.2) = some (T.sub e.cn p.2.1) ∧ PySem.W.kitOne K (.ref (He.ga K e.x)) (catV K p.1 p.2.2) = some (T.sub e.cn p.2.1) := fun p hp e he => by
    obtain ⟨h1, h2⟩ := He.ba (List.all_eq_true.mp (List.all_eq_true.mp ex3 p hp) e he)
    exact ⟨of_decide_eq_true h1, of_decide_eq_true h2⟩
  have DM : ∀ d, d ∈ T.defs → ∃ fd, FunD K d.name d.qual d.params d.body d.scope (d.dfl.map (He.Dv.v K)) [] (He.fAd K d.at_) fd := fun d hd =>
    c.defs (d := ⟨d.at_, d.name, d.qual, d.params, d.body, d.scope, d.dfl, []⟩) (inl (List.mem_map.mpr ⟨d, hd, rfl⟩))
  refine { plain := ⟨rfl, rfl⟩, mod := ⟨faFree, fun x f h => (fld x f h).2, fun c' C' h => ?_, fun c' C' h => ?_, fun x cn h => ?_⟩, ck := fun d hd => ?_, fn := fun d hd => ?_, dfl := fun d hd => hdv d hd K, plk := fun d hd => lookup_key nd hd, mgd := fun x key hx => ?_, cls := fun x cc key hx => ?_, exc := fun x cc fs hx => ?_ }
  · obtain ⟨d, hd, rfl, rfl⟩ := layI c' C' h
    exact ⟨He.cls_ok (clsM d hd _ (by simp)), fun x f hf => by
      obtain ⟨k1, rfl⟩ := fld x f hf
      exact He.noat_ok (clsM d hd _ (inr (List.mem_map.mpr ⟨_, k1, rfl⟩)))⟩
  · obtain ⟨d, hd, rfl, rfl⟩ := layX c' C' h
    exact ⟨(E d hd).2.1, fun x f hf => by
      obtain ⟨k1, rfl⟩ := fld x f hf
      exact He.noat_ok (excM d hd _ (inr (inl (List.mem_map.mpr ⟨_, k1, rfl⟩))))⟩
  · obtain ⟨p, hp, rfl, rfl⟩ := lookup_map h
    refine ⟨catV K p.1 p.2.2, ?_, ?_, fun c' C' h => ?_⟩
    · cases ho : p.2.2 with
      | true =>
        have := He.glo_ok X G (catM p hp (.glo p.1) (by rw [ho]; simp))
        exact .inl (by rw [this]; simp [catV])
      | false =>
        have hv : p.1 = ("ValueError" : Str) := by
          have := List.all_eq_true.mp ok7 p hp
          rw [ho] at this
          simpa using this
        have := He.free_ok X G (catM p hp (.free p.1) (by rw [ho]; simp))
        refine .inr ⟨this, ?_⟩
        rw [hv]
        simp only [catV, Bool.false_eq_true, if_false]
        exact boot_VE
    · unfold catV
      split
      · exact ⟨.ref (He.ga K p.1), rfl, fun u r => r⟩
      · exact ⟨.ty "ValueError", rfl, fun u r => r⟩
    · obtain ⟨d, hd, rfl, rfl⟩ := layX c' C' h
      exact ⟨(C p hp d hd).1, (E d hd).2.2.1, (C p hp d hd).2⟩
  · obtain ⟨k1, k2⟩ := He.ba (List.all_eq_true.mp ok3 d hd)
    obtain ⟨k3, k4⟩ := He.ba k2
    exact ⟨C8.fnScope_by k1, of_decide_eq_true k3, of_decide_eq_true k4, hc d hd⟩
  · obtain ⟨fd, FD⟩ := DM d hd
    exact ⟨fd, FD, hb d hd K _ fd FD⟩
  · have hm := lookup_mem' hx
    obtain ⟨d, hd, k⟩ := List.any_eq_true.mp (List.all_eq_true.mp ok4 _ hm)
    obtain ⟨k1, k2⟩ := He.ba k
    have k2 := of_decide_eq_true k2
    refine ⟨d, hd, of_decide_eq_true k1, ?_⟩
    rw [k2]
    exact faFn _ hm
  · obtain ⟨cd, hcd, rfl, e2⟩ := lookup_map (f := fun c : CD => c.x) (g := fun c : CD => (c.cn, c.key)) hx
    cases e2
    obtain ⟨k1, k2⟩ := He.ba (List.all_eq_true.mp ok5 _ hcd)
    obtain ⟨d, hd, k⟩ := List.any_eq_true.mp k1
    obtain ⟨k3, k4⟩ := He.ba k
    have k4 := of_decide_eq_true k4
    refine ⟨d, He.ga K cd.x, hd, of_decide_eq_true k3, ?_, ?_, He.glo_ok X G (clsM cd hcd _ (by simp))⟩
    · rw [k4]
      exact He.mkr_ok (clsM cd hcd _ (by simp))
    · obtain ⟨d2, h1, h2⟩ := Option.map_eq_some_iff.mp (of_decide_eq_true k2)
      show ((T.clss.find? fun d => decide (d.cn = cd.cn)).map fun d => He.ga K d.x) = _
      rw [h1, Option.map_some, h2]
  · obtain ⟨e, he, rfl, e2⟩ := lookup_map (f := fun e : XD => e.x) (g := fun e : XD => (e.cn, e.fs)) hx
    cases e2
    obtain ⟨k1, k2⟩ := He.ba (List.all_eq_true.mp ok6 _ he)
    obtain ⟨E1, E2, E3, E4⟩ := E e he
    refine ⟨He.ga K e.x, ⟨E1, E2, E3⟩, ?_, He.glo_ok X G (excM e he _ (inl (by simp))), E4, fun l hl => ?_⟩
    · obtain ⟨d2, h1, h2⟩ := Option.map_eq_some_iff.mp (of_decide_eq_true k2)
      show ((T.excs.find? fun d => decide (d.cn = e.cn)).map fun d => He.ga K d.x) = _
      rw [h1, Option.map_some, h2]
    · unfold TxD.okX at k1
      rw [hl] at k1
      dsimp only at k1
      obtain ⟨a1, k1⟩ := He.ba k1
      obtain ⟨a2, k1⟩ := He.ba k1
      obtain ⟨a3, k1⟩ := He.ba k1
      obtain ⟨a4, k1⟩ := He.ba k1
      obtain ⟨a5, k1⟩ := He.ba k1
      obtain ⟨a6, k1⟩ := He.ba k1
      obtain ⟨a7, k1⟩ := He.ba k1
      obtain ⟨a8, k1⟩ := He.ba k1
      obtain ⟨a9, k1⟩ := He.ba k1
      obtain ⟨a10, a11⟩ := He.ba k1
      have a1 := of_decide_eq_true a1
      have a6 := of_decide_eq_true a6
      have a9 := of_decide_eq_true a9
      have a10 := of_decide_eq_true a10
      obtain ⟨fd, FD⟩ := c.defs (d := e.ini) (inr (List.mem_filterMap.mpr ⟨e, he, by rw [hl]⟩))
      have m := He.meth_ok (excM e he (.meth e.x "__init__") (inr (inr (by rw [hl]; simp))))
      have ea : He.fAd K e.ini.at_ = He.ma K (He.ga K e.x) "__init__" := by rw [a1]; rfl
      have FD' : FunD K e.ini.name e.ini.qual e.ini.params e.ini.body e.ini.scope [] [] (He.fAd K e.ini.at_) fd := by
        have d1 : e.ini.dvs K = [] := by unfold He.DefD.dvs; rw [List.isEmpty_iff.mp a2]; rfl
        have d2 : e.ini.kws K = [] := by unfold He.DefD.kws; rw [List.isEmpty_iff.mp a3]; rfl
        rw [d1, d2] at FD; exact FD
      have nx : (T.excs.all fun e => e.fs.isNone) = false := by
        cases q : T.excs.all (fun e => e.fs.isNone) with
        | false => rfl
        | true =>
          have := List.all_eq_true.mp q e he
          rw [hl] at this; cases this
      rw [nx] at ex4 ok8
      simp only [Bool.false_eq_true, if_false] at ex4
      obtain ⟨b1, ex4⟩ := He.ba ex4
      obtain ⟨b2, b3⟩ := He.ba ex4
      have bi : BIni K mg T.xb := by
        obtain ⟨p, hp, hq⟩ := List.any_eq_true.mp (show (T.cat.any fun c => c.2.2 && decide (c.1 = T.xb)) = true by simpa using ok8)
        obtain ⟨q1, q2⟩ := He.ba hq
        have q2 := of_decide_eq_true q2
        have g1 := He.glo_ok X G (catM p hp (.glo p.1) (by rw [q1]; simp))
        refine ⟨He.ga K T.xb, .type "type", by rw [← q2]; exact g1, ⟨b1, He.eqO_ok b2⟩, ?_⟩
        split at b3
        next n hn => rw [hn, of_decide_eq_true b3]
        next => cases b3
      refine ⟨fun P w base => ⟨He.fAd K e.ini.at_, fd, ("self" : Str) :: l.map Str.ofString, by rw [ea]; exact m.at_, by rw [ea]; exact beq_iff_eq.mp m.fn, ?_, ?_, fun f hf => ?_⟩, of_decide_eq_true a11, by omega⟩
      · exact xi_ok FD' (C8.fnScope_by a4) a5 bi a6 (by simpa using a7) (fun f hf => by
          obtain ⟨g, hg, rfl⟩ := List.mem_map.mp hf
          exact nameB_ok (He.ba (List.all_eq_true.mp a8 g hg)).1) (by simpa using a9) (by simpa using a10)
      · have := hbx e he (by rw [hl]; simp) K _ fd FD'
        rw [hl] at this; exact this
      · obtain ⟨g, hg, rfl⟩ := List.mem_map.mp hf
        obtain ⟨p, hp, hpg⟩ := List.any_eq_true.mp (He.ba (List.all_eq_true.mp a8 g hg)).2
        have hpg := of_decide_eq_true hpg
        have e1 : p.1 = Str.ofString p.2 := of_decide_eq_true (List.all_eq_true.mp ok1 _ hp)
        have := He.noat_ok (excM e he (.noat e.x p.1) (inr (inl (List.mem_map.mpr ⟨_, hp, rfl⟩))))
        rw [← hpg, ← e1]; exact this
end
end Ev

set_option Elab.async false
set_option linter.all false
set_option autoImplicit false
set_option maxHeartbeats 4000000
/-! The law's end. -/
namespace Ev
open PySem PySem.Spec PyProof.Rows L2
/-- any world's exceptions -/
def CXw (P : Program) : CXT := fun outer H s E e s' => ∃ w, L2N.CX P w outer H s E e s'
theorem FnOk.cx {P : Program} {w : World} {K : PySem.W.Frag} {mg : Str → Option Value} {base : Heap} {CX CX' : CXT} {k : Nat} {f : Addr} {fd : FuncData} {ps : List Str} {sp : Sp} (F : FnOk P w K mg base CX k f fd ps sp) (h : ∀ outer H s E e s', CX outer H s E e s' → CX' outer H s E e s') : FnOk P w K mg base CX' k f fd ps sp :=
  ⟨F.len, fun A outer s H args us vs Q E a b c d e => codeAny_mono (F.run A outer s H args us vs Q E a b c d e) fun r s' hq => by
    cases r with
    | ok fl => cases fl <;> exact hq
    | error x => exact h _ _ _ _ _ _ hq⟩
theorem relInts {m : List Addr} {H : Hp} : ∀ ns : List Int, RelUs m H (ns.map U.int) (ns.map V.int)
  | [] => .nil
  | n :: ns => .cons (.int n) (relInts ns)
/-- the script alone -/
theorem rel_script {T : TxD} {K : PySem.W.Frag} {H : Hp} {a : Addr} {o : Obj} {ns : List Int} (h : H a = some (.frz o (.lst (ns.map V.int)))) : RelS (T.lay K) [a] [.ro (ns.map .int)] H := by
  refine ⟨rfl, by simp, fun n ob b h1 h2 => ?_, fun e c d z => (nomatch z)⟩
  cases n with
  | zero =>
    cases h1; cases h2
    exact ⟨_, h, o, _, rfl, relInts ns⟩
  | succ n => cases h1
/-- where the look goes: the statics' table too -/
def asS (g : Addr → Option Obj) (n : Nat) : List Addr := cStatics :: He.asD g n
def obS (T : TxD) (n : Nat) (g : Addr → Option Obj) : He.AlD × Bool := (He.obsD T.fa T.fn (He.frT g (asS g n)), T.ex (He.frT g (asS g n)))
/-- the head's look at a text -/
def sayX (T : TxD) (n : Nat) : PySem.W.Hook where
  α := He.AlD × Bool
  obs s := obS T n s.heap.get?
  val _ := (He.valD T.fn, true)
  says _ h := ∃ K : PySem.W.Frag, K.In h ∧ He.SaysD T.fa T.fn K ∧ T.ex K = true
  of _ _ e := ⟨_, He.frT_in, congrArg Prod.fst e, congrArg Prod.snd e⟩
  keeps _ _ _ h k := let ⟨K, hK, c⟩ := h; ⟨K, PySem.W.Frag.In.keeps hK k, c⟩
theorem obS_eq {T : TxD} {n : Nat} (s : PySem.W.SharedT) : obS T n (HandSHeadRun.getT s) = (sayX T n).obs s.abs := by
  have e : HandSHeadRun.getT s = s.abs.heap.get? := funext (HandSHeadRun.getT_eq s)
  rw [e]; rfl
theorem law_end {l : PySem.W.OpenLaw} {T : TxD} {n k : Nat} {d : DefL} {q : Program} {loose : List Str} {XP : (Str → Option Value) → Heap → Prop} {dr : DefRec} (hl : l.most = some 63) (hdf : dr.params.defaults = []) (hdn : dr.name = ("law" : Str)) (hr : Room (2 * k + 3) callerA)
    (hok : T.ok = true) (hc : ∀ d, d ∈ T.defs → cSs ((comp T.fuel).s (ceOf T.tb d)) d.body = some d.u.body) (hb : ∀ d, d ∈ T.defs → BndOk d) (hbx : ∀ e, e ∈ T.excs → e.fs ≠ none → ∀ (K : PySem.W.Frag) (f : Addr) (fd : FuncData), FunD K e.ini.name e.ini.qual e.ini.params e.ini.body e.ini.scope [] [] f fd → Binds K fd ("self" :: (e.fs.getD []).map Str.ofString) [])
    (hdv : ∀ d, d ∈ T.defs → ∀ K, RelDv K d.u.dfl d.dfl)
    (hd : d ∈ T.defs) (hat : d.at_ = (("law" : Str), none)) (hfn : (("law" : Str), "law") ∈ T.fnx) (hps : d.ps = [("script" : Str)]) (hdl : d.dfl = []) (hbA : ∀ (K : PySem.W.Frag) (f : Addr) (fd : FuncData), FunD K d.name d.qual d.params d.body d.scope [] [] f fd → ∀ (s : Shared) (u : Value), BindsTo s fd ⟨[u], []⟩ [(("script" : Str), u)])
    (law : ∀ ns : List Int, ns.length ≤ 63 → ∃ S', evB T.prg (evD T.prg k) d.u [.ref 0] [.ro (ns.map .int)] = .ok (.bl true) S') :
    PySem.W.WalkO q loose XP (sayX T n).says l.row.toRowW dr [] (fun f vs => PySem.call f vs) := by
  refine L2.walk_ofE (l := l) (n := 63) (k := 2 * k + 3) (x := "script") (CX := CXw l.prog) hl (by rw [sizeLine_eq]; decide) hdf hr ?_ (fun H s e s' ⟨w, z⟩ => ?_)
  · intro w mg fa h Y G hmg0
    obtain ⟨K, KX, c⟩ := Y
    rw [hdn] at hmg0
    have X := T.txt hok hc hb hbx hdv KX G c.1 c.2
    have hg := He.glo_ok KX G (c.1.facts (f := .glo ("law" : Str)) (by unfold TxD.fa; exact List.mem_append_right _ (List.mem_append_left _ (List.mem_map.mpr ⟨_, hfn, rfl⟩))))
    obtain ⟨S, hn1, hN, _⟩ := X.ck d hd
    have C := calls_ok (P := l.prog) (w := w) (base := h) X k
    obtain ⟨fd, F, hbd⟩ := X.fn d hd
    have e1 : He.fAd K d.at_ = fa := by
      have := hmg0.symm.trans hg
      rw [hat]
      exact (Value.ref.inj (Option.some.inj this)).symm
    rw [hdl] at F
    refine ⟨K, fd, spF (T.lay K) d.u.n (evB T.prg (evD T.prg k) d.u) false, KX, hbA K _ fd F, fun H a ns hlen hO hS => ?_, fun base hK hB => ?_⟩
    · have hx : noIntL K = true := (He.ba c.2).1
      have hh := noIntL_ok hx hS
      obtain ⟨S', hS'⟩ := law ns hlen
      refine ⟨by rw [hn1, hps]; rfl, [a], [.ro (ns.map .int)], [.ref 0], ?_, .cons (.ref rfl) .nil, ?_⟩
      · rcases hh with hh | ⟨o, hh⟩
        · rcases hO a with z | ⟨o, xs, z⟩
          · rw [z] at hh; cases hh
          · rw [z] at hh; cases hh
        · exact rel_script hh
      · rw [hS']
        intro m' H' z _ _ rz
        cases rz
        rfl
    · have C' := calls_ok (P := l.prog) (w := w) (base := base) X k
      rw [← e1, ← hps]
      obtain ⟨S, hn, hN, hcc⟩ := X.ck d hd
      have F' : FunD K d.name d.qual d.params d.body d.scope (d.dfl.map (He.Dv.v K)) [] (He.fAd K d.at_) fd := by rw [hdl]; exact F
      exact FnOk.cx (def_ok F' S hcc hn hN X.mod C' X.plain false) fun outer H s E e s' z => ⟨w, z⟩
  · obtain ⟨_, _, _, _, _, _, _, _, _, _, _, _, z⟩ := z
    exact z
end Ev

set_option Elab.async false
set_option linter.all false
set_option autoImplicit false
set_option maxHeartbeats 4000000
/-! The evaluator by rewriting. -/
namespace Ev
open PySem
theorem padded_full {d : DefU} {us : List U} (h : us.length = d.n) (hd : d.dfl = []) : padded d us = some us := by
  unfold padded
  rw [hd]
  simp [h]
theorem evD_full {P : Prg} {k : Nat} {f : String} {d : DefU} {us : List U} {S : Sx} (h : P.defs.lookup f = some d) (hl : us.length = d.n) (hd : d.dfl = []) :
    evD P (k + 1) f us S = (evSs ⟨evD P k, P.meth, P.sub, none⟩ d.body (us.map some ++ List.replicate (d.N - us.length) none) S).done := by
  simp only [evD, h, padded_full hl hd, evB]
section
variable {S l : Sx} {n i : Nat} {o : O}
theorem getOld (h : S[n]? = some o) : (S ++ l)[n]? = some o := by
  obtain ⟨hn, _⟩ := List.getElem?_eq_some_iff.mp h
  rw [List.getElem?_append_left hn]; exact h
theorem getNew0 : (S ++ l)[S.length]? = l[0]? := by rw [List.getElem?_append_right (Nat.le_refl _)]; simp
theorem getNew : (S ++ l)[S.length + i]? = l[i]? := by rw [List.getElem?_append_right (Nat.le_add_right _ _)]; simp
theorem setNew0 : (S ++ l).set S.length o = S ++ l.set 0 o := by rw [List.set_append_right _ _ (Nat.le_refl _)]; simp
theorem setNew : (S ++ l).set (S.length + i) o = S ++ l.set i o := by rw [List.set_append_right _ _ (Nat.le_add_right _ _)]; simp
theorem app2 {a b : Sx} : (S ++ a) ++ b = S ++ (a ++ b) := List.append_assoc _ _ _
end
theorem flatEqD_int {S : Sx} {i j : Int} : eqD S (.int i) (.int j) = some (decide (i = j)) := by
  unfold eqD
  simp only [dat]
  rfl
theorem evS_name {Γ : Gam} {i : Nat} {e : UE} {σ : Sl} {S : Sx} : evS Γ (.asg (.name i) e) σ S = (evE Γ e σ S).thenS σ fun u S1 => .nx (σ.set i (some u)) S1 := by simp only [evS, evTg]
theorem evS_tup {Γ : Gam} {l : UTgs} {e : UE} {σ : Sl} {S : Sx} : evS Γ (.asg (.tup l) e) σ S = (evE Γ e σ S).thenS σ fun u S1 => match u with
  | .tup us => evTgs Γ l us σ S1
  | _ => .stuck := by (simp only [evS, evTg]) <;> rfl
theorem evTgs_name {Γ : Gam} {i : Nat} {ts : UTgs} {u : U} {us : List U} {σ : Sl} {S : Sx} : evTgs Γ (.cons (.name i) ts) (u :: us) σ S = evTgs Γ ts us (σ.set i (some u)) S := by simp only [evTgs, evTg, RS.next_nx]
end Ev

set_option Elab.async false
set_option linter.all false
set_option autoImplicit false
set_option maxHeartbeats 4000000
/-! Loops of the evaluator. -/
namespace Ev
open PySem
theorem for_inv {turn : U → Sl → Sx → RS} {c : List (Nat × O)} (I : Nat → Sl → Sx → Prop) : ∀ {us : List U} {i : Nat}, (∀ j σ S, I j σ S → standW c S = true) → (∀ j u σ S, us[j]? = some u → I (i + j) σ S → ∃ σ' S', (turn u σ S = .nx σ' S' ∨ turn u σ S = .ct σ' S') ∧ I (i + j + 1) σ' S') →
    ∀ {σ S}, I i σ S → ∃ σ' S', forGo turn c us σ S = .nx σ' S' ∧ I (i + us.length) σ' S'
  | [], i, hs, h, σ, S, h0 => ⟨σ, S, by unfold forGo; rw [if_pos (hs _ _ _ h0)], h0⟩
  | u :: us, i, hs, h, σ, S, h0 => by
    obtain ⟨σ1, S1, h1, h2⟩ := h 0 u σ S rfl h0
    obtain ⟨σ2, S2, h3, h4⟩ := for_inv I (us := us) (i := i + 1) hs (fun j u' σ S hj hI => by
      obtain ⟨a, b, c1, d⟩ := h (j + 1) u' σ S (by simpa using hj) (by rw [show i + (j + 1) = i + 1 + j by omega]; exact hI)
      exact ⟨a, b, c1, by rw [show i + 1 + j + 1 = i + (j + 1) + 1 by omega]; exact d⟩) h2
    refine ⟨σ2, S2, ?_, by rw [show i + (u :: us).length = i + 1 + us.length by simp; omega]; exact h4⟩
    unfold forGo
    rw [if_pos (hs _ _ _ h0)]
    rcases h1 with h1 | h1 <;> (rw [h1]; exact h3)
theorem log_small {n : Nat} (h : n < 9000) : n.log2 < 9000 := Nat.lt_of_le_of_lt (Nat.log2_le_self n) h
/-- a text of proper signs -/
def okS (x : Str) : Prop := ∀ c, c ∈ x.cps.toList → c < 1114112
theorem okS_app {x y : Str} (h : okS x) (k : okS y) : okS (x ++ y) := fun c hc => by
  have : c ∈ (x.cps ++ y.cps).toList := hc
  rw [Array.toList_append, List.mem_append] at this
  exact this.elim (h c) (k c)
theorem okS_one {c : Nat} (h : c < 1114112) : okS ⟨#[c]⟩ := fun d hd => by
  have : d = c := by simpa using hd
  rw [this]; exact h
theorem okS_nil : okS "" := fun c hc => by
  have e : (("" : Str).cps.toList) = [] := by decide +kernel
  rw [e] at hc; cases hc
theorem okS_of {x : Str} (h : x.cps.all (· < 1114112) = true) : okS x := fun c hc => by
  have := Array.all_eq_true_iff_forall_mem.mp h c (by simpa using hc)
  simpa using this
/-- a sign of a text -/
theorem sub_str {S : Sx} {z : Str} {j : Int} (hz : z.length ≤ sizeLine) (h0 : 0 ≤ j) (h1 : j < z.length) : ∃ c, c ∈ z.cps.toList ∧ opSub' S (.str z) (.int j) = some (.str ⟨#[c]⟩) := by
  obtain ⟨n, rfl⟩ := Int.eq_ofNat_of_zero_le h0
  have hn : n < z.cps.toList.length := by
    have : z.length = z.cps.toList.length := by simp [Str.length]
    omega
  refine ⟨z.cps.toList[n], List.getElem_mem hn, ?_⟩
  unfold opSub' L2.atI L2.ixN
  simp only [dicAt, seqAt, lstAt, if_pos hz]
  rw [if_pos (by omega)]
  simp only [Int.toNat_natCast]
  rw [if_pos (by omega)]
  simp only [Option.bind_some]
  rw [List.getElem?_eq_getElem hn]
  rfl
theorem strLen_app {x y : Str} : (x ++ y).length = x.length + y.length := by
  show (x.cps ++ y.cps).size = _
  simp [Str.length]
theorem strLen_one {c : Nat} : (⟨#[c]⟩ : Str).length = 1 := rfl
theorem add_str {S : Sx} {x y : Str} (h : x.length + y.length ≤ sizeLine) : opAdd (.str x) (.str y) S = .ok (.str (x ++ y)) S := by simp only [opAdd, h, if_true]
theorem rngW_one {j : Int} (h0 : -(2 ^ 62) ≤ j) (h1 : j < 2 ^ 62) : rngW [.int j] = some (rngU 0 j.toNat 1, []) := by
  show (if -(2 ^ 62) ≤ j ∧ j < 2 ^ 62 then _ else _) = _
  rw [if_pos ⟨h0, h1⟩]
theorem rngU_get {lo : Int} {n j : Nat} {u : U} (h : (rngU lo n 1)[j]? = some u) : j < n ∧ u = .int (lo + j) := by
  have h2 : j < n := by
    have := (List.getElem?_eq_some_iff.mp h).1
    simpa [rngU] using this
  unfold rngU at h
  rw [List.getElem?_map, List.getElem?_range h2] at h
  refine ⟨h2, ?_⟩
  simpa using h.symm
theorem rngU_len {lo : Int} {n : Nat} : (rngU lo n 1).length = n := by simp [rngU]
section
variable {S : Sx} {i j : Int}
theorem pow_int (h : 0 ≤ j ∧ (Builtin.Int.intBits i : Int) * j ≤ 2 ^ 27) : opPow (.int i) (.int j) S = .ok (.int (i ^ j.toNat)) S := by simp only [opPow, h, and_self, if_true]
theorem mul_int (h : i.natAbs.log2 + j.natAbs.log2 < 1000000) : opMul (.int i) (.int j) S = .ok (.int (i * j)) S := by simp only [opMul, h, if_true]
theorem div_int (h : 0 < j ∧ j.natAbs.log2 < 9000) : opDiv (.int i) (.int j) S = .ok (.int (i / j)) S := by simp only [opDiv, h, and_self, if_true]
theorem mod_int (h : 0 < j) : opMod (.int i) (.int j) S = .ok (.int (i % j)) S := by simp only [opMod, h, if_true]
end
theorem lc_map {turn : U → Sx → R (Option U)} {c : List (Nat × O)} {S : Sx} {g : U → U} : ∀ {us acc : List U}, (∀ acc', standW c (S ++ [.lst acc']) = true) → (∀ u, u ∈ us → ∀ acc', turn u (S ++ [.lst acc']) = .ok (some (g u)) (S ++ [.lst acc'])) → acc.length + us.length ≤ sizeLine →
    lcGo turn c S.length us (S ++ [.lst acc]) = .ok (.ref S.length) (S ++ [.lst (acc ++ us.map g)])
  | [], acc, hs, h, hl => by
    unfold lcGo
    rw [if_pos (hs acc)]
    simp
  | u :: us, acc, hs, h, hl => by
    unfold lcGo
    rw [if_pos (hs acc), h u (by simp) acc]
    simp only [getNew0, List.getElem?_cons_zero]
    rw [if_pos (by simp at hl; omega), setNew0]
    simp only [List.set_cons_zero]
    rw [lc_map hs (fun u' hu' => h u' (by simp [hu'])) (by simp at hl ⊢; omega)]
    simp
theorem cutS_len {z : Str} {lo hi : Option Int} : (L2.cutS z lo hi).length ≤ z.length := by
  unfold L2.cutS
  simp [Str.length]
  try omega
theorem okS_cut {z : Str} {lo hi : Option Int} (h : okS z) : okS (L2.cutS z lo hi) := fun c hc => by
  unfold L2.cutS at hc
  have : c ∈ (z.cps.toList.drop (HT.sIx z.length 0 lo)).take (HT.sIx z.length z.length hi - HT.sIx z.length 0 lo) := by simpa using hc
  exact h c (List.mem_of_mem_drop (List.mem_of_mem_take this))
theorem slc_str {S : Sx} {z : Str} {lo hi : Option Int} (h : z.length ≤ sizeLine) : opSlc (.str z) (lo.map .int) (hi.map .int) S = .ok (.str (L2.cutS z lo hi)) S := by
  unfold opSlc
  cases lo <;> cases hi <;> simp [intO, h]
theorem sub_lst {S : Sx} {a : Nat} {us : List U} {i : Int} (h : S[a]? = some (.lst us)) : opSub' S (.ref a) (.int i) = L2.atI us i := by
  unfold opSub'
  simp only [dicAt, seqAt, lstAt, h]
theorem len_lst {S : Sx} {a : Nat} {us : List U} (h : S[a]? = some (.lst us)) : bcall "len" [.ref a] S = .ok (.int us.length) S := by
  simp only [bcall, lenOf, seqAt, lstAt, h, Option.map_some, R.opt_some]
theorem zipU_get' : ∀ {us vs : List U} {i : Nat} {u : U}, (zipU us vs)[i]? = some u → ∃ a b, us[i]? = some a ∧ vs[i]? = some b ∧ u = .tup [a, b]
  | [], vs, i, u, h => by simp [zipU] at h
  | w :: us, [], i, u, h => by simp [zipU] at h
  | w :: us, x :: vs, 0, u, h => by
    simp [zipU] at h
    exact ⟨w, x, rfl, rfl, h.symm⟩
  | w :: us, x :: vs, i + 1, u, h => by
    simp only [zipU, List.getElem?_cons_succ] at h
    obtain ⟨a, b, h1, h2, h3⟩ := zipU_get' h
    exact ⟨a, b, by simpa using h1, by simpa using h2, h3⟩
theorem standW_two {n n' : Nat} {o o' : O} {S : Sx} (h : S[n]? = some o) (h' : S[n']? = some o') : standW ([(n, o)] ++ [(n', o')]) S = true := by simp [standW, h, h']
end Ev

set_option Elab.async false
set_option linter.all false
set_option autoImplicit false
set_option maxHeartbeats 4000000
/-! The evaluator by rewriting, from the left: nothing is looked at before its turn. -/
namespace Ev
open PySem
section
variable {Γ : Gam} {σ : Sl} {S : Sx} {α : Type}
/-! what comes behind -/
noncomputable def kBin (Γ : Gam) (op : Operator) (b : UE) (σ : Sl) (u : U) (S : Sx) : R U := (evE Γ b σ S).bind (opBin op u)
noncomputable def kCmp (Γ : Gam) (op : CmpOp) (b : UE) (σ : Sl) (u : U) (S : Sx) : R U := (evE Γ b σ S).bind fun v S2 => R.opt ((opCmp S2 op u v).map .bl) S2
def kNeg (u : U) (S : Sx) : R U := match u with
  | .int i => .ok (.int (-i)) S
  | _ => .stuck
def kNot (u : U) (S : Sx) : R U := match u with
  | .bl b => .ok (.bl (!b)) S
  | _ => .stuck
noncomputable def kAnd (Γ : Gam) (b : UE) (σ : Sl) (u : U) (S : Sx) : R U := match u with
  | .bl true => evE Γ b σ S
  | .bl false => .ok (.bl false) S
  | _ => .stuck
noncomputable def kOr (Γ : Gam) (b : UE) (σ : Sl) (u : U) (S : Sx) : R U := match u with
  | .bl false => evE Γ b σ S
  | .bl true => .ok (.bl true) S
  | _ => .stuck
noncomputable def kIfe (Γ : Gam) (a b : UE) (σ : Sl) (c : Bool) (S : Sx) : R U := if c = true then evE Γ a σ S else evE Γ b σ S
def kTup (us : List U) (S : Sx) : R U := if us.length ≤ sizeLine then .ok (.tup us) S else .stuck
def kLst (us : List U) (S : Sx) : R U := if us.length ≤ sizeLine then new (.lst us) S else .stuck
noncomputable def kSub (Γ : Gam) (b : UE) (σ : Sl) (u : U) (S : Sx) : R U := (evE Γ b σ S).bind fun v S2 => R.opt (opSub' S2 u v) S2
noncomputable def kSlc (Γ : Gam) (lo hi : UO) (σ : Sl) (u : U) (S : Sx) : R U := (evO Γ lo σ S).bind fun l S2 => (evO Γ hi σ S2).bind fun h S3 => opSlc u (l.map .int) (h.map .int) S3
def kAttr (f : String) (u : U) (S : Sx) : R U := R.opt (opAttr S u f) S
def kIsty (ts : List String) (u : U) (S : Sx) : R U := match ts with
  | [t] => R.opt ((tyIs S u t).map .bl) S
  | _ => .stuck
def kMk2 (r : Nat) (u : U) (S : Sx) : R U := match u with
  | .non => .ok (.ref r) S
  | _ => .stuck
def kMk (Γ : Gam) (c f : String) (us : List U) (S : Sx) : R U := (Γ.call f (.ref S.length :: us) (S ++ [.ins c []])).bind (kMk2 S.length)
def kMeth2 (Γ : Gam) (m : String) (r : Recv) (u : U) (us : List U) (S : Sx) : R U := mcall Γ m r u us S
noncomputable def kMeth (Γ : Gam) (m : String) (es : UEs) (σ : Sl) (u : U) (S : Sx) : R U := match recv Γ S m u with
  | none => .stuck
  | some r => (evEs Γ es σ S).bind (kMeth2 Γ m r u)
def kCons2 (u : U) (us : List U) (S : Sx) : R (List U) := .ok (u :: us) S
noncomputable def kCons (Γ : Gam) (es : UEs) (σ : Sl) (u : U) (S : Sx) : R (List U) := (evEs Γ es σ S).bind (kCons2 u)
def kVal (u : U) (S : Sx) : R Bool := match u with
  | .bl b => .ok b S
  | _ => .stuck
noncomputable def kAndT (Γ : Gam) (b : UT) (σ : Sl) (c : Bool) (S : Sx) : R Bool := if c = true then evT Γ b σ S else .ok false S
noncomputable def kOrT (Γ : Gam) (b : UT) (σ : Sl) (c : Bool) (S : Sx) : R Bool := if c = true then .ok true S else evT Γ b σ S
def kNotT (c : Bool) (S : Sx) : R Bool := .ok (!c) S
/-- one turn of a comprehension -/
noncomputable def lcT (Γ : Gam) (own : List Nat) (tg : UTg) (cs : UTs) (e : UE) (σ : Sl) (u : U) (S2 : Sx) : R (Option U) := match evTg Γ tg u (wipe' σ own) S2 with
  | .nx σ2 S3 => (evTs Γ cs σ2 S3).bind fun b S4 => if b = true then (evE Γ e σ2 S4).bind fun v S5 => .ok (some v) S5 else .ok none S4
  | _ => .stuck
noncomputable def kLc (Γ : Gam) (own : List Nat) (tg : UTg) (cs : UTs) (e : UE) (σ : Sl) (w : Wk) (S1 : Sx) : R U := lcGo (lcT Γ own tg cs e σ) w.2 S1.length w.1 (S1 ++ [.lst []])
@[simp] theorem z_var {i : Nat} : evE Γ (.var i) σ S = match σ[i]? with | some (some u) => .ok u S | _ => .stuck := by (simp only [evE]) <;> rfl
@[simp] theorem z_con {u : U} : evE Γ (.con u) σ S = .ok u S := by simp only [evE]
@[simp] theorem z_bin {op : Operator} {a b : UE} : evE Γ (.bin op a b) σ S = (evE Γ a σ S).bind (kBin Γ op b σ) := by (simp only [evE]) <;> rfl
@[simp] theorem z_kBin {op : Operator} {b : UE} {u : U} : kBin Γ op b σ u S = (evE Γ b σ S).bind (opBin op u) := by simp only [kBin]
@[simp] theorem z_neg {a : UE} : evE Γ (.neg a) σ S = (evE Γ a σ S).bind kNeg := by (simp only [evE]) <;> rfl
@[simp] theorem z_kNeg {i : Int} : kNeg (.int i) S = .ok (.int (-i)) S := by simp only [kNeg]
@[simp] theorem z_not {a : UE} : evE Γ (.notV a) σ S = (evE Γ a σ S).bind kNot := by (simp only [evE]) <;> rfl
@[simp] theorem z_kNot {b : Bool} : kNot (.bl b) S = .ok (.bl (!b)) S := by simp only [kNot]
@[simp] theorem z_and {a b : UE} : evE Γ (.andV a b) σ S = (evE Γ a σ S).bind (kAnd Γ b σ) := by (simp only [evE]) <;> rfl
@[simp] theorem z_kAnd1 {b : UE} : kAnd Γ b σ (.bl true) S = evE Γ b σ S := by simp only [kAnd]
@[simp] theorem z_kAnd0 {b : UE} : kAnd Γ b σ (.bl false) S = .ok (.bl false) S := by simp only [kAnd]
@[simp] theorem z_or {a b : UE} : evE Γ (.orV a b) σ S = (evE Γ a σ S).bind (kOr Γ b σ) := by (simp only [evE]) <;> rfl
@[simp] theorem z_kOr0 {b : UE} : kOr Γ b σ (.bl false) S = evE Γ b σ S := by simp only [kOr]
@[simp] theorem z_kOr1 {b : UE} : kOr Γ b σ (.bl true) S = .ok (.bl true) S := by simp only [kOr]
@[simp] theorem z_cmp {op : CmpOp} {a b : UE} : evE Γ (.cmp op a b) σ S = (evE Γ a σ S).bind (kCmp Γ op b σ) := by (simp only [evE]) <;> rfl
@[simp] theorem z_kCmp {op : CmpOp} {b : UE} {u : U} : kCmp Γ op b σ u S = (evE Γ b σ S).bind fun v S2 => R.opt ((opCmp S2 op u v).map .bl) S2 := by simp only [kCmp]
@[simp] theorem z_ife {t : UT} {a b : UE} : evE Γ (.ife t a b) σ S = (evT Γ t σ S).bind (kIfe Γ a b σ) := by (simp only [evE]) <;> rfl
@[simp] theorem z_kIfe1 {a b : UE} : kIfe Γ a b σ true S = evE Γ a σ S := by simp only [kIfe, if_true, Bool.false_eq_true, if_false]
@[simp] theorem z_kIfe0 {a b : UE} : kIfe Γ a b σ false S = evE Γ b σ S := by simp only [kIfe, if_true, Bool.false_eq_true, if_false]
@[simp] theorem z_tup {es : UEs} : evE Γ (.tup es) σ S = (evEs Γ es σ S).bind kTup := by (simp only [evE]) <;> rfl
theorem z_kTup {us : List U} (h : us.length ≤ 1000) : kTup us S = .ok (.tup us) S := if_pos (Nat.le_trans h (by rw [sizeLine_eq]; decide))
@[simp] theorem z_lst {es : UEs} : evE Γ (.lst es) σ S = (evEs Γ es σ S).bind kLst := by (simp only [evE]) <;> rfl
theorem z_kLst {us : List U} (h : us.length ≤ 1000) : kLst us S = .ok (.ref S.length) (S ++ [.lst us]) := if_pos (Nat.le_trans h (by rw [sizeLine_eq]; decide))
@[simp] theorem z_dct : evE Γ (.dct .nil) σ S = .ok (.ref S.length) (S ++ [.dic []]) := by (simp only [evE]) <;> rfl
@[simp] theorem z_sub {a b : UE} : evE Γ (.sub a b) σ S = (evE Γ a σ S).bind (kSub Γ b σ) := by (simp only [evE]) <;> rfl
@[simp] theorem z_kSub {b : UE} {u : U} : kSub Γ b σ u S = (evE Γ b σ S).bind fun v S2 => R.opt (opSub' S2 u v) S2 := by simp only [kSub]
@[simp] theorem z_slc {a : UE} {lo hi : UO} : evE Γ (.slc a lo hi) σ S = (evE Γ a σ S).bind (kSlc Γ lo hi σ) := by (simp only [evE]) <;> rfl
@[simp] theorem z_kSlc {lo hi : UO} {u : U} : kSlc Γ lo hi σ u S = (evO Γ lo σ S).bind fun l S2 => (evO Γ hi σ S2).bind fun h S3 => opSlc u (l.map .int) (h.map .int) S3 := by simp only [kSlc]
@[simp] theorem z_attr {a : UE} {f : String} : evE Γ (.attr a f) σ S = (evE Γ a σ S).bind (kAttr f) := by (simp only [evE]) <;> rfl
@[simp] theorem z_kAttr {f : String} {u : U} : kAttr f u S = R.opt (opAttr S u f) S := by simp only [kAttr]
@[simp] theorem z_xattr {f : String} : evE Γ (.xattr f) σ S = R.opt (Γ.cur.bind fun e => e.fs.lookup f) S := by (simp only [evE]) <;> rfl
@[simp] theorem z_xisa {c : String} : evE Γ (.xisa c) σ S = R.opt (Γ.cur.map fun e => .bl (Γ.sub e.cls c)) S := by (simp only [evE]) <;> rfl
@[simp] theorem z_isty {a : UE} {ts : List String} : evE Γ (.isty a ts) σ S = (evE Γ a σ S).bind (kIsty ts) := by (simp only [evE]) <;> rfl
@[simp] theorem z_kIsty {t : String} {u : U} : kIsty [t] u S = R.opt ((tyIs S u t).map .bl) S := by simp only [kIsty]
@[simp] theorem z_call {f : String} {es : UEs} : evE Γ (.call f es) σ S = (evEs Γ es σ S).bind (Γ.call f) := by (simp only [evE]) <;> rfl
@[simp] theorem z_mk {c f : String} {es : UEs} : evE Γ (.mk c f es) σ S = (evEs Γ es σ S).bind (kMk Γ c f) := by (simp only [evE]) <;> rfl
@[simp] theorem z_kMk {c f : String} {us : List U} : kMk Γ c f us S = (Γ.call f (.ref S.length :: us) (S ++ [.ins c []])).bind (kMk2 S.length) := by simp only [kMk]
@[simp] theorem z_kMk2 {r : Nat} : kMk2 r .non S = .ok (.ref r) S := by simp only [kMk2]
@[simp] theorem z_base {f : String} {es : UEs} : evE Γ (.base f es) σ S = (evEs Γ es σ S).bind (Γ.call f) := by (simp only [evE]) <;> rfl
@[simp] theorem z_meth {m : String} {a : UE} {es : UEs} : evE Γ (.meth m a es) σ S = (evE Γ a σ S).bind (kMeth Γ m es σ) := by (simp only [evE]) <;> rfl
theorem z_kMeth {m : String} {es : UEs} {u : U} {r : Recv} (h : recv Γ S m u = some r) : kMeth Γ m es σ u S = (evEs Γ es σ S).bind (kMeth2 Γ m r u) := by unfold kMeth; rw [h]
@[simp] theorem z_kMeth2 {m : String} {r : Recv} {u : U} {us : List U} : kMeth2 Γ m r u us S = mcall Γ m r u us S := by simp only [kMeth2]
@[simp] theorem z_bcall {b : String} {es : UEs} : evE Γ (.bcall b es) σ S = (evEs Γ es σ S).bind (Ev.bcall b) := by (simp only [evE]) <;> rfl
@[simp] theorem z_lc {own : List Nat} {tg : UTg} {it : UI} {cs : UTs} {e : UE} : evE Γ (.lc own tg it cs e) σ S = (evI Γ it σ S).bind (kLc Γ own tg cs e σ) := by (simp only [evE]) <;> rfl
theorem z_kLc {own : List Nat} {tg : UTg} {cs : UTs} {e : UE} {w : Wk} : kLc Γ own tg cs e σ w S = lcGo (lcT Γ own tg cs e σ) w.2 S.length w.1 (S ++ [.lst []]) := by simp only [kLc]
@[simp] theorem z_nil : evEs Γ .nil σ S = .ok [] S := by simp only [evEs]
@[simp] theorem z_cons {e : UE} {es : UEs} : evEs Γ (.cons e es) σ S = (evE Γ e σ S).bind (kCons Γ es σ) := by (simp only [evEs]) <;> rfl
@[simp] theorem z_kCons {es : UEs} {u : U} : kCons Γ es σ u S = (evEs Γ es σ S).bind (kCons2 u) := by simp only [kCons]
@[simp] theorem z_kCons2 {u : U} {us : List U} : kCons2 u us S = .ok (u :: us) S := by simp only [kCons2]
@[simp] theorem z_oNone : evO Γ .none σ S = .ok none S := by simp only [evO]
@[simp] theorem z_oSome {e : UE} : evO Γ (.some e) σ S = (evE Γ e σ S).bind fun u S1 => match u with | .int i => .ok (some i) S1 | _ => .stuck := by (simp only [evO]) <;> rfl
@[simp] theorem z_val {a : UE} : evT Γ (.val a) σ S = (evE Γ a σ S).bind kVal := by (simp only [evT]) <;> rfl
@[simp] theorem z_kVal {b : Bool} : kVal (.bl b) S = .ok b S := by simp only [kVal]
@[simp] theorem z_andT {a b : UT} : evT Γ (.and a b) σ S = (evT Γ a σ S).bind (kAndT Γ b σ) := by (simp only [evT]) <;> rfl
@[simp] theorem z_kAndT1 {b : UT} : kAndT Γ b σ true S = evT Γ b σ S := by simp only [kAndT, if_true, Bool.false_eq_true, if_false]
@[simp] theorem z_kAndT0 {b : UT} : kAndT Γ b σ false S = .ok false S := by simp only [kAndT, if_true, Bool.false_eq_true, if_false]
@[simp] theorem z_orT {a b : UT} : evT Γ (.or a b) σ S = (evT Γ a σ S).bind (kOrT Γ b σ) := by (simp only [evT]) <;> rfl
@[simp] theorem z_kOrT1 {b : UT} : kOrT Γ b σ true S = .ok true S := by simp only [kOrT, if_true, Bool.false_eq_true, if_false]
@[simp] theorem z_kOrT0 {b : UT} : kOrT Γ b σ false S = evT Γ b σ S := by simp only [kOrT, if_true, Bool.false_eq_true, if_false]
@[simp] theorem z_notT {a : UT} : evT Γ (.not a) σ S = (evT Γ a σ S).bind kNotT := by (simp only [evT]) <;> rfl
@[simp] theorem z_kNotT {c : Bool} : kNotT c S = .ok (!c) S := by simp only [kNotT]
/-! statements -/
def kNx (σ : Sl) (_ : U) (S : Sx) : RS := .nx σ S
def kRt (u : U) (S : Sx) : RS := .rt u S
def kSet (σ : Sl) (i : Nat) (u : U) (S : Sx) : RS := .nx (σ.set i (some u)) S
noncomputable def kTupS (Γ : Gam) (l : UTgs) (σ : Sl) (u : U) (S : Sx) : RS := match u with
  | .tup us => evTgs Γ l us σ S
  | _ => .stuck
noncomputable def kAttrS2 (σ : Sl) (f : String) (u a : U) (S : Sx) : RS := match setAttr S a f u with
  | some S3 => .nx σ S3
  | none => .stuck
noncomputable def kAttrS (Γ : Gam) (o : UE) (f : String) (σ : Sl) (u : U) (S : Sx) : RS := (evE Γ o σ S).thenS σ (kAttrS2 σ f u)
noncomputable def kIf (Γ : Gam) (a b : USs) (σ : Sl) (c : Bool) (S : Sx) : RS := if c = true then evSs Γ a σ S else evSs Γ b σ S
noncomputable def forT (Γ : Gam) (tg : UTg) (b : USs) (u : U) (σ : Sl) (S : Sx) : RS := (evTg Γ tg u σ S).next (evSs Γ b)
noncomputable def kFor (Γ : Gam) (tg : UTg) (b : USs) (σ : Sl) (w : Wk) (S : Sx) : RS := forGo (forT Γ tg b) w.2 w.1 σ S
def kRaise (c : String) (fs : List String) (ch : Bool) (σ : Sl) (us : List U) (S : Sx) : RS := if fs.length = us.length ∨ fs = [] then .exc ⟨c, fs.zip us, ch⟩ σ S else .stuck
noncomputable def kTry (Γ : Gam) (hs : UHs) (el : USs) : RS → RS
  | .exc e σ1 S1 => evH Γ hs e σ1 S1
  | .nx σ1 S1 => evSs Γ el σ1 S1
  | r => r
@[simp] theorem z_sNil : evSs Γ .nil σ S = .nx σ S := by simp only [evSs]
@[simp] theorem z_sCons {s : US} {ss : USs} : evSs Γ (.cons s ss) σ S = (evS Γ s σ S).next (evSs Γ ss) := by (simp only [evSs])
@[simp] theorem z_expr {e : UE} : evS Γ (.expr e) σ S = (evE Γ e σ S).thenS σ (kNx σ) := by (simp only [evS]) <;> rfl
@[simp] theorem z_kNx {u : U} : kNx σ u S = .nx σ S := by simp only [kNx]
@[simp] theorem z_asgN {i : Nat} {e : UE} : evS Γ (.asg (.name i) e) σ S = (evE Γ e σ S).thenS σ (kSet σ i) := evS_name
@[simp] theorem z_kSet {i : Nat} {u : U} : kSet σ i u S = .nx (σ.set i (some u)) S := by simp only [kSet]
@[simp] theorem z_asgT {l : UTgs} {e : UE} : evS Γ (.asg (.tup l) e) σ S = (evE Γ e σ S).thenS σ (kTupS Γ l σ) := evS_tup
@[simp] theorem z_kTupS {l : UTgs} {us : List U} : kTupS Γ l σ (.tup us) S = evTgs Γ l us σ S := by simp only [kTupS]
@[simp] theorem z_gN {i : Nat} {u : U} : evTg Γ (.name i) u σ S = .nx (σ.set i (some u)) S := by simp only [evTg]
@[simp] theorem z_gT {l : UTgs} {us : List U} : evTg Γ (.tup l) (.tup us) σ S = evTgs Γ l us σ S := by simp only [evTg]
@[simp] theorem z_gNil : evTgs Γ .nil [] σ S = .nx σ S := by simp only [evTgs]
@[simp] theorem z_gCons {t : UTg} {ts : UTgs} {u : U} {us : List U} : evTgs Γ (.cons t ts) (u :: us) σ S = (evTg Γ t u σ S).next (evTgs Γ ts us) := by simp only [evTgs]
@[simp] theorem z_asgA {o e : UE} {f : String} : evS Γ (.asg (.attr o f) e) σ S = (evE Γ e σ S).thenS σ (kAttrS Γ o f σ) := by (simp only [evS]) <;> rfl
@[simp] theorem z_kAttrS {o : UE} {f : String} {u : U} : kAttrS Γ o f σ u S = (evE Γ o σ S).thenS σ (kAttrS2 σ f u) := by simp only [kAttrS]
@[simp] theorem z_ret {e : UE} : evS Γ (.ret e) σ S = (evE Γ e σ S).thenS σ kRt := by (simp only [evS]) <;> rfl
@[simp] theorem z_kRt {u : U} : kRt u S = .rt u S := by simp only [kRt]
@[simp] theorem z_retN : evS Γ .retN σ S = .rt .non S := by simp only [evS]
@[simp] theorem z_pass : evS Γ .pass σ S = .nx σ S := by simp only [evS]
@[simp] theorem z_brk : evS Γ .brk σ S = .bk σ S := by simp only [evS]
@[simp] theorem z_cont : evS Γ .cont σ S = .ct σ S := by simp only [evS]
@[simp] theorem z_if {t : UT} {a b : USs} : evS Γ (.ife t a b) σ S = (evT Γ t σ S).thenS σ (kIf Γ a b σ) := by (simp only [evS]) <;> rfl
@[simp] theorem z_kIf1 {a b : USs} : kIf Γ a b σ true S = evSs Γ a σ S := by simp only [kIf, if_true, Bool.false_eq_true, if_false]
@[simp] theorem z_kIf0 {a b : USs} : kIf Γ a b σ false S = evSs Γ b σ S := by simp only [kIf, if_true, Bool.false_eq_true, if_false]
@[simp] theorem z_for {tg : UTg} {it : UI} {b : USs} : evS Γ (.for tg it b) σ S = (evI Γ it σ S).thenS σ (kFor Γ tg b σ) := by (simp only [evS]) <;> rfl
theorem z_kFor {tg : UTg} {b : USs} {w : Wk} : kFor Γ tg b σ w S = forGo (forT Γ tg b) w.2 w.1 σ S := by simp only [kFor]
theorem z_forT {tg : UTg} {b : USs} {u : U} : forT Γ tg b u σ S = (evTg Γ tg u σ S).next (evSs Γ b) := by simp only [forT]
@[simp] theorem z_raise {c : String} {fs : List String} {es : UEs} : evS Γ (.raise c fs es) σ S = (evEs Γ es σ S).thenS σ (kRaise c fs Γ.cur.isSome σ) := by (simp only [evS]) <;> rfl
theorem z_kRaise {c : String} {fs : List String} {ch : Bool} {us : List U} (h : fs.length = us.length ∨ fs = []) : kRaise c fs ch σ us S = .exc ⟨c, fs.zip us, ch⟩ σ S := if_pos h
@[simp] theorem z_try {b : USs} {hs : UHs} {el : USs} : evS Γ (.try b hs el) σ S = kTry Γ hs el (evSs Γ b σ S) := by (simp only [evS]) <;> (cases evSs Γ b σ S <;> rfl)
@[simp] theorem z_kTryE {hs : UHs} {el : USs} {e : Exn} : kTry Γ hs el (.exc e σ S) = evH Γ hs e σ S := by simp only [kTry]
@[simp] theorem z_kTryN {hs : UHs} {el : USs} : kTry Γ hs el (.nx σ S) = evSs Γ el σ S := by simp only [kTry]
@[simp] theorem z_kTryR {hs : UHs} {el : USs} {u : U} : kTry Γ hs el (.rt u S) = .rt u S := by simp only [kTry]
theorem z_hYes {c : String} {i : Option Nat} {b : USs} {hs : UHs} {e : Exn} (h : Γ.sub e.cls c = true) : evH Γ (.cons c i b hs) e σ S = suiteE i (evSs { Γ with cur := some e } b) σ S := by simp only [evH, h, if_true]
theorem z_hNo {c : String} {i : Option Nat} {b : USs} {hs : UHs} {e : Exn} (h : Γ.sub e.cls c = false) : evH Γ (.cons c i b hs) e σ S = evH Γ hs e σ S := by simp only [evH, h, Bool.false_eq_true, if_false]
/-! walks -/
def kSeqI (u : U) (S : Sx) : R Wk := R.opt (seqW S u) S
def kRng1 (u : U) (S : Sx) : R Wk := R.opt (rngW [u]) S
noncomputable def kRng2 (Γ : Gam) (b : UE) (σ : Sl) (u : U) (S : Sx) : R Wk := (evE Γ b σ S).bind fun v S2 => R.opt (rngW [u, v]) S2
@[simp] theorem z_seqI {e : UE} : evI Γ (.seq e) σ S = (evE Γ e σ S).bind kSeqI := by (simp only [evI]) <;> rfl
@[simp] theorem z_kSeqI {u : U} : kSeqI u S = R.opt (seqW S u) S := by simp only [kSeqI]
@[simp] theorem z_rng1 {e : UE} : evI Γ (.rng1 e) σ S = (evE Γ e σ S).bind kRng1 := by (simp only [evI]) <;> rfl
@[simp] theorem z_kRng1 {u : U} : kRng1 u S = R.opt (rngW [u]) S := by simp only [kRng1]
@[simp] theorem z_rng2 {a b : UE} : evI Γ (.rng2 a b) σ S = (evE Γ a σ S).bind (kRng2 Γ b σ) := by (simp only [evI]) <;> rfl
@[simp] theorem z_kRng2 {b : UE} {u : U} : kRng2 Γ b σ u S = (evE Γ b σ S).bind fun v S2 => R.opt (rngW [u, v]) S2 := by simp only [kRng2]
/-! operations -/
@[simp] theorem z_add {i j : Int} : opBin .Add (.int i) (.int j) S = .ok (.int (i + j)) S := by simp only [opBin, opAdd, opSub]
@[simp] theorem z_sub' {i j : Int} : opBin .Sub (.int i) (.int j) S = .ok (.int (i - j)) S := by simp only [opBin, opAdd, opSub]
theorem z_mul {i j : Int} (h : i.natAbs.log2 + j.natAbs.log2 < 1000000) : opBin .Mult (.int i) (.int j) S = .ok (.int (i * j)) S := mul_int h
theorem z_div {i j : Int} (h : 0 < j ∧ j.natAbs.log2 < 9000) : opBin .FloorDiv (.int i) (.int j) S = .ok (.int (i / j)) S := div_int h
theorem z_mod {i j : Int} (h : 0 < j) : opBin .Mod (.int i) (.int j) S = .ok (.int (i % j)) S := mod_int h
theorem z_pow {i j : Int} (h : 0 ≤ j ∧ (Builtin.Int.intBits i : Int) * j ≤ 2 ^ 27) : opBin .Pow (.int i) (.int j) S = .ok (.int (i ^ j.toNat)) S := pow_int h
theorem z_addS {x y : Str} (h : x.length + y.length ≤ sizeLine) : opBin .Add (.str x) (.str y) S = .ok (.str (x ++ y)) S := add_str h
theorem z_addR {a b : Nat} : opBin .Add (.ref a) (.ref b) S = match S[a]?, S[b]? with
    | some (.lst us), some (.lst vs) => if us.length + vs.length ≤ sizeLine then new (.lst (us ++ vs)) S else .stuck
    | _, _ => .stuck := by (simp only [opBin, opAdd]) <;> rfl
theorem z_new {o : O} : new o S = .ok (.ref S.length) (S ++ [o]) := by simp only [new]
@[simp] theorem z_eqI {i j : Int} : opCmp S .Eq (.int i) (.int j) = some (decide (i = j)) := by
  show eqD S (.int i) (.int j) = _
  exact flatEqD_int
@[simp] theorem z_neI {i j : Int} : opCmp S .NotEq (.int i) (.int j) = some (!decide (i = j)) := by
  show (eqD S (.int i) (.int j)).map (!·) = _
  rw [flatEqD_int]; simp only [Option.map_some]
@[simp] theorem z_lt {i j : Int} : opCmp S .Lt (.int i) (.int j) = some (decide (i < j)) := by simp only [opCmp, ltI, leI]
@[simp] theorem z_le {i j : Int} : opCmp S .LtE (.int i) (.int j) = some (decide (i ≤ j)) := by simp only [opCmp, ltI, leI]
@[simp] theorem z_gt {i j : Int} : opCmp S .Gt (.int i) (.int j) = some (decide (j < i)) := by simp only [opCmp, ltI, leI]
@[simp] theorem z_ge {i j : Int} : opCmp S .GtE (.int i) (.int j) = some (decide (j ≤ i)) := by simp only [opCmp, ltI, leI]
@[simp] theorem z_doneR {u : U} : (RS.rt u S).done = .ok u S := by simp only [RS.done]
@[simp] theorem z_doneN : (RS.nx σ S).done = .ok .non S := by simp only [RS.done]
@[simp] theorem z_doneE {e : Exn} : (RS.exc e σ S).done = .exc e S := by simp only [RS.done]
end
end Ev

set_option Elab.async false
set_option linter.all false
set_option autoImplicit false
set_option maxHeartbeats 4000000
/-! What is the same. -/
namespace Ev
open PySem
/-- data alone: ints, truths, texts, None -/
def fd : U → PyData
  | .int i => .int i
  | .str x => .str x
  | .bl b => .bool b
  | _ => .none
def okF : U → Bool
  | .int _ => true
  | .str x => PyData.canLay0 (.str x)
  | .bl _ => true
  | .non => true
  | _ => false
theorem okS_can {x : Str} (h : okS x) : PyData.canLay0 (.str x) = true := by
  show x.cps.all (· < 0x110000) = true
  rw [Array.all_eq_true_iff_forall_mem]
  intro c hc
  exact decide_eq_true (h c (by simpa using hc))
section
variable {S : Sx} {n : Nat}
theorem dat_flat {u : U} (h : okF u = true) : dat S (n + 1) u = some (fd u) ∧ (fd u).canLay0 = true := by
  cases u <;> first | (cases h; done) | exact ⟨by simp only [dat, fd], by first | rfl | exact h⟩
theorem dat_flats : ∀ {us : List U}, us.all okF = true → optAll (dat S (n + 1)) us = some (us.map fd) ∧ PyData.canLayAll0 (us.map fd) = true
  | [], _ => ⟨rfl, rfl⟩
  | u :: us, h => by
    simp only [List.all_cons, Bool.and_eq_true] at h
    obtain ⟨h1, h2⟩ := dat_flat (S := S) (n := n) h.1
    obtain ⟨h3, h4⟩ := dat_flats (us := us) h.2
    refine ⟨by simp only [optAll, h1, h3, List.map_cons], ?_⟩
    rw [List.map_cons, PyData.canLayAll0, h2, h4]; rfl
mutual
theorem dat_depth : ∀ {n : Nat} {u : U} {d : PyData}, dat S n u = some d → d.depth ≤ n
  | 0, u, d, h => by simp only [dat] at h; cases h
  | n + 1, u, d, h => by
    cases u with
    | non => simp only [dat] at h; cases h; simp [PyData.depth]
    | bl b => simp only [dat] at h; cases h; simp [PyData.depth]
    | int b => simp only [dat] at h; cases h; simp [PyData.depth]
    | str b => simp only [dat] at h; cases h; simp [PyData.depth]
    | tup us =>
      simp only [dat] at h
      obtain ⟨ds, h1, rfl⟩ := Option.map_eq_some_iff.mp h
      simp only [PyData.depth]
      have := dat_depths h1
      omega
    | ref r =>
      simp only [dat] at h
      split at h
      · obtain ⟨ds, h1, rfl⟩ := Option.map_eq_some_iff.mp h
        simp only [PyData.depth]
        have := dat_depths h1
        omega
      · obtain ⟨ds, h1, rfl⟩ := Option.map_eq_some_iff.mp h
        simp only [PyData.depth]
        have := dat_depths h1
        omega
      · cases h
theorem dat_depths : ∀ {n : Nat} {us : List U} {ds : List PyData}, optAll (dat S n) us = some ds → PyData.depthAll ds ≤ n
  | n, [], ds, h => by cases h; simp [PyData.depthAll]
  | n, u :: us, ds, h => by
    unfold optAll at h
    split at h
    next d ds' h1 h2 =>
      cases h
      have a := dat_depth h1
      have b := dat_depths h2
      simp only [PyData.depthAll]
      omega
    next => cases h
end
/-- two data are compared -/
theorem eqD_of {u v : U} {d e : PyData} (hu : dat S 60 u = some d) (hv : dat S 60 v = some e) (hd : d.canLay0 = true) (he : e.canLay0 = true) : eqD S u v = some (PyData.eqv d e) := by
  have a := dat_depth hu
  have b := dat_depth hv
  unfold eqD
  rw [hu, hv]
  simp only [SeqAt.shaped, hd, he, Bool.true_and]
  rw [if_pos (by simp; omega)]
theorem eqD_same {u v : U} {d : PyData} (hu : dat S 60 u = some d) (hv : dat S 60 v = some d) (hd : d.canLay0 = true) : eqD S u v = some true := by
  rw [eqD_of hu hv hd hd, SeqAt.eqv_refl d hd]
theorem dat_lst {r : Nat} {us : List U} (h : S[r]? = some (.lst us)) (hf : us.all okF = true) : dat S 60 (.ref r) = some (.list (us.map fd)) ∧ PyData.canLay0 (.list (us.map fd)) = true := by
  obtain ⟨h1, h2⟩ := dat_flats (S := S) (n := 58) hf
  refine ⟨?_, by rw [PyData.canLay0]; exact h2⟩
  show (match S[r]? with
    | some (.lst us) => (optAll (dat S 59) us).map PyData.list
    | some (.ro us) => (optAll (dat S 59) us).map PyData.list
    | _ => none) = _
  rw [h]
  simp only [h1, Option.map_some]
theorem eqD_lst {p q : Nat} {us : List U} (hp : S[p]? = some (.lst us)) (hq : S[q]? = some (.lst us)) (hf : us.all okF = true) : eqD S (.ref p) (.ref q) = some true :=
  eqD_same (dat_lst hp hf).1 (dat_lst hq hf).1 (dat_lst hp hf).2
theorem eqD_str {x : Str} (hx : PyData.canLay0 (.str x) = true) : eqD S (.str x) (.str x) = some true := eqD_same (by simp only [dat]) (by simp only [dat]) hx
theorem eqD_bl {a b : Bool} : eqD S (.bl a) (.bl b) = some (a == b) := by
  rw [eqD_of (d := .bool a) (e := .bool b) (by simp only [dat]) (by simp only [dat]) rfl rfl]
  cases a <;> cases b <;> rfl
@[simp] theorem z_eqB {a b : Bool} : opCmp S .Eq (.bl a) (.bl b) = some (a == b) := by
  show eqD S (.bl a) (.bl b) = _
  exact eqD_bl
@[simp] theorem z_neB {a b : Bool} : opCmp S .NotEq (.bl a) (.bl b) = some (!(a == b)) := by
  show (eqD S (.bl a) (.bl b)).map (!·) = _
  rw [eqD_bl]; simp only [Option.map_some]
theorem z_ne {u v : U} {b : Bool} (h : eqD S u v = some b) : opCmp S .NotEq u v = some (!b) := by
  show (eqD S u v).map (!·) = _
  rw [h]; simp only [Option.map_some]
theorem z_eq {u v : U} {b : Bool} (h : eqD S u v = some b) : opCmp S .Eq u v = some b := h
end
end Ev

set_option Elab.async false
set_option linter.all false
set_option maxRecDepth 100000
set_option maxHeartbeats 0
/-! The text of the law, by places. -/
namespace Tx
open PySem L2 Ev
def top (i : Nat) : Stmt := PySem.Challenge.pw_groupbooks_k19_refusals_apart.main.body.getD i (.Pass ⟨0, 0, 0, 0⟩)
def b__law_cell : USs := (.cons (.ife (.val (.cmp .Lt (.var 1) (.bcall "len" (.cons (.var 0) .nil)))) (.cons (.ret (.sub (.var 0) (.var 1))) .nil) .nil) (.cons (.ret (.con (.int 0))) .nil))
def d__law_cell : DefL := { key := "_law_cell", at_ := ("_law_cell", none), name := "_law_cell", qual := "_law_cell", params := defArgs (top 21), body := defBody (top 21), scope := defScope (top 21), ps := ["script", "k"], N := ["script", "k"], dfl := [], u := { n := 2, N := 2, dfl := [], body := b__law_cell } }
def b__law_name : USs := (.cons (.asg (.name 1) (.con (.str "abcdefghijklmnopqrstuvwxyz"))) (.cons (.asg (.name 2) (.con (.str ""))) (.cons (.for (.name 3) (.rng1 (.bin .Add (.con (.int 1)) (.bin .Mod (.var 0) (.con (.int 8))))) (.cons (.asg (.name 2) (.bin .Add (.var 2) (.sub (.var 1) (.bin .Mod (.bin .FloorDiv (.bin .FloorDiv (.var 0) (.con (.int 8))) (.bin .Add (.con (.int 1)) (.bin .Mult (.con (.int 26)) (.var 3)))) (.con (.int 26)))))) .nil)) (.cons (.ret (.var 2)) .nil))))
def d__law_name : DefL := { key := "_law_name", at_ := ("_law_name", none), name := "_law_name", qual := "_law_name", params := defArgs (top 22), body := defBody (top 22), scope := defScope (top 22), ps := ["cell"], N := ["cell", "letters", "word", "k"], dfl := [], u := { n := 1, N := 4, dfl := [], body := b__law_name } }
def b__law_number : USs := (.cons (.ife (.val (.cmp .Eq (.bin .Mod (.var 0) (.con (.int 3))) (.con (.int 0)))) (.cons (.ret (.bin .Sub (.bin .Mod (.bin .FloorDiv (.var 0) (.con (.int 3))) (.con (.int 13))) (.con (.int 6)))) .nil) .nil) (.cons (.ret (.bin .FloorDiv (.bin .Pow (.bin .Sub (.bin .Mod (.bin .FloorDiv (.var 0) (.con (.int 3))) (.bin .Mult (.con (.int 2)) (.bin .Pow (.con (.int 10)) (.con (.int 20))))) (.bin .Pow (.con (.int 10)) (.con (.int 20)))) (.con (.int 3))) (.bin .Pow (.con (.int 10)) (.con (.int 4))))) .nil))
def d__law_number : DefL := { key := "_law_number", at_ := ("_law_number", none), name := "_law_number", qual := "_law_number", params := defArgs (top 23), body := defBody (top 23), scope := defScope (top 23), ps := ["cell"], N := ["cell"], dfl := [], u := { n := 1, N := 1, dfl := [], body := b__law_number } }
def b__law_one : USs := (.cons (.ife (.and (.val (.cmp .Eq (.var 0) (.con (.int 0)))) (.val (.cmp .Eq (.bin .Mod (.var 2) (.con (.int 2))) (.con (.int 0))))) (.cons (.raise "NoNumber" [] .nil) .nil) .nil) (.cons (.ife (.val (.cmp .Eq (.var 0) (.con (.int 0)))) (.cons (.raise "NoNumber" [] (.cons (.var 1) .nil)) .nil) .nil) (.cons (.ife (.and (.val (.cmp .Eq (.var 0) (.con (.int 1)))) (.val (.cmp .Eq (.bin .Mod (.var 2) (.con (.int 2))) (.con (.int 0))))) (.cons (.raise "NoRow" [] .nil) .nil) .nil) (.cons (.ife (.val (.cmp .Eq (.var 0) (.con (.int 1)))) (.cons (.raise "NoRow" [] (.cons (.var 1) .nil)) .nil) .nil) (.cons (.ife (.val (.cmp .Eq (.var 0) (.con (.int 2)))) (.cons (.raise "NoFirm" ["name"] (.cons (.var 1) .nil)) .nil) .nil) (.cons (.ife (.val (.cmp .Eq (.var 0) (.con (.int 3)))) (.cons (.raise "Unheld" ["firm"] (.cons (.var 1) .nil)) .nil) .nil) (.cons (.ife (.val (.cmp .Eq (.var 0) (.con (.int 4)))) (.cons (.raise "NoSister" ["name"] (.cons (.var 1) .nil)) .nil) .nil) (.cons (.ife (.val (.cmp .Eq (.var 0) (.con (.int 5)))) (.cons (.raise "NoAccount" ["account"] (.cons (.var 1) .nil)) .nil) .nil) (.cons (.ife (.val (.cmp .Eq (.var 0) (.con (.int 6)))) (.cons (.raise "BadAmount" ["amount"] (.cons (.var 2) .nil)) .nil) .nil) (.cons (.ife (.val (.cmp .Eq (.var 0) (.con (.int 7)))) (.cons (.raise "NoDeed" ["number"] (.cons (.var 2) .nil)) .nil) .nil) (.cons (.ife (.val (.cmp .Eq (.var 0) (.con (.int 8)))) (.cons (.raise "Broken" ["number"] (.cons (.var 2) .nil)) .nil) .nil) (.cons (.ife (.val (.cmp .Eq (.var 0) (.con (.int 9)))) (.cons (.raise "NoGoods" ["holding"] (.cons (.var 2) .nil)) .nil) .nil) (.cons (.ife (.val (.cmp .Eq (.var 0) (.con (.int 10)))) (.cons (.raise "Ringed" ["ring"] (.cons (.lc [4] (.name 4) (.seq (.var 3)) .nil (.bin .Add (.slc (.var 1) .none (.some (.con (.int 7)))) (.sub (.con (.str "ncatqbz")) (.bin .Mod (.var 4) (.con (.int 7)))))) .nil)) .nil) .nil) (.cons (.raise "Singular" ["mix"] (.cons (.bcall "list" (.cons (.var 3) .nil)) .nil)) .nil))))))))))))))
def d__law_one : DefL := { key := "_law_one", at_ := ("_law_one", none), name := "_law_one", qual := "_law_one", params := defArgs (top 24), body := defBody (top 24), scope := defScope (top 24), ps := ["k", "word", "number", "some"], N := ["k", "word", "number", "some", "one"], dfl := [], u := { n := 4, N := 5, dfl := [], body := b__law_one } }
def b__law_two : USs := (.cons (.ife (.val (.cmp .Eq (.var 0) (.con (.int 12)))) (.cons (.raise "NoRate" ["coin", "day"] (.cons (.var 1) (.cons (.sub (.var 3) (.con (.int 0))) .nil))) .nil) .nil) (.cons (.ife (.val (.cmp .Eq (.var 0) (.con (.int 13)))) (.cons (.raise "Twice" ["coin", "day"] (.cons (.var 1) (.cons (.sub (.var 3) (.con (.int 0))) .nil))) .nil) .nil) (.cons (.ife (.val (.cmp .Eq (.var 0) (.con (.int 14)))) (.cons (.raise "Closed" ["book", "month"] (.cons (.var 1) (.cons (.sub (.var 3) (.con (.int 0))) .nil))) .nil) .nil) (.cons (.ife (.val (.cmp .Eq (.var 0) (.con (.int 15)))) (.cons (.raise "BadPaper" ["book", "month"] (.cons (.var 1) (.cons (.sub (.var 3) (.con (.int 0))) .nil))) .nil) .nil) (.cons (.ife (.val (.cmp .Eq (.var 0) (.con (.int 16)))) (.cons (.raise "TooFew" ["holding", "lack"] (.cons (.sub (.var 3) (.con (.int 0))) (.cons (.sub (.var 3) (.con (.int 1))) .nil))) .nil) .nil) (.cons (.raise "Unbalanced" ["book", "coin", "rest"] (.cons (.var 1) (.cons (.var 2) (.cons (.sub (.var 3) (.con (.int 1))) .nil)))) .nil))))))
def d__law_two : DefL := { key := "_law_two", at_ := ("_law_two", none), name := "_law_two", qual := "_law_two", params := defArgs (top 25), body := defBody (top 25), scope := defScope (top 25), ps := ["k", "word", "other", "numbers"], N := ["k", "word", "other", "numbers"], dfl := [], u := { n := 4, N := 4, dfl := [], body := b__law_two } }
def b__law_raise : USs := (.cons (.asg (.tup (.cons (.name 2) (.cons (.name 3) (.cons (.name 4) (.cons (.name 5) .nil))))) (.var 1)) (.cons (.ife (.val (.cmp .Lt (.var 0) (.con (.int 12)))) (.cons (.expr (.call "_law_one" (.cons (.var 0) (.cons (.var 2) (.cons (.sub (.var 4) (.con (.int 0))) (.cons (.var 5) .nil)))))) .nil) (.cons (.expr (.call "_law_two" (.cons (.var 0) (.cons (.var 2) (.cons (.var 3) (.cons (.var 4) .nil)))))) .nil)) .nil))
def d__law_raise : DefL := { key := "_law_raise", at_ := ("_law_raise", none), name := "_law_raise", qual := "_law_raise", params := defArgs (top 26), body := defBody (top 26), scope := defScope (top 26), ps := ["k", "things"], N := ["k", "things", "word", "other", "numbers", "some"], dfl := [], u := { n := 2, N := 6, dfl := [], body := b__law_raise } }
def b__law_kinds : USs := (.cons (.try (.cons (.expr (.call "_law_raise" (.cons (.var 0) (.cons (.var 1) .nil)))) .nil) (.cons "BooksError" (some 2) (.cons (.asg (.name 3) (.lst (.cons (.xisa "NoNumber") (.cons (.xisa "NoRow") (.cons (.xisa "NoFirm") (.cons (.xisa "Unheld") .nil)))))) (.cons (.asg (.name 3) (.bin .Add (.var 3) (.lst (.cons (.xisa "NoSister") (.cons (.xisa "NoAccount") (.cons (.xisa "BadAmount") .nil)))))) (.cons (.asg (.name 3) (.bin .Add (.var 3) (.lst (.cons (.xisa "NoDeed") (.cons (.xisa "Broken") (.cons (.xisa "NoGoods") (.cons (.xisa "Ringed") .nil))))))) (.cons (.asg (.name 3) (.bin .Add (.var 3) (.lst (.cons (.xisa "Singular") (.cons (.xisa "NoRate") (.cons (.xisa "Twice") (.cons (.xisa "Closed") .nil))))))) (.cons (.asg (.name 3) (.bin .Add (.var 3) (.lst (.cons (.xisa "BadPaper") (.cons (.xisa "TooFew") (.cons (.xisa "Unbalanced") .nil)))))) (.cons (.ret (.bin .Add (.var 3) (.lst (.cons (.xisa "ValueError") .nil)))) .nil)))))) .nil) .nil) (.cons (.ret (.lst .nil)) .nil))
def d__law_kinds : DefL := { key := "_law_kinds", at_ := ("_law_kinds", none), name := "_law_kinds", qual := "_law_kinds", params := defArgs (top 27), body := defBody (top 27), scope := defScope (top 27), ps := ["k", "things"], N := ["k", "things", "e", "found"], dfl := [], u := { n := 2, N := 4, dfl := [], body := b__law_kinds } }
def b__law_lone : USs := (.cons (.try (.cons (.expr (.call "_law_raise" (.cons (.var 0) (.cons (.var 1) .nil)))) .nil) (.cons "NoFirm" (some 2) (.cons (.ret (.lst (.cons (.xattr "name") .nil))) .nil) (.cons "Unheld" (some 2) (.cons (.ret (.lst (.cons (.xattr "firm") .nil))) .nil) (.cons "NoSister" (some 2) (.cons (.ret (.lst (.cons (.xattr "name") .nil))) .nil) (.cons "NoAccount" (some 2) (.cons (.ret (.lst (.cons (.xattr "account") .nil))) .nil) (.cons "BadAmount" (some 2) (.cons (.ret (.lst (.cons (.xattr "amount") .nil))) .nil) (.cons "NoDeed" (some 2) (.cons (.ret (.lst (.cons (.xattr "number") .nil))) .nil) (.cons "Broken" (some 2) (.cons (.ret (.lst (.cons (.xattr "number") .nil))) .nil) (.cons "NoGoods" (some 2) (.cons (.ret (.lst (.cons (.xattr "holding") .nil))) .nil) (.cons "Ringed" (some 2) (.cons (.ret (.lst (.cons (.xattr "ring") .nil))) .nil) (.cons "Singular" (some 2) (.cons (.ret (.lst (.cons (.xattr "mix") .nil))) .nil) (.cons "BooksError" none (.cons (.ret (.lst .nil)) .nil) .nil))))))))))) .nil) (.cons (.ret (.lst (.cons (.con .non) .nil))) .nil))
def d__law_lone : DefL := { key := "_law_lone", at_ := ("_law_lone", none), name := "_law_lone", qual := "_law_lone", params := defArgs (top 28), body := defBody (top 28), scope := defScope (top 28), ps := ["k", "things"], N := ["k", "things", "e"], dfl := [], u := { n := 2, N := 3, dfl := [], body := b__law_lone } }
def b__law_paired : USs := (.cons (.try (.cons (.expr (.call "_law_raise" (.cons (.var 0) (.cons (.var 1) .nil)))) .nil) (.cons "NoRate" (some 2) (.cons (.ret (.lst (.cons (.xattr "coin") (.cons (.xattr "day") .nil)))) .nil) (.cons "Twice" (some 2) (.cons (.ret (.lst (.cons (.xattr "coin") (.cons (.xattr "day") .nil)))) .nil) (.cons "Closed" (some 2) (.cons (.ret (.lst (.cons (.xattr "book") (.cons (.xattr "month") .nil)))) .nil) (.cons "BadPaper" (some 2) (.cons (.ret (.lst (.cons (.xattr "book") (.cons (.xattr "month") .nil)))) .nil) (.cons "TooFew" (some 2) (.cons (.ret (.lst (.cons (.xattr "holding") (.cons (.xattr "lack") .nil)))) .nil) (.cons "Unbalanced" (some 2) (.cons (.ret (.lst (.cons (.xattr "book") (.cons (.xattr "coin") (.cons (.xattr "rest") .nil))))) .nil) (.cons "BooksError" none (.cons (.ret (.lst .nil)) .nil) .nil))))))) .nil) (.cons (.ret (.lst (.cons (.con .non) .nil))) .nil))
def d__law_paired : DefL := { key := "_law_paired", at_ := ("_law_paired", none), name := "_law_paired", qual := "_law_paired", params := defArgs (top 29), body := defBody (top 29), scope := defScope (top 29), ps := ["k", "things"], N := ["k", "things", "e"], dfl := [], u := { n := 2, N := 3, dfl := [], body := b__law_paired } }
def b__law_due : USs := (.cons (.asg (.tup (.cons (.name 2) (.cons (.name 3) (.cons (.name 4) (.cons (.name 5) .nil))))) (.var 1)) (.cons (.ife (.val (.cmp .Lt (.var 0) (.con (.int 2)))) (.cons (.ret (.lst .nil)) .nil) .nil) (.cons (.ife (.val (.cmp .Lt (.var 0) (.con (.int 6)))) (.cons (.ret (.lst (.cons (.var 2) .nil))) .nil) .nil) (.cons (.ife (.val (.cmp .Lt (.var 0) (.con (.int 10)))) (.cons (.ret (.lst (.cons (.sub (.var 4) (.con (.int 0))) .nil))) .nil) .nil) (.cons (.ife (.val (.cmp .Eq (.var 0) (.con (.int 10)))) (.cons (.ret (.lst (.cons (.lc [6] (.name 6) (.seq (.var 5)) .nil (.bin .Add (.slc (.var 2) .none (.some (.con (.int 7)))) (.sub (.con (.str "ncatqbz")) (.bin .Mod (.var 6) (.con (.int 7)))))) .nil))) .nil) .nil) (.cons (.ife (.val (.cmp .Eq (.var 0) (.con (.int 11)))) (.cons (.ret (.lst (.cons (.var 5) .nil))) .nil) .nil) (.cons (.ife (.val (.cmp .Lt (.var 0) (.con (.int 16)))) (.cons (.ret (.lst (.cons (.var 2) (.cons (.sub (.var 4) (.con (.int 0))) .nil)))) .nil) .nil) (.cons (.ret (.sub (.lst (.cons (.lst (.cons (.sub (.var 4) (.con (.int 0))) (.cons (.sub (.var 4) (.con (.int 1))) .nil))) (.cons (.lst (.cons (.var 2) (.cons (.var 3) (.cons (.sub (.var 4) (.con (.int 1))) .nil)))) .nil))) (.bin .Sub (.var 0) (.con (.int 16))))) .nil))))))))
def d__law_due : DefL := { key := "_law_due", at_ := ("_law_due", none), name := "_law_due", qual := "_law_due", params := defArgs (top 30), body := defBody (top 30), scope := defScope (top 30), ps := ["k", "things"], N := ["k", "things", "word", "other", "numbers", "some", "one"], dfl := [], u := { n := 2, N := 7, dfl := [], body := b__law_due } }
def b__law_alike : USs := (.cons (.ife (.val (.cmp .NotEq (.bcall "len" (.cons (.var 0) .nil)) (.bcall "len" (.cons (.var 1) .nil)))) (.cons (.ret (.con (.bl false))) .nil) .nil) (.cons (.for (.tup (.cons (.name 2) (.cons (.name 3) .nil))) (.zip (.var 0) (.var 1)) (.cons (.ife (.or (.val (.isty (.var 2) ["bool"])) (.val (.cmp .NotEq (.isty (.var 2) ["str"]) (.isty (.var 3) ["str"])))) (.cons (.ret (.con (.bl false))) .nil) .nil) (.cons (.ife (.or (.val (.cmp .NotEq (.isty (.var 2) ["list"]) (.isty (.var 3) ["list"]))) (.val (.cmp .NotEq (.var 2) (.var 3)))) (.cons (.ret (.con (.bl false))) .nil) .nil) .nil))) (.cons (.ret (.con (.bl true))) .nil)))
def d__law_alike : DefL := { key := "_law_alike", at_ := ("_law_alike", none), name := "_law_alike", qual := "_law_alike", params := defArgs (top 31), body := defBody (top 31), scope := defScope (top 31), ps := ["found", "due"], N := ["found", "due", "one", "other"], dfl := [], u := { n := 2, N := 4, dfl := [], body := b__law_alike } }
def b_law : USs := (.cons (.for (.name 1) (.rng1 (.con (.int 18))) (.cons (.asg (.name 2) (.call "_law_name" (.cons (.call "_law_cell" (.cons (.var 0) (.cons (.bin .Mult (.con (.int 3)) (.var 1)) .nil))) .nil))) (.cons (.asg (.name 3) (.call "_law_name" (.cons (.call "_law_cell" (.cons (.var 0) (.cons (.bin .Add (.bin .Mult (.con (.int 3)) (.var 1)) (.con (.int 1))) .nil))) .nil))) (.cons (.asg (.name 4) (.lst (.cons (.call "_law_number" (.cons (.call "_law_cell" (.cons (.var 0) (.cons (.bin .Add (.bin .Mult (.con (.int 3)) (.var 1)) (.con (.int 1))) .nil))) .nil)) (.cons (.call "_law_number" (.cons (.call "_law_cell" (.cons (.var 0) (.cons (.bin .Add (.bin .Mult (.con (.int 3)) (.var 1)) (.con (.int 2))) .nil))) .nil)) .nil)))) (.cons (.asg (.name 5) (.lc [6] (.name 6) (.rng1 (.bin .Mod (.call "_law_cell" (.cons (.var 0) (.cons (.bin .Add (.bin .Mult (.con (.int 3)) (.var 1)) (.con (.int 2))) .nil))) (.con (.int 7)))) .nil (.bin .Add (.sub (.var 4) (.bin .Mod (.var 6) (.con (.int 2)))) (.var 6)))) (.cons (.asg (.name 7) (.tup (.cons (.var 2) (.cons (.var 3) (.cons (.var 4) (.cons (.var 5) .nil)))))) (.cons (.ife (.val (.cmp .NotEq (.call "_law_kinds" (.cons (.var 1) (.cons (.var 7) .nil))) (.bin .Add (.lc [8] (.name 8) (.rng1 (.con (.int 18))) .nil (.cmp .Eq (.var 8) (.var 1))) (.lst (.cons (.con (.bl true)) .nil))))) (.cons (.ret (.con (.bl false))) .nil) .nil) (.cons (.asg (.name 9) (.call "_law_due" (.cons (.var 1) (.cons (.var 7) .nil)))) (.cons (.ife (.and (.val (.cmp .Lt (.var 1) (.con (.int 12)))) (.not (.val (.call "_law_alike" (.cons (.call "_law_lone" (.cons (.var 1) (.cons (.var 7) .nil))) (.cons (.var 9) .nil)))))) (.cons (.ret (.con (.bl false))) .nil) .nil) (.cons (.ife (.and (.val (.cmp .Gt (.var 1) (.con (.int 11)))) (.not (.val (.call "_law_alike" (.cons (.call "_law_paired" (.cons (.var 1) (.cons (.var 7) .nil))) (.cons (.var 9) .nil)))))) (.cons (.ret (.con (.bl false))) .nil) .nil) .nil)))))))))) (.cons (.ret (.con (.bl true))) .nil))
def d_law : DefL := { key := "law", at_ := ("law", none), name := "law", qual := "law", params := defArgs (top 32), body := defBody (top 32), scope := defScope (top 32), ps := ["script"], N := ["script", "k", "word", "other", "numbers", "some", "j", "things", "at", "due"], dfl := [], u := { n := 1, N := 10, dfl := [], body := b_law } }
def x_NoNumber : XD := ⟨"NoNumber", "NoNumber", none, ⟨("", none), "", "", ⟨[], [], none, [], [], none, []⟩, [], ⟨.function, [], false, false, []⟩, [], []⟩⟩
def x_NoRate : XD := ⟨"NoRate", "NoRate", some ["coin", "day"], ⟨("NoRate", some "__init__"), "__init__", "NoRate.__init__", defArgs (inClass (top 3) 0), defBody (inClass (top 3) 0), defScope (inClass (top 3) 0), [], []⟩⟩
def x_Twice : XD := ⟨"Twice", "Twice", some ["coin", "day"], ⟨("Twice", some "__init__"), "__init__", "Twice.__init__", defArgs (inClass (top 4) 0), defBody (inClass (top 4) 0), defScope (inClass (top 4) 0), [], []⟩⟩
def x_Unbalanced : XD := ⟨"Unbalanced", "Unbalanced", some ["book", "coin", "rest"], ⟨("Unbalanced", some "__init__"), "__init__", "Unbalanced.__init__", defArgs (inClass (top 5) 0), defBody (inClass (top 5) 0), defScope (inClass (top 5) 0), [], []⟩⟩
def x_Closed : XD := ⟨"Closed", "Closed", some ["book", "month"], ⟨("Closed", some "__init__"), "__init__", "Closed.__init__", defArgs (inClass (top 6) 0), defBody (inClass (top 6) 0), defScope (inClass (top 6) 0), [], []⟩⟩
def x_BadPaper : XD := ⟨"BadPaper", "BadPaper", some ["book", "month"], ⟨("BadPaper", some "__init__"), "__init__", "BadPaper.__init__", defArgs (inClass (top 7) 0), defBody (inClass (top 7) 0), defScope (inClass (top 7) 0), [], []⟩⟩
def x_NoFirm : XD := ⟨"NoFirm", "NoFirm", some ["name"], ⟨("NoFirm", some "__init__"), "__init__", "NoFirm.__init__", defArgs (inClass (top 8) 0), defBody (inClass (top 8) 0), defScope (inClass (top 8) 0), [], []⟩⟩
def x_BadAmount : XD := ⟨"BadAmount", "BadAmount", some ["amount"], ⟨("BadAmount", some "__init__"), "__init__", "BadAmount.__init__", defArgs (inClass (top 9) 0), defBody (inClass (top 9) 0), defScope (inClass (top 9) 0), [], []⟩⟩
def x_Unheld : XD := ⟨"Unheld", "Unheld", some ["firm"], ⟨("Unheld", some "__init__"), "__init__", "Unheld.__init__", defArgs (inClass (top 10) 0), defBody (inClass (top 10) 0), defScope (inClass (top 10) 0), [], []⟩⟩
def x_Ringed : XD := ⟨"Ringed", "Ringed", some ["ring"], ⟨("Ringed", some "__init__"), "__init__", "Ringed.__init__", defArgs (inClass (top 11) 0), defBody (inClass (top 11) 0), defScope (inClass (top 11) 0), [], []⟩⟩
def x_Singular : XD := ⟨"Singular", "Singular", some ["mix"], ⟨("Singular", some "__init__"), "__init__", "Singular.__init__", defArgs (inClass (top 12) 0), defBody (inClass (top 12) 0), defScope (inClass (top 12) 0), [], []⟩⟩
def x_NoSister : XD := ⟨"NoSister", "NoSister", some ["name"], ⟨("NoSister", some "__init__"), "__init__", "NoSister.__init__", defArgs (inClass (top 13) 0), defBody (inClass (top 13) 0), defScope (inClass (top 13) 0), [], []⟩⟩
def x_NoAccount : XD := ⟨"NoAccount", "NoAccount", some ["account"], ⟨("NoAccount", some "__init__"), "__init__", "NoAccount.__init__", defArgs (inClass (top 14) 0), defBody (inClass (top 14) 0), defScope (inClass (top 14) 0), [], []⟩⟩
def x_NoGoods : XD := ⟨"NoGoods", "NoGoods", some ["holding"], ⟨("NoGoods", some "__init__"), "__init__", "NoGoods.__init__", defArgs (inClass (top 15) 0), defBody (inClass (top 15) 0), defScope (inClass (top 15) 0), [], []⟩⟩
def x_TooFew : XD := ⟨"TooFew", "TooFew", some ["holding", "lack"], ⟨("TooFew", some "__init__"), "__init__", "TooFew.__init__", defArgs (inClass (top 16) 0), defBody (inClass (top 16) 0), defScope (inClass (top 16) 0), [], []⟩⟩
def x_NoDeed : XD := ⟨"NoDeed", "NoDeed", some ["number"], ⟨("NoDeed", some "__init__"), "__init__", "NoDeed.__init__", defArgs (inClass (top 17) 0), defBody (inClass (top 17) 0), defScope (inClass (top 17) 0), [], []⟩⟩
def x_Broken : XD := ⟨"Broken", "Broken", some ["number"], ⟨("Broken", some "__init__"), "__init__", "Broken.__init__", defArgs (inClass (top 18) 0), defBody (inClass (top 18) 0), defScope (inClass (top 18) 0), [], []⟩⟩
def x_NoRow : XD := ⟨"NoRow", "NoRow", none, ⟨("", none), "", "", ⟨[], [], none, [], [], none, []⟩, [], ⟨.function, [], false, false, []⟩, [], []⟩⟩
def meths : List ((String × String) × String) := []
def dfs0 : List DefL := [d__law_cell, d__law_name, d__law_number, d__law_one, d__law_two, d__law_raise, d__law_kinds, d__law_lone, d__law_paired, d__law_due, d__law_alike, d_law]
def dfs : List DefL := dfs0
def fnx0 : List (Str × String) := [("_law_cell", "_law_cell"), ("_law_name", "_law_name"), ("_law_number", "_law_number"), ("_law_one", "_law_one"), ("_law_two", "_law_two"), ("_law_raise", "_law_raise"), ("_law_kinds", "_law_kinds"), ("_law_lone", "_law_lone"), ("_law_paired", "_law_paired"), ("_law_due", "_law_due"), ("_law_alike", "_law_alike"), ("law", "law")]
def fnx : List (Str × String) := fnx0
def clss : List CD := []
def excs : List XD := [x_NoNumber, x_NoRate, x_Twice, x_Unbalanced, x_Closed, x_BadPaper, x_NoFirm, x_BadAmount, x_Unheld, x_Ringed, x_Singular, x_NoSister, x_NoAccount, x_NoGoods, x_TooFew, x_NoDeed, x_Broken, x_NoRow]
def subs : List (String × String) := [("NoNumber", "NoNumber"), ("NoNumber", "BooksError"), ("NoNumber", "ValueError"), ("NoRate", "NoRate"), ("NoRate", "BooksError"), ("NoRate", "ValueError"), ("Twice", "Twice"), ("Twice", "BooksError"), ("Twice", "ValueError"), ("Unbalanced", "Unbalanced"), ("Unbalanced", "BooksError"), ("Unbalanced", "ValueError"), ("Closed", "Closed"), ("Closed", "BooksError"), ("Closed", "ValueError"), ("BadPaper", "BadPaper"), ("BadPaper", "BooksError"), ("BadPaper", "ValueError"), ("NoFirm", "NoFirm"), ("NoFirm", "BooksError"), ("NoFirm", "ValueError"), ("BadAmount", "BadAmount"), ("BadAmount", "BooksError"), ("BadAmount", "ValueError"), ("Unheld", "Unheld"), ("Unheld", "BooksError"), ("Unheld", "ValueError"), ("Ringed", "Ringed"), ("Ringed", "BooksError"), ("Ringed", "ValueError"), ("Singular", "Singular"), ("Singular", "BooksError"), ("Singular", "ValueError"), ("NoSister", "NoSister"), ("NoSister", "BooksError"), ("NoSister", "ValueError"), ("NoAccount", "NoAccount"), ("NoAccount", "BooksError"), ("NoAccount", "ValueError"), ("NoGoods", "NoGoods"), ("NoGoods", "BooksError"), ("NoGoods", "ValueError"), ("TooFew", "TooFew"), ("TooFew", "BooksError"), ("TooFew", "ValueError"), ("NoDeed", "NoDeed"), ("NoDeed", "BooksError"), ("NoDeed", "ValueError"), ("Broken", "Broken"), ("Broken", "BooksError"), ("Broken", "ValueError"), ("NoRow", "NoRow"), ("NoRow", "BooksError"), ("NoRow", "ValueError")]
def T : TxD := { fuel := 60, free := ["len", "range", "list", "isinstance", "zip", "bool", "str"], defs := dfs, fnx := fnx, clss := clss, excs := excs, cat := [("BooksError", "BooksError", true), ("NoNumber", "NoNumber", true), ("NoRow", "NoRow", true), ("NoFirm", "NoFirm", true), ("Unheld", "Unheld", true), ("NoSister", "NoSister", true), ("NoAccount", "NoAccount", true), ("BadAmount", "BadAmount", true), ("NoDeed", "NoDeed", true), ("Broken", "Broken", true), ("NoGoods", "NoGoods", true), ("Ringed", "Ringed", true), ("Singular", "Singular", true), ("NoRate", "NoRate", true), ("Twice", "Twice", true), ("Closed", "Closed", true), ("BadPaper", "BadPaper", true), ("TooFew", "TooFew", true), ("Unbalanced", "Unbalanced", true), ("ValueError", "ValueError", false)], flds := [("coin", "coin"), ("day", "day"), ("book", "book"), ("rest", "rest"), ("month", "month"), ("name", "name"), ("amount", "amount"), ("firm", "firm"), ("ring", "ring"), ("mix", "mix"), ("account", "account"), ("holding", "holding"), ("lack", "lack"), ("number", "number")], xb := "BooksError", meth := fun c m => meths.lookup (c, m), sub := fun a b => subs.contains (a, b) }
theorem c__law_cell : cSs ((comp T.fuel).s (ceOf T.tb d__law_cell)) d__law_cell.body = some d__law_cell.u.body := by kernel_rfl
theorem n__law_cell : BndOk d__law_cell := bnd0 rfl fun _ _ _ _ _ _ us hl => match us, hl with | [_, _], _ => rfl
theorem c__law_name : cSs ((comp T.fuel).s (ceOf T.tb d__law_name)) d__law_name.body = some d__law_name.u.body := by kernel_rfl
theorem n__law_name : BndOk d__law_name := bnd0 rfl fun _ _ _ _ _ _ us hl => match us, hl with | [_], _ => rfl
theorem c__law_number : cSs ((comp T.fuel).s (ceOf T.tb d__law_number)) d__law_number.body = some d__law_number.u.body := by kernel_rfl
theorem n__law_number : BndOk d__law_number := bnd0 rfl fun _ _ _ _ _ _ us hl => match us, hl with | [_], _ => rfl
theorem c__law_one : cSs ((comp T.fuel).s (ceOf T.tb d__law_one)) d__law_one.body = some d__law_one.u.body := by kernel_rfl
theorem n__law_one : BndOk d__law_one := bnd0 rfl fun _ _ _ _ _ _ us hl => match us, hl with | [_, _, _, _], _ => rfl
theorem c__law_two : cSs ((comp T.fuel).s (ceOf T.tb d__law_two)) d__law_two.body = some d__law_two.u.body := by kernel_rfl
theorem n__law_two : BndOk d__law_two := bnd0 rfl fun _ _ _ _ _ _ us hl => match us, hl with | [_, _, _, _], _ => rfl
theorem c__law_raise : cSs ((comp T.fuel).s (ceOf T.tb d__law_raise)) d__law_raise.body = some d__law_raise.u.body := by kernel_rfl
theorem n__law_raise : BndOk d__law_raise := bnd0 rfl fun _ _ _ _ _ _ us hl => match us, hl with | [_, _], _ => rfl
theorem c__law_kinds : cSs ((comp T.fuel).s (ceOf T.tb d__law_kinds)) d__law_kinds.body = some d__law_kinds.u.body := by kernel_rfl
theorem n__law_kinds : BndOk d__law_kinds := bnd0 rfl fun _ _ _ _ _ _ us hl => match us, hl with | [_, _], _ => rfl
theorem c__law_lone : cSs ((comp T.fuel).s (ceOf T.tb d__law_lone)) d__law_lone.body = some d__law_lone.u.body := by kernel_rfl
theorem n__law_lone : BndOk d__law_lone := bnd0 rfl fun _ _ _ _ _ _ us hl => match us, hl with | [_, _], _ => rfl
theorem c__law_paired : cSs ((comp T.fuel).s (ceOf T.tb d__law_paired)) d__law_paired.body = some d__law_paired.u.body := by kernel_rfl
theorem n__law_paired : BndOk d__law_paired := bnd0 rfl fun _ _ _ _ _ _ us hl => match us, hl with | [_, _], _ => rfl
theorem c__law_due : cSs ((comp T.fuel).s (ceOf T.tb d__law_due)) d__law_due.body = some d__law_due.u.body := by kernel_rfl
theorem n__law_due : BndOk d__law_due := bnd0 rfl fun _ _ _ _ _ _ us hl => match us, hl with | [_, _], _ => rfl
theorem c__law_alike : cSs ((comp T.fuel).s (ceOf T.tb d__law_alike)) d__law_alike.body = some d__law_alike.u.body := by kernel_rfl
theorem n__law_alike : BndOk d__law_alike := bnd0 rfl fun _ _ _ _ _ _ us hl => match us, hl with | [_, _], _ => rfl
theorem c_law : cSs ((comp T.fuel).s (ceOf T.tb d_law)) d_law.body = some d_law.u.body := by kernel_rfl
theorem n_law : BndOk d_law := bnd0 rfl fun _ _ _ _ _ _ us hl => match us, hl with | [_], _ => rfl
theorem ok : T.ok = true := by kernel_rfl
theorem cm0 : ∀ d, d ∈ dfs0 → cSs ((comp T.fuel).s (ceOf T.tb d)) d.body = some d.u.body := List.forall_mem_cons.mpr ⟨c__law_cell, List.forall_mem_cons.mpr ⟨c__law_name, List.forall_mem_cons.mpr ⟨c__law_number, List.forall_mem_cons.mpr ⟨c__law_one, List.forall_mem_cons.mpr ⟨c__law_two, List.forall_mem_cons.mpr ⟨c__law_raise, List.forall_mem_cons.mpr ⟨c__law_kinds, List.forall_mem_cons.mpr ⟨c__law_lone, List.forall_mem_cons.mpr ⟨c__law_paired, List.forall_mem_cons.mpr ⟨c__law_due, List.forall_mem_cons.mpr ⟨c__law_alike, List.forall_mem_cons.mpr ⟨c_law, fun _ h => (nomatch h)⟩⟩⟩⟩⟩⟩⟩⟩⟩⟩⟩⟩
theorem nm0 : ∀ d, d ∈ dfs0 → BndOk d := List.forall_mem_cons.mpr ⟨n__law_cell, List.forall_mem_cons.mpr ⟨n__law_name, List.forall_mem_cons.mpr ⟨n__law_number, List.forall_mem_cons.mpr ⟨n__law_one, List.forall_mem_cons.mpr ⟨n__law_two, List.forall_mem_cons.mpr ⟨n__law_raise, List.forall_mem_cons.mpr ⟨n__law_kinds, List.forall_mem_cons.mpr ⟨n__law_lone, List.forall_mem_cons.mpr ⟨n__law_paired, List.forall_mem_cons.mpr ⟨n__law_due, List.forall_mem_cons.mpr ⟨n__law_alike, List.forall_mem_cons.mpr ⟨n_law, fun _ h => (nomatch h)⟩⟩⟩⟩⟩⟩⟩⟩⟩⟩⟩⟩
theorem vm0 : ∀ d, d ∈ dfs0 → ∀ K, RelDv K d.u.dfl d.dfl := List.forall_mem_cons.mpr ⟨fun K => .nil, List.forall_mem_cons.mpr ⟨fun K => .nil, List.forall_mem_cons.mpr ⟨fun K => .nil, List.forall_mem_cons.mpr ⟨fun K => .nil, List.forall_mem_cons.mpr ⟨fun K => .nil, List.forall_mem_cons.mpr ⟨fun K => .nil, List.forall_mem_cons.mpr ⟨fun K => .nil, List.forall_mem_cons.mpr ⟨fun K => .nil, List.forall_mem_cons.mpr ⟨fun K => .nil, List.forall_mem_cons.mpr ⟨fun K => .nil, List.forall_mem_cons.mpr ⟨fun K => .nil, List.forall_mem_cons.mpr ⟨fun K => .nil, fun _ h => (nomatch h)⟩⟩⟩⟩⟩⟩⟩⟩⟩⟩⟩⟩
theorem mem_app {α : Type} {P : α → Prop} {l r : List α} (h : ∀ d, d ∈ l → P d) (k : ∀ d, d ∈ r → P d) : ∀ d, d ∈ l ++ r → P d := fun d hd => (List.mem_append.mp hd).elim (h d) (k d)
theorem cm : ∀ d, d ∈ T.defs → cSs ((comp T.fuel).s (ceOf T.tb d)) d.body = some d.u.body := cm0
theorem nm : ∀ d, d ∈ T.defs → BndOk d := nm0
theorem vm : ∀ d, d ∈ T.defs → ∀ K, RelDv K d.u.dfl d.dfl := vm0
theorem i_NoNumber : x_NoNumber.fs ≠ none → ∀ (K : PySem.W.Frag) (f : Addr) (fd : FuncData), FunD K x_NoNumber.ini.name x_NoNumber.ini.qual x_NoNumber.ini.params x_NoNumber.ini.body x_NoNumber.ini.scope [] [] f fd → Binds K fd ("self" :: (x_NoNumber.fs.getD []).map Str.ofString) [] := fun h => absurd rfl h
theorem i_NoRate : x_NoRate.fs ≠ none → ∀ (K : PySem.W.Frag) (f : Addr) (fd : FuncData), FunD K x_NoRate.ini.name x_NoRate.ini.qual x_NoRate.ini.params x_NoRate.ini.body x_NoRate.ini.scope [] [] f fd → Binds K fd ("self" :: (x_NoRate.fs.getD []).map Str.ofString) [] := fun _ K f fd F => F.bindsN fun _ _ _ _ _ _ us hl => match us, hl with | [_, _, _], _ => rfl
theorem i_Twice : x_Twice.fs ≠ none → ∀ (K : PySem.W.Frag) (f : Addr) (fd : FuncData), FunD K x_Twice.ini.name x_Twice.ini.qual x_Twice.ini.params x_Twice.ini.body x_Twice.ini.scope [] [] f fd → Binds K fd ("self" :: (x_Twice.fs.getD []).map Str.ofString) [] := fun _ K f fd F => F.bindsN fun _ _ _ _ _ _ us hl => match us, hl with | [_, _, _], _ => rfl
theorem i_Unbalanced : x_Unbalanced.fs ≠ none → ∀ (K : PySem.W.Frag) (f : Addr) (fd : FuncData), FunD K x_Unbalanced.ini.name x_Unbalanced.ini.qual x_Unbalanced.ini.params x_Unbalanced.ini.body x_Unbalanced.ini.scope [] [] f fd → Binds K fd ("self" :: (x_Unbalanced.fs.getD []).map Str.ofString) [] := fun _ K f fd F => F.bindsN fun _ _ _ _ _ _ us hl => match us, hl with | [_, _, _, _], _ => rfl
theorem i_Closed : x_Closed.fs ≠ none → ∀ (K : PySem.W.Frag) (f : Addr) (fd : FuncData), FunD K x_Closed.ini.name x_Closed.ini.qual x_Closed.ini.params x_Closed.ini.body x_Closed.ini.scope [] [] f fd → Binds K fd ("self" :: (x_Closed.fs.getD []).map Str.ofString) [] := fun _ K f fd F => F.bindsN fun _ _ _ _ _ _ us hl => match us, hl with | [_, _, _], _ => rfl
theorem i_BadPaper : x_BadPaper.fs ≠ none → ∀ (K : PySem.W.Frag) (f : Addr) (fd : FuncData), FunD K x_BadPaper.ini.name x_BadPaper.ini.qual x_BadPaper.ini.params x_BadPaper.ini.body x_BadPaper.ini.scope [] [] f fd → Binds K fd ("self" :: (x_BadPaper.fs.getD []).map Str.ofString) [] := fun _ K f fd F => F.bindsN fun _ _ _ _ _ _ us hl => match us, hl with | [_, _, _], _ => rfl
theorem i_NoFirm : x_NoFirm.fs ≠ none → ∀ (K : PySem.W.Frag) (f : Addr) (fd : FuncData), FunD K x_NoFirm.ini.name x_NoFirm.ini.qual x_NoFirm.ini.params x_NoFirm.ini.body x_NoFirm.ini.scope [] [] f fd → Binds K fd ("self" :: (x_NoFirm.fs.getD []).map Str.ofString) [] := fun _ K f fd F => F.bindsN fun _ _ _ _ _ _ us hl => match us, hl with | [_, _], _ => rfl
theorem i_BadAmount : x_BadAmount.fs ≠ none → ∀ (K : PySem.W.Frag) (f : Addr) (fd : FuncData), FunD K x_BadAmount.ini.name x_BadAmount.ini.qual x_BadAmount.ini.params x_BadAmount.ini.body x_BadAmount.ini.scope [] [] f fd → Binds K fd ("self" :: (x_BadAmount.fs.getD []).map Str.ofString) [] := fun _ K f fd F => F.bindsN fun _ _ _ _ _ _ us hl => match us, hl with | [_, _], _ => rfl
theorem i_Unheld : x_Unheld.fs ≠ none → ∀ (K : PySem.W.Frag) (f : Addr) (fd : FuncData), FunD K x_Unheld.ini.name x_Unheld.ini.qual x_Unheld.ini.params x_Unheld.ini.body x_Unheld.ini.scope [] [] f fd → Binds K fd ("self" :: (x_Unheld.fs.getD []).map Str.ofString) [] := fun _ K f fd F => F.bindsN fun _ _ _ _ _ _ us hl => match us, hl with | [_, _], _ => rfl
theorem i_Ringed : x_Ringed.fs ≠ none → ∀ (K : PySem.W.Frag) (f : Addr) (fd : FuncData), FunD K x_Ringed.ini.name x_Ringed.ini.qual x_Ringed.ini.params x_Ringed.ini.body x_Ringed.ini.scope [] [] f fd → Binds K fd ("self" :: (x_Ringed.fs.getD []).map Str.ofString) [] := fun _ K f fd F => F.bindsN fun _ _ _ _ _ _ us hl => match us, hl with | [_, _], _ => rfl
theorem i_Singular : x_Singular.fs ≠ none → ∀ (K : PySem.W.Frag) (f : Addr) (fd : FuncData), FunD K x_Singular.ini.name x_Singular.ini.qual x_Singular.ini.params x_Singular.ini.body x_Singular.ini.scope [] [] f fd → Binds K fd ("self" :: (x_Singular.fs.getD []).map Str.ofString) [] := fun _ K f fd F => F.bindsN fun _ _ _ _ _ _ us hl => match us, hl with | [_, _], _ => rfl
theorem i_NoSister : x_NoSister.fs ≠ none → ∀ (K : PySem.W.Frag) (f : Addr) (fd : FuncData), FunD K x_NoSister.ini.name x_NoSister.ini.qual x_NoSister.ini.params x_NoSister.ini.body x_NoSister.ini.scope [] [] f fd → Binds K fd ("self" :: (x_NoSister.fs.getD []).map Str.ofString) [] := fun _ K f fd F => F.bindsN fun _ _ _ _ _ _ us hl => match us, hl with | [_, _], _ => rfl
theorem i_NoAccount : x_NoAccount.fs ≠ none → ∀ (K : PySem.W.Frag) (f : Addr) (fd : FuncData), FunD K x_NoAccount.ini.name x_NoAccount.ini.qual x_NoAccount.ini.params x_NoAccount.ini.body x_NoAccount.ini.scope [] [] f fd → Binds K fd ("self" :: (x_NoAccount.fs.getD []).map Str.ofString) [] := fun _ K f fd F => F.bindsN fun _ _ _ _ _ _ us hl => match us, hl with | [_, _], _ => rfl
theorem i_NoGoods : x_NoGoods.fs ≠ none → ∀ (K : PySem.W.Frag) (f : Addr) (fd : FuncData), FunD K x_NoGoods.ini.name x_NoGoods.ini.qual x_NoGoods.ini.params x_NoGoods.ini.body x_NoGoods.ini.scope [] [] f fd → Binds K fd ("self" :: (x_NoGoods.fs.getD []).map Str.ofString) [] := fun _ K f fd F => F.bindsN fun _ _ _ _ _ _ us hl => match us, hl with | [_, _], _ => rfl
theorem i_TooFew : x_TooFew.fs ≠ none → ∀ (K : PySem.W.Frag) (f : Addr) (fd : FuncData), FunD K x_TooFew.ini.name x_TooFew.ini.qual x_TooFew.ini.params x_TooFew.ini.body x_TooFew.ini.scope [] [] f fd → Binds K fd ("self" :: (x_TooFew.fs.getD []).map Str.ofString) [] := fun _ K f fd F => F.bindsN fun _ _ _ _ _ _ us hl => match us, hl with | [_, _, _], _ => rfl
theorem i_NoDeed : x_NoDeed.fs ≠ none → ∀ (K : PySem.W.Frag) (f : Addr) (fd : FuncData), FunD K x_NoDeed.ini.name x_NoDeed.ini.qual x_NoDeed.ini.params x_NoDeed.ini.body x_NoDeed.ini.scope [] [] f fd → Binds K fd ("self" :: (x_NoDeed.fs.getD []).map Str.ofString) [] := fun _ K f fd F => F.bindsN fun _ _ _ _ _ _ us hl => match us, hl with | [_, _], _ => rfl
theorem i_Broken : x_Broken.fs ≠ none → ∀ (K : PySem.W.Frag) (f : Addr) (fd : FuncData), FunD K x_Broken.ini.name x_Broken.ini.qual x_Broken.ini.params x_Broken.ini.body x_Broken.ini.scope [] [] f fd → Binds K fd ("self" :: (x_Broken.fs.getD []).map Str.ofString) [] := fun _ K f fd F => F.bindsN fun _ _ _ _ _ _ us hl => match us, hl with | [_, _], _ => rfl
theorem i_NoRow : x_NoRow.fs ≠ none → ∀ (K : PySem.W.Frag) (f : Addr) (fd : FuncData), FunD K x_NoRow.ini.name x_NoRow.ini.qual x_NoRow.ini.params x_NoRow.ini.body x_NoRow.ini.scope [] [] f fd → Binds K fd ("self" :: (x_NoRow.fs.getD []).map Str.ofString) [] := fun h => absurd rfl h
theorem xm : ∀ e, e ∈ T.excs → e.fs ≠ none → ∀ (K : PySem.W.Frag) (f : Addr) (fd : FuncData), FunD K e.ini.name e.ini.qual e.ini.params e.ini.body e.ini.scope [] [] f fd → Binds K fd ("self" :: (e.fs.getD []).map Str.ofString) [] := List.forall_mem_cons.mpr ⟨i_NoNumber, List.forall_mem_cons.mpr ⟨i_NoRate, List.forall_mem_cons.mpr ⟨i_Twice, List.forall_mem_cons.mpr ⟨i_Unbalanced, List.forall_mem_cons.mpr ⟨i_Closed, List.forall_mem_cons.mpr ⟨i_BadPaper, List.forall_mem_cons.mpr ⟨i_NoFirm, List.forall_mem_cons.mpr ⟨i_BadAmount, List.forall_mem_cons.mpr ⟨i_Unheld, List.forall_mem_cons.mpr ⟨i_Ringed, List.forall_mem_cons.mpr ⟨i_Singular, List.forall_mem_cons.mpr ⟨i_NoSister, List.forall_mem_cons.mpr ⟨i_NoAccount, List.forall_mem_cons.mpr ⟨i_NoGoods, List.forall_mem_cons.mpr ⟨i_TooFew, List.forall_mem_cons.mpr ⟨i_NoDeed, List.forall_mem_cons.mpr ⟨i_Broken, List.forall_mem_cons.mpr ⟨i_NoRow, fun _ h => (nomatch h)⟩⟩⟩⟩⟩⟩⟩⟩⟩⟩⟩⟩⟩⟩⟩⟩⟩⟩
theorem bA : ∀ (K : PySem.W.Frag) (f : Addr) (fd : FuncData), FunD K d_law.name d_law.qual d_law.params d_law.body d_law.scope [] [] f fd → ∀ (s : Shared) (u : Value), BindsTo s fd ⟨[u], []⟩ [(("script" : Str), u)] := fun K f fd F s u => FunD.bindsA (ps := ["script"]) F (fun _ _ _ _ _ _ us hl => match us, hl with | [_], _ => rfl) s [u] rfl
end Tx

set_option Elab.async false
set_option linter.all false
set_option maxRecDepth 100000
set_option maxHeartbeats 0
/-! The head: what the top leaves, looked at once. -/
namespace Hd
open PySem L2 Ev Tx
abbrev row : PySem.W.OpenRow := PySem.W.OpenLaw.row PySem.Challenge.rw_groupbooks_k19_refusals_apart
abbrev qv : Program := PySem.W.view row.prog [32]
def nms0 : List PySem.Str := ["BooksError", "NoNumber", "NoRate", "Twice", "Unbalanced", "Closed", "BadPaper", "NoFirm", "BadAmount", "Unheld", "Ringed", "Singular", "NoSister", "NoAccount", "NoGoods"]
def nms1 : List PySem.Str := ["TooFew", "NoDeed", "Broken", "NoRow", "_law_cell", "_law_name", "_law_number", "_law_one", "_law_two", "_law_raise", "_law_kinds", "_law_lone", "_law_paired", "_law_due", "_law_alike"]
def nms : List PySem.Str := nms0 ++ nms1
abbrev hk : PySem.W.Hook := sayX T 6
def ob (s : PySem.W.SharedT) : He.AlD × Bool := obS T 6 (HandSHeadRun.getT s)
theorem ob_eq (s : PySem.W.SharedT) : ob s = hk.obs s.abs := obS_eq s
theorem run (w : World) : HandSHeadRun.RunEq row qv hk ob 100000 nms w := by
  intro os
  kernel_rfl
end Hd

set_option Elab.async false
set_option linter.all false
set_option maxRecDepth 100000
set_option maxHeartbeats 4000000
/-! The law: cells, names, numbers. -/
namespace K19
open PySem Ev Tx
abbrev P : Prg := T.prg
noncomputable abbrev Γk (k : Nat) : Gam := ⟨evD P k, P.meth, P.sub, none⟩
theorem lk_cell : P.defs.lookup "_law_cell" = some d__law_cell.u := by kernel_rfl
theorem cell_eq {k : Nat} {xs : List Int} {i : Nat} {S : Sx} (hS : S[0]? = some (.ro (xs.map .int))) : evD P (k + 1) "_law_cell" [.ref 0, .int i] S = .ok (.int (xs.getD i 0)) S := by
  rw [evD_full lk_cell rfl rfl]
  show (evSs _ b__law_cell _ _).done = _
  by_cases h : i < xs.length
  · simp [b__law_cell, evSs, evS, evT, evE, evEs, bcall, lenOf, seqAt, lstAt, hS, opCmp, ltI, d__law_cell, opSub', dicAt, L2.atI, L2.ixN, RS.done, h]
  · simp [b__law_cell, evSs, evS, evT, evE, evEs, bcall, lenOf, seqAt, lstAt, hS, opCmp, ltI, d__law_cell, opSub', dicAt, L2.atI, L2.ixN, RS.done, h]
def letters : Str := "abcdefghijklmnopqrstuvwxyz"
theorem letters_ok : okS letters := okS_of (by decide +kernel)
theorem letters_len : letters.length = 26 := by decide +kernel
theorem name_turn {k : Nat} {c : Int} {S : Sx} {w : Str} {o : Option U} {j : Nat} (hj : j < 8) (hw : w.length ≤ 8) : ∃ cc, cc < 1114112 ∧ (evTg (Γk k) (.name 3) (.int j) [some (.int c), some (.str letters), some (.str w), o] S).next (fun σ' S' => evSs (Γk k) (.cons (.asg (.name 2) (.bin .Add (.var 2) (.sub (.var 1) (.bin .Mod (.bin .FloorDiv (.bin .FloorDiv (.var 0) (.con (.int 8))) (.bin .Add (.con (.int 1)) (.bin .Mult (.con (.int 26)) (.var 3)))) (.con (.int 26)))))) .nil) σ' S') =
    .nx [some (.int c), some (.str letters), some (.str (w ++ ⟨#[cc]⟩)), some (.int j)] S := by
  have hm : 0 ≤ c / 8 / (1 + 26 * (j : Int)) % 26 ∧ c / 8 / (1 + 26 * (j : Int)) % 26 < 26 := ⟨Int.emod_nonneg _ (by decide), Int.emod_lt_of_pos _ (by decide)⟩
  obtain ⟨cc, hcm, hc⟩ := sub_str (S := S) (z := letters) (by rw [letters_len, sizeLine_eq]; decide) hm.1 (by rw [letters_len]; exact hm.2)
  have hlog : (1 + 26 * (j : Int)).natAbs.log2 < 9000 := log_small (by omega)
  have hlog2 : (26 : Int).natAbs.log2 + (j : Int).natAbs.log2 < 1000000 := by
    have := Nat.log2_le_self (j : Int).natAbs
    have : (26 : Int).natAbs.log2 ≤ 26 := Nat.log2_le_self 26
    omega
  have hlog8 : (8 : Int).natAbs.log2 < 9000 := log_small (by decide)
  have hpos : (0 : Int) < 1 + 26 * (j : Int) := by omega
  have hz : w.length + (⟨#[cc]⟩ : Str).length ≤ sizeLine := by rw [strLen_one, sizeLine_eq]; omega
  refine ⟨cc, letters_ok cc hcm, ?_⟩
  simp only [evTg, evSs, evS, evE, RS.next_nx, List.set_cons_succ, List.set_cons_zero, List.getElem?_cons_succ, List.getElem?_cons_zero, R.bind_ok, opBin, opMod, opDiv, opMul, hlog2, if_true, hlog8, hlog, hpos, and_self, opAdd, hc, hz, R.opt_some, R.thenS_ok, Int.reduceLT, and_true, true_and]
theorem lk_name : P.defs.lookup "_law_name" = some d__law_name.u := by kernel_rfl
theorem name_eq {k : Nat} {c : Int} {S : Sx} : ∃ w : Str, w.length ≤ 8 ∧ okS w ∧ evD P (k + 1) "_law_name" [.int c] S = .ok (.str w) S := by
  have h8 : 0 ≤ c % 8 ∧ c % 8 < 8 := ⟨Int.emod_nonneg _ (by decide), Int.emod_lt_of_pos _ (by decide)⟩
  have key := for_inv (c := []) (us := rngU 0 (1 + c % 8).toNat 1) (i := 0) (turn := fun u σ S => (evTg (Γk k) (.name 3) u σ S).next fun σ' S' => evSs (Γk k) (.cons (.asg (.name 2) (.bin .Add (.var 2) (.sub (.var 1) (.bin .Mod (.bin .FloorDiv (.bin .FloorDiv (.var 0) (.con (.int 8))) (.bin .Add (.con (.int 1)) (.bin .Mult (.con (.int 26)) (.var 3)))) (.con (.int 26)))))) .nil) σ' S')
    (fun i σ S' => ∃ w o, σ = [some (.int c), some (.str letters), some (.str w), o] ∧ S' = S ∧ w.length ≤ i ∧ okS w) (fun j σ S _ => standW_nil S) (fun j u σ S' hj ⟨w, o, e1, e2, e3, e4⟩ => by
      subst e1 e2
      obtain ⟨hj2, rfl⟩ := rngU_get hj
      obtain ⟨cc, hcc, hc⟩ := name_turn (k := k) (c := c) (S := S') (w := w) (o := o) (j := j) (by omega) (by omega)
      rw [Int.zero_add]
      exact ⟨_, _, .inl hc, w ++ ⟨#[cc]⟩, _, rfl, rfl, by rw [strLen_app, strLen_one]; omega, okS_app e4 (okS_one hcc)⟩) (σ := [some (.int c), some (.str letters), some (.str ""), none]) (S := S) ⟨"", none, rfl, rfl, Nat.le_refl _, okS_nil⟩
  obtain ⟨σ', S', h1, w, o, rfl, rfl, h3, h4⟩ := key
  rw [rngU_len] at h3
  refine ⟨w, by omega, h4, ?_⟩
  rw [evD_full lk_name rfl rfl]
  show (evSs (Γk k) b__law_name [some (.int c), none, none, none] S').done = _
  have hr := rngW_one (j := 1 + c % 8) (by omega) (by omega)
  unfold b__law_name
  rw [evSs, evS_name, evE, R.thenS_ok, RS.next_nx, evSs, evS_name, evE, R.thenS_ok, RS.next_nx, evSs, evS]
  have e1 : evI (Γk k) (.rng1 (.bin .Add (.con (.int 1)) (.bin .Mod (.var 0) (.con (.int 8))))) (([some (U.int c), none, none, none].set 1 (some (U.str letters))).set 2 (some (.str ""))) S' = .ok (rngU 0 (1 + c % 8).toNat 1, []) S' := by
    simp only [evI, evE, List.set_cons_succ, List.set_cons_zero, List.getElem?_cons_zero, R.bind_ok, opBin, opMod, opAdd, Int.reduceLT, if_true, hr, R.opt_some]
  erw [e1]
  rw [R.thenS_ok]
  erw [h1]
  simp only [RS.next_nx, evSs, evS, evE, List.getElem?_cons_succ, List.getElem?_cons_zero, R.thenS_ok, RS.next_rt, RS.done]
end K19

set_option Elab.async false
set_option linter.all false
set_option maxRecDepth 100000
set_option maxHeartbeats 4000000
/-! The law: numbers. -/
namespace K19
open PySem Ev Tx
theorem lk_number : P.defs.lookup "_law_number" = some d__law_number.u := by kernel_rfl
theorem p20 {S : Sx} : opPow (.int 10) (.int 20) S = .ok (.int 100000000000000000000) S := (pow_int (by decide +kernel)).trans rfl
theorem p4 {S : Sx} : opPow (.int 10) (.int 4) S = .ok (.int 10000) S := (pow_int (by decide +kernel)).trans rfl
theorem m20 {S : Sx} : opMul (.int 2) (.int 100000000000000000000) S = .ok (.int 200000000000000000000) S := (mul_int (by decide +kernel)).trans rfl
theorem cube {S : Sx} {x : Int} (h0 : -100000000000000000000 ≤ x) (h1 : x < 100000000000000000000) : opPow (.int x) (.int 3) S = .ok (.int (x ^ 3)) S := by
  have hb : Builtin.Int.intBits x ≤ 68 := by
    unfold Builtin.Int.intBits
    split
    · omega
    · have h : x.natAbs < 2 ^ 67 := by omega
      have hx : x.natAbs ≠ 0 := by
        intro z
        have : x = 0 := by omega
        simp_all
      have := (Nat.log2_lt hx).mpr h
      omega
  exact (pow_int (by constructor <;> omega)).trans rfl
theorem number_eq {k : Nat} {c : Int} {S : Sx} : ∃ n : Int, evD P (k + 1) "_law_number" [.int c] S = .ok (.int n) S := by
  rw [evD_full lk_number rfl rfl]
  show ∃ n, (evSs (Γk k) b__law_number [some (.int c)] S).done = _
  have h3 : (3 : Int).natAbs.log2 < 9000 := log_small (by decide)
  by_cases h : c % 3 = 0
  · exact ⟨c / 3 % 13 - 6, by simp only [b__law_number, evSs, evS, evT, evE, List.getElem?_cons_zero, R.bind_ok, opBin, opMod, opDiv, opSub, Int.reduceLT, if_true, h3, and_self, opCmp, flatEqD_int, h, decide_true, Option.map_some, R.opt_some, R.thenS_ok, RS.next_rt, RS.done]⟩
  · have hq : 0 ≤ c / 3 % 200000000000000000000 ∧ c / 3 % 200000000000000000000 < 200000000000000000000 := ⟨Int.emod_nonneg _ (by decide), Int.emod_lt_of_pos _ (by decide)⟩
    have hc := cube (S := S) (x := c / 3 % 200000000000000000000 - 100000000000000000000) (by omega) (by omega)
    have h4 : (10000 : Int).natAbs.log2 < 9000 := by decide +kernel
    refine ⟨(c / 3 % 200000000000000000000 - 100000000000000000000) ^ 3 / 10000, ?_⟩
    simp only [b__law_number, evSs, evS, evT, evE, List.getElem?_cons_zero, R.bind_ok, opBin, p20, p4, m20, opMod, opDiv, opSub, hc, Int.reduceLT, if_true, h3, h4, and_self, opCmp, flatEqD_int, h, decide_false, Option.map_some, R.opt_some, R.thenS_ok, RS.next_nx, RS.next_rt, RS.done, Bool.false_eq_true, if_false]
end K19

set_option Elab.async false
set_option linter.all false
set_option maxRecDepth 100000
set_option maxHeartbeats 4000000
/-! The law: what is raised. -/
namespace K19
open PySem Ev Tx
def sgn (j : Int) : Str := ⟨#[(("ncatqbz" : Str).cps.toList)[(j % 7).toNat]?.getD 0]⟩
def rings (w : Str) (ns : List Int) : List U := ns.map fun n => .str (L2.cutS w none (some 7) ++ sgn n)
theorem seven : (("ncatqbz" : Str).cps.toList).length = 7 := by decide +kernel
theorem sgn_at {S : Sx} {j : Int} : opSub' S (.str "ncatqbz") (.int (j % 7)) = some (.str (sgn j)) := by
  have h0 : 0 ≤ j % 7 := Int.emod_nonneg _ (by decide)
  have h1 : j % 7 < 7 := Int.emod_lt_of_pos _ (by decide)
  obtain ⟨n, hn⟩ := Int.eq_ofNat_of_zero_le h0
  have hz : ("ncatqbz" : Str).length ≤ sizeLine := by rw [sizeLine_eq]; decide +kernel
  unfold opSub' L2.atI L2.ixN sgn
  simp only [dicAt, seqAt, lstAt, if_pos hz]
  rw [if_pos h0, seven, hn]
  simp only [Int.toNat_natCast]
  have hn7 : n < (("ncatqbz" : Str).cps.toList).length := by rw [seven]; omega
  rw [if_pos (by omega)]
  simp only [Option.bind_some]
  rw [List.getElem?_eq_getElem hn7]
  rfl
theorem sgn_ok (j : Int) : okS (sgn j) := okS_one (by
  cases e : (("ncatqbz" : Str).cps.toList)[(j % 7).toNat]? with
  | none => decide
  | some c =>
    have h : okS "ncatqbz" := okS_of (by decide +kernel)
    exact h c (List.mem_of_getElem? e))
theorem rings_ok {w : Str} (h : okS w) (ns : List Int) : (rings w ns).all okF = true := by
  rw [List.all_eq_true]
  intro u hu
  obtain ⟨n, _, rfl⟩ := List.mem_map.mp hu
  exact okS_can (okS_app (okS_cut h) (sgn_ok n))
theorem ring_lc {Γ : Gam} {σ : Sl} {S : Sx} {a b i r : Nat} {w : Str} {ns : List Int} (ha : σ[a]? = some (some (.str w))) (hb : σ[b]? = some (some (.ref r))) (hr : S[r]? = some (.lst (ns.map .int))) (hi : i < σ.length) (hai : a ≠ i) (hw : w.length ≤ 8) (hn : ns.length ≤ 8) :
    evE Γ (.lc [i] (.name i) (.seq (.var b)) .nil (.bin .Add (.slc (.var a) .none (.some (.con (.int 7)))) (.sub (.con (.str "ncatqbz")) (.bin .Mod (.var i) (.con (.int 7)))))) σ S = .ok (.ref S.length) (S ++ [.lst (rings w ns)]) := by
  have e1 : evI Γ (.seq (.var b)) σ S = .ok (ns.map .int, [(r, .lst (ns.map .int))]) S := by
    simp only [evI, evE, hb, R.bind_ok, seqW, hr, R.opt_some]
  rw [z_lc, e1, R.bind_ok, z_kLc]
  have := lc_map (S := S) (c := [(r, O.lst (ns.map U.int))]) (us := ns.map U.int) (acc := []) (g := fun u => match u with
    | .int n => .str (L2.cutS w none (some 7) ++ sgn n)
    | u => u) (turn := lcT Γ [i] (.name i) .nil (.bin .Add (.slc (.var a) .none (.some (.con (.int 7)))) (.sub (.con (.str "ncatqbz")) (.bin .Mod (.var i) (.con (.int 7))))) σ) (fun acc' => standW_one (getOld hr)) (fun u hu acc' => ?_) (by simp; rw [sizeLine_eq]; omega)
  · rw [this]
    simp [rings]
  · obtain ⟨n, hn, rfl⟩ := List.mem_map.mp hu
    have h1 : (wipe' σ [i]).set i (some (U.int n)) = σ.set i (some (.int n)) := by simp [wipe']
    have h2 : (σ.set i (some (U.int n)))[a]? = some (some (.str w)) := by rw [List.getElem?_set_ne (Ne.symm hai)]; exact ha
    have h3 : (σ.set i (some (U.int n)))[i]? = some (some (.int n)) := List.getElem?_set_self hi
    have h4 := slc_str (S := S ++ [.lst acc']) (z := w) (lo := none) (hi := some 7) (by rw [sizeLine_eq]; omega)
    simp only [Option.map_none, Option.map_some] at h4
    have h5 : (L2.cutS w none (some 7)).length + (sgn n).length ≤ sizeLine := by
      have := cutS_len (z := w) (lo := none) (hi := some 7)
      have e : (sgn n).length = 1 := rfl
      rw [sizeLine_eq]; omega
    simp only [lcT, evTg, h1, evTs, R.bind_ok, if_true, z_bin, z_slc, z_var, h2, h3, z_kSlc, z_kBin, z_sub, z_kSub, z_con, z_oNone, z_oSome, Option.map_none, Option.map_some, h4, z_mod (j := 7) (by decide), sgn_at, R.opt_some, z_addS h5]
def cls (k : Nat) : String := (["NoNumber", "NoRow", "NoFirm", "Unheld", "NoSister", "NoAccount", "BadAmount", "NoDeed", "Broken", "NoGoods", "Ringed", "Singular", "NoRate", "Twice", "Closed", "BadPaper", "TooFew", "Unbalanced"])[k]?.getD ""
def fl (w v : Str) (n0 n1 : Int) (r : Nat) : Nat → List (String × U)
  | 2 => [("name", .str w)] | 3 => [("firm", .str w)] | 4 => [("name", .str w)] | 5 => [("account", .str w)]
  | 6 => [("amount", .int n0)] | 7 => [("number", .int n0)] | 8 => [("number", .int n0)] | 9 => [("holding", .int n0)]
  | 10 => [("ring", .ref r)] | 11 => [("mix", .ref r)]
  | 12 => [("coin", .str w), ("day", .int n0)] | 13 => [("coin", .str w), ("day", .int n0)] | 14 => [("book", .str w), ("month", .int n0)] | 15 => [("book", .str w), ("month", .int n0)]
  | 16 => [("holding", .int n0), ("lack", .int n1)] | 17 => [("book", .str w), ("coin", .str v), ("rest", .int n1)]
  | _ => []
def nw (w : Str) (ns : List Int) : Nat → Sx
  | 10 => [.lst (rings w ns)] | 11 => [.lst (ns.map .int)] | _ => []
theorem lk_one : P.defs.lookup "_law_one" = some d__law_one.u := by kernel_rfl
theorem one_eq {j k : Nat} {w v : Str} {n0 n1 : Int} {b : Nat} {ns : List Int} {S : Sx} (hk : k < 12) (hb : S[b]? = some (.lst (ns.map .int))) (hw : w.length ≤ 8) (hn : ns.length ≤ 8) :
    evD P (j + 1) "_law_one" [.int k, .str w, .int n0, .ref b] S = .exc ⟨cls k, fl w v n0 n1 S.length k, false⟩ (S ++ nw w ns k) := by
  rw [evD_full lk_one rfl rfl]
  show (evSs (Γk j) b__law_one [some (.int k), some (.str w), some (.int n0), some (.ref b), none] S).done = _
  have hl : ∀ u : U, 4 < [some u, some (U.str w), some (U.int n0), some (U.ref b), none].length := fun _ => Nat.lt_succ_self 4
  have hz := ring_lc (Γ := Γk j) (σ := [some (.int k), some (.str w), some (.int n0), some (.ref b), none]) (a := 1) (b := 3) (i := 4) (w := w) (r := b) rfl rfl hb (hl _) (by decide) hw hn
  have h2 : n0 % 2 = 0 ∨ ¬ n0 % 2 = 0 := Decidable.em _
  unfold b__law_one
  have hk' : k = 0 ∨ k = 1 ∨ k = 2 ∨ k = 3 ∨ k = 4 ∨ k = 5 ∨ k = 6 ∨ k = 7 ∨ k = 8 ∨ k = 9 ∨ k = 10 ∨ k = 11 := by omega
  rcases hk' with rfl | rfl | rfl | rfl | rfl | rfl | rfl | rfl | rfl | rfl | rfl | rfl
  case inr.inr.inr.inr.inr.inr.inr.inr.inr.inr.inl =>
    simp [-z_lc] at hz
    simp [-z_lc, z_kRaise, cls, fl, nw, hz, -z_raise, z_raise]
  case inr.inr.inr.inr.inr.inr.inr.inr.inr.inr.inr =>
    simp [z_kRaise, cls, fl, nw, bcall, seqAt, lstAt, hb, new]
  case inl => rcases h2 with h2 | h2 <;> simp [z_kRaise, cls, fl, nw, h2, z_mod]
  case inr.inl => rcases h2 with h2 | h2 <;> simp [z_kRaise, cls, fl, nw, h2, z_mod]
  all_goals simp [z_kRaise, cls, fl, nw]
end K19

set_option Elab.async false
set_option linter.all false
set_option maxRecDepth 100000
set_option maxHeartbeats 4000000
/-! The law: what is raised, by the number. -/
namespace K19
open PySem Ev Tx
theorem lk_two : P.defs.lookup "_law_two" = some d__law_two.u := by kernel_rfl
theorem at0 {x y : U} : L2.atI [x, y] 0 = some x := rfl
theorem at1 {x y : U} : L2.atI [x, y] 1 = some y := rfl
theorem two_eq {j k : Nat} {w v : Str} {n0 n1 : Int} {a : Nat} {ns : List Int} {S : Sx} (h12 : 12 ≤ k) (hk : k < 18) (ha : S[a]? = some (.lst [.int n0, .int n1])) :
    evD P (j + 1) "_law_two" [.int k, .str w, .str v, .ref a] S = .exc ⟨cls k, fl w v n0 n1 S.length k, false⟩ (S ++ nw w ns k) := by
  rw [evD_full lk_two rfl rfl]
  show (evSs (Γk j) b__law_two [some (.int k), some (.str w), some (.str v), some (.ref a)] S).done = _
  unfold b__law_two
  have hk' : k = 12 ∨ k = 13 ∨ k = 14 ∨ k = 15 ∨ k = 16 ∨ k = 17 := by omega
  rcases hk' with rfl | rfl | rfl | rfl | rfl | rfl
  all_goals simp [z_kRaise, cls, fl, nw, sub_lst ha, at0, at1]
theorem lk_raise : P.defs.lookup "_law_raise" = some d__law_raise.u := by kernel_rfl
theorem raise_eq {j k : Nat} {w v : Str} {n0 n1 : Int} {a b : Nat} {ns : List Int} {S : Sx} (hk : k < 18) (ha : S[a]? = some (.lst [.int n0, .int n1])) (hb : S[b]? = some (.lst (ns.map .int))) (hw : w.length ≤ 8) (hn : ns.length ≤ 8) :
    evD P (j + 2) "_law_raise" [.int k, .tup [.str w, .str v, .ref a, .ref b]] S = .exc ⟨cls k, fl w v n0 n1 S.length k, false⟩ (S ++ nw w ns k) := by
  rw [evD_full lk_raise rfl rfl]
  show (evSs (Γk (j + 1)) b__law_raise [some (.int k), some (.tup [.str w, .str v, .ref a, .ref b]), none, none, none, none] S).done = _
  unfold b__law_raise
  by_cases h : k < 12
  · have h' : (k : Int) < 12 := by omega
    simp [h', sub_lst ha, at0, one_eq (v := v) (n1 := n1) h hb hw hn]
  · have h' : ¬ (k : Int) < 12 := by omega
    simp [h', two_eq (ns := ns) (by omega) hk ha]
end K19

set_option Elab.async false
set_option linter.all false
set_option maxRecDepth 100000
set_option maxHeartbeats 4000000
/-! The law: kinds. -/
namespace K19
open PySem Ev Tx
theorem lk_kinds : P.defs.lookup "_law_kinds" = some d__law_kinds.u := by kernel_rfl
theorem sub_eq {k : Nat} (hk : k < 18) : P.sub (cls k) "BooksError" = true ∧ P.sub (cls k) "ValueError" = true ∧ ∀ i, i < 18 → P.sub (cls k) (cls i) = decide (i = k) := by
  have : ∀ k, k < 18 → P.sub (cls k) "BooksError" = true ∧ P.sub (cls k) "ValueError" = true ∧ ∀ i, i < 18 → P.sub (cls k) (cls i) = decide (i = k) := by decide +kernel
  exact this k hk
/-- what the eighteen are asked -/
def asked (f : Nat → Bool) (l : List Nat) : List U := l.map fun i => .bl (f i)
def suiteK : USs := match b__law_kinds with
  | .cons (.try _ (.cons _ _ b _) _) _ => b
  | _ => .nil
theorem suite_eq {Γ : Gam} {e : Exn} (f : Nat → Bool) (hc : Γ.cur = some e) (h : ∀ i, i < 18 → Γ.sub e.cls (cls i) = f i) (hv : Γ.sub e.cls "ValueError" = true) {u0 u1 : U} {S : Sx} :
    ∃ l, l.length = 10 ∧ evSs Γ suiteK [some u0, some u1, none, none] S = .rt (.ref (S.length + 10)) (S ++ (l ++ [.lst (asked f (List.range 18) ++ [.bl true])])) := by
  have q0 : Γ.sub e.cls "NoNumber" = f 0 := h 0 (by decide)
  have q1 : Γ.sub e.cls "NoRow" = f 1 := h 1 (by decide)
  have q2 : Γ.sub e.cls "NoFirm" = f 2 := h 2 (by decide)
  have q3 : Γ.sub e.cls "Unheld" = f 3 := h 3 (by decide)
  have q4 : Γ.sub e.cls "NoSister" = f 4 := h 4 (by decide)
  have q5 : Γ.sub e.cls "NoAccount" = f 5 := h 5 (by decide)
  have q6 : Γ.sub e.cls "BadAmount" = f 6 := h 6 (by decide)
  have q7 : Γ.sub e.cls "NoDeed" = f 7 := h 7 (by decide)
  have q8 : Γ.sub e.cls "Broken" = f 8 := h 8 (by decide)
  have q9 : Γ.sub e.cls "NoGoods" = f 9 := h 9 (by decide)
  have q10 : Γ.sub e.cls "Ringed" = f 10 := h 10 (by decide)
  have q11 : Γ.sub e.cls "Singular" = f 11 := h 11 (by decide)
  have q12 : Γ.sub e.cls "NoRate" = f 12 := h 12 (by decide)
  have q13 : Γ.sub e.cls "Twice" = f 13 := h 13 (by decide)
  have q14 : Γ.sub e.cls "Closed" = f 14 := h 14 (by decide)
  have q15 : Γ.sub e.cls "BadPaper" = f 15 := h 15 (by decide)
  have q16 : Γ.sub e.cls "TooFew" = f 16 := h 16 (by decide)
  have q17 : Γ.sub e.cls "Unbalanced" = f 17 := h 17 (by decide)
  refine ⟨[.lst (asked f [0, 1, 2, 3]), .lst (asked f [4, 5, 6]), .lst (asked f [0, 1, 2, 3, 4, 5, 6]), .lst (asked f [7, 8, 9, 10]), .lst (asked f [0, 1, 2, 3, 4, 5, 6, 7, 8, 9, 10]), .lst (asked f [11, 12, 13, 14]), .lst (asked f [0, 1, 2, 3, 4, 5, 6, 7, 8, 9, 10, 11, 12, 13, 14]), .lst (asked f [15, 16, 17]), .lst (asked f (List.range 18)), .lst [.bl true]], rfl, ?_⟩
  have hr : List.range 18 = [0, 1, 2, 3, 4, 5, 6, 7, 8, 9, 10, 11, 12, 13, 14, 15, 16, 17] := by decide
  unfold suiteK b__law_kinds
  simp [hc, q0, q1, q2, q3, q4, q5, q6, q7, q8, q9, q10, q11, q12, q13, q14, q15, q16, q17, hv, z_kLst, z_addR, z_new, getNew, getNew0, asked, hr, sizeLine_eq]
theorem kinds_eq {j k : Nat} {w v : Str} {n0 n1 : Int} {a b : Nat} {ns : List Int} {S : Sx} (hk : k < 18) (ha : S[a]? = some (.lst [.int n0, .int n1])) (hb : S[b]? = some (.lst (ns.map .int))) (hw : w.length ≤ 8) (hn : ns.length ≤ 8) :
    ∃ l, evD P (j + 3) "_law_kinds" [.int k, .tup [.str w, .str v, .ref a, .ref b]] S = .ok (.ref (S.length + l.length)) (S ++ (l ++ [.lst (asked (fun i => decide (i = k)) (List.range 18) ++ [.bl true])])) := by
  obtain ⟨s1, s2, s3⟩ := sub_eq hk
  rw [evD_full lk_kinds rfl rfl]
  show ∃ l, (evSs (Γk (j + 2)) b__law_kinds [some (.int k), some (.tup [.str w, .str v, .ref a, .ref b]), none, none] S).done = _
  obtain ⟨l, hl, q⟩ := suite_eq (Γ := { Γk (j + 2) with cur := some ⟨cls k, fl w v n0 n1 S.length k, false⟩ }) (fun i => decide (i = k)) rfl s3 s2 (u0 := .int k) (u1 := .tup [.str w, .str v, .ref a, .ref b]) (S := S ++ nw w ns k)
  refine ⟨nw w ns k ++ l, ?_⟩
  have e : b__law_kinds = .cons (.try (.cons (.expr (.call "_law_raise" (.cons (.var 0) (.cons (.var 1) .nil)))) .nil) (.cons "BooksError" (some 2) suiteK .nil) .nil) (.cons (.ret (.lst .nil)) .nil) := rfl
  rw [e]
  have hy := fun σ S' => z_hYes (Γ := Γk (j + 2)) (e := ⟨cls k, fl w v n0 n1 S.length k, false⟩) (c := "BooksError") (i := some 2) (b := suiteK) (hs := .nil) (σ := σ) (S := S') s1
  simp [raise_eq (ns := ns) (n0 := n0) (n1 := n1) hk ha hb hw hn, hy, suiteE, q, hl]
  try omega
end K19

set_option Elab.async false
set_option linter.all false
set_option maxRecDepth 100000
set_option maxHeartbeats 4000000
/-! The law: what is read, what is due, alike. -/
namespace K19
open PySem Ev Tx
/-- the same twice -/
inductive Pair (S : Sx) : U → U → Prop
  | int (i : Int) : Pair S (.int i) (.int i)
  | str (x : Str) : okS x → Pair S (.str x) (.str x)
  | lst {p q : Nat} {us : List U} : S[p]? = some (.lst us) → S[q]? = some (.lst us) → us.all okF = true → Pair S (.ref p) (.ref q)
theorem Pair.mono {S l : Sx} {u v : U} : Pair S u v → Pair (S ++ l) u v
  | .int i => .int i
  | .str x h => .str x h
  | .lst h k f => .lst (getOld h) (getOld k) f
theorem lk_alike : P.defs.lookup "_law_alike" = some d__law_alike.u := by kernel_rfl
def bodyA : USs := match b__law_alike with
  | .cons _ (.cons (.for _ _ b) _) => b
  | _ => .nil
theorem alike_turn {j : Nat} {S : Sx} {f d : U} {o o2 : Option U} {u v : U} (h : Pair S u v) : forT (Γk j) (.tup (.cons (.name 2) (.cons (.name 3) .nil))) bodyA (.tup [u, v]) [some f, some d, o, o2] S = .nx [some f, some d, some u, some v] S := by
  rw [z_forT]
  unfold bodyA b__law_alike
  cases h with
  | int i => simp [tyIs]
  | str x hx => simp [tyIs, z_ne (eqD_str (okS_can hx))]
  | lst h1 h2 h3 => simp [tyIs, h1, h2, z_ne (eqD_lst h1 h2 h3)]
theorem alike_eq {j : Nat} {S : Sx} {f d : Nat} {us vs : List U} (hf : S[f]? = some (.lst us)) (hd : S[d]? = some (.lst vs)) (hl : us.length = vs.length) (h : ∀ (i : Nat) u v, us[i]? = some u → vs[i]? = some v → Pair S u v) : evD P (j + 1) "_law_alike" [.ref f, .ref d] S = .ok (.bl true) S := by
  rw [evD_full lk_alike rfl rfl]
  show (evSs (Γk j) b__law_alike [some (.ref f), some (.ref d), none, none] S).done = _
  have e : b__law_alike = .cons (.ife (.val (.cmp .NotEq (.bcall "len" (.cons (.var 0) .nil)) (.bcall "len" (.cons (.var 1) .nil)))) (.cons (.ret (.con (.bl false))) .nil) .nil) (.cons (.for (.tup (.cons (.name 2) (.cons (.name 3) .nil))) (.zip (.var 0) (.var 1)) bodyA) (.cons (.ret (.con (.bl true))) .nil)) := rfl
  obtain ⟨σ', S', h1, o, o2, rfl, rfl⟩ := for_inv (c := [(f, O.lst us)] ++ [(d, O.lst vs)]) (us := zipU us vs) (i := 0) (turn := forT (Γk j) (.tup (.cons (.name 2) (.cons (.name 3) .nil))) bodyA)
    (fun i σ S' => ∃ o o2, σ = [some (.ref f), some (.ref d), o, o2] ∧ S' = S) (fun i σ S' hI => by
      obtain ⟨o, o2, _, rfl⟩ := hI
      exact standW_two hf hd) (fun i u σ S' hi hI => by
      obtain ⟨o, o2, rfl, rfl⟩ := hI
      obtain ⟨a, b, ha, hb, rfl⟩ := zipU_get' hi
      exact ⟨_, _, .inl (alike_turn (h i a b ha hb)), _, _, rfl, rfl⟩) (σ := [some (.ref f), some (.ref d), none, none]) (S := S) ⟨none, none, rfl, rfl⟩
  have ei : evI (Γk j) (.zip (.var 0) (.var 1)) [some (.ref f), some (.ref d), none, none] S' = .ok (zipU us vs, [(f, O.lst us)] ++ [(d, O.lst vs)]) S' := by
    simp [evI, lstW, hf, hd]
  rw [e]
  simp [len_lst hf, len_lst hd, hl, ei, z_kFor]
  erw [h1]
  simp
end K19

set_option Elab.async false
set_option linter.all false
set_option maxRecDepth 100000
set_option maxHeartbeats 4000000
/-! The law: what is read, what is due. -/
namespace K19
open PySem Ev Tx
theorem z_h {Γ : Gam} {c : String} {i : Option Nat} {b : USs} {hs : UHs} {e : Exn} {σ : Sl} {S : Sx} : evH Γ (.cons c i b hs) e σ S = if Γ.sub e.cls c = true then suiteE i (evSs { Γ with cur := some e } b) σ S else evH Γ hs e σ S := by simp only [evH]
theorem asks {k : Nat} (hk : k < 18) : P.sub (cls k) "NoFirm" = decide (2 = k) ∧ P.sub (cls k) "Unheld" = decide (3 = k) ∧ P.sub (cls k) "NoSister" = decide (4 = k) ∧ P.sub (cls k) "NoAccount" = decide (5 = k) ∧ P.sub (cls k) "BadAmount" = decide (6 = k) ∧ P.sub (cls k) "NoDeed" = decide (7 = k) ∧ P.sub (cls k) "Broken" = decide (8 = k) ∧ P.sub (cls k) "NoGoods" = decide (9 = k) ∧ P.sub (cls k) "Ringed" = decide (10 = k) ∧ P.sub (cls k) "Singular" = decide (11 = k) ∧
    P.sub (cls k) "NoRate" = decide (12 = k) ∧ P.sub (cls k) "Twice" = decide (13 = k) ∧ P.sub (cls k) "Closed" = decide (14 = k) ∧ P.sub (cls k) "BadPaper" = decide (15 = k) ∧ P.sub (cls k) "TooFew" = decide (16 = k) ∧ P.sub (cls k) "Unbalanced" = decide (17 = k) := by
  obtain ⟨_, _, s⟩ := sub_eq hk
  exact ⟨s 2 (by decide), s 3 (by decide), s 4 (by decide), s 5 (by decide), s 6 (by decide), s 7 (by decide), s 8 (by decide), s 9 (by decide), s 10 (by decide), s 11 (by decide), s 12 (by decide), s 13 (by decide), s 14 (by decide), s 15 (by decide), s 16 (by decide), s 17 (by decide)⟩
theorem lk_lone : P.defs.lookup "_law_lone" = some d__law_lone.u := by kernel_rfl
theorem lk_paired : P.defs.lookup "_law_paired" = some d__law_paired.u := by kernel_rfl
def found (w v : Str) (n0 n1 : Int) (r k : Nat) : List U := (fl w v n0 n1 r k).map (·.2)
def handsL : UHs := match b__law_lone with
  | .cons (.try _ h _) _ => h
  | _ => .nil
def handsP : UHs := match b__law_paired with
  | .cons (.try _ h _) _ => h
  | _ => .nil
theorem lone_h {Γ : Gam} {k : Nat} {w v : Str} {n0 n1 : Int} {r : Nat} {u0 u1 : U} {S : Sx} (hΓ : Γ.sub = P.sub) (hk : k < 12) : evH Γ handsL ⟨cls k, fl w v n0 n1 r k, false⟩ [some u0, some u1, none] S = .rt (.ref S.length) (S ++ [.lst (found w v n0 n1 r k)]) := by
  obtain ⟨q2, q3, q4, q5, q6, q7, q8, q9, q10, q11, q12, q13, q14, q15, q16, q17⟩ := asks (k := k) (by omega)
  obtain ⟨s1, _, _⟩ := sub_eq (k := k) (by omega)
  unfold handsL b__law_lone
  have hk' : k = 0 ∨ k = 1 ∨ k = 2 ∨ k = 3 ∨ k = 4 ∨ k = 5 ∨ k = 6 ∨ k = 7 ∨ k = 8 ∨ k = 9 ∨ k = 10 ∨ k = 11 := by omega
  rcases hk' with rfl | rfl | rfl | rfl | rfl | rfl | rfl | rfl | rfl | rfl | rfl | rfl
  all_goals simp [z_h, hΓ, q2, q3, q4, q5, q6, q7, q8, q9, q10, q11, s1, suiteE, fl, found, z_kLst, List.lookup]
theorem paired_h {Γ : Gam} {k : Nat} {w v : Str} {n0 n1 : Int} {r : Nat} {u0 u1 : U} {S : Sx} (hΓ : Γ.sub = P.sub) (h12 : 12 ≤ k) (hk : k < 18) : evH Γ handsP ⟨cls k, fl w v n0 n1 r k, false⟩ [some u0, some u1, none] S = .rt (.ref S.length) (S ++ [.lst (found w v n0 n1 r k)]) := by
  obtain ⟨q2, q3, q4, q5, q6, q7, q8, q9, q10, q11, q12, q13, q14, q15, q16, q17⟩ := asks (k := k) (by omega)
  unfold handsP b__law_paired
  have hk' : k = 12 ∨ k = 13 ∨ k = 14 ∨ k = 15 ∨ k = 16 ∨ k = 17 := by omega
  rcases hk' with rfl | rfl | rfl | rfl | rfl | rfl
  all_goals simp [z_h, hΓ, q12, q13, q14, q15, q16, q17, suiteE, fl, found, z_kLst, List.lookup]
section
variable {j k : Nat} {w v : Str} {n0 n1 : Int} {a b : Nat} {ns : List Int} {S : Sx}
theorem lone_eq (hk : k < 12) (ha : S[a]? = some (.lst [.int n0, .int n1])) (hb : S[b]? = some (.lst (ns.map .int))) (hw : w.length ≤ 8) (hn : ns.length ≤ 8) :
    evD P (j + 3) "_law_lone" [.int k, .tup [.str w, .str v, .ref a, .ref b]] S = .ok (.ref (S.length + (nw w ns k).length)) (S ++ (nw w ns k ++ [.lst (found w v n0 n1 S.length k)])) := by
  rw [evD_full lk_lone rfl rfl]
  show (evSs (Γk (j + 2)) b__law_lone [some (.int k), some (.tup [.str w, .str v, .ref a, .ref b]), none] S).done = _
  have e : b__law_lone = .cons (.try (.cons (.expr (.call "_law_raise" (.cons (.var 0) (.cons (.var 1) .nil)))) .nil) handsL .nil) (.cons (.ret (.lst (.cons (.con .non) .nil))) .nil) := rfl
  rw [e]
  simp [raise_eq (ns := ns) (n0 := n0) (n1 := n1) (show k < 18 by omega) ha hb hw hn, lone_h (Γ := Γk (j + 2)) rfl hk]
theorem paired_eq (h12 : 12 ≤ k) (hk : k < 18) (ha : S[a]? = some (.lst [.int n0, .int n1])) (hb : S[b]? = some (.lst (ns.map .int))) (hw : w.length ≤ 8) (hn : ns.length ≤ 8) :
    evD P (j + 3) "_law_paired" [.int k, .tup [.str w, .str v, .ref a, .ref b]] S = .ok (.ref (S.length + (nw w ns k).length)) (S ++ (nw w ns k ++ [.lst (found w v n0 n1 S.length k)])) := by
  rw [evD_full lk_paired rfl rfl]
  show (evSs (Γk (j + 2)) b__law_paired [some (.int k), some (.tup [.str w, .str v, .ref a, .ref b]), none] S).done = _
  have e : b__law_paired = .cons (.try (.cons (.expr (.call "_law_raise" (.cons (.var 0) (.cons (.var 1) .nil)))) .nil) handsP .nil) (.cons (.ret (.lst (.cons (.con .non) .nil))) .nil) := rfl
  rw [e]
  simp [raise_eq (ns := ns) (n0 := n0) (n1 := n1) hk ha hb hw hn, paired_h (Γ := Γk (j + 2)) rfl h12 hk]
theorem lk_due : P.defs.lookup "_law_due" = some d__law_due.u := by kernel_rfl
/-- what is due: the list, and what else was made -/
def due (w v : Str) (n0 n1 : Int) (b r : Nat) : Nat → List U
  | 11 => [.ref b]
  | k => found w v n0 n1 r k
theorem due_eq (hk : k < 18) (ha : S[a]? = some (.lst [.int n0, .int n1])) (hb : S[b]? = some (.lst (ns.map .int))) (hw : w.length ≤ 8) (hn : ns.length ≤ 8) :
    ∃ r l, evD P (j + 1) "_law_due" [.int k, .tup [.str w, .str v, .ref a, .ref b]] S = .ok (.ref r) (S ++ l) ∧ (S ++ l)[r]? = some (.lst (due w v n0 n1 b S.length k)) ∧ (k = 10 → l[0]? = some (.lst (rings w ns))) := by
  rw [evD_full lk_due rfl rfl]
  show ∃ r l, (evSs (Γk j) b__law_due [some (.int k), some (.tup [.str w, .str v, .ref a, .ref b]), none, none, none, none, none] S).done = _ ∧ _
  have hz := ring_lc (Γ := Γk j) (σ := [some (.int k), some (.tup [.str w, .str v, .ref a, .ref b]), some (.str w), some (.str v), some (.ref a), some (.ref b), none]) (a := 2) (b := 5) (i := 6) (w := w) (r := b) rfl rfl hb (Nat.lt_succ_self 6) (by decide) hw hn
  unfold b__law_due
  have hk' : k = 0 ∨ k = 1 ∨ k = 2 ∨ k = 3 ∨ k = 4 ∨ k = 5 ∨ k = 6 ∨ k = 7 ∨ k = 8 ∨ k = 9 ∨ k = 10 ∨ k = 11 ∨ k = 12 ∨ k = 13 ∨ k = 14 ∨ k = 15 ∨ k = 16 ∨ k = 17 := by omega
  rcases hk' with rfl | rfl | rfl | rfl | rfl | rfl | rfl | rfl | rfl | rfl | rfl | rfl | rfl | rfl | rfl | rfl | rfl | rfl
  case inr.inr.inr.inr.inr.inr.inr.inr.inr.inr.inl =>
    simp [-z_lc] at hz
    refine ⟨S.length + 1, [.lst (rings w ns), .lst [.ref S.length]], ?_, ?_, fun _ => rfl⟩
    · simp [-z_lc, hz, z_kLst]
    · simp [getNew, due, found, fl]
  case inl =>
    refine ⟨S.length, [.lst []], ?_, ?_, fun h => by cases h⟩
    · simp [z_kLst, sub_lst ha, at0, at1]
    · simp [getNew0, due, found, fl]
  case inr.inl =>
    refine ⟨S.length, [.lst []], ?_, ?_, fun h => by cases h⟩
    · simp [z_kLst, sub_lst ha, at0, at1]
    · simp [getNew0, due, found, fl]
  case inr.inr.inl =>
    refine ⟨S.length, [.lst [.str w]], ?_, ?_, fun h => by cases h⟩
    · simp [z_kLst, sub_lst ha, at0, at1]
    · simp [getNew0, due, found, fl]
  case inr.inr.inr.inl =>
    refine ⟨S.length, [.lst [.str w]], ?_, ?_, fun h => by cases h⟩
    · simp [z_kLst, sub_lst ha, at0, at1]
    · simp [getNew0, due, found, fl]
  case inr.inr.inr.inr.inl =>
    refine ⟨S.length, [.lst [.str w]], ?_, ?_, fun h => by cases h⟩
    · simp [z_kLst, sub_lst ha, at0, at1]
    · simp [getNew0, due, found, fl]
  case inr.inr.inr.inr.inr.inl =>
    refine ⟨S.length, [.lst [.str w]], ?_, ?_, fun h => by cases h⟩
    · simp [z_kLst, sub_lst ha, at0, at1]
    · simp [getNew0, due, found, fl]
  case inr.inr.inr.inr.inr.inr.inl =>
    refine ⟨S.length, [.lst [.int n0]], ?_, ?_, fun h => by cases h⟩
    · simp [z_kLst, sub_lst ha, at0, at1]
    · simp [getNew0, due, found, fl]
  case inr.inr.inr.inr.inr.inr.inr.inl =>
    refine ⟨S.length, [.lst [.int n0]], ?_, ?_, fun h => by cases h⟩
    · simp [z_kLst, sub_lst ha, at0, at1]
    · simp [getNew0, due, found, fl]
  case inr.inr.inr.inr.inr.inr.inr.inr.inl =>
    refine ⟨S.length, [.lst [.int n0]], ?_, ?_, fun h => by cases h⟩
    · simp [z_kLst, sub_lst ha, at0, at1]
    · simp [getNew0, due, found, fl]
  case inr.inr.inr.inr.inr.inr.inr.inr.inr.inl =>
    refine ⟨S.length, [.lst [.int n0]], ?_, ?_, fun h => by cases h⟩
    · simp [z_kLst, sub_lst ha, at0, at1]
    · simp [getNew0, due, found, fl]
  case inr.inr.inr.inr.inr.inr.inr.inr.inr.inr.inr.inl =>
    refine ⟨S.length, [.lst [.ref b]], ?_, ?_, fun h => by cases h⟩
    · simp [z_kLst, sub_lst ha, at0, at1]
    · simp [getNew0, due, found, fl]
  case inr.inr.inr.inr.inr.inr.inr.inr.inr.inr.inr.inr.inl =>
    refine ⟨S.length, [.lst [.str w, .int n0]], ?_, ?_, fun h => by cases h⟩
    · simp [z_kLst, sub_lst ha, at0, at1]
    · simp [getNew0, due, found, fl]
  case inr.inr.inr.inr.inr.inr.inr.inr.inr.inr.inr.inr.inr.inl =>
    refine ⟨S.length, [.lst [.str w, .int n0]], ?_, ?_, fun h => by cases h⟩
    · simp [z_kLst, sub_lst ha, at0, at1]
    · simp [getNew0, due, found, fl]
  case inr.inr.inr.inr.inr.inr.inr.inr.inr.inr.inr.inr.inr.inr.inl =>
    refine ⟨S.length, [.lst [.str w, .int n0]], ?_, ?_, fun h => by cases h⟩
    · simp [z_kLst, sub_lst ha, at0, at1]
    · simp [getNew0, due, found, fl]
  case inr.inr.inr.inr.inr.inr.inr.inr.inr.inr.inr.inr.inr.inr.inr.inl =>
    refine ⟨S.length, [.lst [.str w, .int n0]], ?_, ?_, fun h => by cases h⟩
    · simp [z_kLst, sub_lst ha, at0, at1]
    · simp [getNew0, due, found, fl]
  case inr.inr.inr.inr.inr.inr.inr.inr.inr.inr.inr.inr.inr.inr.inr.inr.inl =>
    refine ⟨S.length, [.lst [.int n0, .int n1], .lst [.str w, .str v, .int n1], .lst [.ref S.length, .ref (S.length + 1)]], ?_, ?_, fun h => by cases h⟩
    · simp [z_kLst, sub_lst ha, at0, at1, getOld ha, sub_lst (getOld ha), sub_lst (us := [.ref S.length, .ref (S.length + 1)]) (S := S ++ [.lst [.int n0, .int n1], .lst [.str w, .str v, .int n1], .lst [.ref S.length, .ref (S.length + 1)]]) (a := S.length + 2) getNew]
    · simp [getNew, getNew0, due, found, fl]
  case inr.inr.inr.inr.inr.inr.inr.inr.inr.inr.inr.inr.inr.inr.inr.inr.inr =>
    refine ⟨S.length + 1, [.lst [.int n0, .int n1], .lst [.str w, .str v, .int n1], .lst [.ref S.length, .ref (S.length + 1)]], ?_, ?_, fun h => by cases h⟩
    · simp [z_kLst, sub_lst ha, at0, at1, getOld ha, sub_lst (getOld ha), sub_lst (us := [.ref S.length, .ref (S.length + 1)]) (S := S ++ [.lst [.int n0, .int n1], .lst [.str w, .str v, .int n1], .lst [.ref S.length, .ref (S.length + 1)]]) (a := S.length + 2) getNew]
    · simp [getNew, getNew0, due, found, fl]
end
end K19

set_option Elab.async false
set_option linter.all false
set_option maxRecDepth 100000
set_option maxHeartbeats 4000000
/-! The law: one number's turn. -/
namespace K19
open PySem Ev Tx
def someE : UE := match b_law with
  | .cons (.for _ _ (.cons _ (.cons _ (.cons _ (.cons (.asg _ e) _))))) _ => e
  | _ => .con .non
def atE : UE := match b_law with
  | .cons (.for _ _ (.cons _ (.cons _ (.cons _ (.cons _ (.cons _ (.cons (.ife (.val (.cmp _ _ (.bin _ e _))) _ _) _))))))) _ => e
  | _ => .con .non
def restL : USs := match b_law with
  | .cons (.for _ _ (.cons _ (.cons _ (.cons _ (.cons _ (.cons _ b)))))) _ => b
  | _ => .nil
def bodyL : USs := match b_law with
  | .cons (.for _ _ b) _ => b
  | _ => .nil
def nsOf (n0 n1 : Int) (m : Nat) : List Int := (List.range m).map fun (i : Nat) => (if (0 + (i : Int) * 1) % 2 = 0 then n0 else n1) + (0 + (i : Int) * 1)
def gS (n0 n1 : Int) : U → U
  | .int n => .int ((if n % 2 = 0 then n0 else n1) + n)
  | u => u
def gA (k : Nat) : U → U
  | .int n => .bl (decide (n = k))
  | u => u
theorem gS_map {n0 n1 : Int} {m : Nat} : (rngU 0 m 1).map (gS n0 n1) = (nsOf n0 n1 m).map .int := by
  simp only [rngU, nsOf, List.map_map]
  exact List.map_congr_left fun i _ => rfl
theorem gA_map {k : Nat} : (rngU 0 18 1).map (gA k) = asked (fun i => decide (i = k)) (List.range 18) := by
  simp only [rngU, asked, List.map_map]
  refine List.map_congr_left fun i _ => ?_
  show U.bl (decide ((0 + (i : Int) * 1) = k)) = U.bl (decide (i = k))
  congr 2
  simp
  omega
section
variable {k : Nat} {xs : List Int} {S : Sx}
theorem mul3 {k : Nat} (hk : k < 18) : (3 : Int).natAbs.log2 + (k : Int).natAbs.log2 < 1000000 := by
  have := Nat.log2_le_self (k : Int).natAbs
  have : (3 : Int).natAbs.log2 ≤ 3 := Nat.log2_le_self 3
  omega
theorem some_eq {n0 n1 : Int} {a : Nat} {c : Int} {σ : Sl} (hc : evE (Γk 4) (.call "_law_cell" (.cons (.var 0) (.cons (.bin .Add (.bin .Mult (.con (.int 3)) (.var 1)) (.con (.int 2))) .nil))) σ S = .ok (.int c) S) (h4 : σ[4]? = some (some (.ref a))) (hl : σ.length = 10) (ha : S[a]? = some (.lst [.int n0, .int n1])) :
    evE (Γk 4) someE σ S = .ok (.ref S.length) (S ++ [.lst ((nsOf n0 n1 (c % 7).toNat).map .int)]) := by
  have h7 : 0 ≤ c % 7 ∧ c % 7 < 7 := ⟨Int.emod_nonneg _ (by decide), Int.emod_lt_of_pos _ (by decide)⟩
  have e : someE = .lc [6] (.name 6) (.rng1 (.bin .Mod (.call "_law_cell" (.cons (.var 0) (.cons (.bin .Add (.bin .Mult (.con (.int 3)) (.var 1)) (.con (.int 2))) .nil))) (.con (.int 7)))) .nil (.bin .Add (.sub (.var 4) (.bin .Mod (.var 6) (.con (.int 2)))) (.var 6)) := rfl
  rw [e, z_lc, z_rng1, z_bin, hc]
  have hr := rngW_one (j := c % 7) (by omega) (by omega)
  have := lc_map (S := S) (c := []) (us := rngU 0 (c % 7).toNat 1) (acc := []) (g := gS n0 n1) (turn := lcT (Γk 4) [6] (.name 6) .nil (.bin .Add (.sub (.var 4) (.bin .Mod (.var 6) (.con (.int 2)))) (.var 6)) σ) (fun acc' => standW_nil _) (fun u hu acc' => ?_) (by simp [rngU_len]; rw [sizeLine_eq]; omega)
  · rw [gS_map, List.nil_append] at this
    simp [-z_lc, -z_bin, z_mod (j := 7) (by decide), hr, z_kLc, this]
  · obtain ⟨i, hi⟩ := List.getElem?_of_mem hu
    obtain ⟨_, e0⟩ := rngU_get hi
    rw [Int.zero_add] at e0
    subst e0
    have h1 : (wipe' σ [6]).set 6 (some (U.int (i : Int))) = σ.set 6 (some (.int (i : Int))) := by simp [wipe']
    have h2 : (σ.set 6 (some (U.int (i : Int))))[4]? = some (some (.ref a)) := by rw [List.getElem?_set_ne (by decide)]; exact h4
    have h3 : (σ.set 6 (some (U.int (i : Int))))[6]? = some (some (.int (i : Int))) := List.getElem?_set_self (by omega)
    have hm : (i : Int) % 2 = 0 ∨ (i : Int) % 2 = 1 := by omega
    simp only [lcT, evTg, h1, evTs, R.bind_ok, if_true, z_bin, z_sub, z_kSub, z_var, h2, h3, z_kBin, z_con, z_mod (j := 2) (by decide), sub_lst (getOld ha)]
    rcases hm with hm | hm
    · have hm' : (i : Int) % 2 = 0 := by omega
      rw [hm, at0]
      simp only [R.opt_some, R.bind_ok, z_kBin, z_var, h3, z_add]
      simp [hm', gS]
    · have hm' : ¬ (i : Int) % 2 = 0 := by omega
      rw [hm, at1]
      simp only [R.opt_some, R.bind_ok, z_kBin, z_var, h3, z_add]
      simp [hm', gS]
theorem at_eq {σ : Sl} (h1 : σ[1]? = some (some (.int k))) (hl : σ.length = 10) : evE (Γk 4) atE σ S = .ok (.ref S.length) (S ++ [.lst (asked (fun i => decide (i = k)) (List.range 18))]) := by
  have e : atE = .lc [8] (.name 8) (.rng1 (.con (.int 18))) .nil (.cmp .Eq (.var 8) (.var 1)) := rfl
  rw [e, z_lc, z_rng1, z_con]
  have hr := rngW_one (j := 18) (by decide) (by decide)
  have := lc_map (S := S) (c := []) (us := rngU 0 18 1) (acc := []) (g := gA k) (turn := lcT (Γk 4) [8] (.name 8) .nil (.cmp .Eq (.var 8) (.var 1)) σ) (fun acc' => standW_nil _) (fun u hu acc' => ?_) (by simp [rngU_len]; rw [sizeLine_eq]; decide)
  · have hr' : rngW [.int 18] = some (rngU 0 18 1, []) := hr
    rw [gA_map, List.nil_append] at this
    simp [-z_lc, hr', z_kLc, this]
  · obtain ⟨i, hi⟩ := List.getElem?_of_mem hu
    obtain ⟨_, e0⟩ := rngU_get hi
    rw [Int.zero_add] at e0
    subst e0
    have h1' : (wipe' σ [8]).set 8 (some (U.int (i : Int))) = σ.set 8 (some (.int (i : Int))) := by simp [wipe']
    have h2 : (σ.set 8 (some (U.int (i : Int))))[1]? = some (some (.int k)) := by rw [List.getElem?_set_ne (by decide)]; exact h1
    have h3 : (σ.set 8 (some (U.int (i : Int))))[8]? = some (some (.int (i : Int))) := List.getElem?_set_self (by omega)
    simp only [lcT, evTg, h1', evTs, R.bind_ok, if_true, z_cmp, z_kCmp, z_var, h2, h3, z_eqI, Option.map_some, R.opt_some, gA]
end
end K19

set_option Elab.async false
set_option linter.all false
set_option maxRecDepth 100000
set_option maxHeartbeats 4000000
/-! The law: a turn, all turns. -/
namespace K19
open PySem Ev Tx
section
variable {k : Nat} {xs : List Int} {S : Sx}
/-- the first five rows of a turn -/
theorem seg1 (hk : k < 18) (hS : S[0]? = some (.ro (xs.map .int))) {o2 o3 o4 o5 o6 o7 o8 o9 : Option U} :
    ∃ (w v : Str) (n0 n1 : Int) (ns : List Int), w.length ≤ 8 ∧ okS w ∧ okS v ∧ ns.length ≤ 8 ∧ evSs (Γk 4) bodyL [some (.ref 0), some (.int k), o2, o3, o4, o5, o6, o7, o8, o9] S =
      evSs (Γk 4) restL [some (.ref 0), some (.int k), some (.str w), some (.str v), some (.ref S.length), some (.ref (S.length + 1)), o6, some (.tup [.str w, .str v, .ref S.length, .ref (S.length + 1)]), o8, o9] (S ++ [.lst [.int n0, .int n1], .lst (ns.map .int)]) := by
  obtain ⟨w, hw, hwo, ew⟩ := name_eq (k := 3) (c := xs.getD (3 * k) 0) (S := S)
  obtain ⟨v, hv, hvo, ev⟩ := name_eq (k := 3) (c := xs.getD (3 * k + 1) 0) (S := S)
  obtain ⟨n0, e0⟩ := number_eq (k := 3) (c := xs.getD (3 * k + 1) 0) (S := S)
  obtain ⟨n1, e1⟩ := number_eq (k := 3) (c := xs.getD (3 * k + 2) 0) (S := S)
  have c0 := cell_eq (k := 3) (i := 3 * k) hS
  have c1 := cell_eq (k := 3) (i := 3 * k + 1) hS
  have c2 := cell_eq (k := 3) (i := 3 * k + 2) hS
  have c2' := cell_eq (k := 3) (i := 3 * k + 2) (getOld (l := [.lst [.int n0, .int n1]]) hS)
  have r0 : ((3 * k : Nat) : Int) = 3 * (k : Int) := by omega
  have r1 : ((3 * k + 1 : Nat) : Int) = 3 * (k : Int) + 1 := by omega
  have r2 : ((3 * k + 2 : Nat) : Int) = 3 * (k : Int) + 2 := by omega
  rw [r0] at c0
  rw [r1] at c1
  rw [r2] at c2 c2'
  have m3 := fun S => z_mul (S := S) (mul3 hk)
  have es := some_eq (n0 := n0) (n1 := n1) (a := S.length) (S := S ++ [.lst [.int n0, .int n1]]) (c := xs.getD (3 * k + 2) 0) (σ := [some (.ref 0), some (.int k), some (.str w), some (.str v), some (.ref S.length), o5, o6, o7, o8, o9]) (by simp [m3, c2']) rfl rfl getNew0
  refine ⟨w, v, n0, n1, nsOf n0 n1 (xs.getD (3 * k + 2) 0 % 7).toNat, hw, hwo, hvo, ?_, ?_⟩
  · have h7 : 0 ≤ xs.getD (3 * k + 2) 0 % 7 ∧ xs.getD (3 * k + 2) 0 % 7 < 7 := ⟨Int.emod_nonneg _ (by decide), Int.emod_lt_of_pos _ (by decide)⟩
    simp only [nsOf, List.length_map, List.length_range]
    omega
  · have kl := z_kLst (S := S) (us := [.int n0, .int n1]) (Nat.le_of_ble_eq_true rfl)
    have kt := fun S' => z_kTup (S := S') (us := [.str w, .str v, .ref S.length, .ref (S ++ [O.lst [.int n0, .int n1]]).length]) (Nat.le_of_ble_eq_true rfl)
    have e : bodyL = .cons (.asg (.name 2) (.call "_law_name" (.cons (.call "_law_cell" (.cons (.var 0) (.cons (.bin .Mult (.con (.int 3)) (.var 1)) .nil))) .nil))) (.cons (.asg (.name 3) (.call "_law_name" (.cons (.call "_law_cell" (.cons (.var 0) (.cons (.bin .Add (.bin .Mult (.con (.int 3)) (.var 1)) (.con (.int 1))) .nil))) .nil))) (.cons (.asg (.name 4) (.lst (.cons (.call "_law_number" (.cons (.call "_law_cell" (.cons (.var 0) (.cons (.bin .Add (.bin .Mult (.con (.int 3)) (.var 1)) (.con (.int 1))) .nil))) .nil)) (.cons (.call "_law_number" (.cons (.call "_law_cell" (.cons (.var 0) (.cons (.bin .Add (.bin .Mult (.con (.int 3)) (.var 1)) (.con (.int 2))) .nil))) .nil)) .nil)))) (.cons (.asg (.name 5) someE) (.cons (.asg (.name 7) (.tup (.cons (.var 2) (.cons (.var 3) (.cons (.var 4) (.cons (.var 5) .nil)))))) restL)))) := rfl
    rw [e]
    simp only [z_sCons, z_asgN, z_call, z_cons, z_var, z_con, z_bin, z_kBin, List.getElem?_cons_zero, List.getElem?_cons_succ, R.bind_ok, m3, z_add, z_kCons, z_nil, z_kCons2, c0, c1, c2, ew, ev, e0, e1, R.thenS_ok, z_kSet, RS.next_nx, List.set_cons_succ, List.set_cons_zero, z_lst, kl, es, z_tup, kt]
    simp
/-- lists of the same -/
inductive Pairs (S : Sx) : List U → List U → Prop
  | nil : Pairs S [] []
  | cons {u v : U} {us vs : List U} : Pair S u v → Pairs S us vs → Pairs S (u :: us) (v :: vs)
theorem Pairs.len {S : Sx} : ∀ {us vs : List U}, Pairs S us vs → us.length = vs.length
  | _, _, .nil => rfl
  | _, _, .cons _ t => by simp [t.len]
theorem Pairs.at {S : Sx} : ∀ {us vs : List U}, Pairs S us vs → ∀ (i : Nat) u v, us[i]? = some u → vs[i]? = some v → Pair S u v
  | _, _, .nil, i, u, v, h, _ => by simp at h
  | _, _, .cons p t, 0, u, v, h, h' => by
    simp at h h'
    subst h h'
    exact p
  | _, _, .cons p t, i + 1, u, v, h, h' => t.at i u v (by simpa using h) (by simpa using h')
theorem pairs_eq {w v : Str} {n0 n1 : Int} {ns : List Int} {b r4 r5 : Nat} (hk : k < 18) (hwo : okS w) (hvo : okS v) (h10 : k = 10 → S[r5]? = some (.lst (rings w ns)) ∧ S[r4]? = some (.lst (rings w ns))) (h11 : k = 11 → S[r5]? = some (.lst (ns.map .int)) ∧ S[b]? = some (.lst (ns.map .int))) :
    Pairs S (found w v n0 n1 r5 k) (due w v n0 n1 b r4 k) := by
  have hk' : k = 0 ∨ k = 1 ∨ k = 2 ∨ k = 3 ∨ k = 4 ∨ k = 5 ∨ k = 6 ∨ k = 7 ∨ k = 8 ∨ k = 9 ∨ k = 10 ∨ k = 11 ∨ k = 12 ∨ k = 13 ∨ k = 14 ∨ k = 15 ∨ k = 16 ∨ k = 17 := by omega
  rcases hk' with rfl | rfl | rfl | rfl | rfl | rfl | rfl | rfl | rfl | rfl | rfl | rfl | rfl | rfl | rfl | rfl | rfl | rfl
  case inr.inr.inr.inr.inr.inr.inr.inr.inr.inr.inl => exact .cons (.lst (h10 rfl).1 (h10 rfl).2 (rings_ok hwo ns)) .nil
  case inr.inr.inr.inr.inr.inr.inr.inr.inr.inr.inr.inl => exact .cons (.lst (h11 rfl).1 (h11 rfl).2 (by simp [okF, List.all_eq_true])) .nil
  all_goals first
    | exact .nil
    | exact .cons (.str _ hwo) .nil
    | exact .cons (.int _) .nil
    | exact .cons (.str _ hwo) (.cons (.int _) .nil)
    | exact .cons (.int _) (.cons (.int _) .nil)
    | exact .cons (.str _ hwo) (.cons (.str _ hvo) (.cons (.int _) .nil))
/-- the rest of a turn -/
theorem seg2 {w v : Str} {n0 n1 : Int} {ns : List Int} {a b : Nat} {o6 o8 o9 : Option U} (hk : k < 18) (hw : w.length ≤ 8) (hwo : okS w) (hvo : okS v) (hn : ns.length ≤ 8) (ha : S[a]? = some (.lst [.int n0, .int n1])) (hb : S[b]? = some (.lst (ns.map .int))) :
    ∃ o9' l, evSs (Γk 4) restL [some (.ref 0), some (.int k), some (.str w), some (.str v), some (.ref a), some (.ref b), o6, some (.tup [.str w, .str v, .ref a, .ref b]), o8, o9] S =
      .nx [some (.ref 0), some (.int k), some (.str w), some (.str v), some (.ref a), some (.ref b), o6, some (.tup [.str w, .str v, .ref a, .ref b]), o8, o9'] (S ++ l) := by
  obtain ⟨l1, e1⟩ := kinds_eq (j := 1) (v := v) hk ha hb hw hn
  have e : restL = .cons (.ife (.val (.cmp .NotEq (.call "_law_kinds" (.cons (.var 1) (.cons (.var 7) .nil))) (.bin .Add atE (.lst (.cons (.con (.bl true)) .nil))))) (.cons (.ret (.con (.bl false))) .nil) .nil) (.cons (.asg (.name 9) (.call "_law_due" (.cons (.var 1) (.cons (.var 7) .nil)))) (.cons (.ife (.and (.val (.cmp .Lt (.var 1) (.con (.int 12)))) (.not (.val (.call "_law_alike" (.cons (.call "_law_lone" (.cons (.var 1) (.cons (.var 7) .nil))) (.cons (.var 9) .nil)))))) (.cons (.ret (.con (.bl false))) .nil) .nil) (.cons (.ife (.and (.val (.cmp .Gt (.var 1) (.con (.int 11)))) (.not (.val (.call "_law_alike" (.cons (.call "_law_paired" (.cons (.var 1) (.cons (.var 7) .nil))) (.cons (.var 9) .nil)))))) (.cons (.ret (.con (.bl false))) .nil) .nil) .nil))) := rfl
  have hok : (asked (fun i => decide (i = k)) (List.range 18) ++ [U.bl true]).all okF = true := by
    rw [List.all_append, asked, List.all_map]
    simp [okF, List.all_eq_true]
  have hlen : (asked (fun i => decide (i = k)) (List.range 18)).length = 18 := by simp [asked]
  generalize hKL : asked (fun i => decide (i = k)) (List.range 18) = KL at e1 hok hlen
  generalize hS3 : S ++ (l1 ++ [O.lst (KL ++ [.bl true])]) = S3 at e1
  have g1 : S3[S.length + l1.length]? = some (.lst (KL ++ [.bl true])) := by
    rw [← hS3, getNew, List.getElem?_append_right (Nat.le_refl _)]
    simp
  have ha3 : S3[a]? = some (.lst [.int n0, .int n1]) := by rw [← hS3]; exact getOld ha
  have hb3 : S3[b]? = some (.lst (ns.map .int)) := by rw [← hS3]; exact getOld hb
  have ea := at_eq (k := k) (S := S3) (σ := [some (.ref 0), some (.int k), some (.str w), some (.str v), some (.ref a), some (.ref b), o6, some (.tup [.str w, .str v, .ref a, .ref b]), o8, o9]) rfl rfl
  rw [hKL] at ea
  have kl := z_kLst (S := S3 ++ [O.lst KL]) (us := [.bl true]) (Nat.le_of_ble_eq_true rfl)
  have eadd : opBin .Add (.ref S3.length) (.ref (S3 ++ [O.lst KL]).length) (S3 ++ [O.lst KL] ++ [O.lst [.bl true]]) = .ok (.ref (S3.length + 2)) (S3 ++ [.lst KL, .lst [.bl true], .lst (KL ++ [.bl true])]) := by
    simp [z_addR, z_new, getNew, getNew0, hlen, sizeLine_eq]
  have hne : opCmp (S3 ++ [.lst KL, .lst [.bl true], .lst (KL ++ [.bl true])]) .NotEq (.ref (S.length + l1.length)) (.ref (S3.length + 2)) = some false := z_ne (b := true) (eqD_lst (getOld g1) (getNew (i := 2)) hok)
  generalize hS4 : S3 ++ [O.lst KL, .lst [.bl true], .lst (KL ++ [.bl true])] = S4 at eadd hne
  have ha4 : S4[a]? = some (.lst [.int n0, .int n1]) := by rw [← hS4]; exact getOld ha3
  have hb4 : S4[b]? = some (.lst (ns.map .int)) := by rw [← hS4]; exact getOld hb3
  obtain ⟨r, l5, e5, g5, g10⟩ := due_eq (j := 3) (v := v) hk ha4 hb4 hw hn
  have ha5 := getOld (l := l5) ha4
  have hb5 := getOld (l := l5) hb4
  have hpr : Pairs ((S4 ++ l5) ++ (nw w ns k ++ [O.lst (found w v n0 n1 (S4 ++ l5).length k)])) (found w v n0 n1 (S4 ++ l5).length k) (due w v n0 n1 b S4.length k) := pairs_eq hk hwo hvo (fun h => by
      refine ⟨?_, getOld ?_⟩
      · rw [getNew0, h]; rfl
      · rw [getNew0]; exact g10 h) (fun h => ⟨by rw [getNew0, h]; rfl, getOld hb5⟩)
  have hfd : ((S4 ++ l5) ++ (nw w ns k ++ [O.lst (found w v n0 n1 (S4 ++ l5).length k)]))[(S4 ++ l5).length + (nw w ns k).length]? = some (.lst (found w v n0 n1 (S4 ++ l5).length k)) := by
    rw [getNew, List.getElem?_append_right (Nat.le_refl _)]
    simp
  have eal := alike_eq (j := 3) hfd (getOld g5) hpr.len hpr.at
  refine ⟨some (.ref r), (l1 ++ [O.lst (KL ++ [.bl true])]) ++ [O.lst KL, .lst [.bl true], .lst (KL ++ [.bl true])] ++ l5 ++ (nw w ns k ++ [O.lst (found w v n0 n1 (S4 ++ l5).length k)]), ?_⟩
  have eS : S ++ ((l1 ++ [O.lst (KL ++ [.bl true])]) ++ [O.lst KL, .lst [.bl true], .lst (KL ++ [.bl true])] ++ l5 ++ (nw w ns k ++ [O.lst (found w v n0 n1 (S4 ++ l5).length k)])) = (S4 ++ l5) ++ (nw w ns k ++ [O.lst (found w v n0 n1 (S4 ++ l5).length k)]) := by
    rw [← hS4, ← hS3]
    simp only [List.append_assoc]
  rw [eS, e]
  by_cases h12 : k < 12
  · have hlt : (k : Int) < 12 := by omega
    have hgt : ¬ (11 : Int) < k := by omega
    have el := lone_eq (j := 1) (v := v) h12 ha5 hb5 hw hn
    simp only [z_sCons, z_if, z_val, z_cmp, z_call, z_cons, z_var, z_con, z_nil, List.getElem?_cons_zero, List.getElem?_cons_succ, R.bind_ok, z_kCons, z_kCons2, e1, z_kCmp, z_bin, ea, z_kBin, z_lst, kl, eadd, hne, Option.map_some, R.opt_some, z_kVal, R.thenS_ok, z_kIf0, z_sNil, RS.next_nx, z_asgN, e5, z_kSet, List.set_cons_succ, List.set_cons_zero, z_andT, z_lt, hlt, decide_true, z_kAndT1, z_notT, el, eal, z_kNotT, Bool.not_true, z_gt, hgt, decide_false, z_kAndT0]
  · have hlt : ¬ (k : Int) < 12 := by omega
    have hgt : (11 : Int) < k := by omega
    have el := paired_eq (j := 1) (v := v) (by omega) hk ha5 hb5 hw hn
    simp only [z_sCons, z_if, z_val, z_cmp, z_call, z_cons, z_var, z_con, z_nil, List.getElem?_cons_zero, List.getElem?_cons_succ, R.bind_ok, z_kCons, z_kCons2, e1, z_kCmp, z_bin, ea, z_kBin, z_lst, kl, eadd, hne, Option.map_some, R.opt_some, z_kVal, R.thenS_ok, z_kIf0, z_sNil, RS.next_nx, z_asgN, e5, z_kSet, List.set_cons_succ, List.set_cons_zero, z_andT, z_lt, hlt, decide_true, z_kAndT1, z_notT, el, eal, z_kNotT, Bool.not_true, z_gt, hgt, decide_false, z_kAndT0]
end
/-- every turn -/
theorem law_all (ns : List Int) (hl : ns.length ≤ 63) : ∃ S', evB T.prg (evD T.prg 4) d_law.u [.ref 0] [.ro (ns.map .int)] = .ok (.bl true) S' := by
  obtain ⟨σ', S', h1, o1, o2, o3, o4, o5, o6, o7, o8, o9, l, rfl, rfl⟩ := for_inv (c := []) (us := rngU 0 18 1) (i := 0) (turn := forT (Γk 4) (.name 1) bodyL)
    (fun i σ S' => ∃ o1 o2 o3 o4 o5 o6 o7 o8 o9 l, σ = [some (.ref 0), o1, o2, o3, o4, o5, o6, o7, o8, o9] ∧ S' = [O.ro (ns.map .int)] ++ l) (fun i σ S' hI => standW_nil S') (fun i u σ S' hi hI => by
      obtain ⟨o1, o2, o3, o4, o5, o6, o7, o8, o9, l, rfl, rfl⟩ := hI
      obtain ⟨hi2, rfl⟩ := rngU_get hi
      obtain ⟨w, v, n0, n1, ms, hw, hwo, hvo, hm, e1⟩ := seg1 (k := i) (xs := ns) (S := [O.ro (ns.map .int)] ++ l) hi2 rfl (o2 := o2) (o3 := o3) (o4 := o4) (o5 := o5) (o6 := o6) (o7 := o7) (o8 := o8) (o9 := o9)
      obtain ⟨o9', l2, e2⟩ := seg2 (k := i) (S := ([O.ro (ns.map .int)] ++ l) ++ [O.lst [.int n0, .int n1], .lst (ms.map .int)]) (o6 := o6) (o8 := o8) (o9 := o9) hi2 hw hwo hvo hm getNew0 (getNew (i := 1))
      have et := e1.trans e2
      exact ⟨_, _, .inl (by
        rw [z_forT, z_gN, RS.next_nx, Int.zero_add]
        simp only [List.set_cons_succ, List.set_cons_zero]
        exact et), _, _, _, _, _, _, _, _, _, l ++ ([O.lst [.int n0, .int n1], .lst (ms.map .int)] ++ l2), rfl, by simp only [List.append_assoc]⟩) (σ := [some (.ref 0), none, none, none, none, none, none, none, none, none]) (S := [O.ro (ns.map .int)]) ⟨none, none, none, none, none, none, none, none, none, [], rfl, by simp⟩
  refine ⟨[O.ro (ns.map .int)] ++ l, ?_⟩
  show (evSs (Γk 4) b_law [some (.ref 0), none, none, none, none, none, none, none, none, none] [O.ro (ns.map .int)]).done = _
  have e : b_law = .cons (.for (.name 1) (.rng1 (.con (.int 18))) bodyL) (.cons (.ret (.con (.bl true))) .nil) := rfl
  have hr : rngW [.int 18] = some (rngU 0 18 1, []) := rngW_one (j := 18) (by decide) (by decide)
  rw [e]
  simp only [z_sCons, z_for, z_rng1, z_con, R.bind_ok, z_kRng1, hr, R.opt_some, R.thenS_ok, z_kFor, h1, RS.next_nx, z_ret, z_kRt, RS.next_rt, z_doneR]
end K19

set_option Elab.async false
set_option linter.all false
set_option maxRecDepth 100000
set_option maxHeartbeats 0
/-! The claim. -/
open PySem PySem.W PySem.Calls PyProof.Rows
theorem PySem.Challenge.cw_groupbooks_k19_refusals_apart_holds : PySem.Challenge.rw_groupbooks_k19_refusals_apart.Holds := by
  w_on; o_law
  refine HandSHeadRun.head_any (r := OpenLaw.row PySem.Challenge.rw_groupbooks_k19_refusals_apart) (q := view (OpenLaw.row PySem.Challenge.rw_groupbooks_k19_refusals_apart).prog [32]) (H := Hd.hk) (ob := Hd.ob) (M := 100000) (loose := Hd.nms) (d := HandSHeadRun.topDef (OpenLaw.row PySem.Challenge.rw_groupbooks_k19_refusals_apart).prog 32) (kwd := []) Hd.ob_eq
    (by kernel_rfl) (fun s => by kernel_rfl) Hd.run (by kernel_rfl) (by kernel_rfl) (by kernel_rfl) (by rfl) (by first | assumption | decide +kernel) (by decide +kernel) ⟨rfl, rfl, rfl, rfl, rfl, by decide +kernel⟩ ?hw ?hc
  case hw => w_witness2
  case hc =>
    exact Ev.law_end (l := PySem.Challenge.rw_groupbooks_k19_refusals_apart) (T := Tx.T) (n := 6) (k := 4) (d := Tx.d_law) rfl (by kernel_rfl) (by kernel_rfl) ⟨rfl, by decide, by decide⟩ Tx.ok Tx.cm Tx.nm Tx.xm Tx.vm (by simp [Tx.T, Tx.dfs, Tx.dfs0]) rfl (by simp [Tx.T, Tx.fnx, Tx.fnx0]) rfl rfl Tx.bA K19.law_all
#print axioms PySem.Challenge.cw_groupbooks_k19_refusals_apart_holds
