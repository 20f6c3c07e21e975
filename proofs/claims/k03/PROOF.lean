import PyProof.Rows.All
import Wide.All
import OpenK.AllK
import Wide.FinOn
import HandS.ForMost
import HandS.Exc
import HandS.TryOnly
import HandS.ExcOwn
import HandS.WordsExc
import HandS.ExcIs
import HandS.IsInst
import HandS.TupAny
import HandS.TupMul
import HandS.Zip
import HandS.Walk
import HandS.Flow
import HandS.Style
import HandS.Wide
import HandS.Deep
import KE.GoesMore
import HandS.Defaults
import HandS.EndBits
import HandS.HeadHook2
import HandS.HeadHook4
import HandS.List
import HandS.Ends
import KE.IntBitsLaws
import Lean
import HandS.More
import KE.SortData
import KE.DataFind
import HandS.TupSets
import KE.GoesZip
import HandS.Strs
import HandS.SetFor
import KE.KeyNested
import PySem.Challenge.RW_fieldsteps_k03_parts
import KE.KStateDown
import HandS.Head0
import HandS.Head1
import HandS.Head2
import HandS.HeadEnd
import HandS.HeadHook1
import HandS.HeadHook3
set_option Elab.async false
set_option linter.all false
set_option maxRecDepth 100000
set_option maxHeartbeats 0
/-! FsA: a pure layer over the hand layer. A def's body is read as a function over data; the slots of a frame hold data, or a list of one's own that may be changed. -/
namespace FS
open PySem PySem.Spec PyProof.Rows L2

/-- the refusals of the program -/
inductive Ex where
  | BadField | BadNumber | BadWhole | Zero | BadRow | BadWay | BadBase | NoMaker | BadText
  deriving DecidableEq, Repr

inductive Out (α : Type) where
  | ok (a : α)
  | err (c : Ex)
  | bad

@[inline] def Out.bind {α β : Type} (x : Out α) (f : α → Out β) : Out β := match x with
  | .ok a => f a
  | .err c => .err c
  | .bad => .bad
def Out.map {α β : Type} (f : α → β) (x : Out α) : Out β := match x with
  | .ok a => .ok (f a)
  | .err c => .err c
  | .bad => .bad
@[simp] theorem Out.bind_ok {α β : Type} (a : α) (f : α → Out β) : (Out.ok a).bind f = f a := rfl
@[simp] theorem Out.bind_err {α β : Type} (c : Ex) (f : α → Out β) : (Out.err c : Out α).bind f = .err c := rfl
@[simp] theorem Out.bind_bad {α β : Type} (f : α → Out β) : (Out.bad : Out α).bind f = .bad := rfl

/-- how a value came: by itself, a new list that nobody else holds, a list of one's own lent -/
inductive Kd where
  | v | f | b
  deriving DecidableEq
structure R where
  k : Kd
  d : PyData
/-- what a slot holds -/
inductive Sv where
  | un
  | val (d : PyData)
  | own (ds : List PyData)
  | exc (c : Ex)
abbrev En := List Sv
/-- what a statement comes to -/
inductive SO where
  | nx (α : En)
  | rt (r : R)
  | er (c : Ex)
  | bad

/-! ### data in the heap: N are the addresses that it does not lean on -/
/-- a list of the written part -/
def KL (K : PySem.W.Frag) (a : Addr) (xs : List V) : Prop := ∃ (o : Obj) (its : Array Value) (n : Nat), K.lookup a = some o ∧ o.cls = .type "list" ∧ o.dict = none ∧ o.data = .seq its n ∧ its.size ≤ sizeLine ∧ Vals xs its.toList
def LQ (K : PySem.W.Frag) (N : Addr → Prop) (H : Hp) (a : Addr) (xs : List V) : Prop := (¬ N a ∧ Rd H a (.lst xs)) ∨ KL K a xs
theorem LQ.sq {K : PySem.W.Frag} {N : Addr → Prop} {H : Hp} {a : Addr} {xs : List V} (h : LQ K N H a xs) : SqL K H a xs := h.elim (fun z => .inl z.2) .inr
mutual
inductive DN (K : PySem.W.Frag) (N : Addr → Prop) (H : Hp) : V → PyData → Prop
  | non : DN K N H .non .none
  | bl (b : Bool) : DN K N H (.bl b) (.bool b)
  | int (i : Int) : DN K N H (.int i) (.int i)
  | str (x : Str) : DN K N H (.str x) (.str x)
  | lst {a : Addr} {xs : List V} {ds : List PyData} : LQ K N H a xs → DNs K N H xs ds → DN K N H (.ref a) (.list ds)
  | tup {a : Addr} {xs : List V} {ds : List PyData} : SqT K H a xs → DNs K N H xs ds → DN K N H (.ref a) (.tuple ds)
inductive DNs (K : PySem.W.Frag) (N : Addr → Prop) (H : Hp) : List V → List PyData → Prop
  | nil : DNs K N H [] []
  | cons {v : V} {vs : List V} {d : PyData} {ds : List PyData} : DN K N H v d → DNs K N H vs ds → DNs K N H (v :: vs) (d :: ds)
end

section
variable {K : PySem.W.Frag} {N N' : Addr → Prop} {H H' : Hp}
theorem Rd.mono {a : Addr} {u : HO} (h : ∀ o, H a = some o → H' a = some o) (r : Rd H a u) : Rd H' a u := by
  rcases r with r | ⟨o, r⟩
  · exact .inl (h _ r)
  · exact .inr ⟨o, h _ r⟩
theorem SqT.mono {a : Addr} {xs : List V} (h : ∀ ys, H a = some (.tup ys) → H' a = some (.tup ys)) (h' : ∀ o ys, H a = some (.frz o (.tup ys)) → H' a = some (.frz o (.tup ys))) (r : SqT K H a xs) : SqT K H' a xs := by
  rcases r with (r | ⟨o, r⟩) | r
  · exact .inl (.inl (h _ r))
  · exact .inl (.inr ⟨o, h' _ _ r⟩)
  · exact .inr r
/-- what must stay -/
structure Stay (N N' : Addr → Prop) (H H' : Hp) : Prop where
  l : ∀ a xs, ¬ N a → H a = some (.lst xs) → ¬ N' a ∧ H' a = some (.lst xs)
  fl : ∀ a o xs, ¬ N a → H a = some (.frz o (.lst xs)) → ¬ N' a ∧ H' a = some (.frz o (.lst xs))
  t : ∀ a xs, H a = some (.tup xs) → H' a = some (.tup xs)
  ft : ∀ a o xs, H a = some (.frz o (.tup xs)) → H' a = some (.frz o (.tup xs))
theorem Stay.same (s : Same H H') : Stay N N H H' := ⟨fun a xs n h => ⟨n, s _ _ h⟩, fun a o xs n h => ⟨n, s _ _ h⟩, fun _ _ h => s _ _ h, fun _ _ _ h => s _ _ h⟩
theorem Stay.less (h : ∀ a, N' a → N a) : Stay N N' H H := ⟨fun a xs n q => ⟨fun z => n (h a z), q⟩, fun a o xs n q => ⟨fun z => n (h a z), q⟩, fun _ _ h => h, fun _ _ _ h => h⟩
theorem LQ.stay (st : Stay N N' H H') {a : Addr} {xs : List V} (h : LQ K N H a xs) : LQ K N' H' a xs := by
  rcases h with ⟨n, r | ⟨o, r⟩⟩ | h
  · have z := st.l _ _ n r
    exact .inl ⟨z.1, .inl z.2⟩
  · have z := st.fl _ _ _ n r
    exact .inl ⟨z.1, .inr ⟨o, z.2⟩⟩
  · exact .inr h
mutual
theorem DN.stay (st : Stay N N' H H') : ∀ {d : PyData} {v : V}, DN K N H v d → DN K N' H' v d
  | .none, _, h => by cases h; exact .non
  | .bool b, _, h => by cases h; exact .bl b
  | .int i, _, h => by cases h; exact .int i
  | .str x, _, h => by cases h; exact .str x
  | .list ds, _, h => by
    cases h with
    | lst r t => exact .lst (r.stay st) (DNs.stay st t)
  | .tuple ds, _, h => by
    cases h with
    | tup r t => exact .tup (SqT.mono (fun ys => st.t _ ys) (fun o ys => st.ft _ o ys) r) (DNs.stay st t)
  | .dict _, _, h => by cases h
theorem DNs.stay (st : Stay N N' H H') : ∀ {ds : List PyData} {vs : List V}, DNs K N H vs ds → DNs K N' H' vs ds
  | [], _, h => by cases h; exact .nil
  | d :: ds, _, h => by
    cases h with
    | cons a b => exact .cons (DN.stay st a) (DNs.stay st b)
end
theorem DN.same (s : Same H H') {d : PyData} {v : V} (h : DN K N H v d) : DN K N H' v d := h.stay (.same s)
theorem DNs.same (s : Same H H') {ds : List PyData} {vs : List V} (h : DNs K N H vs ds) : DNs K N H' vs ds := h.stay (.same s)
theorem DN.less (s : ∀ a, N' a → N a) {d : PyData} {v : V} (h : DN K N H v d) : DN K N' H v d := h.stay (.less s)
theorem DNs.less (s : ∀ a, N' a → N a) {ds : List PyData} {vs : List V} (h : DNs K N H vs ds) : DNs K N' H vs ds := h.stay (.less s)
/-- an address that is not tracked may be forbidden, too -/
theorem Stay.more {l : Addr} (h : H l = none) : Stay N (fun a => N a ∨ a = l) H H :=
  ⟨fun a xs n q => ⟨fun z => z.elim n fun e => (by rw [e, h] at q; cases q), q⟩, fun a o xs n q => ⟨fun z => z.elim n fun e => (by rw [e, h] at q; cases q), q⟩, fun _ _ h => h, fun _ _ _ h => h⟩
theorem DN.more {l : Addr} (h : H l = none) {d : PyData} {v : V} (x : DN K N H v d) : DN K (fun a => N a ∨ a = l) H v d := x.stay (.more h)
theorem DNs.more {l : Addr} (h : H l = none) {ds : List PyData} {vs : List V} (x : DNs K N H vs ds) : DNs K (fun a => N a ∨ a = l) H vs ds := x.stay (.more h)
mutual
theorem DN.dp : ∀ {d : PyData} {v : V}, DN K N H v d → Dp K H v d
  | .none, _, h => by cases h; exact .non
  | .bool b, _, h => by cases h; exact .bl b
  | .int i, _, h => by cases h; exact .int i
  | .str x, _, h => by cases h; exact .str x
  | .list ds, _, h => by cases h with | lst r t => exact .lst r.sq (DNs.dp t)
  | .tuple ds, _, h => by cases h with | tup r t => exact .tup r (DNs.dp t)
  | .dict _, _, h => by cases h
theorem DNs.dp : ∀ {ds : List PyData} {vs : List V}, DNs K N H vs ds → DpAll K H vs ds
  | [], _, h => by cases h; exact .nil
  | d :: ds, _, h => by cases h with | cons a b => exact .cons (DN.dp a) (DNs.dp b)
end
theorem DNs.length : ∀ {vs : List V} {ds : List PyData}, DNs K N H vs ds → vs.length = ds.length
  | _, _, .nil => rfl
  | _, _, .cons _ t => by simp [DNs.length t]
theorem DNs.get : ∀ {vs : List V} {ds : List PyData} {i : Nat} {d : PyData}, DNs K N H vs ds → ds[i]? = some d → ∃ v, vs[i]? = some v ∧ DN K N H v d
  | _, _, _, _, .nil, h => by simp at h
  | _, _, 0, _, .cons a _, h => by simp at h; subst h; exact ⟨_, rfl, a⟩
  | _, _, i + 1, d, .cons _ t, h => by
    obtain ⟨v, h1, h2⟩ := DNs.get (i := i) (d := d) t (by simpa using h)
    exact ⟨v, by simpa using h1, h2⟩
theorem DNs.getV : ∀ {vs : List V} {ds : List PyData} {i : Nat} {v : V}, DNs K N H vs ds → vs[i]? = some v → ∃ d, ds[i]? = some d ∧ DN K N H v d
  | _, _, _, _, .nil, h => by simp at h
  | _, _, 0, _, .cons a _, h => by simp at h; subst h; exact ⟨_, rfl, a⟩
  | _, _, i + 1, d, .cons _ t, h => by
    obtain ⟨v, h1, h2⟩ := DNs.getV (i := i) (v := d) t (by simpa using h)
    exact ⟨v, by simpa using h1, h2⟩
theorem DNs.app : ∀ {vs ws : List V} {ds es : List PyData}, DNs K N H vs ds → DNs K N H ws es → DNs K N H (vs ++ ws) (ds ++ es)
  | _, _, _, _, .nil, s => s
  | _, _, _, _, .cons a t, s => .cons a (DNs.app t s)
theorem DNs.take : ∀ {vs : List V} {ds : List PyData} (n : Nat), DNs K N H vs ds → DNs K N H (vs.take n) (ds.take n)
  | _, _, 0, _ => .nil
  | _, _, _ + 1, .nil => .nil
  | _, _, n + 1, .cons a t => .cons a (DNs.take n t)
theorem DNs.drop : ∀ {vs : List V} {ds : List PyData} (n : Nat), DNs K N H vs ds → DNs K N H (vs.drop n) (ds.drop n)
  | _, _, 0, h => h
  | _, _, _ + 1, .nil => .nil
  | _, _, n + 1, .cons _ t => DNs.drop n t
theorem DNs.set : ∀ {vs : List V} {ds : List PyData} (i : Nat) {v : V} {d : PyData}, DNs K N H vs ds → DN K N H v d → DNs K N H (vs.set i v) (ds.set i d)
  | _, _, _, _, _, .nil, _ => .nil
  | _, _, 0, _, _, .cons _ t, x => .cons x t
  | _, _, i + 1, _, _, .cons a t, x => .cons a (DNs.set i t x)
theorem DNs.rev {vs : List V} {ds : List PyData} (h : DNs K N H vs ds) : DNs K N H vs.reverse ds.reverse := by
  induction vs generalizing ds with
  | nil => cases h; exact .nil
  | cons v vs ih =>
    cases h with
    | cons a t => rw [List.reverse_cons, List.reverse_cons]; exact DNs.app (ih t) (.cons a .nil)
theorem DNs.dropLast {vs : List V} {ds : List PyData} (h : DNs K N H vs ds) : DNs K N H vs.dropLast ds.dropLast := by
  rw [List.dropLast_eq_take, List.dropLast_eq_take, h.length]; exact h.take _
theorem DNs.rep {vs : List V} {ds : List PyData} (h : DNs K N H vs ds) : ∀ k : Nat, DNs K N H (List.replicate k vs).flatten (List.replicate k ds).flatten
  | 0 => .nil
  | k + 1 => by rw [List.replicate_succ, List.flatten_cons, List.replicate_succ, List.flatten_cons]; exact h.app (DNs.rep h k)
end

/-! ### the frame -/
/-- the exception that is being handled: where it lies, what it is -/
structure Xi where
  a : Addr
  c : Option Ex
/-- where the program's errors lie, what is being handled -/
structure Cc where
  at_ : Ex → Addr
  xi : Xi
/-- what is forbidden: by the callers, or a list of one's own -/
def Nn (F : Addr → Prop) (α : En) (σ : L2.St) : Addr → Prop := fun a => F a ∨ ∃ (i : Nat) (ds : List PyData), α[i]? = some (Sv.own ds) ∧ σ[i]? = some (some (V.ref a))
def SlotOk (K : PySem.W.Frag) (xa : Xi) (N : Addr → Prop) (H : Hp) (o : Option (Option V)) : Sv → Prop
  | .un => True
  | .val d => ∃ v, o = some (some v) ∧ DN K N H v d
  | .own ds => ∃ l vs, o = some (some (.ref l)) ∧ H l = some (.lst vs) ∧ DNs K N H vs ds
  | .exc c => o = some (some (.ref xa.a)) ∧ xa.c = some c
structure Rel (K : PySem.W.Frag) (xa : Xi) (H0 : Hp) (F : Addr → Prop) (α : En) (σ : L2.St) (H : Hp) : Prop where
  len : α.length = σ.length
  base : Same H0 H
  ftr : ∀ a, F a → ∃ o, H0 a = some o
  slot : ∀ (i : Nat) s, α[i]? = some s → SlotOk K xa (Nn F α σ) H σ[i]? s
  own : ∀ (i : Nat) ds l, α[i]? = some (.own ds) → σ[i]? = some (some (.ref l)) → H0 l = none
  dis : ∀ (i j : Nat) ds es l, α[i]? = some (.own ds) → α[j]? = some (.own es) → σ[i]? = some (some (.ref l)) → σ[j]? = some (some (.ref l)) → i = j

section
variable {K : PySem.W.Frag} {xa : Xi} {H0 H H' : Hp} {F : Addr → Prop} {α : En} {σ : L2.St}
theorem SlotOk.stay {N N' : Addr → Prop} (st : Stay N N' H H') {o : Option (Option V)} : ∀ {s : Sv}, (∀ ds l, s = .own ds → o = some (some (.ref l)) → ∀ vs, H l = some (.lst vs) → H' l = some (.lst vs)) → SlotOk K xa N H o s → SlotOk K xa N' H' o s
  | .un, _, _ => trivial
  | .val _, _, ⟨v, e, x⟩ => ⟨v, e, x.stay st⟩
  | .own ds, k, ⟨l, vs, e, x, y⟩ => ⟨l, vs, e, k ds l rfl e vs x, y.stay st⟩
  | .exc _, _, e => e
theorem Rel.same (r : Rel K xa H0 F α σ H) (s : Same H H') : Rel K xa H0 F α σ H' :=
  ⟨r.len, r.base.trans s, r.ftr, fun i sv e => (r.slot i sv e).stay (.same s) fun _ l _ _ vs h => s _ _ h, r.own, r.dis⟩
theorem Rel.tracked (r : Rel K xa H0 F α σ H) {a : Addr} (h : Nn F α σ a) : ∃ o, H a = some o := by
  rcases h with h | ⟨i, ds, e, s⟩
  · obtain ⟨o, q⟩ := r.ftr a h
    exact ⟨o, r.base _ _ q⟩
  · obtain ⟨l, vs, e', q, _⟩ := r.slot i _ e
    rw [s] at e'
    cases e'
    exact ⟨_, q⟩
/-- a new address is not forbidden -/
theorem Rel.new (r : Rel K xa H0 F α σ H) {p : Addr} (h : H p = none) : ¬ Nn F α σ p := fun z => by
  obtain ⟨o, q⟩ := r.tracked z
  rw [h] at q; cases q
end

/-! ### values -/
/-- the value v, found between H and H', tells r -/
def RV (K : PySem.W.Frag) (N : Addr → Prop) (H H' : Hp) (v : V) (r : R) : Prop := match r.k with
  | .v => DN K N H' v r.d
  | .f => ∃ l vs ds, v = .ref l ∧ r.d = .list ds ∧ H l = none ∧ H' l = some (.lst vs) ∧ DNs K (fun a => N a ∨ a = l) H' vs ds
  | .b => ∃ l vs ds, v = .ref l ∧ r.d = .list ds ∧ H' l = some (.lst vs) ∧ DNs K N H' vs ds
section
variable {K : PySem.W.Frag} {N : Addr → Prop} {H H' H'' : Hp} {v : V} {r : R}
/-- kept by what comes behind -/
theorem RV.later (x : RV K N H H' v r) (s : Same H' H'') : RV K N H H'' v r := by
  obtain ⟨k, d⟩ := r
  cases k with
  | v => exact DN.same s x
  | f => obtain ⟨l, vs, ds, e1, e2, e3, e4, e5⟩ := x; exact ⟨l, vs, ds, e1, e2, e3, s _ _ e4, e5.same s⟩
  | b => obtain ⟨l, vs, ds, e1, e2, e4, e5⟩ := x; exact ⟨l, vs, ds, e1, e2, s _ _ e4, e5.same s⟩
theorem RV.earlier {H1 : Hp} (x : RV K N H H' v r) (s : Same H1 H) : RV K N H1 H' v r := by
  obtain ⟨k, d⟩ := r
  cases k with
  | v => exact x
  | f => obtain ⟨l, vs, ds, e1, e2, e3, e4, e5⟩ := x; exact ⟨l, vs, ds, e1, e2, s.free e3, e4, e5⟩
  | b => exact x
/-- read alone, it is data without regard to who holds it -/
theorem RV.dp (x : RV K N H H' v r) : Dp K H' v r.d := by
  obtain ⟨k, d⟩ := r
  cases k with
  | v => exact DN.dp x
  | f => obtain ⟨l, vs, ds, e1, e2, e3, e4, e5⟩ := x; cases e1; cases e2; exact .lst (.of e4) e5.dp
  | b => obtain ⟨l, vs, ds, e1, e2, e4, e5⟩ := x; cases e1; cases e2; exact .lst (.of e4) e5.dp
/-- to be stored -/
theorem RV.store (x : RV K N H H' v r) (hk : r.k ≠ .b) (new : ∀ l, H l = none → ¬ N l) : DN K N H' v r.d := by
  obtain ⟨k, d⟩ := r
  cases k with
  | v => exact x
  | f =>
    obtain ⟨l, vs, ds, e1, e2, e3, e4, e5⟩ := x
    cases e1; cases e2
    exact .lst (.inl ⟨new l e3, .inl e4⟩) (e5.less fun a z => .inl z)
  | b => exact absurd rfl hk
/-- a list to be read -/
theorem RV.lst {ds : List PyData} (x : RV K N H H' v r) (e : r.d = .list ds) : ∃ a vs, v = .ref a ∧ SqL K H' a vs ∧ DNs K N H' vs ds := by
  obtain ⟨k, d⟩ := r
  dsimp only at e
  subst e
  cases k with
  | v => cases (show DN K N H' v (.list ds) from x) with | lst q t => exact ⟨_, _, rfl, q.sq, t⟩
  | f => obtain ⟨l, vs, es, e1, e2, e3, e4, e5⟩ := x; cases e1; cases e2; exact ⟨l, vs, rfl, .of e4, e5.less fun a z => .inl z⟩
  | b => obtain ⟨l, vs, es, e1, e2, e4, e5⟩ := x; cases e1; cases e2; exact ⟨l, vs, rfl, .of e4, e5⟩
theorem RV.tup {ds : List PyData} (x : RV K N H H' v r) (e : r.d = .tuple ds) : ∃ a vs, v = .ref a ∧ SqT K H' a vs ∧ DNs K N H' vs ds := by
  obtain ⟨k, d⟩ := r
  dsimp only at e
  subst e
  cases k with
  | v => cases (show DN K N H' v (.tuple ds) from x) with | tup q t => exact ⟨_, _, rfl, q, t⟩
  | f => obtain ⟨l, vs, es, e1, e2, e3, e4, e5⟩ := x; cases e2
  | b => obtain ⟨l, vs, es, e1, e2, e4, e5⟩ := x; cases e2
theorem RV.int {i : Int} (x : RV K N H H' v r) (e : r.d = .int i) : v = .int i := by
  have q := x.dp; rw [e] at q; cases q; rfl
theorem RV.str {i : Str} (x : RV K N H H' v r) (e : r.d = .str i) : v = .str i := by
  have q := x.dp; rw [e] at q; cases q; rfl
theorem RV.bl {i : Bool} (x : RV K N H H' v r) (e : r.d = .bool i) : v = .bl i := by
  have q := x.dp; rw [e] at q; cases q; rfl
theorem RV.non (x : RV K N H H' v r) (e : r.d = .none) : v = .non := by
  have q := x.dp; rw [e] at q; cases q; rfl
end

/-! ### the judgements -/
abbrev M := En → Out R
/-- the wish of exceptions in my words: classes by their names -/
def tS (X : Cx) (ca : Cc) (W : WX) (m : M) : TE := fun σ H Q => ∃ H0 F α, Rel X.K ca.xi H0 F α σ H ∧ match m α with
  | .ok r => ∀ v H', Same H H' → RV X.K (Nn F α σ) H H' v r → Q v H'
  | .err c => ∀ H', Same H H' → W (.ref (ca.at_ c)) none σ H'
  | .bad => False
def SE (X : Cx) (ca : Cc) (W : WX) (e : Expr) (m : M) : Prop := PE X e (tS X ca W m)
/-- a test -/
abbrev MB := En → Out Bool
def tSB (X : Cx) (ca : Cc) (W : WX) (m : MB) : TT := fun σ H Q => ∃ H0 F α, Rel X.K ca.xi H0 F α σ H ∧ match m α with
  | .ok b => ∀ H', Same H H' → Q b H'
  | .err c => ∀ H', Same H H' → W (.ref (ca.at_ c)) none σ H'
  | .bad => False
def ST (X : Cx) (ca : Cc) (W : WX) (e : Expr) (m : MB) : Prop := PT X e (tSB X ca W m)
/-- arguments -/
abbrev MA := En → Out (List R)
inductive RVs (K : PySem.W.Frag) (N : Addr → Prop) (H H' : Hp) : List V → List R → Prop
  | nil : RVs K N H H' [] []
  | cons {v : V} {r : R} {vs : List V} {rs : List R} : RV K N H H' v r → RVs K N H H' vs rs → RVs K N H H' (v :: vs) (r :: rs)
def tSA (X : Cx) (ca : Cc) (W : WX) (m : MA) : TA := fun σ H Q => ∃ H0 F α, Rel X.K ca.xi H0 F α σ H ∧ match m α with
  | .ok rs => ∀ vs H', Same H H' → RVs X.K (Nn F α σ) H H' vs rs → Q vs H'
  | .err c => ∀ H', Same H H' → W (.ref (ca.at_ c)) none σ H'
  | .bad => False
def SA (X : Cx) (ca : Cc) (W : WX) (es : List Expr) (m : MA) : Prop := PA X es (tSA X ca W m)
/-- statements -/
abbrev MS := En → SO
def tSS (X : Cx) (ca : Cc) (W : WX) (m : MS) : TS := fun D σ H => ∃ H0 F α, Rel X.K ca.xi H0 F α σ H ∧ match m α with
  | .nx α' => ∀ σ' H', Rel X.K ca.xi H0 F α' σ' H' → D.nx σ' H'
  | .rt r => ∀ v H', Same H0 H' → RV X.K F H0 H' v r → D.rt v H'
  | .er c => ∀ σ' H', Same H0 H' → W (.ref (ca.at_ c)) none σ' H'
  | .bad => False
def SS (X : Cx) (ca : Cc) (W : WX) (st : Stmt) (m : MS) : Prop := PS X st (tSS X ca W m)
def SSs (X : Cx) (ca : Cc) (W : WX) (st : List Stmt) (m : MS) : Prop := PSs X st (tSS X ca W m)

theorem PE.imp {X : Cx} {e : Expr} {t t' : TE} (h : PE X e t) (q : ∀ σ H Q, t' σ H Q → t σ H Q) : PE X e t' := ⟨fun pins s σ H Q I w => h.run pins s σ H Q I (q _ _ _ w)⟩
theorem PT.imp {X : Cx} {e : Expr} {t t' : TT} (h : PT X e t) (q : ∀ σ H Q, t' σ H Q → t σ H Q) : PT X e t' := ⟨fun pins s σ H Q I w => h.run pins s σ H Q I (q _ _ _ w)⟩
theorem PA.imp {X : Cx} {e : List Expr} {t t' : TA} (h : PA X e t) (q : ∀ σ H Q, t' σ H Q → t σ H Q) : PA X e t' := ⟨fun pos pins s σ H Q I w => h.run pos pins s σ H Q I (q _ _ _ w)⟩
theorem PS.imp {X : Cx} {e : Stmt} {t t' : TS} (h : PS X e t) (q : ∀ D σ H, t' D σ H → t D σ H) : PS X e t' := ⟨fun pins s σ H D I w => h.run pins s σ H D I (q _ _ _ w)⟩
theorem PSs.imp {X : Cx} {e : List Stmt} {t t' : TS} (h : PSs X e t) (q : ∀ D σ H, t' D σ H → t D σ H) : PSs X e t' := ⟨fun pins s σ H D I w => h.run pins s σ H D I (q _ _ _ w)⟩
end FS

namespace FS
open PySem PySem.Spec PyProof.Rows L2

/-! ### outcomes over heaps -/
def GO {β : Type} (ca : Cc) (W : WX) (σ : L2.St) (P : β → Hp → Prop) (o : Out β) (H : Hp) : Prop := match o with
  | .ok b => P b H
  | .err c => ∀ H', Same H H' → W (.ref (ca.at_ c)) none σ H'
  | .bad => False
def MonoP {β : Type} (P : β → Hp → Prop) : Prop := ∀ b H H', Same H H' → P b H → P b H'
theorem GO.mono {β : Type} {ca : Cc} {W : WX} {σ : L2.St} {P : β → Hp → Prop} (hP : MonoP P) {o : Out β} {H H' : Hp} (s : Same H H') (h : GO ca W σ P o H) : GO ca W σ P o H' := by
  cases o with
  | ok b => exact hP b H H' s h
  | err c => exact fun H2 s2 => h H2 (s.trans s2)
  | bad => exact h
/-- what an expression's value must lead to -/
def PV (K : PySem.W.Frag) (N : Addr → Prop) (Q : VK) (r : R) (H : Hp) : Prop := ∀ v H', Same H H' → RV K N H H' v r → Q v H'
def PVs (K : PySem.W.Frag) (N : Addr → Prop) (Q : List V → Hp → Prop) (r : List R) (H : Hp) : Prop := ∀ v H', Same H H' → RVs K N H H' v r → Q v H'
def PB (Q : Bool → Hp → Prop) (b : Bool) (H : Hp) : Prop := ∀ H', Same H H' → Q b H'
theorem RVs.earlier {K : PySem.W.Frag} {N : Addr → Prop} {H H' H1 : Hp} (s : Same H1 H) : ∀ {vs : List V} {rs : List R}, RVs K N H H' vs rs → RVs K N H1 H' vs rs
  | _, _, .nil => .nil
  | _, _, .cons a t => .cons (a.earlier s) (RVs.earlier s t)
theorem RVs.later {K : PySem.W.Frag} {N : Addr → Prop} {H H' H1 : Hp} (s : Same H' H1) : ∀ {vs : List V} {rs : List R}, RVs K N H H' vs rs → RVs K N H H1 vs rs
  | _, _, .nil => .nil
  | _, _, .cons a t => .cons (a.later s) (RVs.later s t)
theorem PV.mono {K : PySem.W.Frag} {N : Addr → Prop} {Q : VK} : MonoP (PV K N Q) := fun _ _ _ s h v H2 s2 x => h v H2 (s.trans s2) (x.earlier s)
theorem PVs.mono {K : PySem.W.Frag} {N : Addr → Prop} {Q : List V → Hp → Prop} : MonoP (PVs K N Q) := fun _ _ _ s h v H2 s2 x => h v H2 (s.trans s2) (x.earlier s)
theorem PB.mono {Q : Bool → Hp → Prop} : MonoP (PB Q) := fun _ _ _ s h H2 s2 => h H2 (s.trans s2)
section
variable {X : Cx} {ca : Cc} {W : WX} {σ : L2.St} {H H0 : Hp} {F : Addr → Prop} {α : En} {β : Type} {P : β → Hp → Prop}
theorem tS.mk {m : M} {Q : VK} (rel : Rel X.K ca.xi H0 F α σ H) (h : GO ca W σ (PV X.K (Nn F α σ) Q) (m α) H) : tS X ca W m σ H Q := by
  refine ⟨H0, F, α, rel, ?_⟩
  cases e : m α with
  | ok r => rw [e] at h; exact h
  | err c => rw [e] at h; exact h
  | bad => rw [e] at h; exact h
theorem tS.go {m : M} {Q : VK} (h : tS X ca W m σ H Q) : ∃ H0 F α, Rel X.K ca.xi H0 F α σ H ∧ GO ca W σ (PV X.K (Nn F α σ) Q) (m α) H := by
  obtain ⟨H0, F, α, rel, h⟩ := h
  refine ⟨H0, F, α, rel, ?_⟩
  cases e : m α with
  | ok r => rw [e] at h; exact h
  | err c => rw [e] at h; exact h
  | bad => rw [e] at h; exact h
theorem tSB.mk {m : MB} {Q : Bool → Hp → Prop} (rel : Rel X.K ca.xi H0 F α σ H) (h : GO ca W σ (PB Q) (m α) H) : tSB X ca W m σ H Q := by
  refine ⟨H0, F, α, rel, ?_⟩
  cases e : m α with
  | ok r => rw [e] at h; exact h
  | err c => rw [e] at h; exact h
  | bad => rw [e] at h; exact h
theorem tSB.go {m : MB} {Q : Bool → Hp → Prop} (h : tSB X ca W m σ H Q) : ∃ H0 F α, Rel X.K ca.xi H0 F α σ H ∧ GO ca W σ (PB Q) (m α) H := by
  obtain ⟨H0, F, α, rel, h⟩ := h
  refine ⟨H0, F, α, rel, ?_⟩
  cases e : m α with
  | ok r => rw [e] at h; exact h
  | err c => rw [e] at h; exact h
  | bad => rw [e] at h; exact h
theorem tSA.mk {m : MA} {Q : List V → Hp → Prop} (rel : Rel X.K ca.xi H0 F α σ H) (h : GO ca W σ (PVs X.K (Nn F α σ) Q) (m α) H) : tSA X ca W m σ H Q := by
  refine ⟨H0, F, α, rel, ?_⟩
  cases e : m α with
  | ok r => rw [e] at h; exact h
  | err c => rw [e] at h; exact h
  | bad => rw [e] at h; exact h
theorem tSA.go {m : MA} {Q : List V → Hp → Prop} (h : tSA X ca W m σ H Q) : ∃ H0 F α, Rel X.K ca.xi H0 F α σ H ∧ GO ca W σ (PVs X.K (Nn F α σ) Q) (m α) H := by
  obtain ⟨H0, F, α, rel, h⟩ := h
  refine ⟨H0, F, α, rel, ?_⟩
  cases e : m α with
  | ok r => rw [e] at h; exact h
  | err c => rw [e] at h; exact h
  | bad => rw [e] at h; exact h
/-- one part is found, then the rest -/
theorem tS.seq {m : M} {f : R → Out β} {Q : VK} (rel : Rel X.K ca.xi H0 F α σ H) (hP : MonoP P) (h : GO ca W σ P ((m α).bind f) H)
    (k : ∀ r v H', Same H H' → RV X.K (Nn F α σ) H H' v r → Rel X.K ca.xi H0 F α σ H' → GO ca W σ P (f r) H' → Q v H') : tS X ca W m σ H Q := by
  refine tS.mk rel ?_
  cases e : m α with
  | ok r => rw [e] at h; exact fun v H' s x => k r v H' s x (rel.same s) (GO.mono hP s h)
  | err c => rw [e] at h; exact h
  | bad => rw [e] at h; exact h
theorem tSB.seq {m : MB} {f : Bool → Out β} {Q : Bool → Hp → Prop} (rel : Rel X.K ca.xi H0 F α σ H) (hP : MonoP P) (h : GO ca W σ P ((m α).bind f) H)
    (k : ∀ b H', Same H H' → Rel X.K ca.xi H0 F α σ H' → GO ca W σ P (f b) H' → Q b H') : tSB X ca W m σ H Q := by
  refine tSB.mk rel ?_
  cases e : m α with
  | ok r => rw [e] at h; exact fun H' s => k r H' s (rel.same s) (GO.mono hP s h)
  | err c => rw [e] at h; exact h
  | bad => rw [e] at h; exact h
theorem tSA.seq {m : MA} {f : List R → Out β} {Q : List V → Hp → Prop} (rel : Rel X.K ca.xi H0 F α σ H) (hP : MonoP P) (h : GO ca W σ P ((m α).bind f) H)
    (k : ∀ r v H', Same H H' → RVs X.K (Nn F α σ) H H' v r → Rel X.K ca.xi H0 F α σ H' → GO ca W σ P (f r) H' → Q v H') : tSA X ca W m σ H Q := by
  refine tSA.mk rel ?_
  cases e : m α with
  | ok r => rw [e] at h; exact fun v H' s x => k r v H' s x (rel.same s) (GO.mono hP s h)
  | err c => rw [e] at h; exact h
  | bad => rw [e] at h; exact h
end

/-! ### reading alone -/
def RD (K : PySem.W.Frag) (N : Addr → Prop) (H : Hp) (v : V) (d : PyData) : Prop := match d with
  | .list ds => ∃ a vs, v = .ref a ∧ SqL K H a vs ∧ DNs K N H vs ds
  | d => DN K N H v d
section
variable {K : PySem.W.Frag} {N : Addr → Prop} {H H' : Hp} {v : V} {r : R}
theorem RV.rd (x : RV K N H H' v r) : RD K N H' v r.d := by
  obtain ⟨k, d⟩ := r
  cases k with
  | v =>
    cases d with
    | list ds => cases (show DN K N H' v (.list ds) from x) with | lst q t => exact ⟨_, _, rfl, q.sq, t⟩
    | none => exact x
    | bool _ => exact x
    | int _ => exact x
    | str _ => exact x
    | tuple _ => exact x
    | dict _ => exact x
  | f => obtain ⟨l, vs, es, e1, e2, e3, e4, e5⟩ := x; cases e1; cases e2; exact ⟨l, vs, rfl, .of e4, e5.less fun a z => .inl z⟩
  | b => obtain ⟨l, vs, es, e1, e2, e4, e5⟩ := x; cases e1; cases e2; exact ⟨l, vs, rfl, .of e4, e5⟩
theorem RD.same {d : PyData} (x : RD K N H v d) (s : Same H H') : RD K N H' v d := by
  cases d with
  | list ds => obtain ⟨a, vs, e, q, t⟩ := x; exact ⟨a, vs, e, s.seq q, t.same s⟩
  | none => exact DN.same s x
  | bool _ => exact DN.same s x
  | int _ => exact DN.same s x
  | str _ => exact DN.same s x
  | tuple _ => exact DN.same s x
  | dict _ => exact DN.same s x
theorem RD.int {i : Int} (x : RD K N H v (.int i)) : v = .int i := by cases (show DN K N H v (.int i) from x); rfl
theorem RD.bl {i : Bool} (x : RD K N H v (.bool i)) : v = .bl i := by cases (show DN K N H v (.bool i) from x); rfl
theorem RD.str {i : Str} (x : RD K N H v (.str i)) : v = .str i := by cases (show DN K N H v (.str i) from x); rfl
theorem RD.non (x : RD K N H v .none) : v = .non := by cases (show DN K N H v .none from x); rfl
theorem RD.lst {ds : List PyData} (x : RD K N H v (.list ds)) : ∃ a vs, v = .ref a ∧ SqL K H a vs ∧ DNs K N H vs ds := x
theorem RD.tup {ds : List PyData} (x : RD K N H v (.tuple ds)) : ∃ a vs, v = .ref a ∧ SqT K H a vs ∧ DNs K N H vs ds := by
  cases (show DN K N H v (.tuple ds) from x) with | tup q t => exact ⟨_, _, rfl, q, t⟩
theorem RD.dp {d : PyData} (x : RD K N H v d) : Dp K H v d := by
  cases d with
  | list ds => obtain ⟨a, vs, e, q, t⟩ := x; subst e; exact .lst q t.dp
  | none => exact DN.dp x
  | bool _ => exact DN.dp x
  | int _ => exact DN.dp x
  | str _ => exact DN.dp x
  | tuple _ => exact DN.dp x
  | dict _ => exact DN.dp x
theorem RD.nodict {kvs} (x : RD K N H v (.dict kvs)) : False := by cases (show DN K N H v (.dict kvs) from x)
/-- a new list -/
theorem RV.newL {p : Addr} {vs : List V} {ds : List PyData} (h : H p = none) (t : DNs K N H vs ds) : RV K N H (upd H p (.lst vs)) (.ref p) ⟨.f, .list ds⟩ :=
  ⟨p, vs, ds, rfl, rfl, h, upd_same, (t.more h).same fun b o e => by rw [upd_ne (ne_of_none e h)]; exact e⟩
theorem Same.new {p : Addr} {o : HO} (h : H p = none) : Same H (upd H p o) := fun b u e => by rw [upd_ne (ne_of_none e h)]; exact e
theorem RV.newT {p : Addr} {vs : List V} {ds : List PyData} (h : H p = none) (t : DNs K N H vs ds) : RV K N H (upd H p (.tup vs)) (.ref p) ⟨.v, .tuple ds⟩ :=
  DN.tup (Or.inl (Or.inl upd_same)) (t.same (Same.new h))
end

/-! ### binary operations by data -/
abbrev G2 := PyData → PyData → Out R
structure OpD (X : Cx) (f : Value → Value → Sem Value) (g : G2) : Prop where
  ex : ∃ r : R2, OpR X f r ∧ ∀ (N : Addr → Prop) (H : Hp) (x y : V) (dx dy : PyData) (res : R) (Q : VK), RD X.K N H x dx → RD X.K N H y dy → g dx dy = .ok res →
    (∀ v H', Same H H' → RV X.K N H H' v res → Q v H') → r x y H Q
  noerr : ∀ dx dy c, g dx dy ≠ .err c
def m2 (g : G2) (a b : M) : M := fun α => (a α).bind fun x => (b α).bind fun y => g x.d y.d
section
variable {X : Cx} {ca : Cc} {W : WX} {a b : Expr} {ma mb : M} {pos : Pos}
theorem OpD.use {f : Value → Value → Sem Value} {g : G2} (h : OpD X f g) : ∃ r : R2, OpR X f r ∧ ∀ (ca : Cc) (W : WX) (σ : L2.St) (N : Addr → Prop) (H : Hp) (x y : V) (dx dy : PyData) (Q : VK), RD X.K N H x dx → RD X.K N H y dy →
    GO ca W σ (PV X.K N Q) (g dx dy) H → r x y H Q := by
  obtain ⟨r, h1, h2⟩ := h.ex
  refine ⟨r, h1, fun ca W σ N H x y dx dy Q rx ry q => ?_⟩
  cases e : g dx dy with
  | ok res => rw [e] at q; exact h2 N H x y dx dy res Q rx ry e q
  | err c => exact absurd e (h.noerr dx dy c)
  | bad => rw [e] at q; exact q.elim
theorem op_read {r : R2} {f : G2} (hr : ∀ (ca : Cc) (W : WX) (σ : L2.St) (N : Addr → Prop) (H : Hp) (x y : V) (dx dy : PyData) (Q : VK), RD X.K N H x dx → RD X.K N H y dy → GO ca W σ (PV X.K N Q) (f dx dy) H → r x y H Q)
    {σ : L2.St} {H : Hp} {Q : VK} (h : tS X ca W (m2 f ma mb) σ H Q) : tOp r (tS X ca W ma) (tS X ca W mb) σ H Q := by
  obtain ⟨H0, F, α, rel, h⟩ := h.go
  refine tS.seq rel PV.mono h fun rx x H1 s1 x1 rel1 h1 => ?_
  refine tS.seq rel1 PV.mono h1 fun ry y H2 s2 x2 rel2 h2 => ?_
  exact hr ca W σ _ H2 x y rx.d ry.d Q (x1.rd.same s2) x2.rd h2
theorem se_bin {op : Operator} {g : G2} (h : OpD X (binaryOp op) g) (ha : SE X ca W a ma) (hb : SE X ca W b mb) : SE X ca W (.BinOp a op b pos) (m2 g ma mb) := by
  obtain ⟨r, h1, h2⟩ := h.use
  exact PE.imp (pe_op h1 ha hb) fun σ H Q q => op_read h2 q
theorem se_cmp {op : CmpOp} {g : G2} (h : OpD X (compareOp op) g) (ha : SE X ca W a ma) (hb : SE X ca W b mb) (hm : behindInMarks op b = false) : SE X ca W (.Compare a [op] [b] pos) (m2 g ma mb) := by
  obtain ⟨r, h1, h2⟩ := h.use
  exact PE.imp (pe_cmpR h1 ha hb hm) fun σ H Q q => op_read h2 q
/-- data of which the truth is asked where a bool is -/
def asB (o : Out R) : Out Bool := o.bind fun r => match r.d with
  | .bool b => .ok b
  | _ => .bad
def tBm (m : M) : MB := fun α => asB (m α)
theorem st_cmp {op : CmpOp} {g : G2} (h : OpD X (compareOp op) g) (ha : SE X ca W a ma) (hb : SE X ca W b mb) (hm : behindInMarks op b = false) : ST X ca W (.Compare a [op] [b] pos) (tBm (m2 g ma mb)) := by
  obtain ⟨r, h1, h2⟩ := h.use
  refine PT.imp (pt_cmpR h1 ha hb hm) fun σ H Q q => ?_
  obtain ⟨H0, F, α, rel, q⟩ := q.go
  refine op_read (ca := ca) (W := W) h2 (tS.seq rel PB.mono q fun rx x H1 s1 x1 rel1 q1 => ?_)
  obtain ⟨k, d⟩ := rx
  cases d with
  | bool c => exact ⟨c, x1.bl rfl, q1 H1 (Same.refl _)⟩
  | none => exact q1.elim
  | int _ => exact q1.elim
  | str _ => exact q1.elim
  | list _ => exact q1.elim
  | tuple _ => exact q1.elim
  | dict _ => exact q1.elim
end
end FS

namespace FS
open PySem PySem.Spec PyProof.Rows L2

/-! ### operators on data -/
def addD : G2 := fun a b => match a, b with
  | .int i, .int j => .ok ⟨.v, .int (i + j)⟩
  | .str x, .str y => if x.length + y.length ≤ sizeLine then .ok ⟨.v, .str (x ++ y)⟩ else .bad
  | .list xs, .list ys => if xs.length + ys.length ≤ sizeLine then .ok ⟨.f, .list (xs ++ ys)⟩ else .bad
  | .tuple xs, .tuple ys => if xs.length + ys.length ≤ sizeLine then .ok ⟨.v, .tuple (xs ++ ys)⟩ else .bad
  | _, _ => .bad
def subD : G2 := fun a b => match a, b with
  | .int i, .int j => .ok ⟨.v, .int (i - j)⟩
  | _, _ => .bad
def modD : G2 := fun a b => match a, b with
  | .int i, .int j => if 0 < j then .ok ⟨.v, .int (i % j)⟩ else .bad
  | _, _ => .bad
def fdivD : G2 := fun a b => match a, b with
  | .int i, .int j => if 0 < j ∧ j < 1073741824 then .ok ⟨.v, .int (i / j)⟩ else .bad
  | _, _ => .bad
def powD : G2 := fun a b => match a, b with
  | .int i, .int j => if 0 ≤ j ∧ (Builtin.Int.intBits i : Int) * j ≤ 134217728 then .ok ⟨.v, .int (i ^ j.toNat)⟩ else .bad
  | _, _ => .bad
def mulD : G2 := fun a b => match a, b with
  | .int i, .int j => if (-18446744073709551616 < i ∧ i < 18446744073709551616) ∨ (-18446744073709551616 < j ∧ j < 18446744073709551616) then .ok ⟨.v, .int (i * j)⟩ else .bad
  | .tuple xs, .int k => if k ≤ 1000 ∧ -1000 ≤ k ∧ xs.length ≤ 1000 then .ok ⟨.v, .tuple (List.replicate k.toNat xs).flatten⟩ else .bad
  | _, _ => .bad
def boolR (b : Bool) : Out R := .ok ⟨.v, .bool b⟩
def ltD : G2 := fun a b => match a, b with
  | .int i, .int j => boolR (decide (i < j))
  | _, _ => .bad
def leD : G2 := fun a b => match a, b with
  | .int i, .int j => boolR (decide (i ≤ j))
  | _, _ => .bad
def gtD : G2 := fun a b => match a, b with
  | .int i, .int j => boolR (decide (j < i))
  | _, _ => .bad
def geD : G2 := fun a b => match a, b with
  | .int i, .int j => boolR (decide (j ≤ i))
  | _, _ => .bad
def eqD : G2 := fun a b => if SeqAt.shaped a && SeqAt.shaped b then boolR (PyData.eqv a b) else .bad
def neD : G2 := fun a b => if SeqAt.shaped a && SeqAt.shaped b then boolR (!PyData.eqv a b) else .bad
def isNon : PyData → Bool
  | .none => true
  | _ => false
def isND : G2 := fun a b => match b with
  | .none => boolR (isNon a)
  | _ => .bad
def notND : G2 := fun a b => match b with
  | .none => boolR (!isNon a)
  | _ => .bad

section
variable {X : Cx}
theorem RV.bool {K : PySem.W.Frag} {N : Addr → Prop} {H H' : Hp} {b : Bool} : RV K N H H' (.bl b) ⟨.v, .bool b⟩ := DN.bl b
theorem RV.intv {K : PySem.W.Frag} {N : Addr → Prop} {H H' : Hp} {b : Int} : RV K N H H' (.int b) ⟨.v, .int b⟩ := DN.int b
theorem RV.strv {K : PySem.W.Frag} {N : Addr → Prop} {H H' : Hp} {b : Str} : RV K N H H' (.str b) ⟨.v, .str b⟩ := DN.str b
/-- from an operation on two ints -/
theorem opd_int {f : Value → Value → Sem Value} {g : G2} {r : R2} (hr : OpR X f r) {h : Int → Int → Out R} (hg : ∀ a b, g a b = match a, b with | .int i, .int j => h i j | _, _ => .bad)
    (hh : ∀ i j res, h i j = .ok res → ∀ H (Q : VK), (∀ v, (∀ N, RV X.K N H H v res) → Q v H) → r (.int i) (.int j) H Q) (ne : ∀ i j c, h i j ≠ .err c) : OpD X f g where
  ex := ⟨r, hr, fun N H x y dx dy res Q rx ry e q => by
    rw [hg] at e
    cases dx with
    | int i =>
      cases dy with
      | int j =>
        rw [rx.int, ry.int]
        exact hh i j res e H Q fun v hv => q v H (Same.refl _) (hv N)
      | _ => cases e
    | _ => cases e⟩
  noerr := fun dx dy c e => by
    rw [hg] at e
    cases dx with
    | int i =>
      cases dy with
      | int j => exact ne i j c e
      | _ => cases e
    | _ => cases e
theorem od_sub : OpD X (binaryOp .Sub) subD := opd_int op_sub (h := fun i j => .ok ⟨.v, .int (i - j)⟩) (fun a b => by cases a <;> first | rfl | (cases b <;> rfl)) (fun i j res e H Q q => by
  cases e; exact ⟨i, j, rfl, rfl, q _ fun _ => .intv⟩) (fun _ _ _ e => nomatch e)
theorem od_mod : OpD X (binaryOp .Mod) modD := opd_int op_mod (h := fun i j => if 0 < j then .ok ⟨.v, .int (i % j)⟩ else .bad) (fun a b => by cases a <;> first | rfl | (cases b <;> rfl)) (fun i j res e H Q q => by
  split at e
  · rename_i hj; cases e; exact ⟨i, j, rfl, rfl, hj, q _ fun _ => .intv⟩
  · cases e) (fun _ _ _ e => by split at e <;> cases e)
theorem od_fdiv : OpD X (binaryOp .FloorDiv) fdivD := opd_int op_fdiv (h := fun i j => if 0 < j ∧ j < 1073741824 then .ok ⟨.v, .int (i / j)⟩ else .bad) (fun a b => by cases a <;> first | rfl | (cases b <;> rfl)) (fun i j res e H Q q => by
  split at e
  · rename_i hj; cases e; exact ⟨i, j, rfl, rfl, hj, q _ fun _ => .intv⟩
  · cases e) (fun _ _ _ e => by split at e <;> cases e)
theorem p27 : (2 : Int) ^ 27 = 134217728 := by decide
theorem op_powW : OpR X (binaryOp .Pow) (rI (fun i j => 0 ≤ j ∧ (Builtin.Int.intBits i : Int) * j ≤ 134217728) fun i j => .int (i ^ j.toNat)) := opI fun _ _ _ _ _ _ _ hc q => pow_int hc.1 (by rw [p27]; exact hc.2) q
theorem od_pow : OpD X (binaryOp .Pow) powD := opd_int op_powW (h := fun i j => if 0 ≤ j ∧ (Builtin.Int.intBits i : Int) * j ≤ 134217728 then .ok ⟨.v, .int (i ^ j.toNat)⟩ else .bad) (fun a b => by cases a <;> first | rfl | (cases b <;> rfl)) (fun i j res e H Q q => by
  split at e
  · rename_i hj; cases e; exact ⟨i, j, rfl, rfl, hj, q _ fun _ => .intv⟩
  · cases e) (fun _ _ _ e => by split at e <;> cases e)
theorem od_lt : OpD X (compareOp .Lt) ltD := opd_int op_lt (h := fun i j => boolR (decide (i < j))) (fun a b => by cases a <;> first | rfl | (cases b <;> rfl)) (fun i j res e H Q q => by
  cases e; exact ⟨i, j, rfl, rfl, q _ fun _ => .bool⟩) (fun _ _ _ e => nomatch e)
theorem od_le : OpD X (compareOp .LtE) leD := opd_int op_le (h := fun i j => boolR (decide (i ≤ j))) (fun a b => by cases a <;> first | rfl | (cases b <;> rfl)) (fun i j res e H Q q => by
  cases e; exact ⟨i, j, rfl, rfl, q _ fun _ => .bool⟩) (fun _ _ _ e => nomatch e)
theorem od_gt : OpD X (compareOp .Gt) gtD := opd_int op_gt (h := fun i j => boolR (decide (j < i))) (fun a b => by cases a <;> first | rfl | (cases b <;> rfl)) (fun i j res e H Q q => by
  cases e; exact ⟨i, j, rfl, rfl, q _ fun _ => .bool⟩) (fun _ _ _ e => nomatch e)
theorem od_ge : OpD X (compareOp .GtE) geD := opd_int op_ge (h := fun i j => boolR (decide (j ≤ i))) (fun a b => by cases a <;> first | rfl | (cases b <;> rfl)) (fun i j res e H Q q => by
  cases e; exact ⟨i, j, rfl, rfl, q _ fun _ => .bool⟩) (fun _ _ _ e => nomatch e)
theorem od_eq (hu : X.A.units + 64 < cLine) : OpD X (compareOp .Eq) eqD where
  ex := ⟨_, op_eqD hu, fun N H x y dx dy res Q rx ry e q => by
    unfold eqD at e
    split at e
    · rename_i h
      cases e
      have h2 := Bool.and_eq_true_iff.mp h
      exact ⟨dx, dy, rx.dp, ry.dp, h2.1, h2.2, q _ H (Same.refl _) .bool⟩
    · cases e⟩
  noerr := fun dx dy c e => by unfold eqD at e; split at e <;> cases e
theorem od_ne (hu : X.A.units + 64 < cLine) : OpD X (compareOp .NotEq) neD where
  ex := ⟨_, op_neD hu, fun N H x y dx dy res Q rx ry e q => by
    unfold neD at e
    split at e
    · rename_i h
      cases e
      have h2 := Bool.and_eq_true_iff.mp h
      exact ⟨dx, dy, rx.dp, ry.dp, h2.1, h2.2, q _ H (Same.refl _) .bool⟩
    · cases e⟩
  noerr := fun dx dy c e => by unfold neD at e; split at e <;> cases e
theorem RD.nonIff {K : PySem.W.Frag} {N : Addr → Prop} {H : Hp} {v : V} {d : PyData} (x : RD K N H v d) : decide (v = .non) = isNon d := by
  have q := x.dp
  cases q <;> rfl
theorem od_isN : OpD X (compareOp .Is) isND where
  ex := ⟨_, op_isN, fun N H x y dx dy res Q rx ry e q => by
    cases dy with
    | none => cases e; refine ⟨ry.non, ?_⟩; rw [rx.nonIff]; exact q _ H (Same.refl _) .bool
    | _ => cases e⟩
  noerr := fun dx dy c e => by cases dy <;> cases e
theorem od_notN : OpD X (compareOp .IsNot) notND where
  ex := ⟨_, op_notN, fun N H x y dx dy res Q rx ry e q => by
    cases dy with
    | none =>
      cases e; refine ⟨ry.non, ?_⟩; rw [rx.nonIff]; exact q _ H (Same.refl _) .bool
    | _ => cases e⟩
  noerr := fun dx dy c e => by cases dy <;> cases e
/-- lists that are read -/
def rCatR (K : PySem.W.Frag) : R2 := fun x y H Q => ∃ l b xs zs, x = .ref l ∧ y = .ref b ∧ SqL K H l xs ∧ SqL K H b zs ∧ xs.length + zs.length ≤ sizeLine ∧ ∀ p, H p = none → Q (.ref p) (upd H p (.lst (xs ++ zs)))
theorem op_catR : OpR X (binaryOp .Add) (rCatR X.K) := by
  intro pins s σ H x y v u Q I rx ry h
  obtain ⟨l, b, xs, zs, rfl, rfl, hH, hB, hz, q⟩ := h
  cases rx
  cases ry
  obtain ⟨its, r, ⟨⟨c1, d1, a1, s1⟩, n, e, ec, ed, ea⟩, _⟩ := I.list hH
  obtain ⟨its2, r2, ⟨⟨c2, d2, a2, s2⟩, n2, e2, ec2, ed2, ea2⟩, _⟩ := I.list hB
  dsimp only at ec ed ea ec2 ed2 ea2
  subst ec ed ea ec2 ed2 ea2
  have hl := r.length
  have hl2 := r2.length
  refine concat_meets ⟨_, e, rfl⟩ ⟨_, e2, rfl⟩ noFill_list_add seq_list_add PySem.F.slot_list_add PySem.F.entry_list_add (PySem.F.args_list_add_2 _ _) (list_addW l b its.toArray its2.toArray n n2 none none s1 s2 (by rw [List.size_toArray, List.size_toArray]; omega)) ⟨e, e2, ?_⟩
  rw [show its.toArray ++ its2.toArray = (its ++ its2).toArray by simp]
  exact ⟨.ref _, _, I.lnew (t' := s.toks) (r.append r2) (by rw [List.length_append]; omega), rfl, q _ I.fresh⟩
theorem od_add : OpD X (binaryOp .Add) addD where
  ex := ⟨_, op_add.or (op_add_str.or (op_catR.or op_catA)), fun N H x y dx dy res Q rx ry e q => by
    cases dx with
    | int i => cases dy with
      | int j => cases e; rw [rx.int, ry.int]; exact .inl ⟨i, j, rfl, rfl, q _ H (Same.refl _) .intv⟩
      | _ => cases e
    | str i => cases dy with
      | str j =>
        have e : (if i.length + j.length ≤ sizeLine then Out.ok (R.mk .v (.str (i ++ j))) else .bad) = .ok res := e
        split at e
        · rename_i hz; cases e; rw [rx.str, ry.str]; exact .inr (.inl ⟨i, j, rfl, rfl, hz, q _ H (Same.refl _) .strv⟩)
        · cases e
      | _ => cases e
    | list xs => cases dy with
      | list ys =>
        have e : (if xs.length + ys.length ≤ sizeLine then Out.ok (R.mk .f (.list (xs ++ ys))) else .bad) = .ok res := e
        split at e
        · rename_i hz
          cases e
          obtain ⟨a, vs, rfl, ha, ta⟩ := rx.lst
          obtain ⟨b, ws, rfl, hb, tb⟩ := ry.lst
          exact .inr (.inr (.inl ⟨a, b, vs, ws, rfl, rfl, ha, hb, by rw [ta.length, tb.length]; exact hz, fun p hp => q _ _ (Same.new hp) (.newL hp (ta.app tb))⟩))
        · cases e
      | _ => cases e
    | tuple xs => cases dy with
      | tuple ys =>
        have e : (if xs.length + ys.length ≤ sizeLine then Out.ok (R.mk .v (.tuple (xs ++ ys))) else .bad) = .ok res := e
        split at e
        · rename_i hz
          cases e
          obtain ⟨a, vs, rfl, ha, ta⟩ := rx.tup
          obtain ⟨b, ws, rfl, hb, tb⟩ := ry.tup
          refine .inr (.inr (.inr ⟨a, b, vs, ws, rfl, rfl, ha, hb, by rw [ta.length, tb.length]; exact hz, fun e0 => ?_, fun _ e0 => ?_, fun _ _ p hp => q _ _ (Same.new hp) (.newT hp (ta.app tb))⟩))
          · subst e0
            cases ta
            exact q _ H (Same.refl _) (show DN X.K N H _ (.tuple ([] ++ ys)) from DN.tup hb tb)
          · subst e0
            cases tb
            exact q _ H (Same.refl _) (show DN X.K N H _ (.tuple (xs ++ [])) by rw [List.append_nil]; exact DN.tup ha ta)
        · cases e
      | _ => cases e
    | _ => cases e⟩
  noerr := fun dx dy c e => by
    cases dx with
    | int i => cases dy <;> cases e
    | str i => cases dy with
      | str j => have e : (if i.length + j.length ≤ sizeLine then Out.ok (R.mk .v (.str (i ++ j))) else .bad) = .err c := e; split at e <;> cases e
      | _ => cases e
    | list xs => cases dy with
      | list ys => have e : (if xs.length + ys.length ≤ sizeLine then Out.ok (R.mk .f (.list (xs ++ ys))) else .bad) = .err c := e; split at e <;> cases e
      | _ => cases e
    | tuple xs => cases dy with
      | tuple ys => have e : (if xs.length + ys.length ≤ sizeLine then Out.ok (R.mk .v (.tuple (xs ++ ys))) else .bad) = .err c := e; split at e <;> cases e
      | _ => cases e
    | _ => cases e
end

/-! ### a tuple, a list times an int -/
section
theorem tuple_mul1 (l : Addr) (items : Array Value) (n : Nat) (dd : Option Addr) (sl : Array (Option Value)) (x : Int) (u : Tok) (c0 : (decide (x < -(2 ^ 63)) || decide (x ≥ 2 ^ 63)) = false) (c1 : (items.isEmpty || x == 1) = true) :
    Meets (Builtin.«tuple.__mul__» ⟨[.ref l, .int x u], []⟩) (fun _ R s => s.heap.get? l = some { cls := .type "tuple", dict := dd, data := .seq items n, slots := sl } ∧ R (.ok (.ret (Value.ref l))) s) :=
  .of_wp fun prog w A R s h => by
    obtain ⟨hp, g, d, tk, os⟩ := s
    obtain ⟨hl, h⟩ := h
    have f1 := AutoSeq1.idx_int
    wp_walk using wpAny_loadPart' hl
    repeat (first
      | (refine wpAny_ite_false (decide_eq_false (by rw [c0]; exact Bool.false_ne_true)) ?_; wp_walk using wpAny_loadPart' hl)
      | (refine wpAny_ite_true (decide_eq_true c1) ?_; wp_walk using wpAny_loadPart' hl))
    exact ⟨_, rfl, h⟩
theorem tuple_mul0 (l : Addr) (items : Array Value) (n : Nat) (dd : Option Addr) (sl : Array (Option Value)) (x : Int) (u : Tok) (c0 : (decide (x < -(2 ^ 63)) || decide (x ≥ 2 ^ 63)) = false) (c1 : (items.isEmpty || x == 1) = false) (c2 : (decide (x ≤ 0) || items.isEmpty) = true) :
    Meets (Builtin.«tuple.__mul__» ⟨[.ref l, .int x u], []⟩) (fun _ R s => s.heap.get? l = some { cls := .type "tuple", dict := dd, data := .seq items n, slots := sl } ∧
      R (.ok (.ret (Value.ref s.heap.objs.size))) { s with heap := s.heap.push { cls := Value.type "tuple", data := Data.seq #[] }, toks := s.toks }) :=
  .of_wp fun prog w A R s h => by
    obtain ⟨hp, g, d, tk, os⟩ := s
    obtain ⟨hl, h⟩ := h
    have f1 := AutoSeq1.idx_int
    wp_walk using wpAny_loadPart' hl
    repeat (first
      | (refine wpAny_ite_false (decide_eq_false (by rw [c0]; exact Bool.false_ne_true)) ?_; wp_walk using wpAny_loadPart' hl)
      | (refine wpAny_ite_false (decide_eq_false (by rw [c1]; exact Bool.false_ne_true)) ?_; wp_walk using wpAny_loadPart' hl)
      | (refine wpAny_ite_true (decide_eq_true c2) ?_; wp_walk using wpAny_loadPart' hl)
      | (refine wpAny_ite_false (decide_eq_false (Nat.not_lt.mpr (Nat.zero_le _))) ?_; wp_walk using wpAny_loadPart' hl))
    exact ⟨_, rfl, h⟩
end
section
variable {X : Cx}
/-- k is 1, or the tuple is empty: the same object; below 1: a new empty one; else as op_repT -/
def rRepA (K : PySem.W.Frag) : R2 := fun x y H Q => ∃ l k xs, x = .ref l ∧ y = .int k ∧ SqT K H l xs ∧ -1000 ≤ k ∧ k ≤ 1000 ∧ (xs = [] ∨ k ≤ 1) ∧ ((xs = [] ∨ k = 1) → Q (.ref l) H) ∧ (xs ≠ [] → k ≤ 0 → ∀ p, H p = none → Q (.ref p) (upd H p (.tup [])))
theorem op_repA : OpR X (binaryOp .Mult) (rRepA X.K) := by
  intro pins s σ H x y v u Q I rx ry h
  obtain ⟨l, k, xs, rfl, rfl, hT, h0, h1, h3, q1, q0⟩ := h
  cases rx
  obtain ⟨t, rfl⟩ := ry
  obtain ⟨its, r, ⟨⟨cls, dd, data, sl⟩, ho, hc, n, hd⟩, hs⟩ := I.tuple hT
  simp only at hc hd
  subst hc hd
  have hle : its.length = xs.length := r.length.symm
  have c0 : (decide (k < -(2 ^ 63)) || decide (k ≥ 2 ^ 63)) = false := by
    rw [decide_eq_false (by omega), decide_eq_false (by omega)] <;> rfl
  have emp : its.toArray.isEmpty = xs.isEmpty := by
    cases its with
    | nil => cases xs with
      | nil => rfl
      | cons _ _ => simp at hle
    | cons _ _ => cases xs with
      | nil => simp at hle
      | cons _ _ => rfl
  refine wpAny_binaryOp_repeat_ref (T := "tuple") (U := "int") (by decide) ⟨_, ho, rfl⟩ (fun s' => typeIs_int s' k t) noFill_tuple_mul F.fills_int_mul F.slot_int_rmul repeat_tuple F.slot_int_index.lookup
    (call_meets F.slot_int_rmul (typeIs_int s k t) F.entry_int_rmul (F.args_int_rmul_2 _ _) (int_rmul_tuple k t l its.toArray n dd sl) ⟨ho, rfl, ⟨_, ho, rfl⟩, ?_⟩)
  by_cases hx : xs = [] ∨ k = 1
  · have c1 : (its.toArray.isEmpty || k == 1) = true := by
      rw [emp]
      rcases hx with e | e
      · rw [e]; rfl
      · rw [e]; simp
    exact call_meets F.slot_tuple_mul ⟨_, ho, rfl⟩ F.entry_tuple_mul (F.args_tuple_mul_2 _ _) (tuple_mul1 l its.toArray n dd sl k t c0 c1) ⟨ho, ⟨.ref l, H, I, rfl, q1 hx⟩⟩
  · have hx1 : xs ≠ [] := fun e => hx (.inl e)
    have hk1 : k ≠ 1 := fun e => hx (.inr e)
    have hk0 : k ≤ 0 := by
      rcases h3 with e | e
      · exact absurd e hx1
      · omega
    have e0 : xs.isEmpty = false := by cases xs with
      | nil => exact absurd rfl hx1
      | cons _ _ => rfl
    have c1 : (its.toArray.isEmpty || k == 1) = false := by rw [emp, e0, Bool.false_or]; exact beq_eq_false_iff_ne.mpr hk1
    have c2 : (decide (k ≤ 0) || its.toArray.isEmpty) = true := by rw [decide_eq_true (show k ≤ 0 by omega)]; rfl
    refine call_meets F.slot_tuple_mul ⟨_, ho, rfl⟩ F.entry_tuple_mul (F.args_tuple_mul_2 _ _) (tuple_mul0 l its.toArray n dd sl k t c0 c1 c2) ⟨ho, ?_⟩
    refine ⟨.ref s.heap.objs.size, _, I.laid (t' := s.toks) (o := .tup []) (fun b ob q => Heap.get?_push_of_some _ q) (Nat.le_refl _) ?_, rfl, q0 hx1 (by omega) _ (I.hok.fresh (Nat.le_refl _))⟩
    exact ⟨Nat.zero_le _, [], .nil, IsTup.new _ _⟩
end
end FS

namespace FS
open PySem PySem.Spec PyProof.Rows L2

section
variable {X : Cx}
theorem p64 : (2 : Int) ^ 64 = 18446744073709551616 := by decide
theorem od_mul : OpD X (binaryOp .Mult) mulD where
  ex := ⟨_, op_mul.or (op_repT.or op_repA), fun N H x y dx dy res Q rx ry e q => by
    cases dx with
    | int i => cases dy with
      | int j =>
        have e : (if (-18446744073709551616 < i ∧ i < 18446744073709551616) ∨ (-18446744073709551616 < j ∧ j < 18446744073709551616) then Out.ok (R.mk .v (.int (i * j))) else .bad) = .ok res := e
        split at e
        · rename_i hz; cases e; rw [rx.int, ry.int]; exact .inl ⟨i, j, rfl, rfl, by unfold CMul; rw [p64]; exact hz, q _ H (Same.refl _) .intv⟩
        · cases e
      | _ => cases e
    | tuple xs => cases dy with
      | int k =>
        have e : (if k ≤ 1000 ∧ -1000 ≤ k ∧ xs.length ≤ 1000 then Out.ok (R.mk .v (.tuple (List.replicate k.toNat xs).flatten)) else .bad) = .ok res := e
        split at e
        · rename_i hz
          cases e
          rw [ry.int]
          obtain ⟨a, vs, rfl, ha, ta⟩ := rx.tup
          by_cases h2 : 2 ≤ k ∧ vs ≠ []
          · exact .inr (.inl ⟨a, k, vs, rfl, rfl, ha, h2.2, h2.1, hz.1, by rw [ta.length]; exact hz.2.2, fun p hp => q _ _ (Same.new hp) (.newT hp (ta.rep _))⟩)
          · have h3 : vs = [] ∨ k ≤ 1 := by
              by_cases e0 : vs = []
              · exact .inl e0
              · exact .inr (by
                  have : ¬ 2 ≤ k := fun z => h2 ⟨z, e0⟩
                  omega)
            refine .inr (.inr ⟨a, k, vs, rfl, rfl, ha, hz.2.1, hz.1, h3, fun e0 => ?_, fun _ hk p hp => ?_⟩)
            · refine q _ H (Same.refl _) ?_
              show DN X.K N H (.ref a) (.tuple (List.replicate k.toNat xs).flatten)
              rcases e0 with e0 | e0
              · subst e0; cases ta
                have z : (List.replicate k.toNat ([] : List PyData)).flatten = [] := by
                  induction k.toNat with
                  | zero => rfl
                  | succ n ih => rw [List.replicate_succ, List.flatten_cons, ih]; rfl
                rw [z]; exact DN.tup ha .nil
              · subst e0
                have z : (List.replicate (1 : Int).toNat xs).flatten = xs := by show ([xs] : List (List PyData)).flatten = xs; simp
                rw [z]; exact DN.tup ha ta
            · have z : k.toNat = 0 := by omega
              rw [z] at q
              exact q _ _ (Same.new hp) (.newT hp .nil)
        · cases e
      | _ => cases e
    | _ => cases e⟩
  noerr := fun dx dy c e => by
    cases dx with
    | int i => cases dy with
      | int j => have e : (if (-18446744073709551616 < i ∧ i < 18446744073709551616) ∨ (-18446744073709551616 < j ∧ j < 18446744073709551616) then Out.ok (R.mk .v (.int (i * j))) else .bad) = .err c := e; split at e <;> cases e
      | _ => cases e
    | tuple xs => cases dy with
      | int k => have e : (if k ≤ 1000 ∧ -1000 ≤ k ∧ xs.length ≤ 1000 then Out.ok (R.mk .v (.tuple (List.replicate k.toNat xs).flatten)) else .bad) = .err c := e; split at e <;> cases e
      | _ => cases e
    | _ => cases e
end
end FS

namespace FS
open PySem PySem.Spec PyProof.Rows L2

/-! ### names and constants -/
def mV (i : Nat) : M := fun α => match α[i]? with
  | some (.val d) => .ok ⟨.v, d⟩
  | some (.own ds) => .ok ⟨.b, .list ds⟩
  | _ => .bad
def mC (d : PyData) : M := fun _ => .ok ⟨.v, d⟩
section
variable {X : Cx} {ca : Cc} {W : WX} {a b c e : Expr} {ma mb mc me : M} {pos : Pos}
theorem se_v (i : Nat) {x : Str} (hN : X.N[i]? = some x := by rfl) (hv : Vis X.env.scope x := by first | exact Or.inl rfl | exact Or.inr (Or.inl rfl) | exact Or.inr (Or.inr rfl)) (hd : (x == ("__debug__" : Str)) = false := by decide)
    (hcd : (x == ("__classdict__" : Str)) = false := by decide) : SE X ca W (.Name x pos) (mV i) := by
  refine PE.imp (pe_var hN hv hd hcd) fun σ H Q q => ?_
  obtain ⟨H0, F, α, rel, q⟩ := q.go
  have sl := rel.slot i
  unfold mV at q
  cases e : α[i]? with
  | none => rw [e] at q; exact q.elim
  | some s =>
    rw [e] at q
    have so := sl s e
    cases s with
    | un => exact q.elim
    | val d => obtain ⟨v, e1, x1⟩ := so; exact ⟨v, e1, q v H (Same.refl _) x1⟩
    | own ds => obtain ⟨l, vs, e1, e2, x1⟩ := so; exact ⟨.ref l, e1, q _ H (Same.refl _) ⟨l, vs, ds, rfl, rfl, e2, x1⟩⟩
    | exc c => exact q.elim
theorem se_const {v : V} {d : PyData} (h : PE X e (tC v)) (hd : ∀ N H, DN X.K N H v d) : SE X ca W e (mC d) := by
  refine PE.imp h fun σ H Q q => ?_
  obtain ⟨H0, F, α, rel, q⟩ := q.go
  exact q v H (Same.refl _) (hd _ _)
theorem se_int {i : Int} {j : Nat} : SE X ca W (.Constant (.int i) j pos) (mC (.int i)) := se_const pe_int fun _ _ => .int i
theorem se_bl {b : Bool} {j : Nat} : SE X ca W (.Constant (.bool b) j pos) (mC (.bool b)) := se_const pe_bl fun _ _ => .bl b
theorem se_str {x : Str} {j : Nat} : SE X ca W (.Constant (.str x) j pos) (mC (.str x)) := se_const pe_str fun _ _ => .str x
theorem se_non {j : Nat} : SE X ca W (.Constant .none j pos) (mC .none) := se_const pe_non fun _ _ => .non
theorem se_glob {x : Str} {v : V} {u : Value} {d : PyData} (hg : Gl X x) (hm : X.mg x = some u) (r : RelV v u) (hd : ∀ N H, DN X.K N H v d) (hdb : (x == ("__debug__" : Str)) = false := by decide) : SE X ca W (.Name x pos) (mC d) := se_const (pe_glob hg hm r hdb) hd

/-! ### one operand -/
def m1 (g : PyData → Out R) (a : M) : M := fun α => (a α).bind fun x => g x.d
def negD : PyData → Out R
  | .int i => .ok ⟨.v, .int (-i)⟩
  | _ => .bad
theorem se_neg (ha : SE X ca W a ma) : SE X ca W (.UnaryOp .USub a pos) (m1 negD ma) := by
  refine PE.imp (pe_un un_neg ha) fun σ H Q q => ?_
  obtain ⟨H0, F, α, rel, q⟩ := q.go
  refine tS.seq rel PV.mono q fun rx x H1 s1 x1 rel1 q1 => ?_
  obtain ⟨k, d⟩ := rx
  cases d with
  | int i => exact ⟨i, x1.int rfl, q1 _ H1 (Same.refl _) .intv⟩
  | _ => exact q1.elim

/-! ### truth -/
def truD : PyData → Out Bool
  | .none => .ok false
  | .bool b => .ok b
  | .int i => .ok (i != 0)
  | .str x => if x.length ≤ sizeLine then .ok ((x.length : Int) != 0) else .bad
  | .list ds => .ok (!ds.isEmpty)
  | .tuple ds => .ok (!ds.isEmpty)
  | .dict _ => .bad
theorem DNs.isEmpty {K : PySem.W.Frag} {N : Addr → Prop} {H : Hp} {vs : List V} {ds : List PyData} (h : DNs K N H vs ds) : vs.isEmpty = ds.isEmpty := by cases h <;> rfl
theorem truD_V {K : PySem.W.Frag} {N : Addr → Prop} {H : Hp} {v : V} {d : PyData} {b : Bool} (x : RD K N H v d) (h : truD d = .ok b) : TruV K v H b := by
  cases d with
  | none => cases h; rw [x.non]; rfl
  | bool c => cases h; rw [x.bl]; rfl
  | int i => cases h; rw [x.int]; rfl
  | str z =>
    have h : (if z.length ≤ sizeLine then Out.ok ((z.length : Int) != 0) else .bad) = .ok b := h
    split at h
    · rename_i hz; cases h; rw [x.str]; exact ⟨hz, rfl⟩
    · cases h
  | list ds => cases h; obtain ⟨a, vs, rfl, ha, t⟩ := x.lst; exact .inl ⟨vs, ha, by rw [t.isEmpty]⟩
  | tuple ds => cases h; obtain ⟨a, vs, rfl, ha, t⟩ := x.tup; exact .inr (.inl ⟨vs, ha, by rw [t.isEmpty]⟩)
  | dict _ => cases h
theorem truD_ne (d : PyData) (c : Ex) : truD d ≠ .err c := by
  intro h
  cases d with
  | str z => have h : (if z.length ≤ sizeLine then Out.ok ((z.length : Int) != 0) else .bad) = .err c := h; split at h <;> cases h
  | _ => cases h
theorem tru_go {β : Type} {σ : L2.St} {P : β → Hp → Prop} {f : Bool → Out β} {d : PyData} {N : Addr → Prop} {H : Hp} {v : V} (x : RD X.K N H v d) (h : GO ca W σ P ((truD d).bind f) H) : ∃ k, TruV X.K v H k ∧ GO ca W σ P (f k) H := by
  cases e : truD d with
  | ok k => rw [e] at h; exact ⟨k, truD_V x e, h⟩
  | err c => exact absurd e (truD_ne d c)
  | bad => rw [e] at h; exact h.elim
/-- the truth of any value -/
def mT (a : M) : MB := fun α => (a α).bind fun x => truD x.d
theorem Out.bind_pure {β : Type} (x : Out β) : x.bind Out.ok = x := by cases x <;> rfl
theorem st_truth (ha : SE X ca W a ma) (he : ∀ whole, isTrue a X.env whole = (do let v ← whole; standAt a.pos; holding [v] (truthy v)) := by intro _; rfl) : ST X ca W a (mT ma) := by
  refine PT.imp (pt_truth ha he) fun σ H Q q => ?_
  obtain ⟨H0, F, α, rel, q⟩ := q.go
  refine tS.seq rel PB.mono q fun rx x H1 s1 x1 rel1 q1 => ?_
  have q1 : GO ca W σ (PB Q) ((truD rx.d).bind Out.ok) H1 := by rw [Out.bind_pure]; exact q1
  obtain ⟨k, t, q2⟩ := tru_go x1.rd q1
  exact ⟨k, t, q2 H1 (Same.refl _)⟩

/-! ### not, and, or -/
def bNot (a : MB) : MB := fun α => (a α).bind fun b => .ok (!b)
def bAnd (a b : MB) : MB := fun α => (a α).bind fun x => if x = true then b α else .ok false
def bOr (a b : MB) : MB := fun α => (a α).bind fun x => if x = true then .ok true else b α
variable {ta tb : MB} {rest : List Expr}
theorem st_not (ha : ST X ca W a ta) : ST X ca W (.UnaryOp .Not a pos) (bNot ta) := by
  refine PT.imp (pt_not ha) fun σ H Q q => ?_
  obtain ⟨H0, F, α, rel, q⟩ := q.go
  exact tSB.seq rel PB.mono q fun b H1 s1 rel1 q1 => q1 H1 (Same.refl _)
/-- a chain of and, or: as PW -/
def SW (X : Cx) (ca : Cc) (W : WX) (e : Expr) (m : MB) : Prop := PW X e (tSB X ca W m)
theorem PW.imp {t t' : TT} (h : PW X e t) (q : ∀ σ H Q, t' σ H Q → t σ H Q) : PW X e t' := ⟨fun w pins s σ H Q I z => h.run w pins s σ H Q I (q _ _ _ z)⟩
theorem SW.st {m : MB} (h : SW X ca W e m) : ST X ca W e m := PW.pt h
theorem sw_and1 (ha : ST X ca W a ta) : SW X ca W (.BoolOp .And [a] pos) ta := pw_and1 ha
theorem sw_or1 (ha : ST X ca W a ta) : SW X ca W (.BoolOp .Or [a] pos) ta := pw_or1 ha
theorem sw_and (ha : ST X ca W a ta) (hb : SW X ca W (.BoolOp .And (b :: rest) pos) tb) : SW X ca W (.BoolOp .And (a :: b :: rest) pos) (bAnd ta tb) := by
  refine PW.imp (pw_and ha hb) fun σ H Q q => ?_
  obtain ⟨H0, F, α, rel, q⟩ := q.go
  refine tSB.seq rel PB.mono q fun c H1 s1 rel1 q1 => ?_
  cases c with
  | true => exact tSB.mk rel1 q1
  | false => exact q1 H1 (Same.refl _)
theorem sw_or (ha : ST X ca W a ta) (hb : SW X ca W (.BoolOp .Or (b :: rest) pos) tb) : SW X ca W (.BoolOp .Or (a :: b :: rest) pos) (bOr ta tb) := by
  refine PW.imp (pw_or ha hb) fun σ H Q q => ?_
  obtain ⟨H0, F, α, rel, q⟩ := q.go
  refine tSB.seq rel PB.mono q fun c H1 s1 rel1 q1 => ?_
  cases c with
  | true => exact q1 H1 (Same.refl _)
  | false => exact tSB.mk rel1 q1
/-- .. as values -/
def vNot (a : M) : M := fun α => (a α).bind fun x => (truD x.d).bind fun b => boolR (!b)
def vAnd (a b : M) : M := fun α => (a α).bind fun x => (truD x.d).bind fun k => if k = true then b α else .ok x
def vOr (a b : M) : M := fun α => (a α).bind fun x => (truD x.d).bind fun k => if k = true then .ok x else b α
theorem se_not (ha : SE X ca W a ma) : SE X ca W (.UnaryOp .Not a pos) (vNot ma) := by
  refine PE.imp (pe_notT ha) fun σ H Q q => ?_
  obtain ⟨H0, F, α, rel, q⟩ := q.go
  refine tS.seq rel PV.mono q fun rx x H1 s1 x1 rel1 q1 => ?_
  obtain ⟨k, t, q2⟩ := tru_go x1.rd q1
  exact ⟨k, t, q2 _ H1 (Same.refl _) .bool⟩
theorem se_one {op : BoolOp} (ha : SE X ca W a ma) : SE X ca W (.BoolOp op [a] pos) ma := pe_one ha
theorem se_and (ha : SE X ca W a ma) (hb : SE X ca W (.BoolOp .And (b :: rest) pos) mb) : SE X ca W (.BoolOp .And (a :: b :: rest) pos) (vAnd ma mb) := by
  refine PE.imp (pe_andT ha hb) fun σ H Q q => ?_
  obtain ⟨H0, F, α, rel, q⟩ := q.go
  refine tS.mk rel ?_
  cases e1 : ma α with
  | err c => unfold vAnd at q; rw [e1] at q; exact q
  | bad => unfold vAnd at q; rw [e1] at q; exact q
  | ok rx =>
    have q : GO ca W σ (PV X.K (Nn F α σ) Q) ((truD rx.d).bind fun k => if k = true then mb α else .ok rx) H := by unfold vAnd at q; rw [e1] at q; exact q
    intro x H1 s1 x1
    cases e2 : truD rx.d with
    | err c => exact absurd e2 (truD_ne _ c)
    | bad => rw [e2] at q; exact q.elim
    | ok k =>
      rw [e2] at q
      refine ⟨k, truD_V x1.rd e2, ?_⟩
      cases k with
      | true => exact tS.mk (rel.same s1) (GO.mono PV.mono s1 q)
      | false => exact q x H1 s1 x1
theorem se_or (ha : SE X ca W a ma) (hb : SE X ca W (.BoolOp .Or (b :: rest) pos) mb) : SE X ca W (.BoolOp .Or (a :: b :: rest) pos) (vOr ma mb) := by
  refine PE.imp (pe_orT ha hb) fun σ H Q q => ?_
  obtain ⟨H0, F, α, rel, q⟩ := q.go
  refine tS.mk rel ?_
  cases e1 : ma α with
  | err c => unfold vOr at q; rw [e1] at q; exact q
  | bad => unfold vOr at q; rw [e1] at q; exact q
  | ok rx =>
    have q : GO ca W σ (PV X.K (Nn F α σ) Q) ((truD rx.d).bind fun k => if k = true then .ok rx else mb α) H := by unfold vOr at q; rw [e1] at q; exact q
    intro x H1 s1 x1
    cases e2 : truD rx.d with
    | err c => exact absurd e2 (truD_ne _ c)
    | bad => rw [e2] at q; exact q.elim
    | ok k =>
      rw [e2] at q
      refine ⟨k, truD_V x1.rd e2, ?_⟩
      cases k with
      | false => exact tS.mk (rel.same s1) (GO.mono PV.mono s1 q)
      | true => exact q x H1 s1 x1

/-! ### a < b < c -/
def mCh (g g' : G2) (a b c : M) : M := fun α => (a α).bind fun x => (b α).bind fun y => (asB (g x.d y.d)).bind fun k => if k = true then (c α).bind fun z => g' y.d z.d else boolR false
theorem asB_go {β : Type} {σ : L2.St} {P : β → Hp → Prop} {f : Bool → Out β} {o : Out R} {H : Hp} {N : Addr → Prop} (h : GO ca W σ P ((asB o).bind f) H) : GO ca W σ (fun (r : R) H => ∃ k, r.d = .bool k ∧ GO ca W σ P (f k) H) o H := by
  cases o with
  | err c => exact h
  | bad => exact h
  | ok r =>
    obtain ⟨k, d⟩ := r
    cases d with
    | bool k => exact ⟨k, rfl, h⟩
    | _ => exact h.elim
theorem chain_read {op op' : CmpOp} {g g' : G2} {r r' : R2} (hr : ∀ (ca : Cc) (W : WX) (σ : L2.St) (N : Addr → Prop) (H : Hp) (x y : V) (dx dy : PyData) (Q : VK), RD X.K N H x dx → RD X.K N H y dy → GO ca W σ (PV X.K N Q) (g dx dy) H → r x y H Q)
    (hr' : ∀ (ca : Cc) (W : WX) (σ : L2.St) (N : Addr → Prop) (H : Hp) (x y : V) (dx dy : PyData) (Q : VK), RD X.K N H x dx → RD X.K N H y dy → GO ca W σ (PV X.K N Q) (g' dx dy) H → r' x y H Q)
    {σ : L2.St} {H : Hp} {Q : VK} (h : tS X ca W (mCh g g' ma mb mc) σ H Q) : tChain r r' (tS X ca W ma) (tS X ca W mb) (tS X ca W mc) σ H Q := by
  obtain ⟨H0, F, α, rel, q⟩ := h.go
  refine tS.seq rel PV.mono q fun rx x H1 s1 x1 rel1 q1 => ?_
  refine tS.seq rel1 PV.mono q1 fun ry y H2 s2 x2 rel2 q2 => ?_
  refine hr ca W σ (Nn F α σ) H2 x y rx.d ry.d _ (x1.rd.same s2) x2.rd ?_
  have q3 := asB_go (N := Nn F α σ) q2
  cases e : g rx.d ry.d with
  | err c => rw [e] at q3; exact q3
  | bad => rw [e] at q3; exact q3
  | ok rz =>
    rw [e] at q3
    obtain ⟨k, ek, q3⟩ := q3
    intro z H3 s3 x3
    refine ⟨k, x3.bl ek, ?_⟩
    cases k with
    | true =>
      have q4 : GO ca W σ (PV X.K (Nn F α σ) Q) ((mc α).bind fun z => g' ry.d z.d) H3 := GO.mono PV.mono s3 q3
      exact tS.seq (rel2.same s3) PV.mono q4 fun rw' w H4 s4 x4 rel4 q5 => hr' ca W σ (Nn F α σ) H4 y w ry.d rw'.d Q ((x2.rd.same s3).same s4) x4.rd q5
    | false => exact (GO.mono PV.mono s3 q3 : PV X.K (Nn F α σ) Q _ H3) _ H3 (Same.refl _) .bool
theorem se_chain {op op' : CmpOp} {g g' : G2} (h : OpD X (compareOp op) g) (h' : OpD X (compareOp op') g') (ha : SE X ca W a ma) (hb : SE X ca W b mb) (hc : SE X ca W c mc) (hm : lastMarks [op, op'] [b, c] = false := by with_unfolding_all rfl) :
    SE X ca W (.Compare a [op, op'] [b, c] pos) (mCh g g' ma mb mc) := by
  obtain ⟨r, h1, h2⟩ := h.use
  obtain ⟨r', h1', h2'⟩ := h'.use
  exact PE.imp (pe_chain h1 h1' ha hb hc hm) fun σ H Q q => chain_read (op := op) (op' := op') h2 h2' q
theorem st_chain {op op' : CmpOp} {g g' : G2} (h : OpD X (compareOp op) g) (h' : OpD X (compareOp op') g') (ha : SE X ca W a ma) (hb : SE X ca W b mb) (hc : SE X ca W c mc) (hm : lastMarks [op, op'] [b, c] = false := by with_unfolding_all rfl) :
    ST X ca W (.Compare a [op, op'] [b, c] pos) (tBm (mCh g g' ma mb mc)) := by
  obtain ⟨r, h1, h2⟩ := h.use
  obtain ⟨r', h1', h2'⟩ := h'.use
  refine PT.imp (pt_chain h1 h1' ha hb hc hm) fun σ H Q q => ?_
  obtain ⟨H0, F, α, rel, q⟩ := q.go
  refine chain_read (ca := ca) (W := W) (op := op) (op' := op') h2 h2' (tS.seq rel PB.mono q fun rx x H1 s1 x1 rel1 q1 => ?_)
  obtain ⟨k, d⟩ := rx
  cases d with
  | bool c => exact ⟨c, x1.bl rfl, q1 H1 (Same.refl _)⟩
  | _ => exact q1.elim
def mIf (t : MB) (a b : M) : M := fun α => (t α).bind fun k => if k = true then a α else b α
theorem se_ifexp (ht : ST X ca W c ta) (ha : SE X ca W a ma) (hb : SE X ca W b mb) : SE X ca W (.IfExp c a b pos) (mIf ta ma mb) := by
  refine PE.imp (pe_ifExp ht ha hb) fun σ H Q q => ?_
  obtain ⟨H0, F, α, rel, q⟩ := q.go
  refine tSB.seq rel PV.mono q fun k H1 s1 rel1 q1 => ?_
  cases k with
  | true => exact tS.mk rel1 q1
  | false => exact tS.mk rel1 q1
end
end FS

namespace FS
open PySem PySem.Spec PyProof.Rows L2

/-! ### items -/
def ixD : G2 := fun a b => match a, b with
  | .list ds, .int i => match atI ds i with
    | some d => .ok ⟨.v, d⟩
    | none => .bad
  | .tuple ds, .int i => match atI ds i with
    | some d => .ok ⟨.v, d⟩
    | none => .bad
  | .str z, .int i => if z.length ≤ sizeLine then (match atI z.cps.toList i with
    | some c => .ok ⟨.v, .str ⟨#[c]⟩⟩
    | none => .bad) else .bad
  | _, _ => .bad
theorem DNs.at {K : PySem.W.Frag} {N : Addr → Prop} {H : Hp} {vs : List V} {ds : List PyData} (h : DNs K N H vs ds) {i : Int} {d : PyData} (e : atI ds i = some d) : ∃ v, atI vs i = some v ∧ DN K N H v d := by
  unfold atI at e ⊢
  rw [h.length]
  cases q : ixN ds.length i with
  | none => rw [q] at e; cases e
  | some j => rw [q] at e; exact h.get e
section
variable {X : Cx} {ca : Cc} {W : WX} {a b c e : Expr} {es : List Expr} {ma mb mc me : M} {pos : Pos}
theorem ix_use : ∀ (ca : Cc) (W : WX) (σ : L2.St) (N : Addr → Prop) (H : Hp) (x y : V) (dx dy : PyData) (Q : VK), RD X.K N H x dx → RD X.K N H y dy → GO ca W σ (PV X.K N Q) (ixD dx dy) H → rIx X.K x y H Q := by
  intro ca W σ N H x y dx dy Q rx ry q
  cases dx with
  | list ds => cases dy with
    | int i =>
      rw [ry.int]
      obtain ⟨p, vs, rfl, hp, t⟩ := rx.lst
      have q : GO ca W σ (PV X.K N Q) (match atI ds i with | some d => .ok ⟨.v, d⟩ | none => .bad) H := q
      cases e : atI ds i with
      | none => rw [e] at q; exact q.elim
      | some d =>
        rw [e] at q
        obtain ⟨v, e2, x2⟩ := t.at e
        exact .inl ⟨p, vs, i, v, rfl, rfl, hp, e2, q v H (Same.refl _) x2⟩
    | _ => exact q.elim
  | tuple ds => cases dy with
    | int i =>
      rw [ry.int]
      obtain ⟨p, vs, rfl, hp, t⟩ := rx.tup
      have q : GO ca W σ (PV X.K N Q) (match atI ds i with | some d => .ok ⟨.v, d⟩ | none => .bad) H := q
      cases e : atI ds i with
      | none => rw [e] at q; exact q.elim
      | some d =>
        rw [e] at q
        obtain ⟨v, e2, x2⟩ := t.at e
        exact .inr (.inl ⟨p, vs, i, v, rfl, rfl, hp, e2, q v H (Same.refl _) x2⟩)
    | _ => exact q.elim
  | str z => cases dy with
    | int i =>
      rw [ry.int, rx.str]
      have q : GO ca W σ (PV X.K N Q) (if z.length ≤ sizeLine then (match atI z.cps.toList i with | some c => .ok ⟨.v, .str ⟨#[c]⟩⟩ | none => .bad) else .bad) H := q
      split at q
      · rename_i hz
        cases e : atI z.cps.toList i with
        | none => rw [e] at q; exact q.elim
        | some d =>
          rw [e] at q
          exact .inr (.inr ⟨z, i, d, rfl, rfl, hz, e, q _ H (Same.refl _) .strv⟩)
      · exact q.elim
    | _ => exact q.elim
  | _ => exact q.elim
theorem se_ix (ha : SE X ca W a ma) (hb : SE X ca W b mb) (hs : PlainIx b := by exact fun _ _ => rfl) : SE X ca W (.Subscript a b pos) (m2 ixD ma mb) :=
  PE.imp (pe_ix ix_seq ha hb hs) fun σ H Q q => op_read ix_use q

/-! ### slices -/
def cutP {β : Type} (xs : List β) (lo hi : Option Int) : List β := (xs.drop (HT.sIx xs.length 0 lo)).take (HT.sIx xs.length xs.length hi - HT.sIx xs.length 0 lo)
theorem DNs.cut {K : PySem.W.Frag} {N : Addr → Prop} {H : Hp} {vs : List V} {ds : List PyData} (h : DNs K N H vs ds) (lo hi : Option Int) : DNs K N H (cutV vs lo hi) (cutP ds lo hi) := by
  unfold cutV cutP
  rw [h.length]
  exact (h.drop _).take _
def slD (x : PyData) (lo hi : Option Int) : Out R := match x with
  | .list ds => .ok ⟨.f, .list (cutP ds lo hi)⟩
  | .tuple ds => .ok ⟨.v, .tuple (cutP ds lo hi)⟩
  | .str z => if z.length ≤ sizeLine then .ok ⟨.v, .str (cutS z lo hi)⟩ else .bad
  | _ => .bad
/-- an end of a slice -/
abbrev MO := En → Out (Option Int)
def tSO (X : Cx) (ca : Cc) (W : WX) (m : MO) : TO := fun σ H Q => ∃ H0 F α, Rel X.K ca.xi H0 F α σ H ∧ GO ca W σ (fun o H => ∀ H', Same H H' → Q o H') (m α) H
def SO' (X : Cx) (ca : Cc) (W : WX) (e : Option Expr) (m : MO) : Prop := PO X e (tSO X ca W m)
def mO0 : MO := fun _ => .ok none
def mO1 (a : M) : MO := fun α => (a α).bind fun x => match x.d with
  | .int i => .ok (some i)
  | _ => .bad
theorem PO.imp {e : Option Expr} {t t' : TO} (h : PO X e t) (q : ∀ σ H Q, t' σ H Q → t σ H Q) : PO X e t' := ⟨fun pins s σ H Q I w => h.run pins s σ H Q I (q _ _ _ w)⟩
theorem so_none : SO' X ca W none mO0 := PO.imp po_none fun σ H Q ⟨_, _, _, _, q⟩ => q H (Same.refl _)
theorem PO1.mono {Q : Option Int → Hp → Prop} : MonoP (fun (o : Option Int) H => ∀ H', Same H H' → Q o H') := fun _ _ _ s h H2 s2 => h H2 (s.trans s2)
theorem so_some (ha : SE X ca W a ma) : SO' X ca W (some a) (mO1 ma) := by
  refine PO.imp (po_some ha) fun σ H Q ⟨H0, F, α, rel, q⟩ => ?_
  refine tS.seq rel PO1.mono q fun rx x H1 s1 x1 rel1 q1 => ?_
  obtain ⟨k, d⟩ := rx
  cases d with
  | int i => exact ⟨i, x1.int rfl, q1 H1 (Same.refl _)⟩
  | _ => exact q1.elim
def mSl (a : M) (lo hi : MO) : M := fun α => (a α).bind fun x => (lo α).bind fun l => (hi α).bind fun h => slD x.d l h
theorem tSO.seq {β : Type} {P : β → Hp → Prop} {m : MO} {f : Option Int → Out β} {Q : Option Int → Hp → Prop} {σ : L2.St} {H H0 : Hp} {F : Addr → Prop} {α : En} (rel : Rel X.K ca.xi H0 F α σ H) (hP : MonoP P) (h : GO ca W σ P ((m α).bind f) H)
    (k : ∀ o H', Same H H' → Rel X.K ca.xi H0 F α σ H' → GO ca W σ P (f o) H' → Q o H') : tSO X ca W m σ H Q := by
  refine ⟨H0, F, α, rel, ?_⟩
  cases e : m α with
  | ok r => rw [e] at h; exact fun H' s => k r H' s (rel.same s) (GO.mono hP s h)
  | err c => rw [e] at h; exact h
  | bad => rw [e] at h; exact h
theorem se_slice {lo hi : Option Expr} {ml mh : MO} {p2 : Pos} (ha : SE X ca W a ma) (hl : SO' X ca W lo ml) (hh : SO' X ca W hi mh) : SE X ca W (.Subscript a (.Slice lo hi none p2) pos) (mSl ma ml mh) := by
  refine PE.imp (pe_slice (sl_list.or (sl_tupA.or sl_str)) ha hl hh) fun σ H Q q => ?_
  obtain ⟨H0, F, α, rel, q⟩ := q.go
  refine tS.seq rel PV.mono q fun rx x H1 s1 x1 rel1 q1 => ?_
  refine tSO.seq rel1 PV.mono q1 fun l H2 s2 rel2 q2 => ?_
  refine tSO.seq rel2 PV.mono q2 fun h H3 s3 rel3 q3 => ?_
  have rx3 := (x1.rd.same s2).same s3
  obtain ⟨k, d⟩ := rx
  cases d with
  | list ds =>
    obtain ⟨p, vs, rfl, hp, t⟩ := rx3.lst
    exact .inl ⟨p, vs, rfl, hp, fun p2 hp2 => q3 _ _ (Same.new hp2) (.newL hp2 (t.cut l h))⟩
  | tuple ds =>
    obtain ⟨p, vs, rfl, hp, t⟩ := rx3.tup
    refine .inr (.inl ⟨p, vs, rfl, hp, fun e => ?_, fun _ p2 hp2 => q3 _ _ (Same.new hp2) (.newT hp2 (t.cut l h))⟩)
    refine q3 _ H3 (Same.refl _) ?_
    show DN X.K _ H3 (.ref p) (.tuple (cutP ds l h))
    have z : cutP ds l h = ds := by
      unfold cutP
      rw [t.length] at e
      rw [e.1, e.2]
      simp
    rw [z]; exact DN.tup hp t
  | str z =>
    have q3 : GO ca W σ (PV X.K (Nn F α σ) Q) (if z.length ≤ sizeLine then .ok ⟨.v, .str (cutS z l h)⟩ else .bad) H3 := q3
    split at q3
    · rename_i hz
      refine .inr (.inr ?_)
      rw [rx3.str]
      exact ⟨z, rfl, hz, q3 _ H3 (Same.refl _) .strv⟩
    · exact q3.elim
  | _ => exact q3.elim
/-- l[::-1] of a list -/
def mRev (a : M) : M := fun α => (a α).bind fun x => match x.d with
  | .list ds => .ok ⟨.f, .list ds.reverse⟩
  | _ => .bad
theorem se_rev {k : Nat} {p1 p2 p3 : Pos} (ha : SE X ca W a ma) : SE X ca W (.Subscript a (.Slice none none (some (.UnaryOp .USub (.Constant (.int 1) k p1) p2)) p3) pos) (mRev ma) := by
  refine PE.imp (pe_revL ha) fun σ H Q q => ?_
  obtain ⟨H0, F, α, rel, q⟩ := q.go
  refine tS.seq rel PV.mono q fun rx x H1 s1 x1 rel1 q1 => ?_
  obtain ⟨k, d⟩ := rx
  cases d with
  | list ds =>
    obtain ⟨p, vs, rfl, hp, t⟩ := (x1.rd).lst
    exact ⟨p, vs, rfl, hp, fun p2 hp2 => q1 _ _ (Same.new hp2) (.newL hp2 t.rev)⟩
  | _ => exact q1.elim

/-! ### arguments, displays -/
def mA0 : MA := fun _ => .ok []
def mA (a : M) (r : MA) : MA := fun α => (a α).bind fun x => (r α).bind fun xs => .ok (x :: xs)
theorem sa_nil : SA X ca W [] mA0 := PA.imp pa_nil fun σ H Q q => by
  obtain ⟨H0, F, α, rel, q⟩ := tSA.go q
  exact q [] H (Same.refl _) .nil
theorem sa_cons {mr : MA} (ha : SE X ca W e ma) (hr : SA X ca W es mr) (hs : starEach (e :: es) X.env = (false, eval e X.env) :: starEach es X.env := by rfl) : SA X ca W (e :: es) (mA ma mr) := by
  refine PA.imp (pa_cons ha hr hs) fun σ H Q q => ?_
  obtain ⟨H0, F, α, rel, q⟩ := tSA.go q
  refine tS.mk rel ?_
  unfold mA at q
  cases e1 : ma α with
  | err c => rw [e1] at q; exact q
  | bad => rw [e1] at q; exact q
  | ok rx =>
    rw [e1] at q
    intro x H1 s1 x1
    refine tSA.mk (rel.same s1) ?_
    cases e2 : mr α with
    | err c =>
      have q : GO ca W σ (PVs X.K (Nn F α σ) Q) ((mr α).bind fun xs => .ok (rx :: xs)) H := q
      rw [e2] at q; exact fun H2 s2 => q H2 (s1.trans s2)
    | bad =>
      have q : GO ca W σ (PVs X.K (Nn F α σ) Q) ((mr α).bind fun xs => .ok (rx :: xs)) H := q
      rw [e2] at q; exact q
    | ok rs =>
      have q : GO ca W σ (PVs X.K (Nn F α σ) Q) ((mr α).bind fun xs => .ok (rx :: xs)) H := q
      rw [e2] at q
      exact fun vs H2 s2 x2 => q (x :: vs) H2 (s1.trans s2) (.cons (x1.later s2) (x2.earlier s1))
/-- what may be stored -/
def stR (r : R) : Out PyData := match r.k with
  | .b => .bad
  | _ => .ok r.d
def stAll : List R → Out (List PyData)
  | [] => .ok []
  | r :: rs => (stR r).bind fun d => (stAll rs).bind fun ds => .ok (d :: ds)
theorem stR_ok {r : R} {d : PyData} (h : stR r = .ok d) : r.k ≠ .b ∧ d = r.d := by
  obtain ⟨k, e⟩ := r
  cases k with
  | v => cases h; exact ⟨(fun z => nomatch z), rfl⟩
  | f => cases h; exact ⟨(fun z => nomatch z), rfl⟩
  | b => cases h
theorem stR_ne (r : R) (c : Ex) : stR r ≠ .err c := by obtain ⟨k, e⟩ := r; cases k <;> (intro h; cases h)
theorem stAll_ne : ∀ (rs : List R) (c : Ex), stAll rs ≠ .err c
  | [], c, h => by cases h
  | r :: rs, c, h => by
    unfold stAll at h
    cases e : stR r with
    | ok d =>
      rw [e] at h
      cases e2 : stAll rs with
      | ok ds => rw [e2] at h; cases h
      | err c' => exact stAll_ne rs c' e2
      | bad => rw [e2] at h; cases h
    | err c' => exact stR_ne r c' e
    | bad => rw [e] at h; cases h
theorem RVs.store {K : PySem.W.Frag} {N : Addr → Prop} {H H' : Hp} (new : ∀ l, H l = none → ¬ N l) : ∀ {vs : List V} {rs : List R} {ds : List PyData}, RVs K N H H' vs rs → stAll rs = .ok ds → DNs K N H' vs ds
  | _, _, _, .nil, h => by cases h; exact .nil
  | _, _, _, @RVs.cons _ _ _ _ v r vs rs x t, h => by
    unfold stAll at h
    cases e : stR r with
    | ok d =>
      rw [e] at h
      cases e2 : stAll rs with
      | ok ds =>
        rw [e2] at h
        cases h
        obtain ⟨h1, h2⟩ := stR_ok e
        subst h2
        exact .cons (x.store h1 new) (RVs.store new t e2)
      | err c' => rw [e2] at h; cases h
      | bad => rw [e2] at h; cases h
    | err c' => rw [e] at h; cases h
    | bad => rw [e] at h; cases h
def szD (f : List PyData → R) (ds : List PyData) : Out R := if ds.length ≤ sizeLine then .ok (f ds) else .bad
def mL (a : MA) : M := fun α => (a α).bind fun rs => (stAll rs).bind (szD fun ds => ⟨.f, .list ds⟩)
def mTu (a : MA) : M := fun α => (a α).bind fun rs => (stAll rs).bind (szD fun ds => ⟨.v, .tuple ds⟩)
/-- stored arguments, then the rest -/
theorem tSA.seqS {β : Type} {P : β → Hp → Prop} {m : MA} {f : List PyData → Out β} {Q : List V → Hp → Prop} {σ : L2.St} {H H0 : Hp} {F : Addr → Prop} {α : En} (rel : Rel X.K ca.xi H0 F α σ H) (hP : MonoP P) (h : GO ca W σ P ((m α).bind fun rs => (stAll rs).bind f) H)
    (k : ∀ ds vs H', Same H H' → DNs X.K (Nn F α σ) H' vs ds → Rel X.K ca.xi H0 F α σ H' → GO ca W σ P (f ds) H' → Q vs H') : tSA X ca W m σ H Q := by
  refine tSA.seq rel hP h fun rs vs H1 s1 x1 rel1 q1 => ?_
  cases e : stAll rs with
  | ok ds => rw [e] at q1; exact k ds vs H1 s1 (x1.store (fun l hl => rel.new hl) e) rel1 q1
  | err c => exact absurd e (stAll_ne rs c)
  | bad => rw [e] at q1; exact q1.elim
theorem se_lst {m : MA} (h : SA X ca W es m) : SE X ca W (.List es pos) (mL m) := by
  refine PE.imp (pe_lst h) fun σ H Q q => ?_
  obtain ⟨H0, F, α, rel, q⟩ := q.go
  refine tSA.seqS rel PV.mono q fun ds vs H1 s1 x1 rel1 q1 => ?_
  unfold szD at q1
  split at q1
  · rename_i hz; exact ⟨by rw [x1.length]; exact hz, fun p hp => q1 _ _ (Same.new hp) (.newL hp x1)⟩
  · exact q1.elim
theorem se_tup {m : MA} {x1 : Nat} (h : SA X ca W es m) : SE X ca W (.Tuple es x1 pos) (mTu m) := by
  refine PE.imp (pe_tup h) fun σ H Q q => ?_
  obtain ⟨H0, F, α, rel, q⟩ := q.go
  refine tSA.seqS rel PV.mono q fun ds vs H1 s1 x1 rel1 q1 => ?_
  unfold szD at q1
  split at q1
  · rename_i hz; exact ⟨by rw [x1.length]; exact hz, fun p hp => q1 _ _ (Same.new hp) (.newT hp x1)⟩
  · exact q1.elim

/-! ### calls of built-ins, by data -/
inductive RDs (K : PySem.W.Frag) (N : Addr → Prop) (H : Hp) : List V → List PyData → Prop
  | nil : RDs K N H [] []
  | cons {v : V} {d : PyData} {vs : List V} {ds : List PyData} : RD K N H v d → RDs K N H vs ds → RDs K N H (v :: vs) (d :: ds)
theorem RVs.rds {K : PySem.W.Frag} {N : Addr → Prop} {H H' : Hp} : ∀ {vs : List V} {rs : List R}, RVs K N H H' vs rs → RDs K N H' vs (rs.map (·.d))
  | _, _, .nil => .nil
  | _, _, .cons x t => .cons x.rd (RVs.rds t)
abbrev GL := List PyData → Out R
structure CallD (X : Cx) (f : Value) (g : GL) : Prop where
  ex : ∃ r : List V → Hp → VK → Prop, CallR X f r ∧ ∀ (N : Addr → Prop) (H : Hp) (vs : List V) (ds : List PyData) (res : R) (Q : VK), RDs X.K N H vs ds → g ds = .ok res → (∀ v H', Same H H' → RV X.K N H H' v res → Q v H') → r vs H Q
  noerr : ∀ ds c, g ds ≠ .err c
def mB (g : GL) (a : MA) : M := fun α => (a α).bind fun rs => g (rs.map (·.d))
theorem call_read {r : List V → Hp → VK → Prop} {f : Value} {g : GL} {m : MA} (hc : ∀ (N : Addr → Prop) (H : Hp) (vs : List V) (ds : List PyData) (res : R) (Q : VK), RDs X.K N H vs ds → g ds = .ok res → (∀ v H', Same H H' → RV X.K N H H' v res → Q v H') → r vs H Q)
    (ne : ∀ ds c, g ds ≠ .err c) {σ : L2.St} {H : Hp} {Q : VK} (q : tS X ca W (mB g m) σ H Q) : tCB r (tSA X ca W m) σ H Q := by
  obtain ⟨H0, F, α, rel, q⟩ := q.go
  refine tSA.seq rel PV.mono q fun rs vs H1 s1 x1 rel1 q1 => ?_
  cases e : g (rs.map (·.d)) with
  | ok res => rw [e] at q1; exact hc _ H1 vs _ res Q x1.rds e q1
  | err c => exact absurd e (ne _ c)
  | bad => rw [e] at q1; exact q1.elim
theorem se_callB {x : Str} {id : String} {g : GL} {m : MA} {p : Pos} (hc : CallD X (.builtin id) g) (hg : Gl X x) (hm : X.mg x = none) (hv : bootBuiltins x = some (.builtin id)) (ha : SA X ca W (e :: es) m) (hn : x ≠ "__name__" := by decide) (hdb : (x == ("__debug__" : Str)) = false := by decide)
    (he : starEach (e :: es) X.env = (false, eval e X.env) :: starEach es X.env := by rfl) (hpl : (backTo pos (starEach es X.env)).any (·.1) = false := by rfl) : SE X ca W (.Call (.Name x p) (e :: es) [] pos) (mB g m) := by
  obtain ⟨r, h1, h2⟩ := hc.ex
  exact PE.imp (pe_callB h1 hg hm hv ha hn hdb he hpl) fun σ H Q q => call_read (f := .builtin id) h2 hc.noerr q
theorem se_callTy {x : Str} {T : String} {g : GL} {m : MA} {p : Pos} (hc : CallD X (.type T) g) (hg : Gl X x) (hm : X.mg x = none) (hv : bootBuiltins x = some (.type T)) (ha : SA X ca W (e :: es) m) (hn : x ≠ "__name__" := by decide) (hdb : (x == ("__debug__" : Str)) = false := by decide)
    (he : starEach (e :: es) X.env = (false, eval e X.env) :: starEach es X.env := by rfl) (hpl : (backTo pos (starEach es X.env)).any (·.1) = false := by rfl) : SE X ca W (.Call (.Name x p) (e :: es) [] pos) (mB g m) := by
  obtain ⟨r, h1, h2⟩ := hc.ex
  exact PE.imp (pe_callTy h1 hg hm hv ha hn hdb he hpl) fun σ H Q q => call_read (f := .type T) h2 hc.noerr q
end
end FS

namespace FS
open PySem PySem.Spec PyProof.Rows L2
section
variable {X : Cx} {ca : Cc} {W : WX} {a b c e : Expr} {es : List Expr} {ma mb mc me : M} {pos : Pos}
theorem RDs.one {K : PySem.W.Frag} {N : Addr → Prop} {H : Hp} {vs : List V} {d : PyData} (h : RDs K N H vs [d]) : ∃ v, vs = [v] ∧ RD K N H v d := by
  cases h with | cons x t => cases t; exact ⟨_, rfl, x⟩
theorem RDs.two {K : PySem.W.Frag} {N : Addr → Prop} {H : Hp} {vs : List V} {d d' : PyData} (h : RDs K N H vs [d, d']) : ∃ v v', vs = [v, v'] ∧ RD K N H v d ∧ RD K N H v' d' := by
  cases h with | cons x t => cases t with | cons y t => cases t; exact ⟨_, _, rfl, x, y⟩
theorem one_of {g : GL} {h : PyData → Out R} {ds : List PyData} {res : R} (hg : ∀ ds, g ds = match ds with | [d] => h d | _ => .bad) (e : g ds = .ok res) : ∃ d, ds = [d] ∧ h d = .ok res := by
  rw [hg] at e
  match ds, e with
  | [], e => cases e
  | [d], e => exact ⟨d, rfl, e⟩
  | _ :: _ :: _, e => cases e
theorem one_ne {g : GL} {h : PyData → Out R} (hg : ∀ ds, g ds = match ds with | [d] => h d | _ => .bad) (hn : ∀ d c, h d ≠ .err c) (ds : List PyData) (c : Ex) : g ds ≠ .err c := by
  intro e
  rw [hg] at e
  match ds, e with
  | [], e => cases e
  | [d], e => exact hn d c e
  | _ :: _ :: _, e => cases e
def lenD1 (d : PyData) : Out R := match d with
  | .list xs => .ok ⟨.v, .int xs.length⟩
  | .tuple xs => .ok ⟨.v, .int xs.length⟩
  | .str z => if z.length ≤ sizeLine then .ok ⟨.v, .int z.length⟩ else .bad
  | _ => .bad
def lenD : GL := fun ds => match ds with | [d] => lenD1 d | _ => .bad
theorem lenD_eq (ds : List PyData) : lenD ds = match ds with | [d] => lenD1 d | _ => .bad := rfl
theorem ne_str {z : Str} {r : R} {c : Ex} : (if z.length ≤ sizeLine then Out.ok r else .bad) ≠ .err c := by intro h; split at h <;> cases h
theorem cd_len : CallD X (.builtin "len") lenD where
  ex := ⟨_, call_len, fun N H vs ds res Q rs e q => by
    obtain ⟨d, rfl, e⟩ := one_of lenD_eq e
    obtain ⟨v, rfl, x⟩ := rs.one
    cases d with
    | list xs => cases e; obtain ⟨p, ws, rfl, hp, t⟩ := x.lst; exact ⟨_, xs.length, rfl, .inl ⟨ws, hp, t.length.symm⟩, q _ H (Same.refl _) .intv⟩
    | tuple xs => cases e; obtain ⟨p, ws, rfl, hp, t⟩ := x.tup; exact ⟨_, xs.length, rfl, .inr ⟨ws, hp, t.length.symm⟩, q _ H (Same.refl _) .intv⟩
    | str z =>
      have e : (if z.length ≤ sizeLine then Out.ok (R.mk .v (.int z.length)) else .bad) = .ok res := e
      split at e
      · rename_i hz; cases e; rw [x.str]; exact ⟨_, z.length, rfl, ⟨hz, rfl⟩, q _ H (Same.refl _) .intv⟩
      · cases e
    | _ => cases e⟩
  noerr := one_ne lenD_eq fun d c e => by cases d with
    | str z => exact ne_str e
    | _ => cases e
def listD1 (d : PyData) : Out R := match d with
  | .list xs => .ok ⟨.f, .list xs⟩
  | .tuple xs => .ok ⟨.f, .list xs⟩
  | _ => .bad
def listD : GL := fun ds => match ds with | [d] => listD1 d | _ => .bad
theorem cd_list : CallD X (.type "list") listD where
  ex := ⟨_, call_list_of, fun N H vs ds res Q rs e q => by
    obtain ⟨d, rfl, e⟩ := one_of (fun _ => rfl) e
    obtain ⟨v, rfl, x⟩ := rs.one
    cases d with
    | list xs => cases e; obtain ⟨p, ws, rfl, hp, t⟩ := x.lst; exact ⟨p, ws, rfl, .inl hp, fun l hl => q _ _ (Same.new hl) (.newL hl t)⟩
    | tuple xs => cases e; obtain ⟨p, ws, rfl, hp, t⟩ := x.tup; exact ⟨p, ws, rfl, .inr hp, fun l hl => q _ _ (Same.new hl) (.newL hl t)⟩
    | _ => cases e⟩
  noerr := one_ne (fun _ => rfl) fun d c e => by cases d <;> cases e
def tupD1 (d : PyData) : Out R := match d with
  | .list xs => .ok ⟨.v, .tuple xs⟩
  | .tuple xs => .ok ⟨.v, .tuple xs⟩
  | _ => .bad
def tupD : GL := fun ds => match ds with | [d] => tupD1 d | _ => .bad
theorem cd_tup : CallD X (.type "tuple") tupD where
  ex := ⟨_, call_tuple_of, fun N H vs ds res Q rs e q => by
    obtain ⟨d, rfl, e⟩ := one_of (fun _ => rfl) e
    obtain ⟨v, rfl, x⟩ := rs.one
    cases d with
    | list xs => cases e; obtain ⟨p, ws, rfl, hp, t⟩ := x.lst; exact ⟨p, ws, rfl, .inl ⟨hp, fun l hl => q _ _ (Same.new hl) (.newT hl t)⟩⟩
    | tuple xs => cases e; obtain ⟨p, ws, rfl, hp, t⟩ := x.tup; exact ⟨p, ws, rfl, .inr ⟨hp, q _ H (Same.refl _) (DN.tup hp t)⟩⟩
    | _ => cases e⟩
  noerr := one_ne (fun _ => rfl) fun d c e => by cases d <;> cases e
def intD1 (d : PyData) : Out R := match d with
  | .int i => .ok ⟨.v, .int i⟩
  | .bool b => .ok ⟨.v, .int (if b then 1 else 0)⟩
  | _ => .bad
def intD : GL := fun ds => match ds with | [d] => intD1 d | _ => .bad
theorem cd_int : CallD X (.type "int") intD where
  ex := ⟨_, call_int1, fun N H vs ds res Q rs e q => by
    obtain ⟨d, rfl, e⟩ := one_of (fun _ => rfl) e
    obtain ⟨v, rfl, x⟩ := rs.one
    cases d with
    | int i => cases e; rw [x.int]; exact .inl ⟨i, rfl, q _ H (Same.refl _) .intv⟩
    | bool b => cases e; rw [x.bl]; exact .inr ⟨b, rfl, q _ H (Same.refl _) .intv⟩
    | _ => cases e⟩
  noerr := one_ne (fun _ => rfl) fun d c e => by cases d <;> cases e
def strD1 (d : PyData) : Out R := match d with
  | .int i => if i.natAbs.log2 < 1920 then .ok ⟨.v, .str (toString i)⟩ else .bad
  | _ => .bad
def strD : GL := fun ds => match ds with | [d] => strD1 d | _ => .bad
theorem cd_str : CallD X (.type "str") strD where
  ex := ⟨_, call_str_int, fun N H vs ds res Q rs e q => by
    obtain ⟨d, rfl, e⟩ := one_of (fun _ => rfl) e
    obtain ⟨v, rfl, x⟩ := rs.one
    cases d with
    | int i =>
      have e : (if i.natAbs.log2 < 1920 then Out.ok (R.mk .v (.str (toString i))) else .bad) = .ok res := e
      split at e
      · rename_i hz; cases e; rw [x.int]; exact ⟨i, rfl, hz, q _ H (Same.refl _) .strv⟩
      · cases e
    | _ => cases e⟩
  noerr := one_ne (fun _ => rfl) fun d c e => by
    cases d with
    | int i => have e : (if i.natAbs.log2 < 1920 then Out.ok (R.mk .v (.str (toString i))) else .bad) = .err c := e; split at e <;> cases e
    | _ => cases e
def twoI (f : Int → Int → Int) : GL := fun ds => match ds with
  | [.int i, .int j] => .ok ⟨.v, .int (f i j)⟩
  | _ => .bad
theorem twoI_ok {f : Int → Int → Int} {ds : List PyData} {res : R} (e : twoI f ds = .ok res) : ∃ i j, ds = [.int i, .int j] ∧ res = ⟨.v, .int (f i j)⟩ := by
  unfold twoI at e
  split at e
  · cases e; exact ⟨_, _, rfl, rfl⟩
  · cases e
theorem twoI_ne {f : Int → Int → Int} {ds : List PyData} {c : Ex} : twoI f ds ≠ .err c := by
  intro e; unfold twoI at e; split at e <;> cases e
def maxD : GL := twoI fun i j => if j > i then j else i
def minD : GL := twoI fun i j => if j < i then j else i
theorem cd_max (hc : X.calm = true) : CallD X (.builtin "max") maxD where
  ex := ⟨_, call_max2 hc, fun N H vs ds res Q rs e q => by
    obtain ⟨i, j, rfl, rfl⟩ := twoI_ok e
    obtain ⟨v, w, rfl, x, y⟩ := rs.two
    rw [x.int, y.int]
    exact ⟨i, j, rfl, q _ H (Same.refl _) .intv⟩⟩
  noerr := fun _ _ => twoI_ne
theorem cd_min (hc : X.calm = true) : CallD X (.builtin "min") minD where
  ex := ⟨_, call_min2 hc, fun N H vs ds res Q rs e q => by
    obtain ⟨i, j, rfl, rfl⟩ := twoI_ok e
    obtain ⟨v, w, rfl, x, y⟩ := rs.two
    rw [x.int, y.int]
    exact ⟨i, j, rfl, q _ H (Same.refl _) .intv⟩⟩
  noerr := fun _ _ => twoI_ne
def intsOf : List PyData → Option (List Int)
  | [] => some []
  | .int i :: r => (intsOf r).map (i :: ·)
  | _ :: _ => none
theorem intsOf_eq : ∀ {ds : List PyData} {ns : List Int}, intsOf ds = some ns → ds = ns.map PyData.int
  | [], _, h => by cases h; rfl
  | d :: r, ns, h => by
    cases d with
    | int i =>
      cases e : intsOf r with
      | none => rw [intsOf, e] at h; cases h
      | some ms => rw [intsOf, e] at h; cases h; rw [intsOf_eq e]; rfl
    | _ => cases h
theorem intsOf_map (ns : List Int) : intsOf (ns.map PyData.int) = some ns := by
  induction ns with
  | nil => rfl
  | cons i r ih => show (intsOf (r.map PyData.int)).map (i :: ·) = _; rw [ih]; rfl
theorem DNs.ints {K : PySem.W.Frag} {N : Addr → Prop} {H : Hp} : ∀ {ns : List Int} {vs : List V}, DNs K N H vs (ns.map PyData.int) → vs = ns.map V.int
  | [], _, h => by cases h; rfl
  | i :: r, _, h => by
    cases h with
    | cons x t => cases x; rw [DNs.ints t]; rfl
def sumD1 (d : PyData) : Out R := match d with
  | .list xs => match intsOf xs with
    | some ns => .ok ⟨.v, .int ns.sum⟩
    | none => .bad
  | _ => .bad
def sumD : GL := fun ds => match ds with | [d] => sumD1 d | _ => .bad
theorem cd_sum (hc : X.calm = true) : CallD X (.builtin "sum") sumD where
  ex := ⟨_, cr_sum hc, fun N H vs ds res Q rs e q => by
    obtain ⟨d, rfl, e⟩ := one_of (fun _ => rfl) e
    obtain ⟨v, rfl, x⟩ := rs.one
    cases d with
    | list xs =>
      have e : (match intsOf xs with | some ns => Out.ok (R.mk .v (.int ns.sum)) | none => .bad) = .ok res := e
      cases e2 : intsOf xs with
      | none => rw [e2] at e; cases e
      | some ns =>
        rw [e2] at e; cases e
        rw [intsOf_eq e2] at x
        obtain ⟨p, ws, rfl, hp, t⟩ := x.lst
        rw [t.ints] at hp
        exact ⟨p, ns, rfl, hp, q _ H (Same.refl _) .intv⟩
    | _ => cases e⟩
  noerr := one_ne (fun _ => rfl) fun d c e => by
    cases d with
    | list xs =>
      have e : (match intsOf xs with | some ns => Out.ok (R.mk .v (.int ns.sum)) | none => .bad) = .err c := e
      cases e2 : intsOf xs with
      | none => rw [e2] at e; cases e
      | some ns => rw [e2] at e; cases e
    | _ => cases e

/-! ### isinstance(x, T), T a built-in type -/
def tyD : PyData → String
  | .none => "NoneType"
  | .bool _ => "bool"
  | .int _ => "int"
  | .str _ => "str"
  | .list _ => "list"
  | .tuple _ => "tuple"
  | .dict _ => "dict"
theorem tyD_X {K : PySem.W.Frag} {N : Addr → Prop} {H : Hp} {v : V} {d : PyData} (x : RD K N H v d) : TyX K H v (.type (tyD d)) := by
  cases d with
  | none => rw [x.non]; exact .base .non
  | bool b => rw [x.bl]; exact .base (.bl b)
  | int b => rw [x.int]; exact .base (.int b)
  | str b => rw [x.str]; exact .base (.str b)
  | list ds =>
    obtain ⟨p, ws, rfl, hp, t⟩ := x.lst
    rcases hp with (hp | ⟨o, hp⟩) | ⟨o, its, n, h1, h2, _⟩
    · exact .base (.lst hp)
    · exact .base (.frz hp)
    · exact .kList h1 h2
  | tuple ds =>
    obtain ⟨p, ws, rfl, hp, t⟩ := x.tup
    rcases hp with (hp | ⟨o, hp⟩) | ⟨o, its, n, h1, h2, _⟩
    · exact .base (.tup hp)
    · exact .fTuple hp
    · exact .kTuple h1 h2
  | dict _ => exact x.nodict.elim
inductive Ty where
  | int | bool | str | list | tuple
def Ty.name : Ty → String
  | .int => "int"
  | .bool => "bool"
  | .str => "str"
  | .list => "list"
  | .tuple => "tuple"
def isTy : Ty → PyData → Bool
  | .int, .int _ => true
  | .int, .bool _ => true
  | .bool, .bool _ => true
  | .str, .str _ => true
  | .list, .list _ => true
  | .tuple, .tuple _ => true
  | _, _ => false
theorem isTy_kit (T : Ty) (d : PyData) (hd : ∀ z, d ≠ .dict z) : kitB (tyD d) T.name = some (isTy T d) := by
  cases T <;> cases d <;> first | exact absurd rfl (hd _) | (simp only [tyD, Ty.name, isTy]; decide +kernel)
def isD (T : Ty) (d : PyData) : Out R := boolR (isTy T d)
theorem se_isi {T : Ty} {x : Str} {p p2 : Pos} (ha : SE X ca W a ma) (hg : Gl X "isinstance") (hm : X.mg "isinstance" = none) (hgT : Gl X x) (hmT : X.mg x = none) (hv : bootBuiltins x = some (.type T.name)) (hn : x ≠ "__name__" := by decide) (hd : (x == ("__debug__" : Str)) = false := by decide)
    (he : starEach [a, .Name x p2] X.env = (false, eval a X.env) :: starEach [.Name x p2] X.env := by rfl) (he2 : starEach [.Name x p2] X.env = (false, eval (.Name x p2) X.env) :: starEach [] X.env := by rfl) (hpl : (backTo pos (starEach [.Name x p2] X.env)).any (·.1) = false := by rfl) :
    SE X ca W (.Call (.Name "isinstance" p) [a, .Name x p2] [] pos) (m1 (isD T) ma) := by
  refine PE.imp (pe_callB call_isi hg hm (by decide +kernel) (pa_cons ha (pa_cons (pe_bltn hgT hmT hv (v := .ty T.name) rfl hn hd) pa_nil he2) he) (he := he) (hpl := hpl)) fun σ H Q q => ?_
  obtain ⟨H0, F, α, rel, q⟩ := q.go
  refine tS.seq rel PV.mono q fun rx x H1 s1 x1 rel1 q1 => ?_
  refine ⟨x, .ty T.name, .type (tyD rx.d), .type T.name, isTy T rx.d, rfl, .ty T.name, tyD_X x1.rd, kit_ty ?_, q1 _ H1 (Same.refl _) .bool⟩
  exact isTy_kit T _ fun z e => by have w := x1.rd; rw [e] at w; exact w.nodict
end
end FS

namespace FS
open PySem PySem.Spec PyProof.Rows L2

/-! ### slots set -/
section
variable {K : PySem.W.Frag} {xa : Xi} {H0 H H' : Hp} {F : Addr → Prop} {α : En} {σ : L2.St}
theorem get_set {β : Type} {l : List β} {i j : Nat} {x y : β} (h : (l.set i x)[j]? = some y) : (j = i ∧ y = x) ∨ (j ≠ i ∧ l[j]? = some y) := by
  by_cases e : j = i
  · subst e
    by_cases hl : j < l.length
    · rw [List.getElem?_set_self hl] at h; exact .inl ⟨rfl, (Option.some.inj h).symm⟩
    · rw [List.getElem?_eq_none_iff.mpr (by simp; omega)] at h; cases h
  · rw [List.getElem?_set_ne (Ne.symm e)] at h; exact .inr ⟨e, h⟩
/-- after the slot i is overwritten by what is no list of one's own, less is forbidden -/
theorem Nn.set_less {i : Nat} {s : Sv} {o : Option V} (hs : ∀ ds, s ≠ .own ds) : ∀ a, Nn F (α.set i s) (σ.set i o) a → Nn F α σ a := fun a h => by
  rcases h with h | ⟨j, ds, e1, e2⟩
  · exact .inl h
  · rcases get_set e1 with ⟨_, z⟩ | ⟨ne, e1⟩
    · exact absurd z.symm (hs ds)
    · rw [List.getElem?_set_ne (Ne.symm ne)] at e2
      exact .inr ⟨j, ds, e1, e2⟩
/-- a slot is set to what is no list of one's own -/
theorem Rel.put (r : Rel K xa H0 F α σ H) {i : Nat} {s : Sv} {o : Option V} (hs : ∀ ds, s ≠ .own ds) (hi : i < α.length → SlotOk K xa (Nn F α σ) H (some o) s) : Rel K xa H0 F (α.set i s) (σ.set i o) H := by
  have less := Nn.set_less (F := F) (α := α) (σ := σ) (i := i) (s := s) (o := o) hs
  refine ⟨by simp [r.len], r.base, r.ftr, fun j sv e => ?_, fun j ds l e1 e2 => ?_, fun j k ds es l e1 e2 e3 e4 => ?_⟩
  · by_cases hij : j = i
    · subst hij
      have hl : j < α.length := by
        have := (List.getElem?_eq_some_iff.mp e).1
        simpa using this
      rw [List.getElem?_set_self hl] at e
      cases e
      rw [List.getElem?_set_self (by rw [← r.len]; exact hl)]
      exact (hi hl).stay (.less less) fun _ _ _ _ _ h => h
    · rw [List.getElem?_set_ne (Ne.symm hij)] at e ⊢
      exact (r.slot j sv e).stay (.less less) fun _ _ _ _ _ h => h
  · rcases get_set e1 with ⟨_, z⟩ | ⟨ne, e1⟩
    · exact absurd z.symm (hs ds)
    · rw [List.getElem?_set_ne (Ne.symm ne)] at e2
      exact r.own j ds l e1 e2
  · rcases get_set e1 with ⟨_, z⟩ | ⟨ne, e1⟩
    · exact absurd z.symm (hs ds)
    · rcases get_set e2 with ⟨_, z⟩ | ⟨ne2, e2⟩
      · exact absurd z.symm (hs es)
      · rw [List.getElem?_set_ne (Ne.symm ne)] at e3
        rw [List.getElem?_set_ne (Ne.symm ne2)] at e4
        exact r.dis j k ds es l e1 e2 e3 e4
theorem Rel.putVal (r : Rel K xa H0 F α σ H) {i : Nat} {v : V} {d : PyData} (x : DN K (Nn F α σ) H v d) : Rel K xa H0 F (α.set i (.val d)) (σ.set i (some v)) H := r.put (fun _ z => nomatch z) fun _ => ⟨v, rfl, x⟩
/-- a slot takes a new list -/
theorem Rel.putOwn {Hp' : Hp} (r : Rel K xa H0 F α σ H) (s : Same H H') {i : Nat} {l : Addr} {vs : List V} {ds : List PyData} (hl : H l = none) (hl' : H' l = some (.lst vs)) (x : DNs K (fun a => Nn F α σ a ∨ a = l) H' vs ds) : Rel K xa H0 F (α.set i (.own ds)) (σ.set i (some (.ref l))) H' := by
  have less : ∀ a, Nn F (α.set i (.own ds)) (σ.set i (some (.ref l))) a → Nn F α σ a ∨ a = l := fun a h => by
    rcases h with h | ⟨j, es, e1, e2⟩
    · exact .inl (.inl h)
    · rcases get_set e1 with ⟨z, _⟩ | ⟨ne, e1⟩
      · subst z
        rcases get_set e2 with ⟨_, w⟩ | ⟨w, _⟩
        · cases w; exact .inr rfl
        · exact absurd rfl w
      · rw [List.getElem?_set_ne (Ne.symm ne)] at e2
        exact .inl (.inr ⟨j, es, e1, e2⟩)
  have st : Stay (Nn F α σ) (Nn F (α.set i (.own ds)) (σ.set i (some (.ref l)))) H H' := by
    have a1 : Stay (Nn F α σ) (fun a => Nn F α σ a ∨ a = l) H H := .more hl
    exact ⟨fun a xs n h => let z := a1.l a xs n h; ⟨fun q => z.1 (less a q), s _ _ h⟩, fun a o xs n h => let z := a1.fl a o xs n h; ⟨fun q => z.1 (less a q), s _ _ h⟩, fun _ _ h => s _ _ h, fun _ _ _ h => s _ _ h⟩
  refine ⟨by simp [r.len], r.base.trans s, r.ftr, fun j sv e => ?_, fun j es p e1 e2 => ?_, fun j k es fs p e1 e2 e3 e4 => ?_⟩
  · by_cases hij : j = i
    · subst hij
      have hlen : j < α.length := by
        have := (List.getElem?_eq_some_iff.mp e).1
        simpa using this
      rw [List.getElem?_set_self hlen] at e
      cases e
      rw [List.getElem?_set_self (by rw [← r.len]; exact hlen)]
      exact ⟨l, vs, rfl, hl', x.less less⟩
    · rw [List.getElem?_set_ne (Ne.symm hij)] at e ⊢
      exact (r.slot j sv e).stay st fun _ p _ _ ws h => s _ _ h
  · rcases get_set e1 with ⟨z, _⟩ | ⟨ne, e1⟩
    · subst z
      rcases get_set e2 with ⟨_, w⟩ | ⟨w, _⟩
      · cases w; exact r.base.free hl
      · exact absurd rfl w
    · rw [List.getElem?_set_ne (Ne.symm ne)] at e2
      exact r.own j es p e1 e2
  · rcases get_set e1 with ⟨z, _⟩ | ⟨ne, e1⟩
    · rcases get_set e2 with ⟨z2, _⟩ | ⟨ne2, e2⟩
      · rw [z, z2]
      · rw [z] at e3
        rcases get_set e3 with ⟨_, w⟩ | ⟨w, _⟩
        · cases w
          rw [List.getElem?_set_ne (Ne.symm ne2)] at e4
          obtain ⟨o, q⟩ := r.tracked (.inr ⟨k, fs, e2, e4⟩)
          rw [hl] at q; cases q
        · exact absurd rfl w
    · rcases get_set e2 with ⟨z2, _⟩ | ⟨ne2, e2⟩
      · rw [z2] at e4
        rcases get_set e4 with ⟨_, w⟩ | ⟨w, _⟩
        · cases w
          rw [List.getElem?_set_ne (Ne.symm ne)] at e3
          obtain ⟨o, q⟩ := r.tracked (.inr ⟨j, es, e1, e3⟩)
          rw [hl] at q; cases q
        · exact absurd rfl w
      · rw [List.getElem?_set_ne (Ne.symm ne)] at e3
        rw [List.getElem?_set_ne (Ne.symm ne2)] at e4
        exact r.dis j k es fs p e1 e2 e3 e4
/-- a list of one's own is given free: it is data from now on -/
theorem Rel.freeze (r : Rel K xa H0 F α σ H) {i : Nat} {ds : List PyData} (e : α[i]? = some (.own ds)) : Rel K xa H0 F (α.set i (.val (.list ds))) σ H := by
  obtain ⟨l, vs, es, hl, x⟩ := r.slot i _ e
  have hi : i < α.length := (List.getElem?_eq_some_iff.mp e).1
  have eσ : σ.set i (some (.ref l)) = σ := by
    apply List.ext_getElem?
    intro j
    by_cases hij : j = i
    · subst hij; rw [List.getElem?_set_self (by rw [← r.len]; exact hi), es]
    · rw [List.getElem?_set_ne (Ne.symm hij)]
  have nl : ¬ Nn F (α.set i (.val (.list ds))) σ l := fun h => by
    rcases h with h | ⟨j, fs, e1, e2⟩
    · obtain ⟨o, q⟩ := r.ftr l h
      rw [r.own i ds l e es] at q; cases q
    · rcases get_set e1 with ⟨_, z⟩ | ⟨ne, e1⟩
      · cases z
      · exact ne (r.dis j i fs ds l e1 e e2 es)
  have less : ∀ a, Nn F (α.set i (.val (.list ds))) σ a → Nn F α σ a := by
    intro a h
    rw [← eσ] at h
    exact Nn.set_less (i := i) (s := Sv.val (.list ds)) (fun _ z => by cases z) a h
  refine ⟨by simp [r.len], r.base, r.ftr, fun j sv ej => ?_, fun j fs p e1 e2 => ?_, fun j k fs gs p e1 e2 e3 e4 => ?_⟩
  · rcases get_set ej with ⟨z, w⟩ | ⟨ne, ej⟩
    · subst z; subst w
      exact ⟨.ref l, es, .lst (.inl ⟨nl, .inl hl⟩) (x.less less)⟩
    · exact (r.slot j sv ej).stay (.less less) fun _ _ _ _ _ h => h
  · rcases get_set e1 with ⟨_, z⟩ | ⟨ne, e1⟩
    · cases z
    · exact r.own j fs p e1 e2
  · rcases get_set e1 with ⟨_, z⟩ | ⟨ne, e1⟩
    · cases z
    · rcases get_set e2 with ⟨_, z⟩ | ⟨ne2, e2⟩
      · cases z
      · exact r.dis j k fs gs p e1 e2 e3 e4
open Classical in
/-- the heap without the lists of one's own: what stays whatever the frame does -/
noncomputable def restr (α : En) (σ : L2.St) (H : Hp) : Hp := fun a => if (∃ (i : Nat) (ds : List PyData), α[i]? = some (Sv.own ds) ∧ σ[i]? = some (some (V.ref a))) then none else H a
theorem Rel.rebase (r : Rel K xa H0 F α σ H) : Rel K xa (restr α σ H) F α σ H := by
  refine ⟨r.len, fun b o e => ?_, fun a h => ?_, r.slot, fun i ds l e1 e2 => ?_, r.dis⟩
  · unfold restr at e; split at e
    · cases e
    · exact e
  · obtain ⟨o, q⟩ := r.ftr a h
    refine ⟨o, ?_⟩
    unfold restr
    rw [if_neg]
    · exact r.base _ _ q
    · rintro ⟨i, ds, e1, e2⟩
      rw [r.own i ds a e1 e2] at q; cases q
  · unfold restr; rw [if_pos ⟨i, ds, e1, e2⟩]
theorem Rel.unbase {α' : En} {σ' : L2.St} (r : Rel K xa H0 F α σ H) (r' : Rel K xa (restr α σ H) F α' σ' H') : Rel K xa H0 F α' σ' H' := by
  have s : Same H0 (restr α σ H) := fun b o e => by
    unfold restr
    rw [if_neg]
    · exact r.base _ _ e
    · rintro ⟨i, ds, e1, e2⟩
      rw [r.own i ds b e1 e2] at e; cases e
  exact ⟨r'.len, s.trans r'.base, r.ftr, r'.slot, fun i ds l e1 e2 => s.free (r'.own i ds l e1 e2), r'.dis⟩
theorem Rel.same0 (r : Rel K xa H0 F α σ H) : Same H0 (restr α σ H) := fun b o e => by
  unfold restr
  rw [if_neg]
  · exact r.base _ _ e
  · rintro ⟨i, ds, e1, e2⟩
    rw [r.own i ds b e1 e2] at e; cases e
/-- what was data stays data -/
theorem Rel.keeps {α' : En} {σ' : L2.St} (r : Rel K xa H0 F α σ H) (r' : Rel K xa (restr α σ H) F α' σ' H') : Stay (Nn F α σ) (Nn F α' σ') H H' := by
  have key : ∀ a o, (∀ xs, o ≠ .lst xs) ∨ ¬ Nn F α σ a → H a = some o → restr α σ H a = some o := fun a o hn e => by
    unfold restr
    rw [if_neg]
    · exact e
    · rintro ⟨i, ds, e1, e2⟩
      rcases hn with hn | hn
      · obtain ⟨l, vs, q1, q2, _⟩ := r.slot i _ e1
        rw [e2] at q1; cases q1
        rw [e] at q2; exact hn vs (Option.some.inj q2)
      · exact hn (.inr ⟨i, ds, e1, e2⟩)
  have nn : ∀ a o, ¬ Nn F α σ a → restr α σ H a = some o → ¬ Nn F α' σ' a := fun a o hn e h => by
    rcases h with h | ⟨i, ds, e1, e2⟩
    · exact hn (.inl h)
    · rw [r'.own i ds a e1 e2] at e; cases e
  refine ⟨fun a xs n h => ?_, fun a o xs n h => ?_, fun a xs h => r'.base _ _ (key a (.tup xs) (.inl fun _ z => by cases z) h), fun a o xs h => r'.base _ _ (key a (.frz o (.tup xs)) (.inl fun _ z => by cases z) h)⟩
  · have q := key a _ (.inr n) h
    exact ⟨nn a _ n q, r'.base _ _ q⟩
  · have q := key a (.frz o (.lst xs)) (.inl fun _ z => by cases z) h
    exact ⟨nn a _ n q, r'.base _ _ q⟩
end

theorem wipe_at : ∀ (ws : List Nat) (σ : L2.St) (j : Nat), (wipe σ ws)[j]? = if j ∈ ws then (σ[j]?).map (fun _ => none) else σ[j]?
  | [], σ, j => by simp [wipe]
  | w :: ws, σ, j => by
    have e : wipe σ (w :: ws) = (wipe σ ws).set w none := rfl
    rw [e]
    by_cases hj : j = w
    · subst hj
      rw [if_pos List.mem_cons_self, List.getElem?_set]
      have := wipe_length σ ws
      by_cases hl : j < σ.length
      · rw [if_pos rfl, if_pos (by rw [this]; exact hl), List.getElem?_eq_getElem hl]; rfl
      · rw [if_pos rfl, if_neg (by rw [this]; exact hl), List.getElem?_eq_none_iff.mpr (by omega)]; rfl
    · rw [List.getElem?_set_ne (Ne.symm hj), wipe_at ws σ j]
      by_cases hm : j ∈ ws
      · rw [if_pos hm, if_pos (List.mem_cons_of_mem _ hm)]
      · rw [if_neg hm, if_neg (fun z => by rcases List.mem_cons.mp z with z | z; exact hj z; exact hm z)]
theorem wipe_set {σ : L2.St} {o : Option V} {i : Nat} {ws : List Nat} (hi : i ∈ ws) : wipe (σ.set i o) ws = wipe σ ws := by
  apply List.ext_getElem?
  intro j
  rw [wipe_at, wipe_at]
  by_cases hj : j = i
  · subst hj
    rw [if_pos hi, if_pos hi, List.getElem?_set]
    by_cases hl : j < σ.length
    · rw [if_pos rfl, if_pos hl, List.getElem?_eq_getElem hl]; rfl
    · rw [if_pos rfl, if_neg hl, List.getElem?_eq_none_iff.mpr (by omega)]
  · rw [List.getElem?_set_ne (Ne.symm hj)]

/-! ### targets -/
inductive Tg where
  | nm (i : Nat)
  | tp (is : List Nat)
def putAll : List Nat → List PyData → En → Option En
  | [], [], α => some α
  | i :: is, d :: ds, α => putAll is ds (α.set i (.val d))
  | _, _, _ => none
def Tg.put : Tg → PyData → En → Option En
  | .nm i, d, α => some (α.set i (.val d))
  | .tp is, .tuple ds, α => putAll is ds α
  | .tp _, _, _ => none
def Tg.slots : Tg → List Nat
  | .nm i => [i]
  | .tp is => is
def gAll : List Nat → TGs
  | [] => gNil
  | i :: is => gCons (gName i) (gAll is)
def Tg.rd (K : PySem.W.Frag) : Tg → TG
  | .nm i => gName i
  | .tp is => gTup K is.length (gAll is)
theorem putAll_len : ∀ {is : List Nat} {ds : List PyData} {α α' : En}, putAll is ds α = some α' → is.length = ds.length
  | [], [], _, _, _ => rfl
  | [], _ :: _, _, _, h => by cases h
  | _ :: _, [], _, _, h => by cases h
  | i :: is, d :: ds, α, α', h => by
    have h : putAll is ds (α.set i (.val d)) = some α' := h
    simp [putAll_len h]
theorem gAll_read {K : PySem.W.Frag} {xa : Xi} {H0 H : Hp} {F : Addr → Prop} {Q : L2.St → Hp → Prop} : ∀ {is : List Nat} {ds : List PyData} {vs : List V} {α α' : En} {σ : L2.St}, Rel K xa H0 F α σ H → DNs K (Nn F α σ) H vs ds → putAll is ds α = some α' →
    (∀ σ', Rel K xa H0 F α' σ' H → (∀ ws, (∀ i ∈ is, i ∈ ws) → wipe σ' ws = wipe σ ws) → Q σ' H) → gAll is vs σ H Q
  | [], [], vs, α, α', σ, r, x, h, q => by
    cases x; cases h
    exact ⟨rfl, q σ r fun _ _ => rfl⟩
  | [], _ :: _, _, _, _, _, _, _, h, _ => by cases h
  | _ :: _, [], _, _, _, _, _, _, h, _ => by cases h
  | i :: is, d :: ds, vs, α, α', σ, r, x, h, q => by
    cases x with
    | cons a t =>
      rename_i v vr
      have h : putAll is ds (α.set i (.val d)) = some α' := h
      refine ⟨v, vr, rfl, ?_⟩
      have less := Nn.set_less (F := F) (α := α) (σ := σ) (i := i) (s := .val d) (o := some v) (fun _ z => nomatch z)
      refine gAll_read (r.putVal a) (t.less less) h fun σ' r' w => q σ' r' fun ws hw => ?_
      rw [w ws fun j hj => hw j (List.mem_cons_of_mem _ hj)]
      exact wipe_set (hw i List.mem_cons_self)
end FS

namespace FS
open PySem PySem.Spec PyProof.Rows L2

/-- an iterator J, made at H1, gives these items, wherever what was data at H1 is still data -/
def GoodIt (K : PySem.W.Frag) (N : Addr → Prop) (H1 : Hp) (J : It) (items : List PyData) : Prop := ∃ G Y, Walk J items.length G Y ∧ (∀ N' H2, Stay N N' H1 H2 → G H2) ∧
  ∀ (N' : Addr → Prop) (i : Nat) H x H', Stay N N' H1 H → Y i H x H' → i < items.length → Same H H' ∧ ∃ d, items[i]? = some d ∧ DN K N' H' x d
abbrev MI := En → Out (List PyData)
def PIt (K : PySem.W.Frag) (N : Addr → Prop) (R : It → Hp → Prop) (items : List PyData) (H : Hp) : Prop := ∀ J H', Same H H' → GoodIt K N H' J items → R J H'
def tSI (X : Cx) (ca : Cc) (W : WX) (m : MI) : TI := fun σ H R => ∃ H0 F α, Rel X.K ca.xi H0 F α σ H ∧ GO ca W σ (PIt X.K (Nn F α σ) R) (m α) H
def SI (X : Cx) (ca : Cc) (W : WX) (tg iter : Expr) (m : MI) : Prop := PI X tg iter (tSI X ca W m)
theorem PI.imp {X : Cx} {tg e : Expr} {t t' : TI} (h : PI X tg e t) (q : ∀ σ H R, t' σ H R → t σ H R) : PI X tg e t' := ⟨fun pins s σ H R I w => h.run pins s σ H R I (q _ _ _ w)⟩
theorem PI.or {X : Cx} {tg e : Expr} {t t' : TI} (h : PI X tg e t) (h' : PI X tg e t') : PI X tg e (fun σ H R => t σ H R ∨ t' σ H R) := ⟨fun pins s σ H R I w => w.elim (h.run pins s σ H R I) (h'.run pins s σ H R I)⟩
theorem PIt.mono {K : PySem.W.Frag} {N : Addr → Prop} {R : It → Hp → Prop} : MonoP (PIt K N R) := fun _ _ _ s h J H2 s2 x => h J H2 (s.trans s2) x

section
variable {K : PySem.W.Frag} {N N' : Addr → Prop} {H H1 H2 : Hp}
theorem Stay.sqt (s : Stay N N' H1 H2) {a : Addr} {xs : List V} (h : SqT K H1 a xs) : SqT K H2 a xs := SqT.mono (fun ys => s.t _ ys) (fun o ys => s.ft _ o ys) h
theorem Stay.trans' {N'' : Addr → Prop} {H3 : Hp} (s : Stay N N' H1 H2) (s2 : Same H2 H3) : Stay N N' H1 H3 :=
  ⟨fun a xs n h => let z := s.l a xs n h; ⟨z.1, s2 _ _ z.2⟩, fun a o xs n h => let z := s.fl a o xs n h; ⟨z.1, s2 _ _ z.2⟩, fun a xs h => s2 _ _ (s.t a xs h), fun a o xs h => s2 _ _ (s.ft a o xs h)⟩
theorem good_list {a : Addr} {vs : List V} {ds : List PyData} (h : LQ K N H1 a vs) (t : DNs K N H1 vs ds) : GoodIt K N H1 (Itl K a) ds := by
  refine ⟨fun H => SqL K H a vs, YAt vs, by rw [← t.length]; exact walk_list, fun N' H2 s => (h.stay s).sq, fun N' i H x H' s y hi => ?_⟩
  obtain ⟨rfl, y⟩ := y
  obtain ⟨d, e, x'⟩ := t.getV y
  exact ⟨Same.refl _, d, e, x'.stay s⟩
theorem good_tup {a : Addr} {vs : List V} {ds : List PyData} (h : SqT K H1 a vs) (t : DNs K N H1 vs ds) : GoodIt K N H1 (Itt K a) ds := by
  refine ⟨fun H => SqT K H a vs, YAt vs, by rw [← t.length]; exact walk_tup, fun N' H2 s => s.sqt h, fun N' i H x H' s y hi => ?_⟩
  obtain ⟨rfl, y⟩ := y
  obtain ⟨d, e, x'⟩ := t.getV y
  exact ⟨Same.refl _, d, e, x'.stay s⟩
def charsD (z : Str) : List PyData := z.cps.toList.map fun c => PyData.str ⟨#[c]⟩
theorem good_str {z : Str} : GoodIt K N H1 (Its z) (charsD z) := by
  have hl : (charsD z).length = z.cps.size := by simp [charsD]
  refine ⟨fun _ => True, _, by rw [hl]; exact walk_str, fun _ _ _ => trivial, fun N' i H x H' s y hi => ?_⟩
  obtain ⟨rfl, c, hc, rfl⟩ := y
  refine ⟨Same.refl _, .str ⟨#[c]⟩, ?_, .str _⟩
  unfold charsD
  rw [List.getElem?_map, Array.getElem?_toList, hc]; rfl
def rngD (lo : Int) (n : Nat) : List PyData := (List.range n).map fun i => PyData.int (lo + (i : Nat))
theorem good_range {lo : Int} {n : Nat} : GoodIt K N H1 (Itr lo n) (rngD lo n) := by
  have hl : (rngD lo n).length = n := by simp [rngD]
  refine ⟨fun _ => True, _, by rw [hl]; exact walk_range, fun _ _ _ => trivial, fun N' i H x H' s y hi => ?_⟩
  obtain ⟨rfl, rfl⟩ := y
  refine ⟨Same.refl _, .int (lo + i), ?_, .int _⟩
  rw [hl] at hi
  unfold rngD
  rw [List.getElem?_map, List.getElem?_range hi]; rfl
def rngCD (lo c : Int) (n : Nat) : List PyData := (List.range n).map fun i => PyData.int (lo + (i : Nat) * c)
theorem good_rangeC {lo c : Int} {n : Nat} : GoodIt K N H1 (Itc lo c n) (rngCD lo c n) := by
  have hl : (rngCD lo c n).length = n := by simp [rngCD]
  refine ⟨fun _ => True, _, by rw [hl]; exact walk_rangeC, fun _ _ _ => trivial, fun N' i H x H' s y hi => ?_⟩
  obtain ⟨rfl, rfl⟩ := y
  refine ⟨Same.refl _, .int (lo + (i : Nat) * c), ?_, .int _⟩
  rw [hl] at hi
  unfold rngCD
  rw [List.getElem?_map, List.getElem?_range hi]; rfl
/-- pairs -/
def enumF : Nat → List PyData → List PyData
  | _, [] => []
  | i, d :: r => .tuple [.int (i : Nat), d] :: enumF (i + 1) r
def zipD : List PyData → List PyData → List PyData
  | d :: ds, e :: es => .tuple [d, e] :: zipD ds es
  | _, _ => []
theorem enumF_len : ∀ (i : Nat) (ds : List PyData), (enumF i ds).length = ds.length
  | _, [] => rfl
  | i, d :: r => by simp [enumF, enumF_len (i + 1) r]
theorem enumF_get : ∀ (j : Nat) (ds : List PyData) (i : Nat) (d : PyData), ds[i]? = some d → (enumF j ds)[i]? = some (.tuple [.int ((j + i : Nat) : Int), d])
  | _, [], _, _, h => by simp at h
  | j, d :: r, 0, e, h => by simp at h; subst h; rfl
  | j, d :: r, i + 1, e, h => by
    have := enumF_get (j + 1) r i e (by simpa using h)
    rw [show j + 1 + i = j + (i + 1) by omega] at this
    simpa [enumF] using this
theorem zipD_len : ∀ (ds es : List PyData), (zipD ds es).length = min ds.length es.length
  | [], _ => by simp [zipD]
  | _ :: _, [] => by simp [zipD]
  | d :: ds, e :: es => by simp [zipD, zipD_len ds es]
theorem zipD_get : ∀ (ds es : List PyData) (i : Nat) (d e : PyData), ds[i]? = some d → es[i]? = some e → (zipD ds es)[i]? = some (.tuple [d, e])
  | [], _, _, _, _, h, _ => by simp at h
  | _ :: _, [], _, _, _, _, h => by simp at h
  | d :: ds, e :: es, 0, x, y, h, h2 => by simp at h h2; subst h; subst h2; rfl
  | d :: ds, e :: es, i + 1, x, y, h, h2 => by
    have := zipD_get ds es i x y (by simpa using h) (by simpa using h2)
    simpa [zipD] using this
theorem pair_new {T : Addr} {x y : V} {d e : PyData} (hT : H T = none) (a : DN K N' H x d) (b : DN K N' H y e) : Same H (upd H T (.tup [x, y])) ∧ DN K N' (upd H T (.tup [x, y])) (.ref T) (.tuple [d, e]) :=
  ⟨Same.new hT, .tup (.inl (.inl upd_same)) (.cons (a.same (Same.new hT)) (.cons (b.same (Same.new hT)) .nil))⟩
theorem good_enum {a : Addr} {vs : List V} {ds : List PyData} (h : LQ K N H1 a vs) (t : DNs K N H1 vs ds) : GoodIt K N H1 (Ite K a) (enumF 0 ds) := by
  refine ⟨fun H => SqL K H a vs, YPair (fun i => some (.int (i : Nat))) (fun i => vs[i]?), by rw [enumF_len, ← t.length]; exact walk_enum, fun N' H2 s => (h.stay s).sq, fun N' i H x H' s y hi => ?_⟩
  obtain ⟨T, u, v, rfl, hT, rfl, e1, e2⟩ := y
  cases e1
  obtain ⟨d, e, x'⟩ := t.getV e2
  obtain ⟨z1, z2⟩ := pair_new hT (DN.int (i : Nat)) (x'.stay s)
  refine ⟨z1, _, ?_, z2⟩
  have := enumF_get 0 ds i d e
  rw [Nat.zero_add] at this
  exact this
theorem good_zip {a b : Addr} {vs ws : List V} {ds es : List PyData} (h : LQ K N H1 a vs) (t : DNs K N H1 vs ds) (h2 : LQ K N H1 b ws) (t2 : DNs K N H1 ws es) : GoodIt K N H1 (Itz K a b) (zipD ds es) := by
  refine ⟨fun H => SqL K H a vs ∧ SqL K H b ws, YPair (fun i => vs[i]?) (fun i => ws[i]?), walk_zip (by rw [zipD_len, t.length, t2.length]), fun N' H2 s => ⟨(h.stay s).sq, (h2.stay s).sq⟩, fun N' i H x H' s y hi => ?_⟩
  obtain ⟨T, u, v, rfl, hT, rfl, e1, e2⟩ := y
  obtain ⟨d, e, x'⟩ := t.getV e1
  obtain ⟨d2, e2', x2⟩ := t2.getV e2
  obtain ⟨z1, z2⟩ := pair_new hT (x'.stay s) (x2.stay s)
  exact ⟨z1, _, zipD_get ds es i d d2 e e2', z2⟩
theorem walk_zipT {a b : Addr} {xs ys : List V} {n : Nat} (hn : n = min xs.length ys.length) : Walk (RZ.ItzT K a b) n (fun H => SqT K H a xs ∧ SqT K H b ys) (YPair (fun i => xs[i]?) (fun i => ys[i]?)) := by
  subst hn
  refine ⟨fun i _ hi q => ?_, fun _ q => ⟨xs, ys, q.1, q.2, by omega⟩, fun i H v H' _ q y => ?_⟩
  · have h1 : i < xs.length := by omega
    have h2 : i < ys.length := by omega
    exact ⟨xs, ys, xs[i], ys[i], q.1, q.2, by simp [h1], by simp [h2]⟩
  · obtain ⟨T, x, z, h1, h2, h3, h4, h5⟩ := y
    exact ⟨T, x, z, h1, h2, h3, h4 xs q.1, h5 ys q.2⟩
theorem good_zipT {a b : Addr} {vs ws : List V} {ds es : List PyData} (h : SqT K H1 a vs) (t : DNs K N H1 vs ds) (h2 : SqT K H1 b ws) (t2 : DNs K N H1 ws es) : GoodIt K N H1 (RZ.ItzT K a b) (zipD ds es) := by
  refine ⟨fun H => SqT K H a vs ∧ SqT K H b ws, YPair (fun i => vs[i]?) (fun i => ws[i]?), walk_zipT (by rw [zipD_len, t.length, t2.length]), fun N' H2 s => ⟨s.sqt h, s.sqt h2⟩, fun N' i H x H' s y hi => ?_⟩
  obtain ⟨T, u, v, rfl, hT, rfl, e1, e2⟩ := y
  obtain ⟨d, e, x'⟩ := t.getV e1
  obtain ⟨d2, e2', x2⟩ := t2.getV e2
  obtain ⟨z1, z2⟩ := pair_new hT (x'.stay s) (x2.stay s)
  exact ⟨z1, _, zipD_get ds es i d d2 e e2', z2⟩
end

/-! ### what is walked -/
def itemsD (d : PyData) : Out (List PyData) := match d with
  | .list ds => .ok ds
  | .tuple ds => .ok ds
  | .str z => .ok (charsD z)
  | _ => .bad
def iV (a : M) : MI := fun α => (a α).bind fun r => (stR r).bind itemsD
section
variable {X : Cx} {ca : Cc} {W : WX} {a b c e tg : Expr} {es : List Expr} {ma mb mc me : M} {pos : Pos}
/-- one stored value, then the rest -/
theorem tS.seqS {β : Type} {P : β → Hp → Prop} {m : M} {f : PyData → Out β} {Q : VK} {σ : L2.St} {H H0 : Hp} {F : Addr → Prop} {α : En} (rel : Rel X.K ca.xi H0 F α σ H) (hP : MonoP P) (h : GO ca W σ P ((m α).bind fun r => (stR r).bind f) H)
    (k : ∀ d v H', Same H H' → DN X.K (Nn F α σ) H' v d → Rel X.K ca.xi H0 F α σ H' → GO ca W σ P (f d) H' → Q v H') : tS X ca W m σ H Q := by
  refine tS.seq rel hP h fun r v H1 s1 x1 rel1 q1 => ?_
  cases e : stR r with
  | ok d =>
    rw [e] at q1
    obtain ⟨h1, h2⟩ := stR_ok e
    subst h2
    exact k _ v H1 s1 (x1.store h1 fun l hl => rel.new hl) rel1 q1
  | err c => exact absurd e (stR_ne r c)
  | bad => rw [e] at q1; exact q1.elim
theorem si_val (ha : SE X ca W a ma) : SI X ca W tg a (iV ma) := by
  refine PI.imp (PI.or (pi_list ha) (PI.or (pi_tup ha) (pi_str ha))) fun σ H R q => ?_
  obtain ⟨H0, F, α, rel, q⟩ := q
  -- by what is found
  cases e : ma α with
  | err c =>
    have q : GO ca W σ (PIt X.K (Nn F α σ) R) ((ma α).bind fun r => (stR r).bind itemsD) H := q
    rw [e] at q
    exact .inl (tS.mk rel (by rw [e]; exact q))
  | bad =>
    have q : GO ca W σ (PIt X.K (Nn F α σ) R) ((ma α).bind fun r => (stR r).bind itemsD) H := q
    rw [e] at q; exact q.elim
  | ok r =>
    have q0 : GO ca W σ (PIt X.K (Nn F α σ) R) ((ma α).bind fun r => (stR r).bind itemsD) H := q
    have q : GO ca W σ (PIt X.K (Nn F α σ) R) ((stR r).bind itemsD) H := by rw [e] at q0; exact q0
    cases e2 : stR r with
    | err c => exact absurd e2 (stR_ne r c)
    | bad => rw [e2] at q; exact q.elim
    | ok d =>
      rw [e2] at q
      obtain ⟨h1, h2⟩ := stR_ok e2
      cases d with
      | list ds =>
        refine .inl (tS.mk rel (by
          rw [e]
          intro v H1 s1 x1
          have dn := x1.store h1 fun l hl => rel.new hl
          rw [← h2] at dn
          cases dn with
          | lst hr t => exact ⟨_, rfl, ⟨_, hr.sq⟩, q _ H1 s1 (good_list hr t)⟩))
      | tuple ds =>
        refine .inr (.inl (tS.mk rel (by
          rw [e]
          intro v H1 s1 x1
          have dn := x1.store h1 fun l hl => rel.new hl
          rw [← h2] at dn
          cases dn with
          | tup hr t => exact ⟨_, rfl, ⟨_, hr⟩, q _ H1 s1 (good_tup hr t)⟩)))
      | str z =>
        refine .inr (.inr (tS.mk rel (by
          rw [e]
          intro v H1 s1 x1
          exact ⟨z, x1.str h2.symm, q _ H1 s1 good_str⟩)))
      | _ => exact q.elim
/-! ranges -/
theorem p62 : (2 : Int) ^ 62 = 4611686018427387904 := by decide
def rng1 (rs : List PyData) : Out (List PyData) := match rs with
  | [.int j] => if -(4611686018427387904) ≤ j ∧ j < 4611686018427387904 then .ok (rngD 0 j.toNat) else .bad
  | _ => .bad
def rng2 (rs : List PyData) : Out (List PyData) := match rs with
  | [.int i, .int j] => if -(4611686018427387904) ≤ i ∧ i < 4611686018427387904 ∧ -(4611686018427387904) ≤ j ∧ j < 4611686018427387904 then .ok (rngD i (j - i).toNat) else .bad
  | _ => .bad
def rng3 (rs : List PyData) : Out (List PyData) := match rs with
  | [.int i, .int j, .int c] => if c = -1 ∧ -(4611686018427387904) ≤ i ∧ i < 4611686018427387904 ∧ -(4611686018427387904) ≤ j ∧ j < 4611686018427387904 then .ok (rngCD i (-1) (i - j).toNat) else .bad
  | _ => .bad
def iB (g : List PyData → Out (List PyData)) (a : MA) : MI := fun α => (a α).bind fun rs => (stAll rs).bind g
theorem si_range1 {p : Pos} {m : MA} (hg : Gl X "range") (hm : X.mg "range" = none) (ha : SA X ca W [a] m) (hs : starEach [a] X.env = [(false, eval a X.env)] := by rfl) : SI X ca W tg (.Call (.Name "range" p) [a] [] pos) (iB rng1 m) := by
  refine PI.imp (pi_range1 hg hm ha hs) fun σ H R q => ?_
  obtain ⟨H0, F, α, rel, q⟩ := q
  refine tSA.seqS rel PIt.mono q fun ds vs H1 s1 x1 rel1 q1 => ?_
  match ds, q1, x1 with
  | [.int j], q1, x1 =>
    have q1 : GO ca W σ (PIt X.K (Nn F α σ) R) (if -(4611686018427387904) ≤ j ∧ j < 4611686018427387904 then .ok (rngD 0 j.toNat) else .bad) H1 := q1
    split at q1
    · rename_i hz
      cases x1 with
      | cons x t => cases x; cases t; exact ⟨j, rfl, by rw [p62]; exact hz.1, by rw [p62]; exact hz.2, q1 _ H1 (Same.refl _) good_range⟩
    · exact q1.elim
  | [], q1, _ => exact q1.elim
  | .none :: _, q1, _ => exact q1.elim
  | .bool _ :: _, q1, _ => exact q1.elim
  | .str _ :: _, q1, _ => exact q1.elim
  | .list _ :: _, q1, _ => exact q1.elim
  | .tuple _ :: _, q1, _ => exact q1.elim
  | .dict _ :: _, q1, _ => exact q1.elim
  | .int _ :: _ :: _, q1, _ => exact q1.elim
theorem rng2_ok {ds : List PyData} {xs : List PyData} (h : rng2 ds = .ok xs) : ∃ i j, ds = [.int i, .int j] ∧ (-(4611686018427387904) ≤ i ∧ i < 4611686018427387904 ∧ -(4611686018427387904) ≤ j ∧ j < 4611686018427387904) ∧ xs = rngD i (j - i).toNat := by
  unfold rng2 at h
  split at h
  · split at h
    · rename_i hz; cases h; exact ⟨_, _, rfl, hz, rfl⟩
    · cases h
  · cases h
theorem rng2_ne {ds : List PyData} {c : Ex} (h : rng2 ds = .err c) : False := by
  unfold rng2 at h
  split at h
  · split at h <;> cases h
  · cases h
theorem rng3_ok {ds : List PyData} {xs : List PyData} (h : rng3 ds = .ok xs) : ∃ i j, ds = [.int i, .int j, .int (-1)] ∧ (-(4611686018427387904) ≤ i ∧ i < 4611686018427387904 ∧ -(4611686018427387904) ≤ j ∧ j < 4611686018427387904) ∧ xs = rngCD i (-1) (i - j).toNat := by
  unfold rng3 at h
  split at h
  · split at h
    · rename_i hz; cases h; exact ⟨_, _, by rw [hz.1], hz.2, rfl⟩
    · cases h
  · cases h
theorem rng3_ne {ds : List PyData} {c : Ex} (h : rng3 ds = .err c) : False := by
  unfold rng3 at h
  split at h
  · split at h <;> cases h
  · cases h
theorem si_range2 {p : Pos} {m : MA} (hg : Gl X "range") (hm : X.mg "range" = none) (ha : SA X ca W [a, b] m) (hs : starEach [a, b] X.env = [(false, eval a X.env), (false, eval b X.env)] := by rfl) (hs2 : starEach [b] X.env = [(false, eval b X.env)] := by rfl) : SI X ca W tg (.Call (.Name "range" p) [a, b] [] pos) (iB rng2 m) := by
  refine PI.imp (pi_range2 hg hm ha hs hs2) fun σ H R q => ?_
  obtain ⟨H0, F, α, rel, q⟩ := q
  refine tSA.seqS rel PIt.mono q fun ds vs H1 s1 x1 rel1 q1 => ?_
  cases e : rng2 ds with
  | err c => exact (rng2_ne e).elim
  | bad => rw [e] at q1; exact q1.elim
  | ok xs =>
    rw [e] at q1
    obtain ⟨i, j, rfl, hz, rfl⟩ := rng2_ok e
    cases x1 with
    | cons x t => cases x; cases t with
      | cons y t => cases y; cases t; exact ⟨i, j, rfl, by rw [p62]; exact hz, q1 _ H1 (Same.refl _) good_range⟩
theorem si_range3 {p : Pos} {m : MA} (hg : Gl X "range") (hm : X.mg "range" = none) (ha : SA X ca W [a, b, c] m) (h3 : PI X tg (.Call (.Name "range" p) [a, b, c] [] pos) (iRng3 (tSA X ca W m))) : SI X ca W tg (.Call (.Name "range" p) [a, b, c] [] pos) (iB rng3 m) := by
  refine PI.imp h3 fun σ H R q => ?_
  obtain ⟨H0, F, α, rel, q⟩ := q
  refine tSA.seqS rel PIt.mono q fun ds vs H1 s1 x1 rel1 q1 => ?_
  cases e : rng3 ds with
  | err c => exact (rng3_ne e).elim
  | bad => rw [e] at q1; exact q1.elim
  | ok xs =>
    rw [e] at q1
    obtain ⟨i, j, rfl, hz, rfl⟩ := rng3_ok e
    cases x1 with
    | cons x t => cases x; cases t with
      | cons y t => cases y; cases t with
        | cons z t => cases z; cases t; exact ⟨i, j, -1, _, rfl, RgC.neg (by rw [p62]; exact hz.1) (by rw [p62]; exact hz.2.1) (by rw [p62]; exact hz.2.2.1) (by rw [p62]; exact hz.2.2.2), q1 _ H1 (Same.refl _) good_rangeC⟩
/-! zip, enumerate -/
def zip2 (rs : List PyData) : Out (List PyData) := match rs with
  | [.list xs, .list ys] => .ok (zipD xs ys)
  | [.tuple xs, .tuple ys] => .ok (zipD xs ys)
  | _ => .bad
theorem si_zip {p tpos : Pos} {elts : List Expr} {kk : Nat} {m : MA} (h3 : PI X (.Tuple elts kk tpos) (.Call (.Name "zip" p) [a, b] [] pos) (RZ.iZipA X.K (tSA X ca W m))) : SI X ca W (.Tuple elts kk tpos) (.Call (.Name "zip" p) [a, b] [] pos) (iB zip2 m) := by
  refine PI.imp h3 fun σ H R q => ?_
  obtain ⟨H0, F, α, rel, q⟩ := q
  refine tSA.seqS rel PIt.mono q fun ds vs H1 s1 x1 rel1 q1 => ?_
  unfold zip2 at q1
  split at q1
  · cases x1 with
    | cons x t => cases t with
      | cons y t => cases t; cases x with
        | lst hr t1 => cases y with
          | lst hr2 t2 => exact ⟨_, _, _, _, rfl, .inl ⟨hr.sq, hr2.sq, q1 _ H1 (Same.refl _) (good_zip hr t1 hr2 t2)⟩⟩
  · cases x1 with
    | cons x t => cases t with
      | cons y t => cases t; cases x with
        | tup hr t1 => cases y with
          | tup hr2 t2 => exact ⟨_, _, _, _, rfl, .inr ⟨hr, hr2, q1 _ H1 (Same.refl _) (good_zipT hr t1 hr2 t2)⟩⟩
  · exact q1.elim
end
end FS

namespace FS
open PySem PySem.Spec PyProof.Rows L2

/-! ### statements -/
def GS (X : Cx) (ca : Cc) (W : WX) (H0 : Hp) (F : Addr → Prop) (D : Ends) (o : SO) : Prop := match o with
  | .nx α' => ∀ σ' H', Rel X.K ca.xi H0 F α' σ' H' → D.nx σ' H'
  | .rt r => ∀ v H', Same H0 H' → RV X.K F H0 H' v r → D.rt v H'
  | .er c => ∀ σ' H', Same H0 H' → W (.ref (ca.at_ c)) none σ' H'
  | .bad => False
section
variable {X : Cx} {ca : Cc} {W : WX} {D : Ends} {σ : L2.St} {H H0 : Hp} {F : Addr → Prop} {α : En} {m : MS}
theorem tSS.mk (rel : Rel X.K ca.xi H0 F α σ H) (h : GS X ca W H0 F D (m α)) : tSS X ca W m D σ H := by
  refine ⟨H0, F, α, rel, ?_⟩
  cases e : m α <;> (rw [e] at h; exact h)
theorem tSS.go (h : tSS X ca W m D σ H) : ∃ H0 F α, Rel X.K ca.xi H0 F α σ H ∧ GS X ca W H0 F D (m α) := by
  obtain ⟨H0, F, α, rel, h⟩ := h
  refine ⟨H0, F, α, rel, ?_⟩
  cases e : m α <;> (rw [e] at h; exact h)
end
def SO.bind (o : SO) (f : En → SO) : SO := match o with
  | .nx α => f α
  | o => o
def mSeq (a b : MS) : MS := fun α => (a α).bind b
def mNext : MS := fun α => .nx α
/-- from an expression's outcome to a statement's -/
def Out.so {β : Type} (o : Out β) (f : β → SO) : SO := match o with
  | .ok b => f b
  | .err c => .er c
  | .bad => .bad
section
variable {X : Cx} {ca : Cc} {W : WX} {st : Stmt} {rest : List Stmt} {m m' : MS} {a b c e : Expr} {ma mb mc : M} {pos : Pos}
theorem ss_nil : SSs X ca W [] mNext := PSs.imp pss_nil fun D σ H q => by
  obtain ⟨H0, F, α, rel, q⟩ := q.go
  exact q σ H rel
theorem ss_cons (h1 : SS X ca W st m) (h2 : SSs X ca W rest m') : SSs X ca W (st :: rest) (mSeq m m') := PSs.imp (pss_cons h1 h2) fun D σ H q => by
  obtain ⟨H0, F, α, rel, q⟩ := q.go
  unfold mSeq at q
  refine tSS.mk rel ?_
  cases e : m α with
  | nx α' => rw [e] at q; exact fun σ' H' rel' => tSS.mk rel' q
  | rt r => rw [e] at q; exact q
  | er c => rw [e] at q; exact q
  | bad => rw [e] at q; exact q
theorem ss_one (h1 : SS X ca W st m) : SSs X ca W [st] m := pss_one h1
def frz (i : Nat) (α : En) : En := match α[i]? with
  | some (.own ds) => α.set i (.val (.list ds))
  | _ => α
theorem Rel.frz {K : PySem.W.Frag} {xa : Xi} {H0 H : Hp} {F : Addr → Prop} {α : En} {σ : L2.St} (r : Rel K xa H0 F α σ H) (i : Nat) : Rel K xa H0 F (frz i α) σ H := by
  unfold FS.frz
  split
  · rename_i ds e; exact r.freeze e
  · exact r
/-- a list of one's own is given free ahead of a block -/
def mFrz (i : Nat) (m : MS) : MS := fun α => m (frz i α)
theorem ss_frz {sts : List Stmt} (i : Nat) (h : SSs X ca W sts m) : SSs X ca W sts (mFrz i m) := PSs.imp h fun D σ H q => by
  obtain ⟨H0, F, α, rel, q⟩ := q.go
  exact tSS.mk (rel.frz i) q
theorem ss_pass : SS X ca W (.Pass pos) mNext := PS.imp ps_pass fun D σ H q => by
  obtain ⟨H0, F, α, rel, q⟩ := q.go
  exact q σ H rel
/-- an expression, then what a statement does with it -/
theorem tS.so {β : Type} {f : R → SO} {Q : VK} {D : Ends} {σ : L2.St} {H H0 : Hp} {F : Addr → Prop} {α : En} (rel : Rel X.K ca.xi H0 F α σ H) (h : GS X ca W H0 F D ((ma α).so f))
    (k : ∀ r v H', Same H H' → RV X.K (Nn F α σ) H H' v r → Rel X.K ca.xi H0 F α σ H' → GS X ca W H0 F D (f r) → Q v H') : tS X ca W ma σ H Q := by
  refine tS.mk rel ?_
  cases e : ma α with
  | ok r => rw [e] at h; exact fun v H' s x => k r v H' s x (rel.same s) h
  | err c => rw [e] at h; exact fun H' s => h σ H' (rel.base.trans s)
  | bad => rw [e] at h; exact h
theorem tSB.so {mt : MB} {f : Bool → SO} {Q : Bool → Hp → Prop} {D : Ends} {σ : L2.St} {H H0 : Hp} {F : Addr → Prop} {α : En} (rel : Rel X.K ca.xi H0 F α σ H) (h : GS X ca W H0 F D ((mt α).so f))
    (k : ∀ b H', Same H H' → Rel X.K ca.xi H0 F α σ H' → GS X ca W H0 F D (f b) → Q b H') : tSB X ca W mt σ H Q := by
  refine tSB.mk rel ?_
  cases e : mt α with
  | ok r => rw [e] at h; exact fun H' s => k r H' s (rel.same s) h
  | err c => rw [e] at h; exact fun H' s => h σ H' (rel.base.trans s)
  | bad => rw [e] at h; exact h
theorem tSA.so {mm : MA} {f : List PyData → SO} {Q : List V → Hp → Prop} {D : Ends} {σ : L2.St} {H H0 : Hp} {F : Addr → Prop} {α : En} (rel : Rel X.K ca.xi H0 F α σ H) (h : GS X ca W H0 F D (((mm α).bind stAll).so f))
    (k : ∀ ds vs H', Same H H' → DNs X.K (Nn F α σ) H' vs ds → Rel X.K ca.xi H0 F α σ H' → GS X ca W H0 F D (f ds) → Q vs H') : tSA X ca W mm σ H Q := by
  refine tSA.mk rel ?_
  cases e : mm α with
  | ok rs =>
    rw [e] at h
    intro vs H' s x
    have h : GS X ca W H0 F D ((stAll rs).so f) := h
    cases e2 : stAll rs with
    | ok ds => rw [e2] at h; exact k ds vs H' s (x.store (fun l hl => rel.new hl) e2) (rel.same s) h
    | err c => exact absurd e2 (stAll_ne rs c)
    | bad => rw [e2] at h; exact h.elim
  | err c => rw [e] at h; exact fun H' s => h σ H' (rel.base.trans s)
  | bad => rw [e] at h; exact h
def sExpr (a : M) : MS := fun α => (a α).so fun _ => .nx α
theorem ss_expr (he : SE X ca W e ma) (hs : swapsWith e none pos.line X.env = pure false := by rfl) : SS X ca W (.Expr e pos) (sExpr ma) := PS.imp (ps_expr he hs) fun D σ H q => by
  obtain ⟨H0, F, α, rel, q⟩ := q.go
  exact tS.so (β := Unit) rel q fun r v H1 s1 x1 rel1 q1 => q1 σ H1 rel1
/-- name = value -/
def putR (i : Nat) (r : R) (α : En) : SO := match r.k, r.d with
  | .v, d => .nx (α.set i (.val d))
  | .f, .list ds => .nx (α.set i (.own ds))
  | _, _ => .bad
def sAsg (i : Nat) (a : M) : MS := fun α => (a α).so fun r => putR i r α
theorem putR_read {D : Ends} {σ : L2.St} {H H' H0 : Hp} {F : Addr → Prop} {α : En} {i : Nat} {r : R} {v : V} (rel : Rel X.K ca.xi H0 F α σ H) (s : Same H H') (x : RV X.K (Nn F α σ) H H' v r) (q : GS X ca W H0 F D (putR i r α)) : D.nx (σ.set i (some v)) H' := by
  obtain ⟨k, d⟩ := r
  cases k with
  | v => exact q _ _ ((rel.same s).putVal x)
  | f =>
    obtain ⟨l, vs, ds, rfl, e, hl, hl', t⟩ := x
    dsimp only at e
    subst e
    exact q _ _ (rel.putOwn (Hp' := H') s hl hl' t)
  | b => cases d <;> exact q.elim
theorem ss_asg {i : Nat} {x : Str} {pos' : Pos} (hN : X.N.Nodup) (hi : X.N[i]? = some x) (hx : Loc X.env.scope x) (he : SE X ca W e ma) (hs : swapsWith e (some (.Name x pos')) pos.line X.env = pure false := by rfl) (hf : X.fn x = true ∨ X.env.scope.names.lookup x = some .local := by first | exact .inl rfl | exact .inr rfl | assumption) :
    SS X ca W (.Assign [.Name x pos'] e pos) (sAsg i ma) := PS.imp (ps_set hN hi hx he hs hf) fun D σ H q => by
  obtain ⟨H0, F, α, rel, q⟩ := q.go
  exact tS.so (β := Unit) rel q fun r v H1 s1 x1 rel1 q1 => putR_read rel s1 x1 q1
/-- a, b = value -/
def sAsgT (is : List Nat) (a : M) : MS := fun α => ((a α).bind stR).so fun d => match Tg.put (.tp is) d α with
  | some α' => .nx α'
  | none => .bad
theorem ss_asgT {tg : Expr} {is : List Nat} (he : SE X ca W e ma) (hg : PG X tg (Tg.rd X.K (.tp is))) (hs : swapsWithSole [tg] e pos.line X.env = pure false := by rfl) (hw : swappedStores [tg] e X.env = pure none := by rfl)
    (h1 : (assignEach [tg] X.env).map (·.2) = [assign tg X.env] := by rfl) : SS X ca W (.Assign [tg] e pos) (sAsgT is ma) := PS.imp (ps_asg he hg hs hw h1) fun D σ H q => by
  obtain ⟨H0, F, α, rel, q⟩ := q.go
  refine tS.mk rel ?_
  unfold sAsgT at q
  cases e1 : ma α with
  | err c => rw [e1] at q; exact fun H' s => q σ H' (rel.base.trans s)
  | bad => rw [e1] at q; exact q
  | ok r =>
    rw [e1] at q
    intro v H1 s1 x1
    have q : GS X ca W H0 F D ((stR r).so fun d => match Tg.put (.tp is) d α with | some α' => .nx α' | none => .bad) := q
    cases e2 : stR r with
    | err c => exact absurd e2 (stR_ne r c)
    | bad => rw [e2] at q; exact q.elim
    | ok d =>
      rw [e2] at q
      obtain ⟨h1, h2⟩ := stR_ok e2
      subst h2
      have dn := x1.store h1 fun l hl => rel.new hl
      have q : GS X ca W H0 F D (match Tg.put (.tp is) r.d α with | some α' => .nx α' | none => .bad) := q
      cases e3 : r.d with
      | tuple ds =>
        rw [e3] at q dn
        have q : GS X ca W H0 F D (match putAll is ds α with | some α' => .nx α' | none => .bad) := q
        cases dn with
        | tup hq t =>
          cases e4 : putAll is ds α with
          | none => rw [e4] at q; exact q.elim
          | some α' =>
            rw [e4] at q
            exact ⟨_, _, rfl, hq, by rw [t.length]; exact (putAll_len e4).symm, gAll_read (rel.same s1) t e4 fun σ' r' _ => q σ' H1 r'⟩
      | _ => rw [e3] at q; exact q.elim
/-- a, b = x, y -/
def sPar (i j : Nat) (a : MA) : MS := fun α => ((a α).bind stAll).so fun ds => match ds with
  | [d, d'] => .nx ((α.set i (.val d)).set j (.val d'))
  | _ => .bad
theorem ss_par {i j : Nat} {x y : Str} {mm : MA} {px py pt : Pos} {kt k2 pt2} (hc : X.calm = true) (hN : X.N.Nodup) (hi : X.N[i]? = some x) (hj : X.N[j]? = some y) (hij : i ≠ j)
    (hx : X.env.scope.names.lookup x = some .local) (hy : X.env.scope.names.lookup y = some .local) (ha : SA X ca W [a, b] mm)
    (hw : swappedStores [.Tuple [.Name x px, .Name y py] kt pt] (.Tuple [a, b] k2 pt2) X.env = pure (some [x, y]))
    (hs : swapsWithSole [.Tuple [.Name x px, .Name y py] kt pt] (.Tuple [a, b] k2 pt2) pos.line X.env = pure false := by rfl) :
    SS X ca W (.Assign [.Tuple [.Name x px, .Name y py] kt pt] (.Tuple [a, b] k2 pt2) pos) (sPar i j mm) := PS.imp (ps_par hc hN hi hj hij hx hy ha hw hs) fun D σ H q => by
  obtain ⟨H0, F, α, rel, q⟩ := q.go
  refine tSA.so rel q fun ds vs H1 s1 x1 rel1 q1 => ?_
  match ds, x1, q1 with
  | [d, d'], .cons x (.cons y .nil), q1 =>
    refine ⟨_, _, rfl, q1 _ _ ?_⟩
    have r1 := rel1.putVal (i := i) x
    exact r1.putVal (i := j) (y.less (Nn.set_less (i := i) (s := Sv.val d) (fun _ z => by cases z)))
  | [], _, q1 => exact q1.elim
  | [_], _, q1 => exact q1.elim
  | _ :: _ :: _ :: _, _, q1 => exact q1.elim
/-! ### a list of one's own is changed -/
theorem Rel.upd {K : PySem.W.Frag} {xa : Xi} {H0 H : Hp} {F : Addr → Prop} {α : En} {σ : L2.St} (r : Rel K xa H0 F α σ H) {i : Nat} {ds ds' : List PyData} {l : Addr} {vs vs' : List V} (e : α[i]? = some (.own ds)) (es : σ[i]? = some (some (.ref l))) (hl : H l = some (.lst vs))
    (x : DNs K (Nn F α σ) H vs' ds') : Rel K xa H0 F (α.set i (.own ds')) σ (L2.upd H l (.lst vs')) := by
  have hi : i < α.length := (List.getElem?_eq_some_iff.mp e).1
  have nn : ∀ a, Nn F (α.set i (.own ds')) σ a → Nn F α σ a := fun a h => by
    rcases h with h | ⟨j, fs, e1, e2⟩
    · exact .inl h
    · rcases get_set e1 with ⟨z, w⟩ | ⟨ne, e1⟩
      · subst z; exact .inr ⟨j, ds, e, e2⟩
      · exact .inr ⟨j, fs, e1, e2⟩
  have isN : Nn F α σ l := .inr ⟨i, ds, e, es⟩
  have st : Stay (Nn F α σ) (Nn F (α.set i (.own ds')) σ) H (L2.upd H l (.lst vs')) := by
    refine ⟨fun a xs n h => ⟨fun z => n (nn a z), ?_⟩, fun a o xs n h => ⟨fun z => n (nn a z), ?_⟩, fun a xs h => ?_, fun a o xs h => ?_⟩
    · rw [upd_ne fun z => n (by rw [z]; exact isN)]; exact h
    · rw [upd_ne fun z => n (by rw [z]; exact isN)]; exact h
    · rw [upd_ne (ne_of h hl (fun z => by cases z))]; exact h
    · rw [upd_ne (ne_of h hl (fun z => by cases z))]; exact h
  refine ⟨by simp [r.len], fun b o q => ?_, r.ftr, fun j sv ej => ?_, fun j fs p e1 e2 => ?_, fun j k fs gs p e1 e2 e3 e4 => ?_⟩
  · have : b ≠ l := fun z => by rw [z, r.own i ds l e es] at q; cases q
    rw [upd_ne this]; exact r.base _ _ q
  · rcases get_set ej with ⟨z, w⟩ | ⟨ne, ej⟩
    · subst z; subst w
      exact ⟨l, vs', es, upd_same, x.stay st⟩
    · refine (r.slot j sv ej).stay st fun fs p e1 e2 ws hp => ?_
      have : p ≠ l := fun z => by
        subst z; subst e1
        exact ne (r.dis j i fs ds p ej e e2 es)
      rw [upd_ne this]; exact hp
  · rcases get_set e1 with ⟨z, w⟩ | ⟨ne, e1⟩
    · subst z; exact r.own j ds p e e2
    · exact r.own j fs p e1 e2
  · rcases get_set e1 with ⟨z, w⟩ | ⟨ne, f1⟩
    · rcases get_set e2 with ⟨z2, w2⟩ | ⟨ne2, f2⟩
      · rw [z, z2]
      · rw [z] at e3 ⊢; exact r.dis i k ds gs p e f2 e3 e4
    · rcases get_set e2 with ⟨z2, w2⟩ | ⟨ne2, f2⟩
      · rw [z2] at e4 ⊢; exact r.dis j i fs ds p f1 e e3 e4
      · exact r.dis j k fs gs p f1 f2 e3 e4
def ownAt (i : Nat) (α : En) (f : List PyData → SO) : SO := match α[i]? with
  | some (.own ds) => f ds
  | _ => .bad
def sSet (i : Nat) (ix v : M) : MS := fun α => ((v α).bind stR).so fun d => ownAt i α fun ds => (ix α).so fun k => match k.d with
  | .int k => match ixN ds.length k with
    | some j => .nx (α.set i (.own (ds.set j d)))
    | none => .bad
  | _ => .bad
theorem ownAt_go {D : Ends} {H0 : Hp} {F : Addr → Prop} {α : En} {i : Nat} {f : List PyData → SO} (q : GS X ca W H0 F D (ownAt i α f)) : ∃ ds, α[i]? = some (.own ds) ∧ GS X ca W H0 F D (f ds) := by
  unfold ownAt at q
  split at q
  · rename_i ds e; exact ⟨ds, e, q⟩
  · exact q.elim
theorem ss_set {i : Nat} {x : Str} {p p2 : Pos} (hN : X.N[i]? = some x) (hv : Vis X.env.scope x) (hix : SE X ca W b mb) (he : SE X ca W e ma) (hd : (x == ("__debug__" : Str)) = false := by decide) (hcd : (x == ("__classdict__" : Str)) = false := by decide)
    (ha : ∀ v, assign (.Subscript (.Name x p) b p2) X.env v = (do
      let ov ← holding [v] (eval (.Name x p) X.env)
      let iv ← holding [v, ov] (eval b X.env)
      standAt p2
      holding [v, ov, iv] (setItem ov iv v)
      release [v, ov, iv] []) := by intro _; rfl)
    (hs : swapsWithSole [.Subscript (.Name x p) b p2] e pos.line X.env = pure false := by rfl) (hw : swappedStores [.Subscript (.Name x p) b p2] e X.env = pure none := by rfl)
    (h1 : (assignEach [.Subscript (.Name x p) b p2] X.env).map (·.2) = [assign (.Subscript (.Name x p) b p2) X.env] := by rfl) :
    SS X ca W (.Assign [.Subscript (.Name x p) b p2] e pos) (sSet i mb ma) := PS.imp (ps_asg he (pg_sub (pe_var hN hv hd hcd) hix set_list ha) hs hw h1) fun D σ H q => by
  obtain ⟨H0, F, α, rel, q⟩ := q.go
  refine tS.mk rel ?_
  unfold sSet at q
  cases e1 : ma α with
  | err c => rw [e1] at q; exact fun H' s => q σ H' (rel.base.trans s)
  | bad => rw [e1] at q; exact q
  | ok r =>
    rw [e1] at q
    intro v H1 s1 x1
    have rel1 := rel.same s1
    cases e2 : stR r with
    | err c => exact absurd e2 (stR_ne r c)
    | bad => rw [Out.bind_ok, e2] at q; exact q.elim
    | ok d =>
      rw [Out.bind_ok, e2] at q
      obtain ⟨h1, h2⟩ := stR_ok e2
      subst h2
      have dn := x1.store h1 fun l hl => rel.new hl
      obtain ⟨ds, eo, q⟩ := ownAt_go (show GS X ca W H0 F D (ownAt i α _) from q)
      obtain ⟨l, vs, es, hl, t⟩ := rel1.slot i _ eo
      refine ⟨.ref l, es, ?_⟩
      refine tS.so (β := Unit) rel1 q fun k w H2 s2 x2 rel2 q2 => ?_
      obtain ⟨kk, kd⟩ := k
      cases kd with
      | int z =>
        have q2 : GS X ca W H0 F D (match ixN ds.length z with | some j => .nx (α.set i (.own (ds.set j r.d))) | none => .bad) := q2
        cases e3 : ixN ds.length z with
        | none => rw [e3] at q2; exact q2.elim
        | some j =>
          rw [e3] at q2
          have hl2 := s2 _ _ hl
          refine ⟨l, vs, z, j, rfl, x2.int rfl, hl2, by rw [t.length]; exact e3, q2 _ _ ?_⟩
          exact rel2.upd eo es hl2 ((t.same s2).set j (dn.same s2))
      | _ => exact q2.elim
end
end FS

namespace FS
open PySem PySem.Spec PyProof.Rows L2
section
variable {X : Cx} {ca : Cc} {W : WX} {st : Stmt} {rest : List Stmt} {m m' : MS} {a b c e : Expr} {ma mb mc : M} {pos : Pos} {ta tb : MB}

/-! ### append, extend, pop -/
def sApp (i : Nat) (v : M) : MS := fun α => ownAt i α fun ds => ((v α).bind stR).so fun d => if ds.length < sizeLine then .nx (α.set i (.own (ds ++ [d]))) else .bad
def sExt (i : Nat) (v : M) : MS := fun α => ownAt i α fun ds => (v α).so fun r => match r.d, r.k with
  | .list es, .f => if ds.length + es.length ≤ sizeLine then .nx (α.set i (.own (ds ++ es))) else .bad
  | _, _ => .bad
def sPop (i : Nat) : MS := fun α => ownAt i α fun ds => if ds.isEmpty then .bad else .nx (α.set i (.own ds.dropLast))
theorem tS.soS {f : PyData → SO} {Q : VK} {D : Ends} {σ : L2.St} {H H0 : Hp} {F : Addr → Prop} {α : En} (rel : Rel X.K ca.xi H0 F α σ H) (h : GS X ca W H0 F D (((ma α).bind stR).so f))
    (k : ∀ d v H', Same H H' → DN X.K (Nn F α σ) H' v d → Rel X.K ca.xi H0 F α σ H' → GS X ca W H0 F D (f d) → Q v H') : tS X ca W ma σ H Q := by
  refine tS.mk rel ?_
  cases e1 : ma α with
  | err c => rw [e1] at h; exact fun H' s => h σ H' (rel.base.trans s)
  | bad => rw [e1] at h; exact h
  | ok r =>
    rw [e1] at h
    intro v H1 s1 x1
    have h : GS X ca W H0 F D ((stR r).so f) := h
    cases e2 : stR r with
    | err c => exact absurd e2 (stR_ne r c)
    | bad => rw [e2] at h; exact h.elim
    | ok d =>
      rw [e2] at h
      obtain ⟨h1, h2⟩ := stR_ok e2
      subst h2
      exact k _ v H1 s1 (x1.store h1 fun l hl => rel.new hl) (rel.same s1) h
theorem ss_app {i : Nat} {x : Str} {p apos cpos : Pos} (hN : X.N[i]? = some x) (hv : Vis X.env.scope x) (he : SE X ca W e ma) (hd : (x == ("__debug__" : Str)) = false := by decide) (hcd : (x == ("__classdict__" : Str)) = false := by decide)
    (hbase : attributeBase (.Name x p) "append" X.env (eval (.Name x p) X.env) = eval (.Name x p) X.env := by rfl)
    (hfew : ((backTo cpos (starEach [e] X.env)).all (fun x => !x.1) && (backToKw cpos (keywordEach [] X.env)).all (fun x => x.1.isSome)
      && decide ([e].length + ([] : List Keyword).length + (if ([] : List Keyword).isEmpty then 0 else 1) < 30)) = true := by rfl)
    (hline : (apos.endLine == cpos.line) = true := by rfl) (hs : starEach [e] X.env = (false, eval e X.env) :: starEach [] X.env := by rfl) (hplain : (backTo cpos (starEach [] X.env)).any (·.1) = false := by rfl)
    (hsw : swapsWith (.Call (.Attribute (.Name x p) "append" apos) [e] [] cpos) none pos.line X.env = pure false := by rfl) :
    SS X ca W (.Expr (.Call (.Attribute (.Name x p) "append" apos) [e] [] cpos) pos) (sApp i ma) :=
  PS.imp (ps_expr (pe_bm PySem.F.plainAttrs_list PySem.F.slot_list_append PySem.F.type_list_append mt_append (pe_var hN hv hd hcd) (pa_cons he pa_nil hs) hbase hfew hline hs hplain) hsw) fun D σ H q => by
  obtain ⟨H0, F, α, rel, q⟩ := q.go
  obtain ⟨ds, eo, q⟩ := ownAt_go q
  obtain ⟨l, vs, es, hl, t⟩ := rel.slot i _ eo
  refine ⟨.ref l, es, .inl ⟨rfl, vs, .of hl⟩, ?_⟩
  refine tS.soS rel q fun d v H1 s1 x1 rel1 q1 => ?_
  split at q1
  · rename_i hz
    have hl1 := s1 _ _ hl
    exact ⟨l, vs, v, rfl, rfl, hl1, by rw [t.length]; exact hz, q1 _ _ (rel1.upd eo es hl1 ((t.same s1).app (.cons x1 .nil)))⟩
  · exact q1.elim
theorem ss_ext {i : Nat} {x : Str} {p apos cpos : Pos} (hN : X.N[i]? = some x) (hv : Vis X.env.scope x) (he : SE X ca W e ma) (hd : (x == ("__debug__" : Str)) = false := by decide) (hcd : (x == ("__classdict__" : Str)) = false := by decide)
    (hbase : attributeBase (.Name x p) "extend" X.env (eval (.Name x p) X.env) = eval (.Name x p) X.env := by rfl)
    (hfew : ((backTo cpos (starEach [e] X.env)).all (fun x => !x.1) && (backToKw cpos (keywordEach [] X.env)).all (fun x => x.1.isSome)
      && decide ([e].length + ([] : List Keyword).length + (if ([] : List Keyword).isEmpty then 0 else 1) < 30)) = true := by rfl)
    (hline : (apos.endLine == cpos.line) = true := by rfl) (hs : starEach [e] X.env = (false, eval e X.env) :: starEach [] X.env := by rfl) (hplain : (backTo cpos (starEach [] X.env)).any (·.1) = false := by rfl)
    (hsw : swapsWith (.Call (.Attribute (.Name x p) "extend" apos) [e] [] cpos) none pos.line X.env = pure false := by rfl) :
    SS X ca W (.Expr (.Call (.Attribute (.Name x p) "extend" apos) [e] [] cpos) pos) (sExt i ma) :=
  PS.imp (ps_expr (pe_bm PySem.F.plainAttrs_list PySem.F.slot_list_extend PySem.F.type_list_extend mt_extend (pe_var hN hv hd hcd) (pa_cons he pa_nil hs) hbase hfew hline hs hplain) hsw) fun D σ H q => by
  obtain ⟨H0, F, α, rel, q⟩ := q.go
  obtain ⟨ds, eo, q⟩ := ownAt_go q
  obtain ⟨l, vs, es, hl, t⟩ := rel.slot i _ eo
  refine ⟨.ref l, es, .inl ⟨rfl, vs, .of hl⟩, ?_⟩
  refine tS.so (β := Unit) rel q fun r v H1 s1 x1 rel1 q1 => ?_
  obtain ⟨k, d⟩ := r
  cases d with
  | list zs =>
    cases k with
    | f =>
      have q1 : GS X ca W H0 F D (if ds.length + zs.length ≤ sizeLine then .nx (α.set i (.own (ds ++ zs))) else .bad) := q1
      split at q1
      · rename_i hz
        have hl1 := s1 _ _ hl
        obtain ⟨l2, ws, us, rfl, e2, hn, hl2, t2⟩ := x1
        cases e2
        exact ⟨l, l2, vs, ws, rfl, rfl, hl1, hl2, by rw [t.length, t2.length]; exact hz, q1 _ _ (rel1.upd eo es hl1 ((t.same s1).app (t2.less fun a z => .inl z)))⟩
      · exact q1.elim
    | v => exact q1.elim
    | b => exact q1.elim
  | _ => exact q1.elim
theorem ss_pop {i : Nat} {x : Str} {p apos cpos : Pos} (hN : X.N[i]? = some x) (hv : Vis X.env.scope x) (hd : (x == ("__debug__" : Str)) = false := by decide) (hcd : (x == ("__classdict__" : Str)) = false := by decide)
    (hbase : attributeBase (.Name x p) "pop" X.env (eval (.Name x p) X.env) = eval (.Name x p) X.env := by rfl) (hline : (apos.endLine == cpos.line) = true := by rfl)
    (hsw : swapsWith (.Call (.Attribute (.Name x p) "pop" apos) [] [] cpos) none pos.line X.env = pure false := by rfl) :
    SS X ca W (.Expr (.Call (.Attribute (.Name x p) "pop" apos) [] [] cpos) pos) (sPop i) :=
  PS.imp (ps_expr (pe_bm0 PySem.F.plainAttrs_list PySem.F.slot_list_pop PySem.F.type_list_pop mt_pop (pe_var hN hv hd hcd) hbase hline) hsw) fun D σ H q => by
  obtain ⟨H0, F, α, rel, q⟩ := q.go
  obtain ⟨ds, eo, q⟩ := ownAt_go q
  obtain ⟨l, vs, es, hl, t⟩ := rel.slot i _ eo
  split at q
  · exact q.elim
  · rename_i hne
    have h0 : 0 < vs.length := by
      rw [t.length]
      cases ds with
      | nil => exact absurd rfl hne
      | cons _ _ => exact Nat.succ_pos _
    refine ⟨.ref l, es, .inl ⟨rfl, vs, .of hl⟩, l, vs, vs[vs.length - 1]'(by omega), rfl, rfl, hl, by rw [List.getElem?_eq_getElem (by omega)], q _ _ (rel.upd eo es hl t.dropLast)⟩

/-! ### x += e -/
def sAug (i : Nat) (f : Int → Int → Int) (v : M) : MS := fun α => match α[i]? with
  | some (.val (.int z)) => (v α).so fun r => match r.d with
    | .int w => .nx (α.set i (.val (.int (f z w))))
    | _ => .bad
  | _ => .bad
theorem ss_aug {i : Nat} {x : Str} {pos' : Pos} {op : Operator} {f : Int → Int → Int} (hN : X.N.Nodup) (hi : X.N[i]? = some x) (hx : Loc X.env.scope x) (he : SE X ca W e ma) (ho : PIp X op (ipI f)) (hf : X.fn x = true ∨ X.env.scope.names.lookup x = some .local := by first | exact .inl rfl | exact .inr rfl | assumption) :
    SS X ca W (.AugAssign (.Name x pos') op e pos) (sAug i f ma) := PS.imp (ps_aug hN hi hx he ho hf) fun D σ H q => by
  obtain ⟨H0, F, α, rel, q⟩ := q.go
  unfold sAug at q
  split at q
  · rename_i z ez
    obtain ⟨v, es, x⟩ := rel.slot i _ ez
    cases x
    refine ⟨_, es, ?_⟩
    refine tS.so (β := Unit) rel q fun r v H1 s1 x1 rel1 q1 => ?_
    obtain ⟨k, d⟩ := r
    cases d with
    | int w => exact ⟨z, w, rfl, x1.int rfl, q1 _ _ (rel1.putVal (.int _))⟩
    | _ => exact q1.elim
  · exact q.elim

/-! ### if, return -/
def sIf (t : MB) (p q : MS) : MS := fun α => (t α).so fun k => if k = true then p α else q α
theorem ss_if {p q : List Stmt} {mp mq : MS} (ht : ST X ca W c ta) (hp : SSs X ca W p mp) (hq : SSs X ca W q mq) : SS X ca W (.If c p q pos) (sIf ta mp mq) := PS.imp (ps_if ht hp hq) fun D σ H q => by
  obtain ⟨H0, F, α, rel, q⟩ := q.go
  refine tSB.so rel q fun k H1 s1 rel1 q1 => ?_
  cases k with
  | true => exact tSS.mk rel1 q1
  | false => exact tSS.mk rel1 q1
def sRet (a : M) : MS := fun α => (a α).so fun r => match r.k with
  | .b => .bad
  | _ => .rt r
theorem ss_ret (he : SE X ca W e ma) : SS X ca W (.Return (some e) pos) (sRet ma) := PS.imp (ps_ret he) fun D σ H q => by
  obtain ⟨H0, F, α, rel, q⟩ := q.go
  refine tS.so (β := Unit) rel q fun r v H1 s1 x1 rel1 q1 => ?_
  obtain ⟨k, d⟩ := r
  have s0 : Same H0 H1 := rel.base.trans s1
  cases k with
  | v => exact q1 v H1 s0 (DN.less (fun a z => .inl z) x1)
  | f =>
    obtain ⟨l, vs, ds, e1, e2, e3, e4, e5⟩ := x1
    exact q1 v H1 s0 ⟨l, vs, ds, e1, e2, rel.base.free e3, e4, e5.less fun a z => z.imp (fun y => .inl y) id⟩
  | b => exact q1.elim
/-- return x, a list of one's own -/
def sRetO (i : Nat) : MS := fun α => match α[i]? with
  | some (.own ds) => .rt ⟨.f, .list ds⟩
  | some (.val d) => .rt ⟨.v, d⟩
  | _ => .bad
theorem ss_retO (i : Nat) {x : Str} {p : Pos} (hN : X.N[i]? = some x := by rfl) (hv : Vis X.env.scope x := by first | exact Or.inl rfl | exact Or.inr (Or.inl rfl) | exact Or.inr (Or.inr rfl)) (hd : (x == ("__debug__" : Str)) = false := by decide) (hcd : (x == ("__classdict__" : Str)) = false := by decide) :
    SS X ca W (.Return (some (.Name x p)) pos) (sRetO i) := PS.imp (ps_ret (pe_var hN hv hd hcd)) fun D σ H q => by
  obtain ⟨H0, F, α, rel, q⟩ := q.go
  unfold sRetO at q
  split at q
  · rename_i ds eo
    obtain ⟨l, vs, es, hl, t⟩ := rel.slot i _ eo
    refine ⟨.ref l, es, q _ H rel.base ⟨l, vs, ds, rfl, rfl, rel.own i ds l eo es, hl, t.less fun a z => ?_⟩⟩
    rcases z with z | z
    · exact .inl z
    · subst z; exact .inr ⟨i, ds, eo, es⟩
  · rename_i d eo
    obtain ⟨v, es, x⟩ := rel.slot i _ eo
    exact ⟨v, es, q v H rel.base (DN.less (fun a z => .inl z) x)⟩
  · exact q.elim

/-! ### while -/
def whileM : Nat → MB → MS → MS
  | 0, _, _ => fun _ => .bad
  | n + 1, c, b => fun α => (c α).so fun k => if k = true then (b α).bind (whileM n c b) else .nx α
theorem ss_while (n : Nat) {body : List Stmt} {mb : MS} (hp : PassesOwn (model X.prog X.w) X.A X.env X.xe) (hc : ST X ca W c ta) (hb : SSs X ca W body mb) : SS X ca W (.While c body [] pos) (whileM n ta mb) := PS.imp (ps_while hp hc hb) fun D σ H q => by
  obtain ⟨H0, F, α, rel, q⟩ := q.go
  refine ⟨fun m σ H => ∃ α, Rel X.K ca.xi H0 F α σ H ∧ GS X ca W H0 F D (whileM m ta mb α), ⟨n, α, rel, q⟩, ?_⟩
  rintro m σ H ⟨α, rel, q⟩
  cases m with
  | zero => exact q.elim
  | succ m =>
    have q : GS X ca W H0 F D ((ta α).so fun k => if k = true then (mb α).bind (whileM m ta mb) else .nx α) := q
    refine tSB.so rel q fun k H1 s1 rel1 q1 => ?_
    cases k with
    | false => exact q1 σ H1 rel1
    | true =>
      refine ⟨fun σ' H' => ∃ α, Rel X.K ca.xi H0 F α σ' H' ∧ GS X ca W H0 F D (whileM m ta mb α), fun σ' H' h => ⟨m, Nat.lt_succ_self m, h⟩, tSS.mk rel1 ?_⟩
      have q1 : GS X ca W H0 F D ((mb α).bind (whileM m ta mb)) := q1
      cases e : mb α with
      | nx α' => rw [e] at q1; exact fun σ' H' r' => ⟨α', r', q1⟩
      | rt r => rw [e] at q1; exact q1
      | er c => rw [e] at q1; exact q1
      | bad => rw [e] at q1; exact q1

/-! ### for -/
def forM (T : Tg) (b : MS) : List PyData → MS
  | [] => fun α => .nx α
  | d :: r => fun α => match T.put d α with
    | some α' => (b α').bind (forM T b r)
    | none => .bad
def sFor (it : MI) (T : Tg) (b : MS) : MS := fun α => (it α).so fun items => forM T b items α
theorem tg_read {K : PySem.W.Frag} {xa : Xi} {H0 H : Hp} {F : Addr → Prop} {Q : L2.St → Hp → Prop} {T : Tg} {d : PyData} {v : V} {α α' : En} {σ : L2.St} (r : Rel K xa H0 F α σ H) (x : DN K (Nn F α σ) H v d) (h : T.put d α = some α')
    (q : ∀ σ', Rel K xa H0 F α' σ' H → (∀ ws, (∀ i ∈ T.slots, i ∈ ws) → wipe σ' ws = wipe σ ws) → Q σ' H) : T.rd K v σ H Q := by
  cases T with
  | nm i => cases h; exact q _ (r.putVal x) fun ws hw => wipe_set (hw i List.mem_cons_self)
  | tp is =>
    cases d with
    | tuple ds =>
      cases x with
      | tup hq t => exact ⟨_, _, rfl, hq, by rw [t.length]; exact (putAll_len h).symm, gAll_read r t h q⟩
    | _ => cases h
theorem tSI.so {mi : MI} {f : List PyData → SO} {R : It → Hp → Prop} {D : Ends} {σ : L2.St} {H H0 : Hp} {F : Addr → Prop} {α : En} (rel : Rel X.K ca.xi H0 F α σ H) (h : GS X ca W H0 F D ((mi α).so f))
    (k : ∀ items J H', Same H H' → GoodIt X.K (Nn F α σ) H' J items → Rel X.K ca.xi H0 F α σ H' → GS X ca W H0 F D (f items) → R J H') : tSI X ca W mi σ H R := by
  refine ⟨H0, F, α, rel, ?_⟩
  cases e : mi α with
  | ok r => rw [e] at h; exact fun J H' s x => k r J H' s x (rel.same s) h
  | err c => rw [e] at h; exact fun H' s => h σ H' (rel.base.trans s)
  | bad => rw [e] at h; exact h
theorem drop_cons {β : Type} {l : List β} {i : Nat} {d : β} (h : l[i]? = some d) : l.drop i = d :: l.drop (i + 1) := by
  obtain ⟨hi, e⟩ := List.getElem?_eq_some_iff.mp h
  rw [List.drop_eq_getElem_cons hi, e]
theorem ss_for {tg iter : Expr} {body : List Stmt} {mi : MI} {T : Tg} {mb : MS} (hp : PassesOwn (model X.prog X.w) X.A X.env X.xe) (hc : X.calm = true) (hi : SI X ca W tg iter mi) (hg : PG X tg (T.rd X.K)) (hb : SSs X ca W body mb)
    (hs : ∀ x, foldedSetIterable iter X.env x = pure x := by intro _; rfl) : SS X ca W (.For tg iter body [] pos) (sFor mi T mb) := PS.imp (ps_for hp hc hi hg hb hs) fun D σ H q => by
  obtain ⟨H0, F, α, rel, q⟩ := q.go
  refine tSI.so rel q fun items J H1 s1 good rel1 q1 => ?_
  obtain ⟨G, Y, w, stab, yl⟩ := good
  refine for_it w (fun i σ' H' => ∃ α', Rel X.K ca.xi (restr α σ H1) F α' σ' H' ∧ GS X ca W H0 F D (forM T mb (items.drop i) α')) ⟨α, rel1.rebase, q1⟩ ?_ ?_ ?_
  · rintro i σ' H' hi ⟨α', r', _⟩
    exact stab _ H' (rel1.keeps r')
  · rintro i x σ' H' H'' hi ⟨α', r', q'⟩ y
    obtain ⟨sy, d, ed, xd⟩ := yl _ i H' x H'' (rel1.keeps r') y hi
    rw [drop_cons ed] at q'
    have q' : GS X ca W H0 F D (match T.put d α' with | some α2 => (mb α2).bind (forM T mb (items.drop (i + 1))) | none => .bad) := q'
    cases e : T.put d α' with
    | none => rw [e] at q'; exact q'.elim
    | some α2 =>
      rw [e] at q'
      refine tg_read (r'.same sy) xd e fun σ2 r2 _ => tSS.mk r2 ?_
      have q' : GS X ca W H0 F D ((mb α2).bind (forM T mb (items.drop (i + 1)))) := q'
      cases e2 : mb α2 with
      | nx α3 => rw [e2] at q'; exact fun σ3 H3 r3 => ⟨α3, r3, q'⟩
      | rt r => rw [e2] at q'; exact fun v H3 s3 x3 => q' v H3 (rel1.same0.trans s3) (x3.earlier rel1.same0)
      | er c => rw [e2] at q'; exact fun σ3 H3 s3 => q' σ3 H3 (rel1.same0.trans s3)
      | bad => rw [e2] at q'; exact q'
  · rintro σ' H' ⟨α', r', q'⟩
    rw [List.drop_length] at q'
    exact q' σ' H' (rel1.unbase r')
end
end FS

namespace FS
open PySem PySem.Spec PyProof.Rows L2

/-! ### list comprehensions -/
def wipeA : En → List Nat → En
  | α, [] => α
  | α, v :: vs => (wipeA α vs).set v .un
theorem Rel.wipe {K : PySem.W.Frag} {xa : Xi} {H0 H : Hp} {F : Addr → Prop} {α : En} {σ : L2.St} (r : Rel K xa H0 F α σ H) : ∀ ws : List Nat, Rel K xa H0 F (wipeA α ws) (L2.wipe σ ws) H
  | [] => r
  | w :: ws => (Rel.wipe r ws).put (fun _ z => by cases z) fun _ => trivial
def ownFree (α : En) (ws : List Nat) : Bool := ws.all fun w => match α[w]? with
  | some (.own _) => false
  | _ => true
theorem ownFree_at {α : En} {ws : List Nat} (h : ownFree α ws = true) {i : Nat} {ds : List PyData} (e : α[i]? = some (.own ds)) : i ∉ ws := fun hi => by
  have := List.all_eq_true.mp h i hi
  rw [e] at this
  cases this
theorem wipeA_length (α : En) : ∀ vs : List Nat, (wipeA α vs).length = α.length
  | [] => rfl
  | v :: vs => by show ((wipeA α vs).set v .un).length = _; rw [List.length_set, wipeA_length α vs]
theorem wipeA_at : ∀ (ws : List Nat) (α : En) (j : Nat), j ∉ ws → (wipeA α ws)[j]? = α[j]?
  | [], α, j, _ => rfl
  | w :: ws, α, j, h => by
    show ((wipeA α ws).set w .un)[j]? = _
    rw [List.getElem?_set_ne (fun z => h (by rw [z]; exact List.mem_cons_self)), wipeA_at ws α j fun z => h (List.mem_cons_of_mem _ z)]
theorem putAll_at : ∀ {is : List Nat} {ds : List PyData} {α α' : En} {j : Nat}, putAll is ds α = some α' → j ∉ is → α'[j]? = α[j]?
  | [], [], _, _, _, h, _ => by cases h; rfl
  | [], _ :: _, _, _, _, h, _ => by cases h
  | _ :: _, [], _, _, _, h, _ => by cases h
  | i :: is, d :: ds, α, α', j, h, hj => by
    have h : putAll is ds (α.set i (.val d)) = some α' := h
    rw [putAll_at h fun z => hj (List.mem_cons_of_mem _ z), List.getElem?_set_ne (fun z => hj (by rw [z]; exact List.mem_cons_self))]
theorem put_at {T : Tg} {d : PyData} {α α' : En} {j : Nat} (h : T.put d α = some α') (hj : j ∉ T.slots) : α'[j]? = α[j]? := by
  cases T with
  | nm i => cases h; rw [List.getElem?_set_ne (fun z => hj (by rw [z]; exact List.mem_cons_self))]
  | tp is => cases d with
    | tuple ds => exact putAll_at h hj
    | _ => cases h
theorem wipe_wipe (σ : L2.St) (ws : List Nat) : L2.wipe (L2.wipe σ ws) ws = L2.wipe σ ws := by
  apply List.ext_getElem?
  intro j
  rw [wipe_at, wipe_at]
  by_cases h : j ∈ ws
  · rw [if_pos h, if_pos h]; cases σ[j]? <;> rfl
  · rw [if_neg h, if_neg h]
theorem wipe_out' {σ σ' : L2.St} {ws : List Nat} (h : L2.wipe σ' ws = L2.wipe σ ws) {j : Nat} (hj : j ∉ ws) : σ'[j]? = σ[j]? := by
  have e := congrArg (fun l : L2.St => l[j]?) h
  have e : (L2.wipe σ' ws)[j]? = (L2.wipe σ ws)[j]? := e
  rw [wipe_at, wipe_at, if_neg hj, if_neg hj] at e
  exact e
def noErr {β : Type} (o : Out β) : Out β := match o with
  | .err _ => .bad
  | o => o
def compM (T : Tg) (c : MB) (e : M) (α : En) : List PyData → Out (List PyData)
  | [] => .ok []
  | d :: r => match T.put d α with
    | some α' => (noErr (c α')).bind fun k => if k = true then (noErr (e α')).bind fun x => (stR x).bind fun y => (compM T c e α r).bind fun ys => .ok (y :: ys) else compM T c e α r
    | none => .bad
def mLC (it : MI) (T : Tg) (c : MB) (e : M) (ws : List Nat) : M := fun α => (it α).bind fun items => if items.length ≤ sizeLine ∧ ownFree α ws = true then (compM T c e (wipeA α ws) items).bind fun ds => .ok ⟨.f, .list ds⟩ else .bad
/-- the tests of a clause -/
def SPTs (X : Cx) (ca : Cc) (W : WX) (ifs : List Expr) (m : MB) : Prop := PTs X ifs (tSB X ca W m)
def bYes : MB := fun _ => .ok true
abbrev W0 : WX := fun _ _ _ _ => False
section
variable {X : Cx} {ca : Cc} {W : WX} {a b c e : Expr} {ma mb mc me : M} {pos : Pos} {ta tb : MB}
theorem spt_nil : SPTs X ca W [] bYes := ⟨fun pins s σ H Q I w => (pts_nil (X := X)).run pins s σ H Q I (by
  obtain ⟨H0, F, α, rel, q⟩ := w
  exact q H (Same.refl _))⟩
theorem spt_one (h : ST X ca W c ta) : SPTs X ca W [c] ta := pts_one h
theorem compM_ok_len : ∀ {T : Tg} {c : MB} {e : M} {α : En} {items ds : List PyData}, compM T c e α items = .ok ds → ds.length ≤ items.length
  | T, c, e, α, [], ds, h => by cases h; exact Nat.le_refl _
  | T, c, e, α, d :: r, ds, h => by
    unfold compM at h
    split at h
    · rename_i α' _
      cases e1 : noErr (c α') with
      | ok k =>
        rw [e1] at h
        cases k with
        | true =>
          rw [Out.bind_ok, if_pos rfl] at h
          cases e2 : noErr (e α') with
          | ok x =>
            rw [e2, Out.bind_ok] at h
            cases e3 : stR x with
            | ok y =>
              rw [e3, Out.bind_ok] at h
              cases e4 : compM T c e α r with
              | ok ys => rw [e4] at h; cases h; have := compM_ok_len e4; simp; exact this
              | err _ => rw [e4] at h; cases h
              | bad => rw [e4] at h; cases h
            | err _ => rw [e3] at h; cases h
            | bad => rw [e3] at h; cases h
          | err _ => rw [e2] at h; cases h
          | bad => rw [e2] at h; cases h
        | false =>
          rw [Out.bind_ok, if_neg (by decide)] at h
          have := compM_ok_len h
          simp; omega
      | err _ => rw [e1] at h; cases h
      | bad => rw [e1] at h; cases h
    · cases h
theorem compM_ne : ∀ (T : Tg) (c : MB) (e : M) (α : En) (items : List PyData) (x : Ex), compM T c e α items ≠ .err x
  | T, c, e, α, [], x, h => by cases h
  | T, c, e, α, d :: r, x, h => by
    unfold compM at h
    split at h
    · rename_i α' _
      cases e1 : c α' with
      | err _ => rw [e1] at h; cases h
      | bad => rw [e1] at h; cases h
      | ok k =>
        rw [e1] at h
        have h : (if k = true then (noErr (e α')).bind fun x => (stR x).bind fun y => (compM T c e α r).bind fun ys => .ok (y :: ys) else compM T c e α r) = .err x := h
        cases k with
        | false => exact compM_ne T c e α r x h
        | true =>
          rw [if_pos rfl] at h
          cases e2 : e α' with
          | err _ => rw [e2] at h; cases h
          | bad => rw [e2] at h; cases h
          | ok y =>
            rw [e2] at h
            have h : ((stR y).bind fun y => (compM T c e α r).bind fun ys => .ok (y :: ys)) = .err x := h
            cases e3 : stR y with
            | err z => exact absurd e3 (stR_ne y z)
            | bad => rw [e3] at h; cases h
            | ok w =>
              rw [e3, Out.bind_ok] at h
              cases e4 : compM T c e α r with
              | ok ys => rw [e4] at h; cases h
              | err z => exact compM_ne T c e α r z e4
              | bad => rw [e4] at h; cases h
    · cases h
/-- one step of a comprehension that comes to its end -/
theorem compM_step {T : Tg} {c : MB} {e : M} {α : En} {d : PyData} {r ds : List PyData} (h : compM T c e α (d :: r) = .ok ds) :
    ∃ α', T.put d α = some α' ∧ ((∃ y rx, c α' = .ok true ∧ e α' = .ok rx ∧ stR rx = .ok y ∧ ∃ ys, ds = y :: ys ∧ compM T c e α r = .ok ys) ∨ (c α' = .ok false ∧ compM T c e α r = .ok ds)) := by
  unfold compM at h
  split at h
  · rename_i α' hp
    refine ⟨α', hp, ?_⟩
    cases e1 : c α' with
    | err _ => rw [e1] at h; cases h
    | bad => rw [e1] at h; cases h
    | ok k =>
      rw [e1] at h
      have h : (if k = true then (noErr (e α')).bind fun x => (stR x).bind fun y => (compM T c e α r).bind fun ys => .ok (y :: ys) else compM T c e α r) = .ok ds := h
      cases k with
      | false => exact .inr ⟨rfl, h⟩
      | true =>
        rw [if_pos rfl] at h
        cases e2 : e α' with
        | err _ => rw [e2] at h; cases h
        | bad => rw [e2] at h; cases h
        | ok y =>
          rw [e2] at h
          have h : ((stR y).bind fun y => (compM T c e α r).bind fun ys => .ok (y :: ys)) = .ok ds := h
          cases e3 : stR y with
          | err z => exact absurd e3 (stR_ne y z)
          | bad => rw [e3] at h; cases h
          | ok w =>
            rw [e3, Out.bind_ok] at h
            cases e4 : compM T c e α r with
            | ok ys => rw [e4] at h; cases h; exact .inl ⟨w, y, rfl, rfl, e3, ys, rfl, rfl⟩
            | err z => exact absurd e4 (compM_ne _ _ _ _ _ z)
            | bad => rw [e4] at h; cases h
  · cases h
theorem lc_read {it : MI} {T : Tg} {te : MB} {me : M} {ws : List Nat} (hT : ∀ i ∈ T.slots, i ∈ ws) {X' : Cx} (hK : X'.K = X.K) {σ : L2.St} {H : Hp} {Q : VK} (q : tS X ca W (mLC it T te me ws) σ H Q) :
    tLc (tSI X ca W it) (T.rd X.K) (tSB X' ca W0 te) (tS X' ca W0 me) ws σ H Q := by
  obtain ⟨H0, F, α, rel, q⟩ := q.go
  unfold mLC at q
  refine ⟨H0, F, α, rel, ?_⟩
  cases ei : it α with
  | err c => rw [ei] at q; exact q
  | bad => rw [ei] at q; exact q
  | ok items =>
    rw [ei] at q
    have q : GO ca W σ (PV X.K (Nn F α σ) Q) (if items.length ≤ sizeLine ∧ ownFree α ws = true then (compM T te me (wipeA α ws) items).bind fun ds => .ok ⟨.f, .list ds⟩ else .bad) H := q
    intro J H1 s1 good D hD
    split at q
    · rename_i hz0
      obtain ⟨hz, hof⟩ := hz0
      cases ec : compM T te me (wipeA α ws) items with
      | err c => exact absurd ec (compM_ne _ _ _ _ _ c)
      | bad => rw [ec] at q; exact q.elim
      | ok ds =>
        rw [ec] at q
        obtain ⟨G, Y, w, stab, yl⟩ := good
        have rel1 := rel.same s1
        have relw := rel1.wipe ws
        have lessw : ∀ a, Nn F (wipeA α ws) (L2.wipe σ ws) a → Nn F α σ a := by
          have key : ∀ ws : List Nat, ∀ a, Nn F (wipeA α ws) (L2.wipe σ ws) a → Nn F α σ a := by
            intro ws
            induction ws with
            | nil => exact fun a h => h
            | cons w ws ih => exact fun a h => ih a (Nn.set_less (i := w) (s := Sv.un) (o := none) (fun _ z => by cases z) a h)
          exact key ws
        -- where the list at D stands
        have stD : ∀ {H2 : Hp}, Same H1 H2 → Stay (Nn F α σ) (fun a => Nn F α σ a ∨ a = D) H1 H2 := fun {H2} s2 =>
          ⟨fun a xs n h => ⟨fun z => z.elim n fun e => (by rw [e, hD] at h; cases h), s2 _ _ h⟩, fun a o xs n h => ⟨fun z => z.elim n fun e => (by rw [e, hD] at h; cases h), s2 _ _ h⟩, fun _ _ h => s2 _ _ h, fun _ _ _ h => s2 _ _ h⟩
        refine lc_it w (fun i H2 => Same H1 H2 ∧ ∃ acc done todo, H2 D = some (.lst acc) ∧ DNs X.K (fun a => Nn F α σ a ∨ a = D) H2 acc done ∧ done.length ≤ i ∧ done ++ todo = ds ∧ compM T te me (wipeA α ws) (items.drop i) = .ok todo)
          ⟨Same.new hD, [], [], ds, upd_same, .nil, Nat.le_refl _, rfl, ec⟩ ?_ ?_ ?_
        · rintro i H2 hi ⟨s2, _⟩
          exact stab _ H2 (stD s2)
        · rintro i x H2 H3 hi ⟨s2, acc, done, todo, hacc, hdn, hle, hds, hc⟩ y
          obtain ⟨sy, d, ed, xd⟩ := yl _ i H2 x H3 (stD s2) y hi
          rw [drop_cons ed] at hc
          obtain ⟨α', hp, hc⟩ := compM_step hc
          -- the frame in the block: the list at D is not to be leant on
          let F' : Addr → Prop := fun a => F a ∨ a = D
          have s3 : Same H1 H3 := s2.trans sy
          have hacc3 := sy _ _ hacc
          have nn : ∀ a, Nn F' (wipeA α ws) (L2.wipe σ ws) a → Nn F α σ a ∨ a = D := fun a h => by
            rcases h with (h | h) | h
            · exact .inl (.inl h)
            · exact .inr h
            · exact .inl (lessw a (.inr h))
          have relB : Rel X.K ca.xi (restr (wipeA α ws) (L2.wipe σ ws) H3) F' (wipeA α ws) (L2.wipe σ ws) H3 := by
            have r3 := (relw.same s3).rebase
            refine ⟨r3.len, r3.base, fun a h => ?_, fun j sv e => ?_, r3.own, r3.dis⟩
            · rcases h with h | h
              · exact r3.ftr a h
              · subst h
                refine ⟨.lst acc, ?_⟩
                unfold restr
                rw [if_neg]
                · exact hacc3
                · rintro ⟨j, es, e1, e2⟩
                  obtain ⟨l, vs, q1, q2, _⟩ := relw.slot j _ e1
                  rw [e2] at q1; cases q1
                  rw [hD] at q2; cases q2
            · refine (relw.slot j sv e).stay ⟨fun a xs n h => ⟨fun z => ?_, s3 _ _ h⟩, fun a o xs n h => ⟨fun z => ?_, s3 _ _ h⟩, fun _ _ h => s3 _ _ h, fun _ _ _ h => s3 _ _ h⟩ fun _ l _ _ vs h => s3 _ _ h
              · rcases z with (z | z) | z
                · exact n (.inl z)
                · rw [z, hD] at h; cases h
                · exact n (.inr z)
              · rcases z with (z | z) | z
                · exact n (.inl z)
                · rw [z, hD] at h; cases h
                · exact n (.inr z)
          refine tg_read relB (xd.less nn) hp fun σ2 r2 hw => ⟨(hw ws hT).trans (wipe_wipe σ ws), ?_⟩
          have n2 : ∀ a, (Nn F α σ a ∨ a = D) → Nn F' α' σ2 a := fun a h => by
            rcases h with (h | ⟨j, es, e1, e2⟩) | h
            · exact .inl (.inl h)
            · have hj := ownFree_at hof e1
              refine .inr ⟨j, es, ?_, ?_⟩
              · rw [put_at hp fun z => hj (hT j z), wipeA_at ws α j hj]; exact e1
              · rw [wipe_out' ((hw ws hT).trans (wipe_wipe σ ws)) hj]; exact e2
            · exact .inl (.inr h)
          have r2' : Rel X'.K ca.xi (restr (wipeA α ws) (L2.wipe σ ws) H3) F' α' σ2 H3 := by rw [hK]; exact r2
          have isD : Nn F' α' σ2 D := .inl (.inr rfl)
          rcases hc with ⟨y', rx, c1, e1, st1, ys, hys, hc⟩ | ⟨c1, hc⟩
          · refine tSB.mk r2' ?_
            rw [c1]
            intro H4 s4
            show if true = true then _ else _
            rw [if_pos rfl]
            refine tS.mk (r2'.same s4) ?_
            rw [e1]
            intro v H5 s5 x5
            rw [hK] at x5
            obtain ⟨k1, k2⟩ := stR_ok st1
            subst k2
            have dn := x5.store k1 fun l hl => (r2'.same s4).new hl
            have hacc5 := s5 _ _ (s4 _ _ hacc3)
            have hln : acc.length = done.length := hdn.length
            refine ⟨acc, hacc5, by rw [hln]; omega, ?_, acc ++ [v], done ++ [rx.d], ys, upd_same, ?_, ?_, ?_, hc⟩
            · intro b o h
              rw [upd_ne (ne_of_none h hD)]
              exact s5 _ _ (s4 _ _ (s3 _ _ h))
            · -- the old items and the new one
              have stU : ∀ {N1 N2 : Addr → Prop} {Ha : Hp}, Same Ha H5 → (∀ a, N2 a → N1 a) → N1 D → Ha D = some (.lst acc) → Stay N1 N2 Ha (L2.upd H5 D (.lst (acc ++ [v]))) := fun {N1 N2 Ha} sa le nD hDa =>
                ⟨fun a xs n h => ⟨fun z => n (le a z), by rw [upd_ne fun z => n (by rw [z]; exact nD)]; exact sa _ _ h⟩, fun a o xs n h => ⟨fun z => n (le a z), by rw [upd_ne fun z => n (by rw [z]; exact nD)]; exact sa _ _ h⟩,
                  fun a xs h => by rw [upd_ne (ne_of h hDa (fun z => by cases z))]; exact sa _ _ h, fun a o xs h => by rw [upd_ne (ne_of h hDa (fun z => by cases z))]; exact sa _ _ h⟩
              refine DNs.app (hdn.stay (stU ((sy.trans s4).trans s5) (fun a z => z) (.inr rfl) hacc)) (.cons ?_ .nil)
              -- the new one does not lean on the callers' lists nor on D
              exact dn.stay (stU (Same.refl _) (fun a z => n2 a z) isD hacc5)
            · simp; omega
            · rw [List.append_assoc]; rw [← hds, hys]; rfl
          · refine tSB.mk r2' ?_
            rw [c1]
            intro H4 s4
            show if false = true then _ else _
            rw [if_neg (by decide)]
            exact ⟨s3.trans s4, acc, done, todo, s4 _ _ hacc3, hdn.same (sy.trans s4), by omega, hds, hc⟩
        · rintro H2 ⟨s2, acc, done, todo, hacc, hdn, hle, hds, hc⟩
          rw [List.drop_length] at hc
          cases hc
          rw [List.append_nil] at hds
          subst hds
          exact q (.ref D) H2 (s1.trans s2) ⟨D, acc, done, rfl, rfl, s1.free hD, hacc, hdn⟩
    · exact q.elim
end
end FS

namespace FS
open PySem PySem.Spec PyProof.Rows L2
section
variable {X : Cx} {ca : Cc} {W : WX} {a b c e : Expr} {es : List Expr} {ma mb mc me : M} {pos : Pos} {ta tb : MB}
/-! ### [elt for target in iter if test] -/
theorem se_lc {elt tg iter : Expr} {ifs : List Expr} {scope : Scope} {own : List (Str × Nat)} {it : MI} {T : Tg} {te : MB} {me : M} (hc : X.calm = true) (hN : X.N.Nodup) (hi : SI X ca W tg iter it) (ok : BlkOk X.N X.env.scope scope own)
    (hg : ∀ (s : Shared) (H : Hp) (C : Addr) (cl : List (Str × Addr)) (fp : List Addr), PG (X.blk s H scope (compEnvC scope cl C X.env) fp) tg (T.rd X.K)) (ht : ∀ (s : Shared) (H : Hp) (C : Addr) (cl : List (Str × Addr)) (fp : List Addr), SPTs (X.blk s H scope (compEnvC scope cl C X.env) fp) ca W0 ifs te)
    (he : ∀ (s : Shared) (H : Hp) (C : Addr) (cl : List (Str × Addr)) (fp : List Addr), SE (X.blk s H scope (compEnvC scope cl C X.env) fp) ca W0 elt me) (hT : ∀ i ∈ T.slots, i ∈ own.map (·.2)) (hs : ∀ x, foldedSetIterable iter X.env x = pure x := by intro _; rfl) :
    SE X ca W (.ListComp elt [⟨tg, iter, ifs, 0⟩] scope pos) (mLC it T te me (own.map (·.2))) :=
  PE.imp (pe_lc (g := T.rd X.K) (tt := tSB X ca W0 te) (te := tS X ca W0 me) hc hN hi ok hg ht he hs) fun σ H Q q => lc_read hT (X' := X) rfl q
/-- name = [..] -/
theorem ss_asgLc {i : Nat} {y : Str} {py : Pos} {elt tg iter : Expr} {ifs : List Expr} {scope : Scope} {own : List (Str × Nat)} {spos : Pos} {it : MI} {T : Tg} {te : MB} {me : M} (hc : X.calm = true) (hN : X.N.Nodup) (hy : X.N[i]? = some y) (hyl : X.env.scope.names.lookup y = some .local)
    (hsw : swapsWith (.ListComp elt [⟨tg, iter, ifs, 0⟩] scope pos) (some (.Name y py)) spos.line X.env = pure true) (hi : SI X ca W tg iter it) (ok : BlkOk X.N X.env.scope scope own)
    (hg : ∀ (s : Shared) (H : Hp) (C : Addr) (cl : List (Str × Addr)) (fp : List Addr), PG (X.blk s H scope (compEnvC scope cl C X.env) fp) tg (T.rd X.K)) (ht : ∀ (s : Shared) (H : Hp) (C : Addr) (cl : List (Str × Addr)) (fp : List Addr), SPTs (X.blk s H scope (compEnvC scope cl C X.env) fp) ca W0 ifs te)
    (he : ∀ (s : Shared) (H : Hp) (C : Addr) (cl : List (Str × Addr)) (fp : List Addr), SE (X.blk s H scope (compEnvC scope cl C X.env) fp) ca W0 elt me) (hT : ∀ i ∈ T.slots, i ∈ own.map (·.2)) (hs : ∀ x, foldedSetIterable iter X.env x = pure x := by intro _; rfl) :
    SS X ca W (.Assign [.Name y py] (.ListComp elt [⟨tg, iter, ifs, 0⟩] scope pos) spos) (sAsg i (mLC it T te me (own.map (·.2)))) :=
  PS.imp (ps_setLc (g := T.rd X.K) (tt := tSB X ca W0 te) (te := tS X ca W0 me) hc hN hy hyl hsw hi ok hg ht he hs) fun D σ H q => by
  obtain ⟨H0, F, α, rel, q⟩ := q.go
  refine lc_read hT (ca := ca) (W := W) (X' := X) rfl ?_
  exact tS.so (β := Unit) rel q fun r v H1 s1 x1 rel1 q1 => putR_read rel s1 x1 q1

/-! ### own calls -/
abbrev Fn := List PyData → Out R
def spF (ca : Ex → Addr) (K : PySem.W.Frag) (n : Nat) (f : Fn) : Sp := fun vs H Q E => ∃ N ds, (∀ a, N a → ∃ o, H a = some o) ∧ DNs K N H vs ds ∧ ds.length = n ∧ match f ds with
  | .ok r => ∀ v H', Same H H' → RV K N H H' v r → Q v H'
  | .err c => ∀ H', Same H H' → E (.ref (ca c)) none H'
  | .bad => False
def mF (n : Nat) (f : Fn) (a : MA) : M := fun α => (a α).bind fun rs => (stAll rs).bind fun ds => if ds.length = n then f ds else .bad
theorem se_call {CX : CXT} {k : Nat} {f : Addr} {fd : FuncData} {ps : List Str} {x : Str} {p : Pos} {n : Nat} {mf : Fn} {m : MA} (F : FnOk X.prog X.w X.K X.mg X.base (L2.CX X.prog X.w) k f fd ps (spF ca.at_ X.K n mf)) (hr : Room k X.A) (hg : Gl X x) (hm : X.mg x = some (.ref f)) (hk : PySem.W.keepIn X.K (.ref f) = true) (hb : Binds X.K fd ps [])
    (tk : Takes X W) (ha : SA X ca W (e :: es) m) (hdb : (x == ("__debug__" : Str)) = false := by decide) (he : starEach (e :: es) X.env = (false, eval e X.env) :: starEach es X.env := by rfl) (hpl : (backTo pos (starEach es X.env)).any (·.1) = false := by rfl) :
    SE X ca W (.Call (.Name x p) (e :: es) [] pos) (mF n mf m) :=
  PE.imp (pe_callS F hr hg hm hk hb (fun σ => passAt tk σ) ha hdb he hpl) fun σ H Q q => by
  obtain ⟨H0, F, α, rel, q⟩ := q.go
  refine tSA.seqS rel PV.mono q fun ds vs H1 s1 x1 rel1 q1 => ?_
  split at q1
  · rename_i hn
    refine ⟨Nn F α σ, ds, fun a h => rel1.tracked h, x1, hn, ?_⟩
    cases e : mf ds with
    | ok r => rw [e] at q1; exact q1
    | err c => rw [e] at q1; exact q1
    | bad => rw [e] at q1; exact q1
  · exact q1.elim

/-! ### a def -/
def startE (n : Nat) (ds : List PyData) : En := ds.map Sv.val ++ List.replicate (n - ds.length) Sv.un
def bodyM (n : Nat) (m : MS) : Fn := fun ds => match m (startE n ds) with
  | .nx _ => .ok ⟨.v, .none⟩
  | .rt r => .ok r
  | .er c => .err c
  | .bad => .bad
theorem DNs.slots {K : PySem.W.Frag} {N : Addr → Prop} {H : Hp} {vs : List V} {ds : List PyData} (x : DNs K N H vs ds) {i : Nat} {s : Sv} {n m : Nat} (e : (ds.map Sv.val ++ List.replicate n Sv.un)[i]? = some s) : (∃ d v, s = .val d ∧ (vs.map some ++ List.replicate m (none : Option V))[i]? = some (some v) ∧ DN K N H v d) ∨ s = .un := by
  by_cases hi : i < ds.length
  · rw [List.getElem?_append_left (by simpa using hi), List.getElem?_map, List.getElem?_eq_getElem hi] at e
    obtain ⟨v, h1, h2⟩ := x.get (List.getElem?_eq_getElem hi)
    refine .inl ⟨ds[i], v, (Option.some.inj e).symm, ?_, h2⟩
    rw [List.getElem?_append_left (by rw [List.length_map, x.length]; exact hi), List.getElem?_map, h1]; rfl
  · rw [List.getElem?_append_right (by simp; omega)] at e
    have := List.mem_of_getElem? e
    exact .inr (List.eq_of_mem_replicate this)
theorem Rel.start {K : PySem.W.Frag} {xa : Xi} {N : Addr → Prop} {H : Hp} {vs : List V} {ds : List PyData} (tr : ∀ a, N a → ∃ o, H a = some o) (x : DNs K N H vs ds) (NM : List Str) : Rel K xa H N (startE NM.length ds) (L2.start NM vs) H := by
  have noown : ∀ (i : Nat) es, (startE NM.length ds)[i]? ≠ some (Sv.own es) := fun i es e => by
    rcases x.slots (m := 0) e with ⟨d, v, z, _⟩ | z
    · cases z
    · cases z
  have nn : ∀ a, Nn N (startE NM.length ds) (L2.start NM vs) a → N a := fun a h => by
    rcases h with h | ⟨i, es, e, _⟩
    · exact h
    · exact absurd e (noown i es)
  refine ⟨?_, Same.refl _, tr, fun i s e => ?_, fun i es l e => absurd e (noown i es), fun i j es fs l e => absurd e (noown i es)⟩
  · unfold startE L2.start; simp [x.length]
  · rcases x.slots (m := NM.length - vs.length) e with ⟨d, v, z, e2, dn⟩ | z
    · subst z; exact ⟨v, e2, dn.less nn⟩
    · subst z; trivial
/-- the wish of a def about exceptions -/
abbrev WD (E : XK) : WX := fun cls d _ H => E cls d H
/-! ### raise -/
def sRaise (c : Ex) : MS := fun _ => .er c
theorem ss_raise {c : Ex} (hc : X.calm = true) (tk : Takes X W) (he : PMk X e (fun _ H Q => Q (.ref (ca.at_ c)) none H)) : SS X ca W (.Raise (some e) none pos) (sRaise c) := PS.imp (ps_raise hc tk he) fun D σ H q => by
  obtain ⟨H0, F, α, rel, q⟩ := q.go
  exact q σ H rel.base
end
end FS

namespace FS
open PySem PySem.Spec PyProof.Rows L2

/-! ### enumerate of a tuple -/
section
open AutoSeq1 (wpAny_loadPart')
theorem enum_newT (t : Addr) (items : Array Value) (n : Nat) (dct : Option Addr) (sl : Array (Option Value)) :
    Meets (Builtin.«enumerate.__new__» ⟨[.type "enumerate", .ref t], []⟩) (fun _ R s => s.heap.get? t = some { cls := .type "tuple", dict := dct, data := .seq items n, slots := sl } ∧
      R (.ok (.ret (.ref (s.heap.push { cls := .type "tuple_iterator", data := .fields #[.ref t, .int 0 0] }).objs.size)))
        { s with heap := (s.heap.push { cls := .type "tuple_iterator", data := .fields #[.ref t, .int 0 0] }).push { cls := .type "enumerate", data := .fields #[.none, .bool false, .ref s.heap.objs.size, rawInt 0, .none, .none] } }) := by
  refine .of_wp fun prog w A R s h => ?_
  obtain ⟨hp, g, d, tk, os⟩ := s
  obtain ⟨hl, h⟩ := h
  have hsub := sub_enumerate
  have hT : Heap.IsTuple (Shared.heap ⟨hp, g, d, tk, os⟩) t items := ⟨_, hl, rfl, n, rfl⟩
  wp_walk using wpAny_loadPart' hl
  refine wpAny_stack_any fun st => wpAny_pure ?_
  split
  · rename_i c _ _ _ _ _
    cases (c == Value.type "enumerate") <;> (wp_walk using wpAny_loadPart' hl, wpAny_pyIter_tuple hT; exact ⟨_, rfl, h⟩)
  · wp_walk using wpAny_loadPart' hl, wpAny_pyIter_tuple hT
    exact ⟨_, rfl, h⟩
variable {prog : Program} {w : World} {A : Around} {E : Value → Shared → Prop} {s : Shared}
theorem call_enumT {t : Addr} {items : Array Value} {Q : Value → Shared → Prop} (hT : s.heap.IsTuple t items)
    (h : ∀ h', IsEnum h' (s.heap.objs.size + 1) s.heap.objs.size 0 .none → h'.IsTupleIter s.heap.objs.size t 0 → h'.objs.size = s.heap.objs.size + 2 →
      (∀ b o, s.heap.get? b = some o → h'.get? b = some o) → Q (.ref (s.heap.objs.size + 1)) { s with heap := h' }) :
    wpAny (model prog w) A (call (.type "enumerate") [.ref t]) Q E s := by
  obtain ⟨⟨c, dct, dt, sl⟩, hl, hc, n, hd⟩ := hT
  dsimp only at hc hd
  subst hc hd
  refine callType_new F.called_enumerate (by decide) (F.typeCall_enumerate_1 _) (F.newCall_enumerate_1 _) (fun obj => F.args_object_init_2 obj _) F.entry_enumerate_new (enum_newT t items n dct sl) ⟨hl, ?_⟩
  have hz : (s.heap.push { cls := .type "tuple_iterator", data := .fields #[.ref t, .int 0 0] }).objs.size = s.heap.objs.size + 1 := Heap.size_push ..
  have he : IsEnum ((s.heap.push { cls := .type "tuple_iterator", data := .fields #[.ref t, .int 0 0] }).push
      { cls := .type "enumerate", data := .fields #[.none, .bool false, .ref s.heap.objs.size, rawInt 0, .none, .none] }) (s.heap.objs.size + 1) s.heap.objs.size 0 .none := by
    rw [← hz]; exact Heap.get?_push_size _ rfl
  show _ ∧ _
  rw [hz]
  exact ⟨⟨_, he, rfl⟩, h _ he ⟨_, Heap.get?_push_of_some _ (Heap.get?_push_size _ rfl), rfl, rfl⟩ (by rw [Heap.size_push, hz]) fun b o x => Heap.get?_push_of_some _ (Heap.get?_push_of_some _ x)⟩
end
/-- the tuple at a, each item in a new pair -/
def IteT (K : PySem.W.Frag) (a : Addr) : It :=
  ⟨fun i H => ∃ (xs : List V) (x : V), SqT K H a xs ∧ xs[i]? = some x, fun i H v H' => ∃ T x, v = .ref T ∧ H T = none ∧ H' = upd H T (.tup [.int (i : Nat), x]) ∧ ∀ xs, SqT K H a xs → xs[i]? = some x, fun i H => ∃ xs : List V, SqT K H a xs ∧ xs.length ≤ i⟩
theorem turn_enumT {P : Program} {w : World} {K : PySem.W.Frag} {elts : List Expr} {kk : Nat} {tpos : Pos} (a e it : Addr) (N0 : Nat) (hN : a < N0) (he0 : N0 ≤ e) (hi0 : N0 ≤ it) :
    Turn P w K (.Tuple elts kk tpos) (IteT K a) [e, it] e (fun i h => (∃ old, IsEnum h e it ((i : Nat) : Int) old) ∧ h.IsTupleIter it a i ∧ e ≠ it) where
  mem := by simp
  obj := fun i h st b hb => by
    obtain ⟨⟨old, he⟩, ⟨o, ho, hc, hd⟩, _⟩ := st
    rcases (show b = e ∨ b = it by simpa using hb) with z | z
    · rw [z]; exact ⟨_, he, fun v q => nomatch q⟩
    · exact ⟨o, by rw [z]; exact ho, fun v q => by rw [hd] at q; cases q⟩
  keep := fun i h h' st k => by
    obtain ⟨⟨old, he⟩, ⟨o, ho, r⟩, hne⟩ := st
    exact ⟨⟨old, k e (by simp) _ he⟩, ⟨o, k it (by simp) _ ho, r⟩, hne⟩
  item := by
    intro X hP hw hK hc i pins s σ H E I hf st hg
    subst hP hw hK
    obtain ⟨⟨old, he⟩, hit, hne⟩ := st
    obtain ⟨xs, x, hq, hx⟩ := hg
    obtain ⟨its, rv, p, hz⟩ := I.tuple hq
    obtain ⟨u, hu, ru⟩ := rv.get hx
    have hel : e < s.heap.objs.size := Heap.lt_size he
    have hil : it < s.heap.objs.size := by obtain ⟨_, q, _⟩ := hit; exact Heap.lt_size q
    have hai : a ≠ it := Nat.ne_of_lt (Nat.lt_of_lt_of_le hN hi0)
    have hae : a ≠ e := Nat.ne_of_lt (Nat.lt_of_lt_of_le hN he0)
    have hi : i < its.toArray.size := by rw [List.size_toArray]; exact (List.getElem?_eq_some_iff.mp hu).1
    refine wpAny_pyNext_enum_itemD (Draws.tuple (show X.A.in1.handled = none from I.ok.hd hc) it a hai its.toArray) he ⟨hit, p⟩ hi hne (by simp [hne]; exact fun z => hae z.symm) fun y h' tk hy ho st' hT hsz hk => ?_
    have ey : y = u := by
      have h2 : its.toArray[i]? = some u := by simpa using hu
      rw [h2] at hy; exact (Option.some.inj hy).symm
    subst ey
    refine ⟨_, rfl, wpAny_letOwnedTupleGo_enum (s := { s with heap := h', toks := tk + 1 }) ho fun h'' he' sb => ?_⟩
    have hT2 : h''.get? s.heap.objs.size = some { cls := .type "tuple", data := .seq #[.int i tk, y] } := (sb.2 _ (Nat.ne_of_gt hel)).trans hT
    have new : ObjOk X.prog X.w (upd H s.heap.objs.size (.tup [.int (i : Nat), x])) h'' s.heap.objs.size (.tup [.int (i : Nat), x]) :=
      ⟨by show 2 ≤ sizeLine; decide, [.int i tk, y], .cons ⟨_, rfl⟩ (.cons ru .nil), ⟨_, hT2, rfl, _, rfl⟩⟩
    have kept : ∀ b ob, b ∉ [e, it] → s.heap.get? b = some ob → h''.get? b = some ob := fun b ob hb q => by
      have h1 : b ≠ e := fun z => hb (by simp [z])
      have h2 : b ≠ it := fun z => hb (by simp [z])
      exact (sb.2 b h1).trans (hk b ob h1 h2 q)
    have I1 : Inv X pins σ (upd H s.heap.objs.size (.tup [.int (i : Nat), x])) { s with heap := h'', toks := tk + 1 } := I.turnedNew (ch := [e, it]) kept hf (Nat.le_refl _) new
    refine ⟨.ref s.heap.objs.size, _, I1, rfl, ⟨_, x, rfl, I.hok.fresh (Nat.le_refl _), rfl, fun ys hy => by rw [I.tuple_inj hy hq]; exact hx⟩, ⟨⟨y, ?_⟩, ?_, hne⟩, fun b hb => ?_⟩
    · rw [show ((i + 1 : Nat) : Int) = (i : Int) + 1 by omega]; exact he'
    · obtain ⟨o, ho2, r⟩ := st'.1
      exact ⟨o, (sb.2 it (Ne.symm hne)).trans ho2, r⟩
    · have hb' : b < s.heap.objs.size := by
        rcases (show b = e ∨ b = it by simpa using hb) with z | z <;> (rw [z]; assumption)
      rw [upd_ne (Nat.ne_of_lt hb')]
      exact (hf b hb).1
  done := by
    intro X hP hw hK hc i pins s σ H E I hf st hg
    subst hP hw hK
    obtain ⟨⟨old, he⟩, hit, hne⟩ := st
    obtain ⟨xs, hq, hx⟩ := hg
    obtain ⟨its, rv, p, hz⟩ := I.tuple hq
    obtain ⟨f0, f1, f2, f3, f4, f5⟩ := hf it (by simp)
    have hl := rv.length
    have hh : X.A.handled = none := I.ok.hd hc
    have hai : a ≠ it := Nat.ne_of_lt (Nat.lt_of_lt_of_le hN hi0)
    have D := Draws.tuple (prog := X.prog) (w := X.w) (A := X.A.in1) hh it a hai its.toArray
    have hnone : its.toArray[i]? = none := by simp; omega
    have hT : s.TypeIs (.ref e) "enumerate" := ⟨_, he, rfl⟩
    unfold pyNext
    refine wpAny_bind (wpAny_attempt (wpAny_callSpecial?_slot (name := Str.ofString "__next__") hT F.slot_enumerate_next (wpAny_call_entry F.slot_enumerate_next hT F.entry_enumerate_next ?_ (F.args_enumerate_next_1 _))))
    show wpAny _ _ (field (.ref e) 2 >>= _) _ _ _
    refine wpAny_bind (wpAny_field he rfl (x := .ref it) rfl ?_)
    refine wpAny_bind (wpAny_nextOf_tuple_end hh hit p hnone fun h' x he' hx' => ?_)
    obtain ⟨o, ho, hc2⟩ := hx'
    refine wpAny_bind (wpAny_isInstance (T := "StopIteration") (b := true) ⟨o, ho, hc2⟩ isSubtype_stop ?_)
    exact wpAny_pure ⟨rfl, I.turned (t' := s.toks) (fun b o hb q => he' b o hb q) f0 f1 f3 f4 f5⟩
  self := fun A i s Q E st h => let ⟨⟨_, he⟩, _⟩ := st; wpAny_pyIter_enum he h
def iEnumT (K : PySem.W.Frag) (ta : TA) : TI := fun σ H R => ta σ H fun vs H1 => ∃ a xs, vs = [.ref a] ∧ SqT K H1 a xs ∧ R (IteT K a) H1
theorem pi_enumT {X : Cx} {e : Expr} {ta : TA} {p pos tpos : Pos} {elts : List Expr} {kk : Nat} (hg : Gl X "enumerate") (hm : X.mg "enumerate" = none) (ha : PA X [e] ta) (hs : starEach [e] X.env = [(false, eval e X.env)] := by rfl) :
    PI X (.Tuple elts kk tpos) (.Call (.Name "enumerate" p) [e] [] pos) (iEnumT X.K ta) := by
  refine ⟨fun pins s σ H R I h => ?_⟩
  refine Call_ (ld_blt I hg hm boot_enumerate (PyProof.Rows.callWith_type1 (thn (ha.run pos pins s σ H _ I h) fun us s1 ⟨vs, H1, I1, r1, q1⟩ => ?_) hs rfl))
  obtain ⟨a, xs, ex, hq, q⟩ := q1
  subst ex
  rw [r1.ref1]
  obtain ⟨its, rv, p', hz⟩ := I1.tuple hq
  have hlt : a < s1.heap.objs.size := by obtain ⟨o, ho, _⟩ := p'; exact Heap.lt_size ho
  refine call_enumT (show s1.heap.IsTuple a its.toArray from p') fun h' he hit hsz hk => wpAny_pyIter_enum he ?_
  have I2 : Inv X pins σ H1 { s1 with heap := h' } := I1.kept (t' := s1.toks) hk
  refine ⟨s1.heap.objs.size + 1, [s1.heap.objs.size + 1, s1.heap.objs.size], _, _, H1, rfl, I2, turn_enumT a (s1.heap.objs.size + 1) s1.heap.objs.size s1.heap.objs.size hlt (by omega) (Nat.le_refl _), ⟨⟨.none, he⟩, hit, Nat.succ_ne_self _⟩, fun b hb => ?_, q⟩
  have hle : s1.heap.objs.size ≤ b := by
    rcases (show b = s1.heap.objs.size + 1 ∨ b = s1.heap.objs.size by simpa using hb) with z | z
    · rw [z]; exact Nat.le_add_right _ _
    · rw [z]; exact Nat.le_refl _
  exact I1.fpOk hle (I1.hok.fresh hle)
theorem good_enumT {K : PySem.W.Frag} {N : Addr → Prop} {H1 : Hp} {a : Addr} {vs : List V} {ds : List PyData} (h : SqT K H1 a vs) (t : DNs K N H1 vs ds) : GoodIt K N H1 (IteT K a) (enumF 0 ds) := by
  refine ⟨fun H => SqT K H a vs, YPair (fun i => some (.int (i : Nat))) (fun i => vs[i]?), ?_, fun N' H2 s => s.sqt h, fun N' i H x H' s y hi => ?_⟩
  · rw [enumF_len, ← t.length]
    refine ⟨fun i _ hi q => ⟨vs, vs[i], q, by simp [hi]⟩, fun _ q => ⟨vs, q, Nat.le_refl _⟩, fun i H v H' _ q y => ?_⟩
    obtain ⟨T, x, h1, h2, h3, h4⟩ := y
    exact ⟨T, .int (i : Nat), x, h1, h2, h3, rfl, h4 vs q⟩
  · obtain ⟨T, u, v, rfl, hT, rfl, e1, e2⟩ := y
    cases e1
    obtain ⟨d, e, x'⟩ := t.getV e2
    obtain ⟨z1, z2⟩ := pair_new hT (DN.int (i : Nat)) (x'.stay s)
    refine ⟨z1, _, ?_, z2⟩
    have := enumF_get 0 ds i d e
    rw [Nat.zero_add] at this
    exact this
def enum1 (rs : List PyData) : Out (List PyData) := match rs with
  | [.list xs] => .ok (enumF 0 xs)
  | [.tuple xs] => .ok (enumF 0 xs)
  | _ => .bad
theorem si_enum {X : Cx} {ca : Cc} {W : WX} {a : Expr} {pos p tpos : Pos} {elts : List Expr} {kk : Nat} {m : MA} (hg : Gl X "enumerate") (hm : X.mg "enumerate" = none) (ha : SA X ca W [a] m) (hs : starEach [a] X.env = [(false, eval a X.env)] := by rfl) :
    SI X ca W (.Tuple elts kk tpos) (.Call (.Name "enumerate" p) [a] [] pos) (iB enum1 m) := by
  refine PI.imp (PI.or (pi_enum hg hm ha hs) (pi_enumT hg hm ha hs)) fun σ H R q => ?_
  obtain ⟨H0, F, α, rel, q⟩ := q
  have q0 : GO ca W σ (PIt X.K (Nn F α σ) R) ((m α).bind fun rs => (stAll rs).bind enum1) H := q
  cases e1 : m α with
  | err c => rw [e1] at q0; exact .inl (tSA.mk rel (by rw [e1]; exact q0))
  | bad => rw [e1] at q0; exact q0.elim
  | ok rs =>
    rw [e1, Out.bind_ok] at q0
    cases e2 : stAll rs with
    | err c => exact absurd e2 (stAll_ne rs c)
    | bad => rw [e2] at q0; exact q0.elim
    | ok ds =>
      rw [e2, Out.bind_ok] at q0
      unfold enum1 at q0
      split at q0
      · refine .inl (tSA.mk rel ?_)
        rw [e1]
        intro vs H1 s1 x1
        cases x1.store (fun l hl => rel.new hl) e2 with
        | cons x t => cases t; cases x with
          | lst hr t1 => exact ⟨_, _, rfl, hr.sq, q0 _ H1 s1 (good_enum hr t1)⟩
      · refine .inr (tSA.mk rel ?_)
        rw [e1]
        intro vs H1 s1 x1
        cases x1.store (fun l hl => rel.new hl) e2 with
        | cons x t => cases t; cases x with
          | tup hr t1 => exact ⟨_, _, rfl, hr, q0 _ H1 s1 (good_enumT hr t1)⟩
      · exact q0.elim
end FS

namespace FS
open PySem PySem.Spec PyProof.Rows L2
/-! ### a def that is ready to be called -/
def Ready (P : Program) (w : World) (K : PySem.W.Frag) (mg : Str → Option Value) (base : Heap) (ca : Ex → Addr) (x : Str) (lvl n : Nat) (mf : Fn) : Prop :=
  ∃ f fd ps, FnOk P w K mg base (L2.CX P w) lvl f fd ps (spF ca K n mf) ∧ Binds K fd ps [] ∧ mg x = some (.ref f) ∧ PySem.W.keepIn K (.ref f) = true
section
variable {X : Cx} {ca : Cc} {W : WX} {a b c e : Expr} {es : List Expr} {ma mb mc me : M} {pos : Pos} {ta tb : MB}
theorem se_own {lvl : Nat} {x : Str} {p : Pos} {n : Nat} {mf : Fn} {m : MA} (hr : Room lvl X.A) (tk : Takes X W) (R : Ready X.prog X.w X.K X.mg X.base ca.at_ x lvl n mf) (hg : Gl X x)
    (ha : SA X ca W (e :: es) m) (hdb : (x == ("__debug__" : Str)) = false := by decide) (he : starEach (e :: es) X.env = (false, eval e X.env) :: starEach es X.env := by rfl) (hpl : (backTo pos (starEach es X.env)).any (·.1) = false := by rfl) :
    SE X ca W (.Call (.Name x p) (e :: es) [] pos) (mF n mf m) := by
  obtain ⟨f, fd, ps, F, hb, hm, hk⟩ := R
  exact se_call (CX := L2.CX X.prog X.w) F hr hg hm hk hb tk ha hdb he hpl
theorem ready_mk {ca : Ex → Addr} {P : Program} {w : World} {K : PySem.W.Frag} {mg : Str → Option Value} {base : Heap} {x : Str} {st : Stmt} {f : Addr} {fd : FuncData} {NM ps : List Str} {k n L : Nat} {m : MS}
    (F : FunD K x x (defArgs st) (defBody st) (defScope st) [] [] f fd) (g : mg x = some (.ref f)) (S : FnScope NM ps (defScope st)) (hn : ps.length = n) (hL : NM.length = L)
    (hb : ∀ (kV doc pm : Value) (an : Option Addr) (cdv ct : Value) (us : List Value), us.length = ps.length → bindArgs (PySem.W.fnOf x x (defArgs st) (defBody st) (defScope st) .none kV doc pm an cdv ct) ⟨us, []⟩ = pure (ps.zip us))
    (hbody : ∀ (cdv : Value) (A : Around) (outer : List Env) (s : Shared) (H : Hp) (E : XK), Room k (cxOf (L2.CX P w) P w K mg base NM x (defScope st) f cdv A outer s H E).A →
      SSs (cxOf (L2.CX P w) P w K mg base NM x (defScope st) f cdv A outer s H E) ⟨ca, ⟨0, none⟩⟩ (WD E) (defBody st) m) : Ready P w K mg base ca x (k + 1) n (bodyM L m) := by
  subst hL
  refine ⟨f, fd, ps, F.ok S (fun vs H Q E h => ?_) (fun cdv A outer s H vs Q E hr h => ⟨_, hbody cdv A outer s H E hr, ?_⟩), F.bindsN hb, g, F.kp⟩
  · obtain ⟨N, ds, _, x, hl, _⟩ := h
    rw [x.length, hl, hn]
  · obtain ⟨N, ds, tr, x, hl, q⟩ := h
    refine tSS.mk (Rel.start tr x NM) ?_
    unfold bodyM at q
    cases e : m (startE NM.length ds) with
    | nx α' => rw [e] at q; exact fun σ' H' r' => q .non H' r'.base DN.non
    | rt r => rw [e] at q; exact fun v H' s0 x0 => q v H' s0 x0
    | er c => rw [e] at q; exact fun σ' H' s0 => q H' s0
    | bad => rw [e] at q; exact q
/-! ### names of the top -/
theorem se_gint {x : Str} {i : Int} (hg : Gl X x) (h : ∃ t, X.mg x = some (.int i t)) (hdb : (x == ("__debug__" : Str)) = false := by decide) : SE X ca W (.Name x pos) (mC (.int i)) := by
  obtain ⟨t, h⟩ := h
  exact se_glob (v := .int i) hg h ⟨t, rfl⟩ (fun _ _ => .int i) hdb
theorem se_gstr {x z : Str} (hg : Gl X x) (h : ∃ t, X.mg x = some (.str z t)) (hdb : (x == ("__debug__" : Str)) = false := by decide) : SE X ca W (.Name x pos) (mC (.str z)) := by
  obtain ⟨t, h⟩ := h
  exact se_glob (v := .str z) hg h ⟨t, rfl⟩ (fun _ _ => .str z) hdb
theorem DNs.ofInts {K : PySem.W.Frag} {N : Addr → Prop} {H : Hp} : ∀ ns : List Int, DNs K N H (ns.map V.int) (ns.map PyData.int)
  | [] => .nil
  | i :: r => .cons (.int i) (DNs.ofInts r)
theorem se_gtup {x : Str} {a : Addr} {ns : List Int} (hg : Gl X x) (h : X.mg x = some (.ref a)) (hT : ∀ H, SqT X.K H a (ns.map V.int)) (hdb : (x == ("__debug__" : Str)) = false := by decide) : SE X ca W (.Name x pos) (mC (.tuple (ns.map PyData.int))) :=
  se_glob (v := .ref a) hg h rfl (fun N H => .tup (hT H) (DNs.ofInts ns)) hdb
/-- the built-ins' names are not bound by the top -/
structure Bs (mg : Str → Option Value) : Prop where
  len : mg "len" = none
  range : mg "range" = none
  list : mg "list" = none
  tuple : mg "tuple" = none
  int : mg "int" = none
  max : mg "max" = none
  min : mg "min" = none
  sum : mg "sum" = none
  str : mg "str" = none
  isinstance : mg "isinstance" = none
  enumerate : mg "enumerate" = none
  zip : mg "zip" = none
  sorted : mg "sorted" = none
  set : mg "set" = none
  bool : mg "bool" = none
  dict : mg "dict" = none
/-- a class of the program's own errors -/
structure Xc (K : PySem.W.Frag) (mg : Str → Option Value) (ca : Ex → Addr) (c : Ex) (x : Str) : Prop where
  g : mg x = some (.ref (ca c))
  q : PySem.W.excIn K (ca c) [.type "ValueError", .type "Exception", .type "BaseException", .type "object"] "ValueError.__new__" = true
  k : PySem.W.keepIn K (.ref (ca c)) = true
  b : PySem.W.subIn K (.ref (ca c)) (.type "BaseException") = some true
  t : PySem.W.typeIn K (.ref (ca c)) = some (.type "type")
theorem ss_raiseX {c : Ex} {x m : Str} {j : Nat} {p p2 cpos : Pos} (hc : X.calm = true) (tk : Takes X W) (E : Xc X.K X.mg ca.at_ c x) (hg : Gl X x) (hdb : (x == ("__debug__" : Str)) = false := by decide) :
    SS X ca W (.Raise (some (.Call (.Name x p) [.Constant (.str m) j p2] [] cpos)) none pos) (sRaise c) :=
  ss_raise hc tk (pmk_own PySem.F.excBase_ValueError E.q E.g E.k (raises_own E.b E.t) hg hdb)
/-! ### in -/
def inD : G2 := fun a b => match b with
  | .list ds => if SeqAt.shaped a && SeqAt.shaped (.list ds) then boolR (ds.any fun z => PyData.eqv z a) else .bad
  | .tuple ds => if SeqAt.shaped a && SeqAt.shaped (.tuple ds) then boolR (ds.any fun z => PyData.eqv z a) else .bad
  | .str t => match a with
    | .str s => boolR (!(Builtin.Str.occurrences t s 0 t.length 1).isEmpty)
    | _ => .bad
  | _ => .bad
def notInD : G2 := fun a b => match b with
  | .list ds => if SeqAt.shaped a && SeqAt.shaped (.list ds) then boolR (!ds.any fun z => PyData.eqv z a) else .bad
  | .tuple ds => if SeqAt.shaped a && SeqAt.shaped (.tuple ds) then boolR (!ds.any fun z => PyData.eqv z a) else .bad
  | .str t => match a with
    | .str s => boolR (!(!(Builtin.Str.occurrences t s 0 t.length 1).isEmpty))
    | _ => .bad
  | _ => .bad
def rInT (K : PySem.W.Frag) : R2 := fun x y H Q => ∃ d ds, Dp K H x d ∧ Dp K H y (.tuple ds) ∧ SeqAt.shaped d = true ∧ SeqAt.shaped (.tuple ds) = true ∧ Q (.bl (ds.any fun z => PyData.eqv z d)) H
theorem op_inT (hu : X.A.units + 65 < cLine) : OpR X (compareOp .In) (rInT X.K) := by
  intro pins s σ H x y v u Q I rx ry h
  obtain ⟨d, ds, hd, he, sd, se, q⟩ := h
  obtain ⟨as, r1⟩ := Dp.reads I d x v hd rx
  obtain ⟨bs, r2⟩ := Dp.reads I (.tuple ds) y u he ry
  exact SeqAt.in_tuple_reads r2 r1 (SeqAt.canLay_of_shaped se) (SeqAt.canLay_of_shaped sd) (room_in_shaped sd hu) ⟨.bl _, H, I, rfl, q⟩
def rNotInT (K : PySem.W.Frag) : R2 := fun x y H Q => ∃ d ds, Dp K H x d ∧ Dp K H y (.tuple ds) ∧ SeqAt.shaped d = true ∧ SeqAt.shaped (.tuple ds) = true ∧ Q (.bl (!ds.any fun z => PyData.eqv z d)) H
theorem op_notInT (hu : X.A.units + 65 < cLine) : OpR X (compareOp .NotIn) (rNotInT X.K) := by
  intro pins s σ H x y v u Q I rx ry h
  obtain ⟨d, ds, hd, he, sd, se, q⟩ := h
  obtain ⟨as, r1⟩ := Dp.reads I d x v hd rx
  obtain ⟨bs, r2⟩ := Dp.reads I (.tuple ds) y u he ry
  exact SeqAt.notIn_tuple_reads r2 r1 (SeqAt.canLay_of_shaped se) (SeqAt.canLay_of_shaped sd) (room_in_shaped sd hu) ⟨.bl _, H, I, rfl, q⟩
theorem inD_ne (a b : PyData) (c : Ex) : inD a b ≠ .err c := by
  intro h
  cases b with
  | list ds => have h : (if SeqAt.shaped a && SeqAt.shaped (.list ds) then boolR (ds.any fun z => PyData.eqv z a) else .bad) = .err c := h; split at h <;> cases h
  | tuple ds => have h : (if SeqAt.shaped a && SeqAt.shaped (.tuple ds) then boolR (ds.any fun z => PyData.eqv z a) else .bad) = .err c := h; split at h <;> cases h
  | str t => cases a <;> cases h
  | _ => cases h
theorem od_in (hu : X.A.units + 65 < cLine) : OpD X (compareOp .In) inD where
  ex := ⟨_, (op_inD hu).or ((op_inT hu).or op_in_str), fun N H x y dx dy res Q rx ry e q => by
    cases dy with
    | list ds =>
      have e : (if SeqAt.shaped dx && SeqAt.shaped (.list ds) then boolR (ds.any fun z => PyData.eqv z dx) else .bad) = .ok res := e
      split at e
      · rename_i h
        cases e
        have h2 := Bool.and_eq_true_iff.mp h
        exact .inl ⟨dx, ds, rx.dp, ry.dp, h2.1, h2.2, q _ H (Same.refl _) .bool⟩
      · cases e
    | tuple ds =>
      have e : (if SeqAt.shaped dx && SeqAt.shaped (.tuple ds) then boolR (ds.any fun z => PyData.eqv z dx) else .bad) = .ok res := e
      split at e
      · rename_i h
        cases e
        have h2 := Bool.and_eq_true_iff.mp h
        exact .inr (.inl ⟨dx, ds, rx.dp, ry.dp, h2.1, h2.2, q _ H (Same.refl _) .bool⟩)
      · cases e
    | str t => cases dx with
      | str s => cases e; rw [rx.str, ry.str]; exact .inr (.inr ⟨s, t, rfl, rfl, q _ H (Same.refl _) .bool⟩)
      | _ => cases e
    | _ => cases e⟩
  noerr := inD_ne
theorem notInD_ne (a b : PyData) (c : Ex) : notInD a b ≠ .err c := by
  intro h
  cases b with
  | list ds => have h : (if SeqAt.shaped a && SeqAt.shaped (.list ds) then boolR (!ds.any fun z => PyData.eqv z a) else .bad) = .err c := h; split at h <;> cases h
  | tuple ds => have h : (if SeqAt.shaped a && SeqAt.shaped (.tuple ds) then boolR (!ds.any fun z => PyData.eqv z a) else .bad) = .err c := h; split at h <;> cases h
  | str t => cases a <;> cases h
  | _ => cases h
theorem od_notIn (hu : X.A.units + 65 < cLine) : OpD X (compareOp .NotIn) notInD where
  ex := ⟨_, (op_notInD hu).or ((op_notInT hu).or op_notin_str), fun N H x y dx dy res Q rx ry e q => by
    cases dy with
    | list ds =>
      have e : (if SeqAt.shaped dx && SeqAt.shaped (.list ds) then boolR (!ds.any fun z => PyData.eqv z dx) else .bad) = .ok res := e
      split at e
      · rename_i h
        cases e
        have h2 := Bool.and_eq_true_iff.mp h
        exact .inl ⟨dx, ds, rx.dp, ry.dp, h2.1, h2.2, q _ H (Same.refl _) .bool⟩
      · cases e
    | tuple ds =>
      have e : (if SeqAt.shaped dx && SeqAt.shaped (.tuple ds) then boolR (!ds.any fun z => PyData.eqv z dx) else .bad) = .ok res := e
      split at e
      · rename_i h
        cases e
        have h2 := Bool.and_eq_true_iff.mp h
        exact .inr (.inl ⟨dx, ds, rx.dp, ry.dp, h2.1, h2.2, q _ H (Same.refl _) .bool⟩)
      · cases e
    | str t => cases dx with
      | str s => cases e; rw [rx.str, ry.str]; exact .inr (.inr ⟨s, t, rfl, rfl, q _ H (Same.refl _) .bool⟩)
      | _ => cases e
    | _ => cases e⟩
  noerr := notInD_ne
theorem units65 {k : Nat} {A : Around} (r : Room k A) : A.units + 65 < cLine := by have := r.un; omega
end
end FS

namespace FS
open PySem PySem.Spec PyProof.Rows L2
section
variable {X : Cx} {ca : Cc} {W : WX} {a b c e : Expr} {es : List Expr} {ma mb mc me : M} {pos : Pos} {ta tb : MB}
/-! ### try .. except .. as n -/
def clearX (α : En) : En := α.map fun s => match s with
  | .exc _ => .un
  | s => s
theorem clearX_own {α : En} {j : Nat} {ds : List PyData} : (clearX α)[j]? = some (.own ds) ↔ α[j]? = some (.own ds) := by
  unfold clearX
  rw [List.getElem?_map]
  cases e : α[j]? with
  | none => simp
  | some s => cases s <;> simp
theorem Rel.clear {K : PySem.W.Frag} {xa xa' : Xi} {H0 H : Hp} {F : Addr → Prop} {α : En} {σ : L2.St} (r : Rel K xa H0 F α σ H) : Rel K xa' H0 F (clearX α) σ H := by
  have nn : ∀ a, Nn F (clearX α) σ a → Nn F α σ a := fun a h => by
    rcases h with h | ⟨i, ds, e1, e2⟩
    · exact .inl h
    · exact .inr ⟨i, ds, clearX_own.mp e1, e2⟩
  refine ⟨by simp [clearX, r.len], r.base, r.ftr, fun j s e => ?_, fun j ds l e1 e2 => r.own j ds l (clearX_own.mp e1) e2, fun j k ds es l e1 e2 e3 e4 => r.dis j k ds es l (clearX_own.mp e1) (clearX_own.mp e2) e3 e4⟩
  unfold clearX at e
  rw [List.getElem?_map] at e
  cases ea : α[j]? with
  | none => rw [ea] at e; cases e
  | some s0 =>
    rw [ea] at e
    have q := r.slot j s0 ea
    cases s0 with
    | un => cases e; trivial
    | exc c => cases e; trivial
    | val d => cases e; obtain ⟨v, e1, x⟩ := q; exact ⟨v, e1, x.less nn⟩
    | own ds => cases e; obtain ⟨l, vs, e1, e2, x⟩ := q; exact ⟨l, vs, e1, e2, x.less nn⟩
/-- what comes behind an except suite -/
def suiteEnd (i : Nat) (o : SO) : SO := match o with
  | .nx α => .nx (clearX (α.set i .un))
  | .rt r => .rt r
  | _ => .bad
def sTry (L i : Nat) (mb : MS) (catches : Ex → Option Bool) (ms : MS) : MS := fun α => match mb α with
  | .er c => match catches c with
    | some true => suiteEnd i (ms ((List.replicate L Sv.un).set i (.exc c)))
    | some false => .er c
    | none => .bad
  | o => o
theorem Takes.len (tk : Takes X W) : Takes X (fun cls d σ H => σ.length = X.N.length → W cls d σ H) := fun u s' ⟨a, B, sI, pins, σ, H, cls, d, e, I, nb, up, sky, na, os, ag, w⟩ =>
  tk u s' ⟨a, B, sI, pins, σ, H, cls, d, e, I, nb, up, sky, na, os, ag, w I.len⟩
theorem ss_try {x n : Str} {cv : Value} {i L : Nat} {body suite : List Stmt} {b₀ : Stmt} {np pos' : Pos} {mb ms : MS} {catches : Ex → Option Bool} (hs : X.stack = X.env :: X.outer) (hf : X.env.frame = some X.env.locals) (hN : X.N.Nodup) (hi : X.N[i]? = some n) (hln : X.env.kindOf n = some .local) (hL : X.N.length = L) (hc : Names X x cv) (tk : Takes X W)
    (hm : ∀ c b, catches c = some b → PySem.W.exmOne X.K (.ref (ca.at_ c)) cv = some b)
    (hb : ∀ (W' : WX) (pn : List (Addr × Obj)) (xe : Value → Shared → Prop), Takes (X.tr pn xe) W' → PassesOwn (model X.prog X.w) X.A X.env xe → SSs (X.tr pn xe) ca W' body mb)
    (hsu : ∀ (c : Ex) (a : Addr) (oe : Obj) (pn : List (Addr × Obj)), Zc (.ref (ca.at_ c)) none oe → (∃ vs, oe.data = .fields vs) → SSs (X.suite a ((a, oe) :: pn)) ⟨ca.at_, ⟨a, some c⟩⟩ W0 (b₀ :: suite) ms) :
    SS X ca W (.Try body [.ExceptHandler (some (.Name x np)) (some n) (b₀ :: suite) pos'] [] [] pos) (sTry L i mb catches ms) := by
  refine PS.imp (ps_try_as (tb := fun W' => tSS X ca (fun cls d σ H => σ.length = X.N.length → W' cls d σ H) mb) (ts := fun a cls d D σ H => ∃ c, cls = .ref (ca.at_ c) ∧ d = none ∧ tSS X ⟨ca.at_, ⟨a, some c⟩⟩ W0 ms D σ H)
    hs hf hN hi hln hc tk (fun W' pn xe tk' po => hb _ pn xe (Takes.len tk') po) (fun a oe cls d pn hz hf' => ⟨fun pins s σ H D I w => by
      obtain ⟨c, rfl, rfl, q⟩ := w
      exact (hsu c a oe pn hz hf').run pins s σ H D I q⟩)) fun D σ H q => ?_
  obtain ⟨H0, F, α, rel, q⟩ := q.go
  refine tSS.mk rel ?_
  unfold sTry at q
  cases em : mb α with
  | nx α' => rw [em] at q; exact q
  | rt r => rw [em] at q; exact q
  | bad => rw [em] at q; exact q
  | er c =>
    rw [em] at q
    intro σ' H' s0 hl
    cases ec : catches c with
    | none =>
      have q : GS X ca W H0 F D (match catches c with | some true => suiteEnd i (ms ((List.replicate L Sv.un).set i (.exc c))) | some false => .er c | none => .bad) := q
      rw [ec] at q; exact q.elim
    | some b =>
      have q : GS X ca W H0 F D (match catches c with | some true => suiteEnd i (ms ((List.replicate L Sv.un).set i (.exc c))) | some false => .er c | none => .bad) := q
      rw [ec] at q
      refine ⟨b, hm c b ec, fun hbt a ha => ?_, fun hbf => ?_⟩
      · subst hbt
        have q : GS X ca W H0 F D (suiteEnd i (ms ((List.replicate L Sv.un).set i (.exc c)))) := q
        refine ⟨c, rfl, rfl, ?_⟩
        have hget : ∀ (j : Nat) s, ((List.replicate L Sv.un).set i (.exc c))[j]? = some s → (j = i ∧ s = .exc c) ∨ s = .un := fun j s e => by
          rcases get_set e with ⟨z1, z2⟩ | ⟨_, z⟩
          · exact .inl ⟨z1, z2⟩
          · exact .inr (List.eq_of_mem_replicate (List.mem_of_getElem? z))
        have iL : i < L := by rw [← hL]; exact (List.getElem?_eq_some_iff.mp hi).1
        have rel' : Rel X.K ⟨a, some c⟩ H0 F ((List.replicate L Sv.un).set i (.exc c)) (σ'.set i (some (.ref a))) H' := by
          refine ⟨by simp [hl, hL], s0, rel.ftr, fun j s e => ?_, fun j ds l e => ?_, fun j k ds es l e => ?_⟩
          · rcases hget j s e with ⟨z1, z2⟩ | z
            · subst z1; subst z2
              exact ⟨by rw [List.getElem?_set_self (by rw [hl, hL]; exact iL)], rfl⟩
            · subst z; trivial
          · rcases hget j _ e with ⟨_, z⟩ | z <;> cases z
          · rcases hget j _ e with ⟨_, z⟩ | z <;> cases z
        refine tSS.mk rel' ?_
        cases es : ms ((List.replicate L Sv.un).set i (.exc c)) with
        | nx α' =>
          rw [es] at q
          intro σ2 H2 r2
          exact q _ _ (r2.put (i := i) (s := .un) (o := none) (fun _ z => by cases z) (fun _ => trivial)).clear
        | rt r => rw [es] at q; exact q
        | er c' => rw [es] at q; exact q.elim
        | bad => rw [es] at q; exact q
      · subst hbf
        exact q σ' H' s0
def suiteEnd0 (o : SO) : SO := match o with
  | .nx α => .nx (clearX α)
  | .rt r => .rt r
  | _ => .bad
/-- except x: without a name -/
def sTry0 (L : Nat) (mb : MS) (catches : Ex → Option Bool) (ms : MS) : MS := fun α => match mb α with
  | .er c => match catches c with
    | some true => suiteEnd0 (ms (List.replicate L Sv.un))
    | some false => .er c
    | none => .bad
  | o => o
theorem ss_try0 {x : Str} {cv : Value} {L : Nat} {body suite : List Stmt} {b₀ : Stmt} {np pos' : Pos} {mb ms : MS} {catches : Ex → Option Bool} (hs : X.stack = X.env :: X.outer) (hf : X.env.frame = some X.env.locals) (hL : X.N.length = L) (hc : Names X x cv) (tk : Takes X W)
    (hm : ∀ c b, catches c = some b → PySem.W.exmOne X.K (.ref (ca.at_ c)) cv = some b)
    (hb : ∀ (W' : WX) (pn : List (Addr × Obj)) (xe : Value → Shared → Prop), Takes (X.tr pn xe) W' → PassesOwn (model X.prog X.w) X.A X.env xe → SSs (X.tr pn xe) ca W' body mb)
    (hsu : ∀ (c : Ex) (a : Addr) (oe : Obj) (pn : List (Addr × Obj)), Zc (.ref (ca.at_ c)) none oe → (∃ vs, oe.data = .fields vs) → SSs (X.suite a ((a, oe) :: pn)) ⟨ca.at_, ⟨a, some c⟩⟩ W0 (b₀ :: suite) ms) :
    SS X ca W (.Try body [.ExceptHandler (some (.Name x np)) none (b₀ :: suite) pos'] [] [] pos) (sTry0 L mb catches ms) := by
  refine PS.imp (ps_try_only (tb := fun W' => tSS X ca (fun cls d σ H => σ.length = X.N.length → W' cls d σ H) mb) (ts := fun a cls d D σ H => ∃ c, cls = .ref (ca.at_ c) ∧ d = none ∧ tSS X ⟨ca.at_, ⟨a, some c⟩⟩ W0 ms D σ H)
    hs hf hc tk (fun W' pn xe tk' po => hb _ pn xe (Takes.len tk') po) (fun a oe cls d pn hz hf' => ⟨fun pins s σ H D I w => by
      obtain ⟨c, rfl, rfl, q⟩ := w
      exact (hsu c a oe pn hz hf').run pins s σ H D I q⟩)) fun D σ H q => ?_
  obtain ⟨H0, F, α, rel, q⟩ := q.go
  refine tSS.mk rel ?_
  unfold sTry0 at q
  cases em : mb α with
  | nx α' => rw [em] at q; exact q
  | rt r => rw [em] at q; exact q
  | bad => rw [em] at q; exact q
  | er c =>
    rw [em] at q
    intro σ' H' s0 hl
    have q : GS X ca W H0 F D (match catches c with | some true => suiteEnd0 (ms (List.replicate L Sv.un)) | some false => .er c | none => .bad) := q
    cases ec : catches c with
    | none => rw [ec] at q; exact q.elim
    | some b =>
      rw [ec] at q
      refine ⟨b, hm c b ec, fun hbt a ha => ?_, fun hbf => ?_⟩
      · subst hbt
        have q : GS X ca W H0 F D (suiteEnd0 (ms (List.replicate L Sv.un))) := q
        refine ⟨c, rfl, rfl, ?_⟩
        have hget : ∀ (j : Nat) s, (List.replicate L Sv.un)[j]? = some s → s = .un := fun j s e => List.eq_of_mem_replicate (List.mem_of_getElem? e)
        have rel' : Rel X.K ⟨a, some c⟩ H0 F (List.replicate L Sv.un) σ' H' := by
          refine ⟨by simp [hl, hL], s0, rel.ftr, fun j s e => ?_, fun j ds l e => ?_, fun j k ds es l e => ?_⟩
          · rw [hget j s e]; trivial
          · cases hget j _ e
          · cases hget j _ e
        refine tSS.mk rel' ?_
        cases es : ms (List.replicate L Sv.un) with
        | nx α' =>
          rw [es] at q
          intro σ2 H2 r2
          exact q _ _ (r2.clear (xa' := ca.xi))
        | rt r => rw [es] at q; exact q
        | er c' => rw [es] at q; exact q.elim
        | bad => rw [es] at q; exact q
      · subst hbf
        exact q σ' H' s0
/-! ### isinstance(n, C) of what is handled -/
def mIsE (i : Nat) (tab : Ex → Option Bool) : M := fun α => match α[i]? with
  | some (.exc c) => match tab c with
    | some b => boolR b
    | none => .bad
  | _ => .bad
theorem se_isE {i : Nat} {n y : Str} {p p2 p3 : Pos} {tab : Ex → Option Bool} {at_ : Ex → Addr} {xc : Ex} {xa : Addr} {oe : Obj} {pn : List (Addr × Obj)} {cl : V} {cv : Value} (hz : Zc (.ref (at_ xc)) none oe) (hf : ∃ vs, oe.data = .fields vs)
    (hN : (X.suite xa ((xa, oe) :: pn)).N[i]? = some n) (hv : Vis (X.suite xa ((xa, oe) :: pn)).env.scope n) (hg : Gl (X.suite xa ((xa, oe) :: pn)) "isinstance") (hm : X.mg "isinstance" = none)
    (hy : PE (X.suite xa ((xa, oe) :: pn)) (.Name y p2) (tC cl)) (hcl : ∀ u, RelV cl u → u = cv) (hk : ∀ b, tab xc = some b → ExcC X.K (at_ xc) ∧ PySem.W.kitOne X.K (.ref (at_ xc)) cv = some b)
    (hd : (n == ("__debug__" : Str)) = false := by decide) (hcd : (n == ("__classdict__" : Str)) = false := by decide)
    (he : starEach [.Name n p3, .Name y p2] (X.suite xa ((xa, oe) :: pn)).env = (false, eval (.Name n p3) (X.suite xa ((xa, oe) :: pn)).env) :: starEach [.Name y p2] (X.suite xa ((xa, oe) :: pn)).env := by rfl)
    (he2 : starEach [.Name y p2] (X.suite xa ((xa, oe) :: pn)).env = (false, eval (.Name y p2) (X.suite xa ((xa, oe) :: pn)).env) :: starEach [] (X.suite xa ((xa, oe) :: pn)).env := by rfl)
    (hpl : (backTo pos (starEach [.Name y p2] (X.suite xa ((xa, oe) :: pn)).env)).any (·.1) = false := by rfl) :
    SE (X.suite xa ((xa, oe) :: pn)) ⟨at_, ⟨xa, some xc⟩⟩ W (.Call (.Name "isinstance" p) [.Name n p3, .Name y p2] [] pos) (mIsE i tab) := by
  cases et : tab xc with
  | none =>
    refine ⟨fun pins s σ H Q I w => ?_⟩
    exfalso
    obtain ⟨H0, F, α, rel, q⟩ := tS.go w
    unfold mIsE at q
    cases ea : α[i]? with
    | none => rw [ea] at q; exact q
    | some s =>
      rw [ea] at q
      cases s with
      | un => exact q
      | val d => exact q
      | own ds => exact q
      | exc c =>
        obtain ⟨e1, e2⟩ := rel.slot i _ ea
        have e2 : some xc = some c := e2
        cases e2
        have q : GO ⟨at_, ⟨xa, some xc⟩⟩ W σ (PV (X.suite xa ((xa, oe) :: pn)).K (Nn F α σ) Q) (match tab xc with | some b => boolR b | none => .bad) H := q
        rw [et] at q; exact q
  | some b =>
    obtain ⟨C, hk⟩ := hk b et
    refine PE.imp (pe_callB (call_isE (X := X) C hz hf) hg hm (by decide +kernel) (pa_cons (pe_var hN hv hd hcd) (pa_cons hy pa_nil he2) he) (he := he) (hpl := hpl)) fun σ H Q q => ?_
    obtain ⟨H0, F, α, rel, q⟩ := q.go
    unfold mIsE at q
    cases ea : α[i]? with
    | none => rw [ea] at q; exact q.elim
    | some s =>
      rw [ea] at q
      cases s with
      | un => exact q.elim
      | val d => exact q.elim
      | own ds => exact q.elim
      | exc c =>
        obtain ⟨e1, e2⟩ := rel.slot i _ ea
        have e2 : some xc = some c := e2
        cases e2
        have q : GO ⟨at_, ⟨xa, some xc⟩⟩ W σ (PV (X.suite xa ((xa, oe) :: pn)).K (Nn F α σ) Q) (match tab xc with | some b => boolR b | none => .bad) H := q
        rw [et] at q
        exact ⟨.ref xa, e1, cl, cv, b, rfl, hcl, hk, q _ H (Same.refl _) .bool⟩
/-! ### the program's errors by their names -/
def Ex.nm : Ex → Str
  | .BadField => "BadField"
  | .BadNumber => "BadNumber"
  | .BadWhole => "BadWhole"
  | .Zero => "Zero"
  | .BadRow => "BadRow"
  | .BadWay => "BadWay"
  | .BadBase => "BadBase"
  | .NoMaker => "NoMaker"
  | .BadText => "BadText"
/-- what an error of the classes pr is by the class D (none: one above all) -/
def isX (D : Option Ex) (c : Ex) : Bool := match D with
  | none => true
  | some d => decide (c = d)
def tabX (pr : List Ex) (D : Option Ex) (c : Ex) : Option Bool := if c ∈ pr then some (isX D c) else none
def excB (K : PySem.W.Frag) (D : Addr) : Bool := He.eqO (PySem.W.findIn K (.ref D) "__getattribute__") (some (some (.builtin "BaseException.__getattribute__"))) && (He.eqO (PySem.W.findIn K (.ref D) "__getattr__") (some none) &&
  (decide (PySem.W.subIn K (.ref D) (.type "BaseException") = some true) && (PySem.W.hasDictIn K D && (He.eqO (PySem.W.findIn K (.ref D) "__class__") (some (some (.builtin "object.__class__"))) &&
  (He.eqO (PySem.W.specialIn K (.builtin "object.__class__") "__get__") (some (some (.builtin "getset_descriptor.__get__"))) && (decide (PySem.W.takesIn K (.builtin "object.__class__") = some true) && decide (PySem.W.mroIn K D (.type "object") = some true)))))))
theorem excB_ok {K : PySem.W.Frag} {D : Addr} (h : excB K D = true) : ExcC K D := by
  unfold excB at h
  obtain ⟨h1, h⟩ := He.ba h
  obtain ⟨h2, h⟩ := He.ba h
  obtain ⟨h3, h⟩ := He.ba h
  obtain ⟨h4, h⟩ := He.ba h
  obtain ⟨h5, h⟩ := He.ba h
  obtain ⟨h6, h⟩ := He.ba h
  obtain ⟨h7, h8⟩ := He.ba h
  exact ⟨He.eqO_ok h1, He.eqO_ok h2, of_decide_eq_true h3, h4, He.eqO_ok h5, He.eqO_ok h6, of_decide_eq_true h7, of_decide_eq_true h8⟩
/-- of all classes pr: isinstance by the class at D -/
def kitB1 (K : PySem.W.Frag) (pr : List Ex) (cv : Value) (D : Option Ex) : Bool := pr.all fun c => decide (PySem.W.kitOne K (.ref (He.ga K c.nm)) cv = some (isX D c))
def exmB1 (K : PySem.W.Frag) (pr : List Ex) (cv : Value) (D : Option Ex) : Bool := pr.all fun c => decide (PySem.W.exmOne K (.ref (He.ga K c.nm)) cv = some (isX D c))
def excAll (K : PySem.W.Frag) (pr : List Ex) : Bool := pr.all fun c => excB K (He.ga K c.nm)
theorem tabX_mem {pr : List Ex} {D : Option Ex} {c : Ex} {b : Bool} (h : tabX pr D c = some b) : c ∈ pr ∧ b = (isX D c) := by
  unfold tabX at h
  split at h
  · rename_i hm; exact ⟨hm, (Option.some.inj h).symm⟩
  · cases h
theorem kit_of1 {K : PySem.W.Frag} {pr : List Ex} {cv : Value} {D : Option Ex} (h : kitB1 K pr cv D = true) (he : excAll K pr = true) (c : Ex) (b : Bool) (ht : tabX pr D c = some b) : ExcC K (He.ga K c.nm) ∧ PySem.W.kitOne K (.ref (He.ga K c.nm)) cv = some b := by
  obtain ⟨hm, rfl⟩ := tabX_mem ht
  exact ⟨excB_ok (List.all_eq_true.mp he c hm), of_decide_eq_true (List.all_eq_true.mp h c hm)⟩
theorem exm_of1 {K : PySem.W.Frag} {pr : List Ex} {cv : Value} {D : Option Ex} (h : exmB1 K pr cv D = true) (c : Ex) (b : Bool) (ht : tabX pr D c = some b) : PySem.W.exmOne K (.ref (He.ga K c.nm)) cv = some b := by
  obtain ⟨hm, rfl⟩ := tabX_mem ht
  exact of_decide_eq_true (List.all_eq_true.mp h c hm)
end
end FS

/-! FsQ: how mirrors are evaluated: comprehensions, loops; data of numbers and fields. -/
namespace FS
open PySem
/-- a comprehension whose tests are known -/
theorem compM_filter {β : Type} {T : Tg} {c : MB} {e : M} {α : En} (enc g : β → PyData) (q : β → Bool) : ∀ (items : List β),
    (∀ x ∈ items, ∃ α', T.put (enc x) α = some α' ∧ c α' = .ok (q x) ∧ (q x = true → ∃ r, e α' = .ok r ∧ stR r = .ok (g x))) → compM T c e α (items.map enc) = .ok ((items.filter q).map g)
  | [], _ => rfl
  | x :: r, h => by
    obtain ⟨α', h1, h2, h3⟩ := h x List.mem_cons_self
    have ih := compM_filter enc g q r fun y hy => h y (List.mem_cons_of_mem _ hy)
    rw [List.map_cons]
    unfold compM
    rw [h1]
    show (noErr (c α')).bind _ = _
    rw [h2]
    show (if q x = true then _ else _) = _
    cases hq : q x with
    | true =>
      obtain ⟨rr, e1, e2⟩ := h3 hq
      rw [if_pos rfl, e1]
      show (stR rr).bind _ = _
      rw [e2]
      show (compM T c e α (r.map enc)).bind _ = _
      rw [ih, List.filter_cons_of_pos hq]; rfl
    | false => rw [if_neg (by decide), ih, List.filter_cons_of_neg (by rw [hq]; decide)]
theorem compM_map {β : Type} {T : Tg} {c : MB} {e : M} {α : En} (enc g : β → PyData) (items : List β)
    (h : ∀ x ∈ items, ∃ α', T.put (enc x) α = some α' ∧ c α' = .ok true ∧ ∃ r, e α' = .ok r ∧ stR r = .ok (g x)) : compM T c e α (items.map enc) = .ok (items.map g) := by
  have := compM_filter (T := T) (c := c) (e := e) (α := α) enc g (fun _ => true) items fun x hx => by
    obtain ⟨α', h1, h2, h3⟩ := h x hx
    exact ⟨α', h1, h2, fun _ => h3⟩
  rwa [List.filter_eq_self.mpr (fun _ _ => rfl)] at this
/-- a for by an invariant over the turns -/
theorem forM_inv {β : Type} {T : Tg} {b : MS} (enc : β → PyData) : ∀ (items : List β) (I : List β → En → Prop) (pre : List β) (α : En), I pre α →
    (∀ (p : List β) x α, I p α → (∃ s, pre ++ items = p ++ x :: s) → ∃ α' α'', T.put (enc x) α = some α' ∧ b α' = .nx α'' ∧ I (p ++ [x]) α'') → ∃ α', forM T b (items.map enc) α = .nx α' ∧ I (pre ++ items) α'
  | [], I, pre, α, h0, _ => ⟨α, rfl, by rw [List.append_nil]; exact h0⟩
  | x :: r, I, pre, α, h0, hs => by
    obtain ⟨α', α'', h1, h2, h3⟩ := hs pre x α h0 ⟨r, rfl⟩
    obtain ⟨α3, h4, h5⟩ := forM_inv enc r I (pre ++ [x]) α'' h3 fun p y β' hp ⟨s, e⟩ => hs p y β' hp ⟨s, by rw [← e, List.append_assoc]; rfl⟩
    refine ⟨α3, ?_, by rw [List.append_assoc] at h5; exact h5⟩
    rw [List.map_cons]
    show (match T.put (enc x) α with | some α' => (b α').bind (forM T b (r.map enc)) | none => .bad) = _
    rw [h1]
    show (b α').bind _ = _
    rw [h2]
    exact h4
/-- .. from the start -/
theorem forM_run {β : Type} {T : Tg} {b : MS} (enc : β → PyData) (items : List β) (I : List β → En → Prop) (α : En) (h0 : I [] α)
    (hs : ∀ (p : List β) x α, I p α → (∃ s, items = p ++ x :: s) → ∃ α' α'', T.put (enc x) α = some α' ∧ b α' = .nx α'' ∧ I (p ++ [x]) α'') : ∃ α', forM T b (items.map enc) α = .nx α' ∧ I items α' :=
  forM_inv enc items I [] α h0 fun p x α hp e => hs p x α hp (by simpa using e)
/-- a for that ends by a return at some turn, or runs through: nothing is kept -/
theorem forM_find {β : Type} {T : Tg} {b : MS} (enc : β → PyData) (stop : β → Option R) (I : En → Prop) : ∀ (items : List β) (α : En), I α →
    (∀ x ∈ items, ∀ α, I α → ∃ α', T.put (enc x) α = some α' ∧ match stop x with
      | some r => b α' = .rt r
      | none => ∃ α'', b α' = .nx α'' ∧ I α'') → match items.findSome? stop with
      | some r => forM T b (items.map enc) α = .rt r
      | none => ∃ α', forM T b (items.map enc) α = .nx α' ∧ I α'
  | [], α, h0, _ => ⟨α, rfl, h0⟩
  | x :: r, α, h0, hs => by
    obtain ⟨α', h1, h2⟩ := hs x List.mem_cons_self α h0
    have un : forM T b ((x :: r).map enc) α = (b α').bind (forM T b (r.map enc)) := by
      rw [List.map_cons]
      show (match T.put (enc x) α with | some α' => (b α').bind (forM T b (r.map enc)) | none => .bad) = _
      rw [h1]
    cases e : stop x with
    | some rr =>
      rw [e] at h2
      rw [List.findSome?_cons, e]
      show forM T b ((x :: r).map enc) α = .rt rr
      rw [un, h2]; rfl
    | none =>
      rw [e] at h2
      obtain ⟨α'', h3, h4⟩ := h2
      have ih := forM_find enc stop I r α'' h4 fun y hy => hs y (List.mem_cons_of_mem _ hy)
      rw [List.findSome?_cons, e]
      show (match r.findSome? stop with | some r' => forM T b ((x :: r).map enc) α = .rt r' | none => ∃ α', forM T b ((x :: r).map enc) α = .nx α' ∧ I α')
      rw [un, h3]
      exact ih
theorem zipD_map {β γ : Type} (f : β → PyData) (g : γ → PyData) : ∀ (xs : List β) (ys : List γ), zipD (xs.map f) (ys.map g) = (xs.zip ys).map fun q => .tuple [f q.1, g q.2]
  | [], _ => by simp [zipD]
  | _ :: _, [] => by simp [zipD]
  | x :: xs, y :: ys => by simp [zipD, zipD_map f g xs ys]
theorem enumF_map {β : Type} (f : β → PyData) : ∀ (i : Nat) (xs : List β), enumF i (xs.map f) = (xs.zipIdx i).map fun q => .tuple [.int (q.2 : Nat), f q.1]
  | _, [] => rfl
  | i, x :: xs => by simp [enumF, enumF_map f (i + 1) xs]
/-! ### numbers and fields as data -/
abbrev Nu := List Int
def eN (a : Nu) : PyData := .tuple (a.map PyData.int)
def eF (f : Int × Nu) : PyData := .tuple [.int f.1, eN f.2]
theorem eqvAll_ints : ∀ (a b : Nu), PyData.eqvAll (a.map PyData.int) (b.map PyData.int) = decide (a = b)
  | [], [] => by simp [PyData.eqvAll]
  | [], _ :: _ => by simp [PyData.eqvAll]
  | _ :: _, [] => by simp [PyData.eqvAll]
  | x :: a, y :: b => by
    rw [List.map_cons, List.map_cons]
    unfold PyData.eqvAll
    rw [eqvAll_ints a b]
    show ((x == y) && decide (a = b)) = decide (x :: a = y :: b)
    by_cases h : x = y
    · subst h; by_cases h2 : a = b
      · subst h2; simp
      · simp [h2]
    · simp [h]
theorem eqv_eN (a b : Nu) : PyData.eqv (eN a) (eN b) = decide (a = b) := by
  unfold eN; show PyData.eqvAll _ _ = _; exact eqvAll_ints a b
theorem canLay_ints : ∀ (a : Nu), PyData.canLayAll0 (a.map PyData.int) = true
  | [] => rfl
  | x :: a => by rw [List.map_cons]; unfold PyData.canLayAll0; rw [canLay_ints a]; rfl
theorem depth_ints : ∀ (a : Nu), PyData.depthAll (a.map PyData.int) ≤ 1
  | [] => by simp [PyData.depthAll]
  | x :: a => by rw [List.map_cons]; unfold PyData.depthAll; have := depth_ints a; simp [PyData.depth]; omega
theorem shaped_eN (a : Nu) : SeqAt.shaped (eN a) = true := by
  unfold SeqAt.shaped eN
  have h1 : PyData.canLay0 (.tuple (a.map PyData.int)) = true := by unfold PyData.canLay0; exact canLay_ints a
  have h2 := depth_ints a
  have h3 : PyData.depth (.tuple (a.map PyData.int)) ≤ 64 := by unfold PyData.depth; omega
  rw [h1, decide_eq_true h3]; rfl
theorem shaped_int (i : Int) : SeqAt.shaped (.int i) = true := by
  unfold SeqAt.shaped; simp [PyData.canLay0, PyData.depth]
theorem eqD_eN (a b : Nu) : eqD (eN a) (eN b) = boolR (decide (a = b)) := by unfold eqD; rw [shaped_eN, shaped_eN, eqv_eN]; rfl
theorem neD_eN (a b : Nu) : neD (eN a) (eN b) = boolR (!decide (a = b)) := by unfold neD; rw [shaped_eN, shaped_eN, eqv_eN]; rfl
theorem eqD_int (a b : Int) : eqD (.int a) (.int b) = boolR (decide (a = b)) := by
  unfold eqD; rw [shaped_int, shaped_int]
  exact rfl
theorem neD_int (a b : Int) : neD (.int a) (.int b) = boolR (!decide (a = b)) := by
  unfold neD; rw [shaped_int, shaped_int]
  exact rfl
theorem len_line {n : Nat} (h : n ≤ 1000000) : n ≤ sizeLine := Nat.le_trans h (by decide)
end FS

namespace FS
open PySem PySem.Spec PyProof.Rows L2
section
variable {X : Cx} {ca : Cc} {W : WX} {e : Expr} {st : Stmt}
/-! ### what is not told: a mirror that says nothing -/
def mBad : M := fun _ => .bad
def sBad : MS := fun _ => .bad
theorem se_bad : SE X ca W e mBad := ⟨fun pins s σ H Q I w => by obtain ⟨H0, F, α, rel, q⟩ := w; exact q.elim⟩
theorem ss_bad : SS X ca W st sBad := ⟨fun pins s σ H D I w => by obtain ⟨H0, F, α, rel, q⟩ := w; exact q.elim⟩
end
end FS

/-! FsS: t[::-1] of a tuple -/
namespace FS
open PySem PySem.Spec PyProof.Rows L2 HT
section
variable {prog : Program} {w : World} {A : Around} {E : Value → Shared → Prop} {s : Shared}
theorem back_places (n : Nat) : Builtin.Slice.slicePlaces ((n : Int) - 1) (-1) (-1) = n := by
  unfold Builtin.Slice.slicePlaces
  rw [if_neg (by omega)]
  rcases Nat.eq_zero_or_pos n with rfl | h
  · rfl
  · rw [if_pos (by omega)]
    simp only [Int.neg_neg, Int.ediv_one]
    omega
theorem back_applied {sl : Addr} {vl vu vs : Value} {n : Nat} {Q : Int × Int × Nat → Shared → Prop} (hs : s.heap.IsSliceOf sl vl vu vs) (pl : IsPart vl none) (pu : IsPart vu none) (ps : IsPart vs (some (-1)))
    (h : Q ((n : Int) - 1, -1, n) s) : wpAny (model prog w) A (Builtin.Slice.sliceApplied (.ref sl) (pure (n : Int))) Q E s := by
  obtain ⟨os, hos, hcs, hds⟩ := id hs
  unfold Builtin.Slice.sliceApplied Builtin.Slice.sliceFields
  refine wpAny_bind (wpAny_bind (wpAny_field hos hds (x := vl) rfl ?_))
  refine wpAny_bind (wpAny_field hos hds (x := vu) rfl (wpAny_bind (wpAny_field hos hds (x := vs) rfl (wpAny_pure ?_))))
  refine wpAny_bind (slicePart_ ps ?_)
  show wpAny _ _ (if ((-1 : Int) == 0) = true then _ else _) _ _ s
  rw [if_neg (by decide)]
  refine wpAny_bind (slicePart_ pl (wpAny_bind (slicePart_ pu (wpAny_bind (wpAny_pure ?_)))))
  show wpAny _ _ (pure ((n : Int) - 1, (-1 : Int), Builtin.Slice.slicePlaces ((n : Int) - 1) (-1) (-1))) _ _ s
  rw [back_places]
  exact wpAny_pure h
theorem back_pick (xs : Array Value) : ((List.range xs.size).filterMap fun (m : Nat) => xs[((xs.size : Int) - 1 + (m : Int) * -1).toNat]?).toArray = xs.toList.reverse.toArray := by
  have e : ∀ m ∈ List.range xs.size, xs[((xs.size : Int) - 1 + (m : Int) * -1).toNat]? = xs[xs.size - 1 - m]? := by
    intro m hm
    have := List.mem_range.mp hm
    congr 1
    omega
  have cg : ∀ l : List Nat, (∀ m ∈ l, xs[((xs.size : Int) - 1 + (m : Int) * -1).toNat]? = xs[xs.size - 1 - m]?) → l.filterMap (fun (m : Nat) => xs[((xs.size : Int) - 1 + (m : Int) * -1).toNat]?) = l.filterMap (fun m => xs[xs.size - 1 - m]?) := by
    intro l h
    induction l with
    | nil => rfl
    | cons x l ih => rw [List.filterMap_cons, List.filterMap_cons, h x (by simp), ih fun m hm => h m (by simp [hm])]
  rw [cg _ e]
  have := congrArg (List.filterMap fun k => xs[k]?) (PySem.W.krv_range xs.size)
  rw [List.filterMap_map, List.filterMap_reverse, PySem.W.krv_all] at this
  exact congrArg List.toArray this
theorem back_tuple {t sl : Addr} {items : Array Value} {vl vu vs : Value} {Q : Value → Shared → Prop} (ht : IsTup s.heap t items) (hs : s.heap.IsSliceOf sl vl vu vs) (pl : IsPart vl none) (pu : IsPart vu none) (ps : IsPart vs (some (-1)))
    (h : Q (.ref s.heap.objs.size) { s with heap := s.heap.push { cls := .type "tuple", data := .seq items.toList.reverse.toArray } })
    (hsz : items.size ≤ sizeLine) : wpAny (model prog w) A (getItem (.ref t) (.ref sl)) Q E s := by
  have hk : sizeOk (.seq items.toList.reverse.toArray) := by
    show items.toList.reverse.toArray.size ≤ sizeLine
    rw [List.size_toArray, List.length_reverse, Array.length_toList]
    exact hsz
  obtain ⟨os, hos, hcs, hds⟩ := id hs
  have hTs : s.TypeIs (.ref sl) "slice" := ⟨os, hos, hcs⟩
  unfold getItem
  try with_reducible refine wpAny_holding ?_
  first | refine wpAny_bind (wpAny_pure ?_) | skip
  refine wpAny_bind (wpAny_sequenceKey ht.typeIs (by decide) ?_)
  refine wpAny_bind (wpAny_callSpecial?_slot (name := Str.ofString "__getitem__") ht.typeIs PyProof.Rows.slot_tuple_getitem (wpAny_call_entry PyProof.Rows.slot_tuple_getitem ht.typeIs entry_tuple_getitem ?_ (args_tuple_getitem _ _)))
  show wpAny _ _ (Builtin.Tuple.tupleItemsOf (.ref t) >>= _) _ _ s
  refine wpAny_bind (tupleItemsOf_ ht (wpAny_bind (wpAny_typeOf hTs ?_)))
  rw [if_pos (by decide)]
  refine wpAny_bind (back_applied hs pl pu ps ?_)
  show wpAny _ _ (if (((items.size : Int) - 1 == 0 && (-1 : Int) == 1) && items.size == items.size) = true then _ else _) _ _ s
  rw [if_neg (by simp), back_pick]
  first
    | exact wpAny_bind (m := Builtin.Tuple.tupleExact _) (wpAny_newObj_type (wpAny_pure ⟨_, rfl, wpAny_pure h⟩) hk)
    | exact wpAny_bind (m := Builtin.Tuple.tupleExact _) (wpAny_newObj_type (wpAny_bind (wpAny_pure (wpAny_pure ⟨_, rfl, wpAny_pure h⟩))) hk)
    | exact wpAny_bind (wpAny_bind (m := Builtin.Tuple.tupleExact _) (wpAny_newObj_type (wpAny_pure (wpAny_pure ⟨_, rfl, wpAny_pure h⟩)) hk))
    | exact wpAny_bind (wpAny_bind (m := Builtin.Tuple.tupleExact _) (wpAny_newObj_type (wpAny_pure ⟨_, rfl, wpAny_pure h⟩) hk))
end
section
variable {X : Cx} {ca : Cc} {W : WX} {a e : Expr} {ma : M} {pos : Pos}
def tRevA (K : PySem.W.Frag) (te : TE) : TE := fun σ H Q => te σ H fun x H1 => ∃ a xs, x = .ref a ∧
  ((SqL K H1 a xs ∧ ∀ p, H1 p = none → Q (.ref p) (upd H1 p (.lst xs.reverse))) ∨ (SqT K H1 a xs ∧ ∀ p, H1 p = none → Q (.ref p) (upd H1 p (.tup xs.reverse))))
theorem pe_revA {te : TE} {k : Nat} {p1 p2 p3 : Pos} (he : PE X e te) : PE X (.Subscript e (.Slice none none (some (.UnaryOp .USub (.Constant (.int 1) k p1) p2)) p3) pos) (tRevA X.K te) := by
  refine ⟨fun pins s σ H Q I h => ?_⟩
  refine Subscript_ (thn (he.run pins s σ H _ I h) fun v s1 ⟨x, H1, I1, r1, q1⟩ => ?_)
  obtain ⟨a, xs, rfl, q⟩ := q1
  cases r1
  have one : PO X (some (.UnaryOp .USub (.Constant (.int 1) k p1) p2)) (tPart (tUn (rU fun i => .int (-i)) (tC (.int 1)))) := po_some (pe_un un_neg pe_int)
  refine wpAny_Slice (thn (po_none.run pins s1 σ H1 (fun o K2 => o = none ∧ K2 = H1) I1 ⟨rfl, rfl⟩) fun vl s2 ⟨_, _, I2, pl, z1, z2⟩ => ?_)
  subst z1 z2
  refine thn (po_none.run pins s2 σ _ (fun o K3 => o = none ∧ K3 = _) I2 ⟨rfl, rfl⟩) fun vu s3 ⟨_, _, I3, pu, z3, z4⟩ => ?_
  subst z3 z4
  refine thn (one.run pins s3 σ _ (fun o K4 => o = some (-1) ∧ K4 = _) I3 ⟨1, rfl, -1, rfl, rfl, rfl⟩) fun vs s4 ⟨_, H4, I4, ps, z5, z6⟩ => ?_
  subst z5 z6
  have I5 : Inv X pins σ H4 { s4 with heap := s4.heap.push { cls := .type "slice", data := .fields #[vl, vu, vs] } } := I4.kept (t' := s4.toks) fun b ob q => Heap.get?_push_of_some _ q
  show wpAny (model X.prog X.w) X.A (subscriptTail e (.Slice none none (some (.UnaryOp .USub (.Constant (.int 1) k p1) p2)) p3) (.ref a) (.ref s4.heap.objs.size)) (EP X pins σ Q) X.xe { s4 with heap := s4.heap.push { cls := .type "slice", data := .fields #[vl, vu, vs] } }
  rcases q with ⟨hx, q⟩ | ⟨hx, q⟩
  · obtain ⟨its, r, ht, hz⟩ := I5.list hx
    have hlen := r.length
    refine tail_any (ops := [.ref a, .ref s4.heap.objs.size]) ht.isList.typeIs (PySem.slot_list_getitem.lookup) ?_ (by with_unfolding_all rfl)
    refine wpAny_getItem_list_slice ht.isList (Heap.IsSliceOf.new _ vl vu vs) pl pu ps (by decide) ?_ (by rw [List.size_toArray]; omega)
    rw [PySem.W.krv_pick]
    refine ⟨.ref _, _, I5.laid (t' := s4.toks) (o := .lst xs.reverse) (fun b ob q => Heap.get?_push_of_some _ q) (Nat.le_refl _) ?_, rfl, q _ (I5.hok.fresh (Nat.le_refl _))⟩
    exact ⟨by rw [List.length_reverse]; exact hz, _, 0, r.reverse, Heap.get?_push_size _ rfl⟩
  · obtain ⟨its, r, ht, hz⟩ := I5.tuple hx
    have hlen := r.length
    refine tail_any (ops := [.ref a, .ref s4.heap.objs.size]) ht.typeIs (PyProof.Rows.slot_tuple_getitem.lookup) ?_ (by with_unfolding_all rfl)
    refine back_tuple ht (Heap.IsSliceOf.new _ vl vu vs) pl pu ps ?_ (by rw [List.size_toArray]; omega)
    refine ⟨.ref _, _, I5.laid (t' := s4.toks) (o := .tup xs.reverse) (fun b ob q => Heap.get?_push_of_some _ q) (Nat.le_refl _) ?_, rfl, q _ (I5.hok.fresh (Nat.le_refl _))⟩
    exact ⟨by rw [List.length_reverse]; exact hz, _, r.reverse, _, Heap.get?_push_size _ rfl, rfl, 0, rfl⟩
def mRevA (a : M) : M := fun α => (a α).bind fun x => match x.d with
  | .list ds => .ok ⟨.f, .list ds.reverse⟩
  | .tuple ds => .ok ⟨.v, .tuple ds.reverse⟩
  | _ => .bad
theorem se_revA {k : Nat} {p1 p2 p3 : Pos} (ha : SE X ca W a ma) : SE X ca W (.Subscript a (.Slice none none (some (.UnaryOp .USub (.Constant (.int 1) k p1) p2)) p3) pos) (mRevA ma) := by
  refine PE.imp (pe_revA ha) fun σ H Q q => ?_
  obtain ⟨H0, F, α, rel, q⟩ := q.go
  refine tS.seq rel PV.mono q fun rx x H1 s1 x1 rel1 q1 => ?_
  obtain ⟨k, d⟩ := rx
  cases d with
  | list ds =>
    obtain ⟨p, vs, rfl, hp, t⟩ := (x1.rd).lst
    exact ⟨p, vs, rfl, .inl ⟨hp, fun p2 hp2 => q1 _ _ (Same.new hp2) (.newL hp2 t.rev)⟩⟩
  | tuple ds =>
    obtain ⟨p, vs, rfl, hp, t⟩ := (x1.rd).tup
    exact ⟨p, vs, rfl, .inr ⟨hp, fun p2 hp2 => q1 _ _ (Same.new hp2) (.newT hp2 t.rev)⟩⟩
  | _ => exact q1.elim
end
end FS

/-! FsT: xs[i], xs[j] = a, b on a list of one's own -/
namespace FS
open PySem PySem.Spec PyProof.Rows L2
theorem Rel.keepU {K : PySem.W.Frag} {xa : Xi} {H0 H : Hp} {F : Addr → Prop} {α : En} {σ : L2.St} (r : Rel K xa H0 F α σ H) {i : Nat} {ds ds' : List PyData} {l : Addr} {vs vs' : List V} (e : α[i]? = some (.own ds)) (es : σ[i]? = some (some (.ref l))) (hl : H l = some (.lst vs))
    {v : V} {d : PyData} (x : DN K (Nn F α σ) H v d) : DN K (Nn F (α.set i (.own ds')) σ) (L2.upd H l (.lst vs')) v d := by
  have nn : ∀ a, Nn F (α.set i (.own ds')) σ a → Nn F α σ a := fun a h => by
    rcases h with h | ⟨j, fs, e1, e2⟩
    · exact .inl h
    · rcases get_set e1 with ⟨z, w⟩ | ⟨ne, e1⟩
      · subst z; exact .inr ⟨j, ds, e, e2⟩
      · exact .inr ⟨j, fs, e1, e2⟩
  have isN : Nn F α σ l := .inr ⟨i, ds, e, es⟩
  refine x.stay ⟨fun a xs n h => ⟨fun z => n (nn a z), ?_⟩, fun a o xs n h => ⟨fun z => n (nn a z), ?_⟩, fun a xs h => ?_, fun a o xs h => ?_⟩
  · rw [upd_ne fun z => n (by rw [z]; exact isN)]; exact h
  · rw [upd_ne fun z => n (by rw [z]; exact isN)]; exact h
  · rw [upd_ne (ne_of h hl (fun z => by cases z))]; exact h
  · rw [upd_ne (ne_of h hl (fun z => by cases z))]; exact h
section
variable {X : Cx} {ca : Cc} {W : WX} {a b e : Expr} {ma mb mc : M} {pos : Pos}
def putM (i : Nat) (ix : M) (d : PyData) (α : En) (f : En → SO) : SO := ownAt i α fun ds => (ix α).so fun k => match k.d with
  | .int k => match ixN ds.length k with
    | some j => f (α.set i (.own (ds.set j d)))
    | none => .bad
  | _ => .bad
theorem gput {i : Nat} {d : PyData} {v : V} {D : Ends} {H0 H : Hp} {F : Addr → Prop} {α : En} {σ : L2.St} {f : En → SO} {Q : L2.St → Hp → Prop} (rel : Rel X.K ca.xi H0 F α σ H) (dn : DN X.K (Nn F α σ) H v d) (q : GS X ca W H0 F D (putM i mb d α f))
    (k : ∀ α' H', Rel X.K ca.xi H0 F α' σ H' → (∀ u c, DN X.K (Nn F α σ) H u c → DN X.K (Nn F α' σ) H' u c) → GS X ca W H0 F D (f α') → Q σ H') : gSub (tVar i) (tS X ca W mb) rSetL v σ H Q := by
  obtain ⟨ds, eo, q⟩ := ownAt_go q
  obtain ⟨l, vs, es, hl, t⟩ := rel.slot i _ eo
  refine ⟨.ref l, es, ?_⟩
  refine tS.so (β := Unit) rel q fun kr w H2 s2 x2 rel2 q2 => ?_
  obtain ⟨kk, kd⟩ := kr
  cases kd with
  | int z =>
    have q2 : GS X ca W H0 F D (match ixN ds.length z with | some j => f (α.set i (.own (ds.set j d))) | none => .bad) := q2
    cases e3 : ixN ds.length z with
    | none => rw [e3] at q2; exact q2.elim
    | some j =>
      rw [e3] at q2
      have hl2 := s2 _ _ hl
      exact ⟨l, vs, z, j, rfl, x2.int rfl, hl2, by rw [t.length]; exact e3, k _ _ (rel2.upd eo es hl2 ((t.same s2).set j (dn.same s2))) (fun u c x => rel2.keepU eo es hl2 (x.same s2)) q2⟩
  | _ => exact q2.elim
def swapM (i : Nat) (ix jx : M) (α : En) (d : PyData) : SO := match d with
  | .tuple [c, d] => putM i ix c α fun α1 => putM i jx d α1 fun α2 => .nx α2
  | _ => .bad
def sSwap (i : Nat) (ix jx v : M) : MS := fun α => ((v α).bind stR).so fun d => swapM i ix jx α d
theorem ss_swap {i : Nat} {x : Str} {p p2 p3 p4 p5 : Pos} {kt : Nat} (hc : X.calm = true) (hN : X.N[i]? = some x) (hv : Vis X.env.scope x) (hix : SE X ca W a mb) (hjx : SE X ca W b mc) (he : SE X ca W e ma) (hd : (x == ("__debug__" : Str)) = false := by decide) (hcd : (x == ("__classdict__" : Str)) = false := by decide)
    (ha : ∀ v, assign (.Subscript (.Name x p) a p2) X.env v = (do
      let ov ← holding [v] (eval (.Name x p) X.env)
      let iv ← holding [v, ov] (eval a X.env)
      standAt p2
      holding [v, ov, iv] (setItem ov iv v)
      release [v, ov, iv] []) := by intro _; rfl)
    (hb : ∀ v, assign (.Subscript (.Name x p3) b p4) X.env v = (do
      let ov ← holding [v] (eval (.Name x p3) X.env)
      let iv ← holding [v, ov] (eval b X.env)
      standAt p4
      holding [v, ov, iv] (setItem ov iv v)
      release [v, ov, iv] []) := by intro _; rfl)
    (g1 : (assignEach [.Subscript (.Name x p) a p2, .Subscript (.Name x p3) b p4] X.env).map (·.2) = assign (.Subscript (.Name x p) a p2) X.env :: (assignEach [.Subscript (.Name x p3) b p4] X.env).map (·.2) := by rfl)
    (g2 : (assignEach [.Subscript (.Name x p3) b p4] X.env).map (·.2) = assign (.Subscript (.Name x p3) b p4) X.env :: (assignEach [] X.env).map (·.2) := by rfl)
    (g3 : (assignEach [.Subscript (.Name x p) a p2, .Subscript (.Name x p3) b p4] X.env).length = 2 := by rfl)
    (g4 : (assignEach [.Subscript (.Name x p) a p2, .Subscript (.Name x p3) b p4] X.env).findIdx? (·.1) = none := by rfl)
    (hs : swapsWithSole [.Tuple [.Subscript (.Name x p) a p2, .Subscript (.Name x p3) b p4] kt p5] e pos.line X.env = pure false := by rfl)
    (hw : swappedStores [.Tuple [.Subscript (.Name x p) a p2, .Subscript (.Name x p3) b p4] kt p5] e X.env = pure none := by rfl)
    (h1 : (assignEach [.Tuple [.Subscript (.Name x p) a p2, .Subscript (.Name x p3) b p4] kt p5] X.env).map (·.2) = [assign (.Tuple [.Subscript (.Name x p) a p2, .Subscript (.Name x p3) b p4] kt p5) X.env] := by rfl) :
    SS X ca W (.Assign [.Tuple [.Subscript (.Name x p) a p2, .Subscript (.Name x p3) b p4] kt p5] e pos) (sSwap i mb mc ma) :=
  PS.imp (ps_asg he (pg_tup hc (pgs_cons (pg_sub (pe_var hN hv hd hcd) hix set_list ha) (pgs_cons (pg_sub (pe_var hN hv hd hcd) hjx set_list hb) pgs_nil g2) g1) g3 g4) hs hw h1) fun D σ H q => by
  obtain ⟨H0, F, α, rel, q⟩ := q.go
  refine tS.mk rel ?_
  unfold sSwap at q
  cases e1 : ma α with
  | err c => rw [e1] at q; exact fun H' s => q σ H' (rel.base.trans s)
  | bad => rw [e1] at q; exact q
  | ok r =>
    rw [e1] at q
    intro v H1 s1 x1
    have rel1 := rel.same s1
    cases e2 : stR r with
    | err c => exact absurd e2 (stR_ne r c)
    | bad => rw [Out.bind_ok, e2] at q; exact q.elim
    | ok d =>
      rw [Out.bind_ok, e2] at q
      obtain ⟨h1, h2⟩ := stR_ok e2
      subst h2
      have dn := x1.store h1 fun l hl => rel.new hl
      obtain ⟨kk, d⟩ := r
      replace q : GS X ca W H0 F D (swapM i mb mc α d) := q
      replace dn : DN X.K (Nn F α σ) H1 v d := dn
      clear e1 e2 x1 h1
      unfold swapM at q
      split at q
      · cases dn with
        | tup sq t =>
          cases t with
          | cons u t =>
            cases t with
            | cons w t =>
              cases t
              refine ⟨_, _, rfl, sq, rfl, _, _, rfl, gput rel1 u q fun α' H' rel' kp q' => ⟨_, _, rfl, gput rel' (kp _ _ w) q' fun α2 H2 rel2 _ q2 => ⟨rfl, q2 _ _ rel2⟩⟩⟩
      · exact q.elim
end
end FS

/-! FsU: the end of a law whose def is a mirror -/
namespace FS
open PySem PySem.Spec PyProof.Rows L2
theorem fnok_mk {ca : Ex → Addr} {P : Program} {w : World} {K : PySem.W.Frag} {mg : Str → Option Value} {base : Heap} {x : Str} {st : Stmt} {f : Addr} {fd : FuncData} {NM ps : List Str} {k n L : Nat} {m : MS}
    (F : FunD K x x (defArgs st) (defBody st) (defScope st) [] [] f fd) (S : FnScope NM ps (defScope st)) (hn : ps.length = n) (hL : NM.length = L)
    (hbody : ∀ (cdv : Value) (A : Around) (outer : List Env) (s : Shared) (H : Hp) (E : XK), Room k (cxOf (L2.CX P w) P w K mg base NM x (defScope st) f cdv A outer s H E).A →
      SSs (cxOf (L2.CX P w) P w K mg base NM x (defScope st) f cdv A outer s H E) ⟨ca, ⟨0, none⟩⟩ (WD E) (defBody st) m) : FnOk P w K mg base (L2.CX P w) (k + 1) f fd ps (spF ca K n (bodyM L m)) := by
  subst hL
  refine F.ok S (fun vs H Q E h => ?_) (fun cdv A outer s H vs Q E hr h => ⟨_, hbody cdv A outer s H E hr, ?_⟩)
  · obtain ⟨N, ds, _, x, hl, _⟩ := h
    rw [x.length, hl, hn]
  · obtain ⟨N, ds, tr, x, hl, q⟩ := h
    refine tSS.mk (Rel.start tr x NM) ?_
    unfold bodyM at q
    cases e : m (startE NM.length ds) with
    | nx α' => rw [e] at q; exact fun σ' H' r' => q .non H' r'.base DN.non
    | rt r => rw [e] at q; exact fun v H' s0 x0 => q v H' s0 x0
    | er c => rw [e] at q; exact fun σ' H' s0 => q H' s0
    | bad => rw [e] at q; exact q
theorem sp_true {ca : Ex → Addr} {K : PySem.W.Frag} {mf : Fn} {H : Hp} {a : Addr} {ns : List Int} (h : mf [.list (ns.map .int)] = .ok ⟨.v, .bool true⟩) (hS : SqL K H a (ns.map V.int)) : spF ca K 1 mf [.ref a] H (fun v _ => v = .bl true) fun _ _ _ => False := by
  refine ⟨fun _ => False, [.list (ns.map .int)], fun _ z => z.elim, .cons (.lst ?_ (DNs.ofInts ns)) .nil, rfl, ?_⟩
  · rcases hS with z | z
    · exact .inl ⟨fun z => z, z⟩
    · exact .inr z
  · rw [h]
    intro v H' s x
    exact x.bl rfl
theorem walk_pure {l : PySem.W.OpenLaw} {n k : Nat} {q : Program} {loose : List Str} {XP : (Str → Option Value) → Heap → Prop} {YP : World → Heap → Prop} {d : DefRec} {x : Str} {mf : Fn}
    (hn : l.most = some n) (hn2 : n ≤ sizeLine) (hdf : d.params.defaults = []) (hr : Room k callerA)
    (F : ∀ (w : World) (mg : Str → Option Value) (fa : Addr) (h : Heap), YP w h → h.Ns mainGlobals mg → mg d.name = some (.ref fa) →
      ∃ (K : PySem.W.Frag) (fd : FuncData) (ca : Ex → Addr), K.In h ∧ (∀ (s : Shared) (u : Value), BindsTo s fd ⟨[u], []⟩ [(x, u)]) ∧
        ∀ base : Heap, K.In base → base.Ns mainGlobals mg → FnOk l.prog w K mg base (L2.CX l.prog w) k fa fd [x] (spF ca K 1 mf))
    (law : ∀ ns : List Int, ns.length ≤ n → (∀ k ∈ ns, Builtin.Int.intBits k ≤ 1048576) → mf [.list (ns.map .int)] = .ok ⟨.v, .bool true⟩) :
    PySem.W.WalkO q loose XP YP l.row.toRowW d [] (fun f vs => PySem.call f vs) := by
  refine Att.attach_callB hn hdf fun w s₀ s₁ mg mb fa o pm cd doc a vs ns G Y ho hd hcd hmg hobj hints hlen hbits hg => ?_
  obtain ⟨K, fd, ca, KX, hb, hF⟩ := F w mg fa _ Y G.T.g hmg
  refine law_call KX G.T.g G.T.b G.T.builtins G.T.nolimit hg hobj hints (Nat.le_trans hlen hn2) hr hF hb (fun H hO hS => sp_true (law ns hlen hbits) hS) fun H e s' z => ?_
  obtain ⟨_, _, _, _, _, _, _, _, _, _, _, _, z⟩ := z
  exact z
end FS

/-! FsV: the mirrors' words told as equations (not by rfl, so that nothing deep is compared) -/
namespace FS
open PySem L2
theorem nr {β : Sort _} {a b : β} (h : a = b) : a = b := h
section
variable {α β : En} {a b c : M} {x y : MA} {s t : MS} {ta tb : MB} {g g' : G2} {i j n : Nat} {d : PyData} {ds : List PyData} {r : R} {rs : List R} {e : Ex} {k : Bool} {z w : Int}
theorem v_body {m : MS} (h : m (startE n ds) = .rt r) : bodyM n m ds = .ok r := by unfold bodyM; rw [h]
theorem v_bodyE {m : MS} (h : m (startE n ds) = .er e) : bodyM n m ds = .err e := by unfold bodyM; rw [h]
theorem v_bodyN {m : MS} (h : m (startE n ds) = .nx β) : bodyM n m ds = .ok ⟨.v, .none⟩ := by unfold bodyM; rw [h]
theorem v_seq (h : s α = .nx β) : mSeq s t α = t β := by unfold mSeq; rw [h]; rfl
theorem v_seqR (h : s α = .rt r) : mSeq s t α = .rt r := by unfold mSeq; rw [h]; rfl
theorem v_seqE (h : s α = .er e) : mSeq s t α = .er e := by unfold mSeq; rw [h]; rfl
theorem v_asg (h : a α = .ok ⟨.v, d⟩) : sAsg i a α = .nx (α.set i (.val d)) := by unfold sAsg; rw [h]; rfl
theorem v_asgF (h : a α = .ok ⟨.f, .list ds⟩) : sAsg i a α = .nx (α.set i (.own ds)) := by unfold sAsg; rw [h]; rfl
theorem v_asgE (h : a α = .err e) : sAsg i a α = .er e := by unfold sAsg; rw [h]; rfl
theorem v_ret (h : a α = .ok ⟨.v, d⟩) : sRet a α = .rt ⟨.v, d⟩ := by unfold sRet; rw [h]; rfl
theorem v_retF (h : a α = .ok ⟨.f, d⟩) : sRet a α = .rt ⟨.f, d⟩ := by unfold sRet; rw [h]; rfl
theorem v_retE (h : a α = .err e) : sRet a α = .er e := by unfold sRet; rw [h]; rfl
theorem v_retO (h : α[i]? = some (.own ds)) : sRetO i α = .rt ⟨.f, .list ds⟩ := by unfold sRetO; rw [h]
theorem v_retV (h : α[i]? = some (.val d)) : sRetO i α = .rt ⟨.v, d⟩ := by unfold sRetO; rw [h]
theorem v_ifT (h : ta α = .ok true) : sIf ta s t α = s α := by unfold sIf; rw [h]; rfl
theorem v_ifF (h : ta α = .ok false) : sIf ta s t α = t α := by unfold sIf; rw [h]; rfl
theorem v_if (h : ta α = .ok k) : sIf ta s t α = if k = true then s α else t α := by unfold sIf; rw [h]; rfl
theorem v_ifE (h : ta α = .err e) : sIf ta s t α = .er e := by unfold sIf; rw [h]; rfl
theorem v_expr (h : a α = .ok r) : sExpr a α = .nx α := by unfold sExpr; rw [h]; rfl
theorem v_exprE (h : a α = .err e) : sExpr a α = .er e := by unfold sExpr; rw [h]; rfl
theorem v_for {it : MI} {T : Tg} (h : it α = .ok ds) : sFor it T s α = forM T s ds α := by unfold sFor; rw [h]; rfl
theorem v_frz (h : α[i]? = some (.own ds)) : mFrz i s α = s (α.set i (.val (.list ds))) := by unfold mFrz frz; rw [h]
theorem v_frzV (h : α[i]? = some (.val d)) : mFrz i s α = s α := by unfold mFrz frz; rw [h]
theorem v_frzU (h : α[i]? = some .un) : mFrz i s α = s α := by unfold mFrz frz; rw [h]
theorem v_app (h : α[i]? = some (.own ds)) (h2 : a α = .ok r) (h3 : stR r = .ok d) (h4 : ds.length < sizeLine) : sApp i a α = .nx (α.set i (.own (ds ++ [d]))) := by unfold sApp ownAt; rw [h, h2]; show ((stR r).so _) = _; rw [h3]; show (if _ then _ else _) = _; rw [if_pos h4]
theorem v_set {m : Nat} (h : α[i]? = some (.own ds)) (h2 : a α = .ok r) (h3 : stR r = .ok d) (h4 : b α = .ok ⟨.v, .int z⟩) (h5 : ixN ds.length z = some m) : sSet i b a α = .nx (α.set i (.own (ds.set m d))) := by
  unfold sSet; rw [h2]; show ((stR r).so _) = _; rw [h3]; show ownAt i α _ = _; unfold ownAt; rw [h, h4]; show (match ixN ds.length z with | some j => SO.nx (α.set i (.own (ds.set j d))) | none => .bad) = _; rw [h5]
theorem v_par {d' : PyData} (h : x α = .ok rs) (h2 : stAll rs = .ok [d, d']) : sPar i j x α = .nx ((α.set i (.val d)).set j (.val d')) := by unfold sPar; rw [h]; show (stAll rs).so _ = _; rw [h2]; rfl
theorem v_asgT {is : List Nat} (h : a α = .ok ⟨.v, d⟩) (h2 : (Tg.tp is).put d α = some β) : sAsgT is a α = .nx β := by unfold sAsgT; rw [h]; show (match (Tg.tp is).put d α with | some α' => SO.nx α' | none => .bad) = _; rw [h2]
theorem v_var (h : α[i]? = some (.val d)) : mV i α = .ok ⟨.v, d⟩ := by unfold mV; rw [h]
theorem v_own (h : α[i]? = some (.own ds)) : mV i α = .ok ⟨.b, .list ds⟩ := by unfold mV; rw [h]
theorem v_c : mC d α = .ok ⟨.v, d⟩ := rfl
theorem v_m1 {g : PyData → Out R} {o : Out R} (h : a α = .ok r) (h2 : g r.d = o) : m1 g a α = o := by unfold m1; rw [h]; exact h2
theorem v_m2 {o : Out R} {r' : R} (h : a α = .ok r) (h' : b α = .ok r') (h2 : g r.d r'.d = o) : m2 g a b α = o := by unfold m2; rw [h]; show (b α).bind _ = _; rw [h']; exact h2
theorem v_A0 : mA0 α = .ok [] := rfl
theorem v_A (h : a α = .ok r) (h' : x α = .ok rs) : mA a x α = .ok (r :: rs) := by unfold mA; rw [h]; show (x α).bind _ = _; rw [h']; rfl
theorem v_B {gl : GL} {o : Out R} (h : x α = .ok rs) (h2 : gl (rs.map (·.d)) = o) : mB gl x α = o := by unfold mB; rw [h]; exact h2
theorem v_F {f : Fn} {o : Out R} (h : x α = .ok rs) (h2 : stAll rs = .ok ds) (h3 : ds.length = n) (h4 : f ds = o) : mF n f x α = o := by unfold mF; rw [h]; show (stAll rs).bind _ = _; rw [h2]; show (if ds.length = n then f ds else .bad) = _; rw [if_pos h3]; exact h4
theorem v_L (h : x α = .ok rs) (h2 : stAll rs = .ok ds) (h3 : Nat.ble ds.length 1000 = true) : mL x α = .ok ⟨.f, .list ds⟩ := by unfold mL; rw [h]; show (stAll rs).bind _ = _; rw [h2]; rw [Out.bind_ok]; unfold szD; rw [if_pos (len_line (Nat.le_trans (Nat.le_of_ble_eq_true h3) (by decide)))]
theorem v_Tu (h : x α = .ok rs) (h2 : stAll rs = .ok ds) (h3 : Nat.ble ds.length 1000 = true) : mTu x α = .ok ⟨.v, .tuple ds⟩ := by unfold mTu; rw [h]; show (stAll rs).bind _ = _; rw [h2]; rw [Out.bind_ok]; unfold szD; rw [if_pos (len_line (Nat.le_trans (Nat.le_of_ble_eq_true h3) (by decide)))]
theorem v_tB (h : a α = .ok ⟨.v, .bool k⟩) : tBm a α = .ok k := by unfold tBm asB; rw [h]; rfl
theorem v_tBE (h : a α = .err e) : tBm a α = .err e := by unfold tBm asB; rw [h]; rfl
theorem v_T (h : a α = .ok r) (h2 : truD r.d = .ok k) : mT a α = .ok k := by unfold mT; rw [h]; exact h2
theorem v_TE (h : a α = .err e) : mT a α = .err e := by unfold mT; rw [h]; rfl
theorem v_not (h : ta α = .ok k) : bNot ta α = .ok (!k) := by unfold bNot; rw [h]; rfl
theorem v_andT {o : Out Bool} (h : ta α = .ok true) (h2 : tb α = o) : bAnd ta tb α = o := by unfold bAnd; rw [h]; exact h2
theorem v_andF (h : ta α = .ok false) : bAnd ta tb α = .ok false := by unfold bAnd; rw [h]; rfl
theorem v_orT (h : ta α = .ok true) : bOr ta tb α = .ok true := by unfold bOr; rw [h]; rfl
theorem v_orF {o : Out Bool} (h : ta α = .ok false) (h2 : tb α = o) : bOr ta tb α = o := by unfold bOr; rw [h]; exact h2
theorem v_vNot (h : a α = .ok r) (h2 : truD r.d = .ok k) : vNot a α = .ok ⟨.v, .bool (!k)⟩ := by unfold vNot; rw [h]; show (truD r.d).bind _ = _; rw [h2]; rfl
theorem v_vAndT {o : Out R} (h : a α = .ok r) (h2 : truD r.d = .ok true) (h3 : b α = o) : vAnd a b α = o := by unfold vAnd; rw [h]; show (truD r.d).bind _ = _; rw [h2]; exact h3
theorem v_vAndF (h : a α = .ok r) (h2 : truD r.d = .ok false) : vAnd a b α = .ok r := by unfold vAnd; rw [h]; show (truD r.d).bind _ = _; rw [h2]; rfl
theorem v_chT {o : Out R} {r' r'' : R} (h : a α = .ok r) (h' : b α = .ok r') (h'' : c α = .ok r'') (h2 : g r.d r'.d = .ok ⟨.v, .bool true⟩) (h3 : g' r'.d r''.d = o) : mCh g g' a b c α = o := by
  unfold mCh; rw [h, h', h'']; show (asB (g r.d r'.d)).bind _ = _; rw [h2]; exact h3
theorem v_chF {r' : R} (h : a α = .ok r) (h' : b α = .ok r') (h2 : g r.d r'.d = .ok ⟨.v, .bool false⟩) : mCh g g' a b c α = .ok ⟨.v, .bool false⟩ := by
  unfold mCh; rw [h, h']; show (asB (g r.d r'.d)).bind _ = _; rw [h2]; rfl
theorem v_cifT {o : Out R} (h : ta α = .ok true) (h2 : a α = o) : mIf ta a b α = o := by unfold mIf; rw [h]; exact h2
theorem v_cifF {o : Out R} (h : ta α = .ok false) (h2 : b α = o) : mIf ta a b α = o := by unfold mIf; rw [h]; exact h2
theorem v_iV (h : a α = .ok r) (h2 : stR r = .ok d) (h3 : itemsD d = .ok ds) : iV a α = .ok ds := by unfold iV; rw [h]; show (stR r).bind _ = _; rw [h2]; exact h3
theorem v_iB {gi : List PyData → Out (List PyData)} {es : List PyData} (h : x α = .ok rs) (h2 : stAll rs = .ok ds) (h3 : gi ds = .ok es) : iB gi x α = .ok es := by unfold iB; rw [h]; show (stAll rs).bind _ = _; rw [h2]; exact h3
theorem v_O1 (h : a α = .ok r) (h2 : r.d = .int z) : mO1 a α = .ok (some z) := by unfold mO1; rw [h]; show (match r.d with | .int i => Out.ok (some i) | _ => .bad) = _; rw [h2]
theorem v_O0 : mO0 α = .ok none := rfl
theorem v_Sl {lo hi : MO} {o1 o2 : Option Int} {o : Out R} (h : a α = .ok r) (h1 : lo α = .ok o1) (h2 : hi α = .ok o2) (h3 : slD r.d o1 o2 = o) : mSl a lo hi α = o := by unfold mSl; rw [h]; show (lo α).bind _ = _; rw [h1]; show (hi α).bind _ = _; rw [h2]; exact h3
theorem v_LC {it : MI} {T : Tg} {ws : List Nat} {es : List PyData} (h : it α = .ok ds) (h1 : ds.length ≤ 1000000) (h2 : ownFree α ws = true) (h3 : compM T ta a (wipeA α ws) ds = .ok es) : mLC it T ta a ws α = .ok ⟨.f, .list es⟩ := by
  unfold mLC; rw [h]; show (if _ then _ else _) = _; rw [if_pos ⟨len_line h1, h2⟩, h3]; rfl
theorem v_Rev (h : a α = .ok r) (h2 : r.d = .list ds) : mRevA a α = .ok ⟨.f, .list ds.reverse⟩ := by unfold mRevA; rw [h]; show (match r.d with | .list ds => Out.ok (R.mk .f (.list ds.reverse)) | .tuple ds => .ok ⟨.v, .tuple ds.reverse⟩ | _ => .bad) = _; rw [h2]
theorem v_RevT (h : a α = .ok r) (h2 : r.d = .tuple ds) : mRevA a α = .ok ⟨.v, .tuple ds.reverse⟩ := by unfold mRevA; rw [h]; show (match r.d with | .list ds => Out.ok (R.mk .f (.list ds.reverse)) | .tuple ds => .ok ⟨.v, .tuple ds.reverse⟩ | _ => .bad) = _; rw [h2]
theorem v_whT {m : Nat} (h : ta α = .ok true) (h2 : s α = .nx β) : whileM (m + 1) ta s α = whileM m ta s β := by
  show (ta α).so _ = _; rw [h]; show (s α).bind _ = _; rw [h2]; rfl
theorem v_whF {m : Nat} (h : ta α = .ok false) : whileM (m + 1) ta s α = .nx α := by show (ta α).so _ = _; rw [h]; rfl
end
end FS

namespace FM
open PySem PySem.Spec PyProof.Rows L2 FS
def top (i : Nat) : Stmt := PySem.Challenge.pw_fieldsteps_k03_parts.main.body.getD i (.Pass ⟨0, 0, 0, 0⟩)
def d_is_within : He.DefD := ⟨("is_within", none), "is_within", "is_within", defArgs (top 8), defBody (top 8), defScope (top 8), [], []⟩
def d_is_prime : He.DefD := ⟨("is_prime", none), "is_prime", "is_prime", defArgs (top 9), defBody (top 9), defScope (top 9), [], []⟩
def d_are_figures : He.DefD := ⟨("are_figures", none), "are_figures", "are_figures", defArgs (top 10), defBody (top 10), defScope (top 10), [], []⟩
def d_times_as : He.DefD := ⟨("times_as", none), "times_as", "times_as", defArgs (top 11), defBody (top 11), defScope (top 11), [], []⟩
def d_full : He.DefD := ⟨("full", none), "full", "full", defArgs (top 12), defBody (top 12), defScope (top 12), [], []⟩
def d_divided : He.DefD := ⟨("divided", none), "divided", "divided", defArgs (top 13), defBody (top 13), defScope (top 13), [], []⟩
def d_rows_of : He.DefD := ⟨("rows_of", none), "rows_of", "rows_of", defArgs (top 14), defBody (top 14), defScope (top 14), [], []⟩
def d_first_part : He.DefD := ⟨("first_part", none), "first_part", "first_part", defArgs (top 15), defBody (top 15), defScope (top 15), [], []⟩
def d_any_left : He.DefD := ⟨("any_left", none), "any_left", "any_left", defArgs (top 16), defBody (top 16), defScope (top 16), [], []⟩
def d_is_whole : He.DefD := ⟨("is_whole", none), "is_whole", "is_whole", defArgs (top 17), defBody (top 17), defScope (top 17), [], []⟩
def d_look_prime : He.DefD := ⟨("look_prime", none), "look_prime", "look_prime", defArgs (top 18), defBody (top 18), defScope (top 18), [], []⟩
def d_parts : He.DefD := ⟨("parts", none), "parts", "parts", defArgs (top 19), defBody (top 19), defScope (top 19), [], []⟩
def d_rules : He.DefD := ⟨("rules", none), "rules", "rules", defArgs (top 20), defBody (top 20), defScope (top 20), [], []⟩
def d__law_cell : He.DefD := ⟨("_law_cell", none), "_law_cell", "_law_cell", defArgs (top 22), defBody (top 22), defScope (top 22), [], []⟩
def d__law_mix : He.DefD := ⟨("_law_mix", none), "_law_mix", "_law_mix", defArgs (top 23), defBody (top 23), defScope (top 23), [], []⟩
def d__law_whole : He.DefD := ⟨("_law_whole", none), "_law_whole", "_law_whole", defArgs (top 24), defBody (top 24), defScope (top 24), [], []⟩
def d__law_rows : He.DefD := ⟨("_law_rows", none), "_law_rows", "_law_rows", defArgs (top 25), defBody (top 25), defScope (top 25), [], []⟩
def d__law_product : He.DefD := ⟨("_law_product", none), "_law_product", "_law_product", defArgs (top 26), defBody (top 26), defScope (top 26), [], []⟩
def d__law_is_rule : He.DefD := ⟨("_law_is_rule", none), "_law_is_rule", "_law_is_rule", defArgs (top 27), defBody (top 27), defScope (top 27), [], []⟩
def d__law_told : He.DefD := ⟨("_law_told", none), "_law_told", "_law_told", defArgs (top 28), defBody (top 28), defScope (top 28), [], []⟩
def d__law_refused : He.DefD := ⟨("_law_refused", none), "_law_refused", "_law_refused", defArgs (top 29), defBody (top 29), defScope (top 29), [], []⟩
def d_law : He.DefD := ⟨("law", none), "law", "law", defArgs (top 30), defBody (top 30), defScope (top 30), [], []⟩
def fn : List He.DefD := [d_is_within, d_is_prime, d_are_figures, d_times_as, d_full, d_divided, d_rows_of, d_first_part, d_any_left, d_is_whole, d_look_prime, d_parts, d_rules, d__law_cell, d__law_mix, d__law_whole, d__law_rows, d__law_product, d__law_is_rule, d__law_told, d__law_refused, d_law]
def fa : List He.Fa := ([.free "len", .free "range", .free "list", .free "tuple", .free "int", .free "max", .free "min", .free "sum", .free "str", .free "isinstance", .free "enumerate", .free "zip", .free "sorted", .free "set", .free "bool", .free "dict", .glo "BadRow", .exc "BadRow", .glo "BadWhole", .exc "BadWhole", .glo "PRIMES", .int "MOST_NUMBERS" 256, .int "MOST_FIGURES" 8, .glo "FieldError"] : List He.Fa) ++ ([.free "ValueError", .glo "law", .glo "is_within", .glo "is_prime", .glo "are_figures", .glo "times_as", .glo "full", .glo "divided", .glo "rows_of", .glo "any_left", .glo "first_part", .glo "is_whole", .glo "look_prime", .glo "parts", .glo "rules", .glo "_law_cell", .glo "_law_mix", .glo "_law_whole", .glo "_law_rows", .glo "_law_product", .glo "_law_is_rule", .glo "_law_told", .glo "_law_refused"] : List He.Fa)
def ex (K : PySem.W.Frag) : Bool := He.tupB K "PRIMES" [.int 2, .int 3, .int 5, .int 7] && (exmB1 K [.BadWhole, .BadRow] (.ref (He.ga K "FieldError")) none && (kitB1 K [.BadWhole, .BadRow] (.ref (He.ga K "BadRow")) (some .BadRow) && (excAll K [.BadWhole, .BadRow] && (kitB1 K [.BadWhole, .BadRow] (.ref (He.ga K "BadWhole")) (some .BadWhole) && (kitB1 K [.BadWhole, .BadRow] (.type "ValueError") none)))))
abbrev Rw : PySem.W.OpenRow := PySem.W.OpenLaw.row PySem.Challenge.rw_fieldsteps_k03_parts
abbrev hk : PySem.W.Hook := He.hookX 5 fa fn [] [] ex
def ob (s : PySem.W.SharedT) : He.AlX := He.obsX 5 fa fn [] [] ex (HandSHeadRun.getT s)
theorem ob_eq (s : PySem.W.SharedT) : ob s = hk.obs s.abs := He.obsX_eq (HandSHeadRun.getT_eq s)
def loose : List Str := (["FieldError", "BadWhole", "BadRow", "PRIMES", "MOST_NUMBERS", "MOST_FIGURES", "is_within", "is_prime", "are_figures", "times_as", "full", "divided", "rows_of", "first_part", "any_left", "is_whole", "look_prime", "parts", "rules", "_law_cell", "_law_mix", "_law_whole", "_law_rows", "_law_product"] : List Str) ++ (["_law_is_rule", "_law_told", "_law_refused"] : List Str)
theorem split3 {α β γ : Type} {Y : Option (α × β × γ)} {V : α × β × γ} (h1 : Y.map (fun x => x.1) = some V.1) (h2 : Y.map (fun x => x.2.1) = some V.2.1) (h3 : Y.map (fun x => x.2.2) = some V.2.2) : Y = some V := by
  cases Y with
  | none => cases h1
  | some y =>
    obtain ⟨a, b, c⟩ := y
    obtain ⟨a', b', c'⟩ := V
    cases h1; cases h2; cases h3; rfl
def Fst3 {p : Prop} {α β γ : Type} {Y : Option (α × β × γ)} {V : α × β × γ} (_ : p → Y = some V) : Prop := Y.map (fun x => x.1) = some V.1
def Snd3 {p : Prop} {α β γ : Type} {Y : Option (α × β × γ)} {V : α × β × γ} (_ : p → Y = some V) : Prop := Y.map (fun x => x.2.1) = some V.2.1
def Thd3 {p : Prop} {α β γ : Type} {Y : Option (α × β × γ)} {V : α × β × γ} (_ : p → Y = some V) : Prop := Y.map (fun x => x.2.2) = some V.2.2
theorem runC (w : World) (os : OsState) : Thd3 (fun h : HandSHeadRun.RunEq Rw (PySem.W.view Rw.prog [30]) hk ob 20000 loose w => h os) := by
  unfold Thd3
  kernel_rfl
theorem runA (w : World) (os : OsState) : Fst3 (fun h : HandSHeadRun.RunEq Rw (PySem.W.view Rw.prog [30]) hk ob 20000 loose w => h os) := by
  unfold Fst3
  kernel_rfl
theorem runB (w : World) (os : OsState) : Snd3 (fun h : HandSHeadRun.RunEq Rw (PySem.W.view Rw.prog [30]) hk ob 20000 loose w => h os) := by
  unfold Snd3
  kernel_rfl
theorem run (w : World) : HandSHeadRun.RunEq Rw (PySem.W.view Rw.prog [30]) hk ob 20000 loose w := by
  intro os
  exact split3 (runA w os) (runB w os) (runC w os)
end FM

namespace FM
open PySem FS
def m_is_within : Fn := bodyM 3 (sRet (vAnd (m1 (isD .int) (mV 0)) (vAnd (vNot (m1 (isD .bool) (mV 0))) (mCh leD leD (mV 1) (mV 0) (mV 2)))))
def m_is_prime : Fn := bodyM 1 (sRet (vAnd (mF 3 m_is_within (mA (mV 0) (mA (mC (.int 2)) (mA (mC (.int 7)) mA0)))) (m2 inD (mV 0) (mC (.tuple [.int 2, .int 3, .int 5, .int 7])))))
def m_are_figures : Fn := bodyM 5 (mSeq (sIf (bOr (bNot (mT (m1 (isD .tuple) (mV 1)))) (bNot (tBm (mCh leD leD (mV 2) (mB lenD (mA (mV 1) mA0)) (mV 3))))) (sRet (mC (.bool false))) mNext)
  (sRet (vNot (mLC (iV (mV 1)) (.nm 4) (bNot (mT (mF 3 m_is_within (mA (mV 4) (mA (mC (.int 0)) (mA (m2 subD (mV 0) (mC (.int 1))) mA0)))))) (mV 4) [4]))))
def m_times_as : Fn := bodyM 4 (mSeq (sAsg 2 (mC (.int 1)))
  (mSeq (sFor (iB rng1 (mA (mV 1) mA0)) (.nm 3) (sAsg 2 (m2 mulD (mV 2) (mV 0))))
  (sRetO 2)))
def m_full : Fn := bodyM 1 (sRet (m2 addD (mB listD (mA (mV 0) mA0)) (mL (mA (mC (.int 1)) mA0))))
def m_divided : Fn := bodyM 10 (mSeq (sAsg 3 (mF 1 m_full (mA (mV 1) mA0)))
  (mSeq (sAsg 4 (mF 1 m_full (mA (mV 2) mA0)))
  (mSeq (sAsg 5 (mL mA0))
  (mSeq (sFor (iB rng3 (mA (m2 subD (mB lenD (mA (mV 3) mA0)) (mB lenD (mA (mV 4) mA0))) (mA (m1 negD (mC (.int 1))) (mA (m1 negD (mC (.int 1))) mA0)))) (.nm 6) (mSeq (sAsg 7 (m2 ixD (mV 3) (m2 addD (mV 6) (mB lenD (mA (mV 2) mA0)))))
  (mSeq (sApp 5 (mV 7))
  (mFrz 4 (sFor (iB enum1 (mA (mV 4) mA0)) (.tp [8, 9]) (sSet 3 (m2 addD (mV 6) (mV 8)) (m2 modD (m2 subD (m2 ixD (mV 3) (m2 addD (mV 6) (mV 8))) (m2 mulD (mV 7) (mV 9))) (mV 0))))))))
  (sRet (mTu (mA (mB tupD (mA (mSl (mRevA (mV 5)) mO0 (mO1 (m1 negD (mC (.int 1))))) mA0)) (mA (mSl (mV 3) mO0 (mO1 (mB lenD (mA (mV 2) mA0)))) mA0))))))))
def m_rows_of : Fn := bodyM 7 (mSeq (sAsg 2 (mL (mA (mTu mA0) mA0)))
  (mSeq (sFor (iB rng1 (mA (mV 1) mA0)) (.nm 3) (mSeq (sAsg 4 (mL mA0))
  (mFrz 2 (mSeq (sFor (iV (mV 2)) (.nm 5) (sExt 4 (mLC (iB rng1 (mA (mV 0) mA0)) (.nm 6) bYes (m2 addD (mV 5) (mTu (mA (mV 6) mA0))) [6])))
  (mFrz 4 (sAsg 2 (mV 4)))))))
  (sRetO 2)))
def m_any_left : Fn := bodyM 2 (sRet (m2 neD (mLC (iV (mV 0)) (.nm 1) (tBm (m2 neD (mV 1) (mC (.int 0)))) (mV 1) [1]) (mL mA0)))
def m_first_part : Fn := bodyM 4 (mSeq (sFor (iB rng2 (mA (mC (.int 1)) (mA (m2 addD (m2 fdivD (mB lenD (mA (mV 1) mA0)) (mC (.int 2))) (mC (.int 1))) mA0))) (.nm 2) (sFor (iV (mF 2 m_rows_of (mA (mV 0) (mA (mV 2) mA0)))) (.nm 3) (sIf (bNot (mT (mF 1 m_any_left (mA (m2 ixD (mF 3 m_divided (mA (mV 0) (mA (mV 1) (mA (mV 3) mA0)))) (mC (.int 1))) mA0)))) (sRetO 3) mNext)))
  (sRetO 1))
def m_is_whole : Fn := bodyM 2 (sRet (m2 eqD (mF 2 m_first_part (mA (mV 0) (mA (mV 1) mA0))) (mV 1)))
def m_is_field : Fn := bodyM 1 (mSeq (sIf (bOr (bNot (mT (m1 (isD .tuple) (mV 0)))) (bOr (tBm (m2 neD (mB lenD (mA (mV 0) mA0)) (mC (.int 2)))) (bNot (mT (mF 1 m_is_prime (mA (m2 ixD (mV 0) (mC (.int 0))) mA0)))))) (sRet (mC (.bool false))) mNext)
  (mSeq (sIf (bOr (bNot (mT (mF 4 m_are_figures (mA (m2 ixD (mV 0) (mC (.int 0))) (mA (m2 ixD (mV 0) (mC (.int 1))) (mA (mC (.int 1)) (mA (mC (.int 8)) mA0))))))) (tBm (m2 gtD (mF 2 m_times_as (mA (m2 ixD (mV 0) (mC (.int 0))) (mA (mB lenD (mA (m2 ixD (mV 0) (mC (.int 1))) mA0)) mA0))) (mC (.int 256))))) (sRet (mC (.bool false))) mNext)
  (sRet (mF 2 m_is_whole (mA (m2 ixD (mV 0) (mC (.int 0))) (mA (m2 ixD (mV 0) (mC (.int 1))) mA0))))))
def m_checked : Fn := bodyM 1 (mSeq (sIf (bNot (mT (mF 1 m_is_field (mA (mV 0) mA0)))) (sRaise .BadField) mNext)
  (sRetO 0))
def m_primes_in : Fn := bodyM 3 (mSeq (sAsg 1 (mL mA0))
  (mSeq (sAsg 2 (mC (.int 2)))
  (mSeq (whileM 1000 (tBm (m2 gtD (mV 0) (mC (.int 1)))) (mSeq (sIf (tBm (m2 eqD (m2 modD (mV 0) (mV 2)) (mC (.int 0)))) (mSeq (sApp 1 (mV 2))
  (whileM 1000 (tBm (m2 eqD (m2 modD (mV 0) (mV 2)) (mC (.int 0)))) (sAsg 0 (m2 fdivD (mV 0) (mV 2))))) mNext)
  (sAug 2 (fun i j => i + j) (mC (.int 1)))))
  (sRetO 1))))
def m__law_cell : Fn := bodyM 2 (mSeq (sIf (tBm (m2 ltD (mV 1) (mB lenD (mA (mV 0) mA0)))) (sRet (m2 ixD (mV 0) (mV 1))) mNext)
  (sRet (mC (.int 0))))
def m__law_mix : Fn := bodyM 3 (sRet (m2 modD (m2 modD (m2 powD (m2 modD (m2 mulD (mV 0) (mC (.int 48271))) (mV 1)) (mC (.int 3))) (mV 1)) (mV 2)))
def m__law_rows : Fn := bodyM 7 (mSeq (sAsg 2 (mL (mA (mTu mA0) mA0)))
  (mSeq (sFor (iB rng1 (mA (mV 1) mA0)) (.nm 3) (mSeq (sAsg 4 (mL mA0))
  (mFrz 2 (mSeq (sFor (iV (mV 2)) (.nm 5) (sAsg 4 (m2 addD (mV 4) (mLC (iB rng1 (mA (mV 0) mA0)) (.nm 6) bYes (m2 addD (mV 5) (mTu (mA (mV 6) mA0))) [6]))))
  (mFrz 4 (sAsg 2 (mV 4)))))))
  (sRetO 2)))
def m__law_product : Fn := bodyM 8 (mSeq (sAsg 3 (m2 addD (mB listD (mA (mV 1) mA0)) (mL (mA (mC (.int 1)) mA0))))
  (mSeq (sAsg 4 (m2 addD (mB listD (mA (mV 2) mA0)) (mL (mA (mC (.int 1)) mA0))))
  (mSeq (sAsg 5 (mL mA0))
  (mSeq (sFor (iB rng1 (mA (m2 addD (mB lenD (mA (mV 1) mA0)) (mB lenD (mA (mV 2) mA0))) mA0)) (.nm 6) (sApp 5 (m2 modD (mB sumD (mA (mLC (iB rng1 (mA (mB lenD (mA (mV 3) mA0)) mA0)) (.nm 7) (tBm (mCh leD ltD (mC (.int 0)) (m2 subD (mV 6) (mV 7)) (mB lenD (mA (mV 4) mA0)))) (m2 mulD (m2 ixD (mV 3) (mV 7)) (m2 ixD (mV 4) (m2 subD (mV 6) (mV 7)))) [7]) mA0)) (mV 0))))
  (sRet (mB tupD (mA (mV 5) mA0)))))))
def m__law_is_rule : Fn := bodyM 5 (mSeq (sFor (iB rng2 (mA (mC (.int 1)) (mA (m2 addD (m2 fdivD (mB lenD (mA (mV 1) mA0)) (mC (.int 2))) (mC (.int 1))) mA0))) (.nm 2) (sFor (iV (mF 2 m__law_rows (mA (mV 0) (mA (mV 2) mA0)))) (.nm 3) (sFor (iV (mF 2 m__law_rows (mA (mV 0) (mA (m2 subD (mB lenD (mA (mV 1) mA0)) (mV 2)) mA0)))) (.nm 4) (sIf (tBm (m2 eqD (mF 3 m__law_product (mA (mV 0) (mA (mV 3) (mA (mV 4) mA0)))) (mV 1))) (sRet (mC (.bool false))) mNext))))
  (sRet (mC (.bool true))))
def m_look_prime : Fn := bodyM 1 (sIf (bNot (mT (mF 1 m_is_prime (mA (mV 0) mA0)))) (sRaise .BadWhole) mNext)
def m_parts : Fn := bodyM 5 (mSeq (sExpr (mF 1 m_look_prime (mA (mV 0) mA0)))
  (mSeq (sIf (bNot (mT (mF 4 m_are_figures (mA (mV 0) (mA (mV 1) (mA (mC (.int 1)) (mA (mC (.int 8)) mA0))))))) (sRaise .BadRow) mNext)
  (mSeq (sAsg 2 (mV 1))
  (mSeq (sAsg 3 (mL mA0))
  (mSeq (whileM 1000 (mT (mV 2)) (mSeq (sAsg 4 (mF 2 m_first_part (mA (mV 0) (mA (mV 2) mA0))))
  (mSeq (sIf (bAnd (mT (mV 3)) (tBm (m2 eqD (m2 ixD (m2 ixD (mV 3) (m1 negD (mC (.int 1)))) (mC (.int 0))) (mV 4)))) (sSet 3 (m1 negD (mC (.int 1))) (mTu (mA (mV 4) (mA (m2 addD (m2 ixD (m2 ixD (mV 3) (m1 negD (mC (.int 1)))) (mC (.int 1))) (mC (.int 1))) mA0)))) (sApp 3 (mTu (mA (mV 4) (mA (mC (.int 1)) mA0)))))
  (sAsg 2 (m2 ixD (mF 3 m_divided (mA (mV 0) (mA (mV 2) (mA (mV 4) mA0)))) (mC (.int 0)))))))
  (sRetO 3))))))
def m_rules : Fn := bodyM 3 (mSeq (sExpr (mF 1 m_look_prime (mA (mV 0) mA0)))
  (mSeq (sIf (bOr (bNot (mT (mF 3 m_is_within (mA (mV 1) (mA (mC (.int 1)) (mA (mC (.int 8)) mA0)))))) (tBm (m2 gtD (mF 2 m_times_as (mA (mV 0) (mA (mV 1) mA0))) (mC (.int 256))))) (sRaise .BadWhole) mNext)
  (sRet (mLC (iV (mF 2 m_rows_of (mA (mV 0) (mA (mV 1) mA0)))) (.nm 2) (mT (mF 2 m_is_whole (mA (mV 0) (mA (mV 2) mA0)))) (mV 2) [2]))))
def m__law_whole : Fn := bodyM 1 (sRet (vAnd (m1 (isD .int) (mV 0)) (vNot (m1 (isD .bool) (mV 0)))))
end FM

namespace FM
open PySem FS L2
/-! ### primitive operations on known data -/
theorem ix_of {ds : List PyData} {i : Int} {d : PyData} (h : atI ds i = some d) : ixD (.tuple ds) (.int i) = .ok ⟨.v, d⟩ := by
  show (match atI ds i with | some d => Out.ok (R.mk .v d) | none => .bad) = _
  rw [h]
theorem ixl_of {ds : List PyData} {i : Int} {d : PyData} (h : atI ds i = some d) : ixD (.list ds) (.int i) = .ok ⟨.v, d⟩ := by
  show (match atI ds i with | some d => Out.ok (R.mk .v d) | none => .bad) = _
  rw [h]
theorem ixF0 (f : Int × Nu) : ixD (eF f) (.int 0) = .ok ⟨.v, .int f.1⟩ := ix_of (atI_nat (j := 0) rfl)
theorem ixF1 (f : Int × Nu) : ixD (eF f) (.int 1) = .ok ⟨.v, eN f.2⟩ := ix_of (atI_nat (j := 1) rfl)
theorem ixL_at {a : Nu} {i : Nat} {x : Int} (h : a[i]? = some x) : ixD (.list (a.map PyData.int)) (.int (i : Int)) = .ok ⟨.v, .int x⟩ := ixl_of (atI_nat (by rw [List.getElem?_map, h]; rfl))
theorem len_eN (a : Nu) : lenD [eN a] = .ok ⟨.v, .int (a.length : Int)⟩ := by unfold eN lenD lenD1; simp
theorem len_tup (a : List PyData) : lenD [.tuple a] = .ok ⟨.v, .int (a.length : Int)⟩ := rfl
theorem len_lst (a : List PyData) : lenD [.list a] = .ok ⟨.v, .int (a.length : Int)⟩ := rfl
theorem addD_int (i j : Int) : addD (.int i) (.int j) = .ok ⟨.v, .int (i + j)⟩ := rfl
theorem subD_int (i j : Int) : subD (.int i) (.int j) = .ok ⟨.v, .int (i - j)⟩ := rfl
theorem negD_int (i : Int) : negD (.int i) = .ok ⟨.v, .int (-i)⟩ := rfl
theorem ltD_int (i j : Int) : ltD (.int i) (.int j) = boolR (decide (i < j)) := rfl
theorem leD_int (i j : Int) : leD (.int i) (.int j) = boolR (decide (i ≤ j)) := rfl
theorem gtD_int (i j : Int) : gtD (.int i) (.int j) = boolR (decide (j < i)) := rfl
theorem geD_int (i j : Int) : geD (.int i) (.int j) = boolR (decide (j ≤ i)) := rfl
theorem modD_int {i j : Int} (h : 0 < j) : modD (.int i) (.int j) = .ok ⟨.v, .int (i % j)⟩ := by show (if 0 < j then _ else _) = _; rw [if_pos h]
theorem fdivD_int {i j : Int} (h : 0 < j ∧ j < 1073741824) : fdivD (.int i) (.int j) = .ok ⟨.v, .int (i / j)⟩ := by show (if 0 < j ∧ j < 1073741824 then _ else _) = _; rw [if_pos h]
theorem mulD_int {i j : Int} (h : (-18446744073709551616 < i ∧ i < 18446744073709551616) ∨ (-18446744073709551616 < j ∧ j < 18446744073709551616)) : mulD (.int i) (.int j) = .ok ⟨.v, .int (i * j)⟩ := by
  show (if (-18446744073709551616 < i ∧ i < 18446744073709551616) ∨ (-18446744073709551616 < j ∧ j < 18446744073709551616) then _ else _) = _; rw [if_pos h]
theorem flat_one (k : Nat) (x : Int) : (List.replicate k [PyData.int x]).flatten = (List.replicate k x).map PyData.int := by
  induction k with
  | zero => rfl
  | succ k ih => rw [List.replicate_succ, List.flatten_cons, ih]; rfl
theorem mulD_rep {x : Int} {k : Int} (h : k ≤ 1000 ∧ -1000 ≤ k) : mulD (eN [x]) (.int k) = .ok ⟨.v, eN (List.replicate k.toNat x)⟩ := by
  show (if k ≤ 1000 ∧ -1000 ≤ k ∧ [PyData.int x].length ≤ 1000 then Out.ok (R.mk .v (.tuple (List.replicate k.toNat [PyData.int x]).flatten)) else .bad) = _
  rw [if_pos ⟨h.1, h.2, by simp⟩, flat_one]; rfl
theorem addD_tup {a b : Nu} (h : a.length + b.length ≤ sizeLine) : addD (eN a) (eN b) = .ok ⟨.v, eN (a ++ b)⟩ := by
  unfold eN
  show (if (a.map PyData.int).length + (b.map PyData.int).length ≤ sizeLine then _ else _) = _
  rw [if_pos (by simpa using h), List.map_append]
theorem tup_lst (a : List PyData) : tupD [.list a] = .ok ⟨.v, .tuple a⟩ := rfl
theorem lst_tup (a : Nu) : listD [eN a] = .ok ⟨.f, .list (a.map PyData.int)⟩ := rfl
theorem rng1_nat {k : Nat} (h : k ≤ 1000000) : rng1 [.int (k : Int)] = .ok ((List.range k).map fun (j : Nat) => PyData.int (0 + (j : Int))) := by
  show (if -(4611686018427387904) ≤ (k : Int) ∧ (k : Int) < 4611686018427387904 then Out.ok (rngD 0 (k : Int).toNat) else .bad) = _
  rw [if_pos (by omega), Int.toNat_natCast]; rfl
local macro_rules | `(tactic| walk_at "ev") => `(tactic| repeat' first | exact v_var rfl | exact v_own rfl | exact v_c | exact v_A0 | exact v_O0 | apply v_A | apply v_m2 | apply v_m1 | apply v_B | apply v_F | apply v_Tu | apply v_L | apply v_Sl | apply v_O1 | apply v_iV | apply v_iB | apply v_tB | apply v_not | exact ixF0 _ | exact ixF1 _ | exact addD_int _ _ | exact subD_int _ _ | exact negD_int _ | exact len_eN _ | exact len_tup _ | exact len_lst _ | exact tup_lst _ | exact lst_tup _ | exact eqD_eN _ _ | exact neD_eN _ _ | exact eqD_int _ _ | exact neD_int _ _ | exact ltD_int _ _ | exact leD_int _ _ | exact gtD_int _ _ | exact geD_int _ _ | assumption | rfl)
/-! ### the smallest defs -/
theorem e_times_as (n : Int) (k : Nat) (hn : -18446744073709551616 < n ∧ n < 18446744073709551616) (hk : k ≤ 1000) : m_times_as [.int n, .int (k : Int)] = .ok ⟨.v, .int (n ^ k)⟩ := by
  obtain ⟨α', h1, j, rfl⟩ := forM_run (T := .nm 3) (b := sAsg 2 (m2 mulD (mV 2) (mV 0))) (fun (j : Nat) => PyData.int (0 + (j : Int))) (List.range k) (fun p α => ∃ j, α = [.val (.int n), .val (.int k), .val (.int (n ^ p.length)), j])
    [.val (.int n), .val (.int k), .val (.int 1), .un] ⟨.un, by rw [List.length_nil, Int.pow_zero]⟩ fun p x α ⟨j, e⟩ _ => by
      subst e
      refine ⟨_, _, rfl, v_asg (v_m2 (v_var rfl) (v_var rfl) (mulD_int (.inr hn))), .val (.int (0 + (x : Int))), ?_⟩
      rw [← Int.pow_succ, List.length_append]
      rfl
  rw [List.length_range] at h1
  refine v_body ((v_seq (v_asg v_c)).trans ((v_seq ((v_for (v_iB (v_A (v_var rfl) v_A0) rfl (rng1_nat (by omega)))).trans h1)).trans (v_retV rfl)))
end FM

namespace FM
open PySem FS L2
local macro_rules | `(tactic| walk_at "ev") => `(tactic| repeat' first | exact v_var rfl | exact v_own rfl | exact v_c | exact v_A0 | exact v_O0 | apply v_A | apply v_m2 | apply v_m1 | apply v_B | apply v_F | apply v_Tu | apply v_L | apply v_Sl | apply v_O1 | apply v_iV | apply v_iB | apply v_tB | apply v_not | exact ixF0 _ | exact ixF1 _ | exact addD_int _ _ | exact subD_int _ _ | exact negD_int _ | exact len_eN _ | exact len_tup _ | exact len_lst _ | exact tup_lst _ | exact lst_tup _ | exact eqD_eN _ _ | exact neD_eN _ _ | exact eqD_int _ _ | exact neD_int _ _ | exact ltD_int _ _ | exact leD_int _ _ | exact gtD_int _ _ | exact geD_int _ _ | assumption | rfl)
/-- a number of a field -/
def Num (f : Int × Nu) (a : Nu) : Prop := a.length = f.2.length ∧ ∀ x ∈ a, 0 ≤ x ∧ x < f.1
/-- a field that the program takes -/
structure Good (f : Int × Nu) : Prop where
  ck : m_checked [eF f] = .ok ⟨.v, eF f⟩
  p2 : 2 ≤ f.1
  p7 : f.1 ≤ 7
  n1 : 1 ≤ f.2.length
  n8 : f.2.length ≤ 8
  num : Num f f.2
theorem e_is_within (x lo hi : Int) : m_is_within [.int x, .int lo, .int hi] = .ok ⟨.v, .bool (decide (lo ≤ x ∧ x ≤ hi))⟩ := by
  refine v_body (v_ret (v_vAndT (v_m1 (v_var rfl) rfl) rfl (v_vAndT (v_vNot (v_m1 (v_var rfl) rfl) rfl) rfl ?_)))
  by_cases h : lo ≤ x
  · refine v_chT (v_var rfl) (v_var rfl) (v_var rfl) ((leD_int lo x).trans (by rw [decide_eq_true h]; rfl)) ((leD_int x hi).trans ?_)
    by_cases h2 : x ≤ hi
    · rw [decide_eq_true h2, decide_eq_true ⟨h, h2⟩]; rfl
    · rw [decide_eq_false h2, decide_eq_false fun z => h2 z.2]; rfl
  · rw [decide_eq_false fun z => h z.1]
    exact v_chF (v_var rfl) (v_var rfl) ((leD_int lo x).trans (by rw [decide_eq_false h]; rfl))
theorem truB (b : Bool) : truD (.bool b) = .ok b := rfl
theorem e_are_figures {p lo hi : Int} {a : Nu} (h1 : lo ≤ a.length) (h2 : (a.length : Int) ≤ hi) (hs : a.length ≤ 1000) (hx : ∀ x ∈ a, 0 ≤ x ∧ x < p) : m_are_figures [.int p, eN a, .int lo, .int hi] = .ok ⟨.v, .bool true⟩ := by
  have c : compM (.nm 4) (bNot (mT (mF 3 m_is_within (mA (mV 4) (mA (mC (.int 0)) (mA (m2 subD (mV 0) (mC (.int 1))) mA0)))))) (mV 4) [.val (.int p), .val (eN a), .val (.int lo), .val (.int hi), .un] (a.map PyData.int) = .ok [] := by
    have := compM_filter (T := .nm 4) (c := bNot (mT (mF 3 m_is_within (mA (mV 4) (mA (mC (.int 0)) (mA (m2 subD (mV 0) (mC (.int 1))) mA0)))))) (e := mV 4) (α := [.val (.int p), .val (eN a), .val (.int lo), .val (.int hi), .un]) PyData.int PyData.int (fun _ => false) a fun x hm => by
      refine ⟨_, rfl, v_not (v_T (v_F (v_A (v_var rfl) (v_A v_c (v_A (v_m2 (v_var rfl) v_c (subD_int _ _)) v_A0))) rfl rfl (e_is_within x 0 (p - 1))) (k := true) ?_), fun z => by cases z⟩
      have := hx x hm
      rw [decide_eq_true (by omega)]
      rfl
    rw [this]
    simp
  refine v_body ((v_seq (v_ifF (v_orF (v_not (k := true) (v_T (v_m1 (v_var rfl) rfl) rfl)) (v_not (k := true) (v_tB (v_chT (v_var rfl) (v_B (v_A (v_var rfl) v_A0) (len_eN a)) (v_var rfl) ((leD_int _ _).trans ?_) ((leD_int _ _).trans ?_))))))).trans (v_ret (v_vNot (k := false) (v_LC (v_iV (v_var rfl) rfl (ds := a.map PyData.int) rfl) ?_ rfl c) rfl)))
  · rw [decide_eq_true h1]; rfl
  · rw [decide_eq_true h2]; rfl
  · rw [List.length_map]; omega
/-! ### sums -/
def addN (p : Int) (a b : Nu) : Nu := List.zipWith (fun x y => (x + y) % p) a b
def subN (p : Int) (a b : Nu) : Nu := List.zipWith (fun x y => (x - y) % p) a b
end FM

namespace FM
open PySem FS L2

/-! ### products, as the program makes them -/
theorem ixN_nat {n j : Nat} (h : j < n) : ixN n (j : Int) = some j := by
  unfold ixN
  rw [if_pos (by omega), if_pos (by omega), Int.toNat_natCast]
theorem atI_int {L : Nu} {z : Int} {j : Nat} (e : z = (j : Int)) (h : j < L.length) : atI (L.map PyData.int) z = some (.int (L.getD j 0)) := by
  subst e
  exact atI_nat (by rw [List.getElem?_map, List.getElem?_eq_getElem h]; simp [h])
theorem set_int (L : Nu) (j : Nat) (x : Int) : (L.map PyData.int).set j (.int x) = (L.set j x).map PyData.int := by rw [List.map_set]
def putA (p : Int) (at_ : Nat) (c : Int) (L : Nu) (q : Int × Nat) : Nu := L.set (at_ + q.2) ((L.getD (at_ + q.2) 0 + c * q.1) % p)
def putR' (p : Int) (at_ : Nat) (c : Int) (L : Nu) (q : Int × Nat) : Nu := L.set (at_ + q.2) ((L.getD (at_ + q.2) 0 - c * q.1) % p)
def rowA (p : Int) (b : Nu) (L : Nu) (q : Int × Nat) : Nu := b.zipIdx.foldl (putA p q.2 q.1) L
def rowR (p : Int) (n : Nat) (r : Nu) (L : Nu) (at_ : Nat) : Nu := r.zipIdx.foldl (putR' p (at_ - n) (L.getD at_ 0)) L
def convA (p : Int) (n : Nat) (a b : Nu) : Nu := a.zipIdx.foldl (rowA p b) (List.replicate (2 * n - 1) 0)
def redA (p : Int) (n : Nat) (r : Nu) (L : Nu) : Nu := ((List.range (n - 1)).map fun j => 2 * n - 2 - j).foldl (rowR p n r) L
def prodA (f : Int × Nu) (a b : Nu) : Nu := (redA f.1 f.2.length f.2 (convA f.1 f.2.length a b)).take f.2.length
theorem len_fold {β : Type} (g : Nu → β → Nu) (h : ∀ L q, (g L q).length = L.length) : ∀ (l : List β) (L : Nu), (l.foldl g L).length = L.length
  | [], _ => rfl
  | x :: l, L => by rw [List.foldl_cons, len_fold g h l, h]
theorem len_putA (p : Int) (i : Nat) (c : Int) (L : Nu) (q : Int × Nat) : (putA p i c L q).length = L.length := by unfold putA; simp
theorem len_putR (p : Int) (i : Nat) (c : Int) (L : Nu) (q : Int × Nat) : (putR' p i c L q).length = L.length := by unfold putR'; simp
theorem len_rowA (p : Int) (b L : Nu) (q : Int × Nat) : (rowA p b L q).length = L.length := len_fold _ (len_putA _ _ _) _ _
theorem len_rowR (p : Int) (n : Nat) (r L : Nu) (q : Nat) : (rowR p n r L q).length = L.length := len_fold _ (len_putR _ _ _) _ _
theorem len_convA (p : Int) (n : Nat) (a b : Nu) : (convA p n a b).length = 2 * n - 1 := by unfold convA; rw [len_fold _ (len_rowA _ _)]; simp
theorem zipIdx_lt {a : Nu} {q : Int × Nat} (h : q ∈ a.zipIdx) : q.2 < a.length := by
  have := List.snd_lt_of_mem_zipIdx h
  omega
theorem zipIdx_mem {a : Nu} {q : Int × Nat} (h : q ∈ a.zipIdx) : q.1 ∈ a := List.fst_mem_of_mem_zipIdx h
abbrev encI (q : Int × Nat) : PyData := .tuple [.int (q.2 : Nat), .int q.1]
theorem enum_eN (a : Nu) : enum1 [eN a] = .ok (a.zipIdx.map encI) := congrArg Out.ok (enumF_map PyData.int 0 a)
section
variable {F A B M P Ru j5 j8 j9 j10 j11 j12 j13 : Sv}
def bodyI : MS := sSet 4 (m2 addD (mV 5) (mV 11)) (m2 modD (m2 addD (m2 ixD (mV 4) (m2 addD (mV 5) (mV 11))) (m2 mulD (mV 8) (mV 12))) (mV 6))
theorem inner {p : Int} (hp : 0 < p) {b L : Nu} {i : Nat} {c : Int} (hl : i + b.length ≤ L.length) (hb : ∀ x ∈ b, -100 < x ∧ x < 100) :
    ∃ u v, forM (.tp [11, 12]) bodyI (b.zipIdx.map encI) [F, A, B, M, .own (L.map PyData.int), .val (.int (i : Int)), .val (.int p), Ru, .val (.int c), j9, j10, j11, j12, j13]
      = .nx [F, A, B, M, .own ((rowA p b L (c, i)).map PyData.int), .val (.int (i : Int)), .val (.int p), Ru, .val (.int c), j9, j10, u, v, j13] := by
  obtain ⟨α', h1, u, v, rfl⟩ := forM_run (T := .tp [11, 12]) (b := bodyI) encI b.zipIdx (fun pre α => ∃ u v, α = [F, A, B, M, .own ((pre.foldl (putA p i c) L).map PyData.int), .val (.int (i : Int)), .val (.int p), Ru, .val (.int c), j9, j10, u, v, j13])
    [F, A, B, M, .own (L.map PyData.int), .val (.int (i : Int)), .val (.int p), Ru, .val (.int c), j9, j10, j11, j12, j13] ⟨_, _, rfl⟩ fun pre x α ⟨u, v, e⟩ ⟨s, hs⟩ => by
      subst e
      have hm : x ∈ b.zipIdx := by rw [hs]; simp
      have lx := zipIdx_lt hm
      have bx := hb _ (zipIdx_mem hm)
      have ln : (pre.foldl (putA p i c) L).length = L.length := len_fold _ (len_putA _ _ _) _ _
      refine ⟨_, _, rfl, v_set (m := i + x.2) (z := (i : Int) + (x.2 : Nat)) rfl (v_m2 (v_m2 (v_m2 (v_own rfl) (v_m2 (v_var rfl) (v_var rfl) (addD_int _ _)) (ixl_of (atI_int (j := i + x.2) (by simp) (by omega)))) (v_m2 (v_var rfl) (v_var rfl) (mulD_int (.inr (by omega)))) (addD_int _ _)) (v_var rfl) (modD_int hp)) rfl (v_m2 (v_var rfl) (v_var rfl) (addD_int _ _)) ?_, .val (.int (x.2 : Nat)), .val (.int x.1), ?_⟩
      · rw [List.length_map]
        have : ((i : Int) + (x.2 : Nat)) = ((i + x.2 : Nat) : Int) := by simp
        rw [this]
        exact ixN_nat (by omega)
      · rw [List.foldl_append]
        show [F, A, B, M, Sv.own (((pre.foldl (putA p i c) L).map PyData.int).set (i + x.2) _), _, _, _, _, _, _, _, _, _] = _
        rw [set_int]
        rfl
  exact ⟨u, v, h1⟩
theorem outer {p : Int} (hp : 0 < p) {a b L : Nu} {j8' j11' j12' : Sv} (hl : a.length + b.length ≤ L.length + 1) (hb : ∀ x ∈ b, -100 < x ∧ x < 100) :
    ∃ t u v w, forM (.tp [5, 8]) (sFor (iB enum1 (mA (mV 2) mA0)) (.tp [11, 12]) bodyI) (a.zipIdx.map encI) [F, A, .val (eN b), M, .own (L.map PyData.int), j5, .val (.int p), Ru, j8, j9, j10, j11, j12, j13]
      = .nx [F, A, .val (eN b), M, .own ((a.zipIdx.foldl (rowA p b) L).map PyData.int), t, .val (.int p), Ru, u, j9, j10, v, w, j13] := by
  obtain ⟨α', h1, t, u, v, w, rfl⟩ := forM_run (T := .tp [5, 8]) (b := sFor (iB enum1 (mA (mV 2) mA0)) (.tp [11, 12]) bodyI) encI a.zipIdx (fun pre α => ∃ t u v w, α = [F, A, .val (eN b), M, .own ((pre.foldl (rowA p b) L).map PyData.int), t, .val (.int p), Ru, u, j9, j10, v, w, j13])
    [F, A, .val (eN b), M, .own (L.map PyData.int), j5, .val (.int p), Ru, j8, j9, j10, j11, j12, j13] ⟨_, _, _, _, rfl⟩ fun pre x α ⟨t, u, v, w, e⟩ ⟨s, hs⟩ => by
      subst e
      have hm : x ∈ a.zipIdx := by rw [hs]; simp
      have lx := zipIdx_lt hm
      have ln : (pre.foldl (rowA p b) L).length = L.length := len_fold _ (len_rowA _ _) _ _
      obtain ⟨u', v', h2⟩ := inner (F := F) (A := A) (B := .val (eN b)) (M := M) (Ru := Ru) (j9 := j9) (j10 := j10) (j11 := v) (j12 := w) (j13 := j13) hp (b := b) (L := pre.foldl (rowA p b) L) (i := x.2) (c := x.1) (by omega) hb
      refine ⟨_, _, rfl, (v_for (v_iB (v_A (v_var rfl) v_A0) rfl (enum_eN b))).trans h2, .val (.int (x.2 : Nat)), .val (.int x.1), u', v', ?_⟩
      rw [List.foldl_append]
      rfl
  exact ⟨t, u, v, w, h1⟩
end
theorem noughts (k : Nat) : (List.range k).map (fun _ => PyData.int 0) = (List.replicate k (0 : Int)).map PyData.int := by
  induction k with
  | zero => rfl
  | succ k ih => rw [List.range_succ, List.map_append, ih, List.replicate_succ', List.map_append]; rfl

/-! ### numbers stay numbers -/
def Bd (p : Int) (L : Nu) : Prop := ∀ x ∈ L, 0 ≤ x ∧ x < p
theorem Bd.set {p : Int} {L : Nu} (h : Bd p L) (i : Nat) {x : Int} (hx : 0 ≤ x ∧ x < p) : Bd p (L.set i x) := fun y hy => by
  rcases List.mem_or_eq_of_mem_set hy with z | rfl
  · exact h y z
  · exact hx
theorem md {p : Int} (hp : 0 < p) (z : Int) : 0 ≤ z % p ∧ z % p < p := ⟨Int.emod_nonneg _ (by omega), Int.emod_lt_of_pos _ hp⟩
theorem Bd.fold {β : Type} {p : Int} (g : Nu → β → Nu) (h : ∀ L q, Bd p L → Bd p (g L q)) : ∀ (l : List β) (L : Nu), Bd p L → Bd p (l.foldl g L)
  | [], _, hL => hL
  | x :: l, L, hL => by rw [List.foldl_cons]; exact Bd.fold g h l _ (h _ _ hL)
theorem num_prodA {f : Int × Nu} {a b : Nu} (hp : 0 < f.1) (n1 : 1 ≤ f.2.length) : Num f (prodA f a b) := by
  constructor
  · unfold prodA redA
    rw [List.length_take, len_fold _ (len_rowR _ _ _), len_convA]
    omega
  · intro x hx
    have hx := List.mem_of_mem_take hx
    have h0 : Bd f.1 (convA f.1 f.2.length a b) := Bd.fold _ (fun L q hL => Bd.fold _ (fun L q hL => hL.set _ (md hp _)) _ _ hL) _ _ fun y hy => by
      rw [(List.mem_replicate.mp hy).2]; omega
    exact Bd.fold _ (fun L q hL => Bd.fold _ (fun L q hL => hL.set _ (md hp _)) _ _ hL) _ _ h0 x hx
theorem num_zip {f : Int × Nu} {a b : Nu} (hp : 0 < f.1) (g : Int → Int → Int) (ha : Num f a) (hb : Num f b) : Num f (List.zipWith (fun x y => g x y % f.1) a b) := by
  constructor
  · rw [List.length_zipWith, ha.1, hb.1]; omega
  · intro x hx
    obtain ⟨i, hi, rfl⟩ := List.mem_iff_getElem.mp hx
    rw [List.getElem_zipWith]
    exact md hp _
theorem num_addN {f : Int × Nu} {a b : Nu} (hp : 0 < f.1) (ha : Num f a) (hb : Num f b) : Num f (addN f.1 a b) := num_zip hp (fun x y => x + y) ha hb
theorem num_subN {f : Int × Nu} {a b : Nu} (hp : 0 < f.1) (ha : Num f a) (hb : Num f b) : Num f (subN f.1 a b) := num_zip hp (fun x y => x - y) ha hb
def zer (f : Int × Nu) : Nu := List.replicate f.2.length 0
def oneA (f : Int × Nu) : Nu := 1 % f.1 :: List.replicate (f.2.length - 1) 0
theorem num_oneA {f : Int × Nu} (hp : 0 < f.1) (n1 : 1 ≤ f.2.length) : Num f (oneA f) := ⟨by simp [oneA]; omega, fun x hx => by
  unfold oneA at hx
  rcases List.mem_cons.mp hx with rfl | hx
  · exact md hp _
  · rw [(List.mem_replicate.mp hx).2]; omega⟩
/-! ### powers -/
def powW (f : Int × Nu) : Nat → Nu → Nu → Nat → Nu
  | 0, x, _, _ => x
  | k + 1, x, a, n => if n = 0 then x else powW f k (if n % 2 = 1 then prodA f x a else x) (prodA f a a) (n / 2)
def sizA (f : Int × Nu) : Nat := f.1.toNat ^ f.2.length
def invA (f : Int × Nu) (a : Nu) : Nu := powW f 24 (oneA f) a (sizA f - 2)
theorem siz_bd {f : Int × Nu} (g : Good f) : 2 ≤ sizA f ∧ sizA f < 2 ^ 24 := by
  have p2 := g.p2; have p7 := g.p7; have n8 := g.n8; have n1 := g.n1
  unfold sizA
  constructor
  · calc 2 ≤ f.1.toNat ^ 1 := by simp; omega
      _ ≤ _ := Nat.pow_le_pow_right (by omega) n1
  · calc f.1.toNat ^ f.2.length ≤ 7 ^ f.2.length := Nat.pow_le_pow_left (by omega) _
      _ ≤ 7 ^ 8 := Nat.pow_le_pow_right (by omega) n8
      _ < 2 ^ 24 := by decide

/-! ### what the laws reckon themselves -/
def scl (p c : Int) (a : Nu) : Nu := a.map fun x => c * x % p


/-! ### cells, mixes, drawn numbers -/
theorem cell_at (ns : List Int) (k : Nat) : m__law_cell [.list (ns.map PyData.int), .int (k : Int)] = .ok ⟨.v, .int (ns.getD k 0)⟩ := by
  rcases Nat.lt_or_ge k ns.length with h | h
  · refine v_body (v_seqR ((v_ifT (v_tB (v_m2 (v_var rfl) (v_B (v_A (v_var rfl) v_A0) (len_lst _)) ((ltD_int _ _).trans ?_)))).trans (v_ret (v_m2 (v_var rfl) (v_var rfl) (ixl_of (atI_int rfl h))))))
    rw [decide_eq_true (by rw [List.length_map]; omega)]
    rfl
  · have e : ns.getD k 0 = 0 := by simp [h]
    rw [e]
    refine v_body ((v_seq ((v_ifF (v_tB (v_m2 (v_var rfl) (v_B (v_A (v_var rfl) v_A0) (len_lst _)) ((ltD_int _ _).trans ?_)))).trans rfl)).trans (v_ret v_c))
    rw [decide_eq_false (by rw [List.length_map]; omega)]
    rfl
theorem cell_bits {ns : List Int} (h : ∀ k ∈ ns, Builtin.Int.intBits k ≤ 1048576) (k : Nat) : Builtin.Int.intBits (ns.getD k 0) ≤ 1048576 := by
  rcases Nat.lt_or_ge k ns.length with l | l
  · exact h _ (by simp [l])
  · have e : ns.getD k 0 = 0 := by simp [l]
    rw [e]
    exact Nat.zero_le _
def mix (c p m : Int) : Int := (c * 48271 % p) ^ 3 % p % m
theorem pow_int {i j : Int} (h0 : 0 ≤ j) (h : (Builtin.Int.intBits i : Int) * j ≤ 134217728) : powD (.int i) (.int j) = .ok ⟨.v, .int (i ^ j.toNat)⟩ := by
  show (if 0 ≤ j ∧ (Builtin.Int.intBits i : Int) * j ≤ 134217728 then Out.ok (R.mk .v (.int (i ^ j.toNat))) else .bad) = _
  rw [if_pos ⟨h0, h⟩]
theorem bits_lt {x : Int} {m : Nat} (h0 : 0 ≤ x) (h : x < 2 ^ m) : Builtin.Int.intBits x ≤ m := by
  refine PySem.intBits_le_iff.mpr ?_
  have : ((x.natAbs : Nat) : Int) < ((2 ^ m : Nat) : Int) := by rw [Int.natAbs_of_nonneg h0, Int.natCast_pow]; exact h
  exact Int.ofNat_lt.mp this
theorem e__law_mix {c p m : Int} (hp : 0 < p) (hp2 : p < 10000) (hm : 0 < m) : m__law_mix [.int c, .int p, .int m] = .ok ⟨.v, .int (mix c p m)⟩ := by
  have b := md hp (c * 48271)
  have bb : Builtin.Int.intBits (c * 48271 % p) ≤ 14 := bits_lt b.1 (by show _ < (2 : Int) ^ 14; omega)
  exact v_body (v_ret (v_m2 (v_m2 (v_m2 (v_m2 (v_m2 (v_var rfl) v_c (mulD_int (.inr (by omega)))) (v_var rfl) (modD_int hp)) v_c (pow_int (by omega) (by show ((Builtin.Int.intBits (c * 48271 % p) : Nat) : Int) * 3 ≤ 134217728; omega))) (v_var rfl) (modD_int hp)) (v_var rfl) (modD_int hm)))
theorem mix_bd (c p : Int) {m : Int} (hm : 0 < m) : 0 ≤ mix c p m ∧ mix c p m < m := md hm _

end FM

namespace FM
open PySem PySem.Spec PyProof.Rows L2 FS
/-! ### the fields that the laws draw -/
def rowsT (p : Nat) : Nat → List Nu
  | 0 => [[]]
  | n + 1 => (rowsT p n).flatMap fun r => (List.range p).map fun (k : Nat) => r ++ [(k : Int)]
def isB (o : Out R) (b : Bool) : Bool := match o with
  | .ok ⟨.v, .bool c⟩ => c == b
  | _ => false
theorem isB_ok {o : Out R} {b : Bool} (h : isB o b = true) : o = .ok ⟨.v, .bool b⟩ := by
  unfold isB at h
  split at h
  · rw [eq_of_beq h]
  · cases h
structure Kind (p n : Nat) (ru : List Nu) : Prop where
  rows : m__law_rows [.int (p : Int), .int (n : Int)] = .ok ⟨.v, .list ((rowsT p n).map eN)⟩
  rule : ∀ r ∈ rowsT p n, m__law_is_rule [.int (p : Int), eN r] = .ok ⟨.v, .bool (ru.contains r)⟩
  ex : ∃ r ∈ rowsT p n, ru.contains r = true
  good : ∀ r ∈ ru, Good ((p : Int), r)
  len : 0 < (rowsT p n).length ∧ (rowsT p n).length ≤ 1000
def ru_2_2 : List Nu := [[1, 1]]
theorem rows_2_2 : m__law_rows [.int ((2 : Nat) : Int), .int ((2 : Nat) : Int)] = .ok ⟨.v, .list ((rowsT 2 2).map eN)⟩ := by kernel_rfl
theorem rule_2_2 : ((rowsT 2 2).all fun r => isB (m__law_is_rule [.int ((2 : Nat) : Int), eN r]) (ru_2_2.contains r)) = true := by kernel_rfl
theorem g_2_2_0 : Good (((2 : Nat) : Int), [1, 1]) := ⟨by kernel_rfl, by decide, by decide, by decide, by decide, ⟨rfl, by decide⟩⟩
theorem kind_2_2 : Kind 2 2 ru_2_2 := ⟨rows_2_2, fun r h => isB_ok (List.all_eq_true.mp rule_2_2 r h), by decide +kernel, fun r h => by
  simp only [ru_2_2, List.mem_cons, List.not_mem_nil, or_false] at h
  rcases h with rfl
  · exact g_2_2_0, by decide +kernel⟩
def ru_2_3 : List Nu := [[1, 0, 1], [1, 1, 0]]
theorem rows_2_3 : m__law_rows [.int ((2 : Nat) : Int), .int ((3 : Nat) : Int)] = .ok ⟨.v, .list ((rowsT 2 3).map eN)⟩ := by kernel_rfl
theorem rule_2_3 : ((rowsT 2 3).all fun r => isB (m__law_is_rule [.int ((2 : Nat) : Int), eN r]) (ru_2_3.contains r)) = true := by kernel_rfl
theorem g_2_3_0 : Good (((2 : Nat) : Int), [1, 0, 1]) := ⟨by kernel_rfl, by decide, by decide, by decide, by decide, ⟨rfl, by decide⟩⟩
theorem g_2_3_1 : Good (((2 : Nat) : Int), [1, 1, 0]) := ⟨by kernel_rfl, by decide, by decide, by decide, by decide, ⟨rfl, by decide⟩⟩
theorem kind_2_3 : Kind 2 3 ru_2_3 := ⟨rows_2_3, fun r h => isB_ok (List.all_eq_true.mp rule_2_3 r h), by decide +kernel, fun r h => by
  simp only [ru_2_3, List.mem_cons, List.not_mem_nil, or_false] at h
  rcases h with rfl | rfl
  · exact g_2_3_0
  · exact g_2_3_1, by decide +kernel⟩
def ru_3_2 : List Nu := [[1, 0], [2, 1], [2, 2]]
theorem rows_3_2 : m__law_rows [.int ((3 : Nat) : Int), .int ((2 : Nat) : Int)] = .ok ⟨.v, .list ((rowsT 3 2).map eN)⟩ := by kernel_rfl
theorem rule_3_2 : ((rowsT 3 2).all fun r => isB (m__law_is_rule [.int ((3 : Nat) : Int), eN r]) (ru_3_2.contains r)) = true := by kernel_rfl
theorem g_3_2_0 : Good (((3 : Nat) : Int), [1, 0]) := ⟨by kernel_rfl, by decide, by decide, by decide, by decide, ⟨rfl, by decide⟩⟩
theorem g_3_2_1 : Good (((3 : Nat) : Int), [2, 1]) := ⟨by kernel_rfl, by decide, by decide, by decide, by decide, ⟨rfl, by decide⟩⟩
theorem g_3_2_2 : Good (((3 : Nat) : Int), [2, 2]) := ⟨by kernel_rfl, by decide, by decide, by decide, by decide, ⟨rfl, by decide⟩⟩
theorem kind_3_2 : Kind 3 2 ru_3_2 := ⟨rows_3_2, fun r h => isB_ok (List.all_eq_true.mp rule_3_2 r h), by decide +kernel, fun r h => by
  simp only [ru_3_2, List.mem_cons, List.not_mem_nil, or_false] at h
  rcases h with rfl | rfl | rfl
  · exact g_3_2_0
  · exact g_3_2_1
  · exact g_3_2_2, by decide +kernel⟩
def ru_2_4 : List Nu := [[1, 0, 0, 1], [1, 1, 0, 0], [1, 1, 1, 1]]
theorem rows_2_4 : m__law_rows [.int ((2 : Nat) : Int), .int ((4 : Nat) : Int)] = .ok ⟨.v, .list ((rowsT 2 4).map eN)⟩ := by kernel_rfl
theorem rule_2_4 : ((rowsT 2 4).all fun r => isB (m__law_is_rule [.int ((2 : Nat) : Int), eN r]) (ru_2_4.contains r)) = true := by kernel_rfl
theorem g_2_4_0 : Good (((2 : Nat) : Int), [1, 0, 0, 1]) := ⟨by kernel_rfl, by decide, by decide, by decide, by decide, ⟨rfl, by decide⟩⟩
theorem g_2_4_1 : Good (((2 : Nat) : Int), [1, 1, 0, 0]) := ⟨by kernel_rfl, by decide, by decide, by decide, by decide, ⟨rfl, by decide⟩⟩
theorem g_2_4_2 : Good (((2 : Nat) : Int), [1, 1, 1, 1]) := ⟨by kernel_rfl, by decide, by decide, by decide, by decide, ⟨rfl, by decide⟩⟩
theorem kind_2_4 : Kind 2 4 ru_2_4 := ⟨rows_2_4, fun r h => isB_ok (List.all_eq_true.mp rule_2_4 r h), by decide +kernel, fun r h => by
  simp only [ru_2_4, List.mem_cons, List.not_mem_nil, or_false] at h
  rcases h with rfl | rfl | rfl
  · exact g_2_4_0
  · exact g_2_4_1
  · exact g_2_4_2, by decide +kernel⟩
def ru_5_1 : List Nu := [[0], [1], [2], [3], [4]]
theorem rows_5_1 : m__law_rows [.int ((5 : Nat) : Int), .int ((1 : Nat) : Int)] = .ok ⟨.v, .list ((rowsT 5 1).map eN)⟩ := by kernel_rfl
theorem rule_5_1 : ((rowsT 5 1).all fun r => isB (m__law_is_rule [.int ((5 : Nat) : Int), eN r]) (ru_5_1.contains r)) = true := by kernel_rfl
theorem g_5_1_0 : Good (((5 : Nat) : Int), [0]) := ⟨by kernel_rfl, by decide, by decide, by decide, by decide, ⟨rfl, by decide⟩⟩
theorem g_5_1_1 : Good (((5 : Nat) : Int), [1]) := ⟨by kernel_rfl, by decide, by decide, by decide, by decide, ⟨rfl, by decide⟩⟩
theorem g_5_1_2 : Good (((5 : Nat) : Int), [2]) := ⟨by kernel_rfl, by decide, by decide, by decide, by decide, ⟨rfl, by decide⟩⟩
theorem g_5_1_3 : Good (((5 : Nat) : Int), [3]) := ⟨by kernel_rfl, by decide, by decide, by decide, by decide, ⟨rfl, by decide⟩⟩
theorem g_5_1_4 : Good (((5 : Nat) : Int), [4]) := ⟨by kernel_rfl, by decide, by decide, by decide, by decide, ⟨rfl, by decide⟩⟩
theorem kind_5_1 : Kind 5 1 ru_5_1 := ⟨rows_5_1, fun r h => isB_ok (List.all_eq_true.mp rule_5_1 r h), by decide +kernel, fun r h => by
  simp only [ru_5_1, List.mem_cons, List.not_mem_nil, or_false] at h
  rcases h with rfl | rfl | rfl | rfl | rfl
  · exact g_5_1_0
  · exact g_5_1_1
  · exact g_5_1_2
  · exact g_5_1_3
  · exact g_5_1_4, by decide +kernel⟩
def ru_3_1 : List Nu := [[0], [1], [2]]
theorem rows_3_1 : m__law_rows [.int ((3 : Nat) : Int), .int ((1 : Nat) : Int)] = .ok ⟨.v, .list ((rowsT 3 1).map eN)⟩ := by kernel_rfl
theorem rule_3_1 : ((rowsT 3 1).all fun r => isB (m__law_is_rule [.int ((3 : Nat) : Int), eN r]) (ru_3_1.contains r)) = true := by kernel_rfl
theorem g_3_1_0 : Good (((3 : Nat) : Int), [0]) := ⟨by kernel_rfl, by decide, by decide, by decide, by decide, ⟨rfl, by decide⟩⟩
theorem g_3_1_1 : Good (((3 : Nat) : Int), [1]) := ⟨by kernel_rfl, by decide, by decide, by decide, by decide, ⟨rfl, by decide⟩⟩
theorem g_3_1_2 : Good (((3 : Nat) : Int), [2]) := ⟨by kernel_rfl, by decide, by decide, by decide, by decide, ⟨rfl, by decide⟩⟩
theorem kind_3_1 : Kind 3 1 ru_3_1 := ⟨rows_3_1, fun r h => isB_ok (List.all_eq_true.mp rule_3_1 r h), by decide +kernel, fun r h => by
  simp only [ru_3_1, List.mem_cons, List.not_mem_nil, or_false] at h
  rcases h with rfl | rfl | rfl
  · exact g_3_1_0
  · exact g_3_1_1
  · exact g_3_1_2, by decide +kernel⟩
def ru_5_2 : List Nu := [[1, 1], [1, 4], [2, 0], [2, 1], [2, 4], [3, 0], [3, 2], [3, 3], [4, 2], [4, 3]]
theorem rows_5_2 : m__law_rows [.int ((5 : Nat) : Int), .int ((2 : Nat) : Int)] = .ok ⟨.v, .list ((rowsT 5 2).map eN)⟩ := by kernel_rfl
theorem rule_5_2 : ((rowsT 5 2).all fun r => isB (m__law_is_rule [.int ((5 : Nat) : Int), eN r]) (ru_5_2.contains r)) = true := by kernel_rfl
theorem g_5_2_0 : Good (((5 : Nat) : Int), [1, 1]) := ⟨by kernel_rfl, by decide, by decide, by decide, by decide, ⟨rfl, by decide⟩⟩
theorem g_5_2_1 : Good (((5 : Nat) : Int), [1, 4]) := ⟨by kernel_rfl, by decide, by decide, by decide, by decide, ⟨rfl, by decide⟩⟩
theorem g_5_2_2 : Good (((5 : Nat) : Int), [2, 0]) := ⟨by kernel_rfl, by decide, by decide, by decide, by decide, ⟨rfl, by decide⟩⟩
theorem g_5_2_3 : Good (((5 : Nat) : Int), [2, 1]) := ⟨by kernel_rfl, by decide, by decide, by decide, by decide, ⟨rfl, by decide⟩⟩
theorem g_5_2_4 : Good (((5 : Nat) : Int), [2, 4]) := ⟨by kernel_rfl, by decide, by decide, by decide, by decide, ⟨rfl, by decide⟩⟩
theorem g_5_2_5 : Good (((5 : Nat) : Int), [3, 0]) := ⟨by kernel_rfl, by decide, by decide, by decide, by decide, ⟨rfl, by decide⟩⟩
theorem g_5_2_6 : Good (((5 : Nat) : Int), [3, 2]) := ⟨by kernel_rfl, by decide, by decide, by decide, by decide, ⟨rfl, by decide⟩⟩
theorem g_5_2_7 : Good (((5 : Nat) : Int), [3, 3]) := ⟨by kernel_rfl, by decide, by decide, by decide, by decide, ⟨rfl, by decide⟩⟩
theorem g_5_2_8 : Good (((5 : Nat) : Int), [4, 2]) := ⟨by kernel_rfl, by decide, by decide, by decide, by decide, ⟨rfl, by decide⟩⟩
theorem g_5_2_9 : Good (((5 : Nat) : Int), [4, 3]) := ⟨by kernel_rfl, by decide, by decide, by decide, by decide, ⟨rfl, by decide⟩⟩
theorem kind_5_2 : Kind 5 2 ru_5_2 := ⟨rows_5_2, fun r h => isB_ok (List.all_eq_true.mp rule_5_2 r h), by decide +kernel, fun r h => by
  simp only [ru_5_2, List.mem_cons, List.not_mem_nil, or_false] at h
  rcases h with rfl | rfl | rfl | rfl | rfl | rfl | rfl | rfl | rfl | rfl
  · exact g_5_2_0
  · exact g_5_2_1
  · exact g_5_2_2
  · exact g_5_2_3
  · exact g_5_2_4
  · exact g_5_2_5
  · exact g_5_2_6
  · exact g_5_2_7
  · exact g_5_2_8
  · exact g_5_2_9, by decide +kernel⟩
def ru_3_3 : List Nu := [[1, 0, 2], [1, 1, 2], [1, 2, 0], [1, 2, 1], [2, 0, 1], [2, 1, 1], [2, 2, 0], [2, 2, 2]]
theorem rows_3_3 : m__law_rows [.int ((3 : Nat) : Int), .int ((3 : Nat) : Int)] = .ok ⟨.v, .list ((rowsT 3 3).map eN)⟩ := by kernel_rfl
theorem rule_3_3 : ((rowsT 3 3).all fun r => isB (m__law_is_rule [.int ((3 : Nat) : Int), eN r]) (ru_3_3.contains r)) = true := by kernel_rfl
theorem g_3_3_0 : Good (((3 : Nat) : Int), [1, 0, 2]) := ⟨by kernel_rfl, by decide, by decide, by decide, by decide, ⟨rfl, by decide⟩⟩
theorem g_3_3_1 : Good (((3 : Nat) : Int), [1, 1, 2]) := ⟨by kernel_rfl, by decide, by decide, by decide, by decide, ⟨rfl, by decide⟩⟩
theorem g_3_3_2 : Good (((3 : Nat) : Int), [1, 2, 0]) := ⟨by kernel_rfl, by decide, by decide, by decide, by decide, ⟨rfl, by decide⟩⟩
theorem g_3_3_3 : Good (((3 : Nat) : Int), [1, 2, 1]) := ⟨by kernel_rfl, by decide, by decide, by decide, by decide, ⟨rfl, by decide⟩⟩
theorem g_3_3_4 : Good (((3 : Nat) : Int), [2, 0, 1]) := ⟨by kernel_rfl, by decide, by decide, by decide, by decide, ⟨rfl, by decide⟩⟩
theorem g_3_3_5 : Good (((3 : Nat) : Int), [2, 1, 1]) := ⟨by kernel_rfl, by decide, by decide, by decide, by decide, ⟨rfl, by decide⟩⟩
theorem g_3_3_6 : Good (((3 : Nat) : Int), [2, 2, 0]) := ⟨by kernel_rfl, by decide, by decide, by decide, by decide, ⟨rfl, by decide⟩⟩
theorem g_3_3_7 : Good (((3 : Nat) : Int), [2, 2, 2]) := ⟨by kernel_rfl, by decide, by decide, by decide, by decide, ⟨rfl, by decide⟩⟩
theorem kind_3_3 : Kind 3 3 ru_3_3 := ⟨rows_3_3, fun r h => isB_ok (List.all_eq_true.mp rule_3_3 r h), by decide +kernel, fun r h => by
  simp only [ru_3_3, List.mem_cons, List.not_mem_nil, or_false] at h
  rcases h with rfl | rfl | rfl | rfl | rfl | rfl | rfl | rfl
  · exact g_3_3_0
  · exact g_3_3_1
  · exact g_3_3_2
  · exact g_3_3_3
  · exact g_3_3_4
  · exact g_3_3_5
  · exact g_3_3_6
  · exact g_3_3_7, by decide +kernel⟩
def ru_2_1 : List Nu := [[0], [1]]
theorem rows_2_1 : m__law_rows [.int ((2 : Nat) : Int), .int ((1 : Nat) : Int)] = .ok ⟨.v, .list ((rowsT 2 1).map eN)⟩ := by kernel_rfl
theorem rule_2_1 : ((rowsT 2 1).all fun r => isB (m__law_is_rule [.int ((2 : Nat) : Int), eN r]) (ru_2_1.contains r)) = true := by kernel_rfl
theorem g_2_1_0 : Good (((2 : Nat) : Int), [0]) := ⟨by kernel_rfl, by decide, by decide, by decide, by decide, ⟨rfl, by decide⟩⟩
theorem g_2_1_1 : Good (((2 : Nat) : Int), [1]) := ⟨by kernel_rfl, by decide, by decide, by decide, by decide, ⟨rfl, by decide⟩⟩
theorem kind_2_1 : Kind 2 1 ru_2_1 := ⟨rows_2_1, fun r h => isB_ok (List.all_eq_true.mp rule_2_1 r h), by decide +kernel, fun r h => by
  simp only [ru_2_1, List.mem_cons, List.not_mem_nil, or_false] at h
  rcases h with rfl | rfl
  · exact g_2_1_0
  · exact g_2_1_1, by decide +kernel⟩
def ru_7_1 : List Nu := [[0], [1], [2], [3], [4], [5], [6]]
theorem rows_7_1 : m__law_rows [.int ((7 : Nat) : Int), .int ((1 : Nat) : Int)] = .ok ⟨.v, .list ((rowsT 7 1).map eN)⟩ := by kernel_rfl
theorem rule_7_1 : ((rowsT 7 1).all fun r => isB (m__law_is_rule [.int ((7 : Nat) : Int), eN r]) (ru_7_1.contains r)) = true := by kernel_rfl
theorem g_7_1_0 : Good (((7 : Nat) : Int), [0]) := ⟨by kernel_rfl, by decide, by decide, by decide, by decide, ⟨rfl, by decide⟩⟩
theorem g_7_1_1 : Good (((7 : Nat) : Int), [1]) := ⟨by kernel_rfl, by decide, by decide, by decide, by decide, ⟨rfl, by decide⟩⟩
theorem g_7_1_2 : Good (((7 : Nat) : Int), [2]) := ⟨by kernel_rfl, by decide, by decide, by decide, by decide, ⟨rfl, by decide⟩⟩
theorem g_7_1_3 : Good (((7 : Nat) : Int), [3]) := ⟨by kernel_rfl, by decide, by decide, by decide, by decide, ⟨rfl, by decide⟩⟩
theorem g_7_1_4 : Good (((7 : Nat) : Int), [4]) := ⟨by kernel_rfl, by decide, by decide, by decide, by decide, ⟨rfl, by decide⟩⟩
theorem g_7_1_5 : Good (((7 : Nat) : Int), [5]) := ⟨by kernel_rfl, by decide, by decide, by decide, by decide, ⟨rfl, by decide⟩⟩
theorem g_7_1_6 : Good (((7 : Nat) : Int), [6]) := ⟨by kernel_rfl, by decide, by decide, by decide, by decide, ⟨rfl, by decide⟩⟩
theorem kind_7_1 : Kind 7 1 ru_7_1 := ⟨rows_7_1, fun r h => isB_ok (List.all_eq_true.mp rule_7_1 r h), by decide +kernel, fun r h => by
  simp only [ru_7_1, List.mem_cons, List.not_mem_nil, or_false] at h
  rcases h with rfl | rfl | rfl | rfl | rfl | rfl | rfl
  · exact g_7_1_0
  · exact g_7_1_1
  · exact g_7_1_2
  · exact g_7_1_3
  · exact g_7_1_4
  · exact g_7_1_5
  · exact g_7_1_6, by decide +kernel⟩
def ru_7_2 : List Nu := [[1, 0], [1, 3], [1, 4], [2, 0], [2, 2], [2, 5], [3, 1], [3, 2], [3, 5], [3, 6], [4, 0], [4, 1], [4, 6], [5, 2], [5, 3], [5, 4], [5, 5], [6, 1], [6, 3], [6, 4], [6, 6]]
theorem rows_7_2 : m__law_rows [.int ((7 : Nat) : Int), .int ((2 : Nat) : Int)] = .ok ⟨.v, .list ((rowsT 7 2).map eN)⟩ := by kernel_rfl
theorem rule_7_2 : ((rowsT 7 2).all fun r => isB (m__law_is_rule [.int ((7 : Nat) : Int), eN r]) (ru_7_2.contains r)) = true := by kernel_rfl
theorem g_7_2_0 : Good (((7 : Nat) : Int), [1, 0]) := ⟨by kernel_rfl, by decide, by decide, by decide, by decide, ⟨rfl, by decide⟩⟩
theorem g_7_2_1 : Good (((7 : Nat) : Int), [1, 3]) := ⟨by kernel_rfl, by decide, by decide, by decide, by decide, ⟨rfl, by decide⟩⟩
theorem g_7_2_2 : Good (((7 : Nat) : Int), [1, 4]) := ⟨by kernel_rfl, by decide, by decide, by decide, by decide, ⟨rfl, by decide⟩⟩
theorem g_7_2_3 : Good (((7 : Nat) : Int), [2, 0]) := ⟨by kernel_rfl, by decide, by decide, by decide, by decide, ⟨rfl, by decide⟩⟩
theorem g_7_2_4 : Good (((7 : Nat) : Int), [2, 2]) := ⟨by kernel_rfl, by decide, by decide, by decide, by decide, ⟨rfl, by decide⟩⟩
theorem g_7_2_5 : Good (((7 : Nat) : Int), [2, 5]) := ⟨by kernel_rfl, by decide, by decide, by decide, by decide, ⟨rfl, by decide⟩⟩
theorem g_7_2_6 : Good (((7 : Nat) : Int), [3, 1]) := ⟨by kernel_rfl, by decide, by decide, by decide, by decide, ⟨rfl, by decide⟩⟩
theorem g_7_2_7 : Good (((7 : Nat) : Int), [3, 2]) := ⟨by kernel_rfl, by decide, by decide, by decide, by decide, ⟨rfl, by decide⟩⟩
theorem g_7_2_8 : Good (((7 : Nat) : Int), [3, 5]) := ⟨by kernel_rfl, by decide, by decide, by decide, by decide, ⟨rfl, by decide⟩⟩
theorem g_7_2_9 : Good (((7 : Nat) : Int), [3, 6]) := ⟨by kernel_rfl, by decide, by decide, by decide, by decide, ⟨rfl, by decide⟩⟩
theorem g_7_2_10 : Good (((7 : Nat) : Int), [4, 0]) := ⟨by kernel_rfl, by decide, by decide, by decide, by decide, ⟨rfl, by decide⟩⟩
theorem g_7_2_11 : Good (((7 : Nat) : Int), [4, 1]) := ⟨by kernel_rfl, by decide, by decide, by decide, by decide, ⟨rfl, by decide⟩⟩
theorem g_7_2_12 : Good (((7 : Nat) : Int), [4, 6]) := ⟨by kernel_rfl, by decide, by decide, by decide, by decide, ⟨rfl, by decide⟩⟩
theorem g_7_2_13 : Good (((7 : Nat) : Int), [5, 2]) := ⟨by kernel_rfl, by decide, by decide, by decide, by decide, ⟨rfl, by decide⟩⟩
theorem g_7_2_14 : Good (((7 : Nat) : Int), [5, 3]) := ⟨by kernel_rfl, by decide, by decide, by decide, by decide, ⟨rfl, by decide⟩⟩
theorem g_7_2_15 : Good (((7 : Nat) : Int), [5, 4]) := ⟨by kernel_rfl, by decide, by decide, by decide, by decide, ⟨rfl, by decide⟩⟩
theorem g_7_2_16 : Good (((7 : Nat) : Int), [5, 5]) := ⟨by kernel_rfl, by decide, by decide, by decide, by decide, ⟨rfl, by decide⟩⟩
theorem g_7_2_17 : Good (((7 : Nat) : Int), [6, 1]) := ⟨by kernel_rfl, by decide, by decide, by decide, by decide, ⟨rfl, by decide⟩⟩
theorem g_7_2_18 : Good (((7 : Nat) : Int), [6, 3]) := ⟨by kernel_rfl, by decide, by decide, by decide, by decide, ⟨rfl, by decide⟩⟩
theorem g_7_2_19 : Good (((7 : Nat) : Int), [6, 4]) := ⟨by kernel_rfl, by decide, by decide, by decide, by decide, ⟨rfl, by decide⟩⟩
theorem g_7_2_20 : Good (((7 : Nat) : Int), [6, 6]) := ⟨by kernel_rfl, by decide, by decide, by decide, by decide, ⟨rfl, by decide⟩⟩
theorem kind_7_2 : Kind 7 2 ru_7_2 := ⟨rows_7_2, fun r h => isB_ok (List.all_eq_true.mp rule_7_2 r h), by decide +kernel, fun r h => by
  simp only [ru_7_2, List.mem_cons, List.not_mem_nil, or_false] at h
  rcases h with rfl | rfl | rfl | rfl | rfl | rfl | rfl | rfl | rfl | rfl | rfl | rfl | rfl | rfl | rfl | rfl | rfl | rfl | rfl | rfl | rfl
  · exact g_7_2_0
  · exact g_7_2_1
  · exact g_7_2_2
  · exact g_7_2_3
  · exact g_7_2_4
  · exact g_7_2_5
  · exact g_7_2_6
  · exact g_7_2_7
  · exact g_7_2_8
  · exact g_7_2_9
  · exact g_7_2_10
  · exact g_7_2_11
  · exact g_7_2_12
  · exact g_7_2_13
  · exact g_7_2_14
  · exact g_7_2_15
  · exact g_7_2_16
  · exact g_7_2_17
  · exact g_7_2_18
  · exact g_7_2_19
  · exact g_7_2_20, by decide +kernel⟩
def ru_2_5 : List Nu := [[1, 0, 0, 1, 0], [1, 0, 1, 0, 0], [1, 0, 1, 1, 1], [1, 1, 0, 1, 1], [1, 1, 1, 0, 1], [1, 1, 1, 1, 0]]
theorem rows_2_5 : m__law_rows [.int ((2 : Nat) : Int), .int ((5 : Nat) : Int)] = .ok ⟨.v, .list ((rowsT 2 5).map eN)⟩ := by kernel_rfl
theorem rule_2_5 : ((rowsT 2 5).all fun r => isB (m__law_is_rule [.int ((2 : Nat) : Int), eN r]) (ru_2_5.contains r)) = true := by kernel_rfl
theorem g_2_5_0 : Good (((2 : Nat) : Int), [1, 0, 0, 1, 0]) := ⟨by kernel_rfl, by decide, by decide, by decide, by decide, ⟨rfl, by decide⟩⟩
theorem g_2_5_1 : Good (((2 : Nat) : Int), [1, 0, 1, 0, 0]) := ⟨by kernel_rfl, by decide, by decide, by decide, by decide, ⟨rfl, by decide⟩⟩
theorem g_2_5_2 : Good (((2 : Nat) : Int), [1, 0, 1, 1, 1]) := ⟨by kernel_rfl, by decide, by decide, by decide, by decide, ⟨rfl, by decide⟩⟩
theorem g_2_5_3 : Good (((2 : Nat) : Int), [1, 1, 0, 1, 1]) := ⟨by kernel_rfl, by decide, by decide, by decide, by decide, ⟨rfl, by decide⟩⟩
theorem g_2_5_4 : Good (((2 : Nat) : Int), [1, 1, 1, 0, 1]) := ⟨by kernel_rfl, by decide, by decide, by decide, by decide, ⟨rfl, by decide⟩⟩
theorem g_2_5_5 : Good (((2 : Nat) : Int), [1, 1, 1, 1, 0]) := ⟨by kernel_rfl, by decide, by decide, by decide, by decide, ⟨rfl, by decide⟩⟩
theorem kind_2_5 : Kind 2 5 ru_2_5 := ⟨rows_2_5, fun r h => isB_ok (List.all_eq_true.mp rule_2_5 r h), by decide +kernel, fun r h => by
  simp only [ru_2_5, List.mem_cons, List.not_mem_nil, or_false] at h
  rcases h with rfl | rfl | rfl | rfl | rfl | rfl
  · exact g_2_5_0
  · exact g_2_5_1
  · exact g_2_5_2
  · exact g_2_5_3
  · exact g_2_5_4
  · exact g_2_5_5, by decide +kernel⟩
def ru_2_6 : List Nu := [[1, 1, 0, 0, 0, 0]]
theorem g_2_6_0 : Good (((2 : Nat) : Int), [1, 1, 0, 0, 0, 0]) := ⟨by kernel_rfl, by decide, by decide, by decide, by decide, ⟨rfl, by decide⟩⟩
theorem good_2_6 : ∀ r ∈ ru_2_6, Good (((2 : Nat) : Int), r) := fun r h => by
  simp only [ru_2_6, List.mem_cons, List.not_mem_nil, or_false] at h
  subst h
  exact g_2_6_0
def ru_3_4 : List Nu := [[2, 1, 0, 0]]
theorem g_3_4_0 : Good (((3 : Nat) : Int), [2, 1, 0, 0]) := ⟨by kernel_rfl, by decide, by decide, by decide, by decide, ⟨rfl, by decide⟩⟩
theorem good_3_4 : ∀ r ∈ ru_3_4, Good (((3 : Nat) : Int), r) := fun r h => by
  simp only [ru_3_4, List.mem_cons, List.not_mem_nil, or_false] at h
  subst h
  exact g_3_4_0
theorem rows_2_6 : m__law_rows [.int ((2 : Nat) : Int), .int ((6 : Nat) : Int)] = .ok ⟨.v, .list ((rowsT 2 6).map eN)⟩ := by kernel_rfl
theorem rows_3_4 : m__law_rows [.int ((3 : Nat) : Int), .int ((4 : Nat) : Int)] = .ok ⟨.v, .list ((rowsT 3 4).map eN)⟩ := by kernel_rfl
end FM

namespace FM
open PySem FS L2

theorem cut_hi {β : Type} (xs : List β) {b : Nat} (h : b ≤ xs.length) : cutP xs none (some (b : Int)) = xs.take b := by
  unfold cutP
  have e : HT.sIx xs.length xs.length (some (b : Int)) = b := by
    unfold HT.sIx
    show (if (b : Int) < 0 then _ else min (b : Int).toNat xs.length) = _
    rw [if_neg (by omega), Int.toNat_natCast]
    omega
  rw [e]
  show (xs.drop 0).take (b - 0) = _
  rw [List.drop_zero, Nat.sub_zero]

/-- a field that a law draws -/
inductive Drawn : Int × Nu → Prop
  | k_2_2 {r : Nu} : r ∈ ru_2_2 → Drawn (((2 : Nat) : Int), r)
  | k_2_3 {r : Nu} : r ∈ ru_2_3 → Drawn (((2 : Nat) : Int), r)
  | k_3_2 {r : Nu} : r ∈ ru_3_2 → Drawn (((3 : Nat) : Int), r)
  | k_2_4 {r : Nu} : r ∈ ru_2_4 → Drawn (((2 : Nat) : Int), r)
  | k_5_1 {r : Nu} : r ∈ ru_5_1 → Drawn (((5 : Nat) : Int), r)
  | k_3_1 {r : Nu} : r ∈ ru_3_1 → Drawn (((3 : Nat) : Int), r)
  | k_5_2 {r : Nu} : r ∈ ru_5_2 → Drawn (((5 : Nat) : Int), r)
  | k_3_3 {r : Nu} : r ∈ ru_3_3 → Drawn (((3 : Nat) : Int), r)
  | k_2_1 {r : Nu} : r ∈ ru_2_1 → Drawn (((2 : Nat) : Int), r)
  | k_7_1 {r : Nu} : r ∈ ru_7_1 → Drawn (((7 : Nat) : Int), r)
  | k_7_2 {r : Nu} : r ∈ ru_7_2 → Drawn (((7 : Nat) : Int), r)
  | k_2_5 {r : Nu} : r ∈ ru_2_5 → Drawn (((2 : Nat) : Int), r)
  | k_2_6 {r : Nu} : r ∈ ru_2_6 → Drawn (((2 : Nat) : Int), r)
  | k_3_4 {r : Nu} : r ∈ ru_3_4 → Drawn (((3 : Nat) : Int), r)
theorem Drawn.good : ∀ {f : Int × Nu}, Drawn f → Good f
  | _, .k_2_2 h => kind_2_2.good _ h
  | _, .k_2_3 h => kind_2_3.good _ h
  | _, .k_3_2 h => kind_3_2.good _ h
  | _, .k_2_4 h => kind_2_4.good _ h
  | _, .k_5_1 h => kind_5_1.good _ h
  | _, .k_3_1 h => kind_3_1.good _ h
  | _, .k_5_2 h => kind_5_2.good _ h
  | _, .k_3_3 h => kind_3_3.good _ h
  | _, .k_2_1 h => kind_2_1.good _ h
  | _, .k_7_1 h => kind_7_1.good _ h
  | _, .k_7_2 h => kind_7_2.good _ h
  | _, .k_2_5 h => kind_2_5.good _ h
  | _, .k_2_6 h => good_2_6 _ h
  | _, .k_3_4 h => good_3_4 _ h

end FM

/-! FmK: products by steps of x, over the whole numbers; then by rest. -/
namespace FM
open PySem FS L2
abbrev V' := Nat → Int
def vec (a : Nu) : V' := fun k => a.getD k 0
theorem getD_out {a : Nu} {k : Nat} (h : a.length ≤ k) : a.getD k 0 = 0 := by simp [h]
def vadd (u v : V') : V' := fun k => u k + v k
def vscl (c : Int) (u : V') : V' := fun k => c * u k
def vzero : V' := fun _ => 0
/-- x times -/
def St (n : Nat) (r : V') (v : V') : V' := fun k => if k < n then (if k = 0 then 0 else v (k - 1)) - v (n - 1) * r k else 0
def ap (n : Nat) (r : V') : Nu → V' → V'
  | [], _ => vzero
  | c :: l, v => vadd (vscl c v) (St n r (ap n r l v))
section
variable {n : Nat} {r : V'}
theorem st_add (u v : V') : St n r (vadd u v) = vadd (St n r u) (St n r v) := by
  funext k; unfold St vadd; split
  · split <;> grind
  · grind
theorem st_scl (c : Int) (v : V') : St n r (vscl c v) = vscl c (St n r v) := by
  funext k; unfold St vscl; split
  · split <;> grind
  · grind
theorem st_zero : St n r vzero = vzero := by
  funext k; unfold St vzero; split
  · split <;> grind
  · rfl
theorem vadd_comm (u v : V') : vadd u v = vadd v u := by funext k; unfold vadd; omega
theorem vadd_assoc (u v w : V') : vadd (vadd u v) w = vadd u (vadd v w) := by funext k; unfold vadd; omega
theorem vadd_zero (u : V') : vadd u vzero = u := by funext k; unfold vadd vzero; omega
theorem zero_vadd (u : V') : vadd vzero u = u := by funext k; unfold vadd vzero; omega
theorem vadd_swap (a b c d : V') : vadd (vadd a b) (vadd c d) = vadd (vadd a c) (vadd b d) := by funext k; unfold vadd; omega
theorem vscl_add (c : Int) (u v : V') : vscl c (vadd u v) = vadd (vscl c u) (vscl c v) := by funext k; unfold vscl vadd; grind
theorem vscl_scl (c d : Int) (u : V') : vscl c (vscl d u) = vscl d (vscl c u) := by funext k; unfold vscl; grind
theorem vscl_zero (c : Int) : vscl c vzero = vzero := by funext k; unfold vscl vzero; grind
theorem ap_add : ∀ (l : Nu) (u v : V'), ap n r l (vadd u v) = vadd (ap n r l u) (ap n r l v)
  | [], _, _ => (vadd_zero _).symm
  | c :: l, u, v => by unfold ap; rw [vscl_add, ap_add l, st_add, vadd_swap]
theorem ap_scl : ∀ (l : Nu) (c : Int) (v : V'), ap n r l (vscl c v) = vscl c (ap n r l v)
  | [], c, _ => (vscl_zero c).symm
  | d :: l, c, v => by unfold ap; rw [ap_scl l, st_scl, vscl_add, vscl_scl]
theorem ap_st : ∀ (l : Nu) (v : V'), ap n r l (St n r v) = St n r (ap n r l v)
  | [], _ => st_zero.symm
  | d :: l, v => by unfold ap; rw [ap_st l, st_add, st_scl]
theorem ap_ap : ∀ (l m : Nu) (v : V'), ap n r l (ap n r m v) = ap n r m (ap n r l v)
  | [], m, v => by
    have : ∀ m : Nu, ap n r m vzero = vzero := fun m => by
      induction m with
      | nil => rfl
      | cons c m ih => unfold ap; rw [ih, st_zero, vscl_zero, vadd_zero]
    exact (this m).symm
  | c :: l, m, v => by
    show vadd (vscl c (ap n r m v)) (St n r (ap n r l (ap n r m v))) = ap n r m (vadd (vscl c v) (St n r (ap n r l v)))
    rw [ap_ap l m, ap_add, ap_scl, ap_st]
def e0 : V' := fun k => if k = 0 then 1 else 0
theorem ap_e0 (hn : 0 < n) : ∀ (l : Nu), l.length ≤ n → ap n r l e0 = vec l
  | [], _ => by funext k; simp [ap, vzero, vec]
  | c :: l, h => by
    have ih := ap_e0 hn l (by simp at h; omega)
    unfold ap
    rw [ih]
    funext k
    have l0 : vec l (n - 1) = 0 := by
      unfold vec
      exact getD_out (by simp at h; omega)
    unfold vadd vscl St e0
    rw [l0]
    cases k with
    | zero => simp [hn, vec]
    | succ k =>
      simp only [Nat.add_one_ne_zero, if_false, Nat.add_sub_cancel]
      by_cases hk : k + 1 < n
      · rw [if_pos hk]; simp [vec]
      · rw [if_neg hk]
        have : vec (c :: l) (k + 1) = 0 := by
          unfold vec
          exact getD_out (by simp at h ⊢; omega)
        rw [this]; simp
end
/-! ### by rest -/
def Cg (p : Int) (u v : V') : Prop := ∀ k, ∃ c, u k = v k + p * c
section
variable {p : Int} {n : Nat} {r : V'}
theorem Cg.refl (u : V') : Cg p u u := fun k => ⟨0, by grind⟩
theorem Cg.symm {u v : V'} (h : Cg p u v) : Cg p v u := fun k => by obtain ⟨c, e⟩ := h k; exact ⟨-c, by grind⟩
theorem Cg.trans {u v w : V'} (h : Cg p u v) (h' : Cg p v w) : Cg p u w := fun k => by obtain ⟨c, e⟩ := h k; obtain ⟨d, e'⟩ := h' k; exact ⟨c + d, by grind⟩
theorem Cg.add {u v u' v' : V'} (h : Cg p u v) (h' : Cg p u' v') : Cg p (vadd u u') (vadd v v') := fun k => by obtain ⟨c, e⟩ := h k; obtain ⟨d, e'⟩ := h' k; exact ⟨c + d, by unfold vadd; grind⟩
theorem Cg.scl {u v : V'} (c : Int) (h : Cg p u v) : Cg p (vscl c u) (vscl c v) := fun k => by obtain ⟨d, e⟩ := h k; exact ⟨c * d, by unfold vscl; grind⟩
theorem Cg.st {u v : V'} (h : Cg p u v) : Cg p (St n r u) (St n r v) := fun k => by
  unfold St
  split
  · obtain ⟨d, e⟩ := h (n - 1)
    split
    · exact ⟨-d * r k, by grind⟩
    · obtain ⟨c, e'⟩ := h (k - 1)
      exact ⟨c - d * r k, by grind⟩
  · exact ⟨0, by grind⟩
theorem Cg.ap : ∀ (l : Nu) {u v : V'}, Cg p u v → Cg p (ap n r l u) (FM.ap n r l v)
  | [], _, _, _ => Cg.refl _
  | c :: l, _, _, h => (h.scl c).add (Cg.ap l h).st
theorem emod_cg (p z : Int) : ∃ c, z % p = z + p * c := ⟨-(z / p), by have := Int.emod_add_mul_ediv z p; grind⟩
/-- two numbers that are alike by rest -/
theorem cg_eq {f : Int × Nu} {a b : Nu} (ha : Num f a) (hb : Num f b) (h : Cg f.1 (vec a) (vec b)) : a = b := by
  apply List.ext_getElem (ha.1.trans hb.1.symm)
  intro i h1 h2
  obtain ⟨c, e⟩ := h i
  have x := ha.2 a[i] (List.getElem_mem _)
  have y := hb.2 b[i] (List.getElem_mem _)
  have e1 : vec a i = a[i] := by simp [vec, h1]
  have e2 : vec b i = b[i] := by simp [vec, h2]
  rw [e1, e2] at e
  have : c = 0 := by
    rcases Int.lt_trichotomy c 0 with z | z | z
    · have : f.1 * c ≤ f.1 * (-1) := Int.mul_le_mul_of_nonneg_left (by omega) (by omega)
      omega
    · exact z
    · have : f.1 * 1 ≤ f.1 * c := Int.mul_le_mul_of_nonneg_left (by omega) (by omega)
      omega
  subst this
  omega
end
end FM

/-! FmL: what the program and the laws make is the product by steps of x -/
namespace FM
open PySem FS L2
def sk (n : Nat) (r : V') : Nat → V' → V'
  | 0, v => v
  | k + 1, v => St n r (sk n r k v)
section
variable {p : Int} {n : Nat} {r : V'}
theorem sk_add : ∀ (k : Nat) (u v : V'), sk n r k (vadd u v) = vadd (sk n r k u) (sk n r k v)
  | 0, _, _ => rfl
  | k + 1, u, v => by unfold sk; rw [sk_add k, st_add]
theorem sk_scl : ∀ (k : Nat) (c : Int) (v : V'), sk n r k (vscl c v) = vscl c (sk n r k v)
  | 0, _, _ => rfl
  | k + 1, c, v => by unfold sk; rw [sk_scl k, st_scl]
theorem sk_st : ∀ (k : Nat) (v : V'), sk n r k (St n r v) = sk n r (k + 1) v
  | 0, _ => rfl
  | k + 1, v => by
    show St n r (sk n r k (St n r v)) = St n r (sk n r (k + 1) v)
    rw [sk_st k]
theorem sk_sk (j : Nat) : ∀ (k : Nat) (v : V'), sk n r k (sk n r j v) = sk n r (k + j) v
  | 0, v => by rw [Nat.zero_add]; rfl
  | k + 1, v => by
    show St n r (sk n r k (sk n r j v)) = _
    rw [sk_sk j k, show k + 1 + j = (k + j) + 1 from by omega]; rfl
theorem ap_set : ∀ (L : Nu) (k : Nat) (x : Int) (v : V'), k < L.length → ap n r (L.set k x) v = vadd (ap n r L v) (vscl (x - L.getD k 0) (sk n r k v))
  | [], _, _, _, h => absurd h (by simp)
  | c :: l, 0, x, v, _ => by
    show vadd (vscl x v) (St n r (ap n r l v)) = vadd (vadd (vscl c v) (St n r (ap n r l v))) (vscl (x - c) v)
    funext k; unfold vadd vscl; grind
  | c :: l, k + 1, x, v, h => by
    show vadd (vscl c v) (St n r (ap n r (l.set k x) v)) = vadd (vadd (vscl c v) (St n r (ap n r l v))) (vscl (x - l.getD k 0) (St n r (sk n r k v)))
    rw [ap_set l k x v (by simpa using h), st_add, st_scl, vadd_assoc]
theorem scl_mod (z y : Int) (u : V') : Cg p (vscl (z % p - y) u) (vscl (z - y) u) := fun k => by
  obtain ⟨c, e⟩ := emod_cg p z
  exact ⟨c * u k, by unfold vscl; rw [e]; grind⟩
theorem ap_putA {L : Nu} {i : Nat} {c : Int} {q : Int × Nat} {v : V'} (h : i + q.2 < L.length) : Cg p (ap n r (putA p i c L q) v) (vadd (ap n r L v) (vscl (c * q.1) (sk n r (i + q.2) v))) := by
  unfold putA
  rw [ap_set L _ _ v h]
  refine (Cg.refl _).add ?_
  have := scl_mod (p := p) (L.getD (i + q.2) 0 + c * q.1) (L.getD (i + q.2) 0) (sk n r (i + q.2) v)
  rwa [show L.getD (i + q.2) 0 + c * q.1 - L.getD (i + q.2) 0 = c * q.1 from by omega] at this
theorem ap_putR {L : Nu} {i : Nat} {c : Int} {q : Int × Nat} {v : V'} (h : i + q.2 < L.length) : Cg p (ap n r (putR' p i c L q) v) (vadd (ap n r L v) (vscl (-c * q.1) (sk n r (i + q.2) v))) := by
  unfold putR'
  rw [ap_set L _ _ v h]
  refine (Cg.refl _).add ?_
  have := scl_mod (p := p) (L.getD (i + q.2) 0 - c * q.1) (L.getD (i + q.2) 0) (sk n r (i + q.2) v)
  rwa [show L.getD (i + q.2) 0 - c * q.1 - L.getD (i + q.2) 0 = -c * q.1 from by grind] at this
theorem ap_row (g : Nu → Int × Nat → Nu) (s : Int) (i : Nat) (v : V') (hl : ∀ L q, (g L q).length = L.length) (hg : ∀ (L : Nu) (q : Int × Nat), i + q.2 < L.length → Cg p (ap n r (g L q) v) (vadd (ap n r L v) (vscl (s * q.1) (sk n r (i + q.2) v)))) :
    ∀ (b : Nu) (o : Nat) (L : Nu), i + o + b.length ≤ L.length → Cg p (ap n r ((b.zipIdx o).foldl g L) v) (vadd (ap n r L v) (vscl s (sk n r (i + o) (ap n r b v))))
  | [], o, L, _ => by
    have : vscl s (sk n r (i + o) (ap n r [] v)) = vzero := by
      have z : ∀ k, sk n r k vzero = vzero := fun k => by
        induction k with
        | zero => rfl
        | succ k ih => unfold sk; rw [ih, st_zero]
      show vscl s (sk n r (i + o) vzero) = _
      rw [z, vscl_zero]
    rw [this, vadd_zero]
    exact Cg.refl _
  | x :: b, o, L, h => by
    rw [List.length_cons] at h
    rw [List.zipIdx_cons, List.foldl_cons]
    refine (ap_row g s i v hl hg b (o + 1) (g L (x, o)) (by rw [hl]; omega)).trans ?_
    refine ((hg L (x, o) (by show i + o < _; omega)).add (Cg.refl _)).trans ?_
    have e : vadd (vadd (ap n r L v) (vscl (s * x) (sk n r (i + o) v))) (vscl s (sk n r (i + (o + 1)) (ap n r b v))) = vadd (ap n r L v) (vscl s (sk n r (i + o) (ap n r (x :: b) v))) := by
      show _ = vadd (ap n r L v) (vscl s (sk n r (i + o) (vadd (vscl x v) (St n r (ap n r b v)))))
      rw [sk_add, sk_scl, sk_st, vadd_assoc]
      funext k; unfold vadd vscl; rw [show i + (o + 1) = i + o + 1 from by omega]; grind
    rw [e]
    exact Cg.refl _
theorem ap_rowA {b L : Nu} {q : Int × Nat} {v : V'} (h : q.2 + b.length ≤ L.length) : Cg p (ap n r (rowA p b L q) v) (vadd (ap n r L v) (vscl q.1 (sk n r q.2 (ap n r b v)))) :=
  ap_row (putA p q.2 q.1) q.1 q.2 v (len_putA _ _ _) (fun L q' h => ap_putA h) b 0 L (by omega)
theorem ap_fold {b : Nu} {v : V'} : ∀ (a : Nu) (o : Nat) (L : Nu), o + a.length + b.length ≤ L.length + 1 → Cg p (ap n r ((a.zipIdx o).foldl (rowA p b) L) v) (vadd (ap n r L v) (sk n r o (ap n r a (ap n r b v))))
  | [], o, L, _ => by
    have z : sk n r o vzero = vzero := by
      induction o with
      | zero => rfl
      | succ k ih => unfold sk; rw [ih (by simp_all; omega), st_zero]
    show Cg p _ (vadd (ap n r L v) (sk n r o vzero))
    rw [z, vadd_zero]
    exact Cg.refl _
  | x :: a, o, L, h => by
    rw [List.length_cons] at h
    rw [List.zipIdx_cons, List.foldl_cons]
    refine (ap_fold a (o + 1) (rowA p b L (x, o)) (by rw [len_rowA]; omega)).trans ?_
    refine ((ap_rowA (q := (x, o)) (by show o + b.length ≤ _; omega)).add (Cg.refl _)).trans ?_
    have e : vadd (vadd (ap n r L v) (vscl x (sk n r o (ap n r b v)))) (sk n r (o + 1) (ap n r a (ap n r b v))) = vadd (ap n r L v) (sk n r o (ap n r (x :: a) (ap n r b v))) := by
      show _ = vadd (ap n r L v) (sk n r o (vadd (vscl x (ap n r b v)) (St n r (ap n r a (ap n r b v)))))
      rw [sk_add, sk_scl, sk_st, vadd_assoc]
    rw [e]
    exact Cg.refl _
theorem ap_noughts (v : V') : ∀ k, ap n r (List.replicate k 0) v = vzero
  | 0 => rfl
  | k + 1 => by
    rw [List.replicate_succ]
    unfold ap
    rw [ap_noughts v k, st_zero, vadd_zero]
    funext k; unfold vscl vzero; grind
theorem ap_one (v : V') : ∀ k, ap n r (List.replicate k 0 ++ [1]) v = sk n r k v
  | 0 => by
    show vadd (vscl 1 v) (St n r vzero) = v
    rw [st_zero, vadd_zero]; funext k; unfold vscl; grind
  | k + 1 => by
    rw [List.replicate_succ, List.cons_append]
    unfold ap
    rw [ap_one v k]
    show vadd (vscl 0 v) (St n r (sk n r k v)) = St n r (sk n r k v)
    funext j; unfold vadd vscl; grind
theorem ap_app (v : V') (x : Int) : ∀ L : Nu, ap n r (L ++ [x]) v = vadd (ap n r L v) (vscl x (sk n r L.length v))
  | [] => by
    show vadd (vscl x v) (St n r vzero) = vadd vzero (vscl x v)
    rw [st_zero, vadd_zero, zero_vadd]
  | c :: L => by
    show vadd (vscl c v) (St n r (ap n r (L ++ [x]) v)) = vadd (vadd (vscl c v) (St n r (ap n r L v))) (vscl x (St n r (sk n r L.length v)))
    rw [ap_app v x L, st_add, st_scl, vadd_assoc]
end
theorem sk_n {n : Nat} (hn : 0 < n) {rl : Nu} (hr : rl.length = n) : sk n (vec rl) n e0 = vscl (-1) (vec rl) := by
  have h1 := ap_one (n := n) (r := vec rl) e0 (n - 1)
  rw [ap_e0 hn _ (by simp; omega)] at h1
  have h2 : sk n (vec rl) n e0 = St n (vec rl) (sk n (vec rl) (n - 1) e0) := by
    have : n = (n - 1) + 1 := by omega
    rw [this]; rfl
  rw [h2, ← h1]
  funext k
  unfold St vscl
  by_cases hk : k < n
  · rw [if_pos hk]
    have e1 : vec (List.replicate (n - 1) 0 ++ [1]) (n - 1) = 1 := by simp [vec]
    rw [e1]
    by_cases h0 : k = 0
    · rw [if_pos h0]; grind
    · rw [if_neg h0]
      have e2 : vec (List.replicate (n - 1) 0 ++ [1]) (k - 1) = 0 := by
        unfold vec
        rw [List.getD_eq_getElem?_getD, List.getElem?_append_left (by simp; omega), List.getElem?_replicate, if_pos (by omega)]
        rfl
      rw [e2]; grind
  · rw [if_neg hk]
    have : vec rl k = 0 := getD_out (by omega)
    rw [this]; grind
theorem take_row (g : Nu → Int × Nat → Nu) (m i : Nat) (h : ∀ (L : Nu) (q : Int × Nat), i + q.2 < m → (g L q).take m = g (L.take m) q) : ∀ (b : Nu) (o : Nat) (L : Nu), i + o + b.length ≤ m → ((b.zipIdx o).foldl g L).take m = (b.zipIdx o).foldl g (L.take m)
  | [], _, _, _ => rfl
  | x :: b, o, L, hl => by
    rw [List.length_cons] at hl
    rw [List.zipIdx_cons, List.foldl_cons, List.foldl_cons, take_row g m i h b (o + 1) _ (by omega), h L (x, o) (by show i + o < m; omega)]
theorem take_putR {p : Int} {i m : Nat} {c : Int} {L : Nu} {q : Int × Nat} (h : i + q.2 < m) : (putR' p i c L q).take m = putR' p i c (L.take m) q := by
  unfold putR'
  rw [List.take_set]
  congr 3
  simp [List.getD_eq_getElem?_getD, List.getElem?_take, h]
section
variable {p : Int} {n : Nat} {rl : Nu}
/-- one turn of the reduction -/
theorem red_turn (hn : 0 < n) (hr : rl.length = n) {L : Nu} {a : Nat} (ha : n ≤ a) (hL : a < L.length) : Cg p (ap n (vec rl) ((rowR p n rl L a).take a) e0) (ap n (vec rl) (L.take (a + 1)) e0) := by
  unfold rowR
  rw [take_row (putR' p (a - n) (L.getD a 0)) a (a - n) (fun L q h => take_putR h) rl 0 L (by omega)]
  refine (ap_row (p := p) (n := n) (r := vec rl) (putR' p (a - n) (L.getD a 0)) (-(L.getD a 0)) (a - n) e0 (len_putR _ _ _) (fun L' q h => ap_putR h) rl 0 (L.take a) (by rw [List.length_take]; omega)).trans ?_
  have e1 : L.take (a + 1) = L.take a ++ [L.getD a 0] := by
    rw [List.take_succ, List.getElem?_eq_getElem hL]
    simp [hL]
  have e2 : sk n (vec rl) a e0 = sk n (vec rl) (a - n) (vscl (-1) (vec rl)) := by
    rw [← sk_n hn hr, sk_sk, show a - n + n = a from by omega]
  rw [e1, ap_app, List.length_take, Nat.min_eq_left (by omega), e2, ap_e0 hn rl (by omega), sk_scl, Nat.add_zero]
  intro k
  exact ⟨0, by unfold vadd vscl; grind⟩
theorem red_all (hn : 0 < n) (hr : rl.length = n) : ∀ (j : Nat) (L : Nu), L.length = 2 * n - 1 → j ≤ n - 1 → Cg p (ap n (vec rl) ((((List.range j).map fun i => 2 * n - 2 - i).foldl (rowR p n rl) L).take (2 * n - 1 - j)) e0) (ap n (vec rl) L e0)
  | 0, L, hL, _ => by
    rw [List.take_of_length_le (by simp; omega)]
    exact Cg.refl _
  | j + 1, L, hL, hj => by
    rw [List.range_succ, List.map_append, List.foldl_append]
    have ln : (((List.range j).map fun i => 2 * n - 2 - i).foldl (rowR p n rl) L).length = 2 * n - 1 := by rw [len_fold _ (len_rowR _ _ _), hL]
    have ih := red_all hn hr j L hL (by omega)
    have t := red_turn (p := p) hn hr (L := ((List.range j).map fun i => 2 * n - 2 - i).foldl (rowR p n rl) L) (a := 2 * n - 2 - j) (by omega) (by omega)
    rw [show 2 * n - 2 - j + 1 = 2 * n - 1 - j from by omega] at t
    have := t.trans ih
    rw [show 2 * n - 2 - j = 2 * n - 1 - (j + 1) from by omega] at this
    show Cg p (ap n (vec rl) ((rowR p n rl _ (2 * n - 2 - j)).take (2 * n - 1 - (j + 1))) e0) _
    rw [show 2 * n - 2 - j = 2 * n - 1 - (j + 1) from by omega]
    exact this
end
theorem vec_prodA {f : Int × Nu} {a b : Nu} (n1 : 1 ≤ f.2.length) (ha : a.length = f.2.length) (hb : b.length = f.2.length) : Cg f.1 (vec (prodA f a b)) (ap f.2.length (vec f.2) a (vec b)) := by
  have hl : (redA f.1 f.2.length f.2 (convA f.1 f.2.length a b)).length = 2 * f.2.length - 1 := by unfold redA; rw [len_fold _ (len_rowR _ _ _), len_convA]
  have e1 : vec (prodA f a b) = ap f.2.length (vec f.2) (prodA f a b) e0 := (ap_e0 (by omega) _ (by unfold prodA; rw [List.length_take]; omega)).symm
  rw [e1]
  have h1 := red_all (p := f.1) (n := f.2.length) (rl := f.2) (by omega) rfl (f.2.length - 1) (convA f.1 f.2.length a b) (len_convA _ _ _ _) (Nat.le_refl _)
  rw [show 2 * f.2.length - 1 - (f.2.length - 1) = f.2.length from by omega] at h1
  refine Cg.trans (show Cg f.1 (ap f.2.length (vec f.2) (prodA f a b) e0) _ from h1) ?_
  have h2 := ap_fold (p := f.1) (n := f.2.length) (r := vec f.2) (b := b) (v := e0) a 0 (List.replicate (2 * f.2.length - 1) 0) (by simp; omega)
  rw [ap_noughts, zero_vadd, ap_e0 (by omega) b (by omega)] at h2
  exact h2
end FM

/-! FmM: the laws of reckoning -/
namespace FM
open PySem FS L2
theorem vec_zip {p : Int} (g : Int → Int → Int) {a b : Nu} (h : a.length = b.length) (k : Nat) (hk : k < a.length) : vec (List.zipWith (fun x y => g x y % p) a b) k = g (vec a k) (vec b k) % p := by
  unfold vec
  simp [List.getD_eq_getElem?_getD, List.getElem?_zipWith, hk, show k < b.length by omega]
theorem vec_out {a : Nu} {k : Nat} (h : a.length ≤ k) : vec a k = 0 := getD_out h
theorem vec_add {p : Int} {a b : Nu} (h : a.length = b.length) : Cg p (vec (addN p a b)) (vadd (vec a) (vec b)) := fun k => by
  by_cases hk : k < a.length
  · obtain ⟨c, e⟩ := emod_cg p (vec a k + vec b k)
    exact ⟨c, by show vec (addN p a b) k = _; unfold addN; rw [vec_zip (fun x y => x + y) h k hk, e]; rfl⟩
  · have : vec (addN p a b) k = 0 := vec_out (by unfold addN; rw [List.length_zipWith]; omega)
    exact ⟨0, by rw [this]; unfold vadd; rw [vec_out (a := a) (by omega), vec_out (a := b) (by omega)]; grind⟩
theorem vec_sub {p : Int} {a b : Nu} (h : a.length = b.length) : Cg p (vec (subN p a b)) (vadd (vec a) (vscl (-1) (vec b))) := fun k => by
  by_cases hk : k < a.length
  · obtain ⟨c, e⟩ := emod_cg p (vec a k - vec b k)
    exact ⟨c, by show vec (subN p a b) k = _; unfold subN; rw [vec_zip (fun x y => x - y) h k hk, e]; unfold vadd vscl; grind⟩
  · have : vec (subN p a b) k = 0 := vec_out (by unfold subN; rw [List.length_zipWith]; omega)
    exact ⟨0, by rw [this]; unfold vadd vscl; rw [vec_out (a := a) (by omega), vec_out (a := b) (by omega)]; grind⟩
/-- what is asked of a field in what follows -/
structure Fd (f : Int × Nu) : Prop where
  p : 0 < f.1
  n : 1 ≤ f.2.length
theorem Good.fd {f : Int × Nu} (g : Good f) : Fd f := ⟨by have := g.p2; omega, g.n1⟩
section
variable {f : Int × Nu} (F : Fd f) {a b c : Nu}
include F
theorem ap_sw (ha : Num f a) (hb : Num f b) : ap f.2.length (vec f.2) b (vec a) = ap f.2.length (vec f.2) a (vec b) := by
  have n := F.n
  have e1 := ap_e0 (n := f.2.length) (r := vec f.2) (by omega) a (Nat.le_of_eq ha.1)
  have e2 := ap_e0 (n := f.2.length) (r := vec f.2) (by omega) b (Nat.le_of_eq hb.1)
  rw [← e1, ap_ap, e2]
theorem mul_comm (ha : Num f a) (hb : Num f b) : prodA f a b = prodA f b a := by
  refine cg_eq (num_prodA F.p F.n) (num_prodA F.p F.n) ((vec_prodA F.n ha.1 hb.1).trans ?_)
  rw [← ap_sw F ha hb]
  exact (vec_prodA F.n hb.1 ha.1).symm
theorem vec_mul (ha : Num f a) (hb : Num f b) : Cg f.1 (vec (prodA f a b)) (ap f.2.length (vec f.2) a (vec b)) := vec_prodA F.n ha.1 hb.1
theorem mul_assoc (ha : Num f a) (hb : Num f b) (hc : Num f c) : prodA f (prodA f a b) c = prodA f a (prodA f b c) := by
  have nab : Num f (prodA f a b) := num_prodA F.p F.n
  have nbc : Num f (prodA f b c) := num_prodA F.p F.n
  refine cg_eq (num_prodA F.p F.n) (num_prodA F.p F.n) ?_
  rw [mul_comm F nab hc]
  refine (vec_mul F hc nab).trans ((Cg.ap c (vec_mul F ha hb)).trans ?_)
  refine Cg.symm ((vec_mul F ha nbc).trans ((Cg.ap a (vec_mul F hb hc)).trans ?_))
  rw [ap_ap c a, ap_sw F hc hb]
  exact Cg.refl _
theorem mul_add (ha : Num f a) (hb : Num f b) (hc : Num f c) : prodA f a (addN f.1 b c) = addN f.1 (prodA f a b) (prodA f a c) := by
  have nab : Num f (prodA f a b) := num_prodA F.p F.n
  have nac : Num f (prodA f a c) := num_prodA F.p F.n
  have nbc := num_addN F.p hb hc
  refine cg_eq (num_prodA F.p F.n) (num_addN F.p nab nac) ((vec_mul F ha nbc).trans ((Cg.ap a (vec_add (by rw [hb.1, hc.1]))).trans ?_))
  rw [ap_add]
  exact Cg.symm ((vec_add (by rw [nab.1, nac.1])).trans ((vec_mul F ha hb).add (vec_mul F ha hc)))
theorem vec_one : Cg f.1 (vec (oneA f)) e0 := fun k => by
  have n := F.n
  cases k with
  | zero =>
    obtain ⟨c, e⟩ := emod_cg f.1 1
    exact ⟨c, e⟩
  | succ k =>
    refine ⟨0, ?_⟩
    have : vec (oneA f) (k + 1) = 0 := by
      unfold vec oneA
      simp [List.getD_eq_getElem?_getD, List.getElem?_replicate]
      split <;> rfl
    rw [this]
    show (0 : Int) = (if k + 1 = 0 then 1 else 0) + f.1 * 0
    rw [if_neg (by omega)]; grind
theorem mul_one (ha : Num f a) : prodA f a (oneA f) = a := by
  have n1 := num_oneA F.p F.n
  refine cg_eq (num_prodA F.p F.n) ha ((vec_mul F ha n1).trans ((Cg.ap a (vec_one F)).trans ?_))
  rw [ap_e0 (by have := F.n; omega) a (by rw [ha.1]; omega)]
  exact Cg.refl _
end
end FM

namespace FM
open PySem PySem.Spec PyProof.Rows L2 FS
/-! ### values looked at before they are handed on -/
def frcI {β : Type} (x : Int) (k : Int → β) : β := match x with
  | .ofNat n => (match n with
    | 0 => k 0
    | m + 1 => k (Int.ofNat (m + 1)))
  | .negSucc n => k (.negSucc n)
def frc {β : Type} : Nu → (Nu → β) → β
  | [], k => k []
  | x :: l, k => frcI x fun x' => frc l fun l' => k (x' :: l')
theorem frcI_eq {β : Type} (x : Int) (k : Int → β) : frcI x k = k x := by
  unfold frcI
  cases x with
  | ofNat n => cases n <;> rfl
  | negSucc n => rfl
theorem frc_eq {β : Type} : ∀ (l : Nu) (k : Nu → β), frc l k = k l
  | [], _ => rfl
  | x :: l, k => by unfold frc; rw [frcI_eq, frc_eq l]
def powF (f : Int × Nu) : Nat → Nu → Nu → Nat → Nu
  | 0, x, _, _ => x
  | k + 1, x, a, n => if n = 0 then x else frc (if n % 2 = 1 then prodA f x a else x) fun x' => frc (prodA f a a) fun a' => powF f k x' a' (n / 2)
theorem powF_eq (f : Int × Nu) : ∀ (k : Nat) (x a : Nu) (n : Nat), powF f k x a n = powW f k x a n
  | 0, _, _, _ => rfl
  | k + 1, x, a, n => by unfold powF powW; rw [frc_eq, frc_eq, powF_eq f k]
def chkF (f : Int × Nu) (n : Nat) : Bool := (rowsT f.1.toNat n).all fun b => b == zer f || prodA f (powF f 24 (oneA f) b (sizA f - 2)) b == oneA f
theorem mem_rowsT {p : Nat} : ∀ {n : Nat} {b : Nu}, b.length = n → (∀ x ∈ b, 0 ≤ x ∧ x < (p : Int)) → b ∈ rowsT p n := by
  intro n
  induction n with
  | zero => intro b hl _; rw [List.length_eq_zero_iff.mp hl]; exact List.mem_singleton.mpr rfl
  | succ n ih =>
    intro b hl hb
    have ne : b ≠ [] := fun z => by rw [z] at hl; cases hl
    have e := List.dropLast_concat_getLast ne
    have h1 := ih (b := b.dropLast) (by simp [hl]) fun x hx => hb x (List.dropLast_subset b hx)
    have h2 := hb _ (List.getLast_mem ne)
    unfold rowsT
    refine List.mem_flatMap.mpr ⟨b.dropLast, h1, List.mem_map.mpr ⟨(b.getLast ne).toNat, List.mem_range.mpr (by omega), ?_⟩⟩
    rw [show (((b.getLast ne).toNat : Nat) : Int) = b.getLast ne from Int.toNat_of_nonneg h2.1]
    exact e
theorem chkF_ok {p n : Nat} {r : Nu} (hr : r.length = n) (h : chkF ((p : Int), r) n = true) {b : Nu} (hb : Num ((p : Int), r) b) (h0 : b ≠ zer ((p : Int), r)) : prodA ((p : Int), r) (invA ((p : Int), r) b) b = oneA ((p : Int), r) := by
  have := List.all_eq_true.mp h b (mem_rowsT (p := (p : Int).toNat) (hb.1.trans hr) (by rw [Int.toNat_natCast]; exact hb.2))
  rw [Bool.or_eq_true] at this
  rcases this with z | z
  · exact absurd (eq_of_beq z) h0
  · rw [powF_eq] at z; exact eq_of_beq z
theorem i_2_2_0 : chkF (((2 : Nat) : Int), [1, 1]) 2 = true := by kernel_rfl
theorem inv_2_2 : ∀ r ∈ ru_2_2, ∀ b, Num (((2 : Nat) : Int), r) b → b ≠ zer (((2 : Nat) : Int), r) → prodA (((2 : Nat) : Int), r) (invA (((2 : Nat) : Int), r) b) b = oneA (((2 : Nat) : Int), r) := fun r h b => by
  simp only [ru_2_2, List.mem_cons, List.not_mem_nil, or_false] at h
  rcases h with rfl
  · exact fun hb h0 => chkF_ok (n := 2) rfl i_2_2_0 hb h0
theorem i_2_3_0 : chkF (((2 : Nat) : Int), [1, 0, 1]) 3 = true := by kernel_rfl
theorem i_2_3_1 : chkF (((2 : Nat) : Int), [1, 1, 0]) 3 = true := by kernel_rfl
theorem inv_2_3 : ∀ r ∈ ru_2_3, ∀ b, Num (((2 : Nat) : Int), r) b → b ≠ zer (((2 : Nat) : Int), r) → prodA (((2 : Nat) : Int), r) (invA (((2 : Nat) : Int), r) b) b = oneA (((2 : Nat) : Int), r) := fun r h b => by
  simp only [ru_2_3, List.mem_cons, List.not_mem_nil, or_false] at h
  rcases h with rfl | rfl
  · exact fun hb h0 => chkF_ok (n := 3) rfl i_2_3_0 hb h0
  · exact fun hb h0 => chkF_ok (n := 3) rfl i_2_3_1 hb h0
theorem i_3_2_0 : chkF (((3 : Nat) : Int), [1, 0]) 2 = true := by kernel_rfl
theorem i_3_2_1 : chkF (((3 : Nat) : Int), [2, 1]) 2 = true := by kernel_rfl
theorem i_3_2_2 : chkF (((3 : Nat) : Int), [2, 2]) 2 = true := by kernel_rfl
theorem inv_3_2 : ∀ r ∈ ru_3_2, ∀ b, Num (((3 : Nat) : Int), r) b → b ≠ zer (((3 : Nat) : Int), r) → prodA (((3 : Nat) : Int), r) (invA (((3 : Nat) : Int), r) b) b = oneA (((3 : Nat) : Int), r) := fun r h b => by
  simp only [ru_3_2, List.mem_cons, List.not_mem_nil, or_false] at h
  rcases h with rfl | rfl | rfl
  · exact fun hb h0 => chkF_ok (n := 2) rfl i_3_2_0 hb h0
  · exact fun hb h0 => chkF_ok (n := 2) rfl i_3_2_1 hb h0
  · exact fun hb h0 => chkF_ok (n := 2) rfl i_3_2_2 hb h0
theorem i_2_4_0 : chkF (((2 : Nat) : Int), [1, 0, 0, 1]) 4 = true := by kernel_rfl
theorem i_2_4_1 : chkF (((2 : Nat) : Int), [1, 1, 0, 0]) 4 = true := by kernel_rfl
theorem i_2_4_2 : chkF (((2 : Nat) : Int), [1, 1, 1, 1]) 4 = true := by kernel_rfl
theorem inv_2_4 : ∀ r ∈ ru_2_4, ∀ b, Num (((2 : Nat) : Int), r) b → b ≠ zer (((2 : Nat) : Int), r) → prodA (((2 : Nat) : Int), r) (invA (((2 : Nat) : Int), r) b) b = oneA (((2 : Nat) : Int), r) := fun r h b => by
  simp only [ru_2_4, List.mem_cons, List.not_mem_nil, or_false] at h
  rcases h with rfl | rfl | rfl
  · exact fun hb h0 => chkF_ok (n := 4) rfl i_2_4_0 hb h0
  · exact fun hb h0 => chkF_ok (n := 4) rfl i_2_4_1 hb h0
  · exact fun hb h0 => chkF_ok (n := 4) rfl i_2_4_2 hb h0
theorem i_5_1_0 : chkF (((5 : Nat) : Int), [0]) 1 = true := by kernel_rfl
theorem i_5_1_1 : chkF (((5 : Nat) : Int), [1]) 1 = true := by kernel_rfl
theorem i_5_1_2 : chkF (((5 : Nat) : Int), [2]) 1 = true := by kernel_rfl
theorem i_5_1_3 : chkF (((5 : Nat) : Int), [3]) 1 = true := by kernel_rfl
theorem i_5_1_4 : chkF (((5 : Nat) : Int), [4]) 1 = true := by kernel_rfl
theorem inv_5_1 : ∀ r ∈ ru_5_1, ∀ b, Num (((5 : Nat) : Int), r) b → b ≠ zer (((5 : Nat) : Int), r) → prodA (((5 : Nat) : Int), r) (invA (((5 : Nat) : Int), r) b) b = oneA (((5 : Nat) : Int), r) := fun r h b => by
  simp only [ru_5_1, List.mem_cons, List.not_mem_nil, or_false] at h
  rcases h with rfl | rfl | rfl | rfl | rfl
  · exact fun hb h0 => chkF_ok (n := 1) rfl i_5_1_0 hb h0
  · exact fun hb h0 => chkF_ok (n := 1) rfl i_5_1_1 hb h0
  · exact fun hb h0 => chkF_ok (n := 1) rfl i_5_1_2 hb h0
  · exact fun hb h0 => chkF_ok (n := 1) rfl i_5_1_3 hb h0
  · exact fun hb h0 => chkF_ok (n := 1) rfl i_5_1_4 hb h0
theorem i_3_1_0 : chkF (((3 : Nat) : Int), [0]) 1 = true := by kernel_rfl
theorem i_3_1_1 : chkF (((3 : Nat) : Int), [1]) 1 = true := by kernel_rfl
theorem i_3_1_2 : chkF (((3 : Nat) : Int), [2]) 1 = true := by kernel_rfl
theorem inv_3_1 : ∀ r ∈ ru_3_1, ∀ b, Num (((3 : Nat) : Int), r) b → b ≠ zer (((3 : Nat) : Int), r) → prodA (((3 : Nat) : Int), r) (invA (((3 : Nat) : Int), r) b) b = oneA (((3 : Nat) : Int), r) := fun r h b => by
  simp only [ru_3_1, List.mem_cons, List.not_mem_nil, or_false] at h
  rcases h with rfl | rfl | rfl
  · exact fun hb h0 => chkF_ok (n := 1) rfl i_3_1_0 hb h0
  · exact fun hb h0 => chkF_ok (n := 1) rfl i_3_1_1 hb h0
  · exact fun hb h0 => chkF_ok (n := 1) rfl i_3_1_2 hb h0
theorem i_5_2_0 : chkF (((5 : Nat) : Int), [1, 1]) 2 = true := by kernel_rfl
theorem i_5_2_1 : chkF (((5 : Nat) : Int), [1, 4]) 2 = true := by kernel_rfl
theorem i_5_2_2 : chkF (((5 : Nat) : Int), [2, 0]) 2 = true := by kernel_rfl
theorem i_5_2_3 : chkF (((5 : Nat) : Int), [2, 1]) 2 = true := by kernel_rfl
theorem i_5_2_4 : chkF (((5 : Nat) : Int), [2, 4]) 2 = true := by kernel_rfl
theorem i_5_2_5 : chkF (((5 : Nat) : Int), [3, 0]) 2 = true := by kernel_rfl
theorem i_5_2_6 : chkF (((5 : Nat) : Int), [3, 2]) 2 = true := by kernel_rfl
theorem i_5_2_7 : chkF (((5 : Nat) : Int), [3, 3]) 2 = true := by kernel_rfl
theorem i_5_2_8 : chkF (((5 : Nat) : Int), [4, 2]) 2 = true := by kernel_rfl
theorem i_5_2_9 : chkF (((5 : Nat) : Int), [4, 3]) 2 = true := by kernel_rfl
theorem inv_5_2 : ∀ r ∈ ru_5_2, ∀ b, Num (((5 : Nat) : Int), r) b → b ≠ zer (((5 : Nat) : Int), r) → prodA (((5 : Nat) : Int), r) (invA (((5 : Nat) : Int), r) b) b = oneA (((5 : Nat) : Int), r) := fun r h b => by
  simp only [ru_5_2, List.mem_cons, List.not_mem_nil, or_false] at h
  rcases h with rfl | rfl | rfl | rfl | rfl | rfl | rfl | rfl | rfl | rfl
  · exact fun hb h0 => chkF_ok (n := 2) rfl i_5_2_0 hb h0
  · exact fun hb h0 => chkF_ok (n := 2) rfl i_5_2_1 hb h0
  · exact fun hb h0 => chkF_ok (n := 2) rfl i_5_2_2 hb h0
  · exact fun hb h0 => chkF_ok (n := 2) rfl i_5_2_3 hb h0
  · exact fun hb h0 => chkF_ok (n := 2) rfl i_5_2_4 hb h0
  · exact fun hb h0 => chkF_ok (n := 2) rfl i_5_2_5 hb h0
  · exact fun hb h0 => chkF_ok (n := 2) rfl i_5_2_6 hb h0
  · exact fun hb h0 => chkF_ok (n := 2) rfl i_5_2_7 hb h0
  · exact fun hb h0 => chkF_ok (n := 2) rfl i_5_2_8 hb h0
  · exact fun hb h0 => chkF_ok (n := 2) rfl i_5_2_9 hb h0
theorem i_3_3_0 : chkF (((3 : Nat) : Int), [1, 0, 2]) 3 = true := by kernel_rfl
theorem i_3_3_1 : chkF (((3 : Nat) : Int), [1, 1, 2]) 3 = true := by kernel_rfl
theorem i_3_3_2 : chkF (((3 : Nat) : Int), [1, 2, 0]) 3 = true := by kernel_rfl
theorem i_3_3_3 : chkF (((3 : Nat) : Int), [1, 2, 1]) 3 = true := by kernel_rfl
theorem i_3_3_4 : chkF (((3 : Nat) : Int), [2, 0, 1]) 3 = true := by kernel_rfl
theorem i_3_3_5 : chkF (((3 : Nat) : Int), [2, 1, 1]) 3 = true := by kernel_rfl
theorem i_3_3_6 : chkF (((3 : Nat) : Int), [2, 2, 0]) 3 = true := by kernel_rfl
theorem i_3_3_7 : chkF (((3 : Nat) : Int), [2, 2, 2]) 3 = true := by kernel_rfl
theorem inv_3_3 : ∀ r ∈ ru_3_3, ∀ b, Num (((3 : Nat) : Int), r) b → b ≠ zer (((3 : Nat) : Int), r) → prodA (((3 : Nat) : Int), r) (invA (((3 : Nat) : Int), r) b) b = oneA (((3 : Nat) : Int), r) := fun r h b => by
  simp only [ru_3_3, List.mem_cons, List.not_mem_nil, or_false] at h
  rcases h with rfl | rfl | rfl | rfl | rfl | rfl | rfl | rfl
  · exact fun hb h0 => chkF_ok (n := 3) rfl i_3_3_0 hb h0
  · exact fun hb h0 => chkF_ok (n := 3) rfl i_3_3_1 hb h0
  · exact fun hb h0 => chkF_ok (n := 3) rfl i_3_3_2 hb h0
  · exact fun hb h0 => chkF_ok (n := 3) rfl i_3_3_3 hb h0
  · exact fun hb h0 => chkF_ok (n := 3) rfl i_3_3_4 hb h0
  · exact fun hb h0 => chkF_ok (n := 3) rfl i_3_3_5 hb h0
  · exact fun hb h0 => chkF_ok (n := 3) rfl i_3_3_6 hb h0
  · exact fun hb h0 => chkF_ok (n := 3) rfl i_3_3_7 hb h0
theorem i_2_1_0 : chkF (((2 : Nat) : Int), [0]) 1 = true := by kernel_rfl
theorem i_2_1_1 : chkF (((2 : Nat) : Int), [1]) 1 = true := by kernel_rfl
theorem inv_2_1 : ∀ r ∈ ru_2_1, ∀ b, Num (((2 : Nat) : Int), r) b → b ≠ zer (((2 : Nat) : Int), r) → prodA (((2 : Nat) : Int), r) (invA (((2 : Nat) : Int), r) b) b = oneA (((2 : Nat) : Int), r) := fun r h b => by
  simp only [ru_2_1, List.mem_cons, List.not_mem_nil, or_false] at h
  rcases h with rfl | rfl
  · exact fun hb h0 => chkF_ok (n := 1) rfl i_2_1_0 hb h0
  · exact fun hb h0 => chkF_ok (n := 1) rfl i_2_1_1 hb h0
theorem i_7_1_0 : chkF (((7 : Nat) : Int), [0]) 1 = true := by kernel_rfl
theorem i_7_1_1 : chkF (((7 : Nat) : Int), [1]) 1 = true := by kernel_rfl
theorem i_7_1_2 : chkF (((7 : Nat) : Int), [2]) 1 = true := by kernel_rfl
theorem i_7_1_3 : chkF (((7 : Nat) : Int), [3]) 1 = true := by kernel_rfl
theorem i_7_1_4 : chkF (((7 : Nat) : Int), [4]) 1 = true := by kernel_rfl
theorem i_7_1_5 : chkF (((7 : Nat) : Int), [5]) 1 = true := by kernel_rfl
theorem i_7_1_6 : chkF (((7 : Nat) : Int), [6]) 1 = true := by kernel_rfl
theorem inv_7_1 : ∀ r ∈ ru_7_1, ∀ b, Num (((7 : Nat) : Int), r) b → b ≠ zer (((7 : Nat) : Int), r) → prodA (((7 : Nat) : Int), r) (invA (((7 : Nat) : Int), r) b) b = oneA (((7 : Nat) : Int), r) := fun r h b => by
  simp only [ru_7_1, List.mem_cons, List.not_mem_nil, or_false] at h
  rcases h with rfl | rfl | rfl | rfl | rfl | rfl | rfl
  · exact fun hb h0 => chkF_ok (n := 1) rfl i_7_1_0 hb h0
  · exact fun hb h0 => chkF_ok (n := 1) rfl i_7_1_1 hb h0
  · exact fun hb h0 => chkF_ok (n := 1) rfl i_7_1_2 hb h0
  · exact fun hb h0 => chkF_ok (n := 1) rfl i_7_1_3 hb h0
  · exact fun hb h0 => chkF_ok (n := 1) rfl i_7_1_4 hb h0
  · exact fun hb h0 => chkF_ok (n := 1) rfl i_7_1_5 hb h0
  · exact fun hb h0 => chkF_ok (n := 1) rfl i_7_1_6 hb h0
theorem i_7_2_0 : chkF (((7 : Nat) : Int), [1, 0]) 2 = true := by kernel_rfl
theorem i_7_2_1 : chkF (((7 : Nat) : Int), [1, 3]) 2 = true := by kernel_rfl
theorem i_7_2_2 : chkF (((7 : Nat) : Int), [1, 4]) 2 = true := by kernel_rfl
theorem i_7_2_3 : chkF (((7 : Nat) : Int), [2, 0]) 2 = true := by kernel_rfl
theorem i_7_2_4 : chkF (((7 : Nat) : Int), [2, 2]) 2 = true := by kernel_rfl
theorem i_7_2_5 : chkF (((7 : Nat) : Int), [2, 5]) 2 = true := by kernel_rfl
theorem i_7_2_6 : chkF (((7 : Nat) : Int), [3, 1]) 2 = true := by kernel_rfl
theorem i_7_2_7 : chkF (((7 : Nat) : Int), [3, 2]) 2 = true := by kernel_rfl
theorem i_7_2_8 : chkF (((7 : Nat) : Int), [3, 5]) 2 = true := by kernel_rfl
theorem i_7_2_9 : chkF (((7 : Nat) : Int), [3, 6]) 2 = true := by kernel_rfl
theorem i_7_2_10 : chkF (((7 : Nat) : Int), [4, 0]) 2 = true := by kernel_rfl
theorem i_7_2_11 : chkF (((7 : Nat) : Int), [4, 1]) 2 = true := by kernel_rfl
theorem i_7_2_12 : chkF (((7 : Nat) : Int), [4, 6]) 2 = true := by kernel_rfl
theorem i_7_2_13 : chkF (((7 : Nat) : Int), [5, 2]) 2 = true := by kernel_rfl
theorem i_7_2_14 : chkF (((7 : Nat) : Int), [5, 3]) 2 = true := by kernel_rfl
theorem i_7_2_15 : chkF (((7 : Nat) : Int), [5, 4]) 2 = true := by kernel_rfl
theorem i_7_2_16 : chkF (((7 : Nat) : Int), [5, 5]) 2 = true := by kernel_rfl
theorem i_7_2_17 : chkF (((7 : Nat) : Int), [6, 1]) 2 = true := by kernel_rfl
theorem i_7_2_18 : chkF (((7 : Nat) : Int), [6, 3]) 2 = true := by kernel_rfl
theorem i_7_2_19 : chkF (((7 : Nat) : Int), [6, 4]) 2 = true := by kernel_rfl
theorem i_7_2_20 : chkF (((7 : Nat) : Int), [6, 6]) 2 = true := by kernel_rfl
theorem inv_7_2 : ∀ r ∈ ru_7_2, ∀ b, Num (((7 : Nat) : Int), r) b → b ≠ zer (((7 : Nat) : Int), r) → prodA (((7 : Nat) : Int), r) (invA (((7 : Nat) : Int), r) b) b = oneA (((7 : Nat) : Int), r) := fun r h b => by
  simp only [ru_7_2, List.mem_cons, List.not_mem_nil, or_false] at h
  rcases h with rfl | rfl | rfl | rfl | rfl | rfl | rfl | rfl | rfl | rfl | rfl | rfl | rfl | rfl | rfl | rfl | rfl | rfl | rfl | rfl | rfl
  · exact fun hb h0 => chkF_ok (n := 2) rfl i_7_2_0 hb h0
  · exact fun hb h0 => chkF_ok (n := 2) rfl i_7_2_1 hb h0
  · exact fun hb h0 => chkF_ok (n := 2) rfl i_7_2_2 hb h0
  · exact fun hb h0 => chkF_ok (n := 2) rfl i_7_2_3 hb h0
  · exact fun hb h0 => chkF_ok (n := 2) rfl i_7_2_4 hb h0
  · exact fun hb h0 => chkF_ok (n := 2) rfl i_7_2_5 hb h0
  · exact fun hb h0 => chkF_ok (n := 2) rfl i_7_2_6 hb h0
  · exact fun hb h0 => chkF_ok (n := 2) rfl i_7_2_7 hb h0
  · exact fun hb h0 => chkF_ok (n := 2) rfl i_7_2_8 hb h0
  · exact fun hb h0 => chkF_ok (n := 2) rfl i_7_2_9 hb h0
  · exact fun hb h0 => chkF_ok (n := 2) rfl i_7_2_10 hb h0
  · exact fun hb h0 => chkF_ok (n := 2) rfl i_7_2_11 hb h0
  · exact fun hb h0 => chkF_ok (n := 2) rfl i_7_2_12 hb h0
  · exact fun hb h0 => chkF_ok (n := 2) rfl i_7_2_13 hb h0
  · exact fun hb h0 => chkF_ok (n := 2) rfl i_7_2_14 hb h0
  · exact fun hb h0 => chkF_ok (n := 2) rfl i_7_2_15 hb h0
  · exact fun hb h0 => chkF_ok (n := 2) rfl i_7_2_16 hb h0
  · exact fun hb h0 => chkF_ok (n := 2) rfl i_7_2_17 hb h0
  · exact fun hb h0 => chkF_ok (n := 2) rfl i_7_2_18 hb h0
  · exact fun hb h0 => chkF_ok (n := 2) rfl i_7_2_19 hb h0
  · exact fun hb h0 => chkF_ok (n := 2) rfl i_7_2_20 hb h0
theorem i_2_5_0 : chkF (((2 : Nat) : Int), [1, 0, 0, 1, 0]) 5 = true := by kernel_rfl
theorem i_2_5_1 : chkF (((2 : Nat) : Int), [1, 0, 1, 0, 0]) 5 = true := by kernel_rfl
theorem i_2_5_2 : chkF (((2 : Nat) : Int), [1, 0, 1, 1, 1]) 5 = true := by kernel_rfl
theorem i_2_5_3 : chkF (((2 : Nat) : Int), [1, 1, 0, 1, 1]) 5 = true := by kernel_rfl
theorem i_2_5_4 : chkF (((2 : Nat) : Int), [1, 1, 1, 0, 1]) 5 = true := by kernel_rfl
theorem i_2_5_5 : chkF (((2 : Nat) : Int), [1, 1, 1, 1, 0]) 5 = true := by kernel_rfl
theorem inv_2_5 : ∀ r ∈ ru_2_5, ∀ b, Num (((2 : Nat) : Int), r) b → b ≠ zer (((2 : Nat) : Int), r) → prodA (((2 : Nat) : Int), r) (invA (((2 : Nat) : Int), r) b) b = oneA (((2 : Nat) : Int), r) := fun r h b => by
  simp only [ru_2_5, List.mem_cons, List.not_mem_nil, or_false] at h
  rcases h with rfl | rfl | rfl | rfl | rfl | rfl
  · exact fun hb h0 => chkF_ok (n := 5) rfl i_2_5_0 hb h0
  · exact fun hb h0 => chkF_ok (n := 5) rfl i_2_5_1 hb h0
  · exact fun hb h0 => chkF_ok (n := 5) rfl i_2_5_2 hb h0
  · exact fun hb h0 => chkF_ok (n := 5) rfl i_2_5_3 hb h0
  · exact fun hb h0 => chkF_ok (n := 5) rfl i_2_5_4 hb h0
  · exact fun hb h0 => chkF_ok (n := 5) rfl i_2_5_5 hb h0
theorem i_2_6_0 : chkF (((2 : Nat) : Int), [1, 1, 0, 0, 0, 0]) 6 = true := by kernel_rfl
theorem inv_2_6 : ∀ r ∈ ru_2_6, ∀ b, Num (((2 : Nat) : Int), r) b → b ≠ zer (((2 : Nat) : Int), r) → prodA (((2 : Nat) : Int), r) (invA (((2 : Nat) : Int), r) b) b = oneA (((2 : Nat) : Int), r) := fun r h b => by
  simp only [ru_2_6, List.mem_cons, List.not_mem_nil, or_false] at h
  subst h
  exact fun hb h0 => chkF_ok (n := 6) rfl i_2_6_0 hb h0
theorem i_3_4_0 : chkF (((3 : Nat) : Int), [2, 1, 0, 0]) 4 = true := by kernel_rfl
theorem inv_3_4 : ∀ r ∈ ru_3_4, ∀ b, Num (((3 : Nat) : Int), r) b → b ≠ zer (((3 : Nat) : Int), r) → prodA (((3 : Nat) : Int), r) (invA (((3 : Nat) : Int), r) b) b = oneA (((3 : Nat) : Int), r) := fun r h b => by
  simp only [ru_3_4, List.mem_cons, List.not_mem_nil, or_false] at h
  subst h
  exact fun hb h0 => chkF_ok (n := 4) rfl i_3_4_0 hb h0
theorem Drawn.inv : ∀ {f : Int × Nu}, Drawn f → ∀ {b}, Num f b → b ≠ zer f → prodA f (invA f b) b = oneA f
  | _, .k_2_2 h => fun hb h0 => inv_2_2 _ h _ hb h0
  | _, .k_2_3 h => fun hb h0 => inv_2_3 _ h _ hb h0
  | _, .k_3_2 h => fun hb h0 => inv_3_2 _ h _ hb h0
  | _, .k_2_4 h => fun hb h0 => inv_2_4 _ h _ hb h0
  | _, .k_5_1 h => fun hb h0 => inv_5_1 _ h _ hb h0
  | _, .k_3_1 h => fun hb h0 => inv_3_1 _ h _ hb h0
  | _, .k_5_2 h => fun hb h0 => inv_5_2 _ h _ hb h0
  | _, .k_3_3 h => fun hb h0 => inv_3_3 _ h _ hb h0
  | _, .k_2_1 h => fun hb h0 => inv_2_1 _ h _ hb h0
  | _, .k_7_1 h => fun hb h0 => inv_7_1 _ h _ hb h0
  | _, .k_7_2 h => fun hb h0 => inv_7_2 _ h _ hb h0
  | _, .k_2_5 h => fun hb h0 => inv_2_5 _ h _ hb h0
  | _, .k_2_6 h => fun hb h0 => inv_2_6 _ h _ hb h0
  | _, .k_3_4 h => fun hb h0 => inv_3_4 _ h _ hb h0
end FM

/-! FmO: the numbers of a field as a ring, for grind -/
namespace FM
open PySem FS L2
def whl (f : Int × Nu) (z : Int) : Nu := z % f.1 :: List.replicate (f.2.length - 1) 0
theorem num_whl {f : Int × Nu} (F : Fd f) (z : Int) : Num f (whl f z) := ⟨by have := F.n; simp [whl]; omega, fun x hx => by
  unfold whl at hx
  have := F.p
  rcases List.mem_cons.mp hx with rfl | hx
  · exact md F.p _
  · rw [(List.mem_replicate.mp hx).2]; omega⟩
theorem vec_whl {f : Int × Nu} (F : Fd f) (z : Int) : Cg f.1 (vec (whl f z)) (vscl z e0) := fun k => by
  cases k with
  | zero =>
    obtain ⟨c, e⟩ := emod_cg f.1 z
    exact ⟨c, by show z % f.1 = z * 1 + f.1 * c; rw [e]; grind⟩
  | succ k =>
    refine ⟨0, ?_⟩
    have : vec (whl f z) (k + 1) = 0 := by
      unfold vec whl
      simp [List.getD_eq_getElem?_getD, List.getElem?_replicate]
      split <;> rfl
    rw [this]
    show (0 : Int) = z * (if k + 1 = 0 then 1 else 0) + f.1 * 0
    rw [if_neg (by omega)]; grind
/-- a number of a field -/
structure El (f : Int × Nu) where
  a : Nu
  h : Num f a
theorem El.ext' {f : Int × Nu} {x y : El f} (h : x.a = y.a) : x = y := by
  cases x; cases y; cases h; rfl
theorem El.cg {f : Int × Nu} {x y : El f} (h : Cg f.1 (vec x.a) (vec y.a)) : x = y := El.ext' (cg_eq x.h y.h h)
section
variable {f : Int × Nu} (F : Fd f)
def El.add (x y : El f) : El f := ⟨addN f.1 x.a y.a, num_addN F.p x.h y.h⟩
def El.mul (x y : El f) : El f := ⟨prodA f x.a y.a, num_prodA F.p F.n⟩
def El.sub (x y : El f) : El f := ⟨subN f.1 x.a y.a, num_subN F.p x.h y.h⟩
def El.whl (z : Int) : El f := ⟨FM.whl f z, num_whl F z⟩
def El.pow (x : El f) : Nat → El f
  | 0 => El.whl F 1
  | k + 1 => El.mul F (El.pow x k) x
theorem El.vadd (x y : El f) : Cg f.1 (vec (El.add F x y).a) (FM.vadd (vec x.a) (vec y.a)) := vec_add (by rw [x.h.1, y.h.1])
theorem El.vsub (x y : El f) : Cg f.1 (vec (El.sub F x y).a) (FM.vadd (vec x.a) (vscl (-1) (vec y.a))) := vec_sub (by rw [x.h.1, y.h.1])
theorem El.vmul (x y : El f) : Cg f.1 (vec (El.mul F x y).a) (ap f.2.length (vec f.2) x.a (vec y.a)) := vec_mul F x.h y.h
theorem El.vwhl (z : Int) : Cg f.1 (vec (El.whl F z).a) (vscl z e0) := vec_whl F z
theorem El.comm (x y : El f) : El.mul F x y = El.mul F y x := El.ext' (mul_comm F x.h y.h)
theorem El.mul_whl (x : El f) (z : Int) : Cg f.1 (vec (El.mul F x (El.whl F z)).a) (vscl z (vec x.a)) := by
  refine (El.vmul F x _).trans ((Cg.ap x.a (El.vwhl F z)).trans ?_)
  rw [ap_scl, ap_e0 (by have := F.n; omega) x.a (Nat.le_of_eq x.h.1)]
  exact Cg.refl _
@[reducible] def El.semi : Lean.Grind.Semiring (El f) where
  add := El.add F
  mul := El.mul F
  natCast := ⟨fun k => El.whl F k⟩
  ofNat := fun k => ⟨El.whl F k⟩
  nsmul := ⟨fun k x => El.mul F (El.whl F k) x⟩
  npow := ⟨fun x k => El.pow F x k⟩
  add_zero := fun x => El.cg ((El.vadd F x _).trans (((Cg.refl _).add (El.vwhl F _)).trans fun k => ⟨0, by unfold FM.vadd vscl; simp⟩))
  add_comm := fun x y => El.cg ((El.vadd F x y).trans (by rw [vadd_comm]; exact (El.vadd F y x).symm))
  add_assoc := fun x y z => El.cg ((El.vadd F _ z).trans (((El.vadd F x y).add (Cg.refl _)).trans (by rw [vadd_assoc]; exact (((El.vadd F x _).trans ((Cg.refl _).add (El.vadd F y z))).symm))))
  mul_assoc := fun x y z => El.ext' (mul_assoc F x.h y.h z.h)
  mul_one := fun x => El.cg ((El.mul_whl F x _).trans fun k => ⟨0, by unfold vscl; simp⟩)
  one_mul := fun x => by
    show El.mul F (El.whl F ((1 : Nat) : Int)) x = x
    rw [El.comm]
    exact El.cg ((El.mul_whl F x _).trans fun k => ⟨0, by unfold vscl; simp⟩)
  left_distrib := fun x y z => El.ext' (mul_add F x.h y.h z.h)
  right_distrib := fun x y z => by
    show El.mul F (El.add F x y) z = El.add F (El.mul F x z) (El.mul F y z)
    rw [El.comm F _ z, El.comm F x z, El.comm F y z]
    exact El.ext' (mul_add F z.h x.h y.h)
  zero_mul := fun x => by
    show El.mul F (El.whl F ((0 : Nat) : Int)) x = El.whl F ((0 : Nat) : Int)
    rw [El.comm]
    exact El.cg ((El.mul_whl F x _).trans (Cg.trans (fun k => ⟨0, by unfold vscl; simp⟩) (El.vwhl F _).symm))
  mul_zero := fun x => El.cg ((El.mul_whl F x _).trans (Cg.trans (fun k => ⟨0, by unfold vscl; simp⟩) (El.vwhl F _).symm))
  pow_zero := fun x => rfl
  pow_succ := fun x k => rfl
  ofNat_succ := fun k => El.cg ((El.vwhl F _).trans (Cg.trans (fun j => ⟨0, by unfold FM.vadd vscl; simp; grind⟩) ((El.vadd F _ _).trans ((El.vwhl F (k : Int)).add (El.vwhl F ((1 : Nat) : Int)))).symm))
@[reducible] def El.ring : Lean.Grind.Ring (El f) where
  toSemiring := El.semi F
  neg := fun x => El.sub F (El.whl F 0) x
  sub := El.sub F
  intCast := ⟨fun i => El.whl F i⟩
  zsmul := ⟨fun i x => El.mul F (El.whl F i) x⟩
  neg_add_cancel := fun x => El.cg ((El.vadd F _ x).trans ((((El.vsub F _ x).trans ((El.vwhl F 0).add (Cg.refl _))).add (Cg.refl _)).trans (Cg.trans (fun j => ⟨0, by unfold FM.vadd vscl; simp; grind⟩) (El.vwhl F ((0 : Nat) : Int)).symm)))
  sub_eq_add_neg := fun x y => El.cg ((El.vsub F x y).trans (Cg.trans (fun j => ⟨0, by unfold FM.vadd vscl; simp⟩) ((El.vadd F x _).trans ((Cg.refl _).add ((El.vsub F _ y).trans ((El.vwhl F 0).add (Cg.refl _))))).symm))
  neg_zsmul := fun i x => by
    show El.mul F (El.whl F (-i)) x = El.sub F (El.whl F 0) (El.mul F (El.whl F i) x)
    rw [El.comm F _ x, El.comm F _ x]
    exact El.cg ((El.mul_whl F x _).trans (Cg.trans (fun j => ⟨0, by unfold FM.vadd vscl; simp; grind⟩) ((El.vsub F _ _).trans ((El.vwhl F 0).add ((El.mul_whl F x i).scl (-1)))).symm))
  intCast_neg := fun i => El.cg ((El.vwhl F _).trans (Cg.trans (fun j => ⟨0, by unfold FM.vadd vscl; simp; grind⟩) ((El.vsub F _ _).trans ((El.vwhl F 0).add ((El.vwhl F i).scl (-1)))).symm))
@[reducible] def El.comR : Lean.Grind.CommRing (El f) := letI := El.ring F; ⟨fun x y => El.comm F x y⟩
end
theorem frob2 {α : Type} [Lean.Grind.CommRing α] (h : (2 : α) = 0) (a b : α) : (a + b) ^ 2 = a ^ 2 + b ^ 2 := by grind
theorem frob3 {α : Type} [Lean.Grind.CommRing α] (h : (3 : α) = 0) (a b : α) : (a + b) ^ 3 = a ^ 3 + b ^ 3 := by grind
theorem frob5 {α : Type} [Lean.Grind.CommRing α] (h : (5 : α) = 0) (a b : α) : (a + b) ^ 5 = a ^ 5 + b ^ 5 := by grind
theorem frob7 {α : Type} [Lean.Grind.CommRing α] (h : (7 : α) = 0) (a b : α) : (a + b) ^ 7 = a ^ 7 + b ^ 7 := by grind
end FM

/-! FmP: powers -/
namespace FM
open PySem FS L2
section
variable {f : Int × Nu} (F : Fd f)
theorem El.pow_sq (x : El f) : ∀ k : Nat, El.pow F (El.mul F x x) k = El.pow F x (2 * k)
  | 0 => rfl
  | k + 1 => by
    show El.mul F (El.pow F (El.mul F x x) k) (El.mul F x x) = El.pow F x (2 * k + 2)
    rw [El.pow_sq x k]
    show El.mul F (El.pow F x (2 * k)) (El.mul F x x) = El.mul F (El.mul F (El.pow F x (2 * k)) x) x
    exact (El.ext' (mul_assoc F (El.h _) x.h x.h)).symm
theorem powW_pow : ∀ (k : Nat) (x a : El f) (n : Nat), n < 2 ^ k → powW f k x.a a.a n = (El.mul F x (El.pow F a n)).a
  | 0, x, a, n, h => by
    have : n = 0 := by simp at h; exact h
    subst this
    show x.a = (El.mul F x (El.whl F 1)).a
    have := (El.semi F).mul_one x
    exact (congrArg El.a this).symm
  | k + 1, x, a, n, h => by
    unfold powW
    by_cases h0 : n = 0
    · subst h0
      rw [if_pos rfl]
      exact (congrArg El.a ((El.semi F).mul_one x)).symm
    · rw [if_neg h0]
      have ih := fun y => powW_pow k y (El.mul F a a) (n / 2) (by rw [Nat.pow_succ] at h; omega)
      by_cases h1 : n % 2 = 1
      · rw [if_pos h1]
        have := ih (El.mul F x a)
        refine Eq.trans this ?_
        rw [El.pow_sq]
        have e : n = 2 * (n / 2) + 1 := by omega
        have e2 : El.pow F a n = El.mul F (El.pow F a (2 * (n / 2))) a := by
          have : El.pow F a n = El.pow F a (2 * (n / 2) + 1) := by rw [← e]
          exact this
        rw [e2]
        have c := El.comm F (El.pow F a (2 * (n / 2))) a
        rw [c]
        exact mul_assoc F x.h a.h (El.h _)
      · rw [if_neg h1]
        have := ih x
        refine Eq.trans this ?_
        rw [El.pow_sq]
        have e : 2 * (n / 2) = n := by omega
        rw [e]
theorem El.one_mul (x : El f) : El.mul F (El.whl F 1) x = x := (El.semi F).one_mul x
theorem El.mul_one (x : El f) : El.mul F x (El.whl F 1) = x := (El.semi F).mul_one x
theorem El.massoc (x y z : El f) : El.mul F (El.mul F x y) z = El.mul F x (El.mul F y z) := (El.semi F).mul_assoc x y z
theorem El.pow_add (x : El f) (j : Nat) : ∀ k, El.pow F x (j + k) = El.mul F (El.pow F x j) (El.pow F x k)
  | 0 => (El.mul_one F _).symm
  | k + 1 => by
    show El.mul F (El.pow F x (j + k)) x = El.mul F (El.pow F x j) (El.mul F (El.pow F x k) x)
    rw [El.pow_add x j k, El.massoc]
theorem El.one_pow : ∀ k, El.pow F (El.whl F 1) k = El.whl F 1
  | 0 => rfl
  | k + 1 => by
    show El.mul F (El.pow F (El.whl F 1) k) (El.whl F 1) = _
    rw [El.one_pow k, El.mul_one]
theorem El.pow_mul (x : El f) (j : Nat) : ∀ k, El.pow F x (j * k) = El.pow F (El.pow F x j) k
  | 0 => rfl
  | k + 1 => by
    rw [Nat.mul_succ, El.pow_add, El.pow_mul x j k]
    rfl
end
theorem zer_whl {f : Int × Nu} (F : Fd f) : zer f = whl f 0 := by
  have n := F.n
  unfold zer whl
  rw [Int.zero_emod, ← List.replicate_succ, show f.2.length - 1 + 1 = f.2.length from by omega]
section
variable {f : Int × Nu} (D : Drawn f)
include D
theorem Drawn.fd : Fd f := D.good.fd
/-- every number but nought, so often as there are numbers but nought, is 1 -/
theorem Drawn.fermat (x : El f) (h0 : x.a ≠ zer f) : El.pow D.fd x (sizA f - 1) = El.whl D.fd 1 := by
  have b := siz_bd D.good
  have h := D.inv x.h h0
  have e : invA f x.a = (El.pow D.fd x (sizA f - 2)).a := by
    have := powW_pow D.fd 24 (El.whl D.fd 1) x (sizA f - 2) (by omega)
    rw [El.one_mul] at this
    exact this
  rw [e] at h
  have : sizA f - 1 = (sizA f - 2) + 1 := by omega
  rw [this]
  exact El.ext' h
theorem Drawn.pow_zero (k : Nat) (hk : k ≠ 0) (x : El f) (h0 : x.a = zer f) : El.pow D.fd x k = x := by
  obtain ⟨j, rfl⟩ : ∃ j, k = j + 1 := ⟨k - 1, by omega⟩
  have e : x = El.whl D.fd 0 := El.ext' (h0.trans (zer_whl D.fd))
  subst e
  exact (El.semi D.fd).mul_zero _
/-- a product is nought just where one of both is -/
theorem Drawn.nozero (x y : El f) (h : (El.mul D.fd x y).a = zer f) : x.a = zer f ∨ y.a = zer f := by
  by_cases h0 : y.a = zer f
  · exact .inr h0
  · left
    have e : El.mul D.fd x y = El.whl D.fd 0 := El.ext' (h.trans (zer_whl D.fd))
    have i := D.fermat y h0
    have b := siz_bd D.good
    rw [show sizA f - 1 = (sizA f - 2) + 1 from by omega] at i
    have i : El.mul D.fd (El.pow D.fd y (sizA f - 2)) y = El.whl D.fd 1 := i
    rw [El.comm] at i
    have : x = El.whl D.fd 0 := by
      rw [← El.mul_one D.fd x, ← i, ← El.massoc, e]
      exact (El.semi D.fd).zero_mul _
    rw [this]
    exact (zer_whl D.fd).symm
end
/-- the prime is nought in its field -/
theorem El.char {f : Int × Nu} (F : Fd f) : El.whl F f.1 = El.whl F 0 := by
  refine El.ext' ?_
  show f.1 % f.1 :: _ = 0 % f.1 :: _
  rw [Int.emod_self, Int.zero_emod]
theorem frob {f : Int × Nu} (D : Drawn f) (x y : El f) : El.pow D.fd (El.add D.fd x y) f.1.toNat = El.add D.fd (El.pow D.fd x f.1.toNat) (El.pow D.fd y f.1.toNat) := by
  letI := El.comR D.fd
  have c := El.char D.fd
  have h : f.1 = 2 ∨ f.1 = 3 ∨ f.1 = 5 ∨ f.1 = 7 := by cases D <;> simp
  rcases h with h | h | h | h
  · rw [h] at c ⊢; exact frob2 (α := El f) c x y
  · rw [h] at c ⊢; exact frob3 (α := El f) c x y
  · rw [h] at c ⊢; exact frob5 (α := El f) c x y
  · rw [h] at c ⊢; exact frob7 (α := El f) c x y
end FM

/-! FmQ: raised numbers, traces, norms -/
namespace FM
open PySem FS L2
theorem c3 {fn : Fn} {m m' : M} {α : En} {i : Nat} {d u v : PyData} {o : Out R} (h0 : α[i]? = some (.val d)) (h : m α = .ok ⟨.v, u⟩) (h' : m' α = .ok ⟨.v, v⟩) (e : fn [d, u, v] = o) : mF 3 fn (mA (mV i) (mA m (mA m' mA0))) α = o :=
  v_F (v_A (v_var h0) (v_A h (v_A h' v_A0))) rfl rfl e
/-- how often a number is multiplied that is raised k times -/
def often (f : Int × Nu) (k : Nat) : Nat := f.1.toNat ^ (k % f.2.length)
section
variable {f : Int × Nu} (D : Drawn f)
include D
def steps (f : Int × Nu) (D : Drawn f) (x : El f) (m : Nat) : List (El f) := (List.range (f.2.length / m)).map fun t => El.pow D.fd x (often f (m * t))
def traceE (f : Int × Nu) (D : Drawn f) (x : El f) (m : Nat) : El f := (steps f D x m).foldl (El.add D.fd) (El.whl D.fd 0)
end
end FM

/-! FmR: raising is a way of the field into itself -/
namespace FM
open PySem FS L2
section
variable {f : Int × Nu} (D : Drawn f)
include D
theorem Drawn.mul_pow (x y : El f) : ∀ k : Nat, El.pow D.fd (El.mul D.fd x y) k = El.mul D.fd (El.pow D.fd x k) (El.pow D.fd y k)
  | 0 => (El.mul_one D.fd _).symm
  | k + 1 => by
    show El.mul D.fd (El.pow D.fd (El.mul D.fd x y) k) (El.mul D.fd x y) = El.mul D.fd (El.mul D.fd (El.pow D.fd x k) x) (El.mul D.fd (El.pow D.fd y k) y)
    rw [Drawn.mul_pow x y k]
    letI := El.comR D.fd
    show (El.pow D.fd x k * El.pow D.fd y k) * (x * y) = (El.pow D.fd x k * x) * (El.pow D.fd y k * y)
    grind
/-- raised k times -/
def ra (f : Int × Nu) (D : Drawn f) (k : Nat) (x : El f) : El f := El.pow D.fd x (f.1.toNat ^ k)
theorem Drawn.ra_add (x y : El f) : ∀ k : Nat, ra f D k (El.add D.fd x y) = El.add D.fd (ra f D k x) (ra f D k y)
  | 0 => by
    have e : ∀ z : El f, ra f D 0 z = z := fun z => El.one_mul D.fd z
    rw [e, e, e]
  | k + 1 => by
    have e : ∀ z : El f, ra f D (k + 1) z = El.pow D.fd (ra f D k z) f.1.toNat := fun z => by unfold ra; rw [Nat.pow_succ, El.pow_mul]
    rw [e, e, e, Drawn.ra_add x y k]
    exact frob D _ _
theorem Drawn.ra_mul (x y : El f) (k : Nat) : ra f D k (El.mul D.fd x y) = El.mul D.fd (ra f D k x) (ra f D k y) := D.mul_pow x y _
theorem Drawn.ra_zero (k : Nat) : ra f D k (El.whl D.fd 0) = El.whl D.fd 0 := by
  have p2 := D.good.p2
  exact D.pow_zero _ (Nat.ne_of_gt (Nat.pow_pos (by omega))) _ (zer_whl D.fd).symm
theorem Drawn.ra_one (k : Nat) : ra f D k (El.whl D.fd 1) = El.whl D.fd 1 := El.one_pow D.fd _
theorem Drawn.ra_ra (x : El f) (j k : Nat) : ra f D j (ra f D k x) = ra f D (k + j) x := by
  unfold ra
  rw [Nat.pow_add, El.pow_mul]
/-- once round -/
theorem Drawn.ra_round (x : El f) : ra f D f.2.length x = x := by
  have b := siz_bd D.good
  by_cases h0 : x.a = zer f
  · have p2 := D.good.p2
    exact D.pow_zero _ (Nat.ne_of_gt (Nat.pow_pos (by omega))) x h0
  · have h := D.fermat x h0
    have e : f.1.toNat ^ f.2.length = (sizA f - 1) + 1 := by
      show sizA f = _
      omega
    unfold ra
    rw [e]
    show El.mul D.fd (El.pow D.fd x (sizA f - 1)) x = x
    rw [h, El.one_mul]
end
end FM

/-! FmS: sums and products of rows of numbers; traces and norms -/
namespace FM
open PySem FS L2
/-- an operation that goes in any order and together as it may -/
structure Mo {β : Type} (op : β → β → β) (e : β) : Prop where
  c : ∀ a b, op a b = op b a
  a : ∀ a b c, op (op a b) c = op a (op b c)
  u : ∀ a, op a e = a
def Sm {β : Type} (op : β → β → β) (e : β) (g : Nat → β) : Nat → β
  | 0 => e
  | k + 1 => op (Sm op e g k) (g k)
section
variable {β : Type} {op : β → β → β} {e : β} (M : Mo op e)
theorem sm_congr {g h : Nat → β} : ∀ {k : Nat}, (∀ t, t < k → g t = h t) → Sm op e g k = Sm op e h k
  | 0, _ => rfl
  | k + 1, H => by
    show op (Sm op e g k) (g k) = op (Sm op e h k) (h k)
    rw [sm_congr (fun t ht => H t (by omega)), H k (by omega)]
include M
theorem Mo.sw (a b c d : β) : op (op a b) (op c d) = op (op a c) (op b d) := by
  rw [M.a, M.a, ← M.a b c d, M.c b c, M.a c b d]
theorem sm_op (g h : Nat → β) : ∀ k, Sm op e (fun t => op (g t) (h t)) k = op (Sm op e g k) (Sm op e h k)
  | 0 => (M.u e).symm
  | k + 1 => by
    show op (Sm op e (fun t => op (g t) (h t)) k) (op (g k) (h k)) = op (op (Sm op e g k) (g k)) (op (Sm op e h k) (h k))
    rw [sm_op g h k, M.sw]
omit M in
theorem sm_hom (φ : β → β) (h1 : ∀ a b, φ (op a b) = op (φ a) (φ b)) (h0 : φ e = e) (g : Nat → β) : ∀ k, φ (Sm op e g k) = Sm op e (fun t => φ (g t)) k
  | 0 => h0
  | k + 1 => by
    show φ (op (Sm op e g k) (g k)) = op (Sm op e (fun t => φ (g t)) k) (φ (g k))
    rw [h1, sm_hom φ h1 h0 g k]
theorem sm_first (g : Nat → β) : ∀ k, Sm op e g (k + 1) = op (g 0) (Sm op e (fun t => g (t + 1)) k)
  | 0 => M.c _ _
  | k + 1 => by
    show op (Sm op e g (k + 1)) (g (k + 1)) = op (g 0) (op (Sm op e (fun t => g (t + 1)) k) (g (k + 1)))
    rw [sm_first g k, M.a]
theorem sm_e : ∀ k, Sm op e (fun _ => e) k = e
  | 0 => rfl
  | k + 1 => by
    show op (Sm op e (fun _ => e) k) e = e
    rw [M.u, sm_e k]
end
section
variable {f : Int × Nu} (D : Drawn f)
theorem moA (F : Fd f) : Mo (El.add F) (El.whl F 0) := ⟨(El.semi F).add_comm, (El.semi F).add_assoc, (El.semi F).add_zero⟩
end
end FM

/-! FmU: the laws' own powers; all numbers; lesser fields -/
namespace FM
open PySem FS L2
section
variable {f : Int × Nu} (D : Drawn f)
include D
theorem ra_0 (x : El f) : ra f D 0 x = x := El.one_mul D.fd x
end
end FM

/-! FmV: rules to evaluate mirrors by a tactic: each goal tells a word and an open answer -/
namespace FM
open PySem FS L2
section
variable {α β γ : En} {a b c : M} {x y : MA} {s t : MS} {ta tb : MB} {g g' : G2} {i j n : Nat} {d d' : PyData} {ds es : List PyData} {r r' : R} {rs : List R} {e : Ex} {k : Bool} {z w : Int} {o : SO} {oR : Out R} {oB : Out Bool}
theorem w_body {m : MS} (h0 : startE n ds = α) (h : m α = .rt r) : bodyM n m ds = .ok r := by subst h0; exact v_body h
theorem w_bodyN {m : MS} (h0 : startE n ds = α) (h : m α = .nx β) : bodyM n m ds = .ok ⟨.v, .none⟩ := by subst h0; exact v_bodyN h
theorem w_seq (h : s α = .nx β) (h2 : t β = o) : mSeq s t α = o := (v_seq h).trans h2
theorem w_seqE {P : En → Prop} (h : ∃ β, s α = .nx β ∧ P β) (h2 : ∀ β, P β → t β = o) : mSeq s t α = o := by obtain ⟨β, h, p⟩ := h; exact (v_seq h).trans (h2 β p)
theorem w_if (h : ta α = .ok k) (h2 : (if k = true then s α else t α) = o) : sIf ta s t α = o := (v_if h).trans h2
theorem w_mif (h : ta α = .ok k) (h2 : (if k = true then a α else b α) = oR) : mIf ta a b α = oR := by unfold mIf; rw [h]; exact h2
theorem w_or (h : ta α = .ok k) (h2 : (if k = true then .ok true else tb α) = oB) : bOr ta tb α = oB := by unfold bOr; rw [h]; exact h2
theorem w_and (h : ta α = .ok k) (h2 : (if k = true then tb α else .ok false) = oB) : bAnd ta tb α = oB := by unfold bAnd; rw [h]; exact h2
theorem w_vAnd (h : a α = .ok r) (h1 : truD r.d = .ok k) (h2 : (if k = true then b α else .ok r) = oR) : vAnd a b α = oR := by unfold vAnd; rw [h]; show (truD r.d).bind _ = _; rw [h1]; exact h2
theorem w_vOr (h : a α = .ok r) (h1 : truD r.d = .ok k) (h2 : (if k = true then .ok r else b α) = oR) : vOr a b α = oR := by unfold vOr; rw [h]; show (truD r.d).bind _ = _; rw [h1]; exact h2
theorem w_asg (h : a α = .ok r) (h2 : putR i r α = o) : sAsg i a α = o := by unfold sAsg; rw [h]; exact h2
theorem w_asgE (h : a α = .err e) : sAsg i a α = .er e := v_asgE h
theorem putR_v (h : α.set i (.val d) = β) : putR i ⟨.v, d⟩ α = .nx β := by subst h; rfl
theorem putR_f (h : α.set i (.own ds) = β) : putR i ⟨.f, .list ds⟩ α = .nx β := by subst h; rfl
def retR (r : R) : SO := match r.k with
  | .b => .bad
  | _ => .rt r
theorem w_ret (h : a α = .ok r) (h2 : retR r = o) : sRet a α = o := by unfold sRet; rw [h]; exact h2
theorem ret_v : retR ⟨.v, d⟩ = .rt ⟨.v, d⟩ := rfl
theorem ret_f : retR ⟨.f, d⟩ = .rt ⟨.f, d⟩ := rfl
theorem w_next : mNext α = .nx α := rfl
theorem w_yes : bYes α = .ok true := rfl
def retS : Sv → SO
  | .own ds => .rt ⟨.f, .list ds⟩
  | .val d => .rt ⟨.v, d⟩
  | _ => .bad
theorem w_retO {q : Sv} (h : α[i]? = some q) (h2 : retS q = o) : sRetO i α = o := by
  cases q with
  | own ds => exact (v_retO h).trans h2
  | val d => exact (v_retV h).trans h2
  | _ => unfold sRetO; rw [h]; exact h2
theorem retS_v : retS (.val d) = .rt ⟨.v, d⟩ := rfl
theorem retS_o : retS (.own ds) = .rt ⟨.f, .list ds⟩ := rfl
theorem w_app (h : α[i]? = some (.own ds)) (h2 : a α = .ok r) (h3 : stR r = .ok d) (h4 : ds.length < 1000000) (h5 : α.set i (.own (ds ++ [d])) = β) : sApp i a α = .nx β := by subst h5; exact v_app h h2 h3 (Nat.lt_of_lt_of_le h4 (by decide))
theorem w_frz (h : frz i α = β) (h2 : s β = o) : mFrz i s α = o := by subst h; exact h2
theorem w_asgT {is : List Nat} (h : a α = .ok r) (h1 : stR r = .ok d) (h2 : (Tg.tp is).put d α = some β) : sAsgT is a α = .nx β := by unfold sAsgT; rw [h]; show (stR r).so _ = _; rw [h1]; show (match (Tg.tp is).put d α with | some α' => SO.nx α' | none => .bad) = _; rw [h2]
theorem w_aug {f : Int → Int → Int} (h : α[i]? = some (.val (.int z))) (h2 : a α = .ok ⟨.v, .int w⟩) (h3 : α.set i (.val (.int (f z w))) = β) : sAug i f a α = .nx β := by subst h3; unfold sAug; rw [h, h2]; rfl
theorem w_for {it : MI} {T : Tg} (h : it α = .ok ds) (h2 : forM T s ds α = o) : sFor it T s α = o := (v_for h).trans h2
theorem w_LC {it : MI} {T : Tg} {ws : List Nat} (h : it α = .ok ds) (h1 : ds.length ≤ 1000000) (h2 : ownFree α ws = true) (h0 : wipeA α ws = β) (h3 : compM T ta a β ds = .ok es) : mLC it T ta a ws α = .ok ⟨.f, .list es⟩ := by subst h0; exact v_LC h h1 h2 h3
theorem w_vNot (h : a α = .ok r) (h2 : truD r.d = .ok k) : vNot a α = .ok ⟨.v, .bool (!k)⟩ := v_vNot h h2
theorem ite_no {τ : Sort _} {p q u : τ} (h : k = false) (h2 : q = u) : (if k = true then p else q) = u := by subst h; exact h2
theorem ite_yes {τ : Sort _} {p q u : τ} (h : k = true) (h2 : p = u) : (if k = true then p else q) = u := by subst h; exact h2
theorem dT {p : Prop} [Decidable p] (h : p) : decide p = true := decide_eq_true h
theorem dF {p : Prop} [Decidable p] (h : ¬ p) : decide p = false := decide_eq_false h
theorem dNT {p : Prop} [Decidable p] (h : p) : (!decide p) = false := by rw [decide_eq_true h]; rfl
theorem dNF {p : Prop} [Decidable p] (h : ¬ p) : (!decide p) = true := by rw [decide_eq_false h]; rfl
theorem stR_v : stR ⟨.v, d⟩ = .ok d := rfl
theorem stR_f : stR ⟨.f, d⟩ = .ok d := rfl
theorem stAll_c (h : stR r = .ok d) (h2 : stAll rs = .ok ds) : stAll (r :: rs) = .ok (d :: ds) := by
  show (stR r).bind (fun d => (stAll rs).bind fun ds => .ok (d :: ds)) = _
  rw [h]
  show (stAll rs).bind (fun ds => Out.ok (d :: ds)) = _
  rw [h2]; rfl
theorem w_len (h : ds.length = n) : ds.length = n := h
theorem w_ble (h : Nat.ble ds.length 1000 = true) : Nat.ble ds.length 1000 = true := h
theorem w_own {ws : List Nat} (h : ownFree α ws = true) : ownFree α ws = true := h
theorem w_set (h : α.set i q = β) : α.set i q = β := h
theorem w_start (h : startE n ds = β) : startE n ds = β := h
theorem w_frzn (h : frz i α = β) : frz i α = β := h
theorem w_wipe {ws : List Nat} (h : wipeA α ws = β) : wipeA α ws = β := h
theorem w_put {T : Tg} (h : T.put d α = some β) : T.put d α = some β := h
theorem w_maplen {τ : Type} {f : τ → PyData} {l : List τ} {n : Nat} (h : l.length ≤ n) : (l.map f).length ≤ n := by rw [List.length_map]; exact h
theorem w_rlen {k n : Nat} (h : k ≤ n) : (List.range k).length ≤ n := by rw [List.length_range]; exact h
end
theorem w_B1 {α : En} {a : M} {gl : GL} {r : R} {o : Out R} (h : a α = .ok r) (h2 : gl [r.d] = o) : mB gl (mA a mA0) α = o := v_B (v_A h v_A0) h2
theorem w_B2 {α : En} {a b : M} {gl : GL} {r r' : R} {o : Out R} (h : a α = .ok r) (h' : b α = .ok r') (h2 : gl [r.d, r'.d] = o) : mB gl (mA a (mA b mA0)) α = o := v_B (v_A h (v_A h' v_A0)) h2
theorem w_ext {α β : En} {a : M} {i : Nat} {ds es : List PyData} (h : α[i]? = some (.own ds)) (h2 : a α = .ok ⟨.f, .list es⟩) (h3 : ds.length + es.length ≤ 1000000) (h4 : α.set i (.own (ds ++ es)) = β) : sExt i a α = .nx β := by
  subst h4; unfold sExt ownAt; rw [h, h2]
  show (if ds.length + es.length ≤ sizeLine then _ else _) = _
  rw [if_pos (len_line h3)]
theorem w_eq {τ : Sort _} {a b : τ} (h : a = b) : a = b := h
/-- arguments as data -/
def mS (x : MA) (α : En) : Out (List PyData) := (x α).bind stAll
theorem s_0 {α : En} : mS mA0 α = .ok [] := rfl
theorem s_c {α : En} {a : M} {x : MA} {r : R} {d : PyData} {ds : List PyData} (h : a α = .ok r) (h1 : stR r = .ok d) (h2 : mS x α = .ok ds) : mS (mA a x) α = .ok (d :: ds) := by
  unfold mS at h2 ⊢
  cases e : x α with
  | ok rs =>
    rw [e] at h2
    rw [v_A h e]
    exact stAll_c h1 h2
  | _ => rw [e] at h2; cases h2
theorem mS_ok {α : En} {x : MA} {ds : List PyData} (h : mS x α = .ok ds) : ∃ rs, x α = .ok rs ∧ stAll rs = .ok ds := by
  unfold mS at h
  cases e : x α with
  | ok rs => rw [e] at h; exact ⟨rs, rfl, h⟩
  | _ => rw [e] at h; cases h
theorem w_F {α : En} {x : MA} {ds : List PyData} {n : Nat} {fn : Fn} {o : Out R} (h : mS x α = .ok ds) (h2 : ds.length = n) (h3 : fn ds = o) : mF n fn x α = o := by
  obtain ⟨rs, e1, e2⟩ := mS_ok h
  exact v_F e1 e2 h2 h3
theorem w_L {α : En} {x : MA} {ds : List PyData} (h : mS x α = .ok ds) (h3 : Nat.ble ds.length 1000 = true) : mL x α = .ok ⟨.f, .list ds⟩ := by
  obtain ⟨rs, e1, e2⟩ := mS_ok h
  exact v_L e1 e2 h3
theorem w_Tu {α : En} {x : MA} {ds : List PyData} (h : mS x α = .ok ds) (h3 : Nat.ble ds.length 1000 = true) : mTu x α = .ok ⟨.v, .tuple ds⟩ := by
  obtain ⟨rs, e1, e2⟩ := mS_ok h
  exact v_Tu e1 e2 h3
theorem w_iB {α : En} {x : MA} {ds es : List PyData} {gi : List PyData → Out (List PyData)} (h : mS x α = .ok ds) (h3 : gi ds = .ok es) : iB gi x α = .ok es := by
  obtain ⟨rs, e1, e2⟩ := mS_ok h
  exact v_iB e1 e2 h3
theorem w_par {α β : En} {x : MA} {i j : Nat} {d d' : PyData} (h : mS x α = .ok [d, d']) (h3 : (α.set i (.val d)).set j (.val d') = β) : sPar i j x α = .nx β := by
  obtain ⟨rs, e1, e2⟩ := mS_ok h
  subst h3
  exact v_par e1 e2
/-! data -/
theorem d_eqN (a b : Nu) : eqD (eN a) (eN b) = .ok ⟨.v, .bool (decide (a = b))⟩ := eqD_eN a b
theorem d_neN (a b : Nu) : neD (eN a) (eN b) = .ok ⟨.v, .bool (!decide (a = b))⟩ := neD_eN a b
theorem d_eqI (a b : Int) : eqD (.int a) (.int b) = .ok ⟨.v, .bool (decide (a = b))⟩ := eqD_int a b
theorem d_neI (a b : Int) : neD (.int a) (.int b) = .ok ⟨.v, .bool (!decide (a = b))⟩ := neD_int a b
theorem d_lt (i j : Int) : ltD (.int i) (.int j) = .ok ⟨.v, .bool (decide (i < j))⟩ := rfl
theorem d_le (i j : Int) : leD (.int i) (.int j) = .ok ⟨.v, .bool (decide (i ≤ j))⟩ := rfl
theorem d_gt (i j : Int) : gtD (.int i) (.int j) = .ok ⟨.v, .bool (decide (j < i))⟩ := rfl
theorem d_ge (i j : Int) : geD (.int i) (.int j) = .ok ⟨.v, .bool (decide (j ≤ i))⟩ := rfl
theorem rng1_int {k : Int} (h : k ≤ 1000000 ∧ -1000000 ≤ k) : rng1 [.int k] = .ok ((List.range k.toNat).map fun (j : Nat) => PyData.int (0 + (j : Int))) := by
  show (if -(4611686018427387904) ≤ k ∧ k < 4611686018427387904 then Out.ok (rngD 0 k.toNat) else .bad) = _
  rw [if_pos (by omega)]; rfl
theorem rng2_int {i j : Int} (h : (j ≤ 1000000 ∧ -1000000 ≤ j) ∧ i ≤ 1000000 ∧ -1000000 ≤ i) : rng2 [.int i, .int j] = .ok ((List.range (j - i).toNat).map fun (q : Nat) => PyData.int (i + (q : Int))) := by
  show (if -(4611686018427387904) ≤ i ∧ i < 4611686018427387904 ∧ -(4611686018427387904) ≤ j ∧ j < 4611686018427387904 then Out.ok (rngD i (j - i).toNat) else .bad) = _
  rw [if_pos (by omega)]; rfl
theorem it_lst (ds : List PyData) : itemsD (.list ds) = .ok ds := rfl
theorem it_tup (ds : List PyData) : itemsD (.tuple ds) = .ok ds := rfl
theorem it_eN (a : Nu) : itemsD (eN a) = .ok (a.map PyData.int) := rfl
theorem d_rep {x k : Int} (h : k ≤ 1000 ∧ -1000 ≤ k) : mulD (.tuple [.int x]) (.int k) = .ok ⟨.v, eN (List.replicate k.toNat x)⟩ := mulD_rep h
/-! lists of numbers -/
theorem eqvAll_eN : ∀ (a b : List Nu), PyData.eqvAll (a.map eN) (b.map eN) = decide (a = b)
  | [], [] => by simp [PyData.eqvAll]
  | [], _ :: _ => by simp [PyData.eqvAll]
  | _ :: _, [] => by simp [PyData.eqvAll]
  | x :: a, y :: b => by
    rw [List.map_cons, List.map_cons]
    unfold PyData.eqvAll
    rw [eqvAll_eN a b, eqv_eN]
    by_cases h : x = y
    · subst h; by_cases h2 : a = b
      · subst h2; simp
      · simp [h2]
    · simp [h]
theorem canLay_eN (a : Nu) : PyData.canLay0 (eN a) = true := by unfold eN PyData.canLay0; exact canLay_ints a
theorem depth_eN (a : Nu) : PyData.depth (eN a) ≤ 2 := by
  unfold eN PyData.depth; have := depth_ints a; omega
theorem canLayAll_eN : ∀ (a : List Nu), PyData.canLayAll0 (a.map eN) = true
  | [] => rfl
  | x :: a => by rw [List.map_cons]; unfold PyData.canLayAll0; rw [canLayAll_eN a, canLay_eN]; rfl
theorem depthAll_eN : ∀ (a : List Nu), PyData.depthAll (a.map eN) ≤ 2
  | [] => by simp [PyData.depthAll]
  | x :: a => by rw [List.map_cons]; unfold PyData.depthAll; have := depthAll_eN a; have := depth_eN x; omega
theorem shaped_L (a : List Nu) : SeqAt.shaped (.list (a.map eN)) = true := by
  unfold SeqAt.shaped
  have h1 : PyData.canLay0 (.list (a.map eN)) = true := by unfold PyData.canLay0; exact canLayAll_eN a
  have h2 := depthAll_eN a
  have h3 : PyData.depth (.list (a.map eN)) ≤ 64 := by unfold PyData.depth; omega
  rw [h1, decide_eq_true h3]; rfl
theorem shaped_Tp (a : List Nu) : SeqAt.shaped (.tuple (a.map eN)) = true := by
  unfold SeqAt.shaped
  have h1 : PyData.canLay0 (.tuple (a.map eN)) = true := by unfold PyData.canLay0; exact canLayAll_eN a
  have h2 := depthAll_eN a
  have h3 : PyData.depth (.tuple (a.map eN)) ≤ 64 := by unfold PyData.depth; omega
  rw [h1, decide_eq_true h3]; rfl
/-- lists of numbers of a field -/
def as {f : Int × Nu} (l : List (El f)) : List Nu := l.map El.a
theorem as_inj {f : Int × Nu} : ∀ {l l' : List (El f)}, as l = as l' → l = l'
  | [], [], _ => rfl
  | [], _ :: _, h => by cases h
  | _ :: _, [], h => by cases h
  | x :: l, y :: l', h => by
    unfold as at h
    rw [List.map_cons, List.map_cons] at h
    injection h with h1 h2
    rw [El.ext' h1, as_inj h2]
instance {f : Int × Nu} : DecidableEq (El f) := fun x y => if h : x.a = y.a then .isTrue (El.ext' h) else .isFalse fun e => h (by rw [e])
theorem el_as {f : Int × Nu} (l : List (El f)) : (l.map fun y => eN y.a) = (as l).map eN := by unfold as; rw [List.map_map]; rfl
theorem dec_as {f : Int × Nu} (l l' : List (El f)) : decide (as l = as l') = decide (l = l') := decide_eq_decide.mpr ⟨as_inj, fun h => by rw [h]⟩
theorem d_eqL {f : Int × Nu} (l l' : List (El f)) : eqD (.list (l.map fun y => eN y.a)) (.list (l'.map fun y => eN y.a)) = .ok ⟨.v, .bool (decide (l = l'))⟩ := by
  rw [el_as, el_as]; unfold eqD; rw [shaped_L, shaped_L]
  show boolR (PyData.eqvAll _ _) = _
  rw [eqvAll_eN, dec_as]; rfl
theorem d_neL {f : Int × Nu} (l l' : List (El f)) : neD (.list (l.map fun y => eN y.a)) (.list (l'.map fun y => eN y.a)) = .ok ⟨.v, .bool (!decide (l = l'))⟩ := by
  rw [el_as, el_as]; unfold neD; rw [shaped_L, shaped_L]
  show boolR (!PyData.eqvAll _ _) = _
  rw [eqvAll_eN, dec_as]; rfl
theorem d_eqT {f : Int × Nu} (l l' : List (El f)) : eqD (.tuple (l.map fun y => eN y.a)) (.tuple (l'.map fun y => eN y.a)) = .ok ⟨.v, .bool (decide (l = l'))⟩ := by
  rw [el_as, el_as]; unfold eqD; rw [shaped_Tp, shaped_Tp]
  show boolR (PyData.eqvAll _ _) = _
  rw [eqvAll_eN, dec_as]; rfl
theorem d_neT {f : Int × Nu} (l l' : List (El f)) : neD (.tuple (l.map fun y => eN y.a)) (.tuple (l'.map fun y => eN y.a)) = .ok ⟨.v, .bool (!decide (l = l'))⟩ := by
  rw [el_as, el_as]; unfold neD; rw [shaped_Tp, shaped_Tp]
  show boolR (!PyData.eqvAll _ _) = _
  rw [eqvAll_eN, dec_as]; rfl
theorem any_eN (b : Nu) : ∀ (l : List Nu), ((l.map eN).any fun z => PyData.eqv z (eN b)) = decide (b ∈ l)
  | [] => by simp
  | x :: l => by
    rw [List.map_cons, List.any_cons, any_eN b l, eqv_eN]
    by_cases h : x = b
    · subst h; simp
    · have : ¬ b = x := fun e => h e.symm
      simp [h, this]
theorem mem_as {f : Int × Nu} (x : El f) (l : List (El f)) : decide (x.a ∈ as l) = decide (x ∈ l) := decide_eq_decide.mpr ⟨fun h => by
  obtain ⟨y, hy, e⟩ := List.mem_map.mp h
  rw [← El.ext' e]; exact hy, fun h => List.mem_map.mpr ⟨x, h, rfl⟩⟩
theorem d_inL {f : Int × Nu} (x : El f) (l : List (El f)) : inD (eN x.a) (.list (l.map fun y => eN y.a)) = .ok ⟨.v, .bool (decide (x ∈ l))⟩ := by
  rw [el_as]
  show (if SeqAt.shaped (eN x.a) && SeqAt.shaped (.list ((as l).map eN)) then boolR (((as l).map eN).any fun z => PyData.eqv z (eN x.a)) else .bad) = _
  rw [shaped_L, shaped_eN, any_eN, mem_as]; rfl
theorem d_ninL {f : Int × Nu} (x : El f) (l : List (El f)) : notInD (eN x.a) (.list (l.map fun y => eN y.a)) = .ok ⟨.v, .bool (!decide (x ∈ l))⟩ := by
  rw [el_as]
  show (if SeqAt.shaped (eN x.a) && SeqAt.shaped (.list ((as l).map eN)) then boolR (!((as l).map eN).any fun z => PyData.eqv z (eN x.a)) else .bad) = _
  rw [shaped_L, shaped_eN, any_eN, mem_as]; rfl
theorem d_len {f : Int × Nu} (l : List (El f)) : lenD [.list (l.map fun y => eN y.a)] = .ok ⟨.v, .int (l.length : Int)⟩ := (len_lst _).trans (by rw [List.length_map])
theorem d_lenT {f : Int × Nu} (l : List (El f)) : lenD [.tuple (l.map fun y => eN y.a)] = .ok ⟨.v, .int (l.length : Int)⟩ := (len_tup _).trans (by rw [List.length_map])
end FM

namespace FM
open PySem FS L2

/-! FmW: calls on the numbers of a drawn field -/
theorem rowsT_num {p : Nat} : ∀ {n : Nat} {b : Nu}, b ∈ rowsT p n → b.length = n ∧ ∀ x ∈ b, 0 ≤ x ∧ x < (p : Int)
  | 0, b, h => by
    have : b = [] := by simpa [rowsT] using h
    subst this
    exact ⟨rfl, fun x hx => by cases hx⟩
  | n + 1, b, h => by
    unfold rowsT at h
    obtain ⟨r, hr, h⟩ := List.mem_flatMap.mp h
    obtain ⟨k, hk, rfl⟩ := List.mem_map.mp h
    obtain ⟨h1, h2⟩ := rowsT_num hr
    refine ⟨by simp [h1], fun x hx => ?_⟩
    rcases List.mem_append.mp hx with hx | hx
    · exact h2 x hx
    · have : x = (k : Int) := by simpa using hx
      have := List.mem_range.mp hk
      omega
theorem rowsT_len {p : Nat} : ∀ {n : Nat}, (rowsT p n).length = p ^ n
  | 0 => rfl
  | n + 1 => by
    unfold rowsT
    rw [List.length_flatMap]
    have : ∀ r : Nu, ((List.range p).map fun (k : Nat) => r ++ [(k : Int)]).length = p := fun r => by simp
    simp only [this]
    rw [List.map_const', List.sum_replicate_nat, rowsT_len, Nat.pow_succ]
theorem len_of {ru : List Nu} {n : Nat} (h : (ru.all fun r => r.length == n) = true) {r : Nu} (hr : r ∈ ru) : r.length = n := eq_of_beq (List.all_eq_true.mp h r hr)
section
variable {f : Int × Nu} (D : Drawn f)
include D
theorem Drawn.pn : ((f.1.toNat : Nat) : Int) = f.1 := Int.toNat_of_nonneg (by have := D.good.p2; omega)
/-- all numbers, rising -/
def allE (f : Int × Nu) (D : Drawn f) : List (El f) := (rowsT f.1.toNat f.2.length).attach.map fun r => ⟨r.1, by
  obtain ⟨h1, h2⟩ := rowsT_num r.2
  refine ⟨h1, fun x hx => ?_⟩
  have := h2 x hx
  rw [D.pn] at this
  exact this⟩
theorem allE_as : as (allE f D) = rowsT f.1.toNat f.2.length := by
  unfold as allE
  rw [List.map_map]
  exact List.attach_map_subtype_val _
theorem mem_allE (x : El f) : x ∈ allE f D := by
  have h : x.a ∈ as (allE f D) := by
    rw [allE_as]
    exact mem_rowsT x.h.1 (by rw [D.pn]; exact x.h.2)
  obtain ⟨y, hy, e⟩ := List.mem_map.mp h
  rw [← El.ext' e]; exact hy
theorem C_checked : m_checked [eF f] = .ok ⟨.v, eF f⟩ := D.good.ck
end

end FM

namespace FM
open PySem FS L2
local macro_rules | `(tactic| walk_at "f") => `(tactic| first
  | with_reducible exact L_plus ‹Drawn _› _ _ | with_reducible exact L_times ‹Drawn _› _ _ | with_reducible exact C_oneL ‹Drawn _› | with_reducible exact C_noughtL ‹Drawn _› | with_reducible exact C_nought ‹Drawn _› | with_reducible exact C_whole ‹Drawn _› _
  | with_reducible exact E_sum ‹Drawn _› _ _ | with_reducible exact E_prod ‹Drawn _› _ _ | with_reducible exact C_less ‹Drawn _› _ _ | with_reducible exact C_plus ‹Drawn _› _ _ | with_reducible exact C_minus ‹Drawn _› _ _ | with_reducible exact C_times ‹Drawn _› _ _
  | with_reducible exact C_checked ‹Drawn _› | with_reducible exact C_look1 ‹Drawn _› _ | with_reducible exact C_look2 ‹Drawn _› _ _ | with_reducible exact C_size_of ‹Drawn _›
  | with_reducible exact e_is_within _ _ _)
local macro_rules | `(tactic| walk_at "d") => `(tactic| first
  | with_reducible exact ixF0 _ | with_reducible exact ixF1 _ | with_reducible exact addD_int _ _ | with_reducible exact subD_int _ _ | with_reducible exact negD_int _
  | with_reducible exact len_eN _ | with_reducible exact d_len _ | with_reducible exact d_lenT _ | with_reducible exact len_tup _ | with_reducible exact len_lst _ | with_reducible exact tup_lst _ | with_reducible exact lst_tup _
  | with_reducible exact d_eqN _ _ | with_reducible exact d_neN _ _ | with_reducible exact d_eqI _ _ | with_reducible exact d_neI _ _ | with_reducible exact d_lt _ _ | with_reducible exact d_le _ _ | with_reducible exact d_gt _ _ | with_reducible exact d_ge _ _
  | with_reducible exact d_eqL _ _ | with_reducible exact d_neL _ _ | with_reducible exact d_eqT _ _ | with_reducible exact d_neT _ _ | with_reducible exact d_inL _ _ | with_reducible exact d_ninL _ _
  | with_reducible exact it_lst _ | with_reducible exact it_tup _ | with_reducible exact it_eN _
  | ((with_reducible apply modD_int); omega) | ((with_reducible apply fdivD_int); omega) | ((with_reducible refine mulD_int (.inl ?_)); omega) | ((with_reducible refine mulD_int (.inr ?_)); omega)
  | ((with_reducible apply rng1_nat); omega) | ((with_reducible apply rng1_int); omega) | ((with_reducible apply rng2_int); omega)
  | ((with_reducible apply d_rep); omega) | ((with_reducible apply w_maplen); first | with_reducible assumption | omega | ((with_reducible apply w_rlen); omega)))
local macro_rules | `(tactic| walk_at "no") => `(tactic| first
  | with_reducible exact rfl | with_reducible assumption
  | ((with_reducible apply dT); first | with_reducible exact rfl | with_reducible assumption | omega)
  | ((with_reducible apply dF); first | with_reducible assumption | omega)
  | ((with_reducible apply dNT); first | with_reducible exact rfl | with_reducible assumption | omega)
  | ((with_reducible apply dNF); first | with_reducible assumption | omega))
local macro_rules | `(tactic| walk_at "ev") => `(tactic| repeat' first
  | with_reducible exact v_c | with_reducible exact v_A0 | with_reducible exact v_O0 | with_reducible exact w_yes | with_reducible exact w_next
  | ((with_reducible apply w_eq); with_reducible assumption)
  | ((with_reducible apply v_var); exact rfl) | ((with_reducible apply v_own); exact rfl)
  | with_reducible apply v_A | with_reducible apply v_m2 | with_reducible apply w_F | with_reducible apply w_B1 | with_reducible apply w_B2 | with_reducible apply v_B | with_reducible apply v_tB | with_reducible apply v_m1
  | with_reducible exact stR_v | with_reducible exact stR_f | with_reducible exact s_0 | with_reducible apply s_c
  | ((with_reducible apply w_len); exact rfl) | ((with_reducible apply w_ble); exact rfl) | ((with_reducible apply w_own); exact rfl)
  | with_reducible apply w_Tu | with_reducible apply w_L
  | with_reducible apply v_Sl | with_reducible apply v_O1 | with_reducible apply v_iV | with_reducible apply w_iB
  | with_reducible apply v_not | with_reducible apply v_T | with_reducible apply w_or | with_reducible apply w_and
  | with_reducible apply w_vAnd | with_reducible apply w_vNot | with_reducible apply w_vOr
  | with_reducible apply w_seq | with_reducible apply w_if | with_reducible apply w_mif | with_reducible apply w_asg | with_reducible apply w_ret | with_reducible apply v_expr
  | ((with_reducible apply w_app); exact rfl) | with_reducible apply w_par | with_reducible apply w_asgT | with_reducible apply w_frz | ((with_reducible apply w_aug); exact rfl)
  | with_reducible apply putR_v | with_reducible apply putR_f | with_reducible exact ret_v | with_reducible exact ret_f
  | ((with_reducible apply ite_no); walk_at "no") | ((with_reducible apply ite_yes); walk_at "no")
  | ((with_reducible apply w_retO); exact rfl) | with_reducible exact retS_v | with_reducible exact retS_o
  | walk_at "f" | walk_at "d"
  | ((with_reducible apply w_set); (simp only [List.set_cons_zero, List.set_cons_succ]; try exact rfl))
  | ((with_reducible apply w_start); (simp only [startE, List.map, List.length, List.replicate, List.cons_append, List.nil_append, Nat.reduceSub, Nat.reduceAdd]; try exact rfl))
  | ((with_reducible apply w_frzn); (simp only [frz, List.getElem?_cons_zero, List.getElem?_cons_succ, List.set_cons_zero, List.set_cons_succ]; try exact rfl))
  | ((with_reducible apply w_wipe); (simp only [wipeA, List.set_cons_zero, List.set_cons_succ]; try exact rfl))
  | ((with_reducible apply w_put); (simp only [Tg.put, putAll, List.set_cons_zero, List.set_cons_succ]; try exact rfl))
  | with_reducible exact truB _ | with_reducible exact rfl)
local macro_rules | `(tactic| walk_at "go") => `(tactic| repeat ((with_reducible apply w_seq); (focus (walk_at "ev"; done))))

/-! FmX: all rows of figures; sizes -/
/-- a slot that may be wiped -/
inductive nown : Sv → Prop
  | un : nown .un
  | val (d : PyData) : nown (.val d)
  | exc (c : Ex) : nown (.exc c)
def nxt (p : Nat) (r : Nu) : List Nu := (List.range p).map fun (k : Nat) => r ++ [(k : Int)]
theorem rows_more {p : Nat} (hp : p ≤ 1000) {s1 s2 s3 s4 t : Sv} {r : Nu} (hr : r.length ≤ 1000) (ht : nown t) : mLC (iB rng1 (mA (mV 0) mA0)) (.nm 6) bYes (m2 addD (mV 5) (mTu (mA (mV 6) mA0))) [6] [.val (.int (p : Int)), s1, s2, s3, s4, .val (eN r), t] = .ok ⟨.f, .list ((nxt p r).map eN)⟩ := by
  have c := compM_map (T := .nm 6) (c := bYes) (e := m2 addD (mV 5) (mTu (mA (mV 6) mA0))) (α := [.val (.int (p : Int)), s1, s2, s3, s4, .val (eN r), .un]) (fun (j : Nat) => PyData.int (0 + (j : Int))) (fun (j : Nat) => eN (r ++ [(j : Int)])) (List.range p) fun j _ => by
    refine ⟨_, rfl, rfl, _, v_m2 (v_var rfl) (v_Tu (v_A (v_var rfl) v_A0) rfl rfl) (addD_tup (a := r) (b := [0 + (j : Int)]) (len_line (by simp; omega))), ?_⟩
    rw [Int.zero_add]; rfl
  have e : ((nxt p r).map eN) = (List.range p).map (fun (j : Nat) => eN (r ++ [(j : Int)])) := by unfold nxt; rw [List.map_map]; rfl
  rw [e]
  have ho : ownFree [.val (.int (p : Int)), s1, s2, s3, s4, .val (eN r), t] [6] = true := by
    cases t with
    | own ds => cases ht
    | _ => rfl
  refine w_LC (ds := (List.range p).map fun (j : Nat) => PyData.int (0 + (j : Int))) ?_ ?_ ho ?_ c
  all_goals walk_at "ev"
theorem len_flat (p : Nat) : ∀ l : List Nu, (l.flatMap (nxt p)).length = l.length * p
  | [] => by simp
  | r :: l => by rw [List.flatMap_cons, List.length_append, len_flat p l]; unfold nxt; rw [List.length_map, List.length_range, List.length_cons, Nat.succ_mul]; omega
theorem rowsT_succ (p n : Nat) : rowsT p (n + 1) = (rowsT p n).flatMap (nxt p) := rfl
theorem pow_le' {p a b : Nat} (hp : 1 ≤ p) (h : a ≤ b) : p ^ a ≤ p ^ b := Nat.pow_le_pow_right hp h
theorem e_rows_of {p n : Nat} (hp1 : 1 ≤ p) (hp : p ≤ 1000) (hn1 : 1 ≤ n) (hn : n ≤ 1000) (hs : p ^ n ≤ 1000) : m_rows_of [.int (p : Int), .int (n : Int)] = .ok ⟨.v, .list ((rowsT p n).map eN)⟩ := by
  have inner : ∀ (k : Nat) (l : List Nu), k ≤ 1000 → (∀ r ∈ l, r.length = k) → l.length * p ≤ 1000 → ∀ (s3 t5 t6 : Sv), nown t6 → ∃ α', forM (.nm 5) (sExt 4 (mLC (iB rng1 (mA (mV 0) mA0)) (.nm 6) bYes (m2 addD (mV 5) (mTu (mA (mV 6) mA0))) [6])) (l.map eN) [.val (.int (p : Int)), .val (.int (n : Int)), .val (.list (l.map eN)), s3, .own [], t5, t6] = .nx α' ∧ ∃ t5 t6, nown t6 ∧ α' = [.val (.int (p : Int)), .val (.int (n : Int)), .val (.list (l.map eN)), s3, .own ((l.flatMap (nxt p)).map eN), t5, t6] := by
    intro k l hk hl hlen s3 t5 t6 h6
    refine forM_run eN l (fun pre α => ∃ t5 t6, nown t6 ∧ α = [.val (.int (p : Int)), .val (.int (n : Int)), .val (.list (l.map eN)), s3, .own ((pre.flatMap (nxt p)).map eN), t5, t6]) _ ⟨t5, t6, h6, rfl⟩ fun pre r α ⟨t5, t6, h6, e⟩ ⟨s, hs⟩ => ?_
    subst e
    have hr : r.length = k := hl r (by rw [hs]; simp)
    have m := rows_more (s1 := .val (.int (n : Int))) (s2 := .val (.list (l.map eN))) (s3 := s3) (s4 := .own ((pre.flatMap (nxt p)).map eN)) (t := t6) hp (r := r) (by omega) h6
    refine ⟨_, _, rfl, w_ext rfl m ?_ rfl, .val (eN r), t6, h6, ?_⟩
    · rw [List.length_map, List.length_map, len_flat]
      have : (nxt p r).length = p := by unfold nxt; simp
      rw [this]
      have h1 : (pre.length + 1) ≤ l.length := by rw [hs]; simp
      have h2 : (pre.length + 1) * p ≤ l.length * p := Nat.mul_le_mul_right p h1
      rw [Nat.succ_mul] at h2
      omega
    · show [_, _, _, _, Sv.own _, _, _] = _
      rw [List.flatMap_append, List.map_append]
      simp
  have outer := forM_run (T := .nm 3) (b := mSeq (sAsg 4 (mL mA0)) (mFrz 2 (mSeq (sFor (iV (mV 2)) (.nm 5) (sExt 4 (mLC (iB rng1 (mA (mV 0) mA0)) (.nm 6) bYes (m2 addD (mV 5) (mTu (mA (mV 6) mA0))) [6]))) (mFrz 4 (sAsg 2 (mV 4)))))) (fun (j : Nat) => PyData.int (0 + (j : Int))) (List.range n)
    (fun pre α => ∃ s2 s3 s4 t5 t6, nown t6 ∧ ((pre = [] ∧ s2 = .own [.tuple []]) ∨ (pre ≠ [] ∧ s2 = .val (.list ((rowsT p pre.length).map eN)))) ∧ α = [.val (.int (p : Int)), .val (.int (n : Int)), s2, s3, s4, t5, t6])
    [.val (.int (p : Int)), .val (.int (n : Int)), .own [.tuple []], .un, .un, .un, .un] ⟨_, _, _, _, _, .un, .inl ⟨rfl, rfl⟩, rfl⟩ fun pre k α ⟨s2, s3, s4, t5, t6, h6, h2, e⟩ ⟨s, hs'⟩ => by
      subst e
      have hkl : pre.length < n := by
        have := congrArg List.length hs'
        rw [List.length_range, List.length_append, List.length_cons] at this
        omega
      have hz : (rowsT p pre.length).length * p ≤ 1000 := by
        rw [rowsT_len, ← Nat.pow_succ]
        exact Nat.le_trans (pow_le' hp1 hkl) hs
      obtain ⟨α', hα, u5, u6, hu, e⟩ := inner pre.length (rowsT p pre.length) (by omega) (fun r hr => (rowsT_num hr).1) hz (.val (.int (0 + (k : Int)))) t5 t6 h6
      subst e
      refine ⟨_, _, rfl, (v_seq (v_asgF (v_L v_A0 rfl rfl))).trans ?_, .val (.list ((rowsT p (pre ++ [k]).length).map eN)), .val (.int (0 + (k : Int))), .val (.list ((rowsT p (pre ++ [k]).length).map eN)), u5, u6, hu, .inr ⟨by simp, rfl⟩, rfl⟩
      have hf : frz 2 [.val (.int (p : Int)), .val (.int (n : Int)), s2, .val (.int (0 + (k : Int))), .own [], t5, t6] = [.val (.int (p : Int)), .val (.int (n : Int)), .val (.list ((rowsT p pre.length).map eN)), .val (.int (0 + (k : Int))), .own [], t5, t6] := by
        rcases h2 with ⟨h, rfl⟩ | ⟨h, rfl⟩
        · subst h; rfl
        · rfl
      refine w_frz hf (w_seq (w_for (v_iV (v_var rfl) rfl rfl) hα) (w_frz rfl ?_))
      rw [List.length_append, List.length_singleton, rowsT_succ]
      exact v_asg (v_var rfl)
  obtain ⟨α', h1, s2, s3, s4, t5, t6, h6, h2, e⟩ := outer
  subst e
  rw [List.length_range] at h2
  have h2 : s2 = .val (.list ((rowsT p n).map eN)) := by
    rcases h2 with ⟨h, _⟩ | ⟨_, h⟩
    · have := congrArg List.length h
      rw [List.length_range] at this
      simp at this; omega
    · exact h
  subst h2
  exact v_body ((v_seq (v_asgF (v_L (v_A (v_Tu v_A0 rfl rfl) v_A0) rfl rfl))).trans ((v_seq ((v_for (v_iB (v_A (v_var rfl) v_A0) rfl (rng1_nat (by omega)))).trans h1)).trans (v_retV rfl)))
section
variable {f : Int × Nu} (D : Drawn f)
include D
theorem rows_all : ((rowsT f.1.toNat f.2.length).map eN) = (allE f D).map fun y => eN y.a := by rw [← allE_as D, el_as]
theorem C_rowsL : m__law_rows [.int f.1, .int (f.2.length : Int)] = .ok ⟨.v, .list ((allE f D).map fun y => eN y.a)⟩ := by
  rw [← rows_all D]
  cases D with
  | k_2_2 h =>
    show m__law_rows [.int ((2 : Nat) : Int), .int ((List.length _ : Nat) : Int)] = .ok ⟨.v, .list ((rowsT 2 (List.length _)).map eN)⟩
    rw [len_of (n := 2) (by decide) h]
    exact kind_2_2.rows
  | k_2_3 h =>
    show m__law_rows [.int ((2 : Nat) : Int), .int ((List.length _ : Nat) : Int)] = .ok ⟨.v, .list ((rowsT 2 (List.length _)).map eN)⟩
    rw [len_of (n := 3) (by decide) h]
    exact kind_2_3.rows
  | k_3_2 h =>
    show m__law_rows [.int ((3 : Nat) : Int), .int ((List.length _ : Nat) : Int)] = .ok ⟨.v, .list ((rowsT 3 (List.length _)).map eN)⟩
    rw [len_of (n := 2) (by decide) h]
    exact kind_3_2.rows
  | k_2_4 h =>
    show m__law_rows [.int ((2 : Nat) : Int), .int ((List.length _ : Nat) : Int)] = .ok ⟨.v, .list ((rowsT 2 (List.length _)).map eN)⟩
    rw [len_of (n := 4) (by decide) h]
    exact kind_2_4.rows
  | k_5_1 h =>
    show m__law_rows [.int ((5 : Nat) : Int), .int ((List.length _ : Nat) : Int)] = .ok ⟨.v, .list ((rowsT 5 (List.length _)).map eN)⟩
    rw [len_of (n := 1) (by decide) h]
    exact kind_5_1.rows
  | k_3_1 h =>
    show m__law_rows [.int ((3 : Nat) : Int), .int ((List.length _ : Nat) : Int)] = .ok ⟨.v, .list ((rowsT 3 (List.length _)).map eN)⟩
    rw [len_of (n := 1) (by decide) h]
    exact kind_3_1.rows
  | k_5_2 h =>
    show m__law_rows [.int ((5 : Nat) : Int), .int ((List.length _ : Nat) : Int)] = .ok ⟨.v, .list ((rowsT 5 (List.length _)).map eN)⟩
    rw [len_of (n := 2) (by decide) h]
    exact kind_5_2.rows
  | k_3_3 h =>
    show m__law_rows [.int ((3 : Nat) : Int), .int ((List.length _ : Nat) : Int)] = .ok ⟨.v, .list ((rowsT 3 (List.length _)).map eN)⟩
    rw [len_of (n := 3) (by decide) h]
    exact kind_3_3.rows
  | k_2_1 h =>
    show m__law_rows [.int ((2 : Nat) : Int), .int ((List.length _ : Nat) : Int)] = .ok ⟨.v, .list ((rowsT 2 (List.length _)).map eN)⟩
    rw [len_of (n := 1) (by decide) h]
    exact kind_2_1.rows
  | k_7_1 h =>
    show m__law_rows [.int ((7 : Nat) : Int), .int ((List.length _ : Nat) : Int)] = .ok ⟨.v, .list ((rowsT 7 (List.length _)).map eN)⟩
    rw [len_of (n := 1) (by decide) h]
    exact kind_7_1.rows
  | k_7_2 h =>
    show m__law_rows [.int ((7 : Nat) : Int), .int ((List.length _ : Nat) : Int)] = .ok ⟨.v, .list ((rowsT 7 (List.length _)).map eN)⟩
    rw [len_of (n := 2) (by decide) h]
    exact kind_7_2.rows
  | k_2_5 h =>
    show m__law_rows [.int ((2 : Nat) : Int), .int ((List.length _ : Nat) : Int)] = .ok ⟨.v, .list ((rowsT 2 (List.length _)).map eN)⟩
    rw [len_of (n := 5) (by decide) h]
    exact kind_2_5.rows
  | k_2_6 h =>
    show m__law_rows [.int ((2 : Nat) : Int), .int ((List.length _ : Nat) : Int)] = .ok ⟨.v, .list ((rowsT 2 (List.length _)).map eN)⟩
    rw [len_of (n := 6) (by decide) h]
    exact rows_2_6
  | k_3_4 h =>
    show m__law_rows [.int ((3 : Nat) : Int), .int ((List.length _ : Nat) : Int)] = .ok ⟨.v, .list ((rowsT 3 (List.length _)).map eN)⟩
    rw [len_of (n := 4) (by decide) h]
    exact rows_3_4
end

/-! FmY: raised numbers, lesser fields; try -/
section
variable {f : Int × Nu} (D : Drawn f)
include D
end
theorem w_forc {α β γ : En} {T : Tg} {s : MS} {d : PyData} {ds : List PyData} {o : SO} (h : T.put d α = some β) (h1 : s β = .nx γ) (h2 : forM T s ds γ = o) : forM T s (d :: ds) α = o := by
  show (match T.put d α with | some α' => (s α').bind (forM T s ds) | none => .bad) = _
  rw [h]
  show (s β).bind _ = _
  rw [h1]; exact h2
theorem w_for0 {α : En} {T : Tg} {s : MS} : forM T s [] α = .nx α := rfl
theorem d_ix0 (a : PyData) (l : List PyData) : ixD (.list (a :: l)) (.int 0) = .ok ⟨.v, a⟩ := ixl_of (atI_nat (j := 0) rfl)
theorem d_ix1 (a b : PyData) (l : List PyData) : ixD (.list (a :: b :: l)) (.int 1) = .ok ⟨.v, b⟩ := ixl_of (atI_nat (j := 1) rfl)
theorem d_ixt0 (a : PyData) (l : List PyData) : ixD (.tuple (a :: l)) (.int 0) = .ok ⟨.v, a⟩ := ix_of (atI_nat (j := 0) rfl)
theorem d_ixt1 (a b : PyData) (l : List PyData) : ixD (.tuple (a :: b :: l)) (.int 1) = .ok ⟨.v, b⟩ := ix_of (atI_nat (j := 1) rfl)
theorem d_tt : eqD (.list [.bool true, .bool true]) (.list [.bool true, .bool true]) = .ok ⟨.v, .bool true⟩ := by rfl
theorem d_ntt : neD (.list [.bool true, .bool true]) (.list [.bool true, .bool true]) = .ok ⟨.v, .bool false⟩ := by rfl
/-- one turn of a for -/
def Turn (T : Tg) (b : MS) (d : PyData) (P : En → Prop) (α : En) : Prop := ∃ β γ, T.put d α = some β ∧ b β = .nx γ ∧ P γ
theorem turn {T : Tg} {b : MS} {d : PyData} {P : En → Prop} {α β γ : En} (h : T.put d α = some β) (h1 : b β = .nx γ) (h2 : P γ) : Turn T b d P α := ⟨β, γ, h, h1, h2⟩
theorem for_go {τ : Type} {T : Tg} {b : MS} (enc : τ → PyData) (items : List τ) (I : List τ → En → Prop) {α : En} (h0 : I [] α) (hs : ∀ (p : List τ) x α, I p α → (∃ s, items = p ++ x :: s) → Turn T b (enc x) (I (p ++ [x])) α) : ∃ α', forM T b (items.map enc) α = .nx α' ∧ I items α' :=
  forM_run enc items I α h0 hs
theorem w_forE {P : En → Prop} {it : MI} {T : Tg} {b : MS} {α : En} {ds : List PyData} (h : it α = .ok ds) (h1 : ∃ β, forM T b ds α = .nx β ∧ P β) : ∃ β, sFor it T b α = .nx β ∧ P β := by
  obtain ⟨β, h1, p⟩ := h1
  exact ⟨β, w_for h h1, p⟩
theorem at_pre {k j : Nat} {pre s : List Nat} (h : List.range k = pre ++ j :: s) : j < k ∧ pre.length = j := by
  have h1 : (List.range k)[pre.length]? = some j := by rw [h]; simp
  rw [List.getElem?_eq_some_iff] at h1
  obtain ⟨h3, h2⟩ := h1
  rw [List.length_range] at h3
  have : pre.length = j := by simpa using h2
  omega
theorem ret_b {k : Bool} (h : k = true) : retR ⟨.v, .bool k⟩ = .rt ⟨.v, .bool true⟩ := by subst h; rfl

end FM

namespace FM
open PySem FS L2
local macro_rules | `(tactic| walk_at "f") => `(tactic| first
  | with_reducible exact L_plus ‹Drawn _› _ _ | with_reducible exact L_times ‹Drawn _› _ _ | with_reducible exact C_oneL ‹Drawn _› | with_reducible exact C_noughtL ‹Drawn _› | with_reducible exact C_nought ‹Drawn _› | with_reducible exact C_whole ‹Drawn _› _
  | with_reducible exact E_sum ‹Drawn _› _ _ | with_reducible exact E_prod ‹Drawn _› _ _ | with_reducible exact C_less ‹Drawn _› _ _ | with_reducible exact C_plus ‹Drawn _› _ _ | with_reducible exact C_minus ‹Drawn _› _ _ | with_reducible exact C_times ‹Drawn _› _ _
  | with_reducible exact C_checked ‹Drawn _› | with_reducible exact C_look1 ‹Drawn _› _ | with_reducible exact C_look2 ‹Drawn _› _ _ | with_reducible exact C_size_of ‹Drawn _›
  | with_reducible exact C_sizeL ‹Drawn _› | with_reducible exact C_numbers ‹Drawn _› | with_reducible exact C_all ‹Drawn _› | with_reducible exact C_rowsL ‹Drawn _›
  | with_reducible exact e_is_within _ _ _)
local macro_rules | `(tactic| walk_at "g") => `(tactic| first
  | with_reducible exact C_raised1 ‹Drawn _› _ | with_reducible exact C_raisedL1 ‹Drawn _› _
  | with_reducible exact E_trace ‹Drawn _› _ (by assumption) (by assumption) | with_reducible exact E_norm ‹Drawn _› _ (by assumption) (by assumption)
  | with_reducible exact C_lesser ‹Drawn _› (by assumption) (by assumption) | with_reducible exact E_look_part ‹Drawn _› (by assumption) (by assumption) | with_reducible exact E_look_part0 ‹Drawn _› (by assumption) (by assumption)
  | with_reducible exact C_raisedN ‹Drawn _› _ _ | with_reducible exact C_raisedM ‹Drawn _› _ (by omega) | with_reducible exact C_raisedLN ‹Drawn _› _ (by omega) | with_reducible exact C_powerLN ‹Drawn _› _ (by omega)
  | with_reducible exact C_raisedLZ ‹Drawn _› _ (by omega) (by omega) | with_reducible exact C_powerLZ ‹Drawn _› _ (by omega) (by omega) | with_reducible exact C_raisedZ ‹Drawn _› _ (by omega) | with_reducible exact C_raisedMZ ‹Drawn _› _ (by omega) (by omega))
local macro_rules | `(tactic| walk_at "d") => `(tactic| first
  | with_reducible exact ixF0 _ | with_reducible exact ixF1 _ | with_reducible exact addD_int _ _ | with_reducible exact subD_int _ _ | with_reducible exact negD_int _
  | with_reducible exact len_eN _ | with_reducible exact d_len _ | with_reducible exact d_lenT _ | with_reducible exact len_tup _ | with_reducible exact len_lst _ | with_reducible exact tup_lst _ | with_reducible exact lst_tup _
  | with_reducible exact d_eqN _ _ | with_reducible exact d_neN _ _ | with_reducible exact d_eqI _ _ | with_reducible exact d_neI _ _ | with_reducible exact d_lt _ _ | with_reducible exact d_le _ _ | with_reducible exact d_gt _ _ | with_reducible exact d_ge _ _
  | with_reducible exact d_eqL _ _ | with_reducible exact d_neL _ _ | with_reducible exact d_eqT _ _ | with_reducible exact d_neT _ _ | with_reducible exact d_inL _ _ | with_reducible exact d_ninL _ _
  | with_reducible exact d_ix0 _ _ | with_reducible exact d_ix1 _ _ _ | with_reducible exact d_ixt0 _ _ | with_reducible exact d_ixt1 _ _ _ | with_reducible exact d_tt | with_reducible exact d_ntt
  | with_reducible exact it_lst _ | with_reducible exact it_tup _ | with_reducible exact it_eN _
  | ((with_reducible apply modD_int); omega) | ((with_reducible apply fdivD_int); omega) | ((with_reducible refine mulD_int (.inl ?_)); omega) | ((with_reducible refine mulD_int (.inr ?_)); omega)
  | ((with_reducible apply rng1_nat); omega) | ((with_reducible apply rng1_int); omega) | ((with_reducible apply rng2_int); omega)
  | ((with_reducible apply d_rep); omega) | ((with_reducible apply w_maplen); first | with_reducible assumption | omega | ((with_reducible apply w_rlen); omega)))
local macro_rules | `(tactic| walk_at "no") => `(tactic| first
  | with_reducible exact rfl | with_reducible assumption
  | ((with_reducible apply dT); first | with_reducible exact rfl | with_reducible assumption | omega)
  | ((with_reducible apply dF); first | with_reducible assumption | omega)
  | ((with_reducible apply dNT); first | with_reducible exact rfl | with_reducible assumption | omega)
  | ((with_reducible apply dNF); first | with_reducible assumption | omega))
local macro_rules | `(tactic| walk_at "ev") => `(tactic| repeat' first
  | with_reducible exact v_c | with_reducible exact v_A0 | with_reducible exact v_O0 | with_reducible exact w_yes | with_reducible exact w_next
  | ((with_reducible apply w_eq); with_reducible assumption)
  | ((with_reducible apply v_var); exact rfl) | ((with_reducible apply v_own); exact rfl)
  | with_reducible apply v_A | with_reducible apply v_m2 | with_reducible apply w_F | with_reducible apply w_B1 | with_reducible apply w_B2 | with_reducible apply v_B | with_reducible apply v_tB | with_reducible apply v_m1
  | with_reducible exact stR_v | with_reducible exact stR_f | with_reducible exact s_0 | with_reducible apply s_c
  | ((with_reducible apply w_len); exact rfl) | ((with_reducible apply w_ble); exact rfl) | ((with_reducible apply w_own); exact rfl)
  | with_reducible apply w_Tu | with_reducible apply w_L
  | with_reducible apply v_Sl | with_reducible apply v_O1 | with_reducible apply v_iV | with_reducible apply w_iB
  | with_reducible apply v_not | with_reducible apply v_T | with_reducible apply w_or | with_reducible apply w_and
  | with_reducible apply w_vAnd | with_reducible apply w_vNot | with_reducible apply w_vOr
  | with_reducible apply w_seq | with_reducible apply w_if | with_reducible apply w_mif | with_reducible apply w_asg | with_reducible apply w_ret | with_reducible apply v_expr
  | ((with_reducible apply w_app); exact rfl) | with_reducible apply w_par | with_reducible apply w_asgT | with_reducible apply w_frz | ((with_reducible apply w_aug); exact rfl)
  | with_reducible apply putR_v | with_reducible apply putR_f | with_reducible exact ret_v | with_reducible exact ret_f | ((with_reducible apply ret_b); walk_at "no")
  | ((with_reducible apply ite_no); walk_at "no") | ((with_reducible apply ite_yes); walk_at "no")
  | ((with_reducible apply w_retO); exact rfl) | with_reducible exact retS_v | with_reducible exact retS_o
  | walk_at "f" | walk_at "d" | walk_at "g"
  | ((with_reducible apply w_set); (simp only [List.set_cons_zero, List.set_cons_succ]; try exact rfl))
  | ((with_reducible apply w_start); (simp only [startE, List.map, List.length, List.replicate, List.cons_append, List.nil_append, Nat.reduceSub, Nat.reduceAdd]; try exact rfl))
  | ((with_reducible apply w_frzn); (simp only [frz, List.getElem?_cons_zero, List.getElem?_cons_succ, List.set_cons_zero, List.set_cons_succ]; try exact rfl))
  | ((with_reducible apply w_wipe); (simp only [wipeA, List.set_cons_zero, List.set_cons_succ]; try exact rfl))
  | ((with_reducible apply w_put); (simp only [Tg.put, putAll, List.set_cons_zero, List.set_cons_succ]; try exact rfl))
  | with_reducible exact truB _ | with_reducible exact rfl)
local macro_rules | `(tactic| walk_at "go") => `(tactic| repeat first | ((with_reducible apply w_seq); (focus (walk_at "ev"; done))) | ((with_reducible apply w_frz); (focus (walk_at "ev"; done))))
local macro_rules | `(tactic| walk_at "un") => `(tactic| ((with_reducible apply w_for); (focus (walk_at "ev"; done)); (repeat ((with_reducible apply w_forc); (focus (walk_at "ev"; done)); (focus (walk_at "ev"; done)))); with_reducible exact w_for0))

/-! FmZ: how often a number is to be multiplied to be 1 -/
section
variable {f : Int × Nu} (D : Drawn f)
/-- the turns of a number -/
structure IsOrd (x : El f) (o : Nat) : Prop where
  pos : 1 ≤ o
  one : El.pow D.fd x o = El.whl D.fd 1
  least : ∀ k, 1 ≤ k → k < o → El.pow D.fd x k ≠ El.whl D.fd 1
theorem least_ex {p : Nat → Prop} : ∀ n, p n → ∃ k, k ≤ n ∧ p k ∧ ∀ j, j < k → ¬ p j := by
  intro n
  induction n using Nat.strongRecOn with
  | ind n ih =>
    intro h
    by_cases hx : ∃ j, j < n ∧ p j
    · obtain ⟨j, hj, hp⟩ := hx
      obtain ⟨k, h1, h2, h3⟩ := ih j hj hp
      exact ⟨k, by omega, h2, h3⟩
    · exact ⟨n, Nat.le_refl n, h, fun j hj hp => hx ⟨j, hj, hp⟩⟩
theorem ord_ex {x : El f} (h0 : x.a ≠ zer f) : ∃ o, IsOrd D x o := by
  have b := siz_bd D.good
  obtain ⟨k, h1, h2, h3⟩ := least_ex (p := fun k => 1 ≤ k ∧ El.pow D.fd x k = El.whl D.fd 1) (sizA f - 1) ⟨by omega, D.fermat x h0⟩
  exact ⟨k, h2.1, h2.2, fun j hj hk e => h3 j hk ⟨hj, e⟩⟩
variable {D}
theorem IsOrd.mul {x : El f} {o : Nat} (h : IsOrd D x o) (q : Nat) : El.pow D.fd x (o * q) = El.whl D.fd 1 := by rw [El.pow_mul, h.one, El.one_pow]
theorem IsOrd.dvd {x : El f} {o : Nat} (h : IsOrd D x o) (k : Nat) : El.pow D.fd x k = El.whl D.fd 1 ↔ o ∣ k := by
  constructor
  · intro e
    have hk : k = o * (k / o) + k % o := (Nat.div_add_mod k o).symm
    rw [hk, El.pow_add, h.mul, El.one_mul] at e
    by_cases hr : k % o = 0
    · exact Nat.dvd_of_mod_eq_zero hr
    · exact absurd e (h.least _ (by omega) (Nat.mod_lt _ h.pos))
  · rintro ⟨q, rfl⟩
    exact h.mul q
theorem IsOrd.ne {x : El f} {o : Nat} (h : IsOrd D x o) : x.a ≠ zer f := fun e => by
  have hx := D.pow_zero o (by have := h.pos; omega) x e
  rw [h.one] at hx
  have : (El.whl D.fd 1).a = zer f := by rw [hx]; exact e
  rw [zer_whl D.fd] at this
  have p2 := D.good.p2
  have : (1 : Int) % f.1 = 0 % f.1 := by injection this
  rw [Int.emod_eq_of_lt (by omega) (by omega), Int.zero_emod] at this
  omega
/-- what tells that it is all turns -/
theorem ord_of {x : El f} {d : Nat} {ps : List Nat} (hd : 1 ≤ d) (h1 : El.pow D.fd x d = El.whl D.fd 1) (h2 : ∀ p ∈ ps, p ∣ d → El.pow D.fd x (d / p) ≠ El.whl D.fd 1) (h3 : ∀ k, 1 < k → k ∣ d → ∃ p ∈ ps, p ∣ k) (h0 : x.a ≠ zer f) : IsOrd D x d := by
  obtain ⟨o, ho⟩ := ord_ex D h0
  have hod := (ho.dvd d).mp h1
  obtain ⟨q, rfl⟩ := hod
  by_cases hq : 1 < q
  · obtain ⟨p, hp, r, rfl⟩ := h3 q hq (Nat.dvd_mul_left q o)
    exfalso
    have hp0 : 0 < p := Nat.pos_of_ne_zero fun e => by subst e; simp at hd
    refine h2 p hp ⟨o * r, by rw [Nat.mul_left_comm]⟩ ((ho.dvd _).mpr ⟨r, ?_⟩)
    rw [Nat.mul_left_comm, Nat.mul_div_cancel_left _ hp0]
  · have : q = 1 := by
      have : q ≠ 0 := fun e => by subst e; simp at hd
      omega
    subst this
    rw [Nat.mul_one]
    exact ho
theorem IsOrd.inj {x : El f} {o : Nat} (h : IsOrd D x o) {i j : Nat} (hi : i < o) (hj : j < o) (e : El.pow D.fd x i = El.pow D.fd x j) : i = j := by
  have key : ∀ {i j : Nat}, i ≤ j → j < o → El.pow D.fd x i = El.pow D.fd x j → i = j := fun {i j} hij hj e => by
    by_cases hlt : i < j
    · exfalso
      have h1 : El.pow D.fd x (i + (o - j)) = El.pow D.fd x (j + (o - j)) := by rw [El.pow_add, El.pow_add, e]
      rw [show j + (o - j) = o from by omega, h.one] at h1
      exact h.least _ (by omega) (by omega) h1
    · omega
  rcases Nat.le_total i j with h' | h'
  · exact key h' hj e
  · exact (key h' hi e.symm).symm
/-- the turns of a power -/
theorem IsOrd.pow {x : El f} {o : Nat} (h : IsOrd D x o) (i : Nat) : IsOrd D (El.pow D.fd x i) (o / Nat.gcd i o) := by
  have ho := h.pos
  have hg : 0 < Nat.gcd i o := Nat.gcd_pos_of_pos_right _ ho
  obtain ⟨a, ha⟩ := Nat.gcd_dvd_left i o
  obtain ⟨b, hb⟩ := Nat.gcd_dvd_right i o
  have e : o / Nat.gcd i o = b := by
    have : o / Nat.gcd i o = (Nat.gcd i o * b) / Nat.gcd i o := by rw [← hb]
    rw [this, Nat.mul_div_cancel_left _ hg]
  have hb0 : 1 ≤ b := Nat.pos_of_ne_zero fun z => by rw [z] at hb; omega
  have cop : Nat.Coprime b a := by
    have h1 : Nat.gcd (Nat.gcd i o * a) (Nat.gcd i o * b) = Nat.gcd i o * Nat.gcd a b := Nat.gcd_mul_left _ _ _
    rw [← ha, ← hb] at h1
    have : Nat.gcd a b = 1 := by
      have h2 : Nat.gcd i o * 1 = Nat.gcd i o * Nat.gcd a b := by rw [Nat.mul_one]; exact h1
      exact (Nat.eq_of_mul_eq_mul_left hg h2).symm
    rw [Nat.Coprime, Nat.gcd_comm]
    exact this
  rw [e]
  refine ⟨hb0, ?_, fun k hk hlt e1 => ?_⟩
  · rw [← El.pow_mul]
    refine (h.dvd _).mpr ⟨a, ?_⟩
    calc i * b = (Nat.gcd i o * a) * b := by rw [← ha]
      _ = (Nat.gcd i o * b) * a := by rw [Nat.mul_right_comm]
      _ = o * a := by rw [← hb]
  · rw [← El.pow_mul] at e1
    obtain ⟨c, hc⟩ := (h.dvd _).mp e1
    have h2 : Nat.gcd i o * (a * k) = Nat.gcd i o * (b * c) := by
      rw [← Nat.mul_assoc, ← Nat.mul_assoc, ← ha, ← hb]; exact hc
    have h3 : a * k = b * c := Nat.eq_of_mul_eq_mul_left hg h2
    have : b ∣ k := cop.dvd_of_dvd_mul_left ⟨c, h3⟩
    have := Nat.le_of_dvd (by omega) this
    omega
end

end FM

namespace FM
open PySem PySem.Spec PyProof.Rows L2 FS
/-- the primes in a number -/
structure Pr (n : Nat) (ps : List Nat) : Prop where
  run : m_primes_in [.int (n : Int)] = .ok ⟨.f, .list (ps.map fun (p : Nat) => PyData.int (p : Int))⟩
  two : ∀ p ∈ ps, 2 ≤ p ∧ p ≤ 100 ∧ p ∣ n
  cov : ∀ k, 1 < k → k ∣ n → ∃ p ∈ ps, p ∣ k
theorem cov_of {n : Nat} {ps : List Nat} (hn : 0 < n) (h : ((List.range (n + 1)).all fun k => decide (k ≤ 1) || n % k != 0 || ps.any fun p => k % p == 0) = true) : ∀ k, 1 < k → k ∣ n → ∃ p ∈ ps, p ∣ k := fun k hk hd => by
  have hle := Nat.le_of_dvd hn hd
  have := List.all_eq_true.mp h k (List.mem_range.mpr (by omega))
  rw [Bool.or_eq_true, Bool.or_eq_true] at this
  rcases this with (z | z) | z
  · have := of_decide_eq_true z; omega
  · rw [Nat.mod_eq_zero_of_dvd hd] at z; cases z
  · obtain ⟨p, hp, e⟩ := List.any_eq_true.mp z
    exact ⟨p, hp, Nat.dvd_of_mod_eq_zero (eq_of_beq e)⟩
def chkG (f : Int × Nu) (g : Nu) (n : Nat) (ps : List Nat) : Bool := g != zer f && ps.all fun p => powF f 24 (oneA f) g (n / p) != oneA f
theorem gen_of {f : Int × Nu} (D : Drawn f) {n : Nat} {ps : List Nat} {g : Nu} (hn : sizA f - 1 = n) (R : Pr n ps) (hg : Num f g) (h : chkG f g n ps = true) : ∃ g : El f, IsOrd D g (sizA f - 1) := by
  unfold chkG at h
  rw [Bool.and_eq_true] at h
  have h0 : g ≠ zer f := by
    have := h.1
    intro e
    rw [e] at this
    simp at this
  have b := siz_bd D.good
  refine ⟨⟨g, hg⟩, ord_of (ps := ps) (by omega) (D.fermat _ h0) (fun p hp hd e => ?_) (by rw [hn]; exact R.cov) h0⟩
  have := List.all_eq_true.mp h.2 p hp
  have hk : n / p < 2 ^ 24 := Nat.lt_of_le_of_lt (Nat.div_le_self _ _) (by omega)
  have e2 := powW_pow D.fd 24 (El.whl D.fd 1) ⟨g, hg⟩ (n / p) hk
  rw [El.one_mul] at e2
  rw [hn] at e
  rw [e] at e2
  have e3 : powF f 24 (oneA f) g (n / p) = oneA f := (powF_eq f 24 _ _ _).trans e2
  rw [e3] at this
  simp at this
theorem pr_1 : Pr 1 [] := ⟨by kernel_rfl, by decide, cov_of (by decide) (by decide +kernel)⟩
theorem pr_2 : Pr 2 [2] := ⟨by kernel_rfl, by decide, cov_of (by decide) (by decide +kernel)⟩
theorem pr_3 : Pr 3 [3] := ⟨by kernel_rfl, by decide, cov_of (by decide) (by decide +kernel)⟩
theorem pr_4 : Pr 4 [2] := ⟨by kernel_rfl, by decide, cov_of (by decide) (by decide +kernel)⟩
theorem pr_6 : Pr 6 [2, 3] := ⟨by kernel_rfl, by decide, cov_of (by decide) (by decide +kernel)⟩
theorem pr_7 : Pr 7 [7] := ⟨by kernel_rfl, by decide, cov_of (by decide) (by decide +kernel)⟩
theorem pr_8 : Pr 8 [2] := ⟨by kernel_rfl, by decide, cov_of (by decide) (by decide +kernel)⟩
theorem pr_15 : Pr 15 [3, 5] := ⟨by kernel_rfl, by decide, cov_of (by decide) (by decide +kernel)⟩
theorem pr_24 : Pr 24 [2, 3] := ⟨by kernel_rfl, by decide, cov_of (by decide) (by decide +kernel)⟩
theorem pr_26 : Pr 26 [2, 13] := ⟨by kernel_rfl, by decide, cov_of (by decide) (by decide +kernel)⟩
theorem pr_31 : Pr 31 [31] := ⟨by kernel_rfl, by decide, cov_of (by decide) (by decide +kernel)⟩
theorem pr_48 : Pr 48 [2, 3] := ⟨by kernel_rfl, by decide, cov_of (by decide) (by decide +kernel)⟩
theorem pr_63 : Pr 63 [3, 7] := ⟨by kernel_rfl, by decide, cov_of (by decide) (by decide +kernel)⟩
theorem pr_80 : Pr 80 [2, 5] := ⟨by kernel_rfl, by decide, cov_of (by decide) (by decide +kernel)⟩
theorem gn_2_2_0 : chkG (((2 : Nat) : Int), [1, 1]) [0, 1] 3 [3] = true := by kernel_rfl
theorem gn_2_3_0 : chkG (((2 : Nat) : Int), [1, 0, 1]) [0, 0, 1] 7 [7] = true := by kernel_rfl
theorem gn_2_3_1 : chkG (((2 : Nat) : Int), [1, 1, 0]) [0, 0, 1] 7 [7] = true := by kernel_rfl
theorem gn_3_2_0 : chkG (((3 : Nat) : Int), [1, 0]) [1, 1] 8 [2] = true := by kernel_rfl
theorem gn_3_2_1 : chkG (((3 : Nat) : Int), [2, 1]) [0, 1] 8 [2] = true := by kernel_rfl
theorem gn_3_2_2 : chkG (((3 : Nat) : Int), [2, 2]) [0, 1] 8 [2] = true := by kernel_rfl
theorem gn_2_4_0 : chkG (((2 : Nat) : Int), [1, 0, 0, 1]) [0, 0, 1, 0] 15 [3, 5] = true := by kernel_rfl
theorem gn_2_4_1 : chkG (((2 : Nat) : Int), [1, 1, 0, 0]) [0, 0, 1, 0] 15 [3, 5] = true := by kernel_rfl
theorem gn_2_4_2 : chkG (((2 : Nat) : Int), [1, 1, 1, 1]) [0, 1, 0, 1] 15 [3, 5] = true := by kernel_rfl
theorem gn_5_1_0 : chkG (((5 : Nat) : Int), [0]) [2] 4 [2] = true := by kernel_rfl
theorem gn_5_1_1 : chkG (((5 : Nat) : Int), [1]) [2] 4 [2] = true := by kernel_rfl
theorem gn_5_1_2 : chkG (((5 : Nat) : Int), [2]) [2] 4 [2] = true := by kernel_rfl
theorem gn_5_1_3 : chkG (((5 : Nat) : Int), [3]) [2] 4 [2] = true := by kernel_rfl
theorem gn_5_1_4 : chkG (((5 : Nat) : Int), [4]) [2] 4 [2] = true := by kernel_rfl
theorem gn_3_1_0 : chkG (((3 : Nat) : Int), [0]) [2] 2 [2] = true := by kernel_rfl
theorem gn_3_1_1 : chkG (((3 : Nat) : Int), [1]) [2] 2 [2] = true := by kernel_rfl
theorem gn_3_1_2 : chkG (((3 : Nat) : Int), [2]) [2] 2 [2] = true := by kernel_rfl
theorem gn_5_2_0 : chkG (((5 : Nat) : Int), [1, 1]) [1, 3] 24 [2, 3] = true := by kernel_rfl
theorem gn_5_2_1 : chkG (((5 : Nat) : Int), [1, 4]) [1, 1] 24 [2, 3] = true := by kernel_rfl
theorem gn_5_2_2 : chkG (((5 : Nat) : Int), [2, 0]) [1, 1] 24 [2, 3] = true := by kernel_rfl
theorem gn_5_2_3 : chkG (((5 : Nat) : Int), [2, 1]) [0, 1] 24 [2, 3] = true := by kernel_rfl
theorem gn_5_2_4 : chkG (((5 : Nat) : Int), [2, 4]) [0, 1] 24 [2, 3] = true := by kernel_rfl
theorem gn_5_2_5 : chkG (((5 : Nat) : Int), [3, 0]) [1, 2] 24 [2, 3] = true := by kernel_rfl
theorem gn_5_2_6 : chkG (((5 : Nat) : Int), [3, 2]) [0, 1] 24 [2, 3] = true := by kernel_rfl
theorem gn_5_2_7 : chkG (((5 : Nat) : Int), [3, 3]) [0, 1] 24 [2, 3] = true := by kernel_rfl
theorem gn_5_2_8 : chkG (((5 : Nat) : Int), [4, 2]) [1, 2] 24 [2, 3] = true := by kernel_rfl
theorem gn_5_2_9 : chkG (((5 : Nat) : Int), [4, 3]) [1, 1] 24 [2, 3] = true := by kernel_rfl
theorem gn_3_3_0 : chkG (((3 : Nat) : Int), [1, 0, 2]) [0, 0, 2] 26 [2, 13] = true := by kernel_rfl
theorem gn_3_3_1 : chkG (((3 : Nat) : Int), [1, 1, 2]) [0, 0, 2] 26 [2, 13] = true := by kernel_rfl
theorem gn_3_3_2 : chkG (((3 : Nat) : Int), [1, 2, 0]) [0, 0, 2] 26 [2, 13] = true := by kernel_rfl
theorem gn_3_3_3 : chkG (((3 : Nat) : Int), [1, 2, 1]) [0, 0, 2] 26 [2, 13] = true := by kernel_rfl
theorem gn_3_3_4 : chkG (((3 : Nat) : Int), [2, 0, 1]) [0, 0, 2] 26 [2, 13] = true := by kernel_rfl
theorem gn_3_3_5 : chkG (((3 : Nat) : Int), [2, 1, 1]) [0, 0, 2] 26 [2, 13] = true := by kernel_rfl
theorem gn_3_3_6 : chkG (((3 : Nat) : Int), [2, 2, 0]) [0, 0, 2] 26 [2, 13] = true := by kernel_rfl
theorem gn_3_3_7 : chkG (((3 : Nat) : Int), [2, 2, 2]) [0, 0, 2] 26 [2, 13] = true := by kernel_rfl
theorem gn_2_1_0 : chkG (((2 : Nat) : Int), [0]) [1] 1 [] = true := by kernel_rfl
theorem gn_2_1_1 : chkG (((2 : Nat) : Int), [1]) [1] 1 [] = true := by kernel_rfl
theorem gn_7_1_0 : chkG (((7 : Nat) : Int), [0]) [3] 6 [2, 3] = true := by kernel_rfl
theorem gn_7_1_1 : chkG (((7 : Nat) : Int), [1]) [3] 6 [2, 3] = true := by kernel_rfl
theorem gn_7_1_2 : chkG (((7 : Nat) : Int), [2]) [3] 6 [2, 3] = true := by kernel_rfl
theorem gn_7_1_3 : chkG (((7 : Nat) : Int), [3]) [3] 6 [2, 3] = true := by kernel_rfl
theorem gn_7_1_4 : chkG (((7 : Nat) : Int), [4]) [3] 6 [2, 3] = true := by kernel_rfl
theorem gn_7_1_5 : chkG (((7 : Nat) : Int), [5]) [3] 6 [2, 3] = true := by kernel_rfl
theorem gn_7_1_6 : chkG (((7 : Nat) : Int), [6]) [3] 6 [2, 3] = true := by kernel_rfl
theorem gn_7_2_0 : chkG (((7 : Nat) : Int), [1, 0]) [1, 2] 48 [2, 3] = true := by kernel_rfl
theorem gn_7_2_1 : chkG (((7 : Nat) : Int), [1, 3]) [1, 4] 48 [2, 3] = true := by kernel_rfl
theorem gn_7_2_2 : chkG (((7 : Nat) : Int), [1, 4]) [1, 1] 48 [2, 3] = true := by kernel_rfl
theorem gn_7_2_3 : chkG (((7 : Nat) : Int), [2, 0]) [1, 1] 48 [2, 3] = true := by kernel_rfl
theorem gn_7_2_4 : chkG (((7 : Nat) : Int), [2, 2]) [1, 2] 48 [2, 3] = true := by kernel_rfl
theorem gn_7_2_5 : chkG (((7 : Nat) : Int), [2, 5]) [1, 1] 48 [2, 3] = true := by kernel_rfl
theorem gn_7_2_6 : chkG (((7 : Nat) : Int), [3, 1]) [0, 1] 48 [2, 3] = true := by kernel_rfl
theorem gn_7_2_7 : chkG (((7 : Nat) : Int), [3, 2]) [0, 1] 48 [2, 3] = true := by kernel_rfl
theorem gn_7_2_8 : chkG (((7 : Nat) : Int), [3, 5]) [0, 1] 48 [2, 3] = true := by kernel_rfl
theorem gn_7_2_9 : chkG (((7 : Nat) : Int), [3, 6]) [0, 1] 48 [2, 3] = true := by kernel_rfl
theorem gn_7_2_10 : chkG (((7 : Nat) : Int), [4, 0]) [1, 1] 48 [2, 3] = true := by kernel_rfl
theorem gn_7_2_11 : chkG (((7 : Nat) : Int), [4, 1]) [1, 4] 48 [2, 3] = true := by kernel_rfl
theorem gn_7_2_12 : chkG (((7 : Nat) : Int), [4, 6]) [1, 2] 48 [2, 3] = true := by kernel_rfl
theorem gn_7_2_13 : chkG (((7 : Nat) : Int), [5, 2]) [0, 1] 48 [2, 3] = true := by kernel_rfl
theorem gn_7_2_14 : chkG (((7 : Nat) : Int), [5, 3]) [0, 1] 48 [2, 3] = true := by kernel_rfl
theorem gn_7_2_15 : chkG (((7 : Nat) : Int), [5, 4]) [0, 1] 48 [2, 3] = true := by kernel_rfl
theorem gn_7_2_16 : chkG (((7 : Nat) : Int), [5, 5]) [0, 1] 48 [2, 3] = true := by kernel_rfl
theorem gn_7_2_17 : chkG (((7 : Nat) : Int), [6, 1]) [0, 2] 48 [2, 3] = true := by kernel_rfl
theorem gn_7_2_18 : chkG (((7 : Nat) : Int), [6, 3]) [0, 2] 48 [2, 3] = true := by kernel_rfl
theorem gn_7_2_19 : chkG (((7 : Nat) : Int), [6, 4]) [0, 2] 48 [2, 3] = true := by kernel_rfl
theorem gn_7_2_20 : chkG (((7 : Nat) : Int), [6, 6]) [0, 2] 48 [2, 3] = true := by kernel_rfl
theorem gn_2_5_0 : chkG (((2 : Nat) : Int), [1, 0, 0, 1, 0]) [0, 0, 0, 0, 1] 31 [31] = true := by kernel_rfl
theorem gn_2_5_1 : chkG (((2 : Nat) : Int), [1, 0, 1, 0, 0]) [0, 0, 0, 0, 1] 31 [31] = true := by kernel_rfl
theorem gn_2_5_2 : chkG (((2 : Nat) : Int), [1, 0, 1, 1, 1]) [0, 0, 0, 0, 1] 31 [31] = true := by kernel_rfl
theorem gn_2_5_3 : chkG (((2 : Nat) : Int), [1, 1, 0, 1, 1]) [0, 0, 0, 0, 1] 31 [31] = true := by kernel_rfl
theorem gn_2_5_4 : chkG (((2 : Nat) : Int), [1, 1, 1, 0, 1]) [0, 0, 0, 0, 1] 31 [31] = true := by kernel_rfl
theorem gn_2_5_5 : chkG (((2 : Nat) : Int), [1, 1, 1, 1, 0]) [0, 0, 0, 0, 1] 31 [31] = true := by kernel_rfl
theorem gn_2_6_0 : chkG (((2 : Nat) : Int), [1, 1, 0, 0, 0, 0]) [0, 0, 0, 0, 0, 1] 63 [3, 7] = true := by kernel_rfl
theorem gn_3_4_0 : chkG (((3 : Nat) : Int), [2, 1, 0, 0]) [0, 0, 0, 1] 80 [2, 5] = true := by kernel_rfl
theorem siz_at {p n : Nat} {ru : List Nu} (h : (ru.all fun r => r.length == n) = true) {r : Nu} (hr : r ∈ ru) : sizA ((p : Int), r) = p ^ n := by
  show p ^ r.length = _
  rw [len_of h hr]
theorem Drawn.pr : ∀ {f : Int × Nu}, Drawn f → ∃ ps, Pr (sizA f - 1) ps
  | _, .k_2_2 h => ⟨_, by rw [siz_at (p := 2) (n := 2) (by decide) h]; exact pr_3⟩
  | _, .k_2_3 h => ⟨_, by rw [siz_at (p := 2) (n := 3) (by decide) h]; exact pr_7⟩
  | _, .k_3_2 h => ⟨_, by rw [siz_at (p := 3) (n := 2) (by decide) h]; exact pr_8⟩
  | _, .k_2_4 h => ⟨_, by rw [siz_at (p := 2) (n := 4) (by decide) h]; exact pr_15⟩
  | _, .k_5_1 h => ⟨_, by rw [siz_at (p := 5) (n := 1) (by decide) h]; exact pr_4⟩
  | _, .k_3_1 h => ⟨_, by rw [siz_at (p := 3) (n := 1) (by decide) h]; exact pr_2⟩
  | _, .k_5_2 h => ⟨_, by rw [siz_at (p := 5) (n := 2) (by decide) h]; exact pr_24⟩
  | _, .k_3_3 h => ⟨_, by rw [siz_at (p := 3) (n := 3) (by decide) h]; exact pr_26⟩
  | _, .k_2_1 h => ⟨_, by rw [siz_at (p := 2) (n := 1) (by decide) h]; exact pr_1⟩
  | _, .k_7_1 h => ⟨_, by rw [siz_at (p := 7) (n := 1) (by decide) h]; exact pr_6⟩
  | _, .k_7_2 h => ⟨_, by rw [siz_at (p := 7) (n := 2) (by decide) h]; exact pr_48⟩
  | _, .k_2_5 h => ⟨_, by rw [siz_at (p := 2) (n := 5) (by decide) h]; exact pr_31⟩
  | _, .k_2_6 h => ⟨_, by rw [siz_at (p := 2) (n := 6) (by decide) h]; exact pr_63⟩
  | _, .k_3_4 h => ⟨_, by rw [siz_at (p := 3) (n := 4) (by decide) h]; exact pr_80⟩
theorem gens_2_2 : ∀ r (h : r ∈ ru_2_2) (D : Drawn (((2 : Nat) : Int), r)), ∃ g : El (((2 : Nat) : Int), r), IsOrd D g (sizA (((2 : Nat) : Int), r) - 1) := fun r h D => by
  have hs := siz_at (p := 2) (n := 2) (by decide) h
  simp only [ru_2_2, List.mem_cons, List.not_mem_nil, or_false] at h
  rcases h with rfl
  · exact gen_of D (g := [0, 1]) (n := 3) (by rw [hs]) pr_3 ⟨rfl, by decide⟩ gn_2_2_0
theorem gens_2_3 : ∀ r (h : r ∈ ru_2_3) (D : Drawn (((2 : Nat) : Int), r)), ∃ g : El (((2 : Nat) : Int), r), IsOrd D g (sizA (((2 : Nat) : Int), r) - 1) := fun r h D => by
  have hs := siz_at (p := 2) (n := 3) (by decide) h
  simp only [ru_2_3, List.mem_cons, List.not_mem_nil, or_false] at h
  rcases h with rfl | rfl
  · exact gen_of D (g := [0, 0, 1]) (n := 7) (by rw [hs]) pr_7 ⟨rfl, by decide⟩ gn_2_3_0
  · exact gen_of D (g := [0, 0, 1]) (n := 7) (by rw [hs]) pr_7 ⟨rfl, by decide⟩ gn_2_3_1
theorem gens_3_2 : ∀ r (h : r ∈ ru_3_2) (D : Drawn (((3 : Nat) : Int), r)), ∃ g : El (((3 : Nat) : Int), r), IsOrd D g (sizA (((3 : Nat) : Int), r) - 1) := fun r h D => by
  have hs := siz_at (p := 3) (n := 2) (by decide) h
  simp only [ru_3_2, List.mem_cons, List.not_mem_nil, or_false] at h
  rcases h with rfl | rfl | rfl
  · exact gen_of D (g := [1, 1]) (n := 8) (by rw [hs]) pr_8 ⟨rfl, by decide⟩ gn_3_2_0
  · exact gen_of D (g := [0, 1]) (n := 8) (by rw [hs]) pr_8 ⟨rfl, by decide⟩ gn_3_2_1
  · exact gen_of D (g := [0, 1]) (n := 8) (by rw [hs]) pr_8 ⟨rfl, by decide⟩ gn_3_2_2
theorem gens_2_4 : ∀ r (h : r ∈ ru_2_4) (D : Drawn (((2 : Nat) : Int), r)), ∃ g : El (((2 : Nat) : Int), r), IsOrd D g (sizA (((2 : Nat) : Int), r) - 1) := fun r h D => by
  have hs := siz_at (p := 2) (n := 4) (by decide) h
  simp only [ru_2_4, List.mem_cons, List.not_mem_nil, or_false] at h
  rcases h with rfl | rfl | rfl
  · exact gen_of D (g := [0, 0, 1, 0]) (n := 15) (by rw [hs]) pr_15 ⟨rfl, by decide⟩ gn_2_4_0
  · exact gen_of D (g := [0, 0, 1, 0]) (n := 15) (by rw [hs]) pr_15 ⟨rfl, by decide⟩ gn_2_4_1
  · exact gen_of D (g := [0, 1, 0, 1]) (n := 15) (by rw [hs]) pr_15 ⟨rfl, by decide⟩ gn_2_4_2
theorem gens_5_1 : ∀ r (h : r ∈ ru_5_1) (D : Drawn (((5 : Nat) : Int), r)), ∃ g : El (((5 : Nat) : Int), r), IsOrd D g (sizA (((5 : Nat) : Int), r) - 1) := fun r h D => by
  have hs := siz_at (p := 5) (n := 1) (by decide) h
  simp only [ru_5_1, List.mem_cons, List.not_mem_nil, or_false] at h
  rcases h with rfl | rfl | rfl | rfl | rfl
  · exact gen_of D (g := [2]) (n := 4) (by rw [hs]) pr_4 ⟨rfl, by decide⟩ gn_5_1_0
  · exact gen_of D (g := [2]) (n := 4) (by rw [hs]) pr_4 ⟨rfl, by decide⟩ gn_5_1_1
  · exact gen_of D (g := [2]) (n := 4) (by rw [hs]) pr_4 ⟨rfl, by decide⟩ gn_5_1_2
  · exact gen_of D (g := [2]) (n := 4) (by rw [hs]) pr_4 ⟨rfl, by decide⟩ gn_5_1_3
  · exact gen_of D (g := [2]) (n := 4) (by rw [hs]) pr_4 ⟨rfl, by decide⟩ gn_5_1_4
theorem gens_3_1 : ∀ r (h : r ∈ ru_3_1) (D : Drawn (((3 : Nat) : Int), r)), ∃ g : El (((3 : Nat) : Int), r), IsOrd D g (sizA (((3 : Nat) : Int), r) - 1) := fun r h D => by
  have hs := siz_at (p := 3) (n := 1) (by decide) h
  simp only [ru_3_1, List.mem_cons, List.not_mem_nil, or_false] at h
  rcases h with rfl | rfl | rfl
  · exact gen_of D (g := [2]) (n := 2) (by rw [hs]) pr_2 ⟨rfl, by decide⟩ gn_3_1_0
  · exact gen_of D (g := [2]) (n := 2) (by rw [hs]) pr_2 ⟨rfl, by decide⟩ gn_3_1_1
  · exact gen_of D (g := [2]) (n := 2) (by rw [hs]) pr_2 ⟨rfl, by decide⟩ gn_3_1_2
theorem gens_5_2 : ∀ r (h : r ∈ ru_5_2) (D : Drawn (((5 : Nat) : Int), r)), ∃ g : El (((5 : Nat) : Int), r), IsOrd D g (sizA (((5 : Nat) : Int), r) - 1) := fun r h D => by
  have hs := siz_at (p := 5) (n := 2) (by decide) h
  simp only [ru_5_2, List.mem_cons, List.not_mem_nil, or_false] at h
  rcases h with rfl | rfl | rfl | rfl | rfl | rfl | rfl | rfl | rfl | rfl
  · exact gen_of D (g := [1, 3]) (n := 24) (by rw [hs]) pr_24 ⟨rfl, by decide⟩ gn_5_2_0
  · exact gen_of D (g := [1, 1]) (n := 24) (by rw [hs]) pr_24 ⟨rfl, by decide⟩ gn_5_2_1
  · exact gen_of D (g := [1, 1]) (n := 24) (by rw [hs]) pr_24 ⟨rfl, by decide⟩ gn_5_2_2
  · exact gen_of D (g := [0, 1]) (n := 24) (by rw [hs]) pr_24 ⟨rfl, by decide⟩ gn_5_2_3
  · exact gen_of D (g := [0, 1]) (n := 24) (by rw [hs]) pr_24 ⟨rfl, by decide⟩ gn_5_2_4
  · exact gen_of D (g := [1, 2]) (n := 24) (by rw [hs]) pr_24 ⟨rfl, by decide⟩ gn_5_2_5
  · exact gen_of D (g := [0, 1]) (n := 24) (by rw [hs]) pr_24 ⟨rfl, by decide⟩ gn_5_2_6
  · exact gen_of D (g := [0, 1]) (n := 24) (by rw [hs]) pr_24 ⟨rfl, by decide⟩ gn_5_2_7
  · exact gen_of D (g := [1, 2]) (n := 24) (by rw [hs]) pr_24 ⟨rfl, by decide⟩ gn_5_2_8
  · exact gen_of D (g := [1, 1]) (n := 24) (by rw [hs]) pr_24 ⟨rfl, by decide⟩ gn_5_2_9
theorem gens_3_3 : ∀ r (h : r ∈ ru_3_3) (D : Drawn (((3 : Nat) : Int), r)), ∃ g : El (((3 : Nat) : Int), r), IsOrd D g (sizA (((3 : Nat) : Int), r) - 1) := fun r h D => by
  have hs := siz_at (p := 3) (n := 3) (by decide) h
  simp only [ru_3_3, List.mem_cons, List.not_mem_nil, or_false] at h
  rcases h with rfl | rfl | rfl | rfl | rfl | rfl | rfl | rfl
  · exact gen_of D (g := [0, 0, 2]) (n := 26) (by rw [hs]) pr_26 ⟨rfl, by decide⟩ gn_3_3_0
  · exact gen_of D (g := [0, 0, 2]) (n := 26) (by rw [hs]) pr_26 ⟨rfl, by decide⟩ gn_3_3_1
  · exact gen_of D (g := [0, 0, 2]) (n := 26) (by rw [hs]) pr_26 ⟨rfl, by decide⟩ gn_3_3_2
  · exact gen_of D (g := [0, 0, 2]) (n := 26) (by rw [hs]) pr_26 ⟨rfl, by decide⟩ gn_3_3_3
  · exact gen_of D (g := [0, 0, 2]) (n := 26) (by rw [hs]) pr_26 ⟨rfl, by decide⟩ gn_3_3_4
  · exact gen_of D (g := [0, 0, 2]) (n := 26) (by rw [hs]) pr_26 ⟨rfl, by decide⟩ gn_3_3_5
  · exact gen_of D (g := [0, 0, 2]) (n := 26) (by rw [hs]) pr_26 ⟨rfl, by decide⟩ gn_3_3_6
  · exact gen_of D (g := [0, 0, 2]) (n := 26) (by rw [hs]) pr_26 ⟨rfl, by decide⟩ gn_3_3_7
theorem gens_2_1 : ∀ r (h : r ∈ ru_2_1) (D : Drawn (((2 : Nat) : Int), r)), ∃ g : El (((2 : Nat) : Int), r), IsOrd D g (sizA (((2 : Nat) : Int), r) - 1) := fun r h D => by
  have hs := siz_at (p := 2) (n := 1) (by decide) h
  simp only [ru_2_1, List.mem_cons, List.not_mem_nil, or_false] at h
  rcases h with rfl | rfl
  · exact gen_of D (g := [1]) (n := 1) (by rw [hs]) pr_1 ⟨rfl, by decide⟩ gn_2_1_0
  · exact gen_of D (g := [1]) (n := 1) (by rw [hs]) pr_1 ⟨rfl, by decide⟩ gn_2_1_1
theorem gens_7_1 : ∀ r (h : r ∈ ru_7_1) (D : Drawn (((7 : Nat) : Int), r)), ∃ g : El (((7 : Nat) : Int), r), IsOrd D g (sizA (((7 : Nat) : Int), r) - 1) := fun r h D => by
  have hs := siz_at (p := 7) (n := 1) (by decide) h
  simp only [ru_7_1, List.mem_cons, List.not_mem_nil, or_false] at h
  rcases h with rfl | rfl | rfl | rfl | rfl | rfl | rfl
  · exact gen_of D (g := [3]) (n := 6) (by rw [hs]) pr_6 ⟨rfl, by decide⟩ gn_7_1_0
  · exact gen_of D (g := [3]) (n := 6) (by rw [hs]) pr_6 ⟨rfl, by decide⟩ gn_7_1_1
  · exact gen_of D (g := [3]) (n := 6) (by rw [hs]) pr_6 ⟨rfl, by decide⟩ gn_7_1_2
  · exact gen_of D (g := [3]) (n := 6) (by rw [hs]) pr_6 ⟨rfl, by decide⟩ gn_7_1_3
  · exact gen_of D (g := [3]) (n := 6) (by rw [hs]) pr_6 ⟨rfl, by decide⟩ gn_7_1_4
  · exact gen_of D (g := [3]) (n := 6) (by rw [hs]) pr_6 ⟨rfl, by decide⟩ gn_7_1_5
  · exact gen_of D (g := [3]) (n := 6) (by rw [hs]) pr_6 ⟨rfl, by decide⟩ gn_7_1_6
theorem gens_7_2 : ∀ r (h : r ∈ ru_7_2) (D : Drawn (((7 : Nat) : Int), r)), ∃ g : El (((7 : Nat) : Int), r), IsOrd D g (sizA (((7 : Nat) : Int), r) - 1) := fun r h D => by
  have hs := siz_at (p := 7) (n := 2) (by decide) h
  simp only [ru_7_2, List.mem_cons, List.not_mem_nil, or_false] at h
  rcases h with rfl | rfl | rfl | rfl | rfl | rfl | rfl | rfl | rfl | rfl | rfl | rfl | rfl | rfl | rfl | rfl | rfl | rfl | rfl | rfl | rfl
  · exact gen_of D (g := [1, 2]) (n := 48) (by rw [hs]) pr_48 ⟨rfl, by decide⟩ gn_7_2_0
  · exact gen_of D (g := [1, 4]) (n := 48) (by rw [hs]) pr_48 ⟨rfl, by decide⟩ gn_7_2_1
  · exact gen_of D (g := [1, 1]) (n := 48) (by rw [hs]) pr_48 ⟨rfl, by decide⟩ gn_7_2_2
  · exact gen_of D (g := [1, 1]) (n := 48) (by rw [hs]) pr_48 ⟨rfl, by decide⟩ gn_7_2_3
  · exact gen_of D (g := [1, 2]) (n := 48) (by rw [hs]) pr_48 ⟨rfl, by decide⟩ gn_7_2_4
  · exact gen_of D (g := [1, 1]) (n := 48) (by rw [hs]) pr_48 ⟨rfl, by decide⟩ gn_7_2_5
  · exact gen_of D (g := [0, 1]) (n := 48) (by rw [hs]) pr_48 ⟨rfl, by decide⟩ gn_7_2_6
  · exact gen_of D (g := [0, 1]) (n := 48) (by rw [hs]) pr_48 ⟨rfl, by decide⟩ gn_7_2_7
  · exact gen_of D (g := [0, 1]) (n := 48) (by rw [hs]) pr_48 ⟨rfl, by decide⟩ gn_7_2_8
  · exact gen_of D (g := [0, 1]) (n := 48) (by rw [hs]) pr_48 ⟨rfl, by decide⟩ gn_7_2_9
  · exact gen_of D (g := [1, 1]) (n := 48) (by rw [hs]) pr_48 ⟨rfl, by decide⟩ gn_7_2_10
  · exact gen_of D (g := [1, 4]) (n := 48) (by rw [hs]) pr_48 ⟨rfl, by decide⟩ gn_7_2_11
  · exact gen_of D (g := [1, 2]) (n := 48) (by rw [hs]) pr_48 ⟨rfl, by decide⟩ gn_7_2_12
  · exact gen_of D (g := [0, 1]) (n := 48) (by rw [hs]) pr_48 ⟨rfl, by decide⟩ gn_7_2_13
  · exact gen_of D (g := [0, 1]) (n := 48) (by rw [hs]) pr_48 ⟨rfl, by decide⟩ gn_7_2_14
  · exact gen_of D (g := [0, 1]) (n := 48) (by rw [hs]) pr_48 ⟨rfl, by decide⟩ gn_7_2_15
  · exact gen_of D (g := [0, 1]) (n := 48) (by rw [hs]) pr_48 ⟨rfl, by decide⟩ gn_7_2_16
  · exact gen_of D (g := [0, 2]) (n := 48) (by rw [hs]) pr_48 ⟨rfl, by decide⟩ gn_7_2_17
  · exact gen_of D (g := [0, 2]) (n := 48) (by rw [hs]) pr_48 ⟨rfl, by decide⟩ gn_7_2_18
  · exact gen_of D (g := [0, 2]) (n := 48) (by rw [hs]) pr_48 ⟨rfl, by decide⟩ gn_7_2_19
  · exact gen_of D (g := [0, 2]) (n := 48) (by rw [hs]) pr_48 ⟨rfl, by decide⟩ gn_7_2_20
theorem gens_2_5 : ∀ r (h : r ∈ ru_2_5) (D : Drawn (((2 : Nat) : Int), r)), ∃ g : El (((2 : Nat) : Int), r), IsOrd D g (sizA (((2 : Nat) : Int), r) - 1) := fun r h D => by
  have hs := siz_at (p := 2) (n := 5) (by decide) h
  simp only [ru_2_5, List.mem_cons, List.not_mem_nil, or_false] at h
  rcases h with rfl | rfl | rfl | rfl | rfl | rfl
  · exact gen_of D (g := [0, 0, 0, 0, 1]) (n := 31) (by rw [hs]) pr_31 ⟨rfl, by decide⟩ gn_2_5_0
  · exact gen_of D (g := [0, 0, 0, 0, 1]) (n := 31) (by rw [hs]) pr_31 ⟨rfl, by decide⟩ gn_2_5_1
  · exact gen_of D (g := [0, 0, 0, 0, 1]) (n := 31) (by rw [hs]) pr_31 ⟨rfl, by decide⟩ gn_2_5_2
  · exact gen_of D (g := [0, 0, 0, 0, 1]) (n := 31) (by rw [hs]) pr_31 ⟨rfl, by decide⟩ gn_2_5_3
  · exact gen_of D (g := [0, 0, 0, 0, 1]) (n := 31) (by rw [hs]) pr_31 ⟨rfl, by decide⟩ gn_2_5_4
  · exact gen_of D (g := [0, 0, 0, 0, 1]) (n := 31) (by rw [hs]) pr_31 ⟨rfl, by decide⟩ gn_2_5_5
theorem gens_2_6 : ∀ r (h : r ∈ ru_2_6) (D : Drawn (((2 : Nat) : Int), r)), ∃ g : El (((2 : Nat) : Int), r), IsOrd D g (sizA (((2 : Nat) : Int), r) - 1) := fun r h D => by
  have hs := siz_at (p := 2) (n := 6) (by decide) h
  simp only [ru_2_6, List.mem_cons, List.not_mem_nil, or_false] at h
  rcases h with rfl
  · exact gen_of D (g := [0, 0, 0, 0, 0, 1]) (n := 63) (by rw [hs]) pr_63 ⟨rfl, by decide⟩ gn_2_6_0
theorem gens_3_4 : ∀ r (h : r ∈ ru_3_4) (D : Drawn (((3 : Nat) : Int), r)), ∃ g : El (((3 : Nat) : Int), r), IsOrd D g (sizA (((3 : Nat) : Int), r) - 1) := fun r h D => by
  have hs := siz_at (p := 3) (n := 4) (by decide) h
  simp only [ru_3_4, List.mem_cons, List.not_mem_nil, or_false] at h
  rcases h with rfl
  · exact gen_of D (g := [0, 0, 0, 1]) (n := 80) (by rw [hs]) pr_80 ⟨rfl, by decide⟩ gn_3_4_0
theorem Drawn.gen : ∀ {f : Int × Nu} (D : Drawn f), ∃ g : El f, IsOrd D g (sizA f - 1)
  | _, .k_2_2 h => gens_2_2 _ h _
  | _, .k_2_3 h => gens_2_3 _ h _
  | _, .k_3_2 h => gens_3_2 _ h _
  | _, .k_2_4 h => gens_2_4 _ h _
  | _, .k_5_1 h => gens_5_1 _ h _
  | _, .k_3_1 h => gens_3_1 _ h _
  | _, .k_5_2 h => gens_5_2 _ h _
  | _, .k_3_3 h => gens_3_3 _ h _
  | _, .k_2_1 h => gens_2_1 _ h _
  | _, .k_7_1 h => gens_7_1 _ h _
  | _, .k_7_2 h => gens_7_2 _ h _
  | _, .k_2_5 h => gens_2_5 _ h _
  | _, .k_2_6 h => gens_2_6 _ h _
  | _, .k_3_4 h => gens_3_4 _ h _
end FM

namespace FM
open PySem FS L2
local macro_rules | `(tactic| walk_at "f") => `(tactic| first
  | with_reducible exact L_plus ‹Drawn _› _ _ | with_reducible exact L_times ‹Drawn _› _ _ | with_reducible exact C_oneL ‹Drawn _› | with_reducible exact C_noughtL ‹Drawn _› | with_reducible exact C_nought ‹Drawn _› | with_reducible exact C_whole ‹Drawn _› _
  | with_reducible exact E_sum ‹Drawn _› _ _ | with_reducible exact E_prod ‹Drawn _› _ _ | with_reducible exact C_less ‹Drawn _› _ _ | with_reducible exact C_plus ‹Drawn _› _ _ | with_reducible exact C_minus ‹Drawn _› _ _ | with_reducible exact C_times ‹Drawn _› _ _
  | with_reducible exact C_checked ‹Drawn _› | with_reducible exact C_look1 ‹Drawn _› _ | with_reducible exact C_look2 ‹Drawn _› _ _ | with_reducible exact C_size_of ‹Drawn _›
  | with_reducible exact C_sizeL ‹Drawn _› | with_reducible exact C_numbers ‹Drawn _› | with_reducible exact C_all ‹Drawn _› | with_reducible exact C_rowsL ‹Drawn _›
  | with_reducible exact e_is_within _ _ _)
local macro_rules | `(tactic| walk_at "g") => `(tactic| first
  | with_reducible exact C_raised1 ‹Drawn _› _ | with_reducible exact C_raisedL1 ‹Drawn _› _
  | with_reducible exact E_trace ‹Drawn _› _ (by assumption) (by assumption) | with_reducible exact E_norm ‹Drawn _› _ (by assumption) (by assumption)
  | with_reducible exact C_lesser ‹Drawn _› (by assumption) (by assumption) | with_reducible exact E_look_part ‹Drawn _› (by assumption) (by assumption) | with_reducible exact E_look_part0 ‹Drawn _› (by assumption) (by assumption)
  | with_reducible exact C_raisedN ‹Drawn _› _ _ | with_reducible exact C_raisedM ‹Drawn _› _ (by omega) | with_reducible exact C_raisedLN ‹Drawn _› _ (by omega) | with_reducible exact C_powerLN ‹Drawn _› _ (by omega)
  | with_reducible exact C_raisedLZ ‹Drawn _› _ (by omega) (by omega) | with_reducible exact C_powerLZ ‹Drawn _› _ (by omega) (by omega) | with_reducible exact C_raisedZ ‹Drawn _› _ (by omega) | with_reducible exact C_raisedMZ ‹Drawn _› _ (by omega) (by omega))
local macro_rules | `(tactic| walk_at "d") => `(tactic| first
  | with_reducible exact ixF0 _ | with_reducible exact ixF1 _ | with_reducible exact addD_int _ _ | with_reducible exact subD_int _ _ | with_reducible exact negD_int _
  | with_reducible exact len_eN _ | with_reducible exact d_len _ | with_reducible exact d_lenT _ | with_reducible exact len_tup _ | with_reducible exact len_lst _ | with_reducible exact tup_lst _ | with_reducible exact lst_tup _
  | with_reducible exact d_eqN _ _ | with_reducible exact d_neN _ _ | with_reducible exact d_eqI _ _ | with_reducible exact d_neI _ _ | with_reducible exact d_lt _ _ | with_reducible exact d_le _ _ | with_reducible exact d_gt _ _ | with_reducible exact d_ge _ _
  | with_reducible exact d_eqL _ _ | with_reducible exact d_neL _ _ | with_reducible exact d_eqT _ _ | with_reducible exact d_neT _ _ | with_reducible exact d_inL _ _ | with_reducible exact d_ninL _ _
  | with_reducible exact d_ix0 _ _ | with_reducible exact d_ix1 _ _ _ | with_reducible exact d_ixt0 _ _ | with_reducible exact d_ixt1 _ _ _ | with_reducible exact d_tt | with_reducible exact d_ntt
  | with_reducible exact it_lst _ | with_reducible exact it_tup _ | with_reducible exact it_eN _
  | ((with_reducible apply modD_int); omega) | ((with_reducible apply fdivD_int); omega) | ((with_reducible refine mulD_int (.inl ?_)); omega) | ((with_reducible refine mulD_int (.inr ?_)); omega)
  | ((with_reducible apply rng1_nat); omega) | ((with_reducible apply rng1_int); omega) | ((with_reducible apply rng2_int); omega)
  | ((with_reducible apply d_rep); omega) | ((with_reducible apply w_maplen); first | with_reducible assumption | omega | ((with_reducible apply w_rlen); omega)))
local macro_rules | `(tactic| walk_at "no") => `(tactic| first
  | with_reducible exact rfl | with_reducible assumption
  | ((with_reducible apply dT); first | with_reducible exact rfl | with_reducible assumption | omega)
  | ((with_reducible apply dF); first | with_reducible assumption | omega)
  | ((with_reducible apply dNT); first | with_reducible exact rfl | with_reducible assumption | omega)
  | ((with_reducible apply dNF); first | with_reducible assumption | omega))
local macro_rules | `(tactic| walk_at "ev") => `(tactic| repeat' first
  | with_reducible exact v_c | with_reducible exact v_A0 | with_reducible exact v_O0 | with_reducible exact w_yes | with_reducible exact w_next
  | ((with_reducible apply w_eq); with_reducible assumption)
  | ((with_reducible apply v_var); exact rfl) | ((with_reducible apply v_own); exact rfl)
  | with_reducible apply v_A | with_reducible apply v_m2 | with_reducible apply w_F | with_reducible apply w_B1 | with_reducible apply w_B2 | with_reducible apply v_B | with_reducible apply v_tB | with_reducible apply v_m1
  | with_reducible exact stR_v | with_reducible exact stR_f | with_reducible exact s_0 | with_reducible apply s_c
  | ((with_reducible apply w_len); exact rfl) | ((with_reducible apply w_ble); exact rfl) | ((with_reducible apply w_own); exact rfl)
  | with_reducible apply w_Tu | with_reducible apply w_L
  | with_reducible apply v_Sl | with_reducible apply v_O1 | with_reducible apply v_iV | with_reducible apply w_iB
  | with_reducible apply v_not | with_reducible apply v_T | with_reducible apply w_or | with_reducible apply w_and
  | with_reducible apply w_vAnd | with_reducible apply w_vNot | with_reducible apply w_vOr
  | with_reducible apply w_seq | with_reducible apply w_if | with_reducible apply w_mif | with_reducible apply w_asg | with_reducible apply w_ret | with_reducible apply v_expr
  | ((with_reducible apply w_app); exact rfl) | with_reducible apply w_par | with_reducible apply w_asgT | with_reducible apply w_frz | ((with_reducible apply w_aug); exact rfl)
  | with_reducible apply putR_v | with_reducible apply putR_f | with_reducible exact ret_v | with_reducible exact ret_f | ((with_reducible apply ret_b); walk_at "no")
  | ((with_reducible apply ite_no); walk_at "no") | ((with_reducible apply ite_yes); walk_at "no")
  | ((with_reducible apply w_retO); exact rfl) | with_reducible exact retS_v | with_reducible exact retS_o
  | walk_at "f" | walk_at "d" | walk_at "g"
  | ((with_reducible apply w_set); (simp only [List.set_cons_zero, List.set_cons_succ]; try exact rfl))
  | ((with_reducible apply w_start); (simp only [startE, List.map, List.length, List.replicate, List.cons_append, List.nil_append, Nat.reduceSub, Nat.reduceAdd]; try exact rfl))
  | ((with_reducible apply w_frzn); (simp only [frz, List.getElem?_cons_zero, List.getElem?_cons_succ, List.set_cons_zero, List.set_cons_succ]; try exact rfl))
  | ((with_reducible apply w_wipe); (simp only [wipeA, List.set_cons_zero, List.set_cons_succ]; try exact rfl))
  | ((with_reducible apply w_put); (simp only [Tg.put, putAll, List.set_cons_zero, List.set_cons_succ]; try exact rfl))
  | with_reducible exact truB _ | with_reducible exact rfl)
local macro_rules | `(tactic| walk_at "go") => `(tactic| repeat first | ((with_reducible apply w_seq); (focus (walk_at "ev"; done))) | ((with_reducible apply w_frz); (focus (walk_at "ev"; done))))
local macro_rules | `(tactic| walk_at "un") => `(tactic| ((with_reducible apply w_for); (focus (walk_at "ev"; done)); (repeat ((with_reducible apply w_forc); (focus (walk_at "ev"; done)); (focus (walk_at "ev"; done)))); with_reducible exact w_for0))

/-! FnB: turns, makers, common divisors -/
theorem w_wh0 {α : En} {ta : MB} {s : MS} {m : Nat} {k : Bool} (h : ta α = .ok k) (hk : k = false) : whileM (m + 1) ta s α = .nx α := by subst hk; exact v_whF h
theorem w_wh1 {α β : En} {ta : MB} {s : MS} {m : Nat} {k : Bool} {o : SO} (h : ta α = .ok k) (hk : k = true) (h1 : s α = .nx β) (h2 : whileM m ta s β = o) : whileM (m + 1) ta s α = o := by subst hk; exact (v_whT h h1).trans h2
section
variable {f : Int × Nu} (D : Drawn f)
include D
theorem zer_ne {x : El f} : x.a ≠ zer f ↔ ¬ x.a = (El.whl D.fd 0).a := by rw [show (El.whl D.fd 0).a = zer f from (zer_whl D.fd).symm]
end

/-! FnC: makers; powers below 0 -/
theorem perm_of {α : Type} [DecidableEq α] : ∀ (L M : List α), L.Nodup → (∀ x ∈ L, x ∈ M) → M.length ≤ L.length → L.Perm M
  | [], M, _, _, h => by
    have : M = [] := List.eq_nil_of_length_eq_zero (by simpa using h)
    subst this; exact .nil
  | a :: L, M, hn, hs, h => by
    have ha : a ∈ M := hs a List.mem_cons_self
    have hp := List.perm_cons_erase ha
    obtain ⟨h1, h2⟩ := List.nodup_cons.mp hn
    have ih := perm_of L (M.erase a) h2 (fun x hx => by
      have hne : x ≠ a := fun e => h1 (by rw [← e]; exact hx)
      exact (List.mem_erase_of_ne hne).mpr (hs x (List.mem_cons_of_mem _ hx))) (by rw [List.length_erase_of_mem ha]; simp at h; omega)
    exact (List.Perm.cons a ih).trans hp.symm
section
variable {f : Int × Nu} (D : Drawn f)
include D
end

/-! FnD: more words -/
theorem w_ch {α : En} {a b c : M} {g g' : G2} {r r' r'' : R} {k : Bool} {o : Out R} (h : a α = .ok r) (h' : b α = .ok r') (h'' : c α = .ok r'') (h2 : g r.d r'.d = .ok ⟨.v, .bool k⟩) (h3 : (if k = true then g' r'.d r''.d else .ok ⟨.v, .bool false⟩) = o) : mCh g g' a b c α = o := by
  unfold mCh; rw [h, h']; show (asB (g r.d r'.d)).bind _ = _; rw [h2]
  show (if k = true then (c α).bind (fun z => g' r'.d z.d) else boolR false) = o
  rw [h'']; exact h3
theorem C_wholeL (z : Int) : m__law_whole [.int z] = .ok ⟨.v, .bool true⟩ := rfl
theorem nT : (!true) = false := rfl
theorem nF : (!false) = true := rfl

end FM

namespace FM
open PySem FS L2
local macro_rules | `(tactic| walk_at "f") => `(tactic| first
  | with_reducible exact L_plus ‹Drawn _› _ _ | with_reducible exact L_times ‹Drawn _› _ _ | with_reducible exact C_oneL ‹Drawn _› | with_reducible exact C_noughtL ‹Drawn _› | with_reducible exact C_nought ‹Drawn _› | with_reducible exact C_whole ‹Drawn _› _
  | with_reducible exact E_sum ‹Drawn _› _ _ | with_reducible exact E_prod ‹Drawn _› _ _ | with_reducible exact C_less ‹Drawn _› _ _ | with_reducible exact C_plus ‹Drawn _› _ _ | with_reducible exact C_minus ‹Drawn _› _ _ | with_reducible exact C_times ‹Drawn _› _ _
  | with_reducible exact C_checked ‹Drawn _› | with_reducible exact C_look1 ‹Drawn _› _ | with_reducible exact C_look2 ‹Drawn _› _ _ | with_reducible exact C_size_of ‹Drawn _›
  | with_reducible exact C_sizeL ‹Drawn _› | with_reducible exact C_numbers ‹Drawn _› | with_reducible exact C_all ‹Drawn _› | with_reducible exact C_rowsL ‹Drawn _›
  | with_reducible exact e_is_within _ _ _)
local macro_rules | `(tactic| walk_at "g") => `(tactic| first
  | with_reducible exact C_wholeL _ | with_reducible exact C_makers ‹Drawn _› | with_reducible exact C_turns ‹Drawn _› (by assumption) | with_reducible exact C_turns_of ‹Drawn _› (by assumption) | with_reducible exact C_turnsL ‹Drawn _› (by assumption) | with_reducible exact C_look_number ‹Drawn _› (by assumption) | with_reducible exact C_powerZ ‹Drawn _› (by assumption) (by omega) (by omega)
  | with_reducible exact C_raised1 ‹Drawn _› _ | with_reducible exact C_raisedL1 ‹Drawn _› _
  | with_reducible exact E_trace ‹Drawn _› _ (by assumption) (by assumption) | with_reducible exact E_norm ‹Drawn _› _ (by assumption) (by assumption)
  | with_reducible exact C_lesser ‹Drawn _› (by assumption) (by assumption) | with_reducible exact E_look_part ‹Drawn _› (by assumption) (by assumption) | with_reducible exact E_look_part0 ‹Drawn _› (by assumption) (by assumption)
  | with_reducible exact C_raisedN ‹Drawn _› _ _ | with_reducible exact C_raisedM ‹Drawn _› _ (by omega) | with_reducible exact C_raisedLN ‹Drawn _› _ (by omega) | with_reducible exact C_powerLN ‹Drawn _› _ (by omega)
  | with_reducible exact C_raisedLZ ‹Drawn _› _ (by omega) (by omega) | with_reducible exact C_powerLZ ‹Drawn _› _ (by omega) (by omega) | with_reducible exact C_raisedZ ‹Drawn _› _ (by omega) | with_reducible exact C_raisedMZ ‹Drawn _› _ (by omega) (by omega))
local macro_rules | `(tactic| walk_at "d") => `(tactic| first
  | with_reducible exact ixF0 _ | with_reducible exact ixF1 _ | with_reducible exact addD_int _ _ | with_reducible exact subD_int _ _ | with_reducible exact negD_int _
  | with_reducible exact len_eN _ | with_reducible exact d_len _ | with_reducible exact d_lenT _ | with_reducible exact len_tup _ | with_reducible exact len_lst _ | with_reducible exact tup_lst _ | with_reducible exact lst_tup _
  | with_reducible exact d_eqN _ _ | with_reducible exact d_neN _ _ | with_reducible exact d_eqI _ _ | with_reducible exact d_neI _ _ | with_reducible exact d_lt _ _ | with_reducible exact d_le _ _ | with_reducible exact d_gt _ _ | with_reducible exact d_ge _ _
  | with_reducible exact d_eqL _ _ | with_reducible exact d_neL _ _ | with_reducible exact d_eqT _ _ | with_reducible exact d_neT _ _ | with_reducible exact d_inL _ _ | with_reducible exact d_ninL _ _
  | with_reducible exact d_ix0 _ _ | with_reducible exact d_ix1 _ _ _ | with_reducible exact d_ixt0 _ _ | with_reducible exact d_ixt1 _ _ _ | with_reducible exact d_tt | with_reducible exact d_ntt
  | with_reducible exact it_lst _ | with_reducible exact it_tup _ | with_reducible exact it_eN _
  | ((with_reducible apply modD_int); omega) | ((with_reducible apply fdivD_int); omega) | ((with_reducible refine mulD_int (.inl ?_)); omega) | ((with_reducible refine mulD_int (.inr ?_)); omega)
  | ((with_reducible apply rng1_nat); omega) | ((with_reducible apply rng1_int); omega) | ((with_reducible apply rng2_int); omega)
  | ((with_reducible apply d_rep); omega) | ((with_reducible apply w_maplen); first | with_reducible assumption | omega | ((with_reducible apply w_rlen); omega)))
local macro_rules | `(tactic| walk_at "no") => `(tactic| first
  | with_reducible exact rfl | with_reducible exact nT | with_reducible exact nF | with_reducible assumption
  | ((with_reducible apply dT); first | with_reducible exact rfl | with_reducible assumption | omega)
  | ((with_reducible apply dF); first | with_reducible assumption | omega)
  | ((with_reducible apply dNT); first | with_reducible exact rfl | with_reducible assumption | omega)
  | ((with_reducible apply dNF); first | with_reducible assumption | omega))
local macro_rules | `(tactic| walk_at "ev") => `(tactic| repeat' first
  | with_reducible exact v_c | with_reducible exact v_A0 | with_reducible exact v_O0 | with_reducible exact w_yes | with_reducible exact w_next
  | ((with_reducible apply w_eq); with_reducible assumption)
  | ((with_reducible apply v_var); exact rfl) | ((with_reducible apply v_own); exact rfl)
  | with_reducible apply v_A | with_reducible apply v_m2 | with_reducible apply w_F | with_reducible apply w_B1 | with_reducible apply w_B2 | with_reducible apply v_B | with_reducible apply v_tB | with_reducible apply v_m1
  | with_reducible exact stR_v | with_reducible exact stR_f | with_reducible exact s_0 | with_reducible apply s_c
  | ((with_reducible apply w_len); exact rfl) | ((with_reducible apply w_ble); exact rfl) | ((with_reducible apply w_own); exact rfl)
  | with_reducible apply w_Tu | with_reducible apply w_L
  | with_reducible apply v_Sl | with_reducible apply v_O1 | with_reducible apply v_iV | with_reducible apply w_iB
  | with_reducible apply v_not | with_reducible apply v_T | with_reducible apply w_or | with_reducible apply w_and
  | with_reducible apply w_ch | with_reducible apply w_vAnd | with_reducible apply w_vNot | with_reducible apply w_vOr
  | with_reducible apply w_seq | with_reducible apply w_if | with_reducible apply w_mif | with_reducible apply w_asg | with_reducible apply w_ret | with_reducible apply v_expr
  | ((with_reducible apply w_app); exact rfl) | with_reducible apply w_par | with_reducible apply w_asgT | with_reducible apply w_frz | ((with_reducible apply w_aug); exact rfl)
  | with_reducible apply putR_v | with_reducible apply putR_f | with_reducible exact ret_v | with_reducible exact ret_f | ((with_reducible apply ret_b); walk_at "no")
  | ((with_reducible apply ite_no); walk_at "no") | ((with_reducible apply ite_yes); walk_at "no")
  | ((with_reducible apply w_retO); exact rfl) | with_reducible exact retS_v | with_reducible exact retS_o
  | walk_at "f" | walk_at "d" | walk_at "g"
  | ((with_reducible apply w_set); (simp only [List.set_cons_zero, List.set_cons_succ]; try exact rfl))
  | ((with_reducible apply w_start); (simp only [startE, List.map, List.length, List.replicate, List.cons_append, List.nil_append, Nat.reduceSub, Nat.reduceAdd]; try exact rfl))
  | ((with_reducible apply w_frzn); (simp only [frz, List.getElem?_cons_zero, List.getElem?_cons_succ, List.set_cons_zero, List.set_cons_succ]; try exact rfl))
  | ((with_reducible apply w_wipe); (simp only [wipeA, List.set_cons_zero, List.set_cons_succ]; try exact rfl))
  | ((with_reducible apply w_put); (simp only [Tg.put, putAll, List.set_cons_zero, List.set_cons_succ]; try exact rfl))
  | with_reducible exact truB _ | with_reducible exact rfl)
local macro_rules | `(tactic| walk_at "go") => `(tactic| repeat first | ((with_reducible apply w_seq); (focus (walk_at "ev"; done))) | ((with_reducible apply w_frz); (focus (walk_at "ev"; done))))
local macro_rules | `(tactic| walk_at "un") => `(tactic| ((with_reducible apply w_for); (focus (walk_at "ev"; done)); (repeat ((with_reducible apply w_forc); (focus (walk_at "ev"; done)); (focus (walk_at "ev"; done)))); with_reducible exact w_for0))

/-! FnE: homes, how many numbers a lesser field has, towers -/
theorem e__law_rows {p n : Nat} (hp1 : 1 ≤ p) (hp : p ≤ 1000) (hn1 : 1 ≤ n) (hn : n ≤ 1000) (hs : p ^ n ≤ 1000) : m__law_rows [.int (p : Int), .int (n : Int)] = .ok ⟨.v, .list ((rowsT p n).map eN)⟩ := by
  have inner : ∀ (k : Nat) (l : List Nu), k ≤ 1000 → (∀ r ∈ l, r.length = k) → l.length * p ≤ 1000 → ∀ (s3 t5 t6 : Sv), nown t6 → ∃ α', forM (.nm 5) (sAsg 4 (m2 addD (mV 4) (mLC (iB rng1 (mA (mV 0) mA0)) (.nm 6) bYes (m2 addD (mV 5) (mTu (mA (mV 6) mA0))) [6]))) (l.map eN) [.val (.int (p : Int)), .val (.int (n : Int)), .val (.list (l.map eN)), s3, .own [], t5, t6] = .nx α' ∧ ∃ t5 t6, nown t6 ∧ α' = [.val (.int (p : Int)), .val (.int (n : Int)), .val (.list (l.map eN)), s3, .own ((l.flatMap (nxt p)).map eN), t5, t6] := by
    intro k l hk hl hlen s3 t5 t6 h6
    refine forM_run eN l (fun pre α => ∃ t5 t6, nown t6 ∧ α = [.val (.int (p : Int)), .val (.int (n : Int)), .val (.list (l.map eN)), s3, .own ((pre.flatMap (nxt p)).map eN), t5, t6]) _ ⟨t5, t6, h6, rfl⟩ fun pre r α ⟨t5, t6, h6, e⟩ ⟨s, hs⟩ => ?_
    subst e
    have hr : r.length = k := hl r (by rw [hs]; simp)
    have m := rows_more (s1 := .val (.int (n : Int))) (s2 := .val (.list (l.map eN))) (s3 := s3) (s4 := .own ((pre.flatMap (nxt p)).map eN)) (t := t6) hp (r := r) (by omega) h6
    refine ⟨_, _, rfl, v_asgF (v_m2 (v_own rfl) m (o := .ok ⟨.f, .list ((pre.flatMap (nxt p)).map eN ++ (nxt p r).map eN)⟩) ?_), .val (eN r), t6, h6, ?_⟩
    · show (if ((pre.flatMap (nxt p)).map eN).length + ((nxt p r).map eN).length ≤ sizeLine then _ else _) = _
      rw [if_pos]
      refine len_line ?_
      rw [List.length_map, List.length_map, len_flat]
      have : (nxt p r).length = p := by unfold nxt; simp
      rw [this]
      have h1 : (pre.length + 1) ≤ l.length := by rw [hs]; simp
      have h2 : (pre.length + 1) * p ≤ l.length * p := Nat.mul_le_mul_right p h1
      rw [Nat.succ_mul] at h2
      omega
    · show [_, _, _, _, Sv.own _, _, _] = _
      rw [List.flatMap_append, List.map_append]
      simp
  have outer := forM_run (T := .nm 3) (b := mSeq (sAsg 4 (mL mA0)) (mFrz 2 (mSeq (sFor (iV (mV 2)) (.nm 5) (sAsg 4 (m2 addD (mV 4) (mLC (iB rng1 (mA (mV 0) mA0)) (.nm 6) bYes (m2 addD (mV 5) (mTu (mA (mV 6) mA0))) [6])))) (mFrz 4 (sAsg 2 (mV 4)))))) (fun (j : Nat) => PyData.int (0 + (j : Int))) (List.range n)
    (fun pre α => ∃ s2 s3 s4 t5 t6, nown t6 ∧ ((pre = [] ∧ s2 = .own [.tuple []]) ∨ (pre ≠ [] ∧ s2 = .val (.list ((rowsT p pre.length).map eN)))) ∧ α = [.val (.int (p : Int)), .val (.int (n : Int)), s2, s3, s4, t5, t6])
    [.val (.int (p : Int)), .val (.int (n : Int)), .own [.tuple []], .un, .un, .un, .un] ⟨_, _, _, _, _, .un, .inl ⟨rfl, rfl⟩, rfl⟩ fun pre k α ⟨s2, s3, s4, t5, t6, h6, h2, e⟩ ⟨s, hs'⟩ => by
      subst e
      have hkl : pre.length < n := by
        have := congrArg List.length hs'
        rw [List.length_range, List.length_append, List.length_cons] at this
        omega
      have hz : (rowsT p pre.length).length * p ≤ 1000 := by
        rw [rowsT_len, ← Nat.pow_succ]
        exact Nat.le_trans (pow_le' hp1 hkl) hs
      obtain ⟨α', hα, u5, u6, hu, e⟩ := inner pre.length (rowsT p pre.length) (by omega) (fun r hr => (rowsT_num hr).1) hz (.val (.int (0 + (k : Int)))) t5 t6 h6
      subst e
      refine ⟨_, _, rfl, (v_seq (v_asgF (v_L v_A0 rfl rfl))).trans ?_, .val (.list ((rowsT p (pre ++ [k]).length).map eN)), .val (.int (0 + (k : Int))), .val (.list ((rowsT p (pre ++ [k]).length).map eN)), u5, u6, hu, .inr ⟨by simp, rfl⟩, rfl⟩
      have hf : frz 2 [.val (.int (p : Int)), .val (.int (n : Int)), s2, .val (.int (0 + (k : Int))), .own [], t5, t6] = [.val (.int (p : Int)), .val (.int (n : Int)), .val (.list ((rowsT p pre.length).map eN)), .val (.int (0 + (k : Int))), .own [], t5, t6] := by
        rcases h2 with ⟨h, rfl⟩ | ⟨h, rfl⟩
        · subst h; rfl
        · rfl
      refine w_frz hf (w_seq (w_for (v_iV (v_var rfl) rfl rfl) hα) (w_frz rfl ?_))
      rw [List.length_append, List.length_singleton, rowsT_succ]
      exact v_asg (v_var rfl)
  obtain ⟨α', h1, s2, s3, s4, t5, t6, h6, h2, e⟩ := outer
  subst e
  rw [List.length_range] at h2
  have h2 : s2 = .val (.list ((rowsT p n).map eN)) := by
    rcases h2 with ⟨h, _⟩ | ⟨_, h⟩
    · have := congrArg List.length h
      rw [List.length_range] at this
      simp at this; omega
    · exact h
  subst h2
  exact v_body ((v_seq (v_asgF (v_L (v_A (v_Tu v_A0 rfl rfl) v_A0) rfl rfl))).trans ((v_seq ((v_for (v_iB (v_A (v_var rfl) v_A0) rfl (rng1_nat (by omega)))).trans h1)).trans (v_retV rfl)))
theorem d_last {τ : Type} {enc : τ → PyData} (l : List τ) (x : τ) : ixD (.list ((l ++ [x]).map enc)) (.int (-1)) = .ok ⟨.v, enc x⟩ := by
  refine ixl_of ?_
  have hl : ((l ++ [x]).map enc).length = l.length + 1 := by simp
  have e : ixN ((l ++ [x]).map enc).length (-1) = some l.length := by
    unfold ixN
    rw [if_neg (by omega), hl, if_pos (by omega)]
    congr 1
    omega
  unfold atI
  rw [e]
  show ((l ++ [x]).map enc)[l.length]? = _
  simp
theorem d_neB (a b : Bool) : neD (.bool a) (.bool b) = .ok ⟨.v, .bool (a != b)⟩ := by cases a <;> cases b <;> rfl
section
variable {f : Int × Nu} (D : Drawn f)
/-- in how many steps a number is raised to itself -/
structure IsHome (x : El f) (d : Nat) : Prop where
  pos : 1 ≤ d
  rnd : ra f D d x = x
  least : ∀ k, 1 ≤ k → k < d → ra f D k x ≠ x
theorem home_ex (x : El f) : ∃ d, IsHome D x d ∧ d ≤ f.2.length := by
  have n1 := D.good.n1
  obtain ⟨k, h1, h2, h3⟩ := least_ex (p := fun k => 1 ≤ k ∧ ra f D k x = x) f.2.length ⟨n1, D.ra_round x⟩
  exact ⟨k, ⟨h2.1, h2.2, fun j hj hk e => h3 j hk ⟨hj, e⟩⟩, h1⟩
theorem ra_mulk {x : El f} {d : Nat} (h : ra f D d x = x) : ∀ q, ra f D (d * q) x = x
  | 0 => ra_0 D x
  | q + 1 => by rw [Nat.mul_succ, ← D.ra_ra, ra_mulk h q, h]
variable {D}
theorem IsHome.dvd {x : El f} {d : Nat} (h : IsHome D x d) (k : Nat) : ra f D k x = x ↔ d ∣ k := by
  constructor
  · intro e
    have hk : k = d * (k / d) + k % d := (Nat.div_add_mod k d).symm
    rw [hk, ← D.ra_ra, ra_mulk D h.rnd] at e
    by_cases hr : k % d = 0
    · exact Nat.dvd_of_mod_eq_zero hr
    · exact absurd e (h.least _ (by omega) (Nat.mod_lt _ h.pos))
  · rintro ⟨q, rfl⟩
    exact ra_mulk D h.rnd q
variable (D)
def alikeE (f : Int × Nu) (D : Drawn f) (x : El f) (d : Nat) : List (El f) := (List.range d).map fun t => ra f D t x
end

/-! FnF: how many numbers a lesser field has; quotients -/
section
variable {f : Int × Nu} (D : Drawn f)
include D
theorem pow_eq_iff {g : El f} {N : Nat} (hg : IsOrd D g N) (i j : Nat) : El.pow D.fd g (i + j) = El.pow D.fd g i ↔ N ∣ j := by
  rw [← hg.dvd]
  constructor
  · intro e
    have h1 : El.pow D.fd g ((i + j) + i * (N - 1)) = El.pow D.fd g (i + i * (N - 1)) := by rw [El.pow_add D.fd g (i + j), e, ← El.pow_add]
    have hN := hg.pos
    have e2 : i + i * (N - 1) = N * i := by
      obtain ⟨M, rfl⟩ : ∃ M, N = M + 1 := ⟨N - 1, by omega⟩
      rw [Nat.add_sub_cancel, Nat.succ_mul, Nat.mul_comm i M, Nat.add_comm]
    rw [show (i + j) + i * (N - 1) = N * i + j from by omega, e2, El.pow_add, hg.mul, El.one_mul] at h1
    exact h1
  · intro e
    rw [El.pow_add, e, El.mul_one]
end

/-! FnG: rows without end, as a ring -/
section
variable {R : Type} [Lean.Grind.CommRing R]
def cv (f g : Nat → R) : Nat → R
  | 0 => f 0 * g 0
  | k + 1 => f 0 * g (k + 1) + cv (fun i => f (i + 1)) g k
theorem cv_last (g : Nat → R) : ∀ (k : Nat) (f : Nat → R), cv f g (k + 1) = f (k + 1) * g 0 + cv f (fun i => g (i + 1)) k
  | 0, f => by
    show f 0 * g 1 + f 1 * g 0 = f 1 * g 0 + f 0 * g 1
    grind
  | k + 1, f => by
    have ih := cv_last g k (fun i => f (i + 1))
    show f 0 * g (k + 2) + cv (fun i => f (i + 1)) g (k + 1) = f (k + 2) * g 0 + (f 0 * g (k + 2) + cv (fun i => f (i + 1)) (fun i => g (i + 1)) k)
    rw [ih]
    grind
theorem cv_comm : ∀ (k : Nat) (f g : Nat → R), cv f g k = cv g f k
  | 0, f, g => by show f 0 * g 0 = g 0 * f 0; grind
  | k + 1, f, g => by
    rw [cv_last f k g]
    show f 0 * g (k + 1) + cv (fun i => f (i + 1)) g k = _
    rw [cv_comm k (fun i => f (i + 1)) g]
    grind
theorem cv_add : ∀ (k : Nat) (f g h : Nat → R), cv (fun i => f i + g i) h k = cv f h k + cv g h k
  | 0, f, g, h => by show (f 0 + g 0) * h 0 = f 0 * h 0 + g 0 * h 0; grind
  | k + 1, f, g, h => by
    have ih := cv_add k (fun i => f (i + 1)) (fun i => g (i + 1)) h
    show (f 0 + g 0) * h (k + 1) + cv (fun i => f (i + 1) + g (i + 1)) h k = (f 0 * h (k + 1) + cv (fun i => f (i + 1)) h k) + (g 0 * h (k + 1) + cv (fun i => g (i + 1)) h k)
    rw [ih]
    grind
theorem cv_scl (a : R) : ∀ (k : Nat) (f h : Nat → R), cv (fun i => a * f i) h k = a * cv f h k
  | 0, f, h => by show (a * f 0) * h 0 = a * (f 0 * h 0); grind
  | k + 1, f, h => by
    have ih := cv_scl a k (fun i => f (i + 1)) h
    show (a * f 0) * h (k + 1) + cv (fun i => a * f (i + 1)) h k = a * (f 0 * h (k + 1) + cv (fun i => f (i + 1)) h k)
    rw [ih]
    grind
theorem cv_assoc (g h : Nat → R) : ∀ (k : Nat) (f : Nat → R), cv (cv f g) h k = cv f (cv g h) k
  | 0, f => by show f 0 * g 0 * h 0 = f 0 * (g 0 * h 0); grind
  | k + 1, f => by
    have ih := cv_assoc g h k (fun i => f (i + 1))
    have e : (fun i => cv f g (i + 1)) = fun i => f 0 * g (i + 1) + cv (fun j => f (j + 1)) g i := rfl
    show f 0 * g 0 * h (k + 1) + cv (fun i => cv f g (i + 1)) h k = f 0 * (g 0 * h (k + 1) + cv (fun i => g (i + 1)) h k) + cv (fun i => f (i + 1)) (cv g h) k
    rw [e, cv_add, cv_scl, ih]
    grind
theorem cv_zero (h : Nat → R) : ∀ k, cv (fun _ => (0 : R)) h k = 0
  | 0 => by show (0 : R) * h 0 = 0; grind
  | k + 1 => by
    show (0 : R) * h (k + 1) + cv (fun _ => (0 : R)) h k = 0
    rw [cv_zero h k]
    grind
theorem cv_one (h : Nat → R) : ∀ k, cv (fun i => if i = 0 then (1 : R) else 0) h k = h k
  | 0 => by show (1 : R) * h 0 = h 0; grind
  | k + 1 => by
    have e : (fun i => if i + 1 = 0 then (1 : R) else 0) = fun _ => 0 := by funext i; rw [if_neg (by omega)]
    show (1 : R) * h (k + 1) + cv (fun i => if i + 1 = 0 then (1 : R) else 0) h k = h (k + 1)
    rw [e, cv_zero]
    grind
end
/-- a row without end -/
structure Ps (R : Type) where
  c : Nat → R
theorem Ps.ext' {R : Type} {p q : Ps R} (h : ∀ k, p.c k = q.c k) : p = q := by cases p; cases q; congr 1; funext k; exact h k
section
variable {R : Type} [I : Lean.Grind.CommRing R]
def Ps.con (a : R) : Ps R := ⟨fun i => if i = 0 then a else 0⟩
def Ps.mul (p q : Ps R) : Ps R := ⟨cv p.c q.c⟩
def Ps.add (p q : Ps R) : Ps R := ⟨fun i => p.c i + q.c i⟩
def Ps.pow (p : Ps R) : Nat → Ps R
  | 0 => Ps.con 1
  | k + 1 => Ps.mul (Ps.pow p k) p
theorem Ps.mulc (p q : Ps R) : Ps.mul p q = Ps.mul q p := Ps.ext' fun k => cv_comm k _ _
theorem Ps.con_mul (a : R) (p : Ps R) : Ps.mul (Ps.con a) p = ⟨fun i => a * p.c i⟩ := Ps.ext' fun k => by
  have e : (Ps.con a).c = fun i => a * (if i = 0 then (1 : R) else 0) := by
    funext i
    show (if i = 0 then a else 0) = _
    by_cases h : i = 0
    · rw [if_pos h, if_pos h]; grind
    · rw [if_neg h, if_neg h]; grind
  show cv (Ps.con a).c p.c k = a * p.c k
  rw [e, cv_scl, cv_one]
@[reducible] def Ps.semi : Lean.Grind.Semiring (Ps R) where
  add := Ps.add
  mul := Ps.mul
  natCast := ⟨fun k => Ps.con (OfNat.ofNat k)⟩
  ofNat := fun k => ⟨Ps.con (OfNat.ofNat k)⟩
  nsmul := ⟨fun k x => Ps.mul (Ps.con (OfNat.ofNat k)) x⟩
  npow := ⟨fun x k => Ps.pow x k⟩
  add_zero := fun x => Ps.ext' fun k => by
    show x.c k + (if k = 0 then (0 : R) else 0) = x.c k
    by_cases h : k = 0
    · rw [if_pos h]; grind
    · rw [if_neg h]; grind
  add_comm := fun x y => Ps.ext' fun k => by show x.c k + y.c k = y.c k + x.c k; grind
  add_assoc := fun x y z => Ps.ext' fun k => by show x.c k + y.c k + z.c k = x.c k + (y.c k + z.c k); grind
  mul_assoc := fun x y z => Ps.ext' fun k => cv_assoc _ _ k _
  mul_one := fun x => by
    show Ps.mul x (Ps.con 1) = x
    rw [Ps.mulc]
    exact Ps.ext' fun k => cv_one _ k
  one_mul := fun x => Ps.ext' fun k => cv_one _ k
  left_distrib := fun x y z => by
    show Ps.mul x (Ps.add y z) = Ps.add (Ps.mul x y) (Ps.mul x z)
    rw [Ps.mulc, Ps.mulc x y, Ps.mulc x z]
    exact Ps.ext' fun k => cv_add k _ _ _
  right_distrib := fun x y z => Ps.ext' fun k => cv_add k _ _ _
  zero_mul := fun x => by
    show Ps.mul (Ps.con 0) x = Ps.con 0
    rw [Ps.con_mul]
    exact Ps.ext' fun k => by
      show 0 * x.c k = if k = 0 then (0 : R) else 0
      by_cases h : k = 0
      · rw [if_pos h]; grind
      · rw [if_neg h]; grind
  mul_zero := fun x => by
    show Ps.mul x (Ps.con 0) = Ps.con 0
    rw [Ps.mulc, Ps.con_mul]
    exact Ps.ext' fun k => by
      show 0 * x.c k = if k = 0 then (0 : R) else 0
      by_cases h : k = 0
      · rw [if_pos h]; grind
      · rw [if_neg h]; grind
  pow_zero := fun x => rfl
  pow_succ := fun x k => rfl
  ofNat_succ := fun k => Ps.ext' fun i => by
    show (if i = 0 then (OfNat.ofNat (k + 1) : R) else 0) = (if i = 0 then (OfNat.ofNat k : R) else 0) + (if i = 0 then (1 : R) else 0)
    by_cases h : i = 0
    · rw [if_pos h, if_pos h, if_pos h]; exact Lean.Grind.Semiring.ofNat_succ k
    · rw [if_neg h, if_neg h, if_neg h]; grind
end
section
variable {R : Type} [I : Lean.Grind.CommRing R]
def icR (i : Int) : R := (Lean.Grind.Ring.intCast (α := R)).intCast i
theorem icR_nat (n : Nat) : icR (R := R) (n : Int) = OfNat.ofNat n := Lean.Grind.Ring.intCast_ofNat (α := R) n
@[reducible] def Ps.ring : Lean.Grind.Ring (Ps R) where
  toSemiring := Ps.semi
  neg := fun x => ⟨fun i => - x.c i⟩
  sub := fun x y => ⟨fun i => x.c i - y.c i⟩
  intCast := ⟨fun i => Ps.con (icR i)⟩
  zsmul := ⟨fun i x => Ps.mul (Ps.con (icR i)) x⟩
  neg_add_cancel := fun x => Ps.ext' fun k => by
    show - x.c k + x.c k = if k = 0 then (0 : R) else 0
    by_cases h : k = 0
    · rw [if_pos h]; grind
    · rw [if_neg h]; grind
  sub_eq_add_neg := fun x y => Ps.ext' fun k => by show x.c k - y.c k = x.c k + - y.c k; grind
  neg_zsmul := fun i x => Ps.ext' fun k => by
    show (Ps.mul (Ps.con (icR (-i))) x).c k = - (Ps.mul (Ps.con (icR i)) x).c k
    rw [Ps.con_mul, Ps.con_mul]
    show icR (-i) * x.c k = -(icR i * x.c k)
    have : icR (R := R) (-i) = - icR i := Lean.Grind.Ring.intCast_neg (α := R) i
    grind
  intCast_neg := fun i => Ps.ext' fun k => by
    show (if k = 0 then (icR (-i) : R) else 0) = -(if k = 0 then (icR i : R) else 0)
    by_cases h : k = 0
    · rw [if_pos h, if_pos h]; exact Lean.Grind.Ring.intCast_neg (α := R) i
    · rw [if_neg h, if_neg h]; grind
  intCast_ofNat := fun n => Ps.ext' fun k => by
    show (if k = 0 then (icR (n : Int) : R) else 0) = if k = 0 then (OfNat.ofNat n : R) else 0
    rw [icR_nat]
  zsmul_natCast_eq_nsmul := fun n x => by
    show Ps.mul (Ps.con (icR (n : Int))) x = Ps.mul (Ps.con (OfNat.ofNat n)) x
    rw [icR_nat]
@[reducible] def Ps.comR : Lean.Grind.CommRing (Ps R) := letI := Ps.ring (R := R); ⟨fun x y => Ps.mulc x y⟩
end
theorem ex_set {α β : En} {i : Nat} {b a : M} {ds : List PyData} {r : R} {d : PyData} {z : Int} {m : Nat} (h : α[i]? = some (.own ds)) (h2 : a α = .ok r) (h3 : stR r = .ok d) (h4 : b α = .ok ⟨.v, .int z⟩) (h5 : ixN ds.length z = some m) (h6 : α.set i (.own (ds.set m d)) = β) : sSet i b a α = .nx β := by subst h6; exact v_set h h2 h3 h4 h5
theorem turnE {T : Tg} {b : MS} {d : PyData} {P : En → Prop} {α β : En} (h : T.put d α = some β) (h1 : ∃ γ, b β = .nx γ ∧ P γ) : Turn T b d P α := by
  obtain ⟨γ, h1, h2⟩ := h1
  exact ⟨β, γ, h, h1, h2⟩
theorem x_seq {s t : MS} {α β : En} {P : En → Prop} (h : s α = .nx β) (h2 : ∃ γ, t β = .nx γ ∧ P γ) : ∃ γ, mSeq s t α = .nx γ ∧ P γ := by
  obtain ⟨γ, h2, h3⟩ := h2
  exact ⟨γ, w_seq h h2, h3⟩

/-! FnH: rows of numbers: what they come to, products -/
section
variable {f : Int × Nu} (D : Drawn f)
/-- the figures of a row, without end -/
def cf (f : Int × Nu) (D : Drawn f) (l : List (El f)) (k : Nat) : El f := l.getD k (El.whl D.fd 0)
/-- what a row comes to -/
def valE (f : Int × Nu) (D : Drawn f) (x : El f) : List (El f) → El f
  | [] => El.whl D.fd 0
  | c :: l => El.add D.fd (El.mul D.fd (valE f D x l) x) c
def cvE (f : Int × Nu) (D : Drawn f) (a b : Nat → El f) : Nat → El f := @cv (El f) (El.comR D.fd) a b
def rmul (f : Int × Nu) (D : Drawn f) (a b : List (El f)) : List (El f) := if a = [] ∨ b = [] then [] else (List.range (a.length + b.length - 1)).map (cvE f D (cf f D a) (cf f D b))
/-- a product as a sum -/
theorem cv_sm (g : Nat → El f) : ∀ (n : Nat) (a : Nat → El f) (k : Nat), (∀ t, n ≤ t → a t = El.whl D.fd 0) → cvE f D a g k = Sm (El.add D.fd) (El.whl D.fd 0) (fun t => if t ≤ k then El.mul D.fd (a t) (g (k - t)) else El.whl D.fd 0) n
  | 0, a, k, h => by
    have e : a = fun _ => El.whl D.fd 0 := by funext t; exact h t (Nat.zero_le t)
    rw [e]
    exact @cv_zero (El f) (El.comR D.fd) g k
  | n + 1, a, 0, h => by
    rw [sm_first (moA D.fd)]
    have e : Sm (El.add D.fd) (El.whl D.fd 0) (fun t => if t + 1 ≤ 0 then El.mul D.fd (a (t + 1)) (g (0 - (t + 1))) else El.whl D.fd 0) n = El.whl D.fd 0 := by
      exact (sm_congr fun t _ => if_neg (show ¬ t + 1 ≤ 0 by omega)).trans (sm_e (moA D.fd) n)
    rw [e, (moA D.fd).u, if_pos (Nat.le_refl 0)]
    rfl
  | n + 1, a, k + 1, h => by
    rw [sm_first (moA D.fd), if_pos (Nat.zero_le _)]
    show El.add D.fd (El.mul D.fd (a 0) (g (k + 1))) (cvE f D (fun i => a (i + 1)) g k) = _
    rw [cv_sm g n (fun i => a (i + 1)) k (fun t ht => h (t + 1) (by omega))]
    congr 1
    exact sm_congr fun t _ => by
      by_cases ht : t ≤ k
      · rw [if_pos ht, if_pos (show t + 1 ≤ k + 1 by omega), show k + 1 - (t + 1) = k - t from by omega]
      · rw [if_neg ht, if_neg (show ¬ t + 1 ≤ k + 1 by omega)]
end

/-! FnI: the product of two rows -/
theorem tru_T {τ : Type} {g : τ → PyData} {l : List τ} (h : l ≠ []) : truD (.tuple (l.map g)) = .ok true := by
  cases l with
  | nil => exact absurd rfl h
  | cons a l => rfl
theorem zip_pre {τ : Type} {l : List τ} {pre s : List (τ × Nat)} {q : τ × Nat} (h : l.zipIdx = pre ++ q :: s) : q.2 = pre.length ∧ l[pre.length]? = some q.1 ∧ pre.length < l.length := by
  have h1 : l.zipIdx[pre.length]? = some q := by rw [h]; simp
  rw [List.getElem?_zipIdx] at h1
  cases hl : l[pre.length]? with
  | none => rw [hl] at h1; cases h1
  | some v =>
    rw [hl] at h1
    have h2 : (v, 0 + pre.length) = q := by simpa using h1
    subst h2
    exact ⟨by simp, rfl, by
      obtain ⟨h3, _⟩ := List.getElem?_eq_some_iff.mp hl
      exact h3⟩
section
variable {f : Int × Nu} (D : Drawn f)
theorem cf_at {l : List (El f)} {j : Nat} {x : El f} (h : l[j]? = some x) : cf f D l j = x := by unfold cf; rw [List.getD_eq_getElem?_getD, h]; rfl
theorem cf_out {l : List (El f)} {j : Nat} (h : l.length ≤ j) : cf f D l j = El.whl D.fd 0 := by unfold cf; rw [List.getD_eq_getElem?_getD, List.getElem?_eq_none h]; rfl
end

end FM

namespace FM
open PySem FS L2
/-! FnJ: what is a row; rows cut -/
theorem d_isT (ds : List PyData) : isD .tuple (.tuple ds) = .ok ⟨.v, .bool true⟩ := rfl
theorem d_lastL {f : Int × Nu} (l : List (El f)) (x : El f) : ixD (.list ((l ++ [x]).map fun y => eN y.a)) (.int (-1)) = .ok ⟨.v, eN x.a⟩ := d_last l x
theorem d_lastT {f : Int × Nu} (l : List (El f)) (x : El f) : ixD (.tuple ((l ++ [x]).map fun y => eN y.a)) (.int (-1)) = .ok ⟨.v, eN x.a⟩ := by
  refine ix_of ?_
  have hl : ((l ++ [x]).map fun y => eN y.a).length = l.length + 1 := by simp
  have e : ixN ((l ++ [x]).map fun y => eN y.a).length (-1) = some l.length := by
    unfold ixN
    rw [if_neg (by omega), hl, if_pos (by omega)]
    congr 1
    omega
  unfold atI
  rw [e]
  show ((l ++ [x]).map fun y => eN y.a)[l.length]? = _
  simp
theorem d_lstL (ds : List PyData) : listD [.list ds] = .ok ⟨.f, .list ds⟩ := rfl
theorem d_lstT (ds : List PyData) : listD [.tuple ds] = .ok ⟨.f, .list ds⟩ := rfl
theorem tru_L {τ : Type} {g : τ → PyData} {l : List τ} (h : l ≠ []) : truD (.list (l.map g)) = .ok true := by
  cases l with
  | nil => exact absurd rfl h
  | cons a l => rfl
theorem last_ex {τ : Type} {l : List τ} (h : l ≠ []) : ∃ l' x, l = l' ++ [x] := ⟨l.dropLast, l.getLast h, (List.dropLast_concat_getLast h).symm⟩
local macro_rules | `(tactic| walk_at "f") => `(tactic| first
  | with_reducible exact L_plus ‹Drawn _› _ _ | with_reducible exact L_times ‹Drawn _› _ _ | with_reducible exact C_oneL ‹Drawn _› | with_reducible exact C_noughtL ‹Drawn _› | with_reducible exact C_nought ‹Drawn _› | with_reducible exact C_whole ‹Drawn _› _
  | with_reducible exact E_sum ‹Drawn _› _ _ | with_reducible exact E_prod ‹Drawn _› _ _ | with_reducible exact C_less ‹Drawn _› _ _ | with_reducible exact C_plus ‹Drawn _› _ _ | with_reducible exact C_minus ‹Drawn _› _ _ | with_reducible exact C_times ‹Drawn _› _ _
  | with_reducible exact C_checked ‹Drawn _› | with_reducible exact C_look1 ‹Drawn _› _ | with_reducible exact C_look2 ‹Drawn _› _ _ | with_reducible exact C_size_of ‹Drawn _›
  | with_reducible exact C_sizeL ‹Drawn _› | with_reducible exact C_numbers ‹Drawn _› | with_reducible exact C_all ‹Drawn _› | with_reducible exact C_rowsL ‹Drawn _›
  | with_reducible exact e_is_within _ _ _)
local macro_rules | `(tactic| walk_at "g") => `(tactic| first
  | with_reducible exact C_value_of ‹Drawn _› _ _ | with_reducible exact C_row_times ‹Drawn _› _ _ (by omega)
  | with_reducible exact C_wholeL _ | with_reducible exact C_makers ‹Drawn _› | with_reducible exact C_turns ‹Drawn _› (by assumption) | with_reducible exact C_turns_of ‹Drawn _› (by assumption) | with_reducible exact C_turnsL ‹Drawn _› (by assumption) | with_reducible exact C_look_number ‹Drawn _› (by assumption) | with_reducible exact C_powerZ ‹Drawn _› (by assumption) (by omega) (by omega)
  | with_reducible exact C_raised1 ‹Drawn _› _ | with_reducible exact C_raisedL1 ‹Drawn _› _
  | with_reducible exact E_trace ‹Drawn _› _ (by assumption) (by assumption) | with_reducible exact E_norm ‹Drawn _› _ (by assumption) (by assumption)
  | with_reducible exact C_lesser ‹Drawn _› (by assumption) (by assumption) | with_reducible exact E_look_part ‹Drawn _› (by assumption) (by assumption) | with_reducible exact E_look_part0 ‹Drawn _› (by assumption) (by assumption)
  | with_reducible exact C_raisedN ‹Drawn _› _ _ | with_reducible exact C_raisedM ‹Drawn _› _ (by omega) | with_reducible exact C_raisedLN ‹Drawn _› _ (by omega) | with_reducible exact C_powerLN ‹Drawn _› _ (by omega)
  | with_reducible exact C_raisedLZ ‹Drawn _› _ (by omega) (by omega) | with_reducible exact C_powerLZ ‹Drawn _› _ (by omega) (by omega) | with_reducible exact C_raisedZ ‹Drawn _› _ (by omega) | with_reducible exact C_raisedMZ ‹Drawn _› _ (by omega) (by omega))
local macro_rules | `(tactic| walk_at "d") => `(tactic| first
  | with_reducible exact ixF0 _ | with_reducible exact ixF1 _ | with_reducible exact addD_int _ _ | with_reducible exact subD_int _ _ | with_reducible exact negD_int _
  | with_reducible exact len_eN _ | with_reducible exact d_len _ | with_reducible exact d_lenT _ | with_reducible exact len_tup _ | with_reducible exact len_lst _ | with_reducible exact tup_lst _ | with_reducible exact lst_tup _
  | with_reducible exact d_eqN _ _ | with_reducible exact d_neN _ _ | with_reducible exact d_eqI _ _ | with_reducible exact d_neI _ _ | with_reducible exact d_lt _ _ | with_reducible exact d_le _ _ | with_reducible exact d_gt _ _ | with_reducible exact d_ge _ _
  | with_reducible exact d_eqL _ _ | with_reducible exact d_neL _ _ | with_reducible exact d_eqT _ _ | with_reducible exact d_neT _ _ | with_reducible exact d_inL _ _ | with_reducible exact d_ninL _ _
  | with_reducible exact d_ix0 _ _ | with_reducible exact d_ix1 _ _ _ | with_reducible exact d_ixt0 _ _ | with_reducible exact d_ixt1 _ _ _ | with_reducible exact d_tt | with_reducible exact d_ntt
  | with_reducible exact d_isT _ | with_reducible exact d_lastT _ _ | with_reducible exact d_lastL _ _ | with_reducible exact d_lstL _ | with_reducible exact d_lstT _
  | with_reducible exact it_lst _ | with_reducible exact it_tup _ | with_reducible exact it_eN _
  | ((with_reducible apply modD_int); omega) | ((with_reducible apply fdivD_int); omega) | ((with_reducible refine mulD_int (.inl ?_)); omega) | ((with_reducible refine mulD_int (.inr ?_)); omega)
  | ((with_reducible apply rng1_nat); omega) | ((with_reducible apply rng1_int); omega) | ((with_reducible apply rng2_int); omega)
  | ((with_reducible apply d_rep); omega) | ((with_reducible apply w_maplen); first | with_reducible assumption | omega | ((with_reducible apply w_rlen); omega)))
local macro_rules | `(tactic| walk_at "no") => `(tactic| first
  | with_reducible exact rfl | with_reducible exact nT | with_reducible exact nF | with_reducible assumption
  | ((with_reducible apply dT); first | with_reducible exact rfl | with_reducible assumption | omega)
  | ((with_reducible apply dF); first | with_reducible assumption | omega)
  | ((with_reducible apply dNT); first | with_reducible exact rfl | with_reducible assumption | omega)
  | ((with_reducible apply dNF); first | with_reducible assumption | omega))
local macro_rules | `(tactic| walk_at "ev") => `(tactic| repeat' first
  | with_reducible exact v_c | with_reducible exact v_A0 | with_reducible exact v_O0 | with_reducible exact w_yes | with_reducible exact w_next
  | ((with_reducible apply w_eq); with_reducible assumption)
  | ((with_reducible apply v_var); exact rfl) | ((with_reducible apply v_own); exact rfl)
  | with_reducible apply v_A | with_reducible apply v_m2 | with_reducible apply w_F | with_reducible apply w_B1 | with_reducible apply w_B2 | with_reducible apply v_B | with_reducible apply v_tB | with_reducible apply v_m1
  | with_reducible exact stR_v | with_reducible exact stR_f | with_reducible exact s_0 | with_reducible apply s_c
  | ((with_reducible apply w_len); exact rfl) | ((with_reducible apply w_ble); exact rfl) | ((with_reducible apply w_own); exact rfl)
  | with_reducible apply w_Tu | with_reducible apply w_L
  | with_reducible apply v_Sl | with_reducible apply v_O1 | with_reducible apply v_iV | with_reducible apply w_iB
  | with_reducible apply v_not | with_reducible apply v_T | with_reducible apply w_or | with_reducible apply w_and
  | with_reducible apply w_ch | with_reducible apply w_vAnd | with_reducible apply w_vNot | with_reducible apply w_vOr
  | with_reducible apply w_seq | with_reducible apply w_if | with_reducible apply w_mif | with_reducible apply w_asg | with_reducible apply w_ret | with_reducible apply v_expr
  | ((with_reducible apply w_app); exact rfl) | with_reducible apply w_par | with_reducible apply w_asgT | with_reducible apply w_frz | ((with_reducible apply w_aug); exact rfl)
  | with_reducible apply putR_v | with_reducible apply putR_f | with_reducible exact ret_v | with_reducible exact ret_f | ((with_reducible apply ret_b); walk_at "no")
  | ((with_reducible apply ite_no); walk_at "no") | ((with_reducible apply ite_yes); walk_at "no")
  | ((with_reducible apply w_retO); exact rfl) | with_reducible exact retS_v | with_reducible exact retS_o
  | walk_at "f" | walk_at "d" | walk_at "g"
  | ((with_reducible apply w_set); (simp only [List.set_cons_zero, List.set_cons_succ]; try exact rfl))
  | ((with_reducible apply w_start); (simp only [startE, List.map, List.length, List.replicate, List.cons_append, List.nil_append, Nat.reduceSub, Nat.reduceAdd]; try exact rfl))
  | ((with_reducible apply w_frzn); (simp only [frz, List.getElem?_cons_zero, List.getElem?_cons_succ, List.set_cons_zero, List.set_cons_succ]; try exact rfl))
  | ((with_reducible apply w_wipe); (simp only [wipeA, List.set_cons_zero, List.set_cons_succ]; try exact rfl))
  | ((with_reducible apply w_put); (simp only [Tg.put, putAll, List.set_cons_zero, List.set_cons_succ]; try exact rfl))
  | with_reducible exact truB _ | with_reducible exact rfl)
local macro_rules | `(tactic| walk_at "go") => `(tactic| repeat first | ((with_reducible apply w_seq); (focus (walk_at "ev"; done))) | ((with_reducible apply w_frz); (focus (walk_at "ev"; done))))
local macro_rules | `(tactic| walk_at "un") => `(tactic| ((with_reducible apply w_for); (focus (walk_at "ev"; done)); (repeat ((with_reducible apply w_forc); (focus (walk_at "ev"; done)); (focus (walk_at "ev"; done)))); with_reducible exact w_for0))
section
variable {f : Int × Nu} (D : Drawn f)
/-- the last number is not nought -/
def nf (f : Int × Nu) (D : Drawn f) (l : List (El f)) : Prop := ∀ l' x, l = l' ++ [x] → ¬ x.a = (El.whl D.fd 0).a
theorem nf_nil : nf f D [] := fun l' x h => by simp at h
/-- without noughts at the end -/
def cutE (f : Int × Nu) (D : Drawn f) (l : List (El f)) : List (El f) := (l.reverse.dropWhile fun x => decide (x.a = (El.whl D.fd 0).a)).reverse
theorem cut_0 (l : List (El f)) {x : El f} (h : x.a = (El.whl D.fd 0).a) : cutE f D (l ++ [x]) = cutE f D l := by
  unfold cutE
  rw [List.reverse_append, List.reverse_singleton, List.singleton_append, List.dropWhile_cons, if_pos (decide_eq_true h)]
theorem cut_1 (l : List (El f)) {x : El f} (h : ¬ x.a = (El.whl D.fd 0).a) : cutE f D (l ++ [x]) = l ++ [x] := by
  unfold cutE
  rw [List.reverse_append, List.reverse_singleton, List.singleton_append, List.dropWhile_cons, if_neg (by rw [decide_eq_false h]; decide)]
  simp
theorem cut_ind {P : List (El f) → List (El f) → Prop} (h0 : P [] []) (h1 : ∀ l x, ¬ x.a = (El.whl D.fd 0).a → P (l ++ [x]) (l ++ [x])) (h2 : ∀ l x, x.a = (El.whl D.fd 0).a → P l (cutE f D l) → P (l ++ [x]) (cutE f D l)) : ∀ (n : Nat) (l : List (El f)), l.length ≤ n → P l (cutE f D l)
  | 0, l, h => by
    have : l = [] := List.eq_nil_of_length_eq_zero (by omega)
    subst this; exact h0
  | n + 1, l, h => by
    by_cases hl : l = []
    · subst hl; exact h0
    · obtain ⟨l', x, rfl⟩ := last_ex hl
      by_cases hx : x.a = (El.whl D.fd 0).a
      · rw [cut_0 D l' hx]
        exact h2 l' x hx (cut_ind h0 h1 h2 n l' (by simp at h; omega))
      · rw [cut_1 D l' hx]
        exact h1 l' x hx
theorem cut_nf (l : List (El f)) : nf f D (cutE f D l) :=
  cut_ind D (P := fun _ c => nf f D c) (nf_nil D) (fun l x hx l' y e => by
    obtain ⟨_, e2⟩ := List.append_inj' e rfl
    have : x = y := by simpa using e2
    rw [← this]; exact hx) (fun l x hx ih => ih) l.length l (Nat.le_refl _)
theorem cut_len (l : List (El f)) : (cutE f D l).length ≤ l.length :=
  cut_ind D (P := fun l c => c.length ≤ l.length) (Nat.le_refl _) (fun l x hx => Nat.le_refl _) (fun l x hx ih => by simp; omega) l.length l (Nat.le_refl _)
theorem cut_cf (l : List (El f)) : cf f D (cutE f D l) = cf f D l :=
  cut_ind D (P := fun l c => cf f D c = cf f D l) rfl (fun l x hx => rfl) (fun l x hx ih => by
    rw [ih]
    funext k
    unfold cf
    rw [List.getD_eq_getElem?_getD, List.getD_eq_getElem?_getD]
    by_cases hk : k < l.length
    · rw [List.getElem?_append_left hk]
    · rw [List.getElem?_eq_none (by omega), List.getElem?_append_right (by omega)]
      by_cases h0 : k - l.length = 0
      · rw [h0]
        show El.whl D.fd 0 = x
        exact (El.ext' hx).symm
      · rw [List.getElem?_eq_none (by simp; omega)]) l.length l (Nat.le_refl _)
end
end FM

namespace FM
open PySem FS L2
local macro_rules | `(tactic| walk_at "f") => `(tactic| first
  | with_reducible exact L_plus ‹Drawn _› _ _ | with_reducible exact L_times ‹Drawn _› _ _ | with_reducible exact C_oneL ‹Drawn _› | with_reducible exact C_noughtL ‹Drawn _› | with_reducible exact C_nought ‹Drawn _› | with_reducible exact C_whole ‹Drawn _› _
  | with_reducible exact E_sum ‹Drawn _› _ _ | with_reducible exact E_prod ‹Drawn _› _ _ | with_reducible exact C_less ‹Drawn _› _ _ | with_reducible exact C_plus ‹Drawn _› _ _ | with_reducible exact C_minus ‹Drawn _› _ _ | with_reducible exact C_times ‹Drawn _› _ _
  | with_reducible exact C_checked ‹Drawn _› | with_reducible exact C_look1 ‹Drawn _› _ | with_reducible exact C_look2 ‹Drawn _› _ _ | with_reducible exact C_size_of ‹Drawn _›
  | with_reducible exact C_sizeL ‹Drawn _› | with_reducible exact C_numbers ‹Drawn _› | with_reducible exact C_all ‹Drawn _› | with_reducible exact C_rowsL ‹Drawn _›
  | with_reducible exact e_is_within _ _ _)
local macro_rules | `(tactic| walk_at "g") => `(tactic| first
  | with_reducible exact C_value_of ‹Drawn _› _ _ | with_reducible exact C_row_times ‹Drawn _› _ _ (by omega) | with_reducible exact C_cut ‹Drawn _› _ (by omega) | with_reducible exact C_value ‹Drawn _› (by assumption) (by assumption) _ | with_reducible exact C_multiplied ‹Drawn _› (by assumption) (by assumption) (by assumption) (by assumption)
  | with_reducible exact C_wholeL _ | with_reducible exact C_makers ‹Drawn _› | with_reducible exact C_turns ‹Drawn _› (by assumption) | with_reducible exact C_turns_of ‹Drawn _› (by assumption) | with_reducible exact C_turnsL ‹Drawn _› (by assumption) | with_reducible exact C_look_number ‹Drawn _› (by assumption) | with_reducible exact C_powerZ ‹Drawn _› (by assumption) (by omega) (by omega)
  | with_reducible exact C_raised1 ‹Drawn _› _ | with_reducible exact C_raisedL1 ‹Drawn _› _
  | with_reducible exact E_trace ‹Drawn _› _ (by assumption) (by assumption) | with_reducible exact E_norm ‹Drawn _› _ (by assumption) (by assumption)
  | with_reducible exact C_lesser ‹Drawn _› (by assumption) (by assumption) | with_reducible exact E_look_part ‹Drawn _› (by assumption) (by assumption) | with_reducible exact E_look_part0 ‹Drawn _› (by assumption) (by assumption)
  | with_reducible exact C_raisedN ‹Drawn _› _ _ | with_reducible exact C_raisedM ‹Drawn _› _ (by omega) | with_reducible exact C_raisedLN ‹Drawn _› _ (by omega) | with_reducible exact C_powerLN ‹Drawn _› _ (by omega)
  | with_reducible exact C_raisedLZ ‹Drawn _› _ (by omega) (by omega) | with_reducible exact C_powerLZ ‹Drawn _› _ (by omega) (by omega) | with_reducible exact C_raisedZ ‹Drawn _› _ (by omega) | with_reducible exact C_raisedMZ ‹Drawn _› _ (by omega) (by omega))
local macro_rules | `(tactic| walk_at "d") => `(tactic| first
  | with_reducible exact ixF0 _ | with_reducible exact ixF1 _ | with_reducible exact addD_int _ _ | with_reducible exact subD_int _ _ | with_reducible exact negD_int _
  | with_reducible exact len_eN _ | with_reducible exact d_len _ | with_reducible exact d_lenT _ | with_reducible exact len_tup _ | with_reducible exact len_lst _ | with_reducible exact tup_lst _ | with_reducible exact lst_tup _
  | with_reducible exact d_eqN _ _ | with_reducible exact d_neN _ _ | with_reducible exact d_eqI _ _ | with_reducible exact d_neI _ _ | with_reducible exact d_lt _ _ | with_reducible exact d_le _ _ | with_reducible exact d_gt _ _ | with_reducible exact d_ge _ _
  | with_reducible exact d_eqL _ _ | with_reducible exact d_neL _ _ | with_reducible exact d_eqT _ _ | with_reducible exact d_neT _ _ | with_reducible exact d_inL _ _ | with_reducible exact d_ninL _ _
  | with_reducible exact d_ix0 _ _ | with_reducible exact d_ix1 _ _ _ | with_reducible exact d_ixt0 _ _ | with_reducible exact d_ixt1 _ _ _ | with_reducible exact d_tt | with_reducible exact d_ntt
  | with_reducible exact d_isT _ | with_reducible exact d_lastT _ _ | with_reducible exact d_lastL _ _ | with_reducible exact d_lstL _ | with_reducible exact d_lstT _
  | with_reducible exact it_lst _ | with_reducible exact it_tup _ | with_reducible exact it_eN _
  | ((with_reducible apply modD_int); omega) | ((with_reducible apply fdivD_int); omega) | ((with_reducible refine mulD_int (.inl ?_)); omega) | ((with_reducible refine mulD_int (.inr ?_)); omega)
  | ((with_reducible apply rng1_nat); omega) | ((with_reducible apply rng1_int); omega) | ((with_reducible apply rng2_int); omega)
  | ((with_reducible apply d_rep); omega) | ((with_reducible apply w_maplen); first | with_reducible assumption | omega | ((with_reducible apply w_rlen); omega)))
local macro_rules | `(tactic| walk_at "no") => `(tactic| first
  | with_reducible exact rfl | with_reducible exact nT | with_reducible exact nF | with_reducible assumption
  | ((with_reducible apply dT); first | with_reducible exact rfl | with_reducible assumption | omega)
  | ((with_reducible apply dF); first | with_reducible assumption | omega)
  | ((with_reducible apply dNT); first | with_reducible exact rfl | with_reducible assumption | omega)
  | ((with_reducible apply dNF); first | with_reducible assumption | omega))
local macro_rules | `(tactic| walk_at "ev") => `(tactic| repeat' first
  | with_reducible exact v_c | with_reducible exact v_A0 | with_reducible exact v_O0 | with_reducible exact w_yes | with_reducible exact w_next
  | ((with_reducible apply w_eq); with_reducible assumption)
  | ((with_reducible apply v_var); exact rfl) | ((with_reducible apply v_own); exact rfl)
  | with_reducible apply v_A | with_reducible apply v_m2 | with_reducible apply w_F | with_reducible apply w_B1 | with_reducible apply w_B2 | with_reducible apply v_B | with_reducible apply v_tB | with_reducible apply v_m1
  | with_reducible exact stR_v | with_reducible exact stR_f | with_reducible exact s_0 | with_reducible apply s_c
  | ((with_reducible apply w_len); exact rfl) | ((with_reducible apply w_ble); exact rfl) | ((with_reducible apply w_own); exact rfl)
  | with_reducible apply w_Tu | with_reducible apply w_L
  | with_reducible apply v_Sl | with_reducible apply v_O1 | with_reducible apply v_iV | with_reducible apply w_iB
  | with_reducible apply v_not | with_reducible apply v_T | with_reducible apply w_or | with_reducible apply w_and
  | with_reducible apply w_ch | with_reducible apply w_vAnd | with_reducible apply w_vNot | with_reducible apply w_vOr
  | with_reducible apply w_seq | with_reducible apply w_if | with_reducible apply w_mif | with_reducible apply w_asg | with_reducible apply w_ret | with_reducible apply v_expr
  | ((with_reducible apply w_app); exact rfl) | with_reducible apply w_par | with_reducible apply w_asgT | with_reducible apply w_frz | ((with_reducible apply w_aug); exact rfl)
  | with_reducible apply putR_v | with_reducible apply putR_f | with_reducible exact ret_v | with_reducible exact ret_f | ((with_reducible apply ret_b); walk_at "no")
  | ((with_reducible apply ite_no); walk_at "no") | ((with_reducible apply ite_yes); walk_at "no")
  | ((with_reducible apply w_retO); exact rfl) | with_reducible exact retS_v | with_reducible exact retS_o
  | walk_at "f" | walk_at "d" | walk_at "g"
  | ((with_reducible apply w_set); (simp only [List.set_cons_zero, List.set_cons_succ]; try exact rfl))
  | ((with_reducible apply w_start); (simp only [startE, List.map, List.length, List.replicate, List.cons_append, List.nil_append, Nat.reduceSub, Nat.reduceAdd]; try exact rfl))
  | ((with_reducible apply w_frzn); (simp only [frz, List.getElem?_cons_zero, List.getElem?_cons_succ, List.set_cons_zero, List.set_cons_succ]; try exact rfl))
  | ((with_reducible apply w_wipe); (simp only [wipeA, List.set_cons_zero, List.set_cons_succ]; try exact rfl))
  | ((with_reducible apply w_put); (simp only [Tg.put, putAll, List.set_cons_zero, List.set_cons_succ]; try exact rfl))
  | with_reducible exact truB _ | with_reducible exact rfl)
local macro_rules | `(tactic| walk_at "go") => `(tactic| repeat first | ((with_reducible apply w_seq); (focus (walk_at "ev"; done))) | ((with_reducible apply w_frz); (focus (walk_at "ev"; done))))
local macro_rules | `(tactic| walk_at "un") => `(tactic| ((with_reducible apply w_for); (focus (walk_at "ev"; done)); (repeat ((with_reducible apply w_forc); (focus (walk_at "ev"; done)); (focus (walk_at "ev"; done)))); with_reducible exact w_for0))

/-! FnK: the difference of two rows -/
section
variable {f : Int × Nu} (D : Drawn f)
theorem cf_range {M : Nat} {φ : Nat → El f} (h : ∀ k, M ≤ k → φ k = El.whl D.fd 0) : cf f D ((List.range M).map φ) = φ := by
  funext k
  by_cases hk : k < M
  · exact cf_at D (by rw [List.getElem?_map, List.getElem?_range hk]; rfl)
  · rw [cf_out D (by simp; omega), h k (by omega)]
/-! polynomials' algebra -/
theorem cv_mon (c : El f) (g : Nat → El f) : ∀ (t k : Nat), cvE f D (fun j => if j = t then c else El.whl D.fd 0) g k = if t ≤ k then El.mul D.fd c (g (k - t)) else El.whl D.fd 0 := by
  intro t k
  rw [cv_sm D g (t + 1) _ k (fun j hj => if_neg (by omega))]
  show El.add D.fd (Sm _ _ _ t) (if t ≤ k then El.mul D.fd (if t = t then c else El.whl D.fd 0) (g (k - t)) else El.whl D.fd 0) = _
  have z : ∀ y, El.mul D.fd (El.whl D.fd 0) y = El.whl D.fd 0 := fun y => (El.semi D.fd).zero_mul y
  have e : Sm (El.add D.fd) (El.whl D.fd 0) (fun j => if j ≤ k then El.mul D.fd (if j = t then c else El.whl D.fd 0) (g (k - j)) else El.whl D.fd 0) t = El.whl D.fd 0 := by
    refine (sm_congr fun j hj => ?_).trans (sm_e (moA D.fd) t)
    show (if j ≤ k then El.mul D.fd (if j = t then c else El.whl D.fd 0) (g (k - j)) else El.whl D.fd 0) = El.whl D.fd 0
    rw [if_neg (show ¬ j = t by omega), z]
    split <;> rfl
  rw [e, if_pos rfl, (moA D.fd).c, (moA D.fd).u]
theorem cv_out {a g : Nat → El f} {m n : Nat} (ha : ∀ k, m ≤ k → a k = El.whl D.fd 0) (hg : ∀ k, n ≤ k → g k = El.whl D.fd 0) {k : Nat} (hk : m + n ≤ k + 1) : cvE f D a g k = El.whl D.fd 0 := by
  rw [cv_sm D g m a k ha]
  refine (sm_congr fun j hj => ?_).trans (sm_e (moA D.fd) m)
  show (if j ≤ k then El.mul D.fd (a j) (g (k - j)) else El.whl D.fd 0) = El.whl D.fd 0
  by_cases hjk : j ≤ k
  · rw [if_pos hjk, hg (k - j) (by omega)]
    exact (El.semi D.fd).mul_zero _
  · rw [if_neg hjk]
theorem cf_mul {a b : List (El f)} (ha : a ≠ []) (hb : b ≠ []) : cf f D (rmul f D a b) = cvE f D (cf f D a) (cf f D b) := by
  have la : 1 ≤ a.length := List.length_pos_iff.mpr ha
  have lb : 1 ≤ b.length := List.length_pos_iff.mpr hb
  unfold rmul
  rw [if_neg (by simp [ha, hb])]
  exact cf_range D fun k hk => cv_out D (fun j hj => cf_out D hj) (fun j hj => cf_out D hj) (by omega)
end

/-! FnL: a row divided by another one -/
section
variable {f : Int × Nu} (D : Drawn f)
theorem inv_mul {x : El f} (h : ¬ x.a = (El.whl D.fd 0).a) : El.mul D.fd (El.pow D.fd x (sizA f - 2)) x = El.whl D.fd 1 := by
  have b := siz_bd D.good
  have := D.fermat x ((zer_ne D).mpr h)
  rw [show sizA f - 1 = (sizA f - 2) + 1 from by omega] at this
  exact this
/-- sums and products of rows without end -/
def pA (f : Int × Nu) (D : Drawn f) (p q : Nat → El f) : Nat → El f := fun k => El.add D.fd (p k) (q k)
theorem step_id (Q c1 r b : Nat → El f) : pA f D (cvE f D (pA f D Q c1) b) (fun k => El.sub D.fd (r k) (cvE f D c1 b k)) = pA f D (cvE f D Q b) r := by
  funext k
  have e : cvE f D (pA f D Q c1) b k = El.add D.fd (cvE f D Q b k) (cvE f D c1 b k) := @cv_add (El f) (El.comR D.fd) k Q c1 b
  show El.add D.fd (cvE f D (pA f D Q c1) b k) (El.sub D.fd (r k) (cvE f D c1 b k)) = El.add D.fd (cvE f D Q b k) (r k)
  rw [e]
  generalize cvE f D Q b k = u
  generalize cvE f D c1 b k = v
  letI := El.comR D.fd
  show (u + v) + (r k - v) = u + r k
  grind
end

/-! FnM: quotient and rest; what products come to -/
section
variable {f : Int × Nu} (D : Drawn f)
theorem cv_nil (g : Nat → El f) (k : Nat) : cvE f D (fun _ => El.whl D.fd 0) g k = El.whl D.fd 0 := @cv_zero (El f) (El.comR D.fd) g k
/-! ### what a row comes to -/
def evN (f : Int × Nu) (D : Drawn f) (x : El f) (φ : Nat → El f) (n : Nat) : El f := Sm (El.add D.fd) (El.whl D.fd 0) (fun k => El.mul D.fd (φ k) (El.pow D.fd x k)) n
theorem evN_s (x : El f) (φ : Nat → El f) (n : Nat) : evN f D x φ (n + 1) = El.add D.fd (φ 0) (El.mul D.fd x (evN f D x (fun k => φ (k + 1)) n)) := by
  unfold evN
  rw [sm_first (moA D.fd)]
  have e1 : El.mul D.fd (φ 0) (El.pow D.fd x 0) = φ 0 := El.mul_one D.fd _
  rw [e1, sm_hom (op := El.add D.fd) (e := El.whl D.fd 0) (fun y => El.mul D.fd x y) (fun a b => (El.semi D.fd).left_distrib x a b) ((El.semi D.fd).mul_zero x)]
  congr 1
  exact sm_congr fun k _ => by
    show El.mul D.fd (φ (k + 1)) (El.mul D.fd (El.pow D.fd x k) x) = El.mul D.fd x (El.mul D.fd (φ (k + 1)) (El.pow D.fd x k))
    letI := El.comR D.fd
    generalize φ (k + 1) = u
    generalize El.pow D.fd x k = v
    show u * (v * x) = x * (u * v)
    grind
theorem evN_out (x : El f) {φ : Nat → El f} {n : Nat} (h : ∀ k, n ≤ k → φ k = El.whl D.fd 0) : ∀ m, evN f D x φ (n + m) = evN f D x φ n
  | 0 => rfl
  | m + 1 => by
    show El.add D.fd (evN f D x φ (n + m)) (El.mul D.fd (φ (n + m)) (El.pow D.fd x (n + m))) = _
    have z : El.mul D.fd (El.whl D.fd 0) (El.pow D.fd x (n + m)) = El.whl D.fd 0 := (El.semi D.fd).zero_mul _
    rw [h (n + m) (by omega), z, (moA D.fd).u, evN_out x h m]
theorem val_ev (x : El f) : ∀ (l : List (El f)) (n : Nat), l.length ≤ n → valE f D x l = evN f D x (cf f D l) n
  | [], n, _ => by
    have := evN_out D x (φ := cf f D []) (n := 0) (fun k _ => cf_out D (by simp)) n
    rw [Nat.zero_add] at this
    exact this.symm
  | c :: l, 0, h => by simp at h
  | c :: l, n + 1, h => by
    rw [evN_s]
    show El.add D.fd (El.mul D.fd (valE f D x l) x) c = El.add D.fd c (El.mul D.fd x (evN f D x (cf f D l) n))
    rw [← val_ev x l n (by simpa using h), (moA D.fd).c, El.comm]
theorem evN_add (x : El f) (φ ψ : Nat → El f) (n : Nat) : evN f D x (pA f D φ ψ) n = El.add D.fd (evN f D x φ n) (evN f D x ψ n) := by
  unfold evN
  rw [← sm_op (moA D.fd)]
  exact sm_congr fun k _ => (El.semi D.fd).right_distrib (φ k) (ψ k) _
theorem evN_scl (x c : El f) (φ : Nat → El f) (n : Nat) : evN f D x (fun k => El.mul D.fd c (φ k)) n = El.mul D.fd c (evN f D x φ n) := by
  unfold evN
  rw [sm_hom (op := El.add D.fd) (e := El.whl D.fd 0) (fun y => El.mul D.fd c y) (fun a b => (El.semi D.fd).left_distrib c a b) ((El.semi D.fd).mul_zero c)]
  exact sm_congr fun k _ => El.massoc D.fd _ _ _
theorem evN_mul (x : El f) {b : Nat → El f} {n : Nat} (hb : ∀ k, n ≤ k → b k = El.whl D.fd 0) : ∀ (m : Nat) (a : Nat → El f), (∀ k, m ≤ k → a k = El.whl D.fd 0) → evN f D x (cvE f D a b) (m + n) = El.mul D.fd (evN f D x a m) (evN f D x b n)
  | 0, a, ha => by
    have e : a = fun _ => El.whl D.fd 0 := by funext k; exact ha k (Nat.zero_le k)
    have z : El.mul D.fd (El.whl D.fd 0) (evN f D x b n) = El.whl D.fd 0 := (El.semi D.fd).zero_mul _
    show _ = El.mul D.fd (El.whl D.fd 0) (evN f D x b n)
    rw [e, z]
    have := evN_out D x (φ := cvE f D (fun _ => El.whl D.fd 0) b) (n := 0) (fun k _ => cv_nil D b k) (0 + n)
    rw [Nat.zero_add] at this ⊢
    rw [Nat.zero_add] at this
    exact this
  | m + 1, a, ha => by
    have ih := evN_mul x hb m (fun k => a (k + 1)) (fun k hk => ha (k + 1) (by omega))
    rw [show m + 1 + n = (m + n) + 1 from by omega, evN_s, evN_s]
    have e1 : (fun k => cvE f D a b (k + 1)) = pA f D (fun k => El.mul D.fd (a 0) (b (k + 1))) (cvE f D (fun k => a (k + 1)) b) := rfl
    have e2 : cvE f D a b 0 = El.mul D.fd (a 0) (b 0) := rfl
    have e3 : evN f D x b n = El.add D.fd (b 0) (El.mul D.fd x (evN f D x (fun k => b (k + 1)) (m + n))) := by
      rw [← evN_s, show m + n + 1 = n + (m + 1) from by omega, evN_out D x hb]
    rw [e1, e2, evN_add, ih, evN_scl, e3]
    generalize evN f D x (fun k => b (k + 1)) (m + n) = u
    generalize evN f D x (fun k => a (k + 1)) m = v
    generalize a 0 = a0
    generalize b 0 = b0
    letI := El.comR D.fd
    show a0 * b0 + x * (a0 * u + v * (b0 + x * u)) = (a0 + x * v) * (b0 + x * u)
    grind
theorem val_mul (x : El f) (a b : List (El f)) : valE f D x (rmul f D a b) = El.mul D.fd (valE f D x a) (valE f D x b) := by
  by_cases ha : a = []
  · subst ha
    have e : rmul f D [] b = [] := by unfold rmul; rw [if_pos (.inl rfl)]
    rw [e]
    exact ((El.semi D.fd).zero_mul _).symm
  by_cases hb : b = []
  · subst hb
    have e : rmul f D a [] = [] := by unfold rmul; rw [if_pos (.inr rfl)]
    rw [e]
    exact ((El.semi D.fd).mul_zero _).symm
  have la : 1 ≤ a.length := List.length_pos_iff.mpr ha
  have hl : (rmul f D a b).length ≤ a.length + b.length := by
    unfold rmul
    rw [if_neg (by simp [ha, hb]), List.length_map, List.length_range]
    omega
  rw [val_ev D x _ _ hl, cf_mul D ha hb, evN_mul D x (fun k hk => cf_out D hk) _ _ (fun k hk => cf_out D hk), ← val_ev D x a _ (Nat.le_refl _), ← val_ev D x b _ (Nat.le_refl _)]
theorem rmul_nil (a b : List (El f)) : rmul f D a b = [] ↔ a = [] ∨ b = [] := by
  constructor
  · intro h
    by_cases hz : a = [] ∨ b = []
    · exact hz
    · exfalso
      have la : 1 ≤ a.length := List.length_pos_iff.mpr fun e => hz (.inl e)
      have lb : 1 ≤ b.length := List.length_pos_iff.mpr fun e => hz (.inr e)
      have := congrArg List.length h
      unfold rmul at this
      rw [if_neg hz] at this
      simp at this
      omega
  · intro h; unfold rmul; rw [if_pos h]
end

/-! FnN: the laws' rows -/
theorem d_eqT0 {f : Int × Nu} (l : List (El f)) : eqD (.tuple (l.map fun y => eN y.a)) (.tuple []) = .ok ⟨.v, .bool (decide (l = []))⟩ := d_eqT l []
theorem d_neT0 {f : Int × Nu} (l : List (El f)) : neD (.tuple (l.map fun y => eN y.a)) (.tuple []) = .ok ⟨.v, .bool (!decide (l = []))⟩ := d_neT l []
theorem d_neL0 {f : Int × Nu} (l : List (El f)) : neD (.list (l.map fun y => eN y.a)) (.list []) = .ok ⟨.v, .bool (!decide (l = []))⟩ := d_neL l []
theorem d_eqB (a b : Bool) : eqD (.bool a) (.bool b) = .ok ⟨.v, .bool (a == b)⟩ := by cases a <;> cases b <;> rfl
section
variable {f : Int × Nu} (D : Drawn f)
end

end FM

namespace FM
open PySem FS L2
local macro_rules | `(tactic| walk_at "f") => `(tactic| first
  | with_reducible exact L_plus ‹Drawn _› _ _ | with_reducible exact L_times ‹Drawn _› _ _ | with_reducible exact C_oneL ‹Drawn _› | with_reducible exact C_noughtL ‹Drawn _› | with_reducible exact C_nought ‹Drawn _› | with_reducible exact C_whole ‹Drawn _› _
  | with_reducible exact E_sum ‹Drawn _› _ _ | with_reducible exact E_prod ‹Drawn _› _ _ | with_reducible exact C_less ‹Drawn _› _ _ | with_reducible exact C_plus ‹Drawn _› _ _ | with_reducible exact C_minus ‹Drawn _› _ _ | with_reducible exact C_times ‹Drawn _› _ _
  | with_reducible exact C_checked ‹Drawn _› | with_reducible exact C_look1 ‹Drawn _› _ | with_reducible exact C_look2 ‹Drawn _› _ _ | with_reducible exact C_size_of ‹Drawn _›
  | with_reducible exact C_sizeL ‹Drawn _› | with_reducible exact C_numbers ‹Drawn _› | with_reducible exact C_all ‹Drawn _› | with_reducible exact C_rowsL ‹Drawn _›
  | with_reducible exact e_is_within _ _ _)
local macro_rules | `(tactic| walk_at "g") => `(tactic| first
  | with_reducible exact C_atL ‹Drawn _› _ _ | with_reducible exact C_value_of ‹Drawn _› _ _ | with_reducible exact C_row_times ‹Drawn _› _ _ (by omega) | with_reducible exact C_cut ‹Drawn _› _ (by omega) | with_reducible exact C_value ‹Drawn _› (by assumption) (by assumption) _ | with_reducible exact C_multiplied ‹Drawn _› (by assumption) (by assumption) (by assumption) (by assumption)
  | with_reducible exact C_wholeL _ | with_reducible exact C_makers ‹Drawn _› | with_reducible exact C_turns ‹Drawn _› (by assumption) | with_reducible exact C_turns_of ‹Drawn _› (by assumption) | with_reducible exact C_turnsL ‹Drawn _› (by assumption) | with_reducible exact C_look_number ‹Drawn _› (by assumption) | with_reducible exact C_powerZ ‹Drawn _› (by assumption) (by omega) (by omega)
  | with_reducible exact C_raised1 ‹Drawn _› _ | with_reducible exact C_raisedL1 ‹Drawn _› _
  | with_reducible exact E_trace ‹Drawn _› _ (by assumption) (by assumption) | with_reducible exact E_norm ‹Drawn _› _ (by assumption) (by assumption)
  | with_reducible exact C_lesser ‹Drawn _› (by assumption) (by assumption) | with_reducible exact E_look_part ‹Drawn _› (by assumption) (by assumption) | with_reducible exact E_look_part0 ‹Drawn _› (by assumption) (by assumption)
  | with_reducible exact C_raisedN ‹Drawn _› _ _ | with_reducible exact C_raisedM ‹Drawn _› _ (by omega) | with_reducible exact C_raisedLN ‹Drawn _› _ (by omega) | with_reducible exact C_powerLN ‹Drawn _› _ (by omega)
  | with_reducible exact C_raisedLZ ‹Drawn _› _ (by omega) (by omega) | with_reducible exact C_powerLZ ‹Drawn _› _ (by omega) (by omega) | with_reducible exact C_raisedZ ‹Drawn _› _ (by omega) | with_reducible exact C_raisedMZ ‹Drawn _› _ (by omega) (by omega))
local macro_rules | `(tactic| walk_at "d") => `(tactic| first
  | with_reducible exact ixF0 _ | with_reducible exact ixF1 _ | with_reducible exact addD_int _ _ | with_reducible exact subD_int _ _ | with_reducible exact negD_int _
  | with_reducible exact len_eN _ | with_reducible exact d_len _ | with_reducible exact d_lenT _ | with_reducible exact len_tup _ | with_reducible exact len_lst _ | with_reducible exact tup_lst _ | with_reducible exact lst_tup _
  | with_reducible exact d_eqN _ _ | with_reducible exact d_neN _ _ | with_reducible exact d_eqI _ _ | with_reducible exact d_neI _ _ | with_reducible exact d_lt _ _ | with_reducible exact d_le _ _ | with_reducible exact d_gt _ _ | with_reducible exact d_ge _ _
  | with_reducible exact d_eqL _ _ | with_reducible exact d_neL _ _ | with_reducible exact d_eqT _ _ | with_reducible exact d_neT _ _ | with_reducible exact d_inL _ _ | with_reducible exact d_ninL _ _
  | with_reducible exact d_ix0 _ _ | with_reducible exact d_ix1 _ _ _ | with_reducible exact d_ixt0 _ _ | with_reducible exact d_ixt1 _ _ _ | with_reducible exact d_tt | with_reducible exact d_ntt
  | with_reducible exact d_eqT0 _ | with_reducible exact d_neT0 _ | with_reducible exact d_neL0 _ | with_reducible exact d_eqB _ _ | with_reducible exact d_isT _ | with_reducible exact d_lastT _ _ | with_reducible exact d_lastL _ _ | with_reducible exact d_lstL _ | with_reducible exact d_lstT _
  | with_reducible exact it_lst _ | with_reducible exact it_tup _ | with_reducible exact it_eN _
  | ((with_reducible apply modD_int); omega) | ((with_reducible apply fdivD_int); omega) | ((with_reducible refine mulD_int (.inl ?_)); omega) | ((with_reducible refine mulD_int (.inr ?_)); omega)
  | ((with_reducible apply rng1_nat); omega) | ((with_reducible apply rng1_int); omega) | ((with_reducible apply rng2_int); omega)
  | ((with_reducible apply d_rep); omega) | ((with_reducible apply w_maplen); first | with_reducible assumption | omega | ((with_reducible apply w_rlen); omega)))
local macro_rules | `(tactic| walk_at "no") => `(tactic| first
  | with_reducible exact rfl | with_reducible exact nT | with_reducible exact nF | with_reducible assumption
  | ((with_reducible apply dT); first | with_reducible exact rfl | with_reducible assumption | omega)
  | ((with_reducible apply dF); first | with_reducible assumption | omega)
  | ((with_reducible apply dNT); first | with_reducible exact rfl | with_reducible assumption | omega)
  | ((with_reducible apply dNF); first | with_reducible assumption | omega))
local macro_rules | `(tactic| walk_at "ev") => `(tactic| repeat' first
  | with_reducible exact v_c | with_reducible exact v_A0 | with_reducible exact v_O0 | with_reducible exact w_yes | with_reducible exact w_next
  | ((with_reducible apply w_eq); with_reducible assumption)
  | ((with_reducible apply v_var); exact rfl) | ((with_reducible apply v_own); exact rfl)
  | with_reducible apply v_A | with_reducible apply v_m2 | with_reducible apply w_F | with_reducible apply w_B1 | with_reducible apply w_B2 | with_reducible apply v_B | with_reducible apply v_tB | with_reducible apply v_m1
  | with_reducible exact stR_v | with_reducible exact stR_f | with_reducible exact s_0 | with_reducible apply s_c
  | ((with_reducible apply w_len); exact rfl) | ((with_reducible apply w_ble); exact rfl) | ((with_reducible apply w_own); exact rfl)
  | with_reducible apply w_Tu | with_reducible apply w_L
  | with_reducible apply v_Sl | with_reducible apply v_O1 | with_reducible apply v_iV | with_reducible apply w_iB
  | with_reducible apply v_not | with_reducible apply v_T | with_reducible apply w_or | with_reducible apply w_and
  | with_reducible apply w_ch | with_reducible apply w_vAnd | with_reducible apply w_vNot | with_reducible apply w_vOr
  | with_reducible apply w_seq | with_reducible apply w_if | with_reducible apply w_mif | with_reducible apply w_asg | with_reducible apply w_ret | with_reducible apply v_expr
  | ((with_reducible apply w_app); exact rfl) | with_reducible apply w_par | with_reducible apply w_asgT | with_reducible apply w_frz | ((with_reducible apply w_aug); exact rfl)
  | with_reducible apply putR_v | with_reducible apply putR_f | with_reducible exact ret_v | with_reducible exact ret_f | ((with_reducible apply ret_b); walk_at "no")
  | ((with_reducible apply ite_no); walk_at "no") | ((with_reducible apply ite_yes); walk_at "no")
  | ((with_reducible apply w_retO); exact rfl) | with_reducible exact retS_v | with_reducible exact retS_o
  | walk_at "f" | walk_at "d" | walk_at "g"
  | ((with_reducible apply w_set); (simp only [List.set_cons_zero, List.set_cons_succ]; try exact rfl))
  | ((with_reducible apply w_start); (simp only [startE, List.map, List.length, List.replicate, List.cons_append, List.nil_append, Nat.reduceSub, Nat.reduceAdd]; try exact rfl))
  | ((with_reducible apply w_frzn); (simp only [frz, List.getElem?_cons_zero, List.getElem?_cons_succ, List.set_cons_zero, List.set_cons_succ]; try exact rfl))
  | ((with_reducible apply w_wipe); (simp only [wipeA, List.set_cons_zero, List.set_cons_succ]; try exact rfl))
  | ((with_reducible apply w_put); (simp only [Tg.put, putAll, List.set_cons_zero, List.set_cons_succ]; try exact rfl))
  | with_reducible exact truB _ | with_reducible exact rfl)
local macro_rules | `(tactic| walk_at "go") => `(tactic| repeat first | ((with_reducible apply w_seq); (focus (walk_at "ev"; done))) | ((with_reducible apply w_frz); (focus (walk_at "ev"; done))))
local macro_rules | `(tactic| walk_at "un") => `(tactic| ((with_reducible apply w_for); (focus (walk_at "ev"; done)); (repeat ((with_reducible apply w_forc); (focus (walk_at "ev"; done)); (focus (walk_at "ev"; done)))); with_reducible exact w_for0))

/-! FnO: what divides a row -/
section
variable {f : Int × Nu} (D : Drawn f)
/-- nought from a place on -/
def Sup (f : Int × Nu) (D : Drawn f) (p : Nat → El f) (n : Nat) : Prop := ∀ k, n ≤ k → p k = El.whl D.fd 0
theorem sup_cf (l : List (El f)) : Sup f D (cf f D l) l.length := fun k hk => cf_out D hk
theorem sup_cv {p q : Nat → El f} {m n : Nat} (hp : Sup f D p m) (hq : Sup f D q n) : Sup f D (cvE f D p q) (m + n) := fun k hk => cv_out D hp hq (by omega)
theorem sup_add {p q : Nat → El f} {m n : Nat} (hp : Sup f D p m) (hq : Sup f D q n) : Sup f D (pA f D p q) (m + n) := fun k hk => by
  show El.add D.fd (p k) (q k) = _
  rw [hp k (by omega), hq k (by omega), (moA D.fd).u]
def pS (f : Int × Nu) (D : Drawn f) (p q : Nat → El f) : Nat → El f := fun k => El.sub D.fd (p k) (q k)
theorem sup_sub {p q : Nat → El f} {m n : Nat} (hp : Sup f D p m) (hq : Sup f D q n) : Sup f D (pS f D p q) (m + n) := fun k hk => by
  show El.sub D.fd (p k) (q k) = _
  rw [hp k (by omega), hq k (by omega)]
  letI := El.comR D.fd
  show (0 : El f) - 0 = 0
  grind
theorem cv_addL (p q b : Nat → El f) : cvE f D (pA f D p q) b = pA f D (cvE f D p b) (cvE f D q b) := by funext k; exact @cv_add (El f) (El.comR D.fd) k p q b
theorem cv_commL (p q : Nat → El f) : cvE f D p q = cvE f D q p := by funext k; exact @cv_comm (El f) (El.comR D.fd) k p q
theorem cv_assocL (p q r : Nat → El f) : cvE f D (cvE f D p q) r = cvE f D p (cvE f D q r) := by funext k; exact @cv_assoc (El f) (El.comR D.fd) q r k p
theorem ps_add (p q : Nat → El f) : pA f D (pS f D p q) q = p := by
  funext k
  show El.add D.fd (El.sub D.fd (p k) (q k)) (q k) = p k
  generalize p k = u
  generalize q k = v
  letI := El.comR D.fd
  show u - v + v = u
  grind
theorem pa_inj {p q r : Nat → El f} (h : pA f D p r = pA f D q r) : p = q := by
  funext k
  have h : El.add D.fd (p k) (r k) = El.add D.fd (q k) (r k) := congrFun h k
  revert h
  generalize p k = u
  generalize q k = v
  generalize r k = w
  letI := El.comR D.fd
  show u + w = v + w → u = v
  grind
theorem pa_comm (p q : Nat → El f) : pA f D p q = pA f D q p := by funext k; exact (moA D.fd).c _ _
theorem top_mul {p b : Nat → El f} {m n : Nat} (hp : Sup f D p (m + 1)) (hb : Sup f D b (n + 1)) : cvE f D p b (m + n) = El.mul D.fd (p m) (b n) := by
  rw [cv_sm D b (m + 1) p (m + n) hp]
  show El.add D.fd (Sm _ _ _ m) (if m ≤ m + n then El.mul D.fd (p m) (b (m + n - m)) else _) = _
  rw [if_pos (by omega), show m + n - m = n from by omega]
  have e : Sm (El.add D.fd) (El.whl D.fd 0) (fun t => if t ≤ m + n then El.mul D.fd (p t) (b (m + n - t)) else El.whl D.fd 0) m = El.whl D.fd 0 := by
    refine (sm_congr fun t ht => ?_).trans (sm_e (moA D.fd) m)
    show (if t ≤ m + n then El.mul D.fd (p t) (b (m + n - t)) else El.whl D.fd 0) = El.whl D.fd 0
    rw [if_pos (by omega), hb (m + n - t) (by omega)]
    exact (El.semi D.fd).mul_zero _
  rw [e, (moA D.fd).c, (moA D.fd).u]
theorem nz_mul {x y : El f} (h : El.mul D.fd x y = El.whl D.fd 0) (hy : y ≠ El.whl D.fd 0) : x = El.whl D.fd 0 := by
  have z : (El.whl D.fd 0).a = zer f := (zer_whl D.fd).symm
  rcases D.nozero x y (by rw [h]; exact z) with h | h
  · exact El.ext' (h.trans z.symm)
  · exact absurd (El.ext' (h.trans z.symm)) hy
theorem zero_of {b : Nat → El f} {n : Nat} (hb : Sup f D b (n + 1)) (hn : b n ≠ El.whl D.fd 0) : ∀ (M : Nat) (p : Nat → El f), Sup f D p M → (∀ k, n ≤ k → cvE f D p b k = El.whl D.fd 0) → p = fun _ => El.whl D.fd 0
  | 0, p, hp, _ => by funext k; exact hp k (Nat.zero_le k)
  | M + 1, p, hp, h => by
    have h1 := h (M + n) (by omega)
    rw [top_mul D hp hb] at h1
    have h2 := nz_mul D h1 hn
    exact zero_of hb hn M p (fun k hk => by
      by_cases hk2 : k = M
      · rw [hk2]; exact h2
      · exact hp k (by omega)) h
/-- rows with a last number that is not nought -/
theorem nf_last {l : List (El f)} (h : nf f D l) (h0 : l ≠ []) : cf f D l (l.length - 1) ≠ El.whl D.fd 0 ∧ Sup f D (cf f D l) (l.length - 1 + 1) := by
  obtain ⟨l', x, e⟩ := last_ex h0
  have hl : 1 ≤ l.length := List.length_pos_iff.mpr h0
  refine ⟨?_, fun k hk => cf_out D (by omega)⟩
  rw [cf_at D (x := x) (by rw [e]; simp)]
  intro z
  exact h l' x e (by rw [z])
theorem nf_nil_of {l : List (El f)} (h : nf f D l) (hz : cf f D l = fun _ => El.whl D.fd 0) : l = [] := by
  by_cases h0 : l = []
  · exact h0
  · exact absurd (congrFun hz _) (nf_last D h h0).1
theorem cf_ext {a b : List (El f)} (hl : a.length = b.length) (h : cf f D a = cf f D b) : a = b := by
  refine List.ext_getElem? fun j => ?_
  by_cases hj : j < a.length
  · have h1 := cf_at D (List.getElem?_eq_getElem hj)
    have h2 := cf_at D (List.getElem?_eq_getElem (show j < b.length by omega))
    rw [List.getElem?_eq_getElem hj, List.getElem?_eq_getElem (show j < b.length by omega), ← h1, ← h2, h]
  · rw [List.getElem?_eq_none (by omega), List.getElem?_eq_none (by omega)]
theorem nf_ext {a b : List (El f)} (ha : nf f D a) (hb : nf f D b) (h : cf f D a = cf f D b) : a = b := by
  refine cf_ext D ?_ h
  have key : ∀ {a b : List (El f)}, nf f D a → cf f D a = cf f D b → a.length ≤ b.length := fun {a b} ha h => by
    by_cases h0 : a = []
    · rw [h0]; simp
    · have h1 := (nf_last D ha h0).1
      by_cases hlt : a.length ≤ b.length
      · exact hlt
      · exfalso
        rw [h, cf_out D (by omega)] at h1
        exact h1 rfl
  exact Nat.le_antisymm (key ha h) (key hb h.symm)
def Dv (f : Int × Nu) (D : Drawn f) (d x : List (El f)) : Prop := ∃ q n, Sup f D q n ∧ cf f D x = cvE f D q (cf f D d)
theorem dv_refl (d : List (El f)) : Dv f D d d := ⟨fun i => if i = 0 then El.whl D.fd 1 else El.whl D.fd 0, 1, fun k hk => if_neg (by omega), by funext k; exact (@cv_one (El f) (El.comR D.fd) (cf f D d) k).symm⟩
theorem dv_nil (d : List (El f)) : Dv f D d [] := ⟨fun _ => El.whl D.fd 0, 0, fun _ _ => rfl, by funext k; rw [cv_nil]; exact cf_out D (by simp)⟩
theorem dv_trans {a b c : List (El f)} (h1 : Dv f D a b) (h2 : Dv f D b c) : Dv f D a c := by
  obtain ⟨p, m, hp, e1⟩ := h1
  obtain ⟨q, n, hq, e2⟩ := h2
  exact ⟨cvE f D q p, n + m, sup_cv D hq hp, by rw [e2, e1, cv_assocL]⟩
theorem dv_div {a b r d : List (El f)} {q : Nat → El f} {n : Nat} (hq : Sup f D q n) (h : cf f D a = pA f D (cvE f D q (cf f D b)) (cf f D r)) (hb : Dv f D d b) : Dv f D d a ↔ Dv f D d r := by
  obtain ⟨u, m, hu, eu⟩ := hb
  rw [eu, ← cv_assocL] at h
  constructor
  · rintro ⟨w, l, hw, ew⟩
    refine ⟨pS f D w (cvE f D q u), l + (n + m), sup_sub D hw (sup_cv D hq hu), ?_⟩
    refine pa_inj D (r := cvE f D (cvE f D q u) (cf f D d)) ?_
    rw [← cv_addL, ps_add, ← ew, h, pa_comm]
  · rintro ⟨v, l, hv, ev⟩
    exact ⟨pA f D (cvE f D q u) v, n + m + l, sup_add D (sup_cv D hq hu) hv, by rw [cv_addL, ← ev, h]⟩
/-- it divides just where no rest is left -/
theorem dv_rest {a b q r : List (El f)} (hb : nf f D b) (hb0 : b ≠ []) (hr : nf f D r) (hl : r.length < b.length) (h : cf f D a = pA f D (cvE f D (cf f D q) (cf f D b)) (cf f D r)) : Dv f D b a ↔ r = [] := by
  constructor
  · intro ha
    obtain ⟨w, l, hw, ew⟩ := (dv_div D (sup_cf D q) h (dv_refl D b)).mp ha
    obtain ⟨h1, h2⟩ := nf_last D hb hb0
    have := zero_of D h2 h1 l w hw fun k hk => by
      rw [← ew]; exact cf_out D (by omega)
    refine nf_nil_of D hr ?_
    rw [ew, this]
    funext k
    exact cv_nil D _ k
  · intro e
    subst e
    exact (dv_div D (sup_cf D q) h (dv_refl D b)).mpr (dv_nil D b)
end

/-! FnP: the longest row that divides both; the laws' products -/
section
variable {f : Int × Nu} (D : Drawn f)
theorem one_ne : ¬ (El.whl D.fd 1).a = (El.whl D.fd 0).a := fun e => by
  have p2 := D.good.p2
  have : (1 : Int) % f.1 = 0 % f.1 := by injection e
  rw [Int.emod_eq_of_lt (by omega) (by omega), Int.zero_emod] at this
  omega
theorem cv_con (c : El f) (g : Nat → El f) : cvE f D (fun j => if j = 0 then c else El.whl D.fd 0) g = fun k => El.mul D.fd c (g k) := by
  funext k
  rw [cv_mon D c g 0 k, if_pos (Nat.zero_le k), Nat.sub_zero]
end

/-! FnQ: the laws' products and sums of rows -/
section
variable {f : Int × Nu} (D : Drawn f)
end

/-! FnR: roots counted; rows x less a number, multiplied -/
section
variable {f : Int × Nu} (D : Drawn f)
/-- a row divided by x less a number -/
def syn (f : Int × Nu) (D : Drawn f) (a : El f) : List (El f) → List (El f)
  | [] => []
  | [_] => []
  | _ :: d :: t => valE f D a (d :: t) :: syn f D a (d :: t)
theorem syn_len (a : El f) : ∀ l : List (El f), (syn f D a l).length = l.length - 1
  | [] => rfl
  | [_] => rfl
  | _ :: d :: t => by
    show (syn f D a (d :: t)).length + 1 = _
    rw [syn_len a (d :: t)]; simp
theorem syn_val (a y : El f) : ∀ l : List (El f), valE f D y l = El.add D.fd (El.mul D.fd (El.sub D.fd y a) (valE f D y (syn f D a l))) (valE f D a l)
  | [] => by
    letI := El.comR D.fd
    show (0 : El f) = (y - a) * 0 + 0
    grind
  | [c] => by
    letI := El.comR D.fd
    show (0 : El f) * y + c = (y - a) * 0 + (0 * a + c)
    grind
  | c :: d :: t => by
    have ih := syn_val a y (d :: t)
    show El.add D.fd (El.mul D.fd (valE f D y (d :: t)) y) c = El.add D.fd (El.mul D.fd (El.sub D.fd y a) (El.add D.fd (El.mul D.fd (valE f D y (syn f D a (d :: t))) y) (valE f D a (d :: t)))) (El.add D.fd (El.mul D.fd (valE f D a (d :: t)) a) c)
    rw [ih]
    generalize valE f D y (syn f D a (d :: t)) = u
    generalize valE f D a (d :: t) = v
    letI := El.comR D.fd
    show ((y - a) * u + v) * y + c = (y - a) * (u * y + v) + (v * a + c)
    grind
theorem syn_last (a : El f) : ∀ l : List (El f), 2 ≤ l.length → cf f D (syn f D a l) (l.length - 2) = cf f D l (l.length - 1)
  | [], h => by simp at h
  | [_], h => by simp at h
  | [c, d], _ => by
    show valE f D a [d] = d
    letI := El.comR D.fd
    show (0 : El f) * a + d = d
    grind
  | c :: d :: e :: t, _ => syn_last a (d :: e :: t) (by simp)
theorem val_con (a c : El f) : valE f D a [c] = c := by
  letI := El.comR D.fd
  show (0 : El f) * a + c = c
  grind
theorem sub_ne {x y : El f} (h : x ≠ y) : El.sub D.fd x y ≠ El.whl D.fd 0 := fun e => h (by
  letI := El.comR D.fd
  have e : x - y = 0 := e
  grind)
theorem sub_self (x : El f) : El.sub D.fd x x = El.whl D.fd 0 := by
  letI := El.comR D.fd
  show x - x = 0
  grind
/-- no row has more roots than numbers behind the first -/
theorem root_count : ∀ (rs l : List (El f)), l ≠ [] → cf f D l (l.length - 1) ≠ El.whl D.fd 0 → rs.Nodup → (∀ r ∈ rs, valE f D r l = El.whl D.fd 0) → rs.length + 1 ≤ l.length
  | [], l, h0, _, _, _ => by have := List.length_pos_iff.mpr h0; simp; omega
  | a :: rs, l, h0, h1, hn, hr => by
    have p := List.length_pos_iff.mpr h0
    have ha := hr a List.mem_cons_self
    rw [List.nodup_cons] at hn
    by_cases h2 : 2 ≤ l.length
    · have ih := root_count rs (syn f D a l) (fun e => by have := syn_len D a l; rw [e] at this; simp at this; omega) (by rw [syn_len]; exact fun e => h1 ((syn_last D a l h2).symm.trans e)) hn.2 fun r hr' => by
        have e := syn_val D a r l
        rw [hr r (List.mem_cons_of_mem _ hr'), ha, (moA D.fd).u] at e
        rw [El.comm] at e
        exact nz_mul D e.symm (sub_ne D fun e => hn.1 (e ▸ hr'))
      rw [syn_len] at ih
      simp; omega
    · obtain ⟨c, rfl⟩ : ∃ c, l = [c] := by
        match l, p, h2 with
        | [c], _, _ => exact ⟨c, rfl⟩
        | c :: d :: t, _, h => exact absurd (by simp) h
      rw [val_con] at ha
      exact absurd ha h1
/-- x less a number -/
def rr (f : Int × Nu) (D : Drawn f) (x : El f) : List (El f) := [El.sub D.fd (El.whl D.fd 0) x, El.whl D.fd 1]
theorem rr_val (y x : El f) : valE f D y (rr f D x) = El.sub D.fd y x := by
  letI := El.comR D.fd
  show ((0 : El f) * y + 1) * y + (0 - x) = y - x
  grind
def wr (f : Int × Nu) (D : Drawn f) (l : List (El f)) : List (El f) := l.foldl (fun s x => rmul f D s (rr f D x)) [El.whl D.fd 1]
theorem wr_s (l : List (El f)) (x : El f) : wr f D (l ++ [x]) = rmul f D (wr f D l) (rr f D x) := by unfold wr; rw [List.foldl_append]; rfl
theorem rmul_len' {a b : List (El f)} (ha : a ≠ []) (hb : b ≠ []) : (rmul f D a b).length = a.length + b.length - 1 := by
  unfold rmul
  rw [if_neg (fun h => h.elim ha hb), List.length_map, List.length_range]
theorem list_rev {τ : Type} {P : List τ → Prop} (h0 : P []) (h1 : ∀ l x, P l → P (l ++ [x])) (l : List τ) : P l := by
  have : ∀ (n : Nat) (l : List τ), l.length = n → P l := by
    intro n
    induction n with
    | zero => intro l hl; rw [List.length_eq_zero_iff.mp hl]; exact h0
    | succ n ih =>
      intro l hl
      obtain ⟨l', x, rfl⟩ := last_ex (l := l) (by intro e; subst e; simp at hl)
      exact h1 _ _ (ih _ (by simpa using hl))
  exact this _ l rfl
theorem wr_len (l : List (El f)) : (wr f D l).length = l.length + 1 := by
  refine list_rev (P := fun l => (wr f D l).length = l.length + 1) rfl (fun l x ih => ?_) l
  rw [wr_s, rmul_len' D (by intro e; rw [e] at ih; simp at ih) (by simp [rr]), ih]
  simp [rr]
theorem wr_ne (l : List (El f)) : wr f D l ≠ [] := fun e => by have := wr_len D l; rw [e] at this; simp at this
theorem wr_cf (l : List (El f)) (x : El f) : cf f D (wr f D (l ++ [x])) = cvE f D (cf f D (wr f D l)) (cf f D (rr f D x)) := by
  rw [wr_s, cf_mul D (wr_ne D l) (by simp [rr])]
theorem wr_last (l : List (El f)) : cf f D (wr f D l) l.length = El.whl D.fd 1 := by
  refine list_rev (P := fun l => cf f D (wr f D l) l.length = El.whl D.fd 1) rfl (fun l x ih => ?_) l
  rw [wr_cf, List.length_append, List.length_singleton]
  rw [top_mul D (m := l.length) (n := 1) (by have := sup_cf D (wr f D l); rw [wr_len] at this; exact this) (sup_cf D (rr f D x)), ih]
  exact El.mul_one D.fd _
theorem one_ne' : El.whl D.fd 1 ≠ El.whl D.fd 0 := fun e => one_ne D (by rw [e])
theorem wr_nf (l : List (El f)) : nf f D (wr f D l) := fun l' x e h => by
  have h1 := wr_last D l
  have h2 := wr_len D l
  have h3 : cf f D (wr f D l) l.length = x := by
    refine cf_at D ?_
    rw [e] at h2 ⊢
    have : l.length = l'.length := by simp at h2; omega
    rw [this]; simp
  rw [h1] at h3
  rw [← h3] at h
  exact one_ne D h
theorem wr_val (y : El f) (l : List (El f)) : valE f D y (wr f D l) = El.whl D.fd 0 ↔ y ∈ l := by
  refine list_rev (P := fun l => valE f D y (wr f D l) = El.whl D.fd 0 ↔ y ∈ l) ?_ (fun l x ih => ?_) l
  · have : valE f D y (wr f D []) = El.whl D.fd 1 := val_con D y _
    rw [this]
    exact ⟨fun e => absurd e (one_ne' D), fun e => by simp at e⟩
  · rw [wr_s, val_mul, rr_val, List.mem_append, List.mem_singleton, ← ih]
    constructor
    · intro e
      by_cases h : y = x
      · exact .inr h
      · exact .inl (nz_mul D e (sub_ne D h))
    · rintro (e | e)
      · rw [e]
        letI := El.comR D.fd
        show (0 : El f) * _ = 0
        grind
      · rw [e, sub_self D]
        letI := El.comR D.fd
        show _ * (0 : El f) = 0
        grind
theorem wr_fold (l : List (El f)) : cf f D (wr f D l) = l.foldl (fun p x => cvE f D p (cf f D (rr f D x))) (cf f D [El.whl D.fd 1]) := by
  refine list_rev (P := fun l => cf f D (wr f D l) = l.foldl (fun p x => cvE f D p (cf f D (rr f D x))) (cf f D [El.whl D.fd 1])) rfl (fun l x ih => ?_) l
  rw [wr_cf, ih, List.foldl_append]; rfl
theorem wr_perm {l l' : List (El f)} (h : l.Perm l') : wr f D l = wr f D l' := by
  refine cf_ext D (by rw [wr_len, wr_len, h.length_eq]) ?_
  rw [wr_fold, wr_fold]
  exact h.foldl_eq' (fun x _ y _ z => by rw [cv_assocL, cv_assocL, cv_commL D (cf f D (rr f D x))]) _
end

/-! FnS: the least row -/
theorem cut_init {β : Type} (xs : List β) : cutP xs none (some (-1)) = xs.dropLast := by
  unfold cutP
  show (xs.drop 0).take ((if (-1 : Int) < 0 then ((-1 : Int) + (xs.length : Int)).toNat else min (-1 : Int).toNat xs.length) - 0) = _
  rw [if_pos (by decide), List.drop_zero, List.dropLast_eq_take]
  congr 1
  omega
theorem nd_map {α β : Type} {φ : α → β} : ∀ {l : List α}, l.Nodup → (∀ a ∈ l, ∀ b ∈ l, φ a = φ b → a = b) → (l.map φ).Nodup
  | [], _, _ => List.nodup_nil
  | x :: l, h, hi => by
    rw [List.nodup_cons] at h
    rw [List.map_cons, List.nodup_cons]
    refine ⟨fun z => ?_, nd_map h.2 fun a ha b hb => hi a (List.mem_cons_of_mem _ ha) b (List.mem_cons_of_mem _ hb)⟩
    obtain ⟨y, hy, e⟩ := List.mem_map.mp z
    have := hi y (List.mem_cons_of_mem _ hy) x List.mem_cons_self e
    exact h.1 (this ▸ hy)
section
variable {f : Int × Nu} (D : Drawn f)
theorem whl_add (a b : Int) : El.whl D.fd (a + b) = El.add D.fd (El.whl D.fd a) (El.whl D.fd b) := by
  letI := El.comR D.fd
  exact Lean.Grind.Ring.intCast_add a b
theorem whl_mul (a b : Int) : El.whl D.fd (a * b) = El.mul D.fd (El.whl D.fd a) (El.whl D.fd b) := by
  letI := El.comR D.fd
  exact Lean.Grind.Ring.intCast_mul a b
theorem whl_mod (z : Int) : El.whl D.fd (z % f.1) = El.whl D.fd z := El.ext' (by
  show whl f (z % f.1) = whl f z
  unfold whl
  rw [Int.emod_emod_of_dvd _ (Int.dvd_refl _)])
theorem ra_whlN (k : Nat) : ∀ n : Nat, ra f D k (El.whl D.fd (n : Int)) = El.whl D.fd (n : Int)
  | 0 => D.ra_zero k
  | n + 1 => by
    rw [show ((n + 1 : Nat) : Int) = (n : Int) + 1 from by omega, whl_add D, D.ra_add, ra_whlN k n, D.ra_one]
theorem ra_whl (k : Nat) (z : Int) : ra f D k (El.whl D.fd z) = El.whl D.fd z := by
  have p2 := D.good.p2
  have h := Int.emod_nonneg z (show f.1 ≠ 0 by omega)
  rw [← whl_mod D, ← Int.toNat_of_nonneg h]
  exact ra_whlN D k _
theorem alike_len (x : El f) (d : Nat) : (alikeE f D x d).length = d := by unfold alikeE; rw [List.length_map, List.length_range]
theorem alike_nd {x : El f} {d : Nat} (h : IsHome D x d) : (alikeE f D x d).Nodup := by
  refine nd_map List.nodup_range ?_
  have key : ∀ a b : Nat, a < b → b < d → ra f D a x ≠ ra f D b x := fun a b hab hb e => by
    have e2 : ra f D (d - b) (ra f D a x) = ra f D (d - b) (ra f D b x) := by rw [e]
    rw [D.ra_ra, D.ra_ra, show b + (d - b) = d from by omega, h.rnd] at e2
    exact h.least (a + (d - b)) (by omega) (by omega) e2
  intro a ha b hb e
  have ha := List.mem_range.mp ha
  have hb := List.mem_range.mp hb
  rcases Nat.lt_trichotomy a b with h1 | h1 | h1
  · exact absurd e (key a b h1 hb)
  · exact h1
  · exact absurd e.symm (key b a h1 ha)
theorem mem_alike {x : El f} {d : Nat} (h : IsHome D x d) (y : El f) : y ∈ alikeE f D x d ↔ ∃ t, y = ra f D t x := by
  constructor
  · intro hy
    obtain ⟨t, _, e⟩ := List.mem_map.mp hy
    exact ⟨t, e.symm⟩
  · rintro ⟨t, rfl⟩
    refine List.mem_map.mpr ⟨t % d, List.mem_range.mpr (Nat.mod_lt _ h.pos), ?_⟩
    conv => rhs; rw [← Nat.div_add_mod t d]
    rw [← D.ra_ra, (h.dvd _).mpr (Nat.dvd_mul_right _ _)]
/-- a row of figures as a row of numbers, with its leading 1 -/
def rowW (f : Int × Nu) (D : Drawn f) (r : Nu) : List (El f) := r.map (El.whl D.fd) ++ [El.whl D.fd 1]
end

/-! FnT: the laws' product of rows of figures, and what is no product -/
theorem d_sumI (l : List Int) : sumD [.list (l.map PyData.int)] = .ok ⟨.v, .int l.sum⟩ := by
  show (match intsOf (l.map PyData.int) with | some ns => Out.ok (R.mk .v (.int ns.sum)) | none => .bad) = _
  rw [intsOf_map]
theorem d_addL {a b : List PyData} (h : a.length + b.length ≤ 1000000) : addD (.list a) (.list b) = .ok ⟨.f, .list (a ++ b)⟩ := by
  show (if a.length + b.length ≤ sizeLine then Out.ok (R.mk .f (.list (a ++ b))) else .bad) = _
  rw [if_pos (len_line h)]
def tstL (m P k : Nat) : Bool := decide (k ≤ P ∧ P - k < m)
def cfI (l : Nu) (P : Nat) : Int := l.getD P 0
def prodL (p : Int) (a b : Nu) : Nu := (List.range (a.length + b.length)).map fun P => (((List.range (a.length + 1)).filter (tstL (b.length + 1) P)).map fun k => cfI (a ++ [1]) k * cfI (b ++ [1]) (P - k)).sum % p
theorem prodL_len (p : Int) (a b : Nu) : (prodL p a b).length = a.length + b.length := by unfold prodL; rw [List.length_map, List.length_range]
theorem cfI_at {l : Nu} {k : Nat} {z : Int} (e : z = (k : Int)) (h : k < l.length) : ixD (.list (l.map PyData.int)) (.int z) = .ok ⟨.v, .int (cfI l k)⟩ := by
  subst e
  refine ixL_at ?_
  unfold cfI
  rw [List.getD_eq_getElem?_getD, List.getElem?_eq_getElem h]; rfl
theorem cfI_bd {l : Nu} (h : ∀ x ∈ l, -100 < x ∧ x < 100) (k : Nat) : -100 < cfI l k ∧ cfI l k < 100 := by
  unfold cfI
  rw [List.getD_eq_getElem?_getD]
  cases e : l[k]? with
  | none => simp
  | some x => exact h x (List.mem_of_getElem? e)
theorem e__law_product {p : Int} {a b : Nu} (hp : 0 < p) (ha : a.length ≤ 100) (hb : b.length ≤ 100) (xa : ∀ x ∈ a, -100 < x ∧ x < 100) : m__law_product [.int p, eN a, eN b] = .ok ⟨.v, eN (prodL p a b)⟩ := by
  obtain ⟨L, hL⟩ : ∃ L, L = a ++ [1] := ⟨_, rfl⟩
  obtain ⟨M, hM⟩ : ∃ M, M = b ++ [1] := ⟨_, rfl⟩
  have lL : L.length = a.length + 1 := by rw [hL]; simp
  have lM : M.length = b.length + 1 := by rw [hM]; simp
  have xL : ∀ x ∈ L, -100 < x ∧ x < 100 := by
    intro x hx
    rw [hL, List.mem_append, List.mem_singleton] at hx
    rcases hx with hx | hx
    · exact xa x hx
    · rw [hx]; decide
  have a1 : addD (.list (a.map PyData.int)) (.list [.int 1]) = .ok ⟨.f, .list (L.map PyData.int)⟩ := by
    rw [d_addL (by simp; omega), hL, List.map_append]; rfl
  have b1 : addD (.list (b.map PyData.int)) (.list [.int 1]) = .ok ⟨.f, .list (M.map PyData.int)⟩ := by
    rw [d_addL (by simp; omega), hM, List.map_append]; rfl
  have lenL : lenD [.list (L.map PyData.int)] = .ok ⟨.v, .int ((a.length + 1 : Nat) : Int)⟩ := (len_lst _).trans (by rw [List.length_map, lL])
  have lenM : lenD [.list (M.map PyData.int)] = .ok ⟨.v, .int ((b.length + 1 : Nat) : Int)⟩ := (len_lst _).trans (by rw [List.length_map, lM])
  have rg : rng1 [.int ((a.length : Int) + (b.length : Int))] = .ok ((List.range (a.length + b.length)).map fun (j : Nat) => PyData.int (0 + (j : Int))) := by
    have := rng1_nat (k := a.length + b.length) (by omega)
    rw [show ((a.length + b.length : Nat) : Int) = (a.length : Int) + (b.length : Int) from by omega] at this
    exact this
  have rk := rng1_nat (k := a.length + 1) (by omega)
  obtain ⟨φ, hφ⟩ : ∃ φ : Nat → Int, φ = fun P => (((List.range (a.length + 1)).filter (tstL (b.length + 1) P)).map fun k => cfI L k * cfI M (P - k)).sum % p := ⟨_, rfl⟩
  have ep : prodL p a b = (List.range (a.length + b.length)).map φ := by unfold prodL; rw [hφ, hL, hM]
  rw [ep]
  obtain ⟨A, hA⟩ : ∃ A, A = eN a := ⟨_, rfl⟩
  obtain ⟨B, hB⟩ : ∃ B, B = eN b := ⟨_, rfl⟩
  have la := lst_tup a
  have lb := lst_tup b
  have na := len_eN a
  have nb := len_eN b
  rw [← hA] at la na ⊢
  rw [← hB] at lb nb ⊢
  apply w_body
  · walk_at "ev"
  walk_at "go"
  refine w_seqE (P := fun β => ∃ s6, β = [.val (.int p), .val A, .val B, .own (L.map PyData.int), .own (M.map PyData.int), .own (((List.range (a.length + b.length)).map φ).map PyData.int), s6, .un]) ?_ ?_
  · apply w_forE
    · walk_at "ev"
    refine for_go (T := .nm 6) (b := _) (fun (j : Nat) => PyData.int (0 + (j : Int))) (List.range (a.length + b.length))
      (fun pre α => ∃ s6, α = [.val (.int p), .val A, .val B, .own (L.map PyData.int), .own (M.map PyData.int), .own ((pre.map φ).map PyData.int), s6, .un]) ⟨_, rfl⟩ fun pre P α ⟨s6, e⟩ ⟨s, hs⟩ => ?_
    subst e
    obtain ⟨hP, hp'⟩ := at_pre hs
    have c : compM (.nm 7) (tBm (mCh leD ltD (mC (.int 0)) (m2 subD (mV 6) (mV 7)) (mB lenD (mA (mV 4) mA0)))) (m2 mulD (m2 ixD (mV 3) (mV 7)) (m2 ixD (mV 4) (m2 subD (mV 6) (mV 7)))) [.val (.int p), .val A, .val B, .own (L.map PyData.int), .own (M.map PyData.int), .own ((pre.map φ).map PyData.int), .val (.int (0 + (P : Int))), .un] ((List.range (a.length + 1)).map fun (j : Nat) => PyData.int (0 + (j : Int))) = .ok ((((List.range (a.length + 1)).filter (tstL (b.length + 1) P)).map fun k => PyData.int (cfI L k * cfI M (P - k)))) := by
      refine compM_filter _ _ _ _ fun k hk => ⟨_, rfl, ?_, fun q => ?_⟩
      · unfold tstL
        refine v_tB (w_ch v_c (v_m2 (v_var rfl) (v_var rfl) (subD_int _ _)) (w_B1 (v_own rfl) lenM) (d_le _ _) ?_)
        by_cases h1 : k ≤ P
        · rw [decide_eq_true (show (0 : Int) ≤ 0 + (P : Int) - (0 + (k : Int)) by omega), if_pos rfl]
          refine (d_lt _ _).trans ?_
          rw [decide_eq_decide.mpr (show 0 + (P : Int) - (0 + (k : Int)) < ((b.length + 1 : Nat) : Int) ↔ (k ≤ P ∧ P - k < b.length + 1) by omega)]
        · rw [decide_eq_false (show ¬ (0 : Int) ≤ 0 + (P : Int) - (0 + (k : Int)) by omega), if_neg (by decide), decide_eq_false (by omega)]
      · have q := of_decide_eq_true (show decide (k ≤ P ∧ P - k < b.length + 1) = true from q)
        have hk := List.mem_range.mp hk
        have b1 := cfI_bd xL k
        exact ⟨_, v_m2 (v_m2 (v_own rfl) (v_var rfl) (cfI_at (k := k) (by omega) (by omega))) (v_m2 (v_own rfl) (v_m2 (v_var rfl) (v_var rfl) (subD_int _ _)) (cfI_at (k := P - k) (by omega) (by omega))) (mulD_int (.inl (by omega))), rfl⟩
    have sm := d_sumI (((List.range (a.length + 1)).filter (tstL (b.length + 1) P)).map fun k => cfI L k * cfI M (P - k))
    rw [List.map_map] at sm
    refine turn rfl ?_ ⟨.val (.int (0 + (P : Int))), rfl⟩
    refine w_app rfl (v_m2 (w_B1 (w_LC (w_iB (s_c (w_B1 (v_own rfl) lenL) stR_v s_0) rk) (by rw [List.length_map, List.length_range]; omega) rfl rfl c) sm) (v_var rfl) (modD_int hp)) stR_v (by rw [List.length_map, List.length_map]; omega) ?_
    rw [List.map_append, List.map_append]
    show _ = [Sv.val (.int p), .val A, .val B, .own (L.map PyData.int), .own (M.map PyData.int), .own ((pre.map φ).map PyData.int ++ [PyData.int (φ P)]), .val (.int (0 + (P : Int))), .un]
    rw [hφ]
    rfl
  · rintro β ⟨s6, rfl⟩
    unfold eN
    walk_at "ev"
def isR (p : Nat) (r : Nu) : Prop := ∀ k, k < r.length / 2 → ∀ a ∈ rowsT p (k + 1), ∀ b ∈ rowsT p (r.length - (k + 1)), prodL (p : Int) a b ≠ r
theorem find_none {α β : Type} {g : α → Option β} {l : List α} (h : ∀ x ∈ l, g x = none) : l.findSome? g = none := List.findSome?_eq_none_iff.mpr h
theorem e__law_is_rule {p : Nat} {r : Nu} (hp1 : 1 ≤ p) (hp : p ≤ 50) (hr : r.length ≤ 50) (hs : p ^ r.length ≤ 1000) {q : Bool} (hq : q = true ↔ isR p r) : m__law_is_rule [.int (p : Int), eN r] = .ok ⟨.v, .bool q⟩ := by
  obtain ⟨st3, h3⟩ : ∃ st3 : Nat → Nu → Nu → Option R, st3 = fun k a b => if prodL (p : Int) a b = r then some (⟨.v, .bool false⟩ : R) else none := ⟨_, rfl⟩
  obtain ⟨st2, h2⟩ : ∃ st2 : Nat → Nu → Option R, st2 = fun k a => (rowsT p (r.length - (k + 1))).findSome? (st3 k a) := ⟨_, rfl⟩
  obtain ⟨st1, h1⟩ : ∃ st1 : Nat → Option R, st1 = fun k => (rowsT p (k + 1)).findSome? (st2 k) := ⟨_, rfl⟩
  have rg : rng2 [.int 1, .int ((r.length : Int) / 2 + 1)] = .ok ((List.range (r.length / 2)).map fun (q : Nat) => PyData.int (1 + (q : Int))) := by
    rw [rng2_int (by omega)]
    congr 3
    omega
  obtain ⟨N, hN⟩ : ∃ N, N = eN r := ⟨_, rfl⟩
  have nr := len_eN r
  have neq : ∀ a : Nu, eqD (eN a) N = .ok ⟨.v, .bool (decide (a = r))⟩ := fun a => by rw [hN]; exact d_eqN a r
  rw [← hN] at nr ⊢
  have key := forM_find (T := .nm 2) (b := sFor (iV (mF 2 m__law_rows (mA (mV 0) (mA (mV 2) mA0)))) (.nm 3) (sFor (iV (mF 2 m__law_rows (mA (mV 0) (mA (m2 subD (mB lenD (mA (mV 1) mA0)) (mV 2)) mA0)))) (.nm 4) (sIf (tBm (m2 eqD (mF 3 m__law_product (mA (mV 0) (mA (mV 3) (mA (mV 4) mA0)))) (mV 1))) (sRet (mC (.bool false))) mNext))) (fun (q : Nat) => PyData.int (1 + (q : Int))) st1
    (fun α => ∃ s2 s3 s4, α = [.val (.int (p : Int)), .val N, s2, s3, s4]) (List.range (r.length / 2)) [.val (.int (p : Int)), .val N, .un, .un, .un] ⟨_, _, _, rfl⟩ fun k hk α ⟨s2, s3, s4, e⟩ => by
      subst e
      have hk := List.mem_range.mp hk
      refine ⟨[.val (.int (p : Int)), .val N, .val (.int (1 + (k : Int))), s3, s4], rfl, ?_⟩
      have pk1 : p ^ (k + 1) ≤ 1000 := Nat.le_trans (pow_le' hp1 (by omega)) hs
      have pk2 : p ^ (r.length - (k + 1)) ≤ 1000 := Nat.le_trans (pow_le' hp1 (by omega)) hs
      have R1 : m__law_rows [.int (p : Int), .int (1 + (k : Int))] = .ok ⟨.v, .list ((rowsT p (k + 1)).map eN)⟩ := by
        have := e__law_rows (p := p) (n := k + 1) hp1 (by omega) (by omega) (by omega) pk1
        rwa [show ((k + 1 : Nat) : Int) = 1 + (k : Int) from by omega] at this
      have R2 : m__law_rows [.int (p : Int), .int ((r.length : Int) - (1 + (k : Int)))] = .ok ⟨.v, .list ((rowsT p (r.length - (k + 1))).map eN)⟩ := by
        have := e__law_rows (p := p) (n := r.length - (k + 1)) hp1 (by omega) (by omega) (by omega) pk2
        rwa [show ((r.length - (k + 1) : Nat) : Int) = (r.length : Int) - (1 + (k : Int)) from by omega] at this
      have in2 := forM_find (T := .nm 3) (b := sFor (iV (mF 2 m__law_rows (mA (mV 0) (mA (m2 subD (mB lenD (mA (mV 1) mA0)) (mV 2)) mA0)))) (.nm 4) (sIf (tBm (m2 eqD (mF 3 m__law_product (mA (mV 0) (mA (mV 3) (mA (mV 4) mA0)))) (mV 1))) (sRet (mC (.bool false))) mNext)) eN (st2 k)
        (fun α => ∃ s3 s4, α = [.val (.int (p : Int)), .val N, .val (.int (1 + (k : Int))), s3, s4]) (rowsT p (k + 1)) [.val (.int (p : Int)), .val N, .val (.int (1 + (k : Int))), s3, s4] ⟨_, _, rfl⟩ fun a ha α ⟨s3, s4, e⟩ => by
          subst e
          refine ⟨[.val (.int (p : Int)), .val N, .val (.int (1 + (k : Int))), .val (eN a), s4], rfl, ?_⟩
          have in3 := forM_find (T := .nm 4) (b := sIf (tBm (m2 eqD (mF 3 m__law_product (mA (mV 0) (mA (mV 3) (mA (mV 4) mA0)))) (mV 1))) (sRet (mC (.bool false))) mNext) eN (st3 k a)
            (fun α => ∃ s4, α = [.val (.int (p : Int)), .val N, .val (.int (1 + (k : Int))), .val (eN a), s4]) (rowsT p (r.length - (k + 1))) [.val (.int (p : Int)), .val N, .val (.int (1 + (k : Int))), .val (eN a), s4] ⟨_, rfl⟩ fun b hb α ⟨s4, e⟩ => by
              subst e
              refine ⟨[.val (.int (p : Int)), .val N, .val (.int (1 + (k : Int))), .val (eN a), .val (eN b)], rfl, ?_⟩
              have ha' := rowsT_num ha
              have hb' := rowsT_num hb
              have pr := e__law_product (p := (p : Int)) (a := a) (b := b) (by omega) (by omega) (by omega) (fun x hx => by have := ha'.2 x hx; omega)
              have e1 := neq (prodL (p : Int) a b)
              rw [h3]
              by_cases hq2 : prodL (p : Int) a b = r
              · dsimp only
                rw [if_pos hq2]
                rw [decide_eq_true hq2] at e1
                show _ = _
                walk_at "ev"
              · dsimp only
                rw [if_neg hq2]
                rw [decide_eq_false hq2] at e1
                refine ⟨[.val (.int (p : Int)), .val N, .val (.int (1 + (k : Int))), .val (eN a), .val (eN b)], ?_, _, rfl⟩
                walk_at "ev"
          have it : iV (mF 2 m__law_rows (mA (mV 0) (mA (m2 subD (mB lenD (mA (mV 1) mA0)) (mV 2)) mA0))) [.val (.int (p : Int)), .val N, .val (.int (1 + (k : Int))), .val (eN a), s4] = .ok ((rowsT p (r.length - (k + 1))).map eN) := by
            walk_at "ev"
          rw [h2]
          dsimp only
          cases eq : (rowsT p (r.length - (k + 1))).findSome? (st3 k a) with
          | some w => rw [eq] at in3; exact (v_for it).trans in3
          | none =>
            rw [eq] at in3
            obtain ⟨α', i1, s4', i2⟩ := in3
            exact ⟨α', (v_for it).trans i1, _, _, i2⟩
      have it : iV (mF 2 m__law_rows (mA (mV 0) (mA (mV 2) mA0))) [.val (.int (p : Int)), .val N, .val (.int (1 + (k : Int))), s3, s4] = .ok ((rowsT p (k + 1)).map eN) := by
        walk_at "ev"
      rw [h1]
      dsimp only
      cases eq : (rowsT p (k + 1)).findSome? (st2 k) with
      | some w => rw [eq] at in2; exact (v_for it).trans in2
      | none =>
        rw [eq] at in2
        obtain ⟨α', i1, s3', s4', i2⟩ := in2
        exact ⟨α', (v_for it).trans i1, _, _, _, i2⟩
  have it : iB rng2 (mA (mC (.int 1)) (mA (m2 addD (m2 fdivD (mB lenD (mA (mV 1) mA0)) (mC (.int 2))) (mC (.int 1))) mA0)) [.val (.int (p : Int)), .val N, .un, .un, .un] = .ok ((List.range (r.length / 2)).map fun (q : Nat) => PyData.int (1 + (q : Int))) := by
    walk_at "ev"
  have none_iff : (List.range (r.length / 2)).findSome? st1 = none ↔ isR p r := by
    rw [List.findSome?_eq_none_iff, h1, h2, h3]
    unfold isR
    constructor
    · intro h k hk a ha b hb e
      have := List.findSome?_eq_none_iff.mp (List.findSome?_eq_none_iff.mp (h k (List.mem_range.mpr hk)) a ha) b hb
      dsimp only at this
      rw [if_pos e] at this
      cases this
    · intro h k hk
      refine find_none fun a ha => find_none fun b hb => ?_
      dsimp only
      rw [if_neg (h k (List.mem_range.mp hk) a ha b hb)]
  have some_is : ∀ w, (List.range (r.length / 2)).findSome? st1 = some w → w = ⟨.v, .bool false⟩ := by
    intro w hq
    obtain ⟨k, _, hq⟩ := List.exists_of_findSome?_eq_some hq
    rw [h1] at hq
    obtain ⟨a, _, hq⟩ := List.exists_of_findSome?_eq_some hq
    rw [h2] at hq
    obtain ⟨b, _, hq⟩ := List.exists_of_findSome?_eq_some hq
    rw [h3] at hq
    dsimp only at hq
    by_cases e : prodL (p : Int) a b = r
    · rw [if_pos e] at hq; exact (Option.some.inj hq).symm
    · rw [if_neg e] at hq; cases hq
  cases eq : (List.range (r.length / 2)).findSome? st1 with
  | none =>
    rw [eq] at key
    obtain ⟨α', k1, s2, s3, s4, k2⟩ := key
    rw [hq.mpr (none_iff.mp eq)]
    refine w_body (α := [.val (.int (p : Int)), .val N, .un, .un, .un]) rfl (w_seq ((v_for it).trans k1) ?_)
    subst k2
    walk_at "ev"
  | some w =>
    rw [eq] at key
    have hd : q = false := by
      cases q with
      | false => rfl
      | true => rw [none_iff.mpr (hq.mp rfl)] at eq; cases eq
    rw [hd, ← some_is w eq]
    exact w_body (α := [.val (.int (p : Int)), .val N, .un, .un, .un]) rfl (v_seqR ((v_for it).trans key))

/-! FnU: rows of figures in a field; the least row is no product -/
section
variable {f : Int × Nu} (D : Drawn f)
theorem whl_sumF (q : Nat → Bool) (h : Nat → Int) : ∀ n : Nat, El.whl D.fd (((List.range n).filter q).map h).sum = Sm (El.add D.fd) (El.whl D.fd 0) (fun t => if q t = true then El.whl D.fd (h t) else El.whl D.fd 0) n
  | 0 => rfl
  | n + 1 => by
    show _ = El.add D.fd (Sm (El.add D.fd) (El.whl D.fd 0) (fun t => if q t = true then El.whl D.fd (h t) else El.whl D.fd 0) n) (if q n = true then El.whl D.fd (h n) else El.whl D.fd 0)
    rw [List.range_succ, List.filter_append, List.map_append, List.sum_append, whl_add D, whl_sumF q h n]
    congr 1
    cases e : q n with
    | true => rw [List.filter_cons_of_pos e]; simp
    | false => rw [List.filter_cons_of_neg (by rw [e]; decide)]; simp
theorem rowW_len (a : Nu) : (rowW f D a).length = a.length + 1 := by unfold rowW; simp
theorem rowW_ne (a : Nu) : rowW f D a ≠ [] := by unfold rowW; simp
theorem rowW_cf (a : Nu) (k : Nat) : cf f D (rowW f D a) k = El.whl D.fd (cfI (a ++ [1]) k) := by
  have e : rowW f D a = (a ++ [1]).map (El.whl D.fd) := by unfold rowW; simp
  rw [e]
  unfold cf cfI
  rw [List.getD_eq_getElem?_getD, List.getD_eq_getElem?_getD, List.getElem?_map]
  cases (a ++ [1])[k]? <;> rfl
theorem rowW_last (a : Nu) : cf f D (rowW f D a) a.length = El.whl D.fd 1 := by
  rw [rowW_cf]
  unfold cfI
  simp
theorem rowW_nf (a : Nu) : nf f D (rowW f D a) := fun l' x e h => by
  have : x = El.whl D.fd 1 := by
    unfold rowW at e
    have := congrArg List.getLast? e
    simpa using this.symm
  rw [this] at h
  exact one_ne D h
theorem rowW_prod (a b : Nu) : rmul f D (rowW f D a) (rowW f D b) = rowW f D (prodL f.1 a b) := by
  refine cf_ext D (by rw [rmul_len' D (rowW_ne D a) (rowW_ne D b), rowW_len, rowW_len, rowW_len, prodL_len]; omega) ?_
  rw [cf_mul D (rowW_ne D a) (rowW_ne D b)]
  have sa : Sup f D (cf f D (rowW f D a)) (a.length + 1) := by have := sup_cf D (rowW f D a); rwa [rowW_len] at this
  have sb : Sup f D (cf f D (rowW f D b)) (b.length + 1) := by have := sup_cf D (rowW f D b); rwa [rowW_len] at this
  funext P
  rcases Nat.lt_trichotomy P (a.length + b.length) with h | h | h
  · rw [cv_sm D _ (a.length + 1) _ P sa, rowW_cf]
    have e : cfI (prodL f.1 a b ++ [1]) P = (((List.range (a.length + 1)).filter (tstL (b.length + 1) P)).map fun k => cfI (a ++ [1]) k * cfI (b ++ [1]) (P - k)).sum % f.1 := by
      unfold cfI
      rw [List.getD_eq_getElem?_getD, List.getElem?_append_left (by rw [prodL_len]; exact h)]
      unfold prodL
      rw [List.getElem?_map, List.getElem?_range h]
      rfl
    rw [e, whl_mod D, whl_sumF D]
    refine sm_congr fun t ht => ?_
    unfold tstL
    by_cases h1 : t ≤ P
    · rw [if_pos h1]
      by_cases h2 : P - t < b.length + 1
      · rw [if_pos (decide_eq_true ⟨h1, h2⟩), whl_mul D, rowW_cf, rowW_cf]
      · rw [if_neg (by rw [decide_eq_true_iff]; exact fun z => h2 z.2), sb _ (by omega)]
        letI := El.comR D.fd
        show _ * (0 : El f) = 0
        grind
    · rw [if_neg h1, if_neg (by rw [decide_eq_true_iff]; exact fun z => h1 z.1)]
  · rw [h, top_mul D sa sb, rowW_last, rowW_last]
    have := rowW_last D (prodL f.1 a b)
    rw [prodL_len] at this
    rw [this]
    exact El.mul_one D.fd _
  · rw [cv_out D sa sb (by omega), cf_out D (by rw [rowW_len, prodL_len]; omega)]
theorem val_ra (t : Nat) (x : El f) : ∀ l : List (El f), ra f D t (valE f D x l) = valE f D (ra f D t x) (l.map (ra f D t))
  | [] => D.ra_zero t
  | c :: l => by
    show ra f D t (El.add D.fd (El.mul D.fd (valE f D x l) x) c) = El.add D.fd (El.mul D.fd (valE f D (ra f D t x) (l.map (ra f D t))) (ra f D t x)) (ra f D t c)
    rw [D.ra_add, D.ra_mul, val_ra t x l]
theorem rowW_ra (t : Nat) (a : Nu) : (rowW f D a).map (ra f D t) = rowW f D a := by
  unfold rowW
  rw [List.map_append, List.map_singleton, D.ra_one, List.map_map]
  congr 1
  exact List.map_congr_left fun z _ => ra_whl D t z
/-- what is nought at a number has at least as many figures as its home tells -/
theorem home_le {x : El f} {d : Nat} (h : IsHome D x d) {a : Nu} (hv : valE f D x (rowW f D a) = El.whl D.fd 0) : d ≤ a.length := by
  have c := root_count D (alikeE f D x d) (rowW f D a) (rowW_ne D a) (by rw [rowW_len, Nat.add_sub_cancel, rowW_last]; exact one_ne' D) (alike_nd D h) fun r hr => by
    obtain ⟨t, rfl⟩ := (mem_alike D h r).mp hr
    rw [← rowW_ra D t, ← val_ra, hv, D.ra_zero]
  rw [rowW_len, alike_len] at c
  omega
end
theorem w_raise {c : Ex} {α : En} : sRaise c α = .er c := rfl

end FM

/-! FsW: sorted, count, index, a list so many times -/
namespace FS
open PySem PySem.Spec PyProof.Rows L2
section
variable {X : Cx} {ca : Cc} {W : WX} {a b c e o : Expr} {es : List Expr} {ma mb mc me mo : M} {pos : Pos}
theorem vals_each : ∀ {bs : List (V × PyData)} {us : List Value}, Vals (bs.map Prod.fst) us → PySem.W.EachIs (fun v (b : V × PyData) => RelV b.1 v) us bs
  | [], _, .nil => .nil
  | b :: bs, _, .cons r t => .cons r (vals_each t)
theorem each_vals : ∀ {bs : List (V × PyData)} {us : List Value}, PySem.W.EachIs (fun v (b : V × PyData) => RelV b.1 v) us bs → Vals (bs.map Prod.fst) us
  | [], _, .nil => .nil
  | b :: bs, _, .cons r t => .cons r (each_vals t)
theorem reads_each {pins : List (Addr × Obj)} {σ : L2.St} {H : Hp} {s : Shared} (I : Inv X pins σ H s) : ∀ {bs : List (V × PyData)} {us : List Value}, Vals (bs.map Prod.fst) us → (∀ b ∈ bs, Dp X.K H b.1 b.2) → PySem.W.EachIs (fun v (b : V × PyData) => ∃ as, Reads s.heap v b.2 as) us bs
  | [], _, .nil, _ => .nil
  | b :: bs, _, .cons r t, h => .cons (Dp.reads I b.2 b.1 _ (h b List.mem_cons_self) r) (reads_each I t fun x hx => h x (List.mem_cons_of_mem _ hx))
/-- sorted(xs), xs a list of data that are alike -/
def rSortedData (K : PySem.W.Frag) : List V → Hp → VK → Prop := fun xs H Q => ∃ (l : Addr) (bs : List (V × PyData)), xs = [.ref l] ∧ SqL K H l (bs.map Prod.fst) ∧ (∀ b ∈ bs, Dp K H b.1 b.2) ∧ PySem.W.AllAlike (bs.map Prod.snd) ∧ PySem.W.Sortable (bs.map Prod.snd) ∧ (∀ b ∈ bs, b.2.depth ≤ 60) ∧
  ∀ p, H p = none → Q (.ref p) (upd H p (.lst ((bs.mergeSort (PySem.W.dataLe false Prod.snd)).map Prod.fst)))
theorem cr_sortedData (hu : X.A.units + 64 < cLine) : CallR X (.builtin "sorted") (rSortedData X.K) := by
  intro pins s σ H vs us Q I r h
  obtain ⟨l, bs, rfl, hs, hd, hal, hk, hdp, q⟩ := h
  obtain ⟨its, rv, hl, hz⟩ := I.list hs
  rw [Vals.ref1 r]
  refine PySem.W.sorted_data (enc := Prod.snd) (bs := bs) (R := fun v (b : V × PyData) => RelV b.1 v) hl.isList (vals_each rv) (reads_each I rv hd) hal hk (by rw [List.length_map] at hz; exact hz) (fun b hb => by have := hdp b hb; omega) fun out h1 h2 => ?_
  obtain ⟨ep, he'⟩ := PyProof.Rows.sortedAll_at s.heap its out.toArray
  have hv := each_vals h2
  have hlen : ((bs.mergeSort (PySem.W.dataLe false Prod.snd)).map Prod.fst).length ≤ sizeLine := by
    rw [List.length_map, List.length_mergeSort]
    rw [List.length_map] at hz; exact hz
  exact ⟨.ref _, upd H (s.heap.objs.size + 1) (.lst ((bs.mergeSort (PySem.W.dataLe false Prod.snd)).map Prod.fst)), I.laid (t' := s.toks) (fun _ _ => PyProof.Rows.sortedAll_old) (Nat.le_succ _) ⟨hlen, out, ep, hv, he'⟩, rfl, q _ (I.hok.fresh (Nat.le_succ _))⟩
def alk (ds : List PyData) : Bool := ds.all fun d => ds.all fun d' => PySem.W.alike d d'
def srtb (ds : List PyData) : Bool := (ds.all fun d => match d with | .tuple (_ :: _) => true | _ => false) || ds.all fun d => match d with | .none => false | .tuple _ => false | _ => true
theorem alk_all {ds : List PyData} (h : alk ds = true) : PySem.W.AllAlike ds := fun d hd d' hd' => List.all_eq_true.mp (List.all_eq_true.mp h d hd) d' hd'
theorem srtb_all {ds : List PyData} (h : srtb ds = true) : PySem.W.Sortable ds := by
  unfold srtb at h
  rcases Bool.or_eq_true_iff.mp h with h | h
  · refine .inl fun d hd => ?_
    have := List.all_eq_true.mp h d hd
    match d, this with
    | .tuple (x :: r), _ => exact ⟨x, r, rfl⟩
  · refine .inr fun d hd => ?_
    have := List.all_eq_true.mp h d hd
    constructor
    · rintro rfl; cases this
    · rintro xs rfl; cases this
def srtD (xs : List PyData) : List PyData := xs.mergeSort (PySem.W.dataLe false id)
def sortedD1 (d : PyData) : Out R := match d with
  | .list xs => if (alk xs && srtb xs && xs.all fun d => decide (d.depth ≤ 60)) = true then .ok ⟨.f, .list (srtD xs)⟩ else .bad
  | _ => .bad
def sortedD : GL := fun ds => match ds with | [d] => sortedD1 d | _ => .bad
theorem DNs.zip_mem {K : PySem.W.Frag} {N : Addr → Prop} {H : Hp} : ∀ {vs : List V} {ds : List PyData}, DNs K N H vs ds → ∀ b ∈ vs.zip ds, DN K N H b.1 b.2
  | _, _, .nil, b, hb => by simp at hb
  | _, _, .cons x t, b, hb => by
    rw [List.zip_cons_cons] at hb
    rcases List.mem_cons.mp hb with e | e
    · rw [e]; exact x
    · exact DNs.zip_mem t b e
theorem DNs.of_mem {K : PySem.W.Frag} {N : Addr → Prop} {H : Hp} : ∀ {bs : List (V × PyData)}, (∀ b ∈ bs, DN K N H b.1 b.2) → DNs K N H (bs.map Prod.fst) (bs.map Prod.snd)
  | [], _ => .nil
  | b :: bs, h => .cons (h b List.mem_cons_self) (DNs.of_mem fun x hx => h x (List.mem_cons_of_mem _ hx))
theorem cd_sorted (hu : X.A.units + 64 < cLine) : CallD X (.builtin "sorted") sortedD where
  ex := ⟨_, cr_sortedData hu, fun N H vs ds res Q rs e q => by
    obtain ⟨d, rfl, e⟩ := one_of (fun _ => rfl) e
    obtain ⟨v, rfl, x⟩ := rs.one
    cases d with
    | list xs =>
      have e : (if (alk xs && srtb xs && xs.all fun d => decide (d.depth ≤ 60)) = true then Out.ok (R.mk .f (.list (srtD xs))) else .bad) = .ok res := e
      split at e
      · rename_i hc
        cases e
        rw [Bool.and_eq_true, Bool.and_eq_true] at hc
        obtain ⟨⟨h1, h2⟩, h3⟩ := hc
        obtain ⟨p, ws, rfl, hp, t⟩ := x.lst
        have hl := t.length
        have e1 : (ws.zip xs).map Prod.fst = ws := List.map_fst_zip (by omega)
        have e2 : (ws.zip xs).map Prod.snd = xs := List.map_snd_zip (by omega)
        have hm := t.zip_mem
        refine ⟨p, ws.zip xs, rfl, by rw [e1]; exact hp, fun b hb => (hm b hb).dp, by rw [e2]; exact alk_all h1, by rw [e2]; exact srtb_all h2, fun b hb => ?_, fun l hl' => ?_⟩
        · exact of_decide_eq_true (List.all_eq_true.mp h3 b.2 (List.of_mem_zip hb).2)
        · have t2 : DNs X.K N H (((ws.zip xs).mergeSort (PySem.W.dataLe false Prod.snd)).map Prod.fst) (srtD xs) := by
            have z := DNs.of_mem (K := X.K) (N := N) (H := H) (bs := (ws.zip xs).mergeSort (PySem.W.dataLe false Prod.snd)) fun b hb => hm b ((List.mergeSort_perm _ _).mem_iff.mp hb)
            have e3 : ((ws.zip xs).mergeSort (PySem.W.dataLe false Prod.snd)).map Prod.snd = srtD xs := by
              unfold srtD
              have m := List.map_mergeSort (r := PySem.W.dataLe false Prod.snd) (s := PySem.W.dataLe false id) (f := Prod.snd) (l := ws.zip xs) (fun _ _ _ _ => rfl)
              rw [e2] at m
              exact m
            rw [e3] at z
            exact z
          exact q _ _ (Same.new hl') (.newL hl' t2)
      · cases e
    | _ => cases e⟩
  noerr := one_ne (fun _ => rfl) fun d c e => by
    cases d with
    | list xs =>
      have e : (if (alk xs && srtb xs && xs.all fun d => decide (d.depth ≤ 60)) = true then Out.ok (R.mk .f (.list (srtD xs))) else .bad) = .err c := e
      split at e <;> cases e
    | _ => cases e
/-! ### xs.count(x), xs.index(x) -/
def rCountD (K : PySem.W.Frag) : V → List V → Hp → VK → Prop := fun x xs H Q => ∃ (l : Addr) (ws : List V) (y : V) (d : PyData) (ds : List PyData), x = V.ref l ∧ xs = [y] ∧ SqL K H l ws ∧ DpAll K H ws ds ∧ Dp K H y d ∧
  PyData.plainAll ds = true ∧ d.plain = true ∧ d.depth ≤ 60 ∧ Q (.int ((ds.countP fun z => PyData.eqv z d : Nat) : Int)) H
theorem mt_countD (hu : X.A.units + 64 < cLine) : MtR X "list.count" (rCountD X.K) := by
  intro pins s σ H x xs v us Q I rx rxs h
  obtain ⟨l, ws, y, d, ds, rfl, rfl, hl, ha, hy, p1, p2, hd, q⟩ := h
  cases rx
  obtain ⟨u, rfl, ru⟩ := rxs.one
  obtain ⟨bs, r1⟩ := Dp.reads I d y u hy ru
  obtain ⟨its, rv, pl, hz⟩ := I.list hl
  obtain ⟨as, r2⟩ := Dp.readsAll I ds ws its ha rv
  refine SeqAt.count_list_data (vs := its.toArray) pl.isList (by simpa using r2) r1 p1 p2 (by omega) ?_
  exact ⟨.int ((ds.countP fun z => PyData.eqv z d : Nat) : Int), H, I.tok _, ⟨_, rfl⟩, q⟩
def countD (ds : List PyData) : List R → Out R
  | [r] => if (PyData.plainAll ds && r.d.plain && decide (r.d.depth ≤ 60)) = true then .ok ⟨.v, .int ((ds.countP fun z => PyData.eqv z r.d : Nat) : Int)⟩ else .bad
  | _ => .bad
def indexD (ds : List PyData) : List R → Out R
  | [r] => if (SeqAt.shaped (.list ds) && SeqAt.shaped r.d) = true then (match ds.findIdx? (fun z => PyData.eqv z r.d) with
    | some j => .ok ⟨.v, .int (j : Int)⟩
    | none => .bad) else .bad
  | _ => .bad
/-- a method of a list that tells something -/
def mMeth (g : List PyData → List R → Out R) (mo : M) (mx : MA) : M := fun α => (mo α).bind fun x => match x.d with
  | .list ds => (mx α).bind fun rs => g ds rs
  | _ => .bad
structure MethD (X : Cx) (id : String) (g : List PyData → List R → Out R) : Prop where
  ex : ∃ r : V → List V → Hp → VK → Prop, MtR X id r ∧ ∀ (N : Addr → Prop) (H : Hp) (l : Addr) (ws vs : List V) (ds : List PyData) (rs : List R) (res : R) (Q : VK), SqL X.K H l ws → DNs X.K N H ws ds → RDs X.K N H vs (rs.map (·.d)) → g ds rs = .ok res → (∀ v H', Same H H' → RV X.K N H H' v res → Q v H') → r (.ref l) vs H Q
  noerr : ∀ ds rs c, g ds rs ≠ .err c
theorem md_count (hu : X.A.units + 64 < cLine) : MethD X "list.count" countD where
  ex := ⟨_, mt_countD hu, fun N H l ws vs ds rs res Q hl ha hv e q => by
    match rs, hv, e with
    | [r], hv, e =>
      obtain ⟨v, rfl, x⟩ := hv.one
      have e : (if (PyData.plainAll ds && r.d.plain && decide (r.d.depth ≤ 60)) = true then Out.ok (R.mk .v (.int ((ds.countP fun z => PyData.eqv z r.d : Nat) : Int))) else .bad) = .ok res := e
      split at e
      · rename_i hc
        cases e
        rw [Bool.and_eq_true, Bool.and_eq_true] at hc
        obtain ⟨⟨h1, h2⟩, h3⟩ := hc
        exact ⟨l, ws, v, r.d, ds, rfl, rfl, hl, ha.dp, x.dp, h1, h2, of_decide_eq_true h3, q _ H (Same.refl _) .intv⟩
      · cases e
    | [], _, e => cases e
    | _ :: _ :: _, _, e => cases e⟩
  noerr := fun ds rs c e => by
    match rs, e with
    | [r], e => have e : (if (PyData.plainAll ds && r.d.plain && decide (r.d.depth ≤ 60)) = true then Out.ok (R.mk .v (.int ((ds.countP fun z => PyData.eqv z r.d : Nat) : Int))) else .bad) = .err c := e; split at e <;> cases e
    | [], e => cases e
    | _ :: _ :: _, e => cases e
theorem md_index (hu : X.A.units + 65 < cLine) : MethD X "list.index" indexD where
  ex := ⟨_, mt_indexD hu, fun N H l ws vs ds rs res Q hl ha hv e q => by
    match rs, hv, e with
    | [r], hv, e =>
      obtain ⟨v, rfl, x⟩ := hv.one
      have e : (if (SeqAt.shaped (.list ds) && SeqAt.shaped r.d) = true then (match ds.findIdx? (fun z => PyData.eqv z r.d) with | some j => Out.ok (R.mk .v (.int (j : Int))) | none => .bad) else .bad) = .ok res := e
      split at e
      · rename_i hc
        rw [Bool.and_eq_true] at hc
        cases ej : ds.findIdx? (fun z => PyData.eqv z r.d) with
        | none => rw [ej] at e; cases e
        | some j =>
          rw [ej] at e
          cases e
          obtain ⟨hj, h1, h2⟩ := List.findIdx?_eq_some_iff_getElem.mp ej
          refine ⟨l, v, r.d, ds, j, ds[j], rfl, rfl, .lst hl ha.dp, x.dp, hc.1, hc.2, List.getElem?_eq_getElem hj, h1, fun m z' hm hz => ?_, q _ H (Same.refl _) .intv⟩
          have hm' : m < ds.length := by omega
          rw [List.getElem?_eq_getElem hm'] at hz
          rw [← Option.some.inj hz]
          have := h2 m hm
          simpa using this
      · cases e
    | [], _, e => cases e
    | _ :: _ :: _, _, e => cases e⟩
  noerr := fun ds rs c e => by
    match rs, e with
    | [r], e =>
      have e : (if (SeqAt.shaped (.list ds) && SeqAt.shaped r.d) = true then (match ds.findIdx? (fun z => PyData.eqv z r.d) with | some j => Out.ok (R.mk .v (.int (j : Int))) | none => .bad) else .bad) = .err c := e
      split at e
      · cases ej : ds.findIdx? (fun z => PyData.eqv z r.d) with
        | none => rw [ej] at e; cases e
        | some j => rw [ej] at e; cases e
      · cases e
    | [], e => cases e
    | _ :: _ :: _, e => cases e
theorem se_meth {name : Str} {apos cpos : Pos} {id : String} {g : List PyData → List R → Out R} {mx : MA} (hm : MethD X id g) (slot : Slot "list" name id) (hty : typeOf (.builtin id) = pure (.type "method_descriptor")) (ho : SE X ca W o mo) (ha : SA X ca W (e :: es) mx)
    (hbase : attributeBase o name X.env (eval o X.env) = eval o X.env := by rfl)
    (hfew : ((backTo cpos (starEach (e :: es) X.env)).all (fun x => !x.1) && (backToKw cpos (keywordEach [] X.env)).all (fun x => x.1.isSome)
      && decide ((e :: es).length + ([] : List Keyword).length + (if ([] : List Keyword).isEmpty then 0 else 1) < 30)) = true := by rfl)
    (hline : (apos.endLine == cpos.line) = true := by rfl) (hs : starEach (e :: es) X.env = (false, eval e X.env) :: starEach es X.env := by rfl) (hplain : (backTo cpos (starEach es X.env)).any (·.1) = false := by rfl) :
    SE X ca W (.Call (.Attribute o name apos) (e :: es) [] cpos) (mMeth g mo mx) := by
  obtain ⟨r, h1, h2⟩ := hm.ex
  refine PE.imp (pe_bm PySem.F.plainAttrs_list slot hty h1 ho ha hbase hfew hline hs hplain) fun σ H Q q => ?_
  obtain ⟨H0, F, α, rel, q⟩ := q.go
  refine tS.seq (f := fun x => match x.d with
    | .list ds => (mx α).bind fun rs => g ds rs
    | _ => .bad) rel PV.mono q fun rx x H1 s1 x1 rel1 q1 => ?_
  obtain ⟨k, d⟩ := rx
  cases d with
  | list ds =>
    obtain ⟨l, ws, rfl, hl, t⟩ := x1.rd.lst
    refine ⟨.inl ⟨rfl, ws, hl⟩, ?_⟩
    have q1 : GO ca W σ (PV X.K (Nn F α σ) Q) ((mx α).bind fun rs => g ds rs) H1 := q1
    refine tSA.seq rel1 PV.mono q1 fun rs vs H2 s2 x2 rel2 q2 => ?_
    cases e2 : g ds rs with
    | ok res => rw [e2] at q2; exact h2 _ H2 l ws vs ds rs res Q (s2.seq hl) (t.same s2) x2.rds e2 q2
    | err c => exact absurd e2 (hm.noerr _ _ c)
    | bad => rw [e2] at q2; exact q2.elim
  | none => exact q1.elim
  | bool _ => exact q1.elim
  | int _ => exact q1.elim
  | str _ => exact q1.elim
  | tuple _ => exact q1.elim
  | dict _ => exact q1.elim
/-! ### a new list so many times -/
def repD (x : R) (y : PyData) : Out R := match x, y with
  | ⟨.f, .list ds⟩, .int k => if -(2 ^ 63) ≤ k ∧ k < 2 ^ 63 ∧ ds.length * k.toNat ≤ sizeLine then .ok ⟨.f, .list (List.replicate k.toNat ds).flatten⟩ else .bad
  | _, _ => .bad
def mRep (ma mb : M) : M := fun α => (ma α).bind fun x => (mb α).bind fun y => repD x y.d
theorem se_rep (ha : SE X ca W a ma) (hb : SE X ca W b mb) : SE X ca W (.BinOp a .Mult b pos) (mRep ma mb) := by
  refine PE.imp (pe_op op_rep ha hb) fun σ H Q q => ?_
  obtain ⟨H0, F, α, rel, q⟩ := q.go
  refine tS.seq (f := fun x => (mb α).bind fun y => repD x y.d) rel PV.mono q fun rx x H1 s1 x1 rel1 q1 => ?_
  refine tS.seq (f := fun y => repD rx y.d) rel1 PV.mono q1 fun ry y H2 s2 x2 rel2 q2 => ?_
  obtain ⟨k, d⟩ := rx
  obtain ⟨k', d'⟩ := ry
  cases k with
  | f =>
    cases d with
    | list ds =>
      cases d' with
      | int i =>
        have q2 : GO ca W σ (PV X.K (Nn F α σ) Q) (if -(2 ^ 63) ≤ i ∧ i < 2 ^ 63 ∧ ds.length * i.toNat ≤ sizeLine then .ok ⟨.f, .list (List.replicate i.toNat ds).flatten⟩ else .bad) H2 := q2
        split at q2
        · rename_i hc
          obtain ⟨l, vs, es, e1, e2, e3, e4, e5⟩ := x1
          cases e1
          cases e2
          have e6 := s2 _ _ e4
          have e7 := (e5.same s2).less (N' := Nn F α σ) fun a z => .inl z
          refine ⟨l, i, vs, rfl, x2.rd.int, e6, hc.1, hc.2.1, by rw [e7.length]; exact hc.2.2, fun p hp => ?_⟩
          exact q2 _ _ (Same.new hp) (.newL hp (e7.rep _))
        · exact q2.elim
      | _ => exact q2.elim
    | _ => exact q2.elim
  | v => cases d <;> exact q2.elim
  | b => cases d <;> exact q2.elim
end
end FS

/-! FsX: sorted(set(xs)), xs a list of tuples of ints -/
namespace FS
open PySem PySem.Spec PyProof.Rows L2
theorem le_eN (a b : Nu) : PySem.W.dataLe false id (eN a) (eN b) = decide (a ≤ b) := by
  show (!PySem.W.dataLt (.tuple (b.map PyData.int)) (.tuple (a.map PyData.int))) = _
  rw [PySem.W.dataLt_tuple]
  show (!PySem.W.rowLt (b.map PyData.int) (a.map PyData.int)) = _
  rw [PySem.W.dataLt_ints]
  by_cases h : b < a
  · rw [decide_eq_true h, decide_eq_false (List.not_le.mpr h)]; rfl
  · rw [decide_eq_false h, decide_eq_true (List.not_lt.mp h)]; rfl
theorem srtD_eN (xs : List Nu) : srtD (xs.map eN) = (xs.mergeSort fun a b => decide (a ≤ b)).map eN := by
  unfold srtD
  exact (List.map_mergeSort (r := fun a b : Nu => decide (a ≤ b)) (s := PySem.W.dataLe false id) (f := eN) (l := xs) (fun a _ b _ => (le_eN a b).symm)).symm
theorem nu_sorted (xs : List Nu) : (xs.mergeSort fun a b => decide (a ≤ b)).Pairwise fun a b : Nu => a ≤ b := by
  refine (List.pairwise_mergeSort (le := fun a b : Nu => decide (a ≤ b)) (fun a b c h1 h2 => ?_) (fun a b => ?_) xs).imp fun h => of_decide_eq_true h
  · exact decide_eq_true (List.le_trans (of_decide_eq_true h1) (of_decide_eq_true h2))
  · rcases List.le_total a b with h | h
    · simp [h]
    · simp [h]
/-- what is sorted and of the same is it -/
theorem srt_unique {xs ys : List Nu} (hp : xs.Perm ys) (hs : ys.Pairwise fun a b => a ≤ b) : srtD (xs.map eN) = ys.map eN := by
  rw [srtD_eN]
  congr 1
  exact List.Perm.eq_of_pairwise (fun a b _ _ h1 h2 => List.le_antisymm h1 h2) (nu_sorted xs) hs ((List.mergeSort_perm _ _).trans hp)
theorem code_le {B : Int} : ∀ {a b : Nu}, a.length = b.length → TS.Bd B a → TS.Bd B b → b < a → TS.code B b < TS.code B a
  | [], [], _, _, _, h => absurd h (by simp)
  | x :: a, y :: b, hl, ha, hb, h => by
    have hl2 : a.length = b.length := by simpa using hl
    rcases List.cons_lt_cons_iff.mp h with h1 | ⟨e, h1⟩
    · exact TS.code_lt hl2.symm hb.tail ha.tail h1
    · subst e
      have ih := code_le (a := a) (b := b) hl2 ha.tail hb.tail h1
      exact (TS.code_same hl2.symm).mpr ih
def ddup : List Nu → List Nu
  | [] => []
  | x :: l => if x ∈ l then ddup l else x :: ddup l
theorem mem_ddup (y : Nu) : ∀ l : List Nu, y ∈ ddup l ↔ y ∈ l
  | [] => Iff.rfl
  | x :: l => by
    unfold ddup
    have ih := mem_ddup y l
    split
    · rename_i h
      rw [ih, List.mem_cons]
      exact ⟨.inr, fun z => z.elim (fun e => e ▸ h) id⟩
    · rw [List.mem_cons, List.mem_cons, ih]
theorem nd_ddup : ∀ l : List Nu, (ddup l).Nodup
  | [] => List.nodup_nil
  | x :: l => by
    unfold ddup
    split
    · exact nd_ddup l
    · rename_i h
      exact List.nodup_cons.mpr ⟨fun z => h ((mem_ddup x l).mp z), nd_ddup l⟩
def nuOf : PyData → Option Nu
  | .tuple ds => intsOf ds
  | _ => none
theorem nuOf_eq {d : PyData} {a : Nu} (h : nuOf d = some a) : d = eN a := by
  cases d with
  | tuple ds => have h : intsOf ds = some a := h; rw [intsOf_eq h]; rfl
  | _ => cases h
def nusOf : List PyData → Option (List Nu)
  | [] => some []
  | d :: ds => match nuOf d, nusOf ds with
    | some a, some l => some (a :: l)
    | _, _ => none
theorem nusOf_eq : ∀ {ds : List PyData} {l : List Nu}, nusOf ds = some l → ds = l.map eN
  | [], l, h => by cases h; rfl
  | d :: ds, l, h => by
    unfold nusOf at h
    cases e1 : nuOf d with
    | none => rw [e1] at h; cases h
    | some a =>
      cases e2 : nusOf ds with
      | none => rw [e1, e2] at h; cases h
      | some m => rw [e1, e2] at h; cases h; rw [nuOf_eq e1, nusOf_eq e2]; rfl
theorem nusOf_map : ∀ l : List Nu, nusOf (l.map eN) = some l
  | [] => rfl
  | a :: l => by
    have h1 : nuOf (eN a) = some a := intsOf_map a
    show (match nuOf (eN a), nusOf (l.map eN) with | some a, some l => some (a :: l) | _, _ => none) = _
    rw [h1, nusOf_map l]
/-- all of one length, figures in bounds, few -/
def nusOk (l : List Nu) : Bool := decide (l.length < 64) && l.all fun a => decide (1 ≤ a.length) && (l.all fun b => decide (a.length = b.length)) && a.all fun x => decide (0 ≤ x ∧ x < 1000)
def setD1 (d : PyData) : Out R := match d with
  | .list ds => match nusOf ds with
    | some l => if nusOk l = true then .ok ⟨.f, .list (srtD ((ddup l).map eN))⟩ else .bad
    | none => .bad
  | _ => .bad
def mSortSet (m : M) : M := fun α => (m α).bind fun x => setD1 x.d
section
variable {X : Cx} {ca : Cc} {W : WX} {e : Expr} {me : M}
theorem tup_ks {N : Addr → Prop} {H : Hp} : ∀ {l : List Nu} {ws : List V}, DNs X.K N H ws (l.map eN) → ∃ ks : List (Addr × List Int), ws = ks.map (fun p => V.ref p.1) ∧ ks.map (·.2) = l ∧ (∀ p ∈ ks, SqT X.K H p.1 (p.2.map V.int))
  | [], _, h => by cases h; exact ⟨[], rfl, rfl, fun p hp => by simp at hp⟩
  | a :: l, _, h => by
    cases h with
    | cons x t =>
      obtain ⟨ks, e1, e2, e3⟩ := tup_ks t
      cases (show DN X.K N H _ (.tuple (a.map PyData.int)) from x) with
      | tup q u =>
        rename_i b xs
        rw [u.ints] at q
        refine ⟨(b, a) :: ks, by rw [e1]; rfl, by rw [List.map_cons, e2], fun p hp => ?_⟩
        rcases List.mem_cons.mp hp with z | z
        · rw [z]; exact q
        · exact e3 p z
theorem DNs.of_ints {N : Addr → Prop} {H : Hp} : ∀ ns : List Int, DNs X.K N H (ns.map V.int) (ns.map PyData.int)
  | [] => .nil
  | i :: r => .cons (.int i) (DNs.of_ints r)
theorem ks_dn {N : Addr → Prop} {H : Hp} : ∀ {ks : List (Addr × List Int)}, (∀ p ∈ ks, SqT X.K H p.1 (p.2.map V.int)) → DNs X.K N H (ks.map fun p => V.ref p.1) ((ks.map (·.2)).map eN)
  | [], _ => .nil
  | p :: ks, h => .cons (DN.tup (h p List.mem_cons_self) (DNs.of_ints p.2)) (ks_dn fun q hq => h q (List.mem_cons_of_mem _ hq))
theorem se_sortSet {p1 p2 pos1 pos2 : Pos} (hc : X.calm = true) (hu : X.A.units + 64 < cLine) (hg1 : Gl X "sorted") (hm1 : X.mg "sorted" = none) (hg2 : Gl X "set") (hm2 : X.mg "set" = none) (he : SE X ca W e me)
    (hs1 : starEach [Expr.Call (.Name "set" p2) [e] [] pos2] X.env = (false, eval (Expr.Call (.Name "set" p2) [e] [] pos2) X.env) :: starEach [] X.env := by rfl)
    (hs2 : starEach [e] X.env = (false, eval e X.env) :: starEach [] X.env := by rfl) :
    SE X ca W (.Call (.Name "sorted" p1) [.Call (.Name "set" p2) [e] [] pos2] [] pos1) (mSortSet me) := by
  have P1 : PE X (.Call (.Name "set" p2) [e] [] pos2) _ := pe_callTy (cr_setOfT hc hu) hg2 hm2 (by rfl) (pa_cons he pa_nil hs2) (by decide) (by decide) hs2 rfl
  have P2 := pe_callB (pos := pos1) (p := p1) (cr_sortedT hc) hg1 hm1 (by rfl) (pa_cons P1 pa_nil hs1) (by decide) (by decide) hs1 rfl
  refine PE.imp P2 fun σ H Q q => ?_
  obtain ⟨H0, F, α, rel, q⟩ := q.go
  refine tS.seq (f := fun x => setD1 x.d) rel PV.mono q fun rx x H1 s1 x1 rel1 q1 => ?_
  obtain ⟨k, d⟩ := rx
  cases d with
  | list ds =>
    have q1 : GO ca W σ (PV X.K (Nn F α σ) Q) (match nusOf ds with
      | some l => if nusOk l = true then Out.ok (R.mk .f (.list (srtD ((ddup l).map eN)))) else .bad
      | none => .bad) H1 := q1
    cases en : nusOf ds with
    | none => rw [en] at q1; exact q1.elim
    | some l =>
      rw [en] at q1
      have q1 : GO ca W σ (PV X.K (Nn F α σ) Q) (if nusOk l = true then Out.ok (R.mk .f (.list (srtD ((ddup l).map eN)))) else .bad) H1 := q1
      split at q1
      · rename_i hok
        obtain ⟨b, ws, rfl, hl, t⟩ := x1.rd.lst
        rw [nusOf_eq en] at t
        obtain ⟨ks, e1, e2, e3⟩ := tup_ks t
        rw [e1] at hl
        unfold nusOk at hok
        rw [Bool.and_eq_true] at hok
        have h64 := of_decide_eq_true hok.1
        have hall := List.all_eq_true.mp hok.2
        have hlen : ks.length = l.length := by rw [← e2, List.length_map]
        show rSetOfT X.K X.prog X.w [V.ref b] H1 fun v H2 => rSortedT X.K X.prog X.w [v] H2 Q
        refine ⟨b, ks, rfl, hl, e3, by omega, fun a L ha hL1 hL2 => ?_⟩
        have hin : ∀ p ∈ L, p.2 ∈ l := fun p hp => by rw [← e2]; exact List.mem_map.mpr ⟨p, hL1 p hp, rfl⟩
        have sm : Same H1 (upd H1 a (SetTO X.prog X.w a L)) := Same.new ha
        have st : ∀ p ∈ L, SqT X.K (upd H1 a (SetTO X.prog X.w a L)) p.1 (p.2.map V.int) := fun p hp => SqT.mono (fun ys z => sm _ _ z) (fun o ys z => sm _ _ z) (e3 p (hL1 p hp))
        obtain ⟨dd, hdd⟩ : ∃ dd : Nat, 1 ≤ dd ∧ ∀ c ∈ l, c.length = dd := by
          cases l with
          | nil => exact ⟨1, Nat.le_refl _, fun c hc => by simp at hc⟩
          | cons c0 l0 =>
            have z := hall c0 List.mem_cons_self
            rw [Bool.and_eq_true, Bool.and_eq_true] at z
            exact ⟨c0.length, of_decide_eq_true z.1.1, fun c hc => (of_decide_eq_true (List.all_eq_true.mp z.1.2 c hc)).symm⟩
        have hbd : ∀ c ∈ l, TS.Bd 1000 c := fun c hc m hm => by
          have z := hall c hc
          rw [Bool.and_eq_true, Bool.and_eq_true] at z
          exact of_decide_eq_true (List.all_eq_true.mp z.2 m hm)
        refine ⟨a, L, dd, 1000, rfl, upd_same, st, hdd.1, fun p hp => ⟨hdd.2 _ (hin p hp), hbd _ (hin p hp)⟩, fun L' p pm nd few pw hp => ?_⟩
        have hp1 : H1 p = none := by
          by_cases e : p = a
          · rw [e, upd_same] at hp; cases hp
          · rw [upd_ne e] at hp; exact hp
        have mem' : ∀ c, c ∈ L'.map (·.2) ↔ c ∈ ddup l := fun c => by
          rw [mem_ddup]
          constructor
          · intro hc
            obtain ⟨r, hr, rfl⟩ := List.mem_map.mp hc
            exact hin r (pm.mem_iff.mp hr)
          · intro hc
            rw [← e2] at hc
            obtain ⟨r, hr, rfl⟩ := List.mem_map.mp hc
            exact (pm.map (·.2)).symm.subset (hL2 r hr)
        have perm : (ddup l).Perm (L'.map (·.2)) := ((List.perm_ext_iff_of_nodup nd (nd_ddup l)).mpr mem').symm
        have sorted : (L'.map (·.2)).Pairwise fun a b : Nu => a ≤ b := by
          rw [List.pairwise_map]
          refine List.Pairwise.imp_of_mem (fun {u v} hu hv h => ?_) pw
          have hu' := hin u (pm.mem_iff.mp hu)
          have hv' := hin v (pm.mem_iff.mp hv)
          refine List.not_lt.mp fun z => ?_
          have := code_le (B := 1000) ((hdd.2 _ hu').trans (hdd.2 _ hv').symm) (hbd _ hu') (hbd _ hv') z
          omega
        have ed : srtD ((ddup l).map eN) = (L'.map (·.2)).map eN := srt_unique perm sorted
        rw [ed] at q1
        have sm2 : Same H1 (upd (upd H1 a (SetTO X.prog X.w a L)) p (.lst (L'.map fun q => V.ref q.1))) := sm.trans (Same.new hp)
        refine q1 _ _ sm2 ⟨p, _, _, rfl, rfl, hp1, upd_same, ?_⟩
        exact ((ks_dn fun r hr => st r (pm.mem_iff.mp hr)).more hp).same (Same.new hp)
      · exact q1.elim
  | none => exact q1.elim
  | bool _ => exact q1.elim
  | int _ => exact q1.elim
  | str _ => exact q1.elim
  | tuple _ => exact q1.elim
  | dict _ => exact q1.elim
/-- a list of one's own is given free for a test alone -/
def bFrz (i : Nat) (m : MB) : MB := fun α => m (frz i α)
theorem st_frz {m : MB} (i : Nat) (h : ST X ca W e m) : ST X ca W e (bFrz i m) := PT.imp h fun σ H Q q => by
  obtain ⟨H0, F, α, rel, q⟩ := q.go
  exact tSB.mk (rel.frz i) q
end
end FS

namespace FM
open PySem FS L2
local macro_rules | `(tactic| walk_at "f") => `(tactic| first
  | with_reducible exact L_plus ‹Drawn _› _ _ | with_reducible exact L_times ‹Drawn _› _ _ | with_reducible exact C_oneL ‹Drawn _› | with_reducible exact C_noughtL ‹Drawn _› | with_reducible exact C_nought ‹Drawn _› | with_reducible exact C_whole ‹Drawn _› _
  | with_reducible exact E_sum ‹Drawn _› _ _ | with_reducible exact E_prod ‹Drawn _› _ _ | with_reducible exact C_less ‹Drawn _› _ _ | with_reducible exact C_plus ‹Drawn _› _ _ | with_reducible exact C_minus ‹Drawn _› _ _ | with_reducible exact C_times ‹Drawn _› _ _
  | with_reducible exact C_checked ‹Drawn _› | with_reducible exact C_look1 ‹Drawn _› _ | with_reducible exact C_look2 ‹Drawn _› _ _ | with_reducible exact C_size_of ‹Drawn _›
  | with_reducible exact C_sizeL ‹Drawn _› | with_reducible exact C_numbers ‹Drawn _› | with_reducible exact C_all ‹Drawn _› | with_reducible exact C_rowsL ‹Drawn _›
  | with_reducible exact e_is_within _ _ _)
local macro_rules | `(tactic| walk_at "g") => `(tactic| first
  | with_reducible exact C_atL ‹Drawn _› _ _ | with_reducible exact C_value_of ‹Drawn _› _ _ | with_reducible exact C_row_times ‹Drawn _› _ _ (by omega) | with_reducible exact C_cut ‹Drawn _› _ (by omega) | with_reducible exact C_value ‹Drawn _› (by assumption) (by assumption) _ | with_reducible exact C_multiplied ‹Drawn _› (by assumption) (by assumption) (by assumption) (by assumption)
  | with_reducible exact C_wholeL _ | with_reducible exact C_makers ‹Drawn _› | with_reducible exact C_turns ‹Drawn _› (by assumption) | with_reducible exact C_turns_of ‹Drawn _› (by assumption) | with_reducible exact C_turnsL ‹Drawn _› (by assumption) | with_reducible exact C_look_number ‹Drawn _› (by assumption) | with_reducible exact C_powerZ ‹Drawn _› (by assumption) (by omega) (by omega)
  | with_reducible exact C_raised1 ‹Drawn _› _ | with_reducible exact C_raisedL1 ‹Drawn _› _
  | with_reducible exact E_trace ‹Drawn _› _ (by assumption) (by assumption) | with_reducible exact E_norm ‹Drawn _› _ (by assumption) (by assumption)
  | with_reducible exact C_lesser ‹Drawn _› (by assumption) (by assumption) | with_reducible exact E_look_part ‹Drawn _› (by assumption) (by assumption) | with_reducible exact E_look_part0 ‹Drawn _› (by assumption) (by assumption)
  | with_reducible exact C_raisedN ‹Drawn _› _ _ | with_reducible exact C_raisedM ‹Drawn _› _ (by omega) | with_reducible exact C_raisedLN ‹Drawn _› _ (by omega) | with_reducible exact C_powerLN ‹Drawn _› _ (by omega)
  | with_reducible exact C_raisedLZ ‹Drawn _› _ (by omega) (by omega) | with_reducible exact C_powerLZ ‹Drawn _› _ (by omega) (by omega) | with_reducible exact C_raisedZ ‹Drawn _› _ (by omega) | with_reducible exact C_raisedMZ ‹Drawn _› _ (by omega) (by omega))
local macro_rules | `(tactic| walk_at "d") => `(tactic| first
  | with_reducible exact ixF0 _ | with_reducible exact ixF1 _ | with_reducible exact addD_int _ _ | with_reducible exact subD_int _ _ | with_reducible exact negD_int _
  | with_reducible exact len_eN _ | with_reducible exact d_len _ | with_reducible exact d_lenT _ | with_reducible exact len_tup _ | with_reducible exact len_lst _ | with_reducible exact tup_lst _ | with_reducible exact lst_tup _
  | with_reducible exact d_eqN _ _ | with_reducible exact d_neN _ _ | with_reducible exact d_eqI _ _ | with_reducible exact d_neI _ _ | with_reducible exact d_lt _ _ | with_reducible exact d_le _ _ | with_reducible exact d_gt _ _ | with_reducible exact d_ge _ _
  | with_reducible exact d_eqL _ _ | with_reducible exact d_neL _ _ | with_reducible exact d_eqT _ _ | with_reducible exact d_neT _ _ | with_reducible exact d_inL _ _ | with_reducible exact d_ninL _ _
  | with_reducible exact d_ix0 _ _ | with_reducible exact d_ix1 _ _ _ | with_reducible exact d_ixt0 _ _ | with_reducible exact d_ixt1 _ _ _ | with_reducible exact d_tt | with_reducible exact d_ntt
  | with_reducible exact d_eqT0 _ | with_reducible exact d_neT0 _ | with_reducible exact d_neL0 _ | with_reducible exact d_eqB _ _ | with_reducible exact d_isT _ | with_reducible exact d_lastT _ _ | with_reducible exact d_lastL _ _ | with_reducible exact d_lstL _ | with_reducible exact d_lstT _
  | with_reducible exact it_lst _ | with_reducible exact it_tup _ | with_reducible exact it_eN _
  | ((with_reducible apply modD_int); omega) | ((with_reducible apply fdivD_int); omega) | ((with_reducible refine mulD_int (.inl ?_)); omega) | ((with_reducible refine mulD_int (.inr ?_)); omega)
  | ((with_reducible apply rng1_nat); omega) | ((with_reducible apply rng1_int); omega) | ((with_reducible apply rng2_int); omega)
  | ((with_reducible apply d_rep); omega) | ((with_reducible apply w_maplen); first | with_reducible assumption | omega | ((with_reducible apply w_rlen); omega)))
local macro_rules | `(tactic| walk_at "no") => `(tactic| first
  | with_reducible exact rfl | with_reducible exact nT | with_reducible exact nF | with_reducible assumption
  | ((with_reducible apply dT); first | with_reducible exact rfl | with_reducible assumption | omega)
  | ((with_reducible apply dF); first | with_reducible assumption | omega)
  | ((with_reducible apply dNT); first | with_reducible exact rfl | with_reducible assumption | omega)
  | ((with_reducible apply dNF); first | with_reducible assumption | omega))
local macro_rules | `(tactic| walk_at "ev") => `(tactic| repeat' first
  | with_reducible exact v_c | with_reducible exact v_A0 | with_reducible exact v_O0 | with_reducible exact w_yes | with_reducible exact w_next
  | ((with_reducible apply w_eq); with_reducible assumption)
  | ((with_reducible apply v_var); exact rfl) | ((with_reducible apply v_own); exact rfl)
  | with_reducible apply v_A | with_reducible apply v_m2 | with_reducible apply w_F | with_reducible apply w_B1 | with_reducible apply w_B2 | with_reducible apply v_B | with_reducible apply v_tB | with_reducible apply v_m1
  | with_reducible exact stR_v | with_reducible exact stR_f | with_reducible exact s_0 | with_reducible apply s_c
  | ((with_reducible apply w_len); exact rfl) | ((with_reducible apply w_ble); exact rfl) | ((with_reducible apply w_own); exact rfl)
  | with_reducible apply w_Tu | with_reducible apply w_L
  | with_reducible apply v_Sl | with_reducible apply v_O1 | with_reducible apply v_iV | with_reducible apply w_iB
  | with_reducible apply v_not | with_reducible apply v_T | with_reducible apply w_or | with_reducible apply w_and
  | with_reducible apply w_ch | with_reducible apply w_vAnd | with_reducible apply w_vNot | with_reducible apply w_vOr
  | with_reducible apply w_seq | with_reducible apply w_if | with_reducible apply w_mif | with_reducible apply w_asg | with_reducible apply w_ret | with_reducible apply v_expr
  | ((with_reducible apply w_app); exact rfl) | with_reducible apply w_par | with_reducible apply w_asgT | with_reducible apply w_frz | ((with_reducible apply w_aug); exact rfl)
  | with_reducible apply putR_v | with_reducible apply putR_f | with_reducible exact ret_v | with_reducible exact ret_f | ((with_reducible apply ret_b); walk_at "no")
  | ((with_reducible apply ite_no); walk_at "no") | ((with_reducible apply ite_yes); walk_at "no")
  | ((with_reducible apply w_retO); exact rfl) | with_reducible exact retS_v | with_reducible exact retS_o
  | walk_at "f" | walk_at "d" | walk_at "g"
  | ((with_reducible apply w_set); (simp only [List.set_cons_zero, List.set_cons_succ]; try exact rfl))
  | ((with_reducible apply w_start); (simp only [startE, List.map, List.length, List.replicate, List.cons_append, List.nil_append, Nat.reduceSub, Nat.reduceAdd]; try exact rfl))
  | ((with_reducible apply w_frzn); (simp only [frz, List.getElem?_cons_zero, List.getElem?_cons_succ, List.set_cons_zero, List.set_cons_succ]; try exact rfl))
  | ((with_reducible apply w_wipe); (simp only [wipeA, List.set_cons_zero, List.set_cons_succ]; try exact rfl))
  | ((with_reducible apply w_put); (simp only [Tg.put, putAll, List.set_cons_zero, List.set_cons_succ]; try exact rfl))
  | with_reducible exact truB _ | with_reducible exact rfl)
local macro_rules | `(tactic| walk_at "go") => `(tactic| repeat first | ((with_reducible apply w_seq); (focus (walk_at "ev"; done))) | ((with_reducible apply w_frz); (focus (walk_at "ev"; done))))
local macro_rules | `(tactic| walk_at "un") => `(tactic| ((with_reducible apply w_for); (focus (walk_at "ev"; done)); (repeat ((with_reducible apply w_forc); (focus (walk_at "ev"; done)); (focus (walk_at "ev"; done)))); with_reducible exact w_for0))
local macro_rules | `(tactic| walk_at "er") => `(tactic| repeat first
  | ((with_reducible apply w_seq); (focus (walk_at "ev"; done)))
  | with_reducible apply v_seqE | with_reducible apply v_exprE | with_reducible apply v_retE | with_reducible apply w_asgE
  | ((with_reducible apply w_if); (focus (walk_at "ev"; done)); first | ((with_reducible apply ite_yes); (focus (walk_at "no"; done))) | ((with_reducible apply ite_no); (focus (walk_at "no"; done))))
  | ((with_reducible apply w_F); (focus (walk_at "ev"; done)); (focus ((with_reducible apply w_len); exact rfl)); with_reducible assumption)
  | with_reducible exact w_raise)

/-! FnV: fields of few numbers; what is sorted, counted -/
/-- rows of figures, rising -/
theorem app_lt {a b : Nu} (hl : a.length = b.length) (h : a < b) (u v : Nu) : a ++ u < b ++ v := by
  induction a generalizing b with
  | nil => cases b with
    | nil => exact absurd h (by simp)
    | cons y b => simp at hl
  | cons x a ih => cases b with
    | nil => simp at hl
    | cons y b =>
      rw [List.cons_append, List.cons_append, List.cons_lt_cons_iff]
      rcases List.cons_lt_cons_iff.mp h with h1 | ⟨h1, h2⟩
      · exact .inl h1
      · exact .inr ⟨h1, ih (by simpa using hl) h2⟩
theorem app_lt2 (a : Nu) {x y : Int} (h : x < y) : a ++ [x] < a ++ [y] := by
  induction a with
  | nil => exact List.cons_lt_cons_iff.mpr (.inl h)
  | cons z a ih => exact List.cons_lt_cons_iff.mpr (.inr ⟨rfl, ih⟩)
theorem rows_rising (p : Nat) : ∀ n : Nat, (rowsT p n).Pairwise fun a b => a < b
  | 0 => by show ([[]] : List Nu).Pairwise _; simp
  | n + 1 => by
    rw [rowsT_succ, List.pairwise_flatMap]
    refine ⟨fun a ha => ?_, ?_⟩
    · unfold nxt
      rw [List.pairwise_map]
      exact List.pairwise_lt_range.imp fun {x y} h => app_lt2 a (by omega)
    · refine List.Pairwise.imp_of_mem (fun {a b} ha hb h => ?_) (rows_rising p n)
      intro x hx y hy
      obtain ⟨i, _, rfl⟩ := List.mem_map.mp hx
      obtain ⟨j, _, rfl⟩ := List.mem_map.mp hy
      exact app_lt ((rowsT_num ha).1.trans (rowsT_num hb).1.symm) h _ _
theorem alike_eN (a b : Nu) : PySem.W.alike (eN a) (eN b) = true := by
  unfold eN PySem.W.alike
  exact PySem.W.alike_ints a b
section
variable {f : Int × Nu} (D : Drawn f)
theorem all_rising : (allE f D).Pairwise fun x y => x.a < y.a := by
  have h := rows_rising f.1.toNat f.2.length
  rw [← allE_as D] at h
  unfold as at h
  exact List.pairwise_map.mp h
theorem all_nodup : (allE f D).Nodup := (all_rising D).imp fun {x y} h e => by
  rw [e] at h
  exact List.lt_irrefl _ h
end

/-! FnW: a row as a product of x less its roots and a row without any -/
section
variable {f : Int × Nu} (D : Drawn f)
theorem cv_cancel {p q b : Nat → El f} {m n k : Nat} (hp : Sup f D p m) (hq : Sup f D q n) (hb : Sup f D b (k + 1)) (hk : b k ≠ El.whl D.fd 0) (h : cvE f D p b = cvE f D q b) : p = q := by
  have e1 : pA f D (cvE f D (pS f D p q) b) (cvE f D q b) = pA f D (fun _ => El.whl D.fd 0) (cvE f D q b) := by
    rw [← cv_addL, ps_add, h]
    funext j
    show _ = El.add D.fd (El.whl D.fd 0) _
    rw [(moA D.fd).c, (moA D.fd).u]
  have e2 := pa_inj D e1
  have e3 := zero_of D hb hk (m + n) (pS f D p q) (sup_sub D hp hq) (fun j _ => congrFun e2 j)
  have e4 := ps_add D p q
  rw [e3] at e4
  rw [← e4]
  funext j
  show El.add D.fd (El.whl D.fd 0) (q j) = q j
  rw [(moA D.fd).c, (moA D.fd).u]
theorem val_cf {a b : List (El f)} (h : cf f D a = cf f D b) (x : El f) : valE f D x a = valE f D x b := by
  rw [val_ev D x a (a.length + b.length) (by omega), val_ev D x b (a.length + b.length) (by omega), h]
theorem cf_one : cf f D [El.whl D.fd 1] = fun j => if j = 0 then El.whl D.fd 1 else El.whl D.fd 0 := by
  funext j
  cases j with
  | zero => rfl
  | succ j => rw [cf_out D (by simp), if_neg (by omega)]
theorem cv_unit (p : Nat → El f) : cvE f D p (cf f D [El.whl D.fd 1]) = p := by
  rw [cv_commL, cf_one, cv_con]
  funext k
  exact El.one_mul D.fd _
theorem wr_app (a b : List (El f)) : cf f D (wr f D (a ++ b)) = cvE f D (cf f D (wr f D a)) (cf f D (wr f D b)) := by
  refine list_rev (P := fun b => cf f D (wr f D (a ++ b)) = cvE f D (cf f D (wr f D a)) (cf f D (wr f D b))) ?_ (fun b x ih => ?_) b
  · rw [List.append_nil]
    exact (cv_unit D _).symm
  · rw [← List.append_assoc, wr_cf, wr_cf, ih, cv_assocL]
theorem wr_cons (x : El f) (l : List (El f)) : cf f D (wr f D (x :: l)) = cvE f D (cf f D (rr f D x)) (cf f D (wr f D l)) := by
  have := wr_app D [x] l
  have e : cf f D (wr f D [x]) = cf f D (rr f D x) := by
    have := wr_cf D [] x
    rw [List.nil_append] at this
    rw [this, cv_commL]
    exact cv_unit D _
  rw [e] at this
  exact this
theorem rr_top (x : El f) : Sup f D (cf f D (rr f D x)) (1 + 1) ∧ cf f D (rr f D x) 1 ≠ El.whl D.fd 0 := ⟨sup_cf D (rr f D x), one_ne' D⟩
/-- l is r times x less each of es, and r has no roots -/
structure Spl (l es r : List (El f)) : Prop where
  n : nf f D r
  r0 : r ≠ []
  no : ∀ y, valE f D y r ≠ El.whl D.fd 0
  eq : cf f D l = cvE f D (cf f D r) (cf f D (wr f D es))
theorem val_cv {l a b : List (El f)} (h : cf f D l = cvE f D (cf f D a) (cf f D b)) (ha : a ≠ []) (hb : b ≠ []) (y : El f) : valE f D y l = El.mul D.fd (valE f D y a) (valE f D y b) := by
  rw [← cf_mul D ha hb] at h
  rw [val_cf D h, val_mul]
variable {D}
theorem Spl.root {l es r : List (El f)} (s : Spl D l es r) (y : El f) : valE f D y l = El.whl D.fd 0 ↔ y ∈ es := by
  rw [val_cv D s.eq s.r0 (wr_ne D es), ← wr_val D y es]
  constructor
  · intro h
    rw [El.comm] at h
    exact nz_mul D h (s.no y)
  · intro h
    rw [h]
    letI := El.comR D.fd
    show _ * (0 : El f) = 0
    grind
theorem Spl.perm {l es es' r : List (El f)} (s : Spl D l es r) (h : es.Perm es') : Spl D l es' r := ⟨s.n, s.r0, s.no, by rw [← wr_perm D h]; exact s.eq⟩
variable (D)
theorem rmul_nf {a b : List (El f)} (ha : nf f D a) (hb : nf f D b) (a0 : a ≠ []) (b0 : b ≠ []) : nf f D (rmul f D a b) := fun l' x e h => by
  have la := List.length_pos_iff.mpr a0
  have lb := List.length_pos_iff.mpr b0
  have hl := rmul_len' D a0 b0
  have hx : cf f D (rmul f D a b) (a.length - 1 + (b.length - 1)) = x := by
    refine cf_at D ?_
    rw [e] at hl ⊢
    have : a.length - 1 + (b.length - 1) = l'.length := by simp at hl; omega
    rw [this]; simp
  obtain ⟨a1, a2⟩ := nf_last D ha a0
  obtain ⟨b1, b2⟩ := nf_last D hb b0
  rw [cf_mul D a0 b0, top_mul D a2 b2] at hx
  rw [← hx] at h
  exact a1 (nz_mul D (El.ext' h) b1)
/-- products -/
theorem Spl.mul {a b es es' r r' : List (El f)} (s : Spl D a es r) (s' : Spl D b es' r') {l : List (El f)} (h : cf f D l = cvE f D (cf f D a) (cf f D b)) : Spl D l (es ++ es') (rmul f D r r') := by
  refine ⟨rmul_nf D s.n s'.n s.r0 s'.r0, ?_, fun y => ?_, ?_⟩
  · intro e
    rcases (rmul_nil D r r').mp e with e | e
    · exact s.r0 e
    · exact s'.r0 e
  · rw [val_mul]
    exact fun e => s.no y (nz_mul D e (s'.no y))
  · rw [h, s.eq, s'.eq, cf_mul D s.r0 s'.r0, wr_app]
    generalize cf f D r = p
    generalize cf f D r' = p'
    generalize cf f D (wr f D es) = q
    generalize cf f D (wr f D es') = q'
    rw [cv_assocL, cv_assocL]
    congr 1
    rw [← cv_assocL, ← cv_assocL, cv_commL D q p']
/-- how often a row x less a number divides -/
theorem Spl.pow {y : El f} : ∀ (k : Nat) {l es r : List (El f)}, Spl D l es r → (Dv f D (wr f D (List.replicate k y)) l ↔ k ≤ es.count y)
  | 0, l, es, r, s => by
    refine ⟨fun _ => Nat.zero_le _, fun _ => ⟨cf f D l, l.length, sup_cf D l, ?_⟩⟩
    exact (cv_unit D _).symm
  | k + 1, l, es, r, s => by
    by_cases hy : y ∈ es
    · have hp : es.Perm (y :: es.erase y) := List.perm_cons_erase hy
      have s1 := s.perm hp
      obtain ⟨l', hl'⟩ : ∃ l' : List (El f), l' = rmul f D r (wr f D (es.erase y)) := ⟨_, rfl⟩
      have cl' : cf f D l' = cvE f D (cf f D r) (cf f D (wr f D (es.erase y))) := by rw [hl', cf_mul D s.r0 (wr_ne D _)]
      have s2 : Spl D l' (es.erase y) r := ⟨s.n, s.r0, s.no, cl'⟩
      have el : cf f D l = cvE f D (cf f D l') (cf f D (rr f D y)) := by
        rw [s1.eq, wr_cons, cl', cv_assocL, cv_commL D (cf f D (rr f D y))]
      have ih := Spl.pow (y := y) k s2
      have hc : es.count y = (es.erase y).count y + 1 := by
        rw [List.count_erase_self]
        have := List.count_pos_iff.mpr hy
        omega
      rw [hc]
      have key : Dv f D (wr f D (List.replicate (k + 1) y)) l ↔ Dv f D (wr f D (List.replicate k y)) l' := by
        have ew : cf f D (wr f D (List.replicate (k + 1) y)) = cvE f D (cf f D (wr f D (List.replicate k y))) (cf f D (rr f D y)) := by
          rw [List.replicate_succ, wr_cons, cv_commL]
        constructor
        · rintro ⟨q, n, hq, e⟩
          refine ⟨q, n, hq, ?_⟩
          rw [el, ew, ← cv_assocL] at e
          exact cv_cancel D (sup_cf D l') (sup_cv D hq (sup_cf D _)) (rr_top D y).1 (rr_top D y).2 e
        · rintro ⟨q, n, hq, e⟩
          refine ⟨q, n, hq, ?_⟩
          rw [el, ew, e, cv_assocL]
      rw [key, ih]
      omega
    · have hc : es.count y = 0 := List.count_eq_zero.mpr hy
      rw [hc]
      refine ⟨fun h => ?_, fun h => by omega⟩
      exfalso
      obtain ⟨q, n, hq, e⟩ := h
      refine hy ((s.root y).mp ?_)
      rw [List.replicate_succ, wr_cons, cv_commL D (cf f D (rr f D y)), ← cv_assocL] at e
      have eq : cf f D ((List.range (n + (wr f D (List.replicate k y)).length)).map (cvE f D q (cf f D (wr f D (List.replicate k y))))) = cvE f D q (cf f D (wr f D (List.replicate k y))) := cf_range D (sup_cv D hq (sup_cf D _))
      rw [← eq] at e
      have l0 : (List.range (n + (wr f D (List.replicate k y)).length)).map (cvE f D q (cf f D (wr f D (List.replicate k y)))) ≠ [] := by
        rw [Ne, List.map_eq_nil_iff, List.range_eq_nil, wr_len]
        omega
      rw [val_cv D e l0 (by simp [rr]), rr_val, sub_self D]
      letI := El.comR D.fd
      show _ * (0 : El f) = 0
      grind
/-- no more roots than numbers behind the first -/
theorem Spl.len {l es r : List (El f)} (s : Spl D l es r) (hl : nf f D l) (h0 : l ≠ []) : es.length + r.length = l.length := by
  have w0 := wr_ne D es
  have := nf_ext D hl (rmul_nf D s.n (wr_nf D es) s.r0 w0) (by rw [s.eq, cf_mul D s.r0 w0])
  rw [this, rmul_len' D s.r0 w0, wr_len]
  have := List.length_pos_iff.mpr s.r0
  omega
end

end FM

namespace FM
open PySem FS
end FM

namespace FM
open PySem FS L2
local macro_rules | `(tactic| walk_at "f") => `(tactic| first
  | with_reducible exact L_plus ‹Drawn _› _ _ | with_reducible exact L_times ‹Drawn _› _ _ | with_reducible exact C_oneL ‹Drawn _› | with_reducible exact C_noughtL ‹Drawn _› | with_reducible exact C_nought ‹Drawn _› | with_reducible exact C_whole ‹Drawn _› _
  | with_reducible exact E_sum ‹Drawn _› _ _ | with_reducible exact E_prod ‹Drawn _› _ _ | with_reducible exact C_less ‹Drawn _› _ _ | with_reducible exact C_plus ‹Drawn _› _ _ | with_reducible exact C_minus ‹Drawn _› _ _ | with_reducible exact C_times ‹Drawn _› _ _
  | with_reducible exact C_checked ‹Drawn _› | with_reducible exact C_look1 ‹Drawn _› _ | with_reducible exact C_look2 ‹Drawn _› _ _ | with_reducible exact C_size_of ‹Drawn _›
  | with_reducible exact C_sizeL ‹Drawn _› | with_reducible exact C_numbers ‹Drawn _› | with_reducible exact C_all ‹Drawn _› | with_reducible exact C_rowsL ‹Drawn _›
  | with_reducible exact e_is_within _ _ _)
local macro_rules | `(tactic| walk_at "g") => `(tactic| first
  | with_reducible exact C_atL ‹Drawn _› _ _ | with_reducible exact C_value_of ‹Drawn _› _ _ | with_reducible exact C_row_times ‹Drawn _› _ _ (by omega) | with_reducible exact C_cut ‹Drawn _› _ (by omega) | with_reducible exact C_value ‹Drawn _› (by assumption) (by assumption) _ | with_reducible exact C_multiplied ‹Drawn _› (by assumption) (by assumption) (by assumption) (by assumption)
  | with_reducible exact C_wholeL _ | with_reducible exact C_makers ‹Drawn _› | with_reducible exact C_turns ‹Drawn _› (by assumption) | with_reducible exact C_turns_of ‹Drawn _› (by assumption) | with_reducible exact C_turnsL ‹Drawn _› (by assumption) | with_reducible exact C_look_number ‹Drawn _› (by assumption) | with_reducible exact C_powerZ ‹Drawn _› (by assumption) (by omega) (by omega)
  | with_reducible exact C_raised1 ‹Drawn _› _ | with_reducible exact C_raisedL1 ‹Drawn _› _
  | with_reducible exact E_trace ‹Drawn _› _ (by assumption) (by assumption) | with_reducible exact E_norm ‹Drawn _› _ (by assumption) (by assumption)
  | with_reducible exact C_lesser ‹Drawn _› (by assumption) (by assumption) | with_reducible exact E_look_part ‹Drawn _› (by assumption) (by assumption) | with_reducible exact E_look_part0 ‹Drawn _› (by assumption) (by assumption)
  | with_reducible exact C_raisedN ‹Drawn _› _ _ | with_reducible exact C_raisedM ‹Drawn _› _ (by omega) | with_reducible exact C_raisedLN ‹Drawn _› _ (by omega) | with_reducible exact C_powerLN ‹Drawn _› _ (by omega)
  | with_reducible exact C_raisedLZ ‹Drawn _› _ (by omega) (by omega) | with_reducible exact C_powerLZ ‹Drawn _› _ (by omega) (by omega) | with_reducible exact C_raisedZ ‹Drawn _› _ (by omega) | with_reducible exact C_raisedMZ ‹Drawn _› _ (by omega) (by omega))
local macro_rules | `(tactic| walk_at "d") => `(tactic| first
  | with_reducible exact ixF0 _ | with_reducible exact ixF1 _ | with_reducible exact addD_int _ _ | with_reducible exact subD_int _ _ | with_reducible exact negD_int _
  | with_reducible exact len_eN _ | with_reducible exact d_len _ | with_reducible exact d_lenT _ | with_reducible exact len_tup _ | with_reducible exact len_lst _ | with_reducible exact tup_lst _ | with_reducible exact lst_tup _
  | with_reducible exact d_eqN _ _ | with_reducible exact d_neN _ _ | with_reducible exact d_eqI _ _ | with_reducible exact d_neI _ _ | with_reducible exact d_lt _ _ | with_reducible exact d_le _ _ | with_reducible exact d_gt _ _ | with_reducible exact d_ge _ _
  | with_reducible exact d_eqL _ _ | with_reducible exact d_neL _ _ | with_reducible exact d_eqT _ _ | with_reducible exact d_neT _ _ | with_reducible exact d_inL _ _ | with_reducible exact d_ninL _ _
  | with_reducible exact d_ix0 _ _ | with_reducible exact d_ix1 _ _ _ | with_reducible exact d_ixt0 _ _ | with_reducible exact d_ixt1 _ _ _ | with_reducible exact d_tt | with_reducible exact d_ntt
  | with_reducible exact d_eqT0 _ | with_reducible exact d_neT0 _ | with_reducible exact d_neL0 _ | with_reducible exact d_eqB _ _ | with_reducible exact d_isT _ | with_reducible exact d_lastT _ _ | with_reducible exact d_lastL _ _ | with_reducible exact d_lstL _ | with_reducible exact d_lstT _
  | with_reducible exact it_lst _ | with_reducible exact it_tup _ | with_reducible exact it_eN _
  | ((with_reducible apply modD_int); omega) | ((with_reducible apply fdivD_int); omega) | ((with_reducible refine mulD_int (.inl ?_)); omega) | ((with_reducible refine mulD_int (.inr ?_)); omega)
  | ((with_reducible apply rng1_nat); omega) | ((with_reducible apply rng1_int); omega) | ((with_reducible apply rng2_int); omega)
  | ((with_reducible apply d_rep); omega) | ((with_reducible apply w_maplen); first | with_reducible assumption | omega | ((with_reducible apply w_rlen); omega)))
local macro_rules | `(tactic| walk_at "no") => `(tactic| first
  | with_reducible exact rfl | with_reducible exact nT | with_reducible exact nF | with_reducible assumption
  | ((with_reducible apply dT); first | with_reducible exact rfl | with_reducible assumption | omega)
  | ((with_reducible apply dF); first | with_reducible assumption | omega)
  | ((with_reducible apply dNT); first | with_reducible exact rfl | with_reducible assumption | omega)
  | ((with_reducible apply dNF); first | with_reducible assumption | omega))
local macro_rules | `(tactic| walk_at "ev") => `(tactic| repeat' first
  | with_reducible exact v_c | with_reducible exact v_A0 | with_reducible exact v_O0 | with_reducible exact w_yes | with_reducible exact w_next
  | ((with_reducible apply w_eq); with_reducible assumption)
  | ((with_reducible apply v_var); exact rfl) | ((with_reducible apply v_own); exact rfl)
  | with_reducible apply v_A | with_reducible apply v_m2 | with_reducible apply w_F | with_reducible apply w_B1 | with_reducible apply w_B2 | with_reducible apply v_B | with_reducible apply v_tB | with_reducible apply v_m1
  | with_reducible exact stR_v | with_reducible exact stR_f | with_reducible exact s_0 | with_reducible apply s_c
  | ((with_reducible apply w_len); exact rfl) | ((with_reducible apply w_ble); exact rfl) | ((with_reducible apply w_own); exact rfl)
  | with_reducible apply w_Tu | with_reducible apply w_L
  | with_reducible apply v_Sl | with_reducible apply v_O1 | with_reducible apply v_iV | with_reducible apply w_iB
  | with_reducible apply v_not | with_reducible apply v_T | with_reducible apply w_or | with_reducible apply w_and
  | with_reducible apply w_ch | with_reducible apply w_vAnd | with_reducible apply w_vNot | with_reducible apply w_vOr
  | with_reducible apply w_seq | with_reducible apply w_if | with_reducible apply w_mif | with_reducible apply w_asg | with_reducible apply w_ret | with_reducible apply v_expr
  | ((with_reducible apply w_app); exact rfl) | with_reducible apply w_par | with_reducible apply w_asgT | with_reducible apply w_frz | ((with_reducible apply w_aug); exact rfl)
  | with_reducible apply putR_v | with_reducible apply putR_f | with_reducible exact ret_v | with_reducible exact ret_f | ((with_reducible apply ret_b); walk_at "no")
  | ((with_reducible apply ite_no); walk_at "no") | ((with_reducible apply ite_yes); walk_at "no")
  | ((with_reducible apply w_retO); exact rfl) | with_reducible exact retS_v | with_reducible exact retS_o
  | walk_at "f" | walk_at "d" | walk_at "g"
  | ((with_reducible apply w_set); (simp only [List.set_cons_zero, List.set_cons_succ]; try exact rfl))
  | ((with_reducible apply w_start); (simp only [startE, List.map, List.length, List.replicate, List.cons_append, List.nil_append, Nat.reduceSub, Nat.reduceAdd]; try exact rfl))
  | ((with_reducible apply w_frzn); (simp only [frz, List.getElem?_cons_zero, List.getElem?_cons_succ, List.set_cons_zero, List.set_cons_succ]; try exact rfl))
  | ((with_reducible apply w_wipe); (simp only [wipeA, List.set_cons_zero, List.set_cons_succ]; try exact rfl))
  | ((with_reducible apply w_put); (simp only [Tg.put, putAll, List.set_cons_zero, List.set_cons_succ]; try exact rfl))
  | with_reducible exact truB _ | with_reducible exact rfl)
local macro_rules | `(tactic| walk_at "go") => `(tactic| repeat first | ((with_reducible apply w_seq); (focus (walk_at "ev"; done))) | ((with_reducible apply w_frz); (focus (walk_at "ev"; done))))
local macro_rules | `(tactic| walk_at "un") => `(tactic| ((with_reducible apply w_for); (focus (walk_at "ev"; done)); (repeat ((with_reducible apply w_forc); (focus (walk_at "ev"; done)); (focus (walk_at "ev"; done)))); with_reducible exact w_for0))
local macro_rules | `(tactic| walk_at "er") => `(tactic| repeat first
  | ((with_reducible apply w_seq); (focus (walk_at "ev"; done)))
  | with_reducible apply v_seqE | with_reducible apply v_exprE | with_reducible apply v_retE | with_reducible apply w_asgE
  | ((with_reducible apply w_if); (focus (walk_at "ev"; done)); first | ((with_reducible apply ite_yes); (focus (walk_at "no"; done))) | ((with_reducible apply ite_no); (focus (walk_at "no"; done))))
  | ((with_reducible apply w_F); (focus (walk_at "ev"; done)); (focus ((with_reducible apply w_len); exact rfl)); with_reducible assumption)
  | with_reducible exact w_raise)

/-! FnX: roots, split; squares -/
def encP {f : Int × Nu} (q : El f × Nat) : PyData := .tuple [eN q.1.a, .int (q.2 : Int)]
section
variable {f : Int × Nu} (D : Drawn f)
def rootsE (f : Int × Nu) (D : Drawn f) (l : List (El f)) : List (El f) := (allE f D).filter fun x => decide ((valE f D x l).a = (El.whl D.fd 0).a)
theorem mem_roots (l : List (El f)) (x : El f) : x ∈ rootsE f D l ↔ valE f D x l = El.whl D.fd 0 := by
  unfold rootsE
  rw [List.mem_filter, decide_eq_true_iff]
  exact ⟨fun h => El.ext' h.2, fun h => ⟨mem_allE D x, by rw [h]⟩⟩
end

/-! FnY: lists of numbers with how often -/
section
variable {f : Int × Nu}
theorem eqv_encP (a b : El f × Nat) : PyData.eqv (encP a) (encP b) = decide (a = b) := by
  obtain ⟨x, i⟩ := a
  obtain ⟨y, j⟩ := b
  show PyData.eqv (.tuple [eN x.a, .int (i : Int)]) (.tuple [eN y.a, .int (j : Int)]) = _
  have e : PyData.eqv (.tuple [eN x.a, .int (i : Int)]) (.tuple [eN y.a, .int (j : Int)]) = (PyData.eqv (eN x.a) (eN y.a) && (((i : Int) == (j : Int)) && true)) := by
    simp [PyData.eqv, PyData.eqvAll]
  rw [e, eqv_eN, Bool.and_true]
  by_cases h1 : x.a = y.a
  · have h1' := El.ext' h1
    subst h1'
    by_cases h2 : i = j
    · subst h2; simp
    · have : ¬ (i : Int) = (j : Int) := by omega
      simp [h2, this]
  · have h1' : ¬ x = y := fun e => h1 (by rw [e])
    simp [h1, h1']
theorem eqvAll_encP : ∀ (a b : List (El f × Nat)), PyData.eqvAll (a.map encP) (b.map encP) = decide (a = b)
  | [], [] => by simp [PyData.eqvAll]
  | [], _ :: _ => by simp [PyData.eqvAll]
  | _ :: _, [] => by simp [PyData.eqvAll]
  | x :: a, y :: b => by
    rw [List.map_cons, List.map_cons]
    unfold PyData.eqvAll
    rw [eqvAll_encP a b, eqv_encP]
    by_cases h : x = y
    · subst h; by_cases h2 : a = b
      · subst h2; simp
      · simp [h2]
    · simp [h]
theorem canLay_encP (q : El f × Nat) : PyData.canLay0 (encP q) = true := by
  unfold encP
  show PyData.canLayAll0 [eN q.1.a, .int (q.2 : Int)] = true
  unfold PyData.canLayAll0
  rw [canLay_eN]
  rfl
theorem depth_encP (q : El f × Nat) : PyData.depth (encP q) ≤ 4 := by
  have h := depth_eN q.1.a
  unfold encP PyData.depth
  simp only [PyData.depthAll, PyData.depth]
  omega
theorem canLayAll_encP : ∀ (a : List (El f × Nat)), PyData.canLayAll0 (a.map encP) = true
  | [] => rfl
  | x :: a => by rw [List.map_cons]; unfold PyData.canLayAll0; rw [canLayAll_encP a, canLay_encP]; rfl
theorem depthAll_encP : ∀ (a : List (El f × Nat)), PyData.depthAll (a.map encP) ≤ 4
  | [] => by simp [PyData.depthAll]
  | x :: a => by rw [List.map_cons]; unfold PyData.depthAll; have := depthAll_encP a; have := depth_encP x; omega
theorem shaped_P (a : List (El f × Nat)) : SeqAt.shaped (.list (a.map encP)) = true := by
  unfold SeqAt.shaped
  have h1 : PyData.canLay0 (.list (a.map encP)) = true := by unfold PyData.canLay0; exact canLayAll_encP a
  have h2 := depthAll_encP a
  have h3 : PyData.depth (.list (a.map encP)) ≤ 64 := by unfold PyData.depth; omega
  rw [h1, decide_eq_true h3]; rfl
theorem d_eqP (a b : List (El f × Nat)) : eqD (.list (a.map encP)) (.list (b.map encP)) = .ok ⟨.v, .bool (decide (a = b))⟩ := by
  unfold eqD; rw [shaped_P, shaped_P]
  show boolR (PyData.eqvAll _ _) = _
  rw [eqvAll_encP]; rfl
theorem d_neP (a b : List (El f × Nat)) : neD (.list (a.map encP)) (.list (b.map encP)) = .ok ⟨.v, .bool (!decide (a = b))⟩ := by
  unfold neD; rw [shaped_P, shaped_P]
  show boolR (!PyData.eqvAll _ _) = _
  rw [eqvAll_encP]; rfl
theorem d_neP0 (a : List (El f × Nat)) : neD (.list (a.map encP)) (.list []) = .ok ⟨.v, .bool (!decide (a = []))⟩ := d_neP a []
theorem d_eqP0 (a : List (El f × Nat)) : eqD (.list (a.map encP)) (.list []) = .ok ⟨.v, .bool (decide (a = []))⟩ := d_eqP a []
end

/-! FoA: which numbers are squares -/
theorem d_ninT2 (z a b : Int) : notInD (.int z) (.tuple [.int a, .int b]) = .ok ⟨.v, .bool (!(decide (a = z) || decide (b = z)))⟩ := by
  show boolR (!((a == z) || ((b == z) || false))) = _
  rw [Bool.or_false]; rfl
theorem Drawn.prime {f : Int × Nu} (D : Drawn f) : f.1 = 2 ∨ f.1 = 3 ∨ f.1 = 5 ∨ f.1 = 7 := by
  cases D <;> simp
section
variable {f : Int × Nu} (D : Drawn f)
theorem zero_mul' (x : El f) : El.mul D.fd (El.whl D.fd 0) x = El.whl D.fd 0 := (El.semi D.fd).zero_mul x
end

/-! FoB: a field led into another one -/
section
variable {f h : Int × Nu} (D : Drawn f) (E : Drawn h)
/-- what a vector comes to at a number -/
def PhV (h : Int × Nu) (E : Drawn h) (y : El h) (n : Nat) (v : V') : El h := evN h E y (fun k => El.whl E.fd (v k)) n
theorem phv_add (y : El h) (n : Nat) (u v : V') : PhV h E y n (vadd u v) = El.add E.fd (PhV h E y n u) (PhV h E y n v) := by
  unfold PhV
  rw [← evN_add]
  congr 1
  funext k
  exact whl_add E _ _
theorem phv_scl (y : El h) (n : Nat) (c : Int) (v : V') : PhV h E y n (vscl c v) = El.mul E.fd (El.whl E.fd c) (PhV h E y n v) := by
  unfold PhV
  rw [← evN_scl]
  congr 1
  funext k
  exact whl_mul E _ _
theorem whl_cg {a b : Int} (hc : ∃ c, a = b + h.1 * c) : El.whl E.fd a = El.whl E.fd b := by
  obtain ⟨c, rfl⟩ := hc
  rw [whl_add E, whl_mul E, El.char E.fd, zero_mul' E, (moA E.fd).u]
theorem phv_cg (y : El h) (n : Nat) {u v : V'} (hc : Cg h.1 u v) : PhV h E y n u = PhV h E y n v := by
  unfold PhV
  congr 1
  funext k
  exact whl_cg E (hc k)
theorem phv_zero (y : El h) (n : Nat) : PhV h E y n vzero = El.whl E.fd 0 := by
  have := phv_scl E y n 0 vzero
  rw [vscl_zero, zero_mul' E] at this
  exact this
/-- x times is y times, where the rule is nought at y -/
theorem phv_st {y : El h} {n : Nat} {r : V'} (hr : El.add E.fd (PhV h E y (n + 1) r) (El.pow E.fd y (n + 1)) = El.whl E.fd 0) (v : V') : PhV h E y (n + 1) (St (n + 1) r v) = El.mul E.fd y (PhV h E y (n + 1) v) := by
  obtain ⟨s, hs⟩ : ∃ s : V', s = fun k => if k = 0 then 0 else v (k - 1) := ⟨_, rfl⟩
  have e1 : PhV h E y (n + 1) (St (n + 1) r v) = PhV h E y (n + 1) (vadd s (vscl (-(v n)) r)) := by
    unfold PhV evN
    refine sm_congr fun k hk => ?_
    congr 2
    show El.whl E.fd (if k < n + 1 then (if k = 0 then (0 : Int) else v (k - 1)) - v (n + 1 - 1) * r k else 0) = El.whl E.fd (s k + -(v n) * r k)
    rw [if_pos hk, hs, Nat.add_sub_cancel]
    congr 1
    show (if k = 0 then (0 : Int) else v (k - 1)) - v n * r k = (if k = 0 then (0 : Int) else v (k - 1)) + -(v n) * r k
    rw [Int.neg_mul]
    omega
  have e2 : PhV h E y (n + 1) s = El.mul E.fd y (PhV h E y n v) := by
    unfold PhV
    rw [evN_s]
    have : (fun k => El.whl E.fd (s (k + 1))) = fun k => El.whl E.fd (v k) := by
      funext k
      rw [hs]
      show El.whl E.fd (if k + 1 = 0 then 0 else v (k + 1 - 1)) = _
      rw [if_neg (by omega), Nat.add_sub_cancel]
    have hs0 : s 0 = 0 := by rw [hs]; rfl
    rw [hs0]
    show El.add E.fd (El.whl E.fd 0) (El.mul E.fd y (evN h E y (fun k => El.whl E.fd (s (k + 1))) n)) = _
    rw [this, (moA E.fd).c, (moA E.fd).u]
  have e3 : PhV h E y (n + 1) v = El.add E.fd (PhV h E y n v) (El.mul E.fd (El.whl E.fd (v n)) (El.pow E.fd y n)) := rfl
  rw [e1, phv_add, e2, phv_scl, e3]
  have e4 : El.pow E.fd y (n + 1) = El.mul E.fd (El.pow E.fd y n) y := rfl
  have e5 : El.whl E.fd (-(v n)) = El.sub E.fd (El.whl E.fd 0) (El.whl E.fd (v n)) := by
    have t := whl_add E (-(v n)) (v n)
    rw [show -(v n) + v n = 0 from by omega] at t
    generalize El.whl E.fd (-(v n)) = a at t ⊢
    generalize El.whl E.fd (v n) = b at t ⊢
    letI := El.comR E.fd
    have t : (0 : El h) = a + b := t
    show a = 0 - b
    grind
  rw [e5]
  rw [e4] at hr
  generalize PhV h E y (n + 1) r = R at hr ⊢
  generalize PhV h E y n v = A
  generalize El.whl E.fd (v n) = b
  generalize El.pow E.fd y n = Y at hr ⊢
  letI := El.comR E.fd
  have hr : R + Y * y = 0 := hr
  show y * A + (0 - b) * R = y * (A + b * Y)
  grind
theorem phv_ap {y : El h} {n : Nat} {r : V'} (hr : El.add E.fd (PhV h E y (n + 1) r) (El.pow E.fd y (n + 1)) = El.whl E.fd 0) : ∀ (l : Nu) (v : V'), PhV h E y (n + 1) (ap (n + 1) r l v) = El.mul E.fd (valE h E y (l.map (El.whl E.fd))) (PhV h E y (n + 1) v)
  | [], v => by
    show PhV h E y (n + 1) vzero = El.mul E.fd (El.whl E.fd 0) _
    rw [phv_zero, zero_mul' E]
  | c :: l, v => by
    show PhV h E y (n + 1) (vadd (vscl c v) (St (n + 1) r (ap (n + 1) r l v))) = El.mul E.fd (El.add E.fd (El.mul E.fd (valE h E y (l.map (El.whl E.fd))) y) (El.whl E.fd c)) _
    rw [phv_add, phv_scl, phv_st E hr, phv_ap hr l v]
    generalize El.whl E.fd c = a
    generalize valE h E y (l.map (El.whl E.fd)) = b
    generalize PhV h E y (n + 1) v = w
    letI := El.comR E.fd
    show a * w + y * (b * w) = (b * y + a) * w
    grind
/-- what a number is led to -/
def phi (h : Int × Nu) (E : Drawn h) (y : El h) (a : El f) : El h := valE h E y (a.a.map (El.whl E.fd))
theorem cfW (l : Nu) : cf h E (l.map (El.whl E.fd)) = fun k => El.whl E.fd (vec l k) := by
  funext k
  unfold cf vec
  rw [List.getD_eq_getElem?_getD, List.getD_eq_getElem?_getD, List.getElem?_map]
  cases l[k]? <;> rfl
theorem val_phv (y : El h) (l : Nu) {n : Nat} (hl : l.length ≤ n) : valE h E y (l.map (El.whl E.fd)) = PhV h E y n (vec l) := by
  rw [val_ev E y _ n (by rw [List.length_map]; exact hl), cfW]; rfl
/-- a way: the rule is nought there -/
structure Way (f h : Int × Nu) (E : Drawn h) (y : El h) : Prop where
  p : f.1 = h.1
  v : valE h E y (rowW h E f.2) = El.whl E.fd 0
variable {E}
include D
theorem Way.rule {y : El h} (w : Way f h E y) : ∃ n, f.2.length = n + 1 ∧ El.add E.fd (PhV h E y (n + 1) (vec f.2)) (El.pow E.fd y (n + 1)) = El.whl E.fd 0 := by
  have n1 := D.good.n1
  obtain ⟨n, hn⟩ : ∃ n, f.2.length = n + 1 := ⟨f.2.length - 1, by omega⟩
  refine ⟨n, hn, ?_⟩
  have e := w.v
  rw [val_ev E y (rowW h E f.2) (n + 2) (by rw [rowW_len]; omega)] at e
  rw [← e]
  show _ = El.add E.fd (evN h E y (cf h E (rowW h E f.2)) (n + 1)) (El.mul E.fd (cf h E (rowW h E f.2) (n + 1)) (El.pow E.fd y (n + 1)))
  have l1 := rowW_last E f.2
  rw [hn] at l1
  rw [l1, El.one_mul]
  congr 1
  unfold PhV evN
  refine sm_congr fun k hk => ?_
  congr 1
  rw [rowW_cf]
  show El.whl E.fd (f.2.getD k 0) = El.whl E.fd ((f.2 ++ [1]).getD k 0)
  rw [List.getD_eq_getElem?_getD, List.getD_eq_getElem?_getD, List.getElem?_append_left (by omega)]
theorem Way.add {y : El h} (w : Way f h E y) (a b : El f) : phi h E y (El.add D.fd a b) = El.add E.fd (phi h E y a) (phi h E y b) := by
  unfold phi
  have l1 : ∀ x : El f, x.a.length ≤ f.2.length := fun x => by rw [x.h.1]; exact Nat.le_refl _
  rw [val_phv E y _ (l1 _), val_phv E y _ (l1 _), val_phv E y _ (l1 _), ← phv_add]
  have := El.vadd D.fd a b
  rw [w.p] at this
  exact phv_cg E y _ this
theorem Way.mul {y : El h} (w : Way f h E y) (a b : El f) : phi h E y (El.mul D.fd a b) = El.mul E.fd (phi h E y a) (phi h E y b) := by
  obtain ⟨n, hn, hr⟩ := w.rule D
  unfold phi
  have l1 : ∀ x : El f, x.a.length ≤ n + 1 := fun x => by rw [x.h.1, hn]; exact Nat.le_refl _
  have := El.vmul D.fd a b
  rw [w.p, hn] at this
  rw [val_phv E y (El.mul D.fd a b).a (l1 _), phv_cg E y _ this, phv_ap E hr, val_phv E y b.a (l1 _)]
theorem Way.whl {y : El h} (w : Way f h E y) (z : Int) : phi h E y (El.whl D.fd z) = El.whl E.fd z := by
  unfold phi
  have n1 := D.good.n1
  obtain ⟨n, hn⟩ : ∃ n, f.2.length = n + 1 := ⟨f.2.length - 1, by omega⟩
  have l1 : (El.whl D.fd z).a.length ≤ n + 1 := by rw [(El.whl D.fd z).h.1, hn]; exact Nat.le_refl _
  have := El.vwhl D.fd z
  rw [w.p] at this
  rw [val_phv E y _ l1, phv_cg E y _ this, phv_scl]
  have e : PhV h E y (n + 1) e0 = El.whl E.fd 1 := by
    unfold PhV
    rw [evN_s]
    have : (fun k => El.whl E.fd (e0 (k + 1))) = fun _ => El.whl E.fd 0 := by
      funext k; rfl
    show El.add E.fd (El.whl E.fd 1) (El.mul E.fd y (evN h E y (fun k => El.whl E.fd (e0 (k + 1))) n)) = _
    rw [this]
    have z : evN h E y (fun _ => El.whl E.fd 0) n = El.whl E.fd 0 := phv_zero E y n
    rw [z]
    letI := El.comR E.fd
    show (1 : El h) + y * 0 = 1
    grind
  rw [e, El.mul_one]
theorem Way.pow {y : El h} (w : Way f h E y) (a : El f) : ∀ k, phi h E y (El.pow D.fd a k) = El.pow E.fd (phi h E y a) k
  | 0 => w.whl D 1
  | k + 1 => by
    show phi h E y (El.mul D.fd (El.pow D.fd a k) a) = El.mul E.fd (El.pow E.fd (phi h E y a) k) (phi h E y a)
    rw [w.mul D, w.pow a k]
theorem Way.ra {y : El h} (w : Way f h E y) (a : El f) (k : Nat) : phi h E y (ra f D k a) = ra h E k (phi h E y a) := by
  unfold FM.ra
  rw [w.pow D, w.p]
theorem Way.inj0 {y : El h} (w : Way f h E y) {a : El f} (e : phi h E y a = El.whl E.fd 0) : a = El.whl D.fd 0 := by
  by_cases z : a.a = (El.whl D.fd 0).a
  · exact El.ext' z
  · exfalso
    have i := congrArg (phi h E y) (inv_mul D z)
    rw [w.mul D, w.whl D, e, El.comm, zero_mul' E] at i
    exact one_ne' E i.symm
theorem Way.inj {y : El h} (w : Way f h E y) {a b : El f} (e : phi h E y a = phi h E y b) : a = b := by
  have h1 := w.add D (El.sub D.fd a b) b
  have h2 : El.add D.fd (El.sub D.fd a b) b = a := by
    letI := El.comR D.fd
    show (a - b) + b = a
    grind
  rw [h2, e] at h1
  have h3 : phi h E y (El.sub D.fd a b) = El.whl E.fd 0 := by
    generalize phi h E y (El.sub D.fd a b) = u at h1 ⊢
    generalize phi h E y b = v at h1
    letI := El.comR E.fd
    have h1 : v = u + v := h1
    show u = 0
    grind
  have h4 := w.inj0 D h3
  letI := El.comR D.fd
  have h4 : a - b = 0 := h4
  grind
theorem gen_home {g : El f} (hg : IsOrd D g (sizA f - 1)) : IsHome D g f.2.length := by
  have n1 := D.good.n1
  have p2 := D.good.p2
  refine ⟨n1, D.ra_round g, fun k k1 kn e => ?_⟩
  have hp : f.1.toNat ^ k < sizA f := by
    unfold sizA
    exact Nat.pow_lt_pow_right (by omega) kn
  have p3 : 2 ≤ f.1.toNat ^ k := by
    have : f.1.toNat ^ 1 ≤ f.1.toNat ^ k := pow_le' (by omega) k1
    rw [Nat.pow_one] at this
    omega
  have e2 : El.pow D.fd g (1 + (f.1.toNat ^ k - 1)) = El.pow D.fd g 1 := by
    rw [show 1 + (f.1.toNat ^ k - 1) = f.1.toNat ^ k from by omega]
    have : El.pow D.fd g 1 = g := by show El.mul D.fd (El.whl D.fd 1) g = g; rw [El.one_mul]
    rw [this]; exact e
  have := (pow_eq_iff D hg 1 (f.1.toNat ^ k - 1)).mp e2
  have := Nat.le_of_dvd (by omega) this
  omega
/-- a way there is only where the figures divide -/
theorem Way.dvd {y : El h} (w : Way f h E y) : f.2.length ∣ h.2.length := by
  obtain ⟨g, hg⟩ := D.gen
  have hh := gen_home D hg
  obtain ⟨d, hd, _⟩ := home_ex E (phi h E y g)
  have d1 : d ∣ h.2.length := (hd.dvd _).mp (E.ra_round _)
  have e := hd.rnd
  rw [← w.ra D] at e
  exact Nat.dvd_trans ((hh.dvd d).mp (w.inj D e)) d1
/-- the way's number is at home where the first field is -/
theorem Way.home {y : El h} (w : Way f h E y) : IsHome E y f.2.length := by
  obtain ⟨g, hg⟩ := D.gen
  have hh := gen_home D hg
  obtain ⟨d, hd, _⟩ := home_ex E y
  have e : FM.ra h E d (phi h E y g) = phi h E y g := by
    unfold phi
    rw [val_ra, hd.rnd, List.map_map]
    congr 1
    exact List.map_congr_left fun z _ => ra_whl E d z
  rw [← w.ra D] at e
  have d1 := (hh.dvd d).mp (w.inj D e)
  have d2 := home_le E hd w.v
  have : d = f.2.length := Nat.le_antisymm d2 (Nat.le_of_dvd hd.pos d1)
  rw [← this]
  exact hd
theorem Way.raise {y : El h} (w : Way f h E y) (t : Nat) : Way f h E (FM.ra h E t y) := ⟨w.p, by rw [← rowW_ra E t, ← val_ra, w.v, E.ra_zero]⟩
/-- all ways come of one by raising -/
theorem Way.all {y : El h} (w : Way f h E y) : (rootsE h E (rowW h E f.2)).Perm (alikeE h E y f.2.length) := by
  have hh := w.home D
  refine (perm_of _ _ (alike_nd E hh) (fun x hx => ?_) ?_).symm
  · obtain ⟨t, rfl⟩ := (mem_alike E hh x).mp hx
    exact (mem_roots E _ _).mpr (w.raise D t).v
  · rw [alike_len]
    have := root_count E (rootsE h E (rowW h E f.2)) (rowW h E f.2) (rowW_ne E _) (by rw [rowW_len, Nat.add_sub_cancel, rowW_last]; exact one_ne' E) ((all_nodup E).filter _) fun r hr => (mem_roots E _ _).mp hr
    rw [rowW_len] at this
    omega
end

/-! FoC: a way there is wherever the figures divide -/

end FM

namespace FM
open PySem FS L2
local macro_rules | `(tactic| walk_at "f") => `(tactic| first
  | with_reducible exact L_plus ‹Drawn _› _ _ | with_reducible exact L_times ‹Drawn _› _ _ | with_reducible exact C_oneL ‹Drawn _› | with_reducible exact C_noughtL ‹Drawn _› | with_reducible exact C_nought ‹Drawn _› | with_reducible exact C_whole ‹Drawn _› _
  | with_reducible exact E_sum ‹Drawn _› _ _ | with_reducible exact E_prod ‹Drawn _› _ _ | with_reducible exact C_less ‹Drawn _› _ _ | with_reducible exact C_plus ‹Drawn _› _ _ | with_reducible exact C_minus ‹Drawn _› _ _ | with_reducible exact C_times ‹Drawn _› _ _
  | with_reducible exact C_checked ‹Drawn _› | with_reducible exact C_look1 ‹Drawn _› _ | with_reducible exact C_look2 ‹Drawn _› _ _ | with_reducible exact C_size_of ‹Drawn _›
  | with_reducible exact C_sizeL ‹Drawn _› | with_reducible exact C_numbers ‹Drawn _› | with_reducible exact C_all ‹Drawn _› | with_reducible exact C_rowsL ‹Drawn _›
  | with_reducible exact e_is_within _ _ _)
local macro_rules | `(tactic| walk_at "g") => `(tactic| first
  | with_reducible exact C_atL ‹Drawn _› _ _ | with_reducible exact C_value_of ‹Drawn _› _ _ | with_reducible exact C_row_times ‹Drawn _› _ _ (by omega) | with_reducible exact C_cut ‹Drawn _› _ (by omega) | with_reducible exact C_value ‹Drawn _› (by assumption) (by assumption) _ | with_reducible exact C_multiplied ‹Drawn _› (by assumption) (by assumption) (by assumption) (by assumption)
  | with_reducible exact C_wholeL _ | with_reducible exact C_makers ‹Drawn _› | with_reducible exact C_turns ‹Drawn _› (by assumption) | with_reducible exact C_turns_of ‹Drawn _› (by assumption) | with_reducible exact C_turnsL ‹Drawn _› (by assumption) | with_reducible exact C_look_number ‹Drawn _› (by assumption) | with_reducible exact C_powerZ ‹Drawn _› (by assumption) (by omega) (by omega)
  | with_reducible exact C_raised1 ‹Drawn _› _ | with_reducible exact C_raisedL1 ‹Drawn _› _
  | with_reducible exact E_trace ‹Drawn _› _ (by assumption) (by assumption) | with_reducible exact E_norm ‹Drawn _› _ (by assumption) (by assumption)
  | with_reducible exact C_lesser ‹Drawn _› (by assumption) (by assumption) | with_reducible exact E_look_part ‹Drawn _› (by assumption) (by assumption) | with_reducible exact E_look_part0 ‹Drawn _› (by assumption) (by assumption)
  | with_reducible exact C_raisedN ‹Drawn _› _ _ | with_reducible exact C_raisedM ‹Drawn _› _ (by omega) | with_reducible exact C_raisedLN ‹Drawn _› _ (by omega) | with_reducible exact C_powerLN ‹Drawn _› _ (by omega)
  | with_reducible exact C_raisedLZ ‹Drawn _› _ (by omega) (by omega) | with_reducible exact C_powerLZ ‹Drawn _› _ (by omega) (by omega) | with_reducible exact C_raisedZ ‹Drawn _› _ (by omega) | with_reducible exact C_raisedMZ ‹Drawn _› _ (by omega) (by omega))
local macro_rules | `(tactic| walk_at "d") => `(tactic| first
  | with_reducible exact ixF0 _ | with_reducible exact ixF1 _ | with_reducible exact addD_int _ _ | with_reducible exact subD_int _ _ | with_reducible exact negD_int _
  | with_reducible exact len_eN _ | with_reducible exact d_len _ | with_reducible exact d_lenT _ | with_reducible exact len_tup _ | with_reducible exact len_lst _ | with_reducible exact tup_lst _ | with_reducible exact lst_tup _
  | with_reducible exact d_eqN _ _ | with_reducible exact d_neN _ _ | with_reducible exact d_eqI _ _ | with_reducible exact d_neI _ _ | with_reducible exact d_lt _ _ | with_reducible exact d_le _ _ | with_reducible exact d_gt _ _ | with_reducible exact d_ge _ _
  | with_reducible exact d_eqL _ _ | with_reducible exact d_neL _ _ | with_reducible exact d_eqT _ _ | with_reducible exact d_neT _ _ | with_reducible exact d_inL _ _ | with_reducible exact d_ninL _ _
  | with_reducible exact d_ix0 _ _ | with_reducible exact d_ix1 _ _ _ | with_reducible exact d_ixt0 _ _ | with_reducible exact d_ixt1 _ _ _ | with_reducible exact d_tt | with_reducible exact d_ntt
  | with_reducible exact d_eqT0 _ | with_reducible exact d_neT0 _ | with_reducible exact d_neL0 _ | with_reducible exact d_eqB _ _ | with_reducible exact d_neB _ _ | with_reducible exact d_eqP _ _ | with_reducible exact d_neP _ _ | with_reducible exact d_neP0 _ | with_reducible exact d_eqP0 _ | with_reducible exact d_ninT2 _ _ _ | with_reducible exact d_isT _ | with_reducible exact d_lastT _ _ | with_reducible exact d_lastL _ _ | with_reducible exact d_lstL _ | with_reducible exact d_lstT _
  | with_reducible exact it_lst _ | with_reducible exact it_tup _ | with_reducible exact it_eN _
  | ((with_reducible apply modD_int); omega) | ((with_reducible apply fdivD_int); omega) | ((with_reducible refine mulD_int (.inl ?_)); omega) | ((with_reducible refine mulD_int (.inr ?_)); omega)
  | ((with_reducible apply rng1_nat); omega) | ((with_reducible apply rng1_int); omega) | ((with_reducible apply rng2_int); omega)
  | ((with_reducible apply d_rep); omega) | ((with_reducible apply w_maplen); first | with_reducible assumption | omega | ((with_reducible apply w_rlen); omega)))
local macro_rules | `(tactic| walk_at "no") => `(tactic| first
  | with_reducible exact rfl | with_reducible exact nT | with_reducible exact nF | with_reducible assumption
  | ((with_reducible apply dT); first | with_reducible exact rfl | with_reducible assumption | omega)
  | ((with_reducible apply dF); first | with_reducible assumption | omega)
  | ((with_reducible apply dNT); first | with_reducible exact rfl | with_reducible assumption | omega)
  | ((with_reducible apply dNF); first | with_reducible assumption | omega))
local macro_rules | `(tactic| walk_at "ev") => `(tactic| repeat' first
  | with_reducible exact v_c | with_reducible exact v_A0 | with_reducible exact v_O0 | with_reducible exact w_yes | with_reducible exact w_next
  | ((with_reducible apply w_eq); with_reducible assumption)
  | ((with_reducible apply v_var); exact rfl) | ((with_reducible apply v_own); exact rfl)
  | with_reducible apply v_A | with_reducible apply v_m2 | with_reducible apply w_F | with_reducible apply w_B1 | with_reducible apply w_B2 | with_reducible apply v_B | with_reducible apply v_tB | with_reducible apply v_m1
  | with_reducible exact stR_v | with_reducible exact stR_f | with_reducible exact s_0 | with_reducible apply s_c
  | ((with_reducible apply w_len); exact rfl) | ((with_reducible apply w_ble); exact rfl) | ((with_reducible apply w_own); exact rfl)
  | with_reducible apply w_Tu | with_reducible apply w_L
  | with_reducible apply v_Sl | with_reducible apply v_O1 | with_reducible apply v_iV | with_reducible apply w_iB
  | with_reducible apply v_not | with_reducible apply v_T | with_reducible apply w_or | with_reducible apply w_and
  | with_reducible apply w_ch | with_reducible apply w_vAnd | with_reducible apply w_vNot | with_reducible apply w_vOr
  | with_reducible apply w_seq | with_reducible apply w_if | with_reducible apply w_mif | with_reducible apply w_asg | with_reducible apply w_ret | with_reducible apply v_expr
  | ((with_reducible apply w_app); exact rfl) | with_reducible apply w_par | with_reducible apply w_asgT | with_reducible apply w_frz | ((with_reducible apply w_aug); exact rfl)
  | with_reducible apply putR_v | with_reducible apply putR_f | with_reducible exact ret_v | with_reducible exact ret_f | ((with_reducible apply ret_b); walk_at "no")
  | ((with_reducible apply ite_no); walk_at "no") | ((with_reducible apply ite_yes); walk_at "no")
  | ((with_reducible apply w_retO); exact rfl) | with_reducible exact retS_v | with_reducible exact retS_o
  | walk_at "f" | walk_at "d" | walk_at "g"
  | ((with_reducible apply w_set); (simp only [List.set_cons_zero, List.set_cons_succ]; try exact rfl))
  | ((with_reducible apply w_start); (simp only [startE, List.map, List.length, List.replicate, List.cons_append, List.nil_append, Nat.reduceSub, Nat.reduceAdd]; try exact rfl))
  | ((with_reducible apply w_frzn); (simp only [frz, List.getElem?_cons_zero, List.getElem?_cons_succ, List.set_cons_zero, List.set_cons_succ]; try exact rfl))
  | ((with_reducible apply w_wipe); (simp only [wipeA, List.set_cons_zero, List.set_cons_succ]; try exact rfl))
  | ((with_reducible apply w_put); (simp only [Tg.put, putAll, List.set_cons_zero, List.set_cons_succ]; try exact rfl))
  | with_reducible exact truB _ | with_reducible exact rfl)
local macro_rules | `(tactic| walk_at "go") => `(tactic| repeat first | ((with_reducible apply w_seq); (focus (walk_at "ev"; done))) | ((with_reducible apply w_frz); (focus (walk_at "ev"; done))))
local macro_rules | `(tactic| walk_at "un") => `(tactic| ((with_reducible apply w_for); (focus (walk_at "ev"; done)); (repeat ((with_reducible apply w_forc); (focus (walk_at "ev"; done)); (focus (walk_at "ev"; done)))); with_reducible exact w_for0))
local macro_rules | `(tactic| walk_at "er") => `(tactic| repeat first
  | ((with_reducible apply w_seq); (focus (walk_at "ev"; done)))
  | with_reducible apply v_seqE | with_reducible apply v_exprE | with_reducible apply v_retE | with_reducible apply w_asgE
  | ((with_reducible apply w_if); (focus (walk_at "ev"; done)); first | ((with_reducible apply ite_yes); (focus (walk_at "no"; done))) | ((with_reducible apply ite_no); (focus (walk_at "no"; done))))
  | ((with_reducible apply w_F); (focus (walk_at "ev"; done)); (focus ((with_reducible apply w_len); exact rfl)); with_reducible assumption)
  | with_reducible exact w_raise)

/-! FoD: the program's ways -/
section
variable {f h : Int × Nu} (D : Drawn f) (E : Drawn h)
variable {E}
variable (E)
variable {E}
variable (E)
end

/-! FoE: ways one behind the other; a field's ways into itself -/
section
variable {f h k : Int × Nu} (D : Drawn f) {E : Drawn h} {K : Drawn k}
include D in
theorem Way.val {y : El h} (w : Way f h E y) (x : El f) : ∀ r : Nu, phi h E y (valE f D x (r.map (El.whl D.fd))) = valE h E (phi h E y x) (r.map (El.whl E.fd))
  | [] => w.whl D 0
  | c :: r => by
    show phi h E y (El.add D.fd (El.mul D.fd (valE f D x (r.map (El.whl D.fd))) x) (El.whl D.fd c)) = El.add E.fd (El.mul E.fd (valE h E (phi h E y x) (r.map (El.whl E.fd))) (phi h E y x)) (El.whl E.fd c)
    rw [w.add D, w.mul D, w.whl D, w.val x r]
end

/-! FoF: traces and norms counted -/
section
variable {f : Int × Nu} (D : Drawn f)
/-- the row that comes to the trace less a number -/
def tp (f : Int × Nu) (D : Drawn f) (q : Nat) (c : El f) : Nat → Nat → El f
  | 0 => fun j => if j = 0 then El.sub D.fd (El.whl D.fd 0) c else El.whl D.fd 0
  | t + 1 => pA f D (tp f D q c t) (fun j => if j = q ^ t then El.whl D.fd 1 else El.whl D.fd 0)
end

/-! FoG: rows of figures brought to steps: the plain part -/

/-! FoH: the program's solved -/
section
variable {p : Int} {n : Nat}
end

/-! FoI: bases -/
section
variable {f : Int × Nu} (D : Drawn f)
end

/-! FoJ: the dual -/
section
variable {f : Int × Nu} (D : Drawn f)
def tr (f : Int × Nu) (D : Drawn f) (x : El f) : El f := traceE f D x 1
/-- the number with a 1 in one place -/
def un (f : Int × Nu) (j : Nat) : Nu := (List.range f.2.length).map fun k => if k = j then 1 else 0
end

/-! FoK: dual, walked -/
section
variable {f : Int × Nu} (D : Drawn f)
end

/-! FoL: bases and their duals -/
section
variable {f : Int × Nu} (D : Drawn f)
end

/-! FoM: normals -/
section
variable {f : Int × Nu} (D : Drawn f)
/-! there is one -/
end

/-! FoN: figures as numbers, one of a list -/
section
variable {f : Int × Nu} (D : Drawn f)
end

end FM

namespace FS
open PySem PySem.Spec PyProof.Rows L2

/-! ### zip of a list with a tuple -/
/-- the list at a and the tuple at b, item by item in new pairs -/
def ItzM (K : PySem.W.Frag) (a b : Addr) : It :=
  ⟨fun i H => ∃ (l t : List V) (u v : V), (SqL K H a l ∧ SqT K H b t) ∧ l[i]? = some u ∧ t[i]? = some v,
    fun i H r H' => ∃ T u v, r = .ref T ∧ H T = none ∧ H' = upd H T (.tup [u, v]) ∧ (∀ l, SqL K H a l → l[i]? = some u) ∧ ∀ t, SqT K H b t → t[i]? = some v,
    fun i H => ∃ l t : List V, (SqL K H a l ∧ SqT K H b t) ∧ i ≤ l.length ∧ i ≤ t.length ∧ (i = l.length ∨ i = t.length)⟩
theorem turn_zipM {P : Program} {w : World} {K : PySem.W.Frag} {elts : List Expr} {kk : Nat} {tpos : Pos} {a b z J O j k : Addr} (S : ZipSep2 z J O j k [j, a] [k, b]) (hja : a ≠ j) (hkb : b ≠ k) :
    Turn P w K (.Tuple elts kk tpos) (ItzM K a b) [z, J, O, j, k] z (fun i h => (IsZip h z J O .none ∧ IsTupOf2 h J (.ref j) (.ref k)) ∧ (∃ u v, IsTupOf2 h O u v) ∧ h.IsListIter j a i ∧ h.IsTupleIter k b i) where
  mem := by simp
  obj := fun i h st c hc => by
    obtain ⟨⟨g1, g2⟩, ⟨_, _, g3⟩, ⟨o4, g4, _, r4⟩, ⟨o5, g5, _, r5⟩⟩ := st
    have hc : c = z ∨ c = J ∨ c = O ∨ c = j ∨ c = k := by simpa using hc
    rcases hc with rfl | rfl | rfl | rfl | rfl
    · exact ⟨_, g1, fun _ q => nomatch q⟩
    · exact ⟨_, g2, fun _ q => nomatch q⟩
    · exact ⟨_, g3, fun _ q => nomatch q⟩
    · exact ⟨o4, g4, fun _ q => by rw [r4] at q; cases q⟩
    · exact ⟨o5, g5, fun _ q => by rw [r5] at q; cases q⟩
  keep := fun i h h' st kp => by
    obtain ⟨⟨g1, g2⟩, ⟨u, v, g3⟩, g4, g5⟩ := st
    exact ⟨⟨kp z (by simp) _ g1, kp J (by simp) _ g2⟩, ⟨u, v, kp O (by simp) _ g3⟩, g4.at fun o q => kp j (by simp) o q, g5.at fun o q => kp k (by simp) o q⟩
  item := by
    intro X hP hw hK hc i pins s σ H E I hf st hg
    subst hP hw hK
    obtain ⟨⟨g1, g2⟩, ⟨u0, v0, g3⟩, g4, g5⟩ := st
    obtain ⟨l, t, u, v, ⟨ql, qt⟩, hu, hv⟩ := hg
    obtain ⟨li, rl, pl, _⟩ := I.list ql
    obtain ⟨ti, rt, pt, _⟩ := I.tuple qt
    obtain ⟨x, hx, rx⟩ := rl.get hu
    obtain ⟨y, hy, ry⟩ := rt.get hv
    have hh : X.A.in1.handled = none := I.ok.hd hc
    have i1 : i < li.toArray.size := by rw [List.size_toArray]; exact (List.getElem?_eq_some_iff.mp hx).1
    have i2 : i < ti.toArray.size := by rw [List.size_toArray]; exact (List.getElem?_eq_some_iff.mp hy).1
    refine wpAny_pyNext_zipD2_item S (Draws.list hh j a hja li.toArray) (Draws.tuple hh k b hkb ti.toArray) g1 g2 g3 ⟨g4, pl.isList⟩ ⟨g5, pt⟩ i1 i2 fun x' y' h' tk ex ey z' O' s1 s2 hT _ kp => ?_
    have ex : x' = x := by
      have e : li.toArray[i]? = some x := by simpa using hx
      rw [e] at ex; exact (Option.some.inj ex).symm
    have ey : y' = y := by
      have e : ti.toArray[i]? = some y := by simpa using hy
      rw [e] at ey; exact (Option.some.inj ey).symm
    subst ex ey
    refine ⟨_, rfl, wpAny_letOwnedTupleGo_zip (s := { s with heap := h', toks := tk }) z' fun h'' z'' sb => ?_⟩
    have zl := Heap.lt_size g1
    have hT' : IsTupOf2 h'' s.heap.objs.size x' y' := (sb.2 _ (Nat.ne_of_gt zl)).trans hT
    have new : ObjOk X.prog X.w (upd H s.heap.objs.size (.tup [u, v])) h'' s.heap.objs.size (.tup [u, v]) :=
      ⟨by show 2 ≤ sizeLine; decide, [x', y'], .cons rx (.cons ry .nil), ⟨_, hT', rfl, _, rfl⟩⟩
    have kept : ∀ c o, c ∉ [z, J, O, j, k] → s.heap.get? c = some o → h''.get? c = some o := fun c o hb q => by
      have n : ∀ d ∈ [z, J, O, j, k], c ≠ d := fun d hd e => hb (e ▸ hd)
      exact (sb.2 c (n z (by simp))).trans (kp c o (n z (by simp)) (n O (by simp)) (n j (by simp)) (n k (by simp)) q)
    have I' := I.turnedNew (t' := tk) (ch := [z, J, O, j, k]) kept hf (Nat.le_refl _) new
    refine ⟨.ref s.heap.objs.size, _, I', rfl, ⟨_, u, v, rfl, I.hok.fresh (Nat.le_refl _), rfl, fun l' hl => by rw [I.list_inj hl ql]; exact hu, fun t' ht => by rw [I.tuple_inj ht qt]; exact hv⟩, ⟨⟨z'', ?_⟩, ⟨x', y', ?_⟩, ?_, ?_⟩, fun c hcm => ?_⟩
    · exact (sb.2 _ S.TIz).trans (kp _ _ S.TIz S.TITO S.TIi1 S.TIi2 g2)
    · exact (sb.2 _ S.TOz).trans O'
    · exact s1.1.at fun o q => (sb.2 _ (Ne.symm S.zi1)).trans q
    · exact s2.1.at fun o q => (sb.2 _ (Ne.symm S.zi2)).trans q
    · have lt : c < s.heap.objs.size := by
        have hcm : c = z ∨ c = J ∨ c = O ∨ c = j ∨ c = k := by simpa using hcm
        rcases hcm with rfl | rfl | rfl | rfl | rfl
        · exact zl
        · exact Heap.lt_size g2
        · exact Heap.lt_size g3
        · obtain ⟨_, e, _⟩ := g4; exact Heap.lt_size e
        · obtain ⟨_, e, _⟩ := g5; exact Heap.lt_size e
      rw [upd_ne (Nat.ne_of_lt lt)]
      exact (hf c hcm).1
  done := by
    intro X hP hw hK hc i pins s σ H E I hf st hg
    subst hP hw hK
    obtain ⟨⟨g1, g2⟩, ⟨u0, v0, g3⟩, g4, g5⟩ := st
    obtain ⟨l, t, ⟨ql, qt⟩, e1, e2, e3⟩ := hg
    obtain ⟨li, rl, pl, _⟩ := I.list ql
    obtain ⟨ti, rt, pt, _⟩ := I.tuple qt
    have hh : X.A.in1.handled = none := I.ok.hd hc
    have l1 := rl.length
    have l2 := rt.length
    exact wpAny_pyNext_zipD2_end S (Draws.list hh j a hja li.toArray) (Draws.tuple hh k b hkb ti.toArray) g1 g2 g3 ⟨g4, pl.isList⟩ ⟨g5, pt⟩ (by simp; omega) (by simp; omega) (by simp; omega) fun h' tk kp =>
      ⟨rfl, I.turnedL (t' := tk) (ch := [z, J, O, j, k]) (fun c o hb q => by
        have n : ∀ d ∈ [z, J, O, j, k], c ≠ d := fun d hd e => hb (e ▸ hd)
        exact kp c o (n z (by simp)) (n O (by simp)) (n j (by simp)) (n k (by simp)) q) hf⟩
  self := fun A i s Q E st h => wpAny_pyIter_zip st.1.1 h
theorem sep5 {N : Nat} {a b : Addr} (la : a < N) (lb : b < N) : ZipSep2 (N + 4) (N + 2) (N + 3) N (N + 1) [N, a] [N + 1, b] := by
  have ga : ∀ k : Nat, N + k ≠ (show Nat from a) := fun k => Nat.ne_of_gt (Nat.lt_of_lt_of_le la (Nat.le_add_right N k))
  have gb : ∀ k : Nat, N + k ≠ (show Nat from b) := fun k => Nat.ne_of_gt (Nat.lt_of_lt_of_le lb (Nat.le_add_right N k))
  have ne : ∀ {x y : Nat}, x ≠ y → (show Addr from x) ≠ (show Addr from y) := fun h => h
  have no : ∀ {x y z : Nat}, x ≠ y → x ≠ z → (show Addr from x) ∉ [(show Addr from y), (show Addr from z)] := fun h h' m => by
    rcases List.mem_cons.mp m with e | e
    · exact h e
    · exact h' (List.mem_singleton.mp e)
  exact ⟨ne (by omega), ne (by omega), ne (by omega), ne (by omega), List.mem_cons_self, no (by omega) (ga 4), no (by omega) (ga 3), ne (by omega), List.mem_cons_self, no (by omega) (gb 4), no (by omega) (gb 3), no (by omega) (gb 0), no (by omega) (ga 1)⟩
def iZipM (K : PySem.W.Frag) (ta : TA) : TI := fun σ H R => ta σ H fun vs H1 => ∃ a b l t, vs = [.ref a, .ref b] ∧ SqL K H1 a l ∧ SqT K H1 b t ∧ R (ItzM K a b) H1
theorem pi_zipM {X : Cx} {e e' : Expr} {ta : TA} {p pos tpos : Pos} {elts : List Expr} {kk : Nat} (hg : Gl X "zip") (hm : X.mg "zip" = none) (ha : PA X [e, e'] ta)
    (hs : starEach [e, e'] X.env = (false, eval e X.env) :: starEach [e'] X.env := by rfl) (hp : (backTo pos (starEach [e'] X.env)).any (·.1) = false := by rfl) :
    PI X (.Tuple elts kk tpos) (.Call (.Name "zip" p) [e, e'] [] pos) (iZipM X.K ta) := by
  refine ⟨fun pins s σ H R I h => ?_⟩
  refine Call_ (ld_blt I hg hm PyProof.Rows.boot_zip (PyProof.Rows.callWith_type1 (thn (ha.run pos pins s σ H _ I h) fun us s1 ⟨vs, H1, I1, r1, q1⟩ => ?_) hs hp))
  obtain ⟨a, b, l, t, rfl, ql, qt, q⟩ := q1
  cases r1 with
  | cons r rr =>
  cases rr with
  | cons r' rr =>
    cases rr
    cases r
    cases r'
    obtain ⟨li, rl, pl, _⟩ := I1.list ql
    obtain ⟨ti, rt, pt, _⟩ := I1.tuple qt
    have la : a < s1.heap.objs.size := pl.lt
    have lb : b < s1.heap.objs.size := by obtain ⟨o, ho, _⟩ := id pt; exact Heap.lt_size ho
    refine zip_begins2 (begins_list a li.toArray) (begins_tuple b ti.toArray) pl.isList pt fun h' hz hJ hO o1 o2 _ kp => wpAny_pyIter_zip hz ?_
    have I2 : Inv X pins σ H1 { s1 with heap := h' } := I1.kept (t' := s1.toks) kp
    have S : ZipSep2 (s1.heap.objs.size + 4) (s1.heap.objs.size + 2) (s1.heap.objs.size + 3) s1.heap.objs.size (s1.heap.objs.size + 1) [s1.heap.objs.size, a] [s1.heap.objs.size + 1, b] := by
      obtain ⟨N, hN⟩ : ∃ N, N = s1.heap.objs.size := ⟨_, rfl⟩
      rw [← hN] at la lb ⊢
      exact sep5 la lb
    refine ⟨s1.heap.objs.size + 4, [s1.heap.objs.size + 4, s1.heap.objs.size + 2, s1.heap.objs.size + 3, s1.heap.objs.size, s1.heap.objs.size + 1], _, _, H1, rfl, I2, turn_zipM S (Nat.ne_of_lt la) (Nat.ne_of_lt (Nat.lt_succ_of_lt lb)), ⟨⟨hz, hJ⟩, ⟨_, _, hO⟩, ⟨_, o1, rfl, rfl⟩, ⟨_, o2, rfl, rfl⟩⟩, fun c hc => ?_, q⟩
    have hle : s1.heap.objs.size ≤ c := by
      have hc : c = s1.heap.objs.size + 4 ∨ c = s1.heap.objs.size + 2 ∨ c = s1.heap.objs.size + 3 ∨ c = s1.heap.objs.size ∨ c = s1.heap.objs.size + 1 := by simpa using hc
      rcases hc with e | e | e | e | e <;> rw [e]
      · exact Nat.le_add_right _ _
      · exact Nat.le_add_right _ _
      · exact Nat.le_add_right _ _
      · exact Nat.le_refl _
      · exact Nat.le_add_right _ _
    exact I1.fpOk hle (I1.hok.fresh hle)
theorem good_zipM {K : PySem.W.Frag} {N : Addr → Prop} {H1 : Hp} {a b : Addr} {vs ws : List V} {ds es : List PyData} (h : LQ K N H1 a vs) (t : DNs K N H1 vs ds) (h2 : SqT K H1 b ws) (t2 : DNs K N H1 ws es) : GoodIt K N H1 (ItzM K a b) (zipD ds es) := by
  refine ⟨fun H => SqL K H a vs ∧ SqT K H b ws, YPair (fun i => vs[i]?) (fun i => ws[i]?), ?_, fun N' H2 s => ⟨(h.stay s).sq, s.sqt h2⟩, fun N' i H x H' s y hi => ?_⟩
  · rw [zipD_len, ← t.length, ← t2.length]
    refine ⟨fun i _ hi q => ?_, fun _ q => ⟨vs, ws, q, by omega, by omega, by omega⟩, fun i H r H' _ q y => ?_⟩
    · have h1 : i < vs.length := by omega
      have h2 : i < ws.length := by omega
      exact ⟨vs, ws, vs[i], ws[i], q, by simp [h1], by simp [h2]⟩
    · obtain ⟨T, u, v, g1, g2, g3, g4, g5⟩ := y
      exact ⟨T, u, v, g1, g2, g3, g4 vs q.1, g5 ws q.2⟩
  · obtain ⟨T, u, v, rfl, hT, rfl, e1, e2⟩ := y
    obtain ⟨d, e, x'⟩ := t.getV e1
    obtain ⟨d2, e2', x2⟩ := t2.getV e2
    obtain ⟨z1, z2⟩ := pair_new hT (x'.stay s) (x2.stay s)
    exact ⟨z1, _, zipD_get ds es i d d2 e e2', z2⟩
def zipLT (rs : List PyData) : Out (List PyData) := match rs with
  | [.list xs, .tuple ys] => .ok (zipD xs ys)
  | _ => .bad
theorem si_zipM {X : Cx} {ca : Cc} {W : WX} {a b : Expr} {pos p tpos : Pos} {elts : List Expr} {kk : Nat} {m : MA} (hg : Gl X "zip") (hm : X.mg "zip" = none) (ha : SA X ca W [a, b] m)
    (hs : starEach [a, b] X.env = (false, eval a X.env) :: starEach [b] X.env := by rfl) (hp : (backTo pos (starEach [b] X.env)).any (·.1) = false := by rfl) : SI X ca W (.Tuple elts kk tpos) (.Call (.Name "zip" p) [a, b] [] pos) (iB zipLT m) := by
  refine PI.imp (pi_zipM hg hm ha hs hp) fun σ H R q => ?_
  obtain ⟨H0, F, α, rel, q⟩ := q
  refine tSA.seqS rel PIt.mono q fun ds vs H1 s1 x1 rel1 q1 => ?_
  unfold zipLT at q1
  split at q1
  · cases x1 with
    | cons x t => cases t with
      | cons y t => cases t; cases x with
        | lst hr t1 => cases y with
          | tup hr2 t2 => exact ⟨_, _, _, _, rfl, hr.sq, hr2, q1 _ H1 (Same.refl _) (good_zipM hr t1 hr2 t2)⟩
  · exact q1.elim
end FS

namespace FM
open PySem FS L2

/-! FoO: loops that test each item -/

end FM

namespace FM
open PySem FS L2
local macro_rules | `(tactic| walk_at "f") => `(tactic| first
  | with_reducible exact L_plus ‹Drawn _› _ _ | with_reducible exact L_times ‹Drawn _› _ _ | with_reducible exact C_oneL ‹Drawn _› | with_reducible exact C_noughtL ‹Drawn _› | with_reducible exact C_nought ‹Drawn _› | with_reducible exact C_whole ‹Drawn _› _
  | with_reducible exact E_sum ‹Drawn _› _ _ | with_reducible exact E_prod ‹Drawn _› _ _ | with_reducible exact C_less ‹Drawn _› _ _ | with_reducible exact C_plus ‹Drawn _› _ _ | with_reducible exact C_minus ‹Drawn _› _ _ | with_reducible exact C_times ‹Drawn _› _ _
  | with_reducible exact C_checked ‹Drawn _› | with_reducible exact C_look1 ‹Drawn _› _ | with_reducible exact C_look2 ‹Drawn _› _ _ | with_reducible exact C_size_of ‹Drawn _›
  | with_reducible exact C_sizeL ‹Drawn _› | with_reducible exact C_numbers ‹Drawn _› | with_reducible exact C_all ‹Drawn _› | with_reducible exact C_rowsL ‹Drawn _›
  | with_reducible exact e_is_within _ _ _)
local macro_rules | `(tactic| walk_at "g") => `(tactic| first
  | with_reducible exact C_atL ‹Drawn _› _ _ | with_reducible exact C_value_of ‹Drawn _› _ _ | with_reducible exact C_row_times ‹Drawn _› _ _ (by omega) | with_reducible exact C_cut ‹Drawn _› _ (by omega) | with_reducible exact C_value ‹Drawn _› (by assumption) (by assumption) _ | with_reducible exact C_multiplied ‹Drawn _› (by assumption) (by assumption) (by assumption) (by assumption)
  | with_reducible exact C_wholeL _ | with_reducible exact C_makers ‹Drawn _› | with_reducible exact C_turns ‹Drawn _› (by assumption) | with_reducible exact C_turns_of ‹Drawn _› (by assumption) | with_reducible exact C_turnsL ‹Drawn _› (by assumption) | with_reducible exact C_look_number ‹Drawn _› (by assumption) | with_reducible exact C_powerZ ‹Drawn _› (by assumption) (by omega) (by omega)
  | with_reducible exact C_raised1 ‹Drawn _› _ | with_reducible exact C_raisedL1 ‹Drawn _› _
  | with_reducible exact E_trace ‹Drawn _› _ (by assumption) (by assumption) | with_reducible exact E_norm ‹Drawn _› _ (by assumption) (by assumption)
  | with_reducible exact C_lesser ‹Drawn _› (by assumption) (by assumption) | with_reducible exact E_look_part ‹Drawn _› (by assumption) (by assumption) | with_reducible exact E_look_part0 ‹Drawn _› (by assumption) (by assumption)
  | with_reducible exact C_raisedN ‹Drawn _› _ _ | with_reducible exact C_raisedM ‹Drawn _› _ (by omega) | with_reducible exact C_raisedLN ‹Drawn _› _ (by omega) | with_reducible exact C_powerLN ‹Drawn _› _ (by omega)
  | with_reducible exact C_raisedLZ ‹Drawn _› _ (by omega) (by omega) | with_reducible exact C_powerLZ ‹Drawn _› _ (by omega) (by omega) | with_reducible exact C_raisedZ ‹Drawn _› _ (by omega) | with_reducible exact C_raisedMZ ‹Drawn _› _ (by omega) (by omega))
local macro_rules | `(tactic| walk_at "d") => `(tactic| first
  | with_reducible exact ixF0 _ | with_reducible exact ixF1 _ | with_reducible exact addD_int _ _ | with_reducible exact subD_int _ _ | with_reducible exact negD_int _
  | with_reducible exact len_eN _ | with_reducible exact d_len _ | with_reducible exact d_lenT _ | with_reducible exact len_tup _ | with_reducible exact len_lst _ | with_reducible exact tup_lst _ | with_reducible exact lst_tup _
  | with_reducible exact d_eqN _ _ | with_reducible exact d_neN _ _ | with_reducible exact d_eqI _ _ | with_reducible exact d_neI _ _ | with_reducible exact d_lt _ _ | with_reducible exact d_le _ _ | with_reducible exact d_gt _ _ | with_reducible exact d_ge _ _
  | with_reducible exact d_eqL _ _ | with_reducible exact d_neL _ _ | with_reducible exact d_eqT _ _ | with_reducible exact d_neT _ _ | with_reducible exact d_inL _ _ | with_reducible exact d_ninL _ _
  | with_reducible exact d_ix0 _ _ | with_reducible exact d_ix1 _ _ _ | with_reducible exact d_ixt0 _ _ | with_reducible exact d_ixt1 _ _ _ | with_reducible exact d_tt | with_reducible exact d_ntt
  | with_reducible exact d_eqT0 _ | with_reducible exact d_neT0 _ | with_reducible exact d_neL0 _ | with_reducible exact d_eqB _ _ | with_reducible exact d_neB _ _ | with_reducible exact d_eqP _ _ | with_reducible exact d_neP _ _ | with_reducible exact d_neP0 _ | with_reducible exact d_eqP0 _ | with_reducible exact d_ninT2 _ _ _ | with_reducible exact d_isT _ | with_reducible exact d_lastT _ _ | with_reducible exact d_lastL _ _ | with_reducible exact d_lstL _ | with_reducible exact d_lstT _
  | with_reducible exact it_lst _ | with_reducible exact it_tup _ | with_reducible exact it_eN _
  | ((with_reducible apply modD_int); omega) | ((with_reducible apply fdivD_int); omega) | ((with_reducible refine mulD_int (.inl ?_)); omega) | ((with_reducible refine mulD_int (.inr ?_)); omega)
  | ((with_reducible apply rng1_nat); omega) | ((with_reducible apply rng1_int); omega) | ((with_reducible apply rng2_int); omega)
  | ((with_reducible apply d_rep); omega) | ((with_reducible apply w_maplen); first | with_reducible assumption | omega | ((with_reducible apply w_rlen); omega)))
local macro_rules | `(tactic| walk_at "no") => `(tactic| first
  | with_reducible exact rfl | with_reducible exact nT | with_reducible exact nF | with_reducible assumption
  | ((with_reducible apply dT); first | with_reducible exact rfl | with_reducible assumption | omega)
  | ((with_reducible apply dF); first | with_reducible assumption | omega)
  | ((with_reducible apply dNT); first | with_reducible exact rfl | with_reducible assumption | omega)
  | ((with_reducible apply dNF); first | with_reducible assumption | omega))
local macro_rules | `(tactic| walk_at "ev") => `(tactic| repeat' first
  | with_reducible exact v_c | with_reducible exact v_A0 | with_reducible exact v_O0 | with_reducible exact w_yes | with_reducible exact w_next
  | ((with_reducible apply w_eq); with_reducible assumption)
  | ((with_reducible apply v_var); exact rfl) | ((with_reducible apply v_own); exact rfl)
  | with_reducible apply v_A | with_reducible apply v_m2 | with_reducible apply w_F | with_reducible apply w_B1 | with_reducible apply w_B2 | with_reducible apply v_B | with_reducible apply v_tB | with_reducible apply v_m1
  | with_reducible exact stR_v | with_reducible exact stR_f | with_reducible exact s_0 | with_reducible apply s_c
  | ((with_reducible apply w_len); exact rfl) | ((with_reducible apply w_ble); exact rfl) | ((with_reducible apply w_own); exact rfl)
  | with_reducible apply w_Tu | with_reducible apply w_L
  | with_reducible apply v_Sl | with_reducible apply v_O1 | with_reducible apply v_iV | with_reducible apply w_iB
  | with_reducible apply v_not | with_reducible apply v_T | with_reducible apply w_or | with_reducible apply w_and
  | with_reducible apply w_ch | with_reducible apply w_vAnd | with_reducible apply w_vNot | with_reducible apply w_vOr
  | with_reducible apply w_seq | with_reducible apply w_if | with_reducible apply w_mif | with_reducible apply w_asg | with_reducible apply w_ret | with_reducible apply v_expr
  | ((with_reducible apply w_app); exact rfl) | with_reducible apply w_par | with_reducible apply w_asgT | with_reducible apply w_frz | ((with_reducible apply w_aug); exact rfl)
  | with_reducible apply putR_v | with_reducible apply putR_f | with_reducible exact ret_v | with_reducible exact ret_f | ((with_reducible apply ret_b); walk_at "no")
  | ((with_reducible apply ite_no); walk_at "no") | ((with_reducible apply ite_yes); walk_at "no")
  | ((with_reducible apply w_retO); exact rfl) | with_reducible exact retS_v | with_reducible exact retS_o
  | walk_at "f" | walk_at "d" | walk_at "g"
  | ((with_reducible apply w_set); (simp only [List.set_cons_zero, List.set_cons_succ]; try exact rfl))
  | ((with_reducible apply w_start); (simp only [startE, List.map, List.length, List.replicate, List.cons_append, List.nil_append, Nat.reduceSub, Nat.reduceAdd]; try exact rfl))
  | ((with_reducible apply w_frzn); (simp only [frz, List.getElem?_cons_zero, List.getElem?_cons_succ, List.set_cons_zero, List.set_cons_succ]; try exact rfl))
  | ((with_reducible apply w_wipe); (simp only [wipeA, List.set_cons_zero, List.set_cons_succ]; try exact rfl))
  | ((with_reducible apply w_put); (simp only [Tg.put, putAll, List.set_cons_zero, List.set_cons_succ]; try exact rfl))
  | with_reducible exact truB _ | with_reducible exact rfl)
local macro_rules | `(tactic| walk_at "go") => `(tactic| repeat first | ((with_reducible apply w_seq); (focus (walk_at "ev"; done))) | ((with_reducible apply w_frz); (focus (walk_at "ev"; done))))
local macro_rules | `(tactic| walk_at "un") => `(tactic| ((with_reducible apply w_for); (focus (walk_at "ev"; done)); (repeat ((with_reducible apply w_forc); (focus (walk_at "ev"; done)); (focus (walk_at "ev"; done)))); with_reducible exact w_for0))
local macro_rules | `(tactic| walk_at "er") => `(tactic| repeat first
  | ((with_reducible apply w_seq); (focus (walk_at "ev"; done)))
  | with_reducible apply v_seqE | with_reducible apply v_exprE | with_reducible apply v_retE | with_reducible apply w_asgE
  | ((with_reducible apply w_if); (focus (walk_at "ev"; done)); first | ((with_reducible apply ite_yes); (focus (walk_at "no"; done))) | ((with_reducible apply ite_no); (focus (walk_at "no"; done))))
  | ((with_reducible apply w_F); (focus (walk_at "ev"; done)); (focus ((with_reducible apply w_len); exact rfl)); with_reducible assumption)
  | with_reducible exact w_raise)

/-! FoP: what is refused -/
section
variable {f : Int × Nu} (D : Drawn f)
end

/-! FoQ: rows of figures divided: the walk -/
def inn (p lead : Int) (b : Nu) (k i : Nat) (φ : Nat → Int) (j : Nat) : Int := if k ≤ j ∧ j < k + i then (φ j - lead * b.getD (j - k) 0) % p else φ j
theorem inn_0 (p lead : Int) (b : Nu) (k : Nat) (φ : Nat → Int) : inn p lead b k 0 φ = φ := by
  funext j; unfold inn; rw [if_neg (by omega)]
theorem inn_s (p lead : Int) (b : Nu) (k i : Nat) (φ : Nat → Int) : (fun j => if j = k + i then (inn p lead b k i φ (k + i) - lead * b.getD i 0) % p else inn p lead b k i φ j) = inn p lead b k (i + 1) φ := by
  funext j
  by_cases h : j = k + i
  · subst h
    rw [if_pos rfl]
    unfold inn
    rw [if_neg (by omega), if_pos (by omega), show k + i - k = i from by omega]
  · rw [if_neg h]
    unfold inn
    by_cases h2 : k ≤ j ∧ j < k + i
    · rw [if_pos h2, if_pos (by omega)]
    · rw [if_neg h2, if_neg (by omega)]
theorem set_rangeI {N i : Nat} {φ : Nat → Int} {v : Int} : (((List.range N).map φ).map PyData.int).set i (.int v) = ((List.range N).map fun k => if k = i then v else φ k).map PyData.int := by
  rw [← List.map_set (f := PyData.int)]
  congr 1
  refine List.ext_getElem? fun j => ?_
  rw [List.getElem?_set, List.getElem?_map, List.getElem?_map]
  by_cases hj : i = j
  · subst hj
    by_cases hN : i < N
    · rw [if_pos rfl, if_pos (by simpa using hN), List.getElem?_range hN]; simp
    · rw [if_pos rfl, if_neg (by simpa using hN), List.getElem?_eq_none (by simpa using hN)]; rfl
  · rw [if_neg hj]
    by_cases hN : j < N
    · rw [List.getElem?_range hN]
      show some (φ j) = some (if j = i then v else φ j)
      rw [if_neg (fun e => hj e.symm)]
    · rw [List.getElem?_eq_none (by simpa using hN)]; rfl
theorem ix_rangeI {N i : Nat} {φ : Nat → Int} {z : Int} (hi : i < N) (hz : z = (i : Int)) : ixD (.list (((List.range N).map φ).map PyData.int)) (.int z) = .ok ⟨.v, .int (φ i)⟩ := by
  subst hz
  refine ixl_of (atI_nat ?_)
  rw [List.getElem?_map, List.getElem?_map, List.getElem?_range hi]
  rfl
theorem enum_L {τ : Type} (g : τ → PyData) (l : List τ) : enum1 [.list (l.map g)] = .ok (l.zipIdx.map fun q => .tuple [.int (q.2 : Nat), g q.1]) := congrArg Out.ok (enumF_map g 0 l)
theorem divI {p lead : Int} (hp : 0 < p) (hl : -100 < lead ∧ lead < 100) {b : Nu} {φ : Nat → Int} {k L : Nat} (hk : k + b.length ≤ L) {s1 s2 s4 s5 s8 s9 : Sv} : ∃ α', forM (.tp [8, 9]) (sSet 3 (m2 addD (mV 6) (mV 8)) (m2 modD (m2 subD (m2 ixD (mV 3) (m2 addD (mV 6) (mV 8))) (m2 mulD (mV 7) (mV 9))) (mV 0)))
    (b.zipIdx.map fun q => .tuple [.int (q.2 : Nat), .int q.1]) [.val (.int p), s1, s2, .own (((List.range L).map φ).map PyData.int), s4, s5, .val (.int (k : Int)), .val (.int lead), s8, s9] = .nx α' ∧
    ∃ s8 s9, α' = [.val (.int p), s1, s2, .own (((List.range L).map (inn p lead b k b.length φ)).map PyData.int), s4, s5, .val (.int (k : Int)), .val (.int lead), s8, s9] := by
  have := for_go (T := .tp [8, 9]) (b := sSet 3 (m2 addD (mV 6) (mV 8)) (m2 modD (m2 subD (m2 ixD (mV 3) (m2 addD (mV 6) (mV 8))) (m2 mulD (mV 7) (mV 9))) (mV 0))) (fun q : Int × Nat => .tuple [.int (q.2 : Nat), .int q.1]) b.zipIdx
    (fun pre α => ∃ s8 s9, α = [.val (.int p), s1, s2, .own (((List.range L).map (inn p lead b k pre.length φ)).map PyData.int), s4, s5, .val (.int (k : Int)), .val (.int lead), s8, s9])
    (α := [.val (.int p), s1, s2, .own (((List.range L).map φ).map PyData.int), s4, s5, .val (.int (k : Int)), .val (.int lead), s8, s9]) ⟨_, _, by rw [List.length_nil, inn_0]⟩ fun pre q α ⟨s8, s9, e⟩ ⟨s, hs⟩ => by
      subst e
      obtain ⟨h1, h2, h3⟩ := zip_pre hs
      rw [h1]
      have ix := ix_rangeI (φ := inn p lead b k pre.length φ) (N := L) (i := k + pre.length) (z := (k : Int) + (pre.length : Int)) (by omega) (by omega)
      refine turn (T := .tp [8, 9]) (β := [.val (.int p), s1, s2, .own (((List.range L).map (inn p lead b k pre.length φ)).map PyData.int), s4, s5, .val (.int (k : Int)), .val (.int lead), .val (.int (pre.length : Int)), .val (.int q.1)]) (γ := [.val (.int p), s1, s2, .own ((((List.range L).map (inn p lead b k pre.length φ)).map PyData.int).set (k + pre.length) (.int ((inn p lead b k pre.length φ (k + pre.length) - lead * q.1) % p))), s4, s5, .val (.int (k : Int)), .val (.int lead), .val (.int (pre.length : Int)), .val (.int q.1)]) rfl ?_ ?_
      · refine ex_set rfl (r := ⟨.v, .int ((inn p lead b k pre.length φ (k + pre.length) - lead * q.1) % p)⟩) ?_ stR_v (z := (k : Int) + (pre.length : Int)) ?_ (m := k + pre.length) ?_ rfl
        · exact v_m2 (v_m2 (v_m2 (v_own rfl) (v_m2 (v_var rfl) (v_var rfl) (addD_int _ _)) ix) (v_m2 (v_var rfl) (v_var rfl) (mulD_int (.inl (by omega)))) (subD_int _ _)) (v_var rfl) (modD_int hp)
        · exact v_m2 (v_var rfl) (v_var rfl) (addD_int _ _)
        · have : ((k : Int) + (pre.length : Int)) = ((k + pre.length : Nat) : Int) := by omega
          rw [this]
          exact ixN_nat (by simp; omega)
      · refine ⟨.val (.int (pre.length : Int)), .val (.int q.1), ?_⟩
        have e : q.1 = b.getD pre.length 0 := by rw [List.getD_eq_getElem?_getD, h2]; rfl
        rw [List.length_append, List.length_singleton, ← inn_s p lead b k pre.length φ, set_rangeI, e]
  rw [List.length_zipIdx] at this
  exact this
/-- what is left after so many turns -/
def dvS (p : Int) (b : Nu) (N : Nat) (φ : Nat → Int) : Nat → Nat → Int
  | 0 => φ
  | t + 1 => inn p (dvS p b N φ t (N - t + (b.length - 1))) b (N - t) b.length (dvS p b N φ t)
/-- what is taken off at a turn -/
def ldS (p : Int) (b : Nu) (N : Nat) (φ : Nat → Int) (t : Nat) : Int := dvS p b N φ t (N - t + (b.length - 1))
theorem dvS_bd {p : Int} (hp : 0 < p) {b : Nu} {N : Nat} {φ : Nat → Int} (h : ∀ j, 0 ≤ φ j ∧ φ j < p) : ∀ t j, 0 ≤ dvS p b N φ t j ∧ dvS p b N φ t j < p
  | 0, j => h j
  | t + 1, j => by
    show 0 ≤ inn p _ b (N - t) b.length (dvS p b N φ t) j ∧ inn p _ b (N - t) b.length (dvS p b N φ t) j < p
    unfold inn
    split
    · exact ⟨Int.emod_nonneg _ (by omega), Int.emod_lt_of_pos _ hp⟩
    · exact dvS_bd hp h t j
theorem e_full {a : Nu} (h : a.length ≤ 1000) : m_full [eN a] = .ok ⟨.f, .list ((a ++ [1]).map PyData.int)⟩ := by
  refine w_body (α := [.val (eN a)]) rfl (w_ret (v_m2 (w_B1 (v_var rfl) (d_lstT _)) (w_L (s_c v_c stR_v s_0) rfl) ((d_addL (by simp; omega)).trans ?_)) ret_f)
  rw [List.map_append]; rfl
theorem getD_range (l : Nu) : (List.range l.length).map (fun j => l.getD j 0) = l := by
  refine List.ext_getElem? fun j => ?_
  rw [List.getElem?_map]
  by_cases h : j < l.length
  · rw [List.getElem?_range h, List.getElem?_eq_getElem h]
    show some (l.getD j 0) = _
    rw [List.getD_eq_getElem?_getD, List.getElem?_eq_getElem h]; rfl
  · rw [List.getElem?_eq_none (by simpa using h), List.getElem?_eq_none (by omega)]; rfl
def phA (a : Nu) (j : Nat) : Int := (a ++ [1]).getD j 0
theorem C_divided {p : Int} (hp : 2 ≤ p) (hp2 : p ≤ 50) {a o : Nu} {N : Nat} (hN : a.length = N + o.length) (ha : a.length ≤ 100) (hb : ∀ j, 0 ≤ phA a j ∧ phA a j < p) : m_divided [.int p, eN a, eN o] = .ok ⟨.v, .tuple [eN (((List.range (N + 1)).map (ldS p (o ++ [1]) N (phA a))).reverse.dropLast), .list ((((List.range (a.length + 1)).map (dvS p (o ++ [1]) N (phA a) (N + 1))).take o.length).map PyData.int)]⟩ := by
  have ef := e_full (a := a) (by omega)
  have eo := e_full (a := o) (by omega)
  have la : (a ++ [1]).length = a.length + 1 := by simp
  have lo : (o ++ [1]).length = o.length + 1 := by simp
  have ea : (a ++ [1]).map PyData.int = ((List.range (a.length + 1)).map (phA a)).map PyData.int := by
    rw [← la]; congr 1; exact (getD_range (a ++ [1])).symm
  rw [ea] at ef
  obtain ⟨b, hbb⟩ : ∃ b : Nu, b = o ++ [1] := ⟨_, rfl⟩
  rw [← hbb] at eo lo ⊢
  have rg : rng3 [.int ((a.length : Int) + 1 - ((o.length : Int) + 1)), .int (-1), .int (-1)] = .ok ((List.range (N + 1)).map fun (t : Nat) => PyData.int ((N : Int) + (t : Nat) * (-1))) := by
    rw [show (a.length : Int) + 1 - ((o.length : Int) + 1) = (N : Int) from by omega]
    show (if (-1 : Int) = -1 ∧ -(4611686018427387904) ≤ (N : Int) ∧ (N : Int) < 4611686018427387904 ∧ -(4611686018427387904) ≤ (-1 : Int) ∧ (-1 : Int) < 4611686018427387904 then Out.ok (rngCD (N : Int) (-1) ((N : Int) - (-1)).toNat) else .bad) = _
    rw [if_pos ⟨rfl, by omega, by omega, by omega, by omega⟩]
    unfold rngCD
    rw [show ((N : Int) - (-1)).toNat = N + 1 from by omega]
  refine w_body (α := [.val (.int p), .val (eN a), .val (eN o), .un, .un, .un, .un, .un, .un, .un]) rfl ?_
  refine w_seq (w_asg (w_F (s_c (v_var rfl) stR_v s_0) rfl ef) (putR_f rfl)) ?_
  refine w_seq (w_asg (w_F (s_c (v_var rfl) stR_v s_0) rfl eo) (putR_f rfl)) ?_
  refine w_seq (w_asg (w_L s_0 rfl) (putR_f rfl)) ?_
  have l1 : lenD [.list (((List.range (a.length + 1)).map (phA a)).map PyData.int)] = .ok ⟨.v, .int ((a.length : Int) + 1)⟩ := (len_lst _).trans (by simp)
  have l2 : lenD [.list (b.map PyData.int)] = .ok ⟨.v, .int ((o.length : Int) + 1)⟩ := (len_lst _).trans (by rw [List.length_map, lo]; rfl)
  have l3 : lenD [eN o] = .ok ⟨.v, .int (o.length : Int)⟩ := len_eN o
  refine w_seqE (P := fun β => ∃ s4 s6 s7 s8 s9, β = [.val (.int p), .val (eN a), .val (eN o), .own (((List.range (a.length + 1)).map (dvS p b N (phA a) (N + 1))).map PyData.int), s4, .own (((List.range (N + 1)).map (ldS p b N (phA a))).map PyData.int), s6, s7, s8, s9]) ?_ ?_
  · apply w_forE
    · exact w_iB (s_c (v_m2 (w_B1 (v_own rfl) l1) (w_B1 (v_own rfl) l2) (subD_int _ _)) stR_v (s_c (v_m1 v_c (negD_int 1)) stR_v (s_c (v_m1 v_c (negD_int 1)) stR_v s_0))) rg
    obtain ⟨α', f1, s4, s6, s7, s8, s9, _, e⟩ := for_go (T := .nm 6) (b := mSeq (sAsg 7 (m2 ixD (mV 3) (m2 addD (mV 6) (mB lenD (mA (mV 2) mA0))))) (mSeq (sApp 5 (mV 7)) (mFrz 4 (sFor (iB enum1 (mA (mV 4) mA0)) (.tp [8, 9]) (sSet 3 (m2 addD (mV 6) (mV 8)) (m2 modD (m2 subD (m2 ixD (mV 3) (m2 addD (mV 6) (mV 8))) (m2 mulD (mV 7) (mV 9))) (mV 0))))))) (fun t : Nat => PyData.int ((N : Int) + (t : Nat) * (-1))) (List.range (N + 1))
      (fun pre α => ∃ s4 s6 s7 s8 s9, (s4 = .own (b.map PyData.int) ∨ s4 = .val (.list (b.map PyData.int))) ∧ α = [.val (.int p), .val (eN a), .val (eN o), .own (((List.range (a.length + 1)).map (dvS p b N (phA a) pre.length)).map PyData.int), s4, .own (((List.range pre.length).map (ldS p b N (phA a))).map PyData.int), s6, s7, s8, s9])
      (α := [.val (.int p), .val (eN a), .val (eN o), .own (((List.range (a.length + 1)).map (phA a)).map PyData.int), .own (b.map PyData.int), .own [], .un, .un, .un, .un]) ⟨_, _, _, _, _, .inl rfl, rfl⟩ fun pre t α ⟨s4, s6, s7, s8, s9, h4, e⟩ ⟨s, hs⟩ => by
        subst e
        obtain ⟨h1, h2⟩ := at_pre hs
        rw [h2]
        have ez : (N : Int) + (t : Nat) * (-1) = ((N - t : Nat) : Int) := by omega
        rw [ez]
        have ix := ix_rangeI (φ := dvS p b N (phA a) t) (N := a.length + 1) (i := N - t + o.length) (z := ((N - t : Nat) : Int) + (o.length : Int)) (by omega) (by omega)
        have elt : dvS p b N (phA a) t (N - t + o.length) = ldS p b N (phA a) t := by unfold ldS; rw [lo]; rfl
        rw [elt] at ix
        have bd := dvS_bd (b := b) (N := N) (by omega : (0 : Int) < p) hb t (N - t + o.length)
        rw [elt] at bd
        refine turnE (T := .nm 6) (β := [.val (.int p), .val (eN a), .val (eN o), .own (((List.range (a.length + 1)).map (dvS p b N (phA a) t)).map PyData.int), s4, .own (((List.range t).map (ldS p b N (phA a))).map PyData.int), .val (.int ((N - t : Nat) : Int)), s7, s8, s9]) rfl ?_
        refine x_seq (w_asg (v_m2 (v_own rfl) (v_m2 (v_var rfl) (w_B1 (v_var rfl) l3) (addD_int _ _)) ix) (putR_v rfl)) ?_
        refine x_seq (w_app rfl (v_var rfl) stR_v (by simp; omega) rfl) ?_
        have ef : ((List.range t).map (ldS p b N (phA a))).map PyData.int ++ [.int (ldS p b N (phA a) t)] = ((List.range (t + 1)).map (ldS p b N (phA a))).map PyData.int := by
          rw [List.range_succ, List.map_append, List.map_append]; rfl
        rw [ef]
        obtain ⟨γ, g1, s8', s9', g2⟩ := divI (p := p) (lead := ldS p b N (phA a) t) (by omega) (by omega) (b := b) (φ := dvS p b N (phA a) t) (k := N - t) (L := a.length + 1) (by omega) (s1 := .val (eN a)) (s2 := .val (eN o)) (s4 := .val (.list (b.map PyData.int))) (s5 := .own (((List.range (t + 1)).map (ldS p b N (phA a))).map PyData.int)) (s8 := s8) (s9 := s9)
        refine ⟨γ, w_frz (β := [.val (.int p), .val (eN a), .val (eN o), .own (((List.range (a.length + 1)).map (dvS p b N (phA a) t)).map PyData.int), .val (.list (b.map PyData.int)), .own (((List.range (t + 1)).map (ldS p b N (phA a))).map PyData.int), .val (.int ((N - t : Nat) : Int)), .val (.int (ldS p b N (phA a) t)), s8, s9]) (by rcases h4 with rfl | rfl <;> rfl) ((w_for (w_iB (s_c (v_var rfl) stR_v s_0) (enum_L PyData.int b)) rfl).trans g1), ?_⟩
        rw [g2, List.length_append, h2]
        exact ⟨_, _, _, _, _, .inr rfl, rfl⟩
    rw [List.length_range] at e
    exact ⟨α', f1, _, _, _, _, _, e⟩
  · rintro β ⟨s4, s6, s7, s8, s9, rfl⟩
    have sl1 : slD (.list (((List.range (N + 1)).map (ldS p b N (phA a))).map PyData.int).reverse) none (some (-1)) = .ok ⟨.f, .list ((((List.range (N + 1)).map (ldS p b N (phA a))).reverse.dropLast).map PyData.int)⟩ := by
      show Out.ok (FS.R.mk .f (.list (cutP _ none (some (-1))))) = _
      rw [cut_init, ← List.map_reverse, ← List.map_dropLast]
    have sl2 : slD (.list (((List.range (a.length + 1)).map (dvS p b N (phA a) (N + 1))).map PyData.int)) none (some (o.length : Int)) = .ok ⟨.f, .list ((((List.range (a.length + 1)).map (dvS p b N (phA a) (N + 1))).take o.length).map PyData.int)⟩ := by
      show Out.ok (FS.R.mk .f (.list (cutP _ none (some (o.length : Int))))) = _
      rw [cut_hi _ (by simp; omega), ← List.map_take]
    exact w_ret (w_Tu (s_c (w_B1 (v_Sl (v_Rev (v_own rfl) rfl) v_O0 (v_O1 (v_m1 v_c (negD_int 1)) rfl) sl1) (tup_lst _)) stR_v (s_c (v_Sl (v_own rfl) v_O0 (v_O1 (w_B1 (v_var rfl) l3) rfl) sl2) stR_f s_0)) rfl) ret_v

/-! FoR: rows of figures divided: what it means -/
section
variable {f : Int × Nu} (D : Drawn f)
theorem whl_sub (a b : Int) : El.whl D.fd (a - b) = El.sub D.fd (El.whl D.fd a) (El.whl D.fd b) := by
  letI := El.comR D.fd
  exact Lean.Grind.Ring.intCast_sub a b
theorem whl_inj {z w : Int} (hz : 0 ≤ z ∧ z < f.1) (hw : 0 ≤ w ∧ w < f.1) (h : El.whl D.fd z = El.whl D.fd w) : z = w := by
  have h : (El.whl D.fd z).a = (El.whl D.fd w).a := by rw [h]
  have h : whl f z = whl f w := h
  unfold whl at h
  have := (List.cons.inj h).1
  rwa [Int.emod_eq_of_lt hz.1 hz.2, Int.emod_eq_of_lt hw.1 hw.2] at this
theorem cf_whl (l : Nu) (j : Nat) : cf f D (l.map (El.whl D.fd)) j = El.whl D.fd (l.getD j 0) := by
  by_cases h : j < l.length
  · rw [cf_at D (x := El.whl D.fd l[j]) (by rw [List.getElem?_map, List.getElem?_eq_getElem h]; rfl), List.getD_eq_getElem?_getD, List.getElem?_eq_getElem h]; rfl
  · rw [cf_out D (by simp; omega), List.getD_eq_getElem?_getD, List.getElem?_eq_none (by omega)]; rfl
theorem dv_top (p : Int) (o : Nu) (N : Nat) (φ : Nat → Int) (h : ∀ j, N + 1 + o.length ≤ j → φ j = 0) : ∀ t, t ≤ N + 1 → ∀ j, N + 1 - t + o.length ≤ j → dvS p (o ++ [1]) N φ t j = 0
  | 0, _, j, hj => h j (by omega)
  | t + 1, ht, j, hj => by
    show inn p (dvS p (o ++ [1]) N φ t (N - t + ((o ++ [1]).length - 1))) (o ++ [1]) (N - t) (o ++ [1]).length (dvS p (o ++ [1]) N φ t) j = 0
    have lo : (o ++ [1]).length = o.length + 1 := by simp
    have ih := dv_top p o N φ h t (by omega)
    unfold inn
    rw [lo]
    by_cases hj2 : j = N - t + o.length
    · subst hj2
      rw [if_pos (by omega), show N - t + o.length - (N - t) = o.length from by omega, show (o ++ [1] : Nu).getD o.length 0 = 1 from by rw [List.getD_eq_getElem?_getD, List.getElem?_append_right (Nat.le_refl _)]; simp, show o.length + 1 - 1 = o.length from by omega, Int.mul_one, Int.sub_self]
      rfl
    · rw [if_neg (by omega)]
      exact ih j (by omega)
/-- the quotient so far -/
def Qst (f : Int × Nu) (D : Drawn f) (b : Nu) (N : Nat) (φ : Nat → Int) (t j : Nat) : El f := if N + 1 - t ≤ j ∧ j ≤ N then El.whl D.fd (ldS f.1 b N φ (N - j)) else El.whl D.fd 0
theorem dv_id (a o : Nu) (N : Nat) : ∀ t, t ≤ N + 1 → cf f D (rowW f D a) = pA f D (cvE f D (Qst f D (o ++ [1]) N (phA a) t) (cf f D (rowW f D o))) (fun j => El.whl D.fd (dvS f.1 (o ++ [1]) N (phA a) t j))
  | 0, _ => by
    have e : Qst f D (o ++ [1]) N (phA a) 0 = fun _ => El.whl D.fd 0 := by
      funext j; unfold Qst; rw [if_neg (by omega)]
    rw [e]
    funext j
    show _ = El.add D.fd (cvE f D (fun _ => El.whl D.fd 0) _ j) _
    rw [cv_nil, rowW_cf, (moA D.fd).c, (moA D.fd).u]
    rfl
  | t + 1, ht => by
    rw [dv_id a o N t (by omega)]
    obtain ⟨b, hb⟩ : ∃ b : Nu, b = o ++ [1] := ⟨_, rfl⟩
    have lb : b.length = o.length + 1 := by rw [hb]; simp
    have cb : ∀ j, cf f D (rowW f D o) j = El.whl D.fd (b.getD j 0) := fun j => by rw [rowW_cf, hb]; rfl
    rw [← hb]
    obtain ⟨c1, hc1⟩ : ∃ c1 : Nat → El f, c1 = fun j => if j = N - t then El.whl D.fd (ldS f.1 b N (phA a) t) else El.whl D.fd 0 := ⟨_, rfl⟩
    have eQ : Qst f D b N (phA a) (t + 1) = pA f D (Qst f D b N (phA a) t) c1 := by
      funext j
      show _ = El.add D.fd (Qst f D b N (phA a) t j) (c1 j)
      rw [hc1]
      unfold Qst
      dsimp only
      by_cases hj : j = N - t
      · subst hj
        rw [if_pos (by omega), if_neg (by omega), if_pos rfl, show N - (N - t) = t from by omega, (moA D.fd).c, (moA D.fd).u]
      · rw [if_neg hj, (moA D.fd).u]
        by_cases h : N + 1 - t ≤ j ∧ j ≤ N
        · rw [if_pos h, if_pos (by omega)]
        · rw [if_neg h, if_neg (by omega)]
    have eR : (fun j => El.whl D.fd (dvS f.1 b N (phA a) (t + 1) j)) = fun j => El.sub D.fd (El.whl D.fd (dvS f.1 b N (phA a) t j)) (cvE f D c1 (cf f D (rowW f D o)) j) := by
      funext j
      rw [hc1, cv_mon]
      show El.whl D.fd (inn f.1 (ldS f.1 b N (phA a) t) b (N - t) b.length (dvS f.1 b N (phA a) t) j) = _
      have sub0 : ∀ x : El f, El.sub D.fd x (El.whl D.fd 0) = x := fun x => by
        letI := El.comR D.fd
        show x - 0 = x
        grind
      unfold inn
      by_cases h : N - t ≤ j
      · rw [if_pos h, cb]
        by_cases h2 : j < N - t + b.length
        · rw [if_pos ⟨h, h2⟩, whl_mod D, whl_sub D, whl_mul D]
        · rw [if_neg (fun z => h2 z.2), List.getD_eq_getElem?_getD, List.getElem?_eq_none (by omega)]
          show _ = El.sub D.fd _ (El.mul D.fd _ (El.whl D.fd 0))
          rw [← whl_mul D, Int.mul_zero, sub0]
      · rw [if_neg h, if_neg (fun z => h z.1), sub0]
    rw [eQ, eR]
    exact (step_id D _ _ _ _).symm
include D in
theorem phA_bd {a : Nu} (xa : ∀ x ∈ a, 0 ≤ x ∧ x < f.1) (j : Nat) : 0 ≤ phA a j ∧ phA a j < f.1 := by
  have p2 := D.good.p2
  unfold phA
  rw [List.getD_eq_getElem?_getD]
  by_cases h : j < (a ++ [1]).length
  · rw [List.getElem?_eq_getElem h]
    have := List.getElem_mem h
    rcases List.mem_append.mp this with h | h
    · exact xa _ h
    · show 0 ≤ (a ++ [1])[j] ∧ (a ++ [1])[j] < f.1
      rw [List.mem_singleton.mp h]; omega
  · rw [List.getElem?_eq_none (by omega)]
    show 0 ≤ (0 : Int) ∧ (0 : Int) < f.1
    omega
theorem C_div {a o : Nu} {N : Nat} (hN : a.length = N + o.length) (ha : a.length ≤ 100) (xa : ∀ x ∈ a, 0 ≤ x ∧ x < f.1) : ∃ q r : Nu, m_divided [.int f.1, eN a, eN o] = .ok ⟨.v, .tuple [eN q, .list (r.map PyData.int)]⟩ ∧ q.length = N ∧ r.length = o.length ∧ (∀ x ∈ q, 0 ≤ x ∧ x < f.1) ∧ (∀ x ∈ r, 0 ≤ x ∧ x < f.1) ∧ cf f D (rowW f D a) = pA f D (cvE f D (cf f D (rowW f D q)) (cf f D (rowW f D o))) (cf f D (r.map (El.whl D.fd))) := by
  have p2 := D.good.p2; have p7 := D.good.p7
  have pb := phA_bd D xa
  have w := C_divided (p := f.1) (by omega) (by omega) (o := o) hN ha pb
  have bd := dvS_bd (p := f.1) (b := o ++ [1]) (N := N) (by omega) pb
  have tp := dv_top f.1 o N (phA a) (fun j hj => by unfold phA; rw [List.getD_eq_getElem?_getD, List.getElem?_eq_none (by simp; omega)]; rfl) (N + 1) (Nat.le_refl _)
  have id := dv_id D a o N (N + 1) (Nat.le_refl _)
  obtain ⟨b, hb⟩ : ∃ b : Nu, b = o ++ [1] := ⟨_, rfl⟩
  have lb : b.length = o.length + 1 := by rw [hb]; simp
  rw [← hb] at w bd tp id
  have l0 : ldS f.1 b N (phA a) 0 = 1 := by
    show phA a (N - 0 + (b.length - 1)) = 1
    unfold phA
    rw [show N - 0 + (b.length - 1) = a.length from by omega, List.getD_eq_getElem?_getD, List.getElem?_append_right (Nat.le_refl _)]
    simp
  have eq1 : ((List.range (N + 1)).map (ldS f.1 b N (phA a))).reverse = ((List.range (N + 1)).map (ldS f.1 b N (phA a))).reverse.dropLast ++ [1] := by
    rw [List.range_succ_eq_map, List.map_cons, l0, List.reverse_cons, List.dropLast_concat]
  refine ⟨_, _, w, by simp, by simp; omega, fun x hx => ?_, fun x hx => ?_, ?_⟩
  · have := List.mem_reverse.mp (List.dropLast_subset _ hx)
    obtain ⟨t, _, rfl⟩ := List.mem_map.mp this
    exact bd _ _
  · obtain ⟨t, _, rfl⟩ := List.mem_map.mp (List.mem_of_mem_take hx)
    exact bd _ _
  · rw [id]
    congr 1
    · congr 1
      funext j
      rw [rowW_cf, ← eq1]
      unfold Qst cfI
      rw [List.getD_eq_getElem?_getD]
      by_cases hj : j ≤ N
      · rw [if_pos ⟨by omega, hj⟩, List.getElem?_reverse (by simp; omega), List.getElem?_map, List.getElem?_range (by simp; omega)]
        simp
      · rw [if_neg (by omega), List.getElem?_eq_none (by simp; omega)]; rfl
    · funext j
      rw [cf_whl, List.getD_eq_getElem?_getD]
      by_cases hj : j < o.length
      · rw [List.getElem?_take, if_pos hj, List.getElem?_map, List.getElem?_range (by omega)]; rfl
      · rw [List.getElem?_eq_none (by simp; omega), tp j (by omega)]; rfl
theorem rest_zero {a q o r : Nu} (hr : r.length = o.length) (xr : ∀ x ∈ r, 0 ≤ x ∧ x < f.1) (h : cf f D (rowW f D a) = pA f D (cvE f D (cf f D (rowW f D q)) (cf f D (rowW f D o))) (cf f D (r.map (El.whl D.fd)))) : Dv f D (rowW f D o) (rowW f D a) ↔ ∀ x ∈ r, x = 0 := by
  have p2 := D.good.p2
  have cl := cut_len D (r.map (El.whl D.fd))
  rw [← cut_cf D (r.map (El.whl D.fd))] at h
  rw [dv_rest D (rowW_nf D o) (rowW_ne D o) (cut_nf D _) (by rw [rowW_len]; rw [List.length_map] at cl; omega) h]
  constructor
  · intro e x hx
    obtain ⟨j, hj, rfl⟩ := List.getElem_of_mem hx
    have c := cut_cf D (r.map (El.whl D.fd))
    rw [e] at c
    have c := congrFun c j
    rw [cf_out D (by simp), cf_whl, List.getD_eq_getElem?_getD, List.getElem?_eq_getElem hj] at c
    exact (whl_inj D ⟨by omega, by omega⟩ (xr _ hx) c).symm
  · intro e
    refine nf_nil_of D (cut_nf D _) ?_
    rw [cut_cf]
    funext j
    rw [cf_whl, List.getD_eq_getElem?_getD]
    by_cases hj : j < r.length
    · rw [List.getElem?_eq_getElem hj, e _ (List.getElem_mem hj)]; rfl
    · rw [List.getElem?_eq_none (by omega)]; rfl
theorem rowW_inj {a b : Nu} (xa : ∀ x ∈ a, 0 ≤ x ∧ x < f.1) (xb : ∀ x ∈ b, 0 ≤ x ∧ x < f.1) (h : rowW f D a = rowW f D b) : a = b := by
  unfold rowW at h
  have h := List.append_inj_left' h rfl
  have l : a.length = b.length := by have := congrArg List.length h; simpa using this
  refine List.ext_getElem? fun j => ?_
  by_cases hj : j < a.length
  · have e := congrArg (·[j]?) h
    simp only [List.getElem?_map] at e
    rw [List.getElem?_eq_getElem hj, List.getElem?_eq_getElem (by omega)] at e ⊢
    have := whl_inj D (xa _ (List.getElem_mem hj)) (xb _ (List.getElem_mem (by omega))) (Option.some.inj e)
    rw [this]
  · rw [List.getElem?_eq_none (by omega), List.getElem?_eq_none (by omega)]
theorem prodL_bd {p : Int} (hp : 0 < p) (a b : Nu) : ∀ x ∈ prodL p a b, 0 ≤ x ∧ x < p := fun x hx => by
  unfold prodL at hx
  obtain ⟨P, _, rfl⟩ := List.mem_map.mp hx
  exact ⟨Int.emod_nonneg _ (by omega), Int.emod_lt_of_pos _ hp⟩
theorem cf_prod (a b : Nu) : cf f D (rowW f D (prodL f.1 a b)) = cvE f D (cf f D (rowW f D a)) (cf f D (rowW f D b)) := by
  rw [← rowW_prod]
  exact cf_mul D (rowW_ne D a) (rowW_ne D b)
/-- without a rest it is a product -/
theorem div_prod {a q o r : Nu} (xa : ∀ x ∈ a, 0 ≤ x ∧ x < f.1) (hl : a.length = q.length + o.length) (z : ∀ x ∈ r, x = 0) (h : cf f D (rowW f D a) = pA f D (cvE f D (cf f D (rowW f D q)) (cf f D (rowW f D o))) (cf f D (r.map (El.whl D.fd)))) : prodL f.1 q o = a := by
  have p2 := D.good.p2
  refine (rowW_inj D xa (prodL_bd (by omega) q o) (cf_ext D (by rw [rowW_len, rowW_len, prodL_len]; omega) ?_)).symm
  rw [h, cf_prod]
  funext j
  show El.add D.fd _ _ = _
  rw [cf_whl, List.getD_eq_getElem?_getD]
  have : (r[j]?).getD 0 = 0 := by
    by_cases hj : j < r.length
    · rw [List.getElem?_eq_getElem hj]; exact z _ (List.getElem_mem hj)
    · rw [List.getElem?_eq_none (by omega)]; rfl
  rw [this, (moA D.fd).u]
theorem prod_dv (a b : Nu) : Dv f D (rowW f D a) (rowW f D (prodL f.1 a b)) := ⟨cf f D (rowW f D b), _, sup_cf D _, by rw [cf_prod, cv_commL]⟩
end
theorem d_neLI (a b : Nu) : neD (.list (a.map PyData.int)) (.list (b.map PyData.int)) = .ok ⟨.v, .bool (!decide (a = b))⟩ := by
  have sh : ∀ a : Nu, SeqAt.shaped (.list (a.map PyData.int)) = true := fun a => by
    unfold SeqAt.shaped
    have h1 : PyData.canLay0 (.list (a.map PyData.int)) = true := by unfold PyData.canLay0; exact canLay_ints a
    have h2 := depth_ints a
    have h3 : PyData.depth (.list (a.map PyData.int)) ≤ 64 := by unfold PyData.depth; omega
    rw [h1, decide_eq_true h3]; rfl
  unfold neD
  rw [sh, sh, show PyData.eqv (.list (a.map PyData.int)) (.list (b.map PyData.int)) = decide (a = b) from by unfold PyData.eqv; exact eqvAll_ints a b]; rfl
theorem C_any_left {r : Nu} (h : r.length ≤ 1000) : m_any_left [.list (r.map PyData.int)] = .ok ⟨.v, .bool (!decide (r.filter (fun x => !decide (x = 0)) = []))⟩ := by
  have c := compM_filter (T := .nm 1) (c := tBm (m2 neD (mV 1) (mC (.int 0)))) (e := mV 1) (α := [.val (.list (r.map PyData.int)), .un]) PyData.int PyData.int (fun x => !decide (x = 0)) r fun x _ => ⟨_, rfl, v_tB (v_m2 (v_var rfl) v_c (d_neI _ _)), fun _ => ⟨_, v_var rfl, stR_v⟩⟩
  refine w_body (α := [.val (.list (r.map PyData.int)), .un]) rfl ?_
  exact w_ret (v_m2 (w_LC (v_iV (v_var rfl) stR_v (it_lst _)) (by simp; omega) rfl rfl c) (w_L s_0 rfl) (d_neLI _ [])) ret_v

/-! FoS: the first part of a row of figures -/
theorem fs_map {τ σ ρ : Type} (g : τ → Option σ) (h : σ → ρ) : ∀ l : List τ, (l.findSome? fun x => (g x).map h) = (l.findSome? g).map h
  | [] => rfl
  | x :: l => by
    rw [List.findSome?_cons, List.findSome?_cons, fs_map g h l]
    cases g x <;> rfl
section
variable {f : Int × Nu} (D : Drawn f)
open Classical in
noncomputable def divB (f : Int × Nu) (D : Drawn f) (r o : Nu) : Option Nu := if Dv f D (rowW f D o) (rowW f D r) then some o else none
noncomputable def fpO (f : Int × Nu) (D : Drawn f) (r : Nu) : Option Nu := (List.range (r.length / 2)).findSome? fun k => (rowsT f.1.toNat (k + 1)).findSome? (divB f D r)
noncomputable def fpE (f : Int × Nu) (D : Drawn f) (r : Nu) : Nu := (fpO f D r).getD r
theorem fig_test {r o : Nu} (hl : o.length ≤ r.length) (hr : r.length ≤ 100) (xr : ∀ x ∈ r, 0 ≤ x ∧ x < f.1) {s2 : Sv} : ∃ k : Bool, (k = true ↔ Dv f D (rowW f D o) (rowW f D r)) ∧ bNot (mT (mF 1 m_any_left (mA (m2 ixD (mF 3 m_divided (mA (mV 0) (mA (mV 1) (mA (mV 3) mA0)))) (mC (.int 1))) mA0))) [.val (.int f.1), .val (eN r), s2, .val (eN o)] = .ok k := by
  obtain ⟨q, rr, w, lq, lr, _, xrr, id⟩ := C_div D (a := r) (o := o) (N := r.length - o.length) (by omega) hr xr
  refine ⟨!(!decide (rr.filter (fun x => !decide (x = 0)) = [])), ?_, v_not (v_T (w_F (s_c (v_m2 (w_F (s_c (v_var rfl) stR_v (s_c (v_var rfl) stR_v (s_c (v_var rfl) stR_v s_0))) rfl w) v_c (d_ixt1 _ _ _)) stR_v s_0) rfl (C_any_left (by omega))) (truB _))⟩
  rw [rest_zero D lr xrr id, Bool.not_not, decide_eq_true_iff, List.filter_eq_nil_iff]
  constructor
  · intro h x hx
    have := h x hx
    by_cases e : x = 0
    · exact e
    · exact absurd (by rw [decide_eq_false e]; rfl) this
  · intro h x hx z
    rw [h x hx] at z; cases z
theorem fp_some {r o : Nu} (h : fpO f D r = some o) : ∃ k, k < r.length / 2 ∧ o ∈ rowsT f.1.toNat (k + 1) ∧ Dv f D (rowW f D o) (rowW f D r) := by
  obtain ⟨k, hk, h⟩ := List.exists_of_findSome?_eq_some h
  obtain ⟨o', ho, h⟩ := List.exists_of_findSome?_eq_some h
  unfold divB at h
  split at h
  · cases h; exact ⟨k, List.mem_range.mp hk, ho, by assumption⟩
  · cases h
theorem fp_none {r : Nu} (h : fpO f D r = none) {k : Nat} (hk : k < r.length / 2) {o : Nu} (ho : o ∈ rowsT f.1.toNat (k + 1)) : ¬ Dv f D (rowW f D o) (rowW f D r) := fun d => by
  have := List.findSome?_eq_none_iff.mp (List.findSome?_eq_none_iff.mp h k (List.mem_range.mpr hk)) o ho
  unfold divB at this
  rw [if_pos d] at this; cases this
theorem C_first_part {r : Nu} (hr : r.length ≤ 100) (hs : f.1.toNat ^ (r.length / 2) ≤ 1000) (xr : ∀ x ∈ r, 0 ≤ x ∧ x < f.1) : m_first_part [.int f.1, eN r] = .ok ⟨.v, eN (fpE f D r)⟩ := by
  have p2 := D.good.p2; have p7 := D.good.p7
  have pn := D.pn
  obtain ⟨E, hE⟩ : ∃ E : Nu → FS.R, E = fun o => ⟨.v, eN o⟩ := ⟨_, rfl⟩
  have rg : rng2 [.int 1, .int ((r.length : Int) / 2 + 1)] = .ok ((List.range (r.length / 2)).map fun (q : Nat) => PyData.int (1 + (q : Int))) := by
    rw [rng2_int (by omega)]
    congr 3
    omega
  have ln := len_eN r
  have key := forM_find (T := .nm 2) (b := sFor (iV (mF 2 m_rows_of (mA (mV 0) (mA (mV 2) mA0)))) (.nm 3) (sIf (bNot (mT (mF 1 m_any_left (mA (m2 ixD (mF 3 m_divided (mA (mV 0) (mA (mV 1) (mA (mV 3) mA0)))) (mC (.int 1))) mA0)))) (sRetO 3) mNext)) (fun (q : Nat) => PyData.int (1 + (q : Int))) (fun k => (rowsT f.1.toNat (k + 1)).findSome? fun o => (divB f D r o).map E)
    (fun α => ∃ s2 s3, α = [.val (.int f.1), .val (eN r), s2, s3]) (List.range (r.length / 2)) [.val (.int f.1), .val (eN r), .un, .un] ⟨_, _, rfl⟩ fun k hk α ⟨s2, s3, e⟩ => by
      subst e
      have hk := List.mem_range.mp hk
      refine ⟨[.val (.int f.1), .val (eN r), .val (.int (1 + (k : Int))), s3], rfl, ?_⟩
      have pk1 : f.1.toNat ^ (k + 1) ≤ 1000 := Nat.le_trans (pow_le' (by omega) (by omega)) hs
      have R1 : m_rows_of [.int f.1, .int (1 + (k : Int))] = .ok ⟨.v, .list ((rowsT f.1.toNat (k + 1)).map eN)⟩ := by
        have := e_rows_of (p := f.1.toNat) (n := k + 1) (by omega) (by omega) (by omega) (by omega) pk1
        rwa [show ((k + 1 : Nat) : Int) = 1 + (k : Int) from by omega, pn] at this
      have in2 := forM_find (T := .nm 3) (b := sIf (bNot (mT (mF 1 m_any_left (mA (m2 ixD (mF 3 m_divided (mA (mV 0) (mA (mV 1) (mA (mV 3) mA0)))) (mC (.int 1))) mA0)))) (sRetO 3) mNext) eN (fun o => (divB f D r o).map E)
        (fun α => ∃ s3, α = [.val (.int f.1), .val (eN r), .val (.int (1 + (k : Int))), s3]) (rowsT f.1.toNat (k + 1)) [.val (.int f.1), .val (eN r), .val (.int (1 + (k : Int))), s3] ⟨_, rfl⟩ fun o ho α ⟨s3, e⟩ => by
          subst e
          refine ⟨[.val (.int f.1), .val (eN r), .val (.int (1 + (k : Int))), .val (eN o)], rfl, ?_⟩
          have lo := (rowsT_num ho).1
          obtain ⟨b, hb, tb⟩ := fig_test D (r := r) (o := o) (by omega) hr xr (s2 := .val (.int (1 + (k : Int))))
          unfold divB
          by_cases d : Dv f D (rowW f D o) (rowW f D r)
          · rw [if_pos d]
            show _ = SO.rt (E o)
            rw [hE]
            exact w_if tb (ite_yes (hb.mpr d) (w_retO rfl retS_v))
          · rw [if_neg d]
            refine ⟨[.val (.int f.1), .val (eN r), .val (.int (1 + (k : Int))), .val (eN o)], w_if tb (ite_no ?_ w_next), _, rfl⟩
            cases b with
            | true => exact absurd (hb.mp rfl) d
            | false => rfl
      have it : iV (mF 2 m_rows_of (mA (mV 0) (mA (mV 2) mA0))) [.val (.int f.1), .val (eN r), .val (.int (1 + (k : Int))), s3] = .ok ((rowsT f.1.toNat (k + 1)).map eN) := v_iV (w_F (s_c (v_var rfl) stR_v (s_c (v_var rfl) stR_v s_0)) rfl R1) stR_v (it_lst _)
      cases eq : (rowsT f.1.toNat (k + 1)).findSome? fun o => (divB f D r o).map E with
      | some w => rw [eq] at in2; exact (v_for it).trans in2
      | none =>
        rw [eq] at in2
        obtain ⟨α', i1, s3', i2⟩ := in2
        exact ⟨α', (v_for it).trans i1, _, _, i2⟩
  have it : iB rng2 (mA (mC (.int 1)) (mA (m2 addD (m2 fdivD (mB lenD (mA (mV 1) mA0)) (mC (.int 2))) (mC (.int 1))) mA0)) [.val (.int f.1), .val (eN r), .un, .un] = .ok ((List.range (r.length / 2)).map fun (q : Nat) => PyData.int (1 + (q : Int))) :=
    w_iB (s_c v_c stR_v (s_c (v_m2 (v_m2 (w_B1 (v_var rfl) ln) v_c (fdivD_int (by omega))) v_c (addD_int _ _)) stR_v s_0)) rg
  have e1 : (List.range (r.length / 2)).findSome? (fun k => (rowsT f.1.toNat (k + 1)).findSome? fun o => (divB f D r o).map E) = (fpO f D r).map E := by
    have e2 : (fun k => (rowsT f.1.toNat (k + 1)).findSome? fun o => (divB f D r o).map E) = fun k => ((rowsT f.1.toNat (k + 1)).findSome? (divB f D r)).map E := by
      funext k
      exact fs_map (divB f D r) E (rowsT f.1.toNat (k + 1))
    rw [e2]
    exact fs_map (fun k => (rowsT f.1.toNat (k + 1)).findSome? (divB f D r)) E _
  rw [e1] at key
  refine w_body (α := [.val (.int f.1), .val (eN r), .un, .un]) rfl ?_
  unfold fpE
  cases e : fpO f D r with
  | some o =>
    rw [e] at key
    have key : _ = SO.rt (E o) := key
    rw [hE] at key
    exact v_seqR ((v_for it).trans key)
  | none =>
    rw [e] at key
    obtain ⟨α', k1, s2, s3, rfl⟩ := key
    exact w_seq ((v_for it).trans k1) (w_retO rfl retS_v)
include D in
theorem prodL_comm (a b : Nu) : prodL f.1 a b = prodL f.1 b a := by
  have p2 := D.good.p2
  refine rowW_inj D (prodL_bd (by omega) a b) (prodL_bd (by omega) b a) (cf_ext D (by rw [rowW_len, rowW_len, prodL_len, prodL_len]; omega) ?_)
  rw [cf_prod, cf_prod, cv_commL]
/-- what divides leaves a product -/
theorem dv_prod {r o : Nu} (hl : o.length ≤ r.length) (hr : r.length ≤ 100) (xr : ∀ x ∈ r, 0 ≤ x ∧ x < f.1) (d : Dv f D (rowW f D o) (rowW f D r)) : ∃ (q rr : Nu), m_divided [.int f.1, eN r, eN o] = .ok ⟨.v, .tuple [eN q, .list (rr.map PyData.int)]⟩ ∧ q.length = r.length - o.length ∧ (∀ x ∈ q, 0 ≤ x ∧ x < f.1) ∧ prodL f.1 q o = r := by
  obtain ⟨q, rr, w, lq, lr, xq, xrr, id⟩ := C_div D (a := r) (o := o) (N := r.length - o.length) (by omega) hr xr
  exact ⟨q, rr, w, lq, xq, div_prod D xr (by omega) ((rest_zero D lr xrr id).mp d) id⟩
include D in
theorem mem_rows {o : Nu} {n : Nat} : o ∈ rowsT f.1.toNat n ↔ o.length = n ∧ ∀ x ∈ o, 0 ≤ x ∧ x < f.1 := by
  have pn := D.pn
  constructor
  · intro h
    have := rowsT_num h
    rw [pn] at this
    exact this
  · intro h
    exact mem_rowsT h.1 (by rw [pn]; exact h.2)
theorem isR_fp {r : Nu} (hr : r.length ≤ 100) (xr : ∀ x ∈ r, 0 ≤ x ∧ x < f.1) : isR f.1.toNat r ↔ fpO f D r = none := by
  have pn := D.pn
  constructor
  · intro h
    cases e : fpO f D r with
    | none => rfl
    | some o =>
      exfalso
      obtain ⟨k, hk, ho, d⟩ := fp_some D e
      have lo := ((mem_rows D).mp ho).1
      obtain ⟨q, rr, _, lq, xq, pq⟩ := dv_prod D (by omega) hr xr d
      refine h k hk o ho q ((mem_rows D).mpr ⟨by omega, xq⟩) ?_
      rw [pn, prodL_comm D, pq]
  · intro h k hk a ha b hb e
    refine fp_none D h hk ha ?_
    rw [pn] at e
    rw [← e]
    exact prod_dv D a b
theorem fp_is {r : Nu} (h1 : 1 ≤ r.length) : fpE f D r = r ↔ fpO f D r = none := by
  unfold fpE
  cases e : fpO f D r with
  | none => exact ⟨fun _ => rfl, fun _ => rfl⟩
  | some o =>
    obtain ⟨k, hk, ho, d⟩ := fp_some D e
    have lo := ((mem_rows D).mp ho).1
    refine ⟨fun z => ?_, fun z => by cases z⟩
    have z : o = r := z
    rw [z] at lo; omega
include D in
open Classical in
theorem C_is_whole {r : Nu} (h1 : 1 ≤ r.length) (hr : r.length ≤ 100) (hs : f.1.toNat ^ (r.length / 2) ≤ 1000) (xr : ∀ x ∈ r, 0 ≤ x ∧ x < f.1) : m_is_whole [.int f.1, eN r] = .ok ⟨.v, .bool (decide (isR f.1.toNat r))⟩ := by
  refine w_body (α := [.val (.int f.1), .val (eN r)]) rfl (w_ret ((v_m2 (w_F (s_c (v_var rfl) stR_v (s_c (v_var rfl) stR_v s_0)) rfl (C_first_part D hr hs xr)) (v_var rfl) (d_eqN _ _)).trans ?_) ret_v)
  congr 3
  exact decide_eq_decide.mpr ((fp_is D h1).trans (isR_fp D hr xr).symm)
end

/-! FoT: what a row of figures is made of; rules -/
def encQ (q : Nu × Nat) : PyData := .tuple [eN q.1, .int (q.2 : Int)]
def wgt (l : List (Nu × Nat)) : Nat := (l.map fun q => q.1.length * q.2).sum
theorem ixN_last {n : Nat} (h : 1 ≤ n) : ixN n (-1) = some (n - 1) := by
  unfold ixN
  rw [if_neg (by omega), if_pos (by omega)]
  congr 1
  omega
section
variable {f : Int × Nu} (D : Drawn f)
theorem fpE_ok {r : Nu} (h1 : 1 ≤ r.length) (xr : ∀ x ∈ r, 0 ≤ x ∧ x < f.1) : 1 ≤ (fpE f D r).length ∧ (fpE f D r).length ≤ r.length ∧ (∀ x ∈ fpE f D r, 0 ≤ x ∧ x < f.1) ∧ Dv f D (rowW f D (fpE f D r)) (rowW f D r) := by
  unfold fpE
  cases e : fpO f D r with
  | none => exact ⟨h1, Nat.le_refl _, xr, dv_refl D _⟩
  | some o =>
    obtain ⟨k, hk, ho, d⟩ := fp_some D e
    obtain ⟨lo, xo⟩ := (mem_rows D).mp ho
    exact ⟨by show 1 ≤ o.length; omega, by show o.length ≤ _; omega, xo, d⟩
def bodyPt : MS := mSeq (sAsg 4 (mF 2 m_first_part (mA (mV 0) (mA (mV 2) mA0))))
  (mSeq (sIf (bAnd (mT (mV 3)) (tBm (m2 eqD (m2 ixD (m2 ixD (mV 3) (m1 negD (mC (.int 1)))) (mC (.int 0))) (mV 4)))) (sSet 3 (m1 negD (mC (.int 1))) (mTu (mA (mV 4) (mA (m2 addD (m2 ixD (m2 ixD (mV 3) (m1 negD (mC (.int 1)))) (mC (.int 1))) (mC (.int 1))) mA0)))) (sApp 3 (mTu (mA (mV 4) (mA (mC (.int 1)) mA0)))))
  (sAsg 2 (m2 ixD (mF 3 m_divided (mA (mV 0) (mA (mV 2) (mA (mV 4) mA0)))) (mC (.int 0)))))
/-- one turn -/
def addP (fo : List (Nu × Nat)) (u : Nu) : List (Nu × Nat) := match fo.getLast? with
  | some q => if q.1 = u then fo.dropLast ++ [(u, q.2 + 1)] else fo ++ [(u, 1)]
  | none => fo ++ [(u, 1)]
theorem parts_turn {s1 s4 : Sv} {left : Nu} {fo : List (Nu × Nat)} (h1 : 1 ≤ left.length) (h8 : left.length ≤ 8) (hf : fo.length ≤ 100) (hs : f.1.toNat ^ (left.length / 2) ≤ 1000) (xl : ∀ x ∈ left, 0 ≤ x ∧ x < f.1) : ∃ q : Nu, bodyPt [.val (.int f.1), s1, .val (eN left), .own (fo.map encQ), s4] = .nx [.val (.int f.1), s1, .val (eN q), .own ((addP fo (fpE f D left)).map encQ), .val (eN (fpE f D left))] ∧ q.length = left.length - (fpE f D left).length ∧ (∀ x ∈ q, 0 ≤ x ∧ x < f.1) ∧ prodL f.1 q (fpE f D left) = left := by
  obtain ⟨u1, u2, xu, du⟩ := fpE_ok D h1 xl
  have fp := C_first_part D (r := left) (by omega) hs xl
  obtain ⟨q, rr, w, lq, xq, pq⟩ := dv_prod D (r := left) (o := fpE f D left) u2 (by omega) xl du
  generalize fpE f D left = u at *
  refine ⟨q, ?_, lq, xq, pq⟩
  refine w_seq (w_asg (w_F (s_c (v_var rfl) stR_v (s_c (v_var rfl) stR_v s_0)) rfl fp) (putR_v rfl)) ?_
  refine w_seq (β := [.val (.int f.1), s1, .val (eN left), .own ((addP fo u).map encQ), .val (eN u)]) ?_ (w_asg (v_m2 (w_F (s_c (v_var rfl) stR_v (s_c (v_var rfl) stR_v (s_c (v_var rfl) stR_v s_0))) rfl w) v_c (d_ixt0 _ _)) (putR_v rfl))
  by_cases h0 : fo = []
  · subst h0
    exact w_if (k := false) (v_andF (v_T (v_own rfl) rfl)) (ite_no rfl (w_app rfl (w_Tu (s_c (v_var rfl) stR_v (s_c v_c stR_v s_0)) rfl) stR_v (by simp) rfl))
  · obtain ⟨fo', l, rfl⟩ := last_ex h0
    have ix := d_last (enc := encQ) fo' l
    have tr : truD (.list ((fo' ++ [l]).map encQ)) = .ok true := tru_L h0
    have eA : addP (fo' ++ [l]) u = if l.1 = u then fo' ++ [(u, l.2 + 1)] else fo' ++ [l] ++ [(u, 1)] := by
      unfold addP
      rw [List.getLast?_concat, List.dropLast_concat]
    have ts : bAnd (mT (mV 3)) (tBm (m2 eqD (m2 ixD (m2 ixD (mV 3) (m1 negD (mC (.int 1)))) (mC (.int 0))) (mV 4))) [.val (.int f.1), s1, .val (eN left), .own ((fo' ++ [l]).map encQ), .val (eN u)] = .ok (decide (l.1 = u)) := v_andT (v_T (v_own rfl) tr) (v_tB (v_m2 (v_m2 (v_m2 (v_own rfl) (v_m1 v_c (negD_int 1)) ix) v_c (d_ixt0 _ _)) (v_var rfl) (d_eqN _ _)))
    by_cases hu : l.1 = u
    · refine w_if ts (ite_yes (decide_eq_true hu) ?_)
      rw [eA, if_pos hu]
      refine ex_set rfl (w_Tu (s_c (v_var rfl) stR_v (s_c (v_m2 (v_m2 (v_m2 (v_own rfl) (v_m1 v_c (negD_int 1)) ix) v_c (d_ixt1 _ _ _)) v_c (addD_int _ _)) stR_v s_0)) rfl) stR_v (v_m1 v_c (negD_int 1)) (ixN_last (by simp)) ?_
      show [_, _, _, Sv.own (((fo' ++ [l]).map encQ).set (((fo' ++ [l]).map encQ).length - 1) (.tuple [eN u, .int ((l.2 : Int) + 1)])), _] = _
      rw [List.map_append, List.map_append, List.length_append, List.length_map]
      show [_, _, _, Sv.own ((fo'.map encQ ++ [encQ l]).set (fo'.length + 1 - 1) _), _] = _
      rw [Nat.add_sub_cancel, List.set_append_right _ _ (by simp)]
      simp [encQ]
    · refine w_if ts (ite_no (decide_eq_false hu) ?_)
      rw [eA, if_neg hu]
      refine w_app rfl (w_Tu (s_c (v_var rfl) stR_v (s_c v_c stR_v s_0)) rfl) stR_v (by simp at hf ⊢; omega) ?_
      show [_, _, _, Sv.own ((fo' ++ [l]).map encQ ++ [_]), _] = _
      rw [List.map_append (l₁ := fo' ++ [l])]
      rfl
theorem addP_head {fo : List (Nu × Nat)} (h0 : fo ≠ []) (u : Nu) : ((addP fo u).head?).map Prod.fst = (fo.head?).map Prod.fst ∧ addP fo u ≠ [] ∧ (addP fo u).length ≤ fo.length + 1 := by
  obtain ⟨fo', l, rfl⟩ := last_ex h0
  unfold addP
  rw [List.getLast?_concat, List.dropLast_concat]
  dsimp only
  split
  · rename_i h
    subst h
    cases fo' with
    | nil => simp
    | cons a t => simp
  · cases fo' with
    | nil => simp
    | cons a t => simp
theorem addP_len (fo : List (Nu × Nat)) (u : Nu) : (addP fo u).length ≤ fo.length + 1 := by
  by_cases h0 : fo = []
  · subst h0; exact Nat.le_refl _
  · exact (addP_head h0 u).2.2
include D in
theorem look_pr : m_look_prime [.int f.1] = .ok ⟨.v, .none⟩ := by
  have ip : m_is_prime [.int f.1] = .ok ⟨.v, .bool true⟩ := by
    rcases D.prime with e | e | e | e <;> rw [e] <;> kernel_rfl
  exact w_bodyN (α := [.val (.int f.1)]) rfl (w_if (k := false) (v_not (k := true) (v_T (w_F (s_c (v_var rfl) stR_v s_0) rfl ip) (truB _))) (ite_no rfl w_next))
open Classical in
include D in
theorem C_rules {m : Nat} (h1 : 1 ≤ m) (h8 : m ≤ 8) (hs : f.1.toNat ^ m ≤ 256) : m_rules [.int f.1, .int (m : Int)] = .ok ⟨.f, .list (((rowsT f.1.toNat m).filter fun r => decide (isR f.1.toNat r)).map eN)⟩ := by
  have p2 := D.good.p2; have p7 := D.good.p7
  have pn := D.pn
  have iw := e_is_within (m : Int) 1 8
  rw [decide_eq_true (by omega)] at iw
  have ta := e_times_as f.1 m (by omega) (by omega)
  have hs' : f.1 ^ m ≤ 256 := by
    have : ((f.1.toNat ^ m : Nat) : Int) = f.1 ^ m := by rw [Int.natCast_pow, pn]
    omega
  have R1 : m_rows_of [.int f.1, .int (m : Int)] = .ok ⟨.v, .list ((rowsT f.1.toNat m).map eN)⟩ := by
    have := e_rows_of (p := f.1.toNat) (n := m) (by omega) (by omega) h1 (by omega) (by omega)
    rwa [pn] at this
  have c := compM_filter (T := .nm 2) (c := mT (mF 2 m_is_whole (mA (mV 0) (mA (mV 2) mA0)))) (e := mV 2) (α := [.val (.int f.1), .val (.int (m : Int)), .un]) eN eN (fun r => decide (isR f.1.toNat r)) (rowsT f.1.toNat m) fun r hr => by
    obtain ⟨lr, xr⟩ := (mem_rows D).mp hr
    refine ⟨_, rfl, v_T (w_F (s_c (v_var rfl) stR_v (s_c (v_var rfl) stR_v s_0)) rfl (C_is_whole D (by omega) (by omega) ?_ xr)) (truB _), fun _ => ⟨_, v_var rfl, stR_v⟩⟩
    have := Nat.pow_le_pow_right (n := f.1.toNat) (by omega) (show r.length / 2 ≤ m by omega)
    omega
  refine w_body (α := [.val (.int f.1), .val (.int (m : Int)), .un]) rfl ?_
  refine w_seq (v_expr (w_F (s_c (v_var rfl) stR_v s_0) rfl (look_pr D))) ?_
  refine w_seq (w_if (k := false) (v_orF (v_not (k := true) (v_T (w_F (s_c (v_var rfl) stR_v (s_c v_c stR_v (s_c v_c stR_v s_0))) rfl iw) (truB _))) (v_tB ((v_m2 (w_F (s_c (v_var rfl) stR_v (s_c (v_var rfl) stR_v s_0)) rfl ta) v_c (d_gt _ _)).trans (by rw [decide_eq_false (by omega)])))) (ite_no rfl w_next)) ?_
  exact w_ret (w_LC (v_iV (w_F (s_c (v_var rfl) stR_v (s_c (v_var rfl) stR_v s_0)) rfl R1) stR_v (it_lst _)) (by rw [List.length_map, rowsT_len]; omega) rfl rfl c) ret_f
end

/-! FoX: what a row of figures is made of: all of it -/
def klt (a b : Nu) : Prop := a.length < b.length ∨ (a.length = b.length ∧ a < b)
theorem klt_trans {a b c : Nu} (h : klt a b) (h' : klt b c) : klt a c := by
  rcases h with h | ⟨h, e⟩ <;> rcases h' with h' | ⟨h', e'⟩
  · exact .inl (by omega)
  · exact .inl (by omega)
  · exact .inl (by omega)
  · exact .inr ⟨by omega, List.lt_trans e e'⟩
def kle (a b : Nu) : Prop := a = b ∨ klt a b
def rep (p : Int) (w u : Nu) : Nat → Nu
  | 0 => w
  | k + 1 => prodL p (rep p w u k) u
def prodAll (p : Int) (fo : List (Nu × Nat)) : Nu := fo.foldl (fun w q => rep p w q.1 q.2) []
theorem prodAll_s (p : Int) (fo : List (Nu × Nat)) (q : Nu × Nat) : prodAll p (fo ++ [q]) = rep p (prodAll p fo) q.1 q.2 := by
  unfold prodAll; rw [List.foldl_append]; rfl
theorem prodAll_add (p : Int) (fo : List (Nu × Nat)) (u : Nu) : prodAll p (addP fo u) = prodL p (prodAll p fo) u := by
  by_cases h0 : fo = []
  · subst h0; rfl
  · obtain ⟨fo', l, rfl⟩ := last_ex h0
    unfold addP
    rw [List.getLast?_concat, List.dropLast_concat]
    dsimp only
    split
    · rename_i h
      subst h
      rw [prodAll_s, prodAll_s]; rfl
    · rw [prodAll_s]; rfl
section
variable {f : Int × Nu} (D : Drawn f)
include D in
theorem prodL_assoc (a b c : Nu) : prodL f.1 (prodL f.1 a b) c = prodL f.1 a (prodL f.1 b c) := by
  have p2 := D.good.p2
  refine rowW_inj D (prodL_bd (by omega) _ _) (prodL_bd (by omega) _ _) (cf_ext D (by simp only [rowW_len, prodL_len]; omega) ?_)
  rw [cf_prod, cf_prod, cf_prod, cf_prod, cv_assocL]
include D in
theorem prodL_nil {a : Nu} (xa : ∀ x ∈ a, 0 ≤ x ∧ x < f.1) : prodL f.1 a [] = a := by
  have p2 := D.good.p2
  refine rowW_inj D (prodL_bd (by omega) _ _) xa (cf_ext D (by simp only [rowW_len, prodL_len, List.length_nil, Nat.add_zero]) ?_)
  rw [cf_prod]
  exact cv_unit D _
theorem fp_first {r o : Nu} (h : fpO f D r = some o) {k : Nat} (hk : k < r.length / 2) {v : Nu} (hv : v ∈ rowsT f.1.toNat (k + 1)) (d : Dv f D (rowW f D v) (rowW f D r)) : kle o v := by
  have lv := ((mem_rows D).mp hv).1
  obtain ⟨l1, a, l2, e, h1, h2⟩ := List.findSome?_eq_some_iff.mp h
  obtain ⟨ha, la⟩ := at_pre e
  obtain ⟨m1, o', m2, e', h1', h2'⟩ := List.findSome?_eq_some_iff.mp h1
  have ho : o' = o := by
    unfold divB at h1'
    split at h1'
    · exact Option.some.inj h1'
    · cases h1'
  subst ho
  have ho' : o' ∈ rowsT f.1.toNat (a + 1) := by rw [e']; simp
  have lo := ((mem_rows D).mp ho').1
  rcases Nat.lt_trichotomy k a with c | c | c
  · exfalso
    have hm : k ∈ l1 := by
      have : k ∈ l1 ++ a :: l2 := by rw [← e]; exact List.mem_range.mpr hk
      rcases List.mem_append.mp this with z | z
      · exact z
      · exfalso
        obtain ⟨j, hj, ej⟩ := List.getElem_of_mem z
        have : (l1 ++ a :: l2)[l1.length + j]? = some k := by
          rw [List.getElem?_append_right (by omega), show l1.length + j - l1.length = j from by omega, List.getElem?_eq_getElem hj, ej]
        rw [← e] at this
        have lt : l1.length + j < r.length / 2 := by
          rcases Nat.lt_or_ge (l1.length + j) (r.length / 2) with z | z
          · exact z
          · rw [List.getElem?_eq_none (by simpa using z)] at this; cases this
        rw [List.getElem?_range lt] at this
        have := Option.some.inj this
        omega
    have := List.findSome?_eq_none_iff.mp (h2 k hm) v hv
    unfold divB at this
    rw [if_pos d] at this; cases this
  · subst c
    rw [e'] at hv
    rcases List.mem_append.mp hv with z | z
    · exfalso
      have := h2' v z
      unfold divB at this
      rw [if_pos d] at this; cases this
    · rcases List.mem_cons.mp z with z | z
      · exact .inl z.symm
      · refine .inr (.inr ⟨by omega, ?_⟩)
        have := rows_rising f.1.toNat (k + 1)
        rw [e'] at this
        exact (List.pairwise_cons.mp (List.pairwise_append.mp this).2.1).1 v z
  · exact .inr (.inl (by omega))
/-- a first part is no product -/
theorem fpE_isR {r : Nu} (h1 : 1 ≤ r.length) (hr : r.length ≤ 100) (xr : ∀ x ∈ r, 0 ≤ x ∧ x < f.1) : isR f.1.toNat (fpE f D r) := by
  obtain ⟨u1, u2, xu, du⟩ := fpE_ok D h1 xr
  cases e : fpO f D r with
  | none =>
    have : fpE f D r = r := (fp_is D h1).mpr e
    rw [this]
    exact (isR_fp D hr xr).mpr e
  | some o =>
    have eo : fpE f D r = o := by unfold fpE; rw [e]; rfl
    rw [eo] at u1 u2 xu du ⊢
    obtain ⟨ko, hko, hoR, _⟩ := fp_some D e
    have lko := ((mem_rows D).mp hoR).1
    refine (isR_fp D (by omega) xu).mpr ?_
    cases e2 : fpO f D o with
    | none => rfl
    | some v =>
      exfalso
      obtain ⟨k, hk, hv, d⟩ := fp_some D e2
      have lv := ((mem_rows D).mp hv).1
      rcases fp_first D e (k := k) (by omega) hv (dv_trans D d du) with z | z | ⟨z, _⟩
      · rw [z] at hk; omega
      · omega
      · omega
/-- the first parts rise -/
theorem fpE_next {left q : Nu} (hl : left.length ≤ 100) (xl : ∀ x ∈ left, 0 ≤ x ∧ x < f.1) (xq : ∀ x ∈ q, 0 ≤ x ∧ x < f.1) (q1 : 1 ≤ q.length) (h : prodL f.1 q (fpE f D left) = left) : kle (fpE f D left) (fpE f D q) := by
  have ll : left.length = q.length + (fpE f D left).length := by
    have := congrArg List.length h
    rw [prodL_len] at this; omega
  have dq : Dv f D (rowW f D q) (rowW f D left) := by
    have := prod_dv D q (fpE f D left)
    rwa [h] at this
  cases e : fpO f D left with
  | none =>
    have : fpE f D left = left := (fp_is D (by omega)).mpr e
    rw [this] at ll; omega
  | some u =>
    have eu : fpE f D left = u := by unfold fpE; rw [e]; rfl
    rw [eu] at ll ⊢
    obtain ⟨ko, hko, huR, _⟩ := fp_some D e
    have lu := ((mem_rows D).mp huR).1
    cases e2 : fpO f D q with
    | some v =>
      have ev : fpE f D q = v := by unfold fpE; rw [e2]; rfl
      rw [ev]
      obtain ⟨k, hk, hv, d⟩ := fp_some D e2
      exact fp_first D e (k := k) (by omega) hv (dv_trans D d dq)
    | none =>
      have ev : fpE f D q = q := (fp_is D q1).mpr e2
      rw [ev]
      by_cases c : u.length < q.length
      · exact .inr (.inl c)
      · exact fp_first D e (k := ko) hko ((mem_rows D).mpr ⟨by omega, xq⟩) dq
/-- a part with how often -/
structure PtG (f : Int × Nu) (q : Nu × Nat) : Prop where
  o1 : 1 ≤ q.2
  l1 : 1 ≤ q.1.length
  ir : isR f.1.toNat q.1
  xs : ∀ x ∈ q.1, 0 ≤ x ∧ x < f.1
theorem addP_mem {fo : List (Nu × Nat)} {u : Nu} (hu1 : 1 ≤ u.length) (hu2 : isR f.1.toNat u) (hu3 : ∀ x ∈ u, 0 ≤ x ∧ x < f.1) (h : ∀ q ∈ fo, PtG f q) : ∀ q ∈ addP fo u, PtG f q := by
  by_cases h0 : fo = []
  · subst h0
    intro q hq
    have : q = (u, 1) := by simpa [addP] using hq
    subst this
    exact ⟨Nat.le_refl _, hu1, hu2, hu3⟩
  · obtain ⟨fo', l, rfl⟩ := last_ex h0
    unfold addP
    rw [List.getLast?_concat, List.dropLast_concat]
    dsimp only
    intro q hq
    split at hq
    · rcases List.mem_append.mp hq with z | z
      · exact h q (List.mem_append_left _ z)
      · rw [List.mem_singleton.mp z]
        exact ⟨Nat.succ_le_succ (Nat.zero_le _), hu1, hu2, hu3⟩
    · rcases List.mem_append.mp hq with z | z
      · exact h q z
      · rw [List.mem_singleton.mp z]
        exact ⟨Nat.le_refl _, hu1, hu2, hu3⟩
theorem addP_keys {fo : List (Nu × Nat)} {u : Nu} (h : (fo.map Prod.fst).Pairwise klt) (hl : ∀ l, fo.getLast? = some l → kle l.1 u) : ((addP fo u).map Prod.fst).Pairwise klt ∧ ∃ l, (addP fo u).getLast? = some l ∧ l.1 = u := by
  by_cases h0 : fo = []
  · subst h0
    exact ⟨by simp [addP], (u, 1), rfl, rfl⟩
  · obtain ⟨fo', l, rfl⟩ := last_ex h0
    have hk := hl l (List.getLast?_concat ..)
    unfold addP
    rw [List.getLast?_concat, List.dropLast_concat]
    dsimp only
    split
    · rename_i e
      refine ⟨?_, (u, l.2 + 1), List.getLast?_concat .., rfl⟩
      rw [List.map_append] at h ⊢
      rw [← e]
      exact h
    · rename_i e
      refine ⟨?_, (u, 1), List.getLast?_concat .., rfl⟩
      rw [List.map_append, List.pairwise_append]
      refine ⟨h, by simp, fun a ha b hb => ?_⟩
      have : b = u := by simpa using hb
      subst this
      have lu : klt l.1 b := by
        rcases hk with z | z
        · exact absurd z e
        · exact z
      rw [List.map_append, List.pairwise_append] at h
      rw [List.map_append] at ha
      rcases List.mem_append.mp ha with z | z
      · exact klt_trans (h.2.2 a z l.1 (by simp)) lu
      · have : a = l.1 := by simpa using z
        rw [this]; exact lu
include D in
theorem parts_wh2 {s1 : Sv} {r : Nu} : ∀ (K : Nat) (left : Nu) (fo : List (Nu × Nat)) (s4 : Sv), left.length < K → left.length ≤ 8 → fo.length + left.length ≤ 8 → f.1.toNat ^ (left.length / 2) ≤ 1000 → (∀ x ∈ left, 0 ≤ x ∧ x < f.1) →
    prodL f.1 (prodAll f.1 fo) left = r → (∀ q ∈ fo, PtG f q) → (fo.map Prod.fst).Pairwise klt → (∀ l, fo.getLast? = some l → left ≠ [] → kle l.1 (fpE f D left)) →
    ∃ (fo' : List (Nu × Nat)) (s4' : Sv), whileM K (mT (mV 2)) bodyPt [.val (.int f.1), s1, .val (eN left), .own (fo.map encQ), s4] = .nx [.val (.int f.1), s1, .val (eN []), .own (fo'.map encQ), s4'] ∧ prodL f.1 (prodAll f.1 fo') [] = r ∧ (∀ q ∈ fo', PtG f q) ∧ (fo'.map Prod.fst).Pairwise klt ∧ fo'.length ≤ 8
  | 0, _, _, _, h, _, _, _, _, _, _, _, _ => by omega
  | K + 1, left, fo, s4, h, h8, hf, hs, xl, hp, hg, hk, hl => by
    by_cases h0 : left = []
    · subst h0
      exact ⟨fo, s4, w_wh0 (k := false) (v_T (v_var rfl) rfl) rfl, hp, hg, hk, by omega⟩
    · have h1 : 1 ≤ left.length := List.length_pos_iff.mpr h0
      have p2 := D.good.p2
      obtain ⟨q, b1, lq, xq, pq⟩ := parts_turn D (s1 := s1) (s4 := s4) (fo := fo) h1 h8 (by omega) hs xl
      obtain ⟨u1, u2, xu, _⟩ := fpE_ok D h1 xl
      have al := addP_len fo (fpE f D left)
      have iu := fpE_isR D h1 (by omega) xl
      obtain ⟨k1, l', hl', el'⟩ := addP_keys (u := fpE f D left) hk fun l z => hl l z h0
      obtain ⟨fo', s4', w, r1, r2, r3, r4⟩ := parts_wh2 (s1 := s1) (r := r) K q (addP fo (fpE f D left)) (.val (eN (fpE f D left))) (by omega) (by omega) (by omega) (Nat.le_trans (pow_le' (by omega) (by omega)) hs) xq
        (by rw [prodAll_add, prodL_assoc D, prodL_comm D (fpE f D left) q, pq, hp]) (addP_mem u1 iu xu hg) k1 (fun l z zq => by
          rw [hl'] at z
          have := Option.some.inj z
          rw [← this, el']
          exact fpE_next D (by omega) xl xq (List.length_pos_iff.mpr zq) pq)
      exact ⟨fo', s4', w_wh1 (k := true) (v_T (v_var rfl) (tru_T h0)) rfl b1 w, r1, r2, r3, r4⟩
theorem rep_bd {p : Int} (hp : 0 < p) {w u : Nu} (hw : ∀ x ∈ w, 0 ≤ x ∧ x < p) : ∀ k, ∀ x ∈ rep p w u k, 0 ≤ x ∧ x < p
  | 0 => hw
  | k + 1 => prodL_bd hp _ _
theorem prodAll_bd {p : Int} (hp : 0 < p) (fo : List (Nu × Nat)) : ∀ x ∈ prodAll p fo, 0 ≤ x ∧ x < p :=
  list_rev (P := fun fo => ∀ x ∈ prodAll p fo, 0 ≤ x ∧ x < p) (fun x hx => by cases hx) (fun l q ih => by rw [prodAll_s]; exact rep_bd hp ih q.2) fo
include D in
theorem C_parts2 {r : Nu} (h1 : 1 ≤ r.length) (h8 : r.length ≤ 8) (hs : f.1.toNat ^ (r.length / 2) ≤ 1000) (xr : ∀ x ∈ r, 0 ≤ x ∧ x < f.1) : ∃ fo : List (Nu × Nat), m_parts [.int f.1, eN r] = .ok ⟨.f, .list (fo.map encQ)⟩ ∧ prodAll f.1 fo = r ∧ (∀ q ∈ fo, PtG f q) ∧ (fo.map Prod.fst).Pairwise klt ∧ fo.length ≤ 8 := by
  have p2 := D.good.p2
  have af := e_are_figures (p := f.1) (lo := 1) (hi := 8) (a := r) (by omega) (by omega) (by omega) xr
  have pr : prodL f.1 (prodAll f.1 []) r = r := by
    rw [prodL_comm D]
    exact prodL_nil D xr
  obtain ⟨fo, s4, w, r1, r2, r3, r4⟩ := parts_wh2 D (s1 := .val (eN r)) (r := r) 1000 r [] .un (by omega) h8 (by simp; omega) hs xr pr (fun q hq => by cases hq) (by simp) (fun l z => by cases z)
  refine ⟨fo, ?_, ?_, r2, r3, r4⟩
  · refine w_body (α := [.val (.int f.1), .val (eN r), .un, .un, .un]) rfl ?_
    refine w_seq (v_expr (w_F (s_c (v_var rfl) stR_v s_0) rfl (look_pr D))) ?_
    refine w_seq (w_if (k := false) (v_not (k := true) (v_T (w_F (s_c (v_var rfl) stR_v (s_c (v_var rfl) stR_v (s_c v_c stR_v (s_c v_c stR_v s_0)))) rfl af) (truB _))) (ite_no rfl w_next)) ?_
    refine w_seq (w_asg (v_var rfl) (putR_v rfl)) ?_
    refine w_seq (w_asg (w_L s_0 rfl) (putR_f rfl)) ?_
    exact w_seq w (w_retO rfl retS_o)
  · rw [← r1, prodL_nil D (prodAll_bd (by omega) fo)]
end

end FM

/-! FsZ: sorted(set(xs)), xs a list of ints -/
namespace FS
open PySem PySem.Spec PyProof.Rows L2
/-- the object of a new set -/
abbrev nOb (w : World) : Obj := { cls := .type "set", dict := none, data := .set #[] 0 (.fresh 0 0 (!w.params.followText "set-order")) }
section
variable {P : Program} {w : World} {A : Around} {E : Value → Shared → Prop} {s : Shared}
theorem set_of_ints {l : Addr} {its : Array Value} (ns : List Int) {Q : Value → Shared → Prop} (hh : A.handled = none) (il : s.heap.IsList l its) (ii : IntsAre its.toList ns) (few : ns.length + 1 < scanBound)
    (fin : ∀ (g : Heap) (tk c : Nat), SetR w g s.heap.objs.size (fun j => decide (j ∈ ns)) c → c ≤ ns.length → (∀ b o, s.heap.get? b = some o → g.get? b = some o) → Q (.ref s.heap.objs.size) { s with heap := g, toks := tk }) :
    wpAny (model P w) A (call (.type "set") [.ref l]) Q E s := by
  have sz : its.size = ns.length := by simpa using IntsAre.length ii
  obtain ⟨z0, z1, z2⟩ := F.called_set.mro
  have y1 := F.called_set.made
  have y2 := F.called_set.sub
  apply wpAny_call
  apply codeAny_of_tree
  show wpAny _ _ (callAny (Value.type "set") _) _ _ s
  apply wpAny_pure
  refine ⟨Code.quiet_builtin _ (by decide +kernel), ?_⟩
  apply codeAny_builtin F.entry_type_call
  rw [Around.under_plain (weight_type_call_type "set" [Value.ref l] []) rfl]
  have y3 := F.called_set.notType
  have y4 := F.called_set.canCreate
  have y5 := F.typeCall_set_1 (Value.ref l)
  repeat (any_goals first | assumption | wp_step)
  apply codeAny_mono (code_set_led1 (Value.ref l) (E := E) (Q₁ := fun o t => o = Value.ref s.heap.objs.size ∧ t = { s with heap := s.heap.push (nOb w) }) ⟨rfl, rfl⟩)
  intro r t ht
  cases r with
  | error e => exact ht
  | ok fl =>
    cases fl with
    | ret o =>
      obtain ⟨rfl, rfl⟩ := ht
      have g0 : (s.heap.push (nOb w)).get? s.heap.objs.size = some (nOb w) := Heap.get?_push_size _ rfl
      have t0 : Shared.TypeIs { s with heap := s.heap.push (nOb w) } (Value.ref s.heap.objs.size) "set" := ⟨nOb w, g0, rfl⟩
      have x1 := F.called_set.init.lookup
      have x2 := F.called_set.init.bind (Value.ref s.heap.objs.size)
      repeat (any_goals first | assumption | wp_step)
      apply codeAny_mono (codeAny_call_builtin (R := wants (fun v t => v = Value.none ∧ ∃ g tk c, t = { s with heap := g, toks := tk } ∧ SetR w g s.heap.objs.size (fun j => decide (j ∈ ns)) c ∧ c ≤ ns.length ∧ ∀ b o, s.heap.get? b = some o → g.get? b = some o) E) F.called_set.init.plain F.entry_set_init (check_set_init_1 t0 ?_))
      · intro r t ht
        cases r with
        | error e => exact ht
        | ok fl =>
          cases fl with
          | ret v =>
            obtain ⟨rfl, g, tk, c, rfl, hS, hc, hk⟩ := ht
            repeat (any_goals first | assumption | wp_step)
            exact fin g tk c hS hc hk
          | _ => exact ht.elim
      · obtain ⟨⟨oc, od, odt, os⟩, eo, ec, nn, ed⟩ := il
        simp only at ec ed
        subst ec ed
        have eo1 : (s.heap.push (nOb w)).get? l = some { cls := .type "list", dict := od, data := .seq its nn, slots := os } := Heap.get?_push_of_some _ eo
        have w1 := F.sub_list_set
        have w2 := F.sub_list_frozenset
        have w3 : (Value.type "list" == Value.type "dict") = false := by decide
        have il1 : (s.heap.push (nOb w)).IsList l its := ⟨_, eo1, rfl, nn, rfl⟩
        unfold Builtin.«set.__init__»
        unfold noKeywords Builtin.Frozenset.updateFrom
        generalize hp : pyIter = pI
        wp_walk
        subst hp
        apply wpAny_pyIter_list il1
        apply wpAny_bind
        apply wpAny_runValue
        have ls : l < s.heap.objs.size := Heap.lt_size eo
        have h3 : A.in1.in1.in1.handled = none := by simp [hh]
        have e1 : (s.heap.push (nOb w)).objs.size = s.heap.objs.size + 1 := Heap.size_push ..
        have nI : l ≠ (s.heap.push (nOb w)).objs.size := by
          rw [e1]
          exact Nat.ne_of_lt (Nat.lt_succ_of_lt ls)
        have nS : s.heap.objs.size ∉ [(s.heap.push (nOb w)).objs.size, l] := by
          rw [e1]
          intro h
          rcases List.mem_cons.mp h with h | h
          · exact absurd h (Nat.ne_of_lt (Nat.lt_succ_self _))
          · rw [List.mem_singleton.mp h] at ls
            exact Nat.lt_irrefl _ ls
        have vals : ∀ (i : Nat) (v : Value), its[i]? = some v → ∃ k t, ns[i]? = some k ∧ v = .int k t := by
          intro i v hv
          have hi : i < ns.length := by rw [← sz]; exact (Array.getElem?_eq_some_iff.mp hv).1
          obtain ⟨t, e⟩ := IntsAre.int_at ii i v (by rw [Array.getElem?_toList]; exact hv)
          exact ⟨ns[i], t, List.getElem?_eq_getElem hi, by rw [e, List.getD_eq_getElem?_getD, List.getElem?_eq_getElem hi]; rfl⟩
        apply set_update_ints ((Walks.list h3 _ l nI its).toS) s.heap.objs.size nS ns sz few vals (its.size - 0) 0 _ (by omega) (Nat.zero_le _) ⟨⟨_, Heap.get?_push_size _ rfl, rfl, rfl⟩, il1.push _⟩
        · exact ⟨0, Nat.le_refl 0, setR_new_at (Heap.get?_push_of_some _ g0)⟩
        · intro t c hm hc hS
          obtain ⟨g, g2, d2, tk2, o2⟩ := t
          obtain rfl : g2 = s.gens := hm.gens
          obtain rfl : d2 = s.drawn := hm.drawn
          obtain rfl : o2 = s.os := hm.os
          show wpAny _ _ _ _ _ _
          apply wpAny_pure
          show wpAny _ _ (ret Value.none) _ _ _
          apply wpAny_pure
          refine ⟨rfl, g, tk2, c, rfl, hS, by omega, fun b o e => ?_⟩
          have lb : b < s.heap.objs.size := Heap.lt_size e
          refine hm.heap b o ?_ (Heap.get?_push_of_some _ (Heap.get?_push_of_some _ e))
          intro h
          rw [e1] at h
          rcases List.mem_cons.mp h with h | h
          · exact absurd h (Nat.ne_of_lt lb)
          · exact absurd (List.mem_singleton.mp h) (Nat.ne_of_lt (Nat.lt_succ_of_lt lb))
    | _ => exact ht.elim
end
section
variable {X : Cx} {ca : Cc} {W : WX} {e : Expr} {me : M}
def rSetOfI (K : PySem.W.Frag) (w : World) : List V → Hp → VK → Prop := fun xs H Q => ∃ (l : Addr) (ns : List Int), xs = [V.ref l] ∧ SqL K H l (ns.map V.int) ∧ ns.length < 64 ∧
  ∀ a c, H a = none → c ≤ ns.length → Q (.ref a) (upd H a (SetO w a (fun j => decide (j ∈ ns)) c))
theorem cr_setOfI (hc : X.calm = true) : CallR X (.type "set") (rSetOfI X.K X.w) := by
  intro pins s σ H xs us Q I r h
  obtain ⟨l, ns, rfl, hl, hf, q⟩ := h
  rw [Vals.ref1 r]
  obtain ⟨its, rv, pl, hz⟩ := I.list hl
  have hn : H s.heap.objs.size = none := I.hok.fresh (Nat.le_refl _)
  refine set_of_ints (P := X.prog) (w := X.w) ns (I.ok.hd hc) pl.isList (by simpa using ints_of_vals rv) (Nat.lt_trans (by omega : ns.length + 1 < 66) (by decide)) fun g tk c R hc k => ?_
  exact ⟨.ref s.heap.objs.size, upd H s.heap.objs.size (SetO X.w s.heap.objs.size (fun j => decide (j ∈ ns)) c), I.laid (t' := tk) k (Nat.le_refl _) (setO_new R), rfl, q _ c hn hc⟩
/-- sorted, each once -/
def insI (x : Int) : List Int → List Int
  | [] => [x]
  | y :: l => if x < y then x :: y :: l else if x = y then y :: l else y :: insI x l
def sdI : List Int → List Int
  | [] => []
  | x :: l => insI x (sdI l)
theorem mem_insI (z x : Int) : ∀ l, z ∈ insI x l ↔ z = x ∨ z ∈ l
  | [] => by simp [insI]
  | y :: l => by
    unfold insI
    split
    · simp
    · split
      · rename_i h; subst h; simp
      · rw [List.mem_cons, mem_insI z x l, List.mem_cons]
        constructor
        · rintro (h | h | h)
          · exact .inr (.inl h)
          · exact .inl h
          · exact .inr (.inr h)
        · rintro (h | h | h)
          · exact .inr (.inl h)
          · exact .inl h
          · exact .inr (.inr h)
theorem mem_sdI (z : Int) : ∀ l, z ∈ sdI l ↔ z ∈ l
  | [] => by simp [sdI]
  | x :: l => by
    show z ∈ insI x (sdI l) ↔ _
    rw [mem_insI, mem_sdI z l, List.mem_cons]
theorem srt_insI (x : Int) : ∀ l : List Int, l.Pairwise (· < ·) → (insI x l).Pairwise (· < ·)
  | [], _ => by simp [insI]
  | y :: l, h => by
    unfold insI
    have hy := (List.pairwise_cons.mp h).1
    split
    · rename_i hxy
      refine List.pairwise_cons.mpr ⟨fun z hz => ?_, h⟩
      rcases List.mem_cons.mp hz with e | e
      · omega
      · have := hy z e; omega
    · split
      · exact h
      · rename_i h1 h2
        refine List.pairwise_cons.mpr ⟨fun z hz => ?_, srt_insI x l (List.pairwise_cons.mp h).2⟩
        rcases (mem_insI z x l).mp hz with e | e
        · omega
        · exact hy z e
theorem srt_sdI : ∀ l, (sdI l).Pairwise (· < ·)
  | [] => List.Pairwise.nil
  | x :: l => srt_insI x _ (srt_sdI l)
theorem srt_uniqI : ∀ {a b : List Int}, a.Pairwise (· < ·) → b.Pairwise (· < ·) → (∀ z, z ∈ a ↔ z ∈ b) → a = b
  | [], [], _, _, _ => rfl
  | [], y :: b, _, _, h => by have := (h y).mpr (List.mem_cons_self ..); cases this
  | x :: a, [], _, _, h => by have := (h x).mp (List.mem_cons_self ..); cases this
  | x :: a, y :: b, ha, hb, h => by
    have xa := (List.pairwise_cons.mp ha).1
    have yb := (List.pairwise_cons.mp hb).1
    have e : x = y := by
      have h1 := (h x).mp (List.mem_cons_self ..)
      have h2 := (h y).mpr (List.mem_cons_self ..)
      rcases List.mem_cons.mp h1 with e | e
      · exact e
      · rcases List.mem_cons.mp h2 with e' | e'
        · exact e'.symm
        · have := yb x e; have := xa y e'; omega
    subst e
    rw [srt_uniqI (List.pairwise_cons.mp ha).2 (List.pairwise_cons.mp hb).2 fun z => ?_]
    constructor
    · intro hz
      rcases List.mem_cons.mp ((h z).mp (List.mem_cons_of_mem _ hz)) with e | e
      · have := xa z hz; omega
      · exact e
    · intro hz
      rcases List.mem_cons.mp ((h z).mpr (List.mem_cons_of_mem _ hz)) with e | e
      · have := yb z hz; omega
      · exact e
def intsZ : List PyData → Option (List Int)
  | [] => some []
  | .int i :: l => (intsZ l).map (i :: ·)
  | _ :: _ => none
theorem intsZ_eq : ∀ {ds : List PyData} {l : List Int}, intsZ ds = some l → ds = l.map PyData.int
  | [], l, h => by cases h; rfl
  | d :: ds, l, h => by
    cases d with
    | int i =>
      have h : (intsZ ds).map (i :: ·) = some l := h
      cases e : intsZ ds with
      | none => rw [e] at h; cases h
      | some m =>
        rw [e] at h
        cases h
        rw [intsZ_eq e]; rfl
    | _ => cases h
theorem intsZ_map : ∀ l : List Int, intsZ (l.map PyData.int) = some l
  | [] => rfl
  | i :: l => by
    show (intsZ (l.map PyData.int)).map (i :: ·) = _
    rw [intsZ_map l]; rfl
def setDI (d : PyData) : Out R := match d with
  | .list ds => match intsZ ds with
    | some l => if l.length < 64 then .ok ⟨.f, .list ((sdI l).map PyData.int)⟩ else .bad
    | none => .bad
  | _ => .bad
def mSortSetI (m : M) : M := fun α => (m α).bind fun x => setDI x.d
theorem w_sortSetI {α : En} {l : List Int} {k : Kd} (h1 : me α = .ok ⟨k, .list (l.map PyData.int)⟩) (h64 : l.length < 64) : mSortSetI me α = .ok ⟨.f, .list ((sdI l).map PyData.int)⟩ := by
  unfold mSortSetI
  rw [h1]
  show (match intsZ (l.map PyData.int) with
    | some l => if l.length < 64 then Out.ok (R.mk .f (.list ((sdI l).map PyData.int))) else .bad
    | none => .bad) = _
  rw [intsZ_map]
  exact if_pos h64
theorem DNs.toInts {N : Addr → Prop} {H : Hp} : ∀ {l : List Int} {ws : List V}, DNs X.K N H ws (l.map PyData.int) → ws = l.map V.int
  | [], _, h => by cases h; rfl
  | i :: l, _, h => by
    cases h with
    | cons x t => rw [DNs.toInts t]; cases x; rfl
theorem DNs.ofIZ {N : Addr → Prop} {H : Hp} : ∀ ns : List Int, DNs X.K N H (ns.map V.int) (ns.map PyData.int)
  | [] => .nil
  | i :: r => .cons (.int i) (DNs.ofIZ r)
theorem se_sortSetI {p1 p2 pos1 pos2 : Pos} (hc : X.calm = true) (hu : X.A.units + 64 < cLine) (hg1 : Gl X "sorted") (hm1 : X.mg "sorted" = none) (hg2 : Gl X "set") (hm2 : X.mg "set" = none) (he : SE X ca W e me)
    (hs1 : starEach [Expr.Call (.Name "set" p2) [e] [] pos2] X.env = (false, eval (Expr.Call (.Name "set" p2) [e] [] pos2) X.env) :: starEach [] X.env := by rfl)
    (hs2 : starEach [e] X.env = (false, eval e X.env) :: starEach [] X.env := by rfl) :
    SE X ca W (.Call (.Name "sorted" p1) [.Call (.Name "set" p2) [e] [] pos2] [] pos1) (mSortSetI me) := by
  have P1 : PE X (.Call (.Name "set" p2) [e] [] pos2) _ := pe_callTy (cr_setOfI hc) hg2 hm2 (by rfl) (pa_cons he pa_nil hs2) (by decide) (by decide) hs2 rfl
  have P2 := pe_callB (pos := pos1) (p := p1) (cr_sortedSet hc) hg1 hm1 (by rfl) (pa_cons P1 pa_nil hs1) (by decide) (by decide) hs1 rfl
  refine PE.imp P2 fun σ H Q q => ?_
  obtain ⟨H0, F, α, rel, q⟩ := q.go
  refine tS.seq (f := fun x => setDI x.d) rel PV.mono q fun rx x H1 s1 x1 rel1 q1 => ?_
  obtain ⟨k, d⟩ := rx
  cases d with
  | list ds =>
    have q1 : GO ca W σ (PV X.K (Nn F α σ) Q) (match intsZ ds with
      | some l => if l.length < 64 then Out.ok (R.mk .f (.list ((sdI l).map PyData.int))) else .bad
      | none => .bad) H1 := q1
    cases en : intsZ ds with
    | none => rw [en] at q1; exact q1.elim
    | some l =>
      rw [en] at q1
      have q1 : GO ca W σ (PV X.K (Nn F α σ) Q) (if l.length < 64 then Out.ok (R.mk .f (.list ((sdI l).map PyData.int))) else .bad) H1 := q1
      split at q1
      · rename_i h64
        obtain ⟨b, ws, rfl, hl, t⟩ := x1.rd.lst
        rw [intsZ_eq en] at t
        rw [DNs.toInts t] at hl
        show rSetOfI X.K X.w [V.ref b] H1 fun v H2 => rSortedSet X.w [v] H2 Q
        refine ⟨b, l, rfl, hl, h64, fun a c ha hcl => ?_⟩
        have sm : Same H1 (upd H1 a (SetO X.w a (fun j => decide (j ∈ l)) c)) := Same.new ha
        refine ⟨a, (fun j => decide (j ∈ l)), c, rfl, upd_same, by omega, fun ns p pw hm _ hp => ?_⟩
        have ens : ns = sdI l := srt_uniqI pw (srt_sdI l) fun z => by rw [hm, decide_eq_true_eq, mem_sdI]
        rw [ens]
        have n1 : RV X.K (Nn F α σ) (upd H1 a (SetO X.w a (fun j => decide (j ∈ l)) c)) (upd (upd H1 a (SetO X.w a (fun j => decide (j ∈ l)) c)) p (.lst ((sdI l).map V.int))) (.ref p) ⟨.f, .list ((sdI l).map PyData.int)⟩ := RV.newL hp (DNs.ofIZ _)
        exact q1 _ _ (sm.trans (Same.new hp)) (n1.earlier sm)
      · exact q1.elim
  | _ => exact q1.elim
end
end FS

/-! FtH: sorted(set(xs)), xs a list of at most four pairs of an int and a tuple of ints, of different hashes -/
namespace FS
open PySem PySem.Spec PyProof.Rows L2
/-- such a pair -/
abbrev Kp := Int × Nu
def kk (p : Kp) : PyData := .tuple [.int p.1, eN p.2]
def kN (p : Kp) : NestedKey := .tup [.num p.1, .tup (p.2.map .num)]
def kh (p : Kp) : Int := reduceHash (Builtin.Tuple.tupleHashOf [hashInt p.1, reduceHash (Builtin.Tuple.tupleHashOf (p.2.map hashInt))])
theorem hashes_num (w : World) : ∀ l : List Int, NestedKey.hashes w (l.map .num) = l.map hashInt
  | [] => by simp [NestedKey.hashes]
  | i :: l => by simp [NestedKey.hashes, NestedKey.hash, hashes_num w l]
theorem kN_hash (w : World) (p : Kp) : (kN p).hash w = kh p := by
  unfold kN kh
  simp only [NestedKey.hash, NestedKey.hashes, hashes_num]
theorem depth_num : ∀ l : List Int, NestedKey.depthAll (l.map .num) = 0
  | [] => by simp [NestedKey.depthAll]
  | i :: l => by simp [NestedKey.depthAll, NestedKey.depth, depth_num l]
theorem kN_depth (p : Kp) : (kN p).depth = 2 := by
  unfold kN
  simp [NestedKey.depth, NestedKey.depthAll, depth_num]
mutual
def noTx : NestedKey → Bool
  | .none => true
  | .num _ => true
  | .text _ => false
  | .tup ks => noTxs ks
def noTxs : List NestedKey → Bool
  | [] => true
  | k :: ks => noTx k && noTxs ks
end
theorem noTxs_num : ∀ l : List Int, noTxs (l.map .num) = true
  | [] => by simp [noTxs]
  | i :: l => by simp [noTxs, noTx, noTxs_num l]
theorem kN_noTx (p : Kp) : noTx (kN p) = true := by
  unfold kN
  simp [noTx, noTxs, noTxs_num]
section
variable {P : Program} {w : World} {A : Around} {E : Value → Shared → Prop} {s : Shared}
/-- asked whether its hash is told by its value, v says yes -/
def HB (P : Program) (w : World) (s : Shared) (n : Nat) (v : Value) : Prop := ∀ (A : Around) (E : Value → Shared → Prop) (Q : Bool → Shared → Prop), Q true s → wpAny (model P w) A (hashByValue n v) Q E s
theorem HB.yes {n : Nat} {v : Value} (e : hashByValue n v = pure true) : HB P w s n v := fun A E Q h => by rw [e]; exact wpAny_pure h
theorem HB.tup {n m : Nat} {b : Addr} {o : Obj} {its : Array Value} (ho : s.heap.get? b = some o) (hc : o.cls = .type "tuple") (hd : o.data = .seq its m) (hq : ∀ v ∈ its.toList, HB P w s n v) : HB P w s (n + 1) (.ref b) := fun A E Q h => by
  have ty : s.TypeIs (.ref b) "tuple" := ⟨o, ho, hc⟩
  unfold hashByValue
  apply wpAny_bind
  apply wpAny_specialOf ty F.slot_tuple_hash.lookup
  show wpAny _ _ (seqItems? (.ref b) >>= _) _ _ s
  apply wpAny_bind
  apply wpAny_seqItems ho hd
  apply wpAny_bind
  show wpAny _ _ (forIn its _ _) _ _ s
  rw [← Array.forIn_toList]
  apply wpAny_forIn_list _ (fun rest r t => r.1 = none ∧ t = s ∧ ∀ v ∈ rest, HB P w s n v)
  · intro v rest r t ⟨e1, e2, hall⟩
    subst e2
    apply wpAny_bind
    apply hall v List.mem_cons_self
    simp only [Bool.not_true, Bool.false_eq_true, if_false]
    exact wpAny_pure ⟨rfl, rfl, fun u z => hall u (List.mem_cons_of_mem _ z)⟩
  · intro r t ⟨e1, e2, _⟩
    subst e2
    obtain ⟨r1, r2⟩ := r
    simp only at e1
    subst e1
    exact wpAny_pure h
  · exact ⟨rfl, rfl, hq⟩
mutual
theorem hb_key : ∀ (k : NestedKey) (v : Value) (n : Nat), NestedIs s.heap k v → noTx k = true → k.depth ≤ n → HB P w s n v
  | .none, _, n, x, _, _ => by cases x; exact HB.yes (by cases n <;> rfl)
  | .num i, _, n, x, _, _ => by cases x <;> exact HB.yes (by cases n <;> rfl)
  | .text _, _, _, _, h, _ => by simp [noTx] at h
  | .tup ks, _, n, x, h, hn => by
    cases x with
    | tup e1 e2 e3 e4 =>
      simp only [NestedKey.depth] at hn
      simp only [noTx] at h
      cases n with
      | zero => exact absurd hn (Nat.not_succ_le_zero _)
      | succ n => exact HB.tup e1 e2 e3 (hb_keys ks _ n e4 h (Nat.le_of_succ_le_succ hn))
theorem hb_keys : ∀ (ks : List NestedKey) (vs : List Value) (n : Nat), NestedAll s.heap ks vs → noTxs ks = true → NestedKey.depthAll ks ≤ n → ∀ v ∈ vs, HB P w s n v
  | [], _, n, x, _, _, v, hv => by cases x; cases hv
  | k :: ks, _, n, x, h, hn, v, hv => by
    cases x with
    | cons a b =>
      simp only [NestedKey.depthAll] at hn
      simp only [noTxs, Bool.and_eq_true] at h
      rcases List.mem_cons.mp hv with e | e
      · rw [e]; exact hb_key k _ n a h.1 (Nat.le_trans (Nat.le_max_left _ _) hn)
      · exact hb_keys ks _ n b h.2 (Nat.le_trans (Nat.le_max_right _ _) hn) v e
end
/-! ### the set -/
abbrev Ka := Addr × Kp
/-- at a stands a set of these keys -/
structure NSet (hv : Kp → Int) (w : World) (h : Heap) (a : Addr) (L : List Ka) : Prop where
  ex : ∃ (es : Array (Int × Value)) (ep : Nat) (t : SetTable), (∃ o, h.get? a = some o ∧ o.ExactSet ∧ o.data = .set es ep t) ∧ es.toList = (L.map fun q => (hv q.2, Value.ref q.1)) ∧ TabOk t (L.map fun q => hv q.2) ∧
    t.plain = true ∧ (w.params.followText "set-order" = true ∨ t.led = true) ∧ t.mask = 7
variable {hv : Kp → Int}
theorem NSet.kept {h h' : Heap} {a : Addr} {L : List Ka} (R : NSet hv w h a L) (k : ∀ o, h.get? a = some o → h'.get? a = some o) : NSet hv w h' a L := by
  obtain ⟨es, ep, t, ⟨o, e1, e2⟩, r⟩ := R.ex
  exact ⟨es, ep, t, ⟨o, k o e1, e2⟩, r⟩
theorem NSet.new {h : Heap} {a : Addr} (e : h.get? a = some { cls := .type "set", dict := none, data := .set #[] 0 (.fresh 0 0 (!w.params.followText "set-order")) }) : NSet hv w h a [] := by
  refine ⟨#[], 0, .fresh 0 0 (!w.params.followText "set-order"), ⟨_, e, ⟨rfl, rfl, rfl⟩, rfl⟩, rfl, ⟨List.Pairwise.nil, rfl, rfl, .inl rfl, fun x z => (by cases z), fun i g j z => (by simp at z)⟩, rfl, ?_, rfl⟩
  show _ ∨ (!w.params.followText "set-order") = true
  cases w.params.followText "set-order" with
  | true => exact .inl rfl
  | false => exact .inr rfl
/-- nothing of its hash is there: the search comes to an empty slot -/
theorem n_search {a x : Addr} {es : Array (Int × Value)} {ep : Nat} {t : SetTable} {o : Obj} {L : List Ka} {p : Kp} {Q : SetFound → Shared → Prop} (e1 : s.heap.get? a = some o) (e2 : o.data = .set es ep t) (fits : t.fits es.size = true) (rows : es.toList = (L.map fun q => (hv q.2, Value.ref q.1)))
    (T : TabOk t (L.map fun q => hv q.2)) (m7 : t.mask = 7) (few : L.length < 4) (no : hv p ∉ L.map fun q => hv q.2)
    (fin : ∀ K, way t.mask (hv p) K ∉ t.place.toList → (∀ c, c < K → way t.mask (hv p) c ∈ t.place.toList) → Q (.free (way t.mask (hv p) K) false) s) : ∀ f : Nat, 0 < f → wpAny (model P w) A (setSearchFrom a (.ref x) (hv p) true f none) Q E s := by
  intro f hf
  obtain ⟨f, rfl⟩ : ∃ g, f = g + 1 := ⟨f - 1, by omega⟩
  obtain ⟨K, b1, b2, b3⟩ := T.first (by rw [List.length_map, m7]; omega) (hv p)
  rw [setSearchFrom_succ]
  apply wpAny_bind
  apply wpAny_setState_of e1 e2 fits
  dsimp only
  apply wp_if_neg (by unfold SetTable.gaveWay; rw [m7]; decide)
  try refine wpAny_bind (wpAny_pure ?_)
  have len : es.size = L.length := by
    have z := congrArg List.length rows
    rw [List.length_map] at z
    exact z
  rcases go_spec t T.ris T.dm (fun i => (es[i]?.map (·.1)).getD 0) (hv p) (10 * SetTable.turns t.mask) K (runAt t.mask (SetTable.bits (hv p) % (t.mask + 1)) (SetTable.bits (hv p))) rfl b1 b3 b2 with ⟨k, i, c1, c2, c3, c4, c5⟩ | ⟨c4, c5⟩
  · exfalso
    have hi : i < L.length := by
      have z := (List.getElem?_eq_some_iff.mp c2).1
      have y := T.sz
      rw [List.length_map] at y
      rw [Array.length_toList, y] at z
      exact z
    have ei : es[i]? = some (hv L[i].2, Value.ref L[i].1) := by
      rw [← Array.getElem?_toList, rows, List.getElem?_map, List.getElem?_eq_getElem hi]; rfl
    rw [ei] at c3
    refine no ?_
    rw [← show hv L[i].2 = hv p from c3]
    exact List.mem_map.mpr ⟨L[i], List.getElem_mem hi, rfl⟩
  · have pr : t.probe (fun i => (es[i]?.map (·.1)).getD 0) (hv p) ((none : Option SetTable.Probe).getD (t.probeStart (hv p))) = some (.empty (way t.mask (hv p) K) none) := c5
    rw [pr]
    dsimp only
    exact wpAny_pure (fin K b2 b3)
theorem ins_perm {α : Type} (L : List α) (n : Nat) (x : α) : (L.take n ++ x :: L.drop n).Perm (x :: L) := by
  have z : (L.take n ++ x :: L.drop n).Perm (x :: (L.take n ++ L.drop n)) := List.perm_middle
  rwa [List.take_append_drop] at z
/-- one more is put in -/
theorem n_add {a x : Addr} {L : List Ka} {p : Kp} {Q : Bool → Shared → Prop} (R : NSet hv w s.heap a L) (hx : NestedIs s.heap (kN p) (.ref x)) (few : L.length < 4) (no : hv p ∉ L.map fun q => hv q.2)
    (fin : ∀ h' L', Heap.SameBut a s.heap h' → NSet hv w h' a L' → L'.Perm ((x, p) :: L) → Q true { s with heap := h' }) : ∀ f : Nat, 0 < f → wpAny (model P w) A (setAddHashedIn a (.ref x) (hv p) f) Q E s := by
  intro f hf
  obtain ⟨f, rfl⟩ : ∃ g, f = g + 1 := ⟨f - 1, by omega⟩
  obtain ⟨es, ep, t, ⟨o, e1, e2, e3⟩, rows, T, pl, ld, m7⟩ := R.ex
  have len : es.size = L.length := by
    have z := congrArg List.length rows
    rw [List.length_map] at z
    exact z
  have tsz : t.place.size = L.length := by
    have z := T.sz
    rwa [List.length_map] at z
  have fits : t.fits es.size = true := by
    unfold SetTable.fits SetTable.fill
    rw [T.dm, Bool.and_eq_true, beq_iff_eq, decide_eq_true_eq, m7, len, tsz]
    exact ⟨rfl, by show L.length + 0 ≤ 7; omega⟩
  rw [setAddHashedIn_succ]
  apply wpAny_bind
  apply wpAny_setState_of e1 e3 fits
  dsimp only
  apply wp_if_neg (by simp [byScan, Value.scannable])
  try refine wpAny_bind (wpAny_pure ?_)
  apply wpAny_bind
  unfold setSearch
  refine n_search (x := x) e1 e3 fits rows T m7 few no (fun K b2 b3 => ?_) _ (by decide)
  dsimp only
  apply wpAny_bind
  apply wpAny_setState_of e1 e3 fits
  dsimp only
  obtain ⟨q1, q2, q3, q4, q5, q6, q7, q8, q9⟩ := T.put b2 b3
  have pl1 : (t.put (way t.mask (hv p) K)).1.plain = true := q6.trans pl
  generalize t.put (way t.mask (hv p) K) = pt at q1 q3 q4 q5 q6 q7 q8 q9 pl1 ⊢
  obtain ⟨t1, n⟩ := pt
  dsimp only at q1 q3 q4 q5 q6 q7 q8 q9 pl1 ⊢
  rw [← q1] at q2 q3
  clear q1
  have hb := hb_key (P := P) (w := w) (s := s) (kN p) (.ref x) 8 hx (kN_noTx p) (by rw [kN_depth]; decide)
  first
    | (apply wpAny_bind; apply wp_if_pos pl1; apply hb)
    | (apply wp_if_pos pl1; apply wpAny_bind; apply hb)
  simp only [if_true]
  have hin : (SetTable.insertAt es n (hv p, Value.ref x)).toList = ((L.take n ++ (x, p) :: L.drop n).map fun q => (hv q.2, Value.ref q.1)) := by
    rw [SetTable.toList_insertAt, rows, List.map_append, List.map_cons, List.map_take, List.map_drop]
  have hh : (L.take n ++ (x, p) :: L.drop n).map (fun q => hv q.2) = (L.map fun q => hv q.2).take n ++ hv p :: (L.map fun q => hv q.2).drop n := by
    rw [List.map_append, List.map_cons, List.map_take, List.map_drop]
  rw [← hh] at q3
  have pm := ins_perm L n (x, p)
  generalize L.take n ++ (x, p) :: L.drop n = L1 at hin hh q3 pm
  have len1 : L1.length = L.length + 1 := pm.length_eq
  have esz : (SetTable.insertAt es n (hv p, Value.ref x)).size = L.length + 1 := by
    have z := congrArg List.length hin
    rw [List.length_map, len1] at z
    exact z
  generalize SetTable.insertAt es n (hv p, Value.ref x) = es1 at hin esz ⊢
  apply wpAny_bind
  refine wpAny_storeSet_of e1 e3 ?_ (by rw [esz, sizeLine_eq]; omega)
  have sb : Heap.SameBut a s.heap (s.heap.update a (Obj.putSet es1 t1)) := Heap.SameBut.update ..
  have ob := store_at (es' := es1) (t' := t1) e1 e3
  generalize s.heap.update a (Obj.putSet es1 t1) = h1 at sb ob ⊢
  have nf : ¬ t1.tooFull = true := by
    unfold SetTable.tooFull
    rw [decide_eq_true_eq, q9, List.length_map, q4, m7]
    omega
  first
    | refine wp_if_neg (by simp [nf]) ?_
    | (apply wpAny_bind; refine wp_if_neg (by simp [nf]) ?_; apply wpAny_pure)
  exact wpAny_pure (fin h1 L1 sb ⟨es1, ep + 1, t1, ⟨_, ob, ⟨e2.1, e2.2.1, e2.2.2⟩, rfl⟩, hin, q3, pl1, by rw [q5]; exact ld, by rw [q4]; exact m7⟩ pm)
/-- the turns of set.update -/
theorem n_loop {I : Addr} {fp wr : List Addr} {G : Array GenState → Array GenState → Prop} {n : Nat} {Pv : Nat → Value → Prop} {St : Nat → Shared → Prop} {R : Result → Shared → Prop}
    (W : WalksS P w A.in1 I fp wr G n Pv St) (S : Addr) (hS : S ∉ fp) (ks : List Ka) (hn : n = ks.length) (h4 : ks.length ≤ 4) (vals : ∀ i v, Pv i v → ∃ p, ks[i]? = some p ∧ v = .ref p.1)
    (g0 : Heap) (hk : ∀ q ∈ ks, NestedIs g0 (kN q.2) (.ref q.1)) (nS : g0.get? S = none) (nw : ∀ b ∈ wr, g0.get? b = none) (nd : (ks.map fun q => hv q.2).Nodup) (hu : A.in1.units + 2 < cLine) (hw : ∀ p, (kN p).hash w = hv p) :
    ∀ (j i : Nat) (s : Shared), n - i = j → i ≤ n → St i s → (∀ b o, g0.get? b = some o → s.heap.get? b = some o) → (∃ L, NSet hv w s.heap S L ∧ L.Perm (ks.take i)) →
      (∀ s' L, Moved (S :: wr) G s s' → NSet hv w s'.heap S L → L.Perm ks → R (.ok (.ret .none)) s') →
      codeAny (model P w) A (.builtin "set.update.loop" ⟨[.ref S, .ref I], []⟩) R s := by
  have sw : S ∉ wr := fun z => hS (W.sub _ z)
  have up : ∀ b ∈ wr, b ∈ S :: wr := fun b z => List.mem_cons_of_mem _ z
  have stay : ∀ {s s' : Shared}, Moved wr G s s' → (∀ b o, g0.get? b = some o → s.heap.get? b = some o) → ∀ b o, g0.get? b = some o → s'.heap.get? b = some o := fun mv z b o e =>
    mv.heap b o (fun y => by rw [nw b y] at e; cases e) (z b o e)
  have key : ∀ {h : Heap}, (∀ b o, g0.get? b = some o → h.get? b = some o) → ∀ q ∈ ks, NestedIs h (kN q.2) (.ref q.1) := fun z q hq => NestedIs.at (fun b o _ _ e _ => z b o e) _ _ (hk q hq)
  intro j
  induction j with
  | zero =>
    intro i s ej hi st k0 ⟨L, hL, pL⟩ fin
    obtain rfl : i = n := by omega
    apply codeAny_builtin F.entry_set_update_loop
    rw [Around.under_plainId F.plain_set_update_loop _]
    show wpAny _ A.in1 (pyNext (.ref I) >>= _) _ _ s
    apply wpAny_bind
    apply W.done s _ _ st
    intro s' mv
    show wpAny _ A.in1 (ret Value.none) _ _ s'
    rw [hn, List.take_length] at pL
    exact wpAny_pure (fin s' L (mv.mono up) (hL.kept fun o e => mv.heap S o sw e) pL)
  | succ j ih =>
    intro i s ej hi st k0 ⟨L, hL, pL⟩ fin
    have lt : i < n := by omega
    apply codeAny_builtin F.entry_set_update_loop
    rw [Around.under_plainId F.plain_set_update_loop _]
    show wpAny _ A.in1 (pyNext (.ref I) >>= _) _ _ s
    apply wpAny_bind
    apply W.item i s _ _ lt st
    intro v s' pv st' mv
    obtain ⟨q, hq, rfl⟩ := vals i v pv
    have k1 := stay mv k0
    have hL1 : NSet hv w s'.heap S L := hL.kept fun o e => mv.heap S o sw e
    have hx := key k1 q (List.mem_of_getElem? hq)
    show wpAny _ A.in1 (holding [Value.ref q.1] (setAdd S (.ref q.1)) >>= _) _ _ s'
    apply wpAny_bind
    apply wpAny_holding
    unfold setAdd
    apply wpAny_holding
    apply wpAny_bind
    refine pyHash_key (kN q.2) (.ref q.1) A.in1 s' _ hx (Nat.lt_of_le_of_lt (Nat.add_le_add_left (Nat.le_of_eq (kN_depth q.2)) _) hu) ?_
    rw [hw]
    unfold setAddHashed
    apply wpAny_holding
    have tk : ks.take (i + 1) = ks.take i ++ [q] := by rw [List.take_succ, hq]; rfl
    have no : hv q.2 ∉ L.map fun r => hv r.2 := fun z => by
      have z2 := (pL.map fun r => hv r.2).mem_iff.mp z
      have nd2 : ((ks.take (i + 1)).map fun r => hv r.2).Nodup := (List.Sublist.map _ (List.take_sublist _ _)).nodup nd
      rw [tk, List.map_append] at nd2
      exact (List.nodup_append.mp nd2).2.2 _ z2 _ (List.mem_singleton.mpr rfl) rfl
    have lenL : L.length < 4 := by
      rw [pL.length_eq, List.length_take]
      omega
    refine n_add (s := { s' with toks := s'.toks + (kN q.2).draws }) hL1 hx lenL no (fun h' L' sb hL2 pm => ?_) _ (by decide)
    have k2 : ∀ b o, g0.get? b = some o → h'.get? b = some o := fun b o e => (sb.2 b fun z => by rw [z, nS] at e; cases e).trans (k1 b o e)
    have pm2 : L'.Perm (ks.take (i + 1)) := by
      rw [tk]
      exact pm.trans ((pL.cons q).trans (List.perm_append_singleton q _).symm)
    apply wpAny_pure
    refine ⟨plainId_quiet F.plain_set_update_loop _, ih (i + 1) _ (by omega) lt (W.frame _ s' _ _ st' (Nat.le_add_right _ _) fun b hb o e => ?_) k2 ⟨L', hL2, pm2⟩ fun s2 L2 mv2 hL3 pm3 => ?_⟩
    · rw [sb.2 b fun z : b = S => hS (z ▸ hb)]; exact e
    · refine fin s2 L2 (Moved.trans W.gtrans ((mv.mono up).then_heap (Nat.le_add_right _ _) fun b o hb e => ?_) mv2) hL3 pm3
      rw [sb.2 b fun z : b = S => hb (z ▸ List.mem_cons_self)]; exact e
end
end FS

/-! FtI: set(xs) and sorted of it, xs such keys; the rule -/
namespace FS
open PySem PySem.Spec PyProof.Rows L2
section
variable {P : Program} {w : World} {A : Around} {E : Value → Shared → Prop} {s : Shared} {hv : Kp → Int}
theorem set_of_keys {l : Addr} {its : Array Value} (ks : List Ka) {Q : Value → Shared → Prop} (hh : A.handled = none) (il : s.heap.IsList l its) (ii : its.toList = ks.map fun q => Value.ref q.1) (hk : ∀ q ∈ ks, NestedIs s.heap (kN q.2) (.ref q.1)) (h4 : ks.length ≤ 4)
    (nd : (ks.map fun q => hv q.2).Nodup) (hu : A.units + 5 < cLine) (hw : ∀ p, (kN p).hash w = hv p)
    (fin : ∀ (g : Heap) (tk : Nat) L, NSet hv w g s.heap.objs.size L → L.Perm ks → (∀ b o, s.heap.get? b = some o → g.get? b = some o) → Q (.ref s.heap.objs.size) { s with heap := g, toks := tk }) :
    wpAny (model P w) A (call (.type "set") [.ref l]) Q E s := by
  have sz : its.size = ks.length := by
    have z := congrArg List.length ii
    rw [List.length_map] at z
    exact z
  obtain ⟨z0, z1, z2⟩ := F.called_set.mro
  have y1 := F.called_set.made
  have y2 := F.called_set.sub
  apply wpAny_call
  apply codeAny_of_tree
  show wpAny _ _ (callAny (Value.type "set") _) _ _ s
  apply wpAny_pure
  refine ⟨Code.quiet_builtin _ (by decide +kernel), ?_⟩
  apply codeAny_builtin F.entry_type_call
  rw [Around.under_plain (weight_type_call_type "set" [Value.ref l] []) rfl]
  have y3 := F.called_set.notType
  have y4 := F.called_set.canCreate
  have y5 := F.typeCall_set_1 (Value.ref l)
  repeat (any_goals first | assumption | wp_step)
  apply codeAny_mono (code_set_led1 (Value.ref l) (E := E) (Q₁ := fun o t => o = Value.ref s.heap.objs.size ∧ t = { s with heap := s.heap.push (nOb w) }) ⟨rfl, rfl⟩)
  intro r t ht
  cases r with
  | error e => exact ht
  | ok fl =>
    cases fl with
    | ret o =>
      obtain ⟨rfl, rfl⟩ := ht
      have g0 : (s.heap.push (nOb w)).get? s.heap.objs.size = some (nOb w) := Heap.get?_push_size _ rfl
      have t0 : Shared.TypeIs { s with heap := s.heap.push (nOb w) } (Value.ref s.heap.objs.size) "set" := ⟨nOb w, g0, rfl⟩
      have x1 := F.called_set.init.lookup
      have x2 := F.called_set.init.bind (Value.ref s.heap.objs.size)
      repeat (any_goals first | assumption | wp_step)
      apply codeAny_mono (codeAny_call_builtin (R := wants (fun v t => v = Value.none ∧ ∃ g tk L, t = { s with heap := g, toks := tk } ∧ NSet hv w g s.heap.objs.size L ∧ L.Perm ks ∧ ∀ b o, s.heap.get? b = some o → g.get? b = some o) E) F.called_set.init.plain F.entry_set_init (check_set_init_1 t0 ?_))
      · intro r t ht
        cases r with
        | error e => exact ht
        | ok fl =>
          cases fl with
          | ret v =>
            obtain ⟨rfl, g, tk, L, rfl, hS, hp, kp⟩ := ht
            repeat (any_goals first | assumption | wp_step)
            exact fin g tk L hS hp kp
          | _ => exact ht.elim
      · obtain ⟨⟨oc, od, odt, os⟩, eo, ec, nn, ed⟩ := il
        simp only at ec ed
        subst ec ed
        have eo1 : (s.heap.push (nOb w)).get? l = some { cls := .type "list", dict := od, data := .seq its nn, slots := os } := Heap.get?_push_of_some _ eo
        have w1 := F.sub_list_set
        have w2 := F.sub_list_frozenset
        have w3 : (Value.type "list" == Value.type "dict") = false := by decide
        have il1 : (s.heap.push (nOb w)).IsList l its := ⟨_, eo1, rfl, nn, rfl⟩
        unfold Builtin.«set.__init__»
        unfold noKeywords Builtin.Frozenset.updateFrom
        generalize hp : pyIter = pI
        wp_walk
        subst hp
        apply wpAny_pyIter_list il1
        apply wpAny_bind
        apply wpAny_runValue
        have ls : l < s.heap.objs.size := Heap.lt_size eo
        have h3 : A.in1.in1.in1.handled = none := by simp [hh]
        have e1 : (s.heap.push (nOb w)).objs.size = s.heap.objs.size + 1 := Heap.size_push ..
        have nI : l ≠ (s.heap.push (nOb w)).objs.size := by
          rw [e1]
          exact Nat.ne_of_lt (Nat.lt_succ_of_lt ls)
        have nS : s.heap.objs.size ∉ [(s.heap.push (nOb w)).objs.size, l] := by
          rw [e1]
          intro h
          rcases List.mem_cons.mp h with h | h
          · exact absurd h (Nat.ne_of_lt (Nat.lt_succ_self _))
          · rw [List.mem_singleton.mp h] at ls
            exact Nat.lt_irrefl _ ls
        have vals : ∀ (i : Nat) (v : Value), its[i]? = some v → ∃ p, ks[i]? = some p ∧ v = .ref p.1 := by
          intro i v hv
          rw [← Array.getElem?_toList, ii, List.getElem?_map] at hv
          obtain ⟨p, e2, e3⟩ := Option.map_eq_some_iff.mp hv
          exact ⟨p, e2, e3.symm⟩
        have gone : ∀ b, s.heap.objs.size ≤ b → s.heap.get? b = none := fun b hb => by
          cases q : s.heap.get? b with
          | none => rfl
          | some o => exact absurd (Heap.lt_size q) (Nat.not_lt.mpr hb)
        apply n_loop ((Walks.list h3 _ l nI its).toS) s.heap.objs.size nS ks sz h4 vals s.heap hk (gone _ (Nat.le_refl _)) (fun b hb => gone b (by rw [List.mem_singleton.mp hb, e1]; exact Nat.le_succ _)) nd (by
          show A.in1.in1.in1.units + 2 < cLine
          simp only [Around.in1_units]
          omega) hw (its.size - 0) 0 _ (by omega) (Nat.zero_le _) ⟨⟨_, Heap.get?_push_size _ rfl, rfl, rfl⟩, il1.push _⟩ (fun b o e => Heap.get?_push_of_some _ (Heap.get?_push_of_some _ e))
        · exact ⟨[], NSet.new (Heap.get?_push_of_some _ g0), List.Perm.refl _⟩
        · intro t L hm hS pm
          obtain ⟨g, g2, d2, tk2, o2⟩ := t
          obtain rfl : g2 = s.gens := hm.gens
          obtain rfl : d2 = s.drawn := hm.drawn
          obtain rfl : o2 = s.os := hm.os
          show wpAny _ _ _ _ _ _
          apply wpAny_pure
          show wpAny _ _ (ret Value.none) _ _ _
          apply wpAny_pure
          refine ⟨rfl, g, tk2, L, rfl, hS, pm, fun b o e => ?_⟩
          have lb : b < s.heap.objs.size := Heap.lt_size e
          refine hm.heap b o ?_ (Heap.get?_push_of_some _ (Heap.get?_push_of_some _ e))
          intro h
          rw [e1] at h
          rcases List.mem_cons.mp h with h | h
          · exact absurd h (Nat.ne_of_lt lb)
          · exact absurd (List.mem_singleton.mp h) (Nat.ne_of_lt (Nat.lt_succ_of_lt lb))
    | _ => exact ht.elim
/-! ### the order -/
def kLe (p q : Kp) : Bool := decide (p.1 < q.1) || (decide (p.1 = q.1) && decide (p.2 ≤ q.2))
def ksort (l : List Kp) : List Kp := l.mergeSort kLe
theorem alike_eN (a b : Nu) : PySem.W.alike (eN a) (eN b) = true := by
  unfold eN
  simp only [PySem.W.alike]
  exact PySem.W.alike_ints a b
theorem alike_kk (p q : Kp) : PySem.W.alike (kk p) (kk q) = true := by
  unfold kk
  simp only [PySem.W.alike, PySem.W.alikeAll, alike_eN, Bool.and_self]
theorem depth_kk (p : Kp) : (kk p).depth ≤ 60 := by
  unfold kk eN
  simp only [PyData.depth, PyData.depthAll, PySem.W.depth_ints]
  decide
theorem lt_eN (a b : Nu) : PySem.W.dataLt (eN a) (eN b) = decide (a < b) := by
  unfold eN
  rw [PySem.W.dataLt_tuple]
  exact PySem.W.dataLt_ints a b
theorem le_kk (p q : Kp) : PySem.W.dataLe false kk p q = kLe p q := by
  show (!PySem.W.dataLt (kk q) (kk p)) = _
  have e : PySem.W.dataLt (kk q) (kk p) = (decide (q.1 < p.1) || (decide (q.1 = p.1) && decide (q.2 < p.2))) := by
    unfold kk
    rw [PySem.W.dataLt_pair (by simp [PySem.W.alike]) (alike_eN _ _), PySem.W.dataLt_int, eqv_eN, lt_eN]
    have z : PyData.eqv (.int q.1) (.int p.1) = decide (q.1 = p.1) := by simp only [PyData.eqv]; exact Bool.beq_eq_decide_eq _ _
    rw [z]
    by_cases h : q.1 = p.1
    · by_cases h2 : q.2 = p.2
      · simp [h, h2, List.lt_irrefl]
      · simp [h, h2]
    · simp [h]
  rw [e]
  unfold kLe
  rcases Int.lt_trichotomy p.1 q.1 with h | h | h
  · have h1 : ¬ q.1 < p.1 := by omega
    have h2 : ¬ q.1 = p.1 := by omega
    simp [h, h1, h2]
  · by_cases g : q.2 < p.2
    · have g2 : ¬ p.2 ≤ q.2 := List.not_le.mpr g
      simp [h, g, g2]
    · have g2 : p.2 ≤ q.2 := List.not_lt.mp g
      simp [h, g, g2]
  · have h1 : ¬ p.1 < q.1 := by omega
    have h2 : ¬ p.1 = q.1 := by omega
    simp [h, h1, h2]
theorem kLe_trans (a b c : Kp) (h : kLe a b = true) (h' : kLe b c = true) : kLe a c = true := by
  unfold kLe at *
  simp only [Bool.or_eq_true, Bool.and_eq_true, decide_eq_true_eq] at *
  rcases h with h | ⟨h, g⟩ <;> rcases h' with h' | ⟨h', g'⟩
  · exact .inl (by omega)
  · exact .inl (by omega)
  · exact .inl (by omega)
  · exact .inr ⟨by omega, List.le_trans g g'⟩
theorem kLe_total (a b : Kp) : (kLe a b || kLe b a) = true := by
  unfold kLe
  simp only [Bool.or_eq_true, Bool.and_eq_true, decide_eq_true_eq]
  rcases Int.lt_trichotomy a.1 b.1 with h | h | h
  · exact .inl (.inl h)
  · rcases List.le_total a.2 b.2 with g | g
    · exact .inl (.inr ⟨h, g⟩)
    · exact .inr (.inr ⟨h.symm, g⟩)
  · exact .inr (.inl h)
theorem kLe_anti {a b : Kp} (h : kLe a b = true) (h' : kLe b a = true) : a = b := by
  unfold kLe at *
  simp only [Bool.or_eq_true, Bool.and_eq_true, decide_eq_true_eq] at *
  rcases h with h | ⟨h, g⟩ <;> rcases h' with h' | ⟨h', g'⟩
  · omega
  · omega
  · omega
  · exact Prod.ext h (List.le_antisymm g g')
theorem ksort_perm {l m : List Kp} (h : l.Perm m) : ksort l = ksort m :=
  List.Perm.eq_of_pairwise (fun a b _ _ h1 h2 => kLe_anti h1 h2) (List.pairwise_mergeSort kLe_trans kLe_total l) (List.pairwise_mergeSort kLe_trans kLe_total m) ((List.mergeSort_perm _ _).trans (h.trans (List.mergeSort_perm _ _).symm))
theorem reads_ints {h : Heap} : ∀ {ns : List Int} {us : List Value} {as : List Addr}, ReadsAll h us (ns.map PyData.int) as → as = []
  | [], _, _, r => by
    have r : ReadsAll h _ [] _ := r
    cases r; rfl
  | n :: ns, _, _, r => by
    have r : ReadsAll h _ (.int n :: ns.map PyData.int) _ := r
    cases r with
    | cons a b => cases a; rw [reads_ints b]; rfl
theorem reads_kk {h : Heap} {p : Kp} {u : Value} {as : List Addr} (r : Reads h u (kk p) as) : as = [] := by
  have r : Reads h u (.tuple [.int p.1, .tuple (p.2.map PyData.int)]) as := r
  cases r with
  | @tuple _ _ vs _ _ _ _ _ _ t =>
    generalize vs.toList = us at t
    cases t with
    | cons a b =>
      cases a
      cases b with
      | cons c d =>
        cases d
        cases c with
        | tuple _ _ _ t2 => rw [reads_ints t2]; rfl
/-- sorted of the set -/
theorem sorted_keys {a : Addr} {L : List Ka} {Q : Value → Shared → Prop} (R : NSet hv w s.heap a L) (hh : A.handled = none) (h4 : L.length ≤ 4) (rd : ∀ q ∈ L, ∃ as, Reads s.heap (.ref q.1) (kk q.2) as) (hu : A.units + 64 < cLine)
    (fin : ∀ s' p (out : List Value) (c : Nat) (L' : List Ka), (∀ b o, s.heap.get? b = some o → s'.heap.get? b = some o) → s'.gens = s.gens → s'.os = s.os → s.heap.objs.size ≤ p →
      s'.heap.get? p = some (seqObj "list" out.toArray c) → out = L'.map (fun q => Value.ref q.1) → (∀ q ∈ L', q ∈ L) → L'.map (·.2) = ksort (L.map (·.2)) → Q (.ref p) s') : wpAny (model P w) A (call (.builtin "sorted") [.ref a]) Q E s := by
  obtain ⟨es, ep, t, ⟨o, e1, e2, e3⟩, rows, T, pl, ld, m7⟩ := R.ex
  have len : es.size = L.length := by
    have z := congrArg List.length rows
    rw [List.length_map] at z
    exact z
  have tsz : t.place.size = L.length := by
    have z := T.sz
    rwa [List.length_map] at z
  have fits : t.fits es.size = true := by
    unfold SetTable.fits SetTable.fill
    rw [T.dm, Bool.and_eq_true, beq_iff_eq, decide_eq_true_eq, m7, len, tsz]
    exact ⟨rfl, by show L.length + 0 ≤ 7; omega⟩
  apply Calls.call_function_entry kind_sorted plain_sorted entry_sorted (args_sorted1 _)
  unfold Builtin.«sorted»
  apply wpAny_bind (m := checkCount "sorted" 1 1 _)
  apply wpAny_pure
  apply wpAny_bind
  refine collect_set (A := A.in1) hh ⟨o, e1, e2.1, e3⟩ fits (by unfold scanBound; omega) T.ris ld fun s1 vs k1 hz g1 o1 pm => ?_
  have ev : es.toList.map (·.2) = L.map fun q => Value.ref q.1 := by rw [rows, List.map_map]; rfl
  rw [ev] at pm
  obtain ⟨bs, eb, pb⟩ : ∃ bs : List Ka, vs = bs.map (fun q => Value.ref q.1) ∧ bs.Perm L := by
    clear ev k1 hz g1 o1
    have key : ∀ (us : List Value) (M : List Ka), us.Perm (M.map fun q => Value.ref q.1) → ∃ bs : List Ka, us = bs.map (fun q => Value.ref q.1) ∧ bs.Perm M := by
      intro us
      induction us with
      | nil =>
        intro M hM
        have z := hM.symm.eq_nil
        rw [List.map_eq_nil_iff] at z
        exact ⟨[], rfl, by rw [z]⟩
      | cons u us ih =>
        intro M hM
        obtain ⟨q, hq, eq⟩ := List.mem_map.mp (hM.mem_iff.mp List.mem_cons_self)
        obtain ⟨M1, M2, rfl⟩ := List.append_of_mem hq
        have pm2 : (u :: us).Perm (u :: (M1 ++ M2).map fun q => Value.ref q.1) := by
          refine hM.trans ?_
          rw [List.map_append, List.map_cons, eq, List.map_append]
          exact List.perm_middle
        obtain ⟨bs, e2, p2⟩ := ih (M1 ++ M2) (List.Perm.cons_inv pm2)
        exact ⟨q :: bs, by rw [List.map_cons, eq, e2], (p2.cons q).trans List.perm_middle.symm⟩
    exact key vs L pm
  have lb : bs.length ≤ 4 := by rw [pb.length_eq]; exact h4
  have lv : vs.length = bs.length := by rw [eb, List.length_map]
  apply wpAny_bind
  refine wpAny_newList ?_ (by rw [lv, sizeLine_eq]; omega)
  have oL : (s1.heap.push (seqObj "list" vs.toArray 0)).get? s1.heap.objs.size = some (seqObj "list" vs.toArray 0) := Heap.get?_push_size _ rfl
  have each : ∀ cs : List Ka, PySem.W.EachIs (fun v (q : Ka) => v = Value.ref q.1) (cs.map fun q => Value.ref q.1) cs := by
    intro cs
    induction cs with
    | nil => exact .nil
    | cons c cs ih => exact .cons rfl ih
  have reads : ∀ cs : List Ka, (∀ q ∈ cs, q ∈ L) → PySem.W.EachIs (fun v (q : Ka) => ∃ as, Reads (s1.heap.push (seqObj "list" vs.toArray 0)) v (kk q.2) as ∧ s1.heap.objs.size ∉ as) (cs.map fun q => Value.ref q.1) cs := by
    intro cs
    induction cs with
    | nil => intro _; exact .nil
    | cons c cs ih =>
      intro hc
      refine .cons ?_ (ih fun q hq => hc q (List.mem_cons_of_mem _ hq))
      obtain ⟨as, r⟩ := rd c (hc c List.mem_cons_self)
      have r1 := PyProof.Rows.Reads.keeps k1 r
      have below : s1.heap.objs.size ∉ as := by rw [reads_kk r1]; exact fun z => nomatch z
      exact ⟨as, PyProof.Rows.Reads.keeps (fun b u e => Heap.get?_push_of_some _ e) r1, below⟩
  apply wpAny_bind
  apply wpAny_holding
  refine PySem.W.list_sort_data (s := { s1 with heap := s1.heap.push (seqObj "list" vs.toArray 0) }) (enc := fun q : Ka => kk q.2) (bs := bs) (R := fun v (q : Ka) => v = Value.ref q.1) oL (by rw [eb]; exact each bs) (by rw [eb]; exact eb ▸ reads bs fun q hq => pb.mem_iff.mp hq)
    (PySem.W.AllAlike.of fun b b' => alike_kk _ _) (PySem.W.Sortable.tuples fun b => ⟨_, _, rfl⟩) (by rw [sizeLine_eq]; omega) (fun b _ => by
      have := depth_kk b.2
      show A.in1.units + 1 + (kk b.2).depth < cLine
      rw [Around.in1_units]
      omega) fun out h1 h2 => ?_
  obtain ⟨c, hc⟩ := sortedHeap_at (vs := vs) (out := out.toArray) oL
  apply wpAny_pure
  have eo : ∀ {us : List Value} {cs : List Ka}, PySem.W.EachIs (fun v (q : Ka) => v = Value.ref q.1) us cs → us = cs.map fun q => Value.ref q.1 := by
    intro us cs h
    induction h with
    | nil => rfl
    | cons a b ih => rw [List.map_cons, ← ih, a]
  refine ⟨_, rfl, fin _ s1.heap.objs.size out c (bs.mergeSort (PySem.W.dataLe false fun q : Ka => kk q.2)) (fun b u e => ?_) g1 o1 hz hc (eo h2) (fun q hq => pb.mem_iff.mp ((List.mergeSort_perm _ _).mem_iff.mp hq)) ?_⟩
  · have q := k1 b u e
    have lt := Heap.lt_size q
    show (sortedHeap (s1.heap.push (seqObj "list" vs.toArray 0)) s1.heap.objs.size vs out.toArray).get? b = some u
    rw [sortedHeap_old (Nat.ne_of_lt lt) (by rw [size_push']; exact Nat.lt_succ_of_lt lt)]
    exact Heap.get?_push_of_some _ q
  · have m := List.map_mergeSort (r := PySem.W.dataLe false fun q : Ka => kk q.2) (s := kLe) (f := fun q : Ka => q.2) (l := bs) (fun a _ b _ => le_kk a.2 b.2)
    rw [m]
    exact ksort_perm (pb.map _)
end
end FS

/-! FtJ: the rule of sorted(set(xs)), xs pairs of an int and a tuple of ints -/
namespace FS
open PySem PySem.Spec PyProof.Rows L2
def kkOf : PyData → Option Kp
  | .tuple [.int n, .tuple ds] => (intsOf ds).map fun a => (n, a)
  | _ => none
theorem kkOf_eq {d : PyData} {p : Kp} (h : kkOf d = some p) : d = kk p := by
  unfold kkOf at h
  split at h
  · rename_i n ds
    obtain ⟨a, e1, e2⟩ := Option.map_eq_some_iff.mp h
    rw [← e2, intsOf_eq e1]; rfl
  · cases h
theorem kkOf_kk (p : Kp) : kkOf (kk p) = some p := by
  show (intsOf (p.2.map PyData.int)).map (fun a => (p.1, a)) = _
  rw [intsOf_map]; rfl
def kksOf : List PyData → Option (List Kp)
  | [] => some []
  | d :: ds => match kkOf d, kksOf ds with
    | some a, some l => some (a :: l)
    | _, _ => none
theorem kksOf_eq : ∀ {ds : List PyData} {l : List Kp}, kksOf ds = some l → ds = l.map kk
  | [], l, h => by cases h; rfl
  | d :: ds, l, h => by
    unfold kksOf at h
    cases e1 : kkOf d with
    | none => rw [e1] at h; cases h
    | some a =>
      cases e2 : kksOf ds with
      | none => rw [e1, e2] at h; cases h
      | some m => rw [e1, e2] at h; cases h; rw [kkOf_eq e1, kksOf_eq e2]; rfl
theorem kksOf_map : ∀ l : List Kp, kksOf (l.map kk) = some l
  | [] => rfl
  | a :: l => by
    show (match kkOf (kk a), kksOf (l.map kk) with | some a, some l => some (a :: l) | _, _ => none) = _
    rw [kkOf_kk, kksOf_map l]
def kOk (l : List Kp) : Prop := l.length ≤ 4 ∧ (l.map kh).Nodup
instance (l : List Kp) : Decidable (kOk l) := inferInstanceAs (Decidable (_ ∧ _))
def setDK (d : PyData) : Out R := match d with
  | .list ds => match kksOf ds with
    | some l => if kOk l then .ok ⟨.f, .list ((ksort l).map kk)⟩ else .bad
    | none => .bad
  | _ => .bad
def mSortSetK (m : M) : M := fun α => (m α).bind fun x => setDK x.d
section
variable {X : Cx} {ca : Cc} {W : WX} {e : Expr} {me : M}
theorem w_sortSetK {α : En} {l : List Kp} {k : Kd} (h1 : me α = .ok ⟨k, .list (l.map kk)⟩) (h2 : kOk l) : mSortSetK me α = .ok ⟨.f, .list ((ksort l).map kk)⟩ := by
  unfold mSortSetK
  rw [h1]
  show (match kksOf (l.map kk) with
    | some l => if kOk l then Out.ok (R.mk .f (.list ((ksort l).map kk))) else .bad
    | none => .bad) = _
  rw [kksOf_map]
  exact if_pos h2
/-- x is such a pair, in the heap -/
def KA (K : PySem.W.Frag) (H : Hp) (q : Ka) : Prop := ∃ b, SqT K H q.1 [.int q.2.1, .ref b] ∧ SqT K H b (q.2.2.map V.int)
theorem KA.of_dn {N : Addr → Prop} {H : Hp} {v : V} {p : Kp} (h : DN X.K N H v (kk p)) : ∃ a, v = .ref a ∧ KA X.K H (a, p) := by
  cases (show DN X.K N H v (.tuple [.int p.1, eN p.2]) from h) with
  | tup q t =>
    cases t with
    | cons a b =>
      cases a
      cases b with
      | cons c d =>
        cases d
        cases (show DN X.K N H _ (.tuple (p.2.map PyData.int)) from c) with
        | tup q2 t2 =>
          rw [t2.ints] at q2
          exact ⟨_, rfl, _, q, q2⟩
theorem KA.dn {N : Addr → Prop} {H : Hp} {q : Ka} (h : KA X.K H q) : DN X.K N H (.ref q.1) (kk q.2) := by
  obtain ⟨b, h1, h2⟩ := h
  exact .tup h1 (.cons (.int _) (.cons (.tup h2 (DNs.ofIZ _)) .nil))
theorem KA.same {H H' : Hp} {q : Ka} (s : Same H H') (h : KA X.K H q) : KA X.K H' q := by
  obtain ⟨b, h1, h2⟩ := h
  exact ⟨b, SqT.mono (fun ys z => s _ _ z) (fun o ys z => s _ _ z) h1, SqT.mono (fun ys z => s _ _ z) (fun o ys z => s _ _ z) h2⟩
theorem nested_nums {h : Heap} : ∀ {ns : List Int} {us : List Value}, Vals (ns.map V.int) us → NestedAll h (ns.map .num) us
  | [], _, .nil => .nil
  | n :: ns, _, .cons r t => by
    obtain ⟨tk, rfl⟩ := r
    exact .cons (.int n tk) (nested_nums t)
theorem KA.nested {pins : List (Addr × Obj)} {σ : L2.St} {H : Hp} {s : Shared} {q : Ka} (I : Inv X pins σ H s) (h : KA X.K H q) : NestedIs s.heap (kN q.2) (.ref q.1) := by
  obtain ⟨b, h1, h2⟩ := h
  obtain ⟨its, r, ⟨o, ho, hc, n, hd⟩, _⟩ := I.tuple h1
  obtain ⟨its2, r2, ⟨o2, ho2, hc2, n2, hd2⟩, _⟩ := I.tuple h2
  refine .tup ho hc hd ?_
  cases r with
  | cons a b1 =>
    cases b1 with
    | cons c d =>
      cases d
      obtain ⟨tk, rfl⟩ := a
      cases c
      exact .cons (.int _ tk) (.cons (.tup ho2 hc2 hd2 (by simpa using nested_nums r2)) .nil)
theorem ka_list {N : Addr → Prop} {H : Hp} : ∀ {l : List Kp} {ws : List V}, DNs X.K N H ws (l.map kk) → ∃ ks : List Ka, ws = ks.map (fun p => V.ref p.1) ∧ ks.map (·.2) = l ∧ ∀ q ∈ ks, KA X.K H q
  | [], _, h => by cases h; exact ⟨[], rfl, rfl, fun p z => by simp at z⟩
  | p :: l, _, h => by
    cases h with
    | cons x t =>
      obtain ⟨ks, e1, e2, e3⟩ := ka_list t
      obtain ⟨a, rfl, k⟩ := KA.of_dn x
      refine ⟨(a, p) :: ks, by rw [e1]; rfl, by rw [List.map_cons, e2], fun q z => ?_⟩
      rcases List.mem_cons.mp z with z | z
      · rw [z]; exact k
      · exact e3 q z
theorem ka_dns {N : Addr → Prop} {H : Hp} : ∀ {ks : List Ka}, (∀ q ∈ ks, KA X.K H q) → DNs X.K N H (ks.map fun p => V.ref p.1) ((ks.map (·.2)).map kk)
  | [], _ => .nil
  | q :: ks, h => .cons (h q List.mem_cons_self).dn (ka_dns fun r z => h r (List.mem_cons_of_mem _ z))
theorem ka_refs : ∀ {ks : List Ka} {us : List Value}, Vals (ks.map fun p => V.ref p.1) us → us = ks.map fun p => Value.ref p.1
  | [], _, .nil => rfl
  | p :: ks, _, .cons r t => by cases r; rw [ka_refs t]; rfl
theorem ka_vals : ∀ ks : List Ka, Vals (ks.map fun p => V.ref p.1) (ks.map fun p => Value.ref p.1)
  | [] => .nil
  | p :: ks => .cons rfl (ka_vals ks)
def SetKO (w : World) (a : Addr) (L : List Ka) : HO := .ext fun h => NSet kh w h a L
def rSetK (K : PySem.W.Frag) (w : World) : List V → Hp → VK → Prop := fun xs H Q => ∃ (l : Addr) (ks : List Ka), xs = [V.ref l] ∧ SqL K H l (ks.map fun p => V.ref p.1) ∧ (∀ q ∈ ks, KA K H q) ∧ kOk (ks.map (·.2)) ∧
  ∀ a L, H a = none → L.Perm ks → Q (.ref a) (upd H a (SetKO w a L))
theorem cr_setK (hc : X.calm = true) (hu : X.A.units + 64 < cLine) : CallR X (.type "set") (rSetK X.K X.w) := by
  intro pins s σ H xs us Q I r h
  obtain ⟨l, ks, rfl, hl, hk, ⟨h4, nd⟩, q⟩ := h
  rw [Vals.ref1 r]
  obtain ⟨its, rv, pl, hz⟩ := I.list hl
  have hn : H s.heap.objs.size = none := I.hok.fresh (Nat.le_refl _)
  rw [List.map_map] at nd
  refine set_of_keys (P := X.prog) (w := X.w) ks (I.ok.hd hc) pl.isList (by simpa using ka_refs rv) (fun q hq => (hk q hq).nested I) (by rw [List.length_map] at h4; exact h4) nd (by omega) (kN_hash X.w) fun g tk L R pm k => ?_
  refine ⟨.ref s.heap.objs.size, upd H s.heap.objs.size (SetKO X.w s.heap.objs.size L), I.laid (t' := tk) k (Nat.le_refl _) ⟨R, ?_, fun h1 h2 p e => NSet.kept p e⟩, rfl, q _ L hn pm⟩
  obtain ⟨_, _, _, ⟨o, e1, _⟩, _⟩ := R.ex
  exact ⟨o, e1⟩
def rSortedK (K : PySem.W.Frag) (w : World) : List V → Hp → VK → Prop := fun vs H Q => ∃ (a : Addr) (L : List Ka), vs = [V.ref a] ∧ H a = some (SetKO w a L) ∧ (∀ q ∈ L, KA K H q) ∧ L.length ≤ 4 ∧
  ∀ (L' : List Ka) (p : Addr), (∀ q ∈ L', q ∈ L) → L'.map (·.2) = ksort (L.map (·.2)) → H p = none → Q (.ref p) (upd H p (.lst (L'.map fun q => V.ref q.1)))
theorem cr_sortedK (hc : X.calm = true) (hu : X.A.units + 64 < cLine) : CallR X (.builtin "sorted") (rSortedK X.K X.w) := by
  intro pins s σ H vs us Q I r h
  obtain ⟨a, L, rfl, ha, hk, h4, q⟩ := h
  have R : NSet kh X.w s.heap a L := (I.hok a _ ha).1
  rw [Vals.ref1 r]
  refine sorted_keys R (I.ok.hd hc) h4 (fun q hq => Dp.reads I _ _ _ ((hk q hq).dn (N := fun _ => False)).dp rfl) (by omega) fun s' p out c L' k g o hp hg eo sub es => ?_
  have hn : H p = none := I.hok.fresh hp
  have l4 : L'.length ≤ 4 := by
    have z := congrArg List.length es
    unfold ksort at z
    rw [List.length_map, List.length_mergeSort, List.length_map] at z
    omega
  have J : Inv X pins σ (upd H p (.lst (L'.map fun q => V.ref q.1))) { s with heap := s'.heap, gens := s'.gens, drawn := s'.drawn, toks := s'.toks } :=
    I.call (ch := []) (Un.laid k hp hn) (I.hok.laid k hp ⟨by rw [List.length_map, sizeLine_eq]; omega, out, c, by rw [eo]; exact ka_vals L', hg⟩) (by rw [g]; exact I.bare) (fun _ z => nomatch z)
  have e : s' = { s with heap := s'.heap, gens := s'.gens, drawn := s'.drawn, toks := s'.toks } := by
    cases s'; cases s; cases o; rfl
  rw [e]
  exact ⟨.ref p, _, J, rfl, q L' p sub es hn⟩
theorem se_sortSetK {p1 p2 pos1 pos2 : Pos} (hc : X.calm = true) (hu : X.A.units + 64 < cLine) (hg1 : Gl X "sorted") (hm1 : X.mg "sorted" = none) (hg2 : Gl X "set") (hm2 : X.mg "set" = none) (he : SE X ca W e me)
    (hs1 : starEach [Expr.Call (.Name "set" p2) [e] [] pos2] X.env = (false, eval (Expr.Call (.Name "set" p2) [e] [] pos2) X.env) :: starEach [] X.env := by rfl)
    (hs2 : starEach [e] X.env = (false, eval e X.env) :: starEach [] X.env := by rfl) :
    SE X ca W (.Call (.Name "sorted" p1) [.Call (.Name "set" p2) [e] [] pos2] [] pos1) (mSortSetK me) := by
  have P1 : PE X (.Call (.Name "set" p2) [e] [] pos2) _ := pe_callTy (cr_setK hc hu) hg2 hm2 (by rfl) (pa_cons he pa_nil hs2) (by decide) (by decide) hs2 rfl
  have P2 := pe_callB (pos := pos1) (p := p1) (cr_sortedK hc hu) hg1 hm1 (by rfl) (pa_cons P1 pa_nil hs1) (by decide) (by decide) hs1 rfl
  refine PE.imp P2 fun σ H Q q => ?_
  obtain ⟨H0, F, α, rel, q⟩ := q.go
  refine tS.seq (f := fun x => setDK x.d) rel PV.mono q fun rx x H1 s1 x1 rel1 q1 => ?_
  obtain ⟨k, d⟩ := rx
  cases d with
  | list ds =>
    have q1 : GO ca W σ (PV X.K (Nn F α σ) Q) (match kksOf ds with
      | some l => if kOk l then Out.ok (R.mk .f (.list ((ksort l).map kk))) else .bad
      | none => .bad) H1 := q1
    cases en : kksOf ds with
    | none => rw [en] at q1; exact q1.elim
    | some l =>
      rw [en] at q1
      have q1 : GO ca W σ (PV X.K (Nn F α σ) Q) (if kOk l then Out.ok (R.mk .f (.list ((ksort l).map kk))) else .bad) H1 := q1
      split at q1
      · rename_i hok
        obtain ⟨b, ws, rfl, hl, t⟩ := x1.rd.lst
        rw [kksOf_eq en] at t
        obtain ⟨ks, e1, e2, e3⟩ := ka_list t
        rw [e1] at hl
        have l4 : ks.length ≤ 4 := by rw [← e2, kOk, List.length_map] at hok; exact hok.1
        show rSetK X.K X.w [V.ref b] H1 fun v H2 => rSortedK X.K X.w [v] H2 Q
        refine ⟨b, ks, rfl, hl, e3, by rw [e2]; exact hok, fun a L ha pm => ?_⟩
        have sm : Same H1 (upd H1 a (SetKO X.w a L)) := Same.new ha
        have hka : ∀ q ∈ L, KA X.K (upd H1 a (SetKO X.w a L)) q := fun q hq => (e3 q (pm.mem_iff.mp hq)).same sm
        refine ⟨a, L, rfl, upd_same, hka, by rw [pm.length_eq]; exact l4, fun L' p sub es hp => ?_⟩
        have ed : (ksort l).map kk = (L'.map (·.2)).map kk := by rw [es, ← e2, ksort_perm (pm.map _)]
        rw [ed] at q1
        have n1 := RV.newL (K := X.K) (N := Nn F α σ) hp (ka_dns (X := X) (N := Nn F α σ) (ks := L') fun q hq => hka q (sub q hq))
        exact q1 _ _ (sm.trans (Same.new hp)) (n1.earlier sm)
      · exact q1.elim
  | _ => exact q1.elim
end
end FS

namespace FM
open PySem FS
def m__law_told : Fn := bodyM 4 (mSeq (sTry 4 3 (sIf (tBm (m2 eqD (mV 0) (mC (.int 0)))) (sExpr (mF 2 m_parts (mA (mV 1) (mA (mV 2) mA0)))) (sExpr (mF 2 m_rules (mA (mV 1) (mA (mV 2) mA0))))) (tabX [.BadWhole, .BadRow] none) (sRet (mL (mA (mIsE 3 (tabX [.BadWhole, .BadRow] (some .BadWhole))) (mA (mIsE 3 (tabX [.BadWhole, .BadRow] (some .BadRow))) (mA (mIsE 3 (tabX [.BadWhole, .BadRow] none)) mA0))))))
  (sRet (mL mA0)))
def m__law_refused : Fn := bodyM 3 (mSeq (sAsg 2 (m2 ixD (mL (mA (mC .none) (mA (mC (.int 0)) (mA (mC (.int 1)) (mA (mC (.int 4)) (mA (mC (.int 11)) (mA (mC (.bool true)) (mA (mC (.str "2")) mA0)))))))) (m2 modD (mF 2 m__law_cell (mA (mV 0) (mA (mC (.int 0)) mA0))) (mC (.int 7)))))
  (mSeq (sIf (bOr (tBm (m2 neD (mF 3 m__law_told (mA (mC (.int 0)) (mA (mV 2) (mA (mC .none) mA0)))) (mL (mA (mC (.bool true)) (mA (mC (.bool false)) (mA (mC (.bool true)) mA0)))))) (tBm (m2 neD (mF 3 m__law_told (mA (mC (.int 1)) (mA (mV 2) (mA (mC .none) mA0)))) (mL (mA (mC (.bool true)) (mA (mC (.bool false)) (mA (mC (.bool true)) mA0))))))) (sRet (mC (.bool false))) mNext)
  (mSeq (sAsg 2 (m2 ixD (mL (mA (mC .none) (mA (mTu mA0) (mA (mL (mA (mC (.int 1)) mA0)) (mA (mTu (mA (mV 1) mA0)) (mA (mTu (mA (m1 negD (mC (.int 1))) mA0)) (mA (mTu (mA (mC (.bool true)) mA0)) (mA (mTu (mA (mC (.str "0")) mA0)) (mA (m2 mulD (mTu (mA (mC (.int 0)) mA0)) (mC (.int 9))) mA0))))))))) (m2 modD (mF 2 m__law_cell (mA (mV 0) (mA (mC (.int 1)) mA0))) (mC (.int 8)))))
  (mSeq (sIf (tBm (m2 neD (mF 3 m__law_told (mA (mC (.int 0)) (mA (mV 1) (mA (mV 2) mA0)))) (mL (mA (mC (.bool false)) (mA (mC (.bool true)) (mA (mC (.bool true)) mA0)))))) (sRet (mC (.bool false))) mNext)
  (mSeq (sAsg 2 (m2 ixD (mL (mA (mC .none) (mA (mC (.int 0)) (mA (mC (.int 9)) (mA (mC (.bool true)) (mA (mC (.str "1")) (mA (mL (mA (mC (.int 1)) mA0)) mA0))))))) (m2 modD (mF 2 m__law_cell (mA (mV 0) (mA (mC (.int 0)) mA0))) (mC (.int 6)))))
  (sRet (vAnd (m2 eqD (mF 3 m__law_told (mA (mC (.int 1)) (mA (mV 1) (mA (mV 2) mA0)))) (mL (mA (mC (.bool true)) (mA (mC (.bool false)) (mA (mC (.bool true)) mA0))))) (m2 eqD (mF 3 m__law_told (mA (mC (.int 1)) (mA (mC (.int 7)) (mA (mC (.int 3)) mA0)))) (mL (mA (mC (.bool true)) (mA (mC (.bool false)) (mA (mC (.bool true)) mA0))))))))))))
def m_law : Fn := bodyM 14 (mSeq (sAsg 1 (m2 ixD (mL (mA (mC (.int 2)) (mA (mC (.int 3)) (mA (mC (.int 5)) (mA (mC (.int 7)) mA0))))) (m2 modD (mF 2 m__law_cell (mA (mV 0) (mA (mC (.int 2)) mA0))) (mC (.int 4)))))
  (mSeq (sIf (bNot (mT (mF 2 m__law_refused (mA (mV 0) (mA (mV 1) mA0))))) (sRet (mC (.bool false))) mNext)
  (mSeq (sAsg 2 (m2 ixD (mL (mA (mC (.int 5)) (mA (mC (.int 4)) (mA (mC (.int 3)) (mA (mC (.int 3)) mA0))))) (m2 modD (mF 2 m__law_cell (mA (mV 0) (mA (mC (.int 2)) mA0))) (mC (.int 4)))))
  (mSeq (sAsg 3 (m2 addD (mC (.int 1)) (m2 modD (mF 2 m__law_cell (mA (mV 0) (mA (mC (.int 4)) mA0))) (mV 2))))
  (mSeq (sAsg 4 (mB tupD (mA (mLC (iB rng1 (mA (mV 3) mA0)) (.nm 9) bYes (mF 3 m__law_mix (mA (m2 powD (m2 addD (mF 2 m__law_cell (mA (mV 0) (mA (mC (.int 3)) mA0))) (m2 mulD (mC (.int 41)) (mV 9))) (mC (.int 2))) (mA (mC (.int 9949)) (mA (mV 1) mA0)))) [9]) mA0)))
  (mSeq (sIf (tBm (m2 eqD (m2 modD (mF 2 m__law_cell (mA (mV 0) (mA (mC (.int 4)) mA0))) (mC (.int 2))) (mC (.int 1)))) (mSeq (sAsg 4 (mTu mA0))
  (sFor (iB rng1 (mA (m2 addD (mC (.int 2)) (m2 modD (mF 2 m__law_cell (mA (mV 0) (mA (mC (.int 5)) mA0))) (mC (.int 2)))) mA0)) (.nm 9) (sAsg 4 (mF 3 m__law_product (mA (mV 1) (mA (mV 4) (mA (mTu (mA (mF 3 m__law_mix (mA (m2 addD (mF 2 m__law_cell (mA (mV 0) (mA (mC (.int 3)) mA0))) (m2 mulD (mC (.int 17)) (mV 9))) (mA (mC (.int 9941)) (mA (mV 1) mA0)))) mA0)) mA0))))))) mNext)
  (mSeq (sAsg 5 (mF 2 m_parts (mA (mV 1) (mA (mV 4) mA0))))
  (mSeq (sAsg 6 (mTu mA0))
  (mSeq (sAsg 7 (mL mA0))
  (mFrz 5 (mSeq (sFor (iV (mV 5)) (.tp [10, 11]) (mSeq (sApp 7 (mTu (mA (mB lenD (mA (mV 10) mA0)) (mA (mV 10) mA0))))
  (mSeq (sIf (bOr (bNot (mT (mF 1 m__law_whole (mA (mV 11) mA0)))) (bOr (tBm (m2 ltD (mV 11) (mC (.int 1)))) (bOr (tBm (m2 ltD (mB lenD (mA (mV 10) mA0)) (mC (.int 1)))) (bNot (mT (mF 2 m__law_is_rule (mA (mV 1) (mA (mV 10) mA0)))))))) (sRet (mC (.bool false))) mNext)
  (sFor (iB rng1 (mA (mV 11) mA0)) (.nm 12) (sAsg 6 (mF 3 m__law_product (mA (mV 1) (mA (mV 6) (mA (mV 10) mA0)))))))))
  (mSeq (sIf (bOr (bNot (mT (m1 (isD .list) (mV 5)))) (bOr (tBm (m2 neD (mV 7) (mSortSetK (mV 7)))) (tBm (m2 neD (mV 6) (mV 4))))) (sRet (mC (.bool false))) mNext)
  (mSeq (sAsg 8 (m2 addD (mC (.int 1)) (m2 modD (mF 2 m__law_cell (mA (mV 0) (mA (mC (.int 5)) mA0))) (m2 ixD (mL (mA (mC (.int 4)) (mA (mC (.int 3)) (mA (mC (.int 2)) (mA (mC (.int 2)) mA0))))) (m2 modD (mF 2 m__law_cell (mA (mV 0) (mA (mC (.int 2)) mA0))) (mC (.int 4)))))))
  (sRet (m2 eqD (mF 2 m_rules (mA (mV 1) (mA (mV 8) mA0))) (mLC (iV (mF 2 m__law_rows (mA (mV 1) (mA (mV 8) mA0)))) (.nm 13) (mT (mF 2 m__law_is_rule (mA (mV 1) (mA (mV 13) mA0)))) (mV 13) [13]))))))))))))))))
end FM

namespace FM
open PySem FS L2
local macro_rules | `(tactic| walk_at "f") => `(tactic| first
  | with_reducible exact L_plus ‹Drawn _› _ _ | with_reducible exact L_times ‹Drawn _› _ _ | with_reducible exact C_oneL ‹Drawn _› | with_reducible exact C_noughtL ‹Drawn _› | with_reducible exact C_nought ‹Drawn _› | with_reducible exact C_whole ‹Drawn _› _
  | with_reducible exact E_sum ‹Drawn _› _ _ | with_reducible exact E_prod ‹Drawn _› _ _ | with_reducible exact C_less ‹Drawn _› _ _ | with_reducible exact C_plus ‹Drawn _› _ _ | with_reducible exact C_minus ‹Drawn _› _ _ | with_reducible exact C_times ‹Drawn _› _ _
  | with_reducible exact C_checked ‹Drawn _› | with_reducible exact C_look1 ‹Drawn _› _ | with_reducible exact C_look2 ‹Drawn _› _ _ | with_reducible exact C_size_of ‹Drawn _›
  | with_reducible exact C_sizeL ‹Drawn _› | with_reducible exact C_numbers ‹Drawn _› | with_reducible exact C_all ‹Drawn _› | with_reducible exact C_rowsL ‹Drawn _›
  | with_reducible exact e_is_within _ _ _)
local macro_rules | `(tactic| walk_at "g") => `(tactic| first
  | with_reducible exact C_atL ‹Drawn _› _ _ | with_reducible exact C_value_of ‹Drawn _› _ _ | with_reducible exact C_row_times ‹Drawn _› _ _ (by omega) | with_reducible exact C_cut ‹Drawn _› _ (by omega) | with_reducible exact C_value ‹Drawn _› (by assumption) (by assumption) _ | with_reducible exact C_multiplied ‹Drawn _› (by assumption) (by assumption) (by assumption) (by assumption)
  | with_reducible exact C_wholeL _ | with_reducible exact C_makers ‹Drawn _› | with_reducible exact C_turns ‹Drawn _› (by assumption) | with_reducible exact C_turns_of ‹Drawn _› (by assumption) | with_reducible exact C_turnsL ‹Drawn _› (by assumption) | with_reducible exact C_look_number ‹Drawn _› (by assumption) | with_reducible exact C_powerZ ‹Drawn _› (by assumption) (by omega) (by omega)
  | with_reducible exact C_raised1 ‹Drawn _› _ | with_reducible exact C_raisedL1 ‹Drawn _› _
  | with_reducible exact E_trace ‹Drawn _› _ (by assumption) (by assumption) | with_reducible exact E_norm ‹Drawn _› _ (by assumption) (by assumption)
  | with_reducible exact C_lesser ‹Drawn _› (by assumption) (by assumption) | with_reducible exact E_look_part ‹Drawn _› (by assumption) (by assumption) | with_reducible exact E_look_part0 ‹Drawn _› (by assumption) (by assumption)
  | with_reducible exact C_raisedN ‹Drawn _› _ _ | with_reducible exact C_raisedM ‹Drawn _› _ (by omega) | with_reducible exact C_raisedLN ‹Drawn _› _ (by omega) | with_reducible exact C_powerLN ‹Drawn _› _ (by omega)
  | with_reducible exact C_raisedLZ ‹Drawn _› _ (by omega) (by omega) | with_reducible exact C_powerLZ ‹Drawn _› _ (by omega) (by omega) | with_reducible exact C_raisedZ ‹Drawn _› _ (by omega) | with_reducible exact C_raisedMZ ‹Drawn _› _ (by omega) (by omega))
local macro_rules | `(tactic| walk_at "d") => `(tactic| first
  | with_reducible exact ixF0 _ | with_reducible exact ixF1 _ | with_reducible exact addD_int _ _ | with_reducible exact subD_int _ _ | with_reducible exact negD_int _
  | with_reducible exact len_eN _ | with_reducible exact d_len _ | with_reducible exact d_lenT _ | with_reducible exact len_tup _ | with_reducible exact len_lst _ | with_reducible exact tup_lst _ | with_reducible exact lst_tup _
  | with_reducible exact d_eqN _ _ | with_reducible exact d_neN _ _ | with_reducible exact d_eqI _ _ | with_reducible exact d_neI _ _ | with_reducible exact d_lt _ _ | with_reducible exact d_le _ _ | with_reducible exact d_gt _ _ | with_reducible exact d_ge _ _
  | with_reducible exact d_eqL _ _ | with_reducible exact d_neL _ _ | with_reducible exact d_eqT _ _ | with_reducible exact d_neT _ _ | with_reducible exact d_inL _ _ | with_reducible exact d_ninL _ _
  | with_reducible exact d_ix0 _ _ | with_reducible exact d_ix1 _ _ _ | with_reducible exact d_ixt0 _ _ | with_reducible exact d_ixt1 _ _ _ | with_reducible exact d_tt | with_reducible exact d_ntt
  | with_reducible exact d_eqT0 _ | with_reducible exact d_neT0 _ | with_reducible exact d_neL0 _ | with_reducible exact d_eqB _ _ | with_reducible exact d_isT _ | with_reducible exact d_lastT _ _ | with_reducible exact d_lastL _ _ | with_reducible exact d_lstL _ | with_reducible exact d_lstT _
  | with_reducible exact it_lst _ | with_reducible exact it_tup _ | with_reducible exact it_eN _
  | ((with_reducible apply modD_int); omega) | ((with_reducible apply fdivD_int); omega) | ((with_reducible refine mulD_int (.inl ?_)); omega) | ((with_reducible refine mulD_int (.inr ?_)); omega)
  | ((with_reducible apply rng1_nat); omega) | ((with_reducible apply rng1_int); omega) | ((with_reducible apply rng2_int); omega)
  | ((with_reducible apply d_rep); omega) | ((with_reducible apply w_maplen); first | with_reducible assumption | omega | ((with_reducible apply w_rlen); omega)))
local macro_rules | `(tactic| walk_at "no") => `(tactic| first
  | with_reducible exact rfl | with_reducible exact nT | with_reducible exact nF | with_reducible assumption
  | ((with_reducible apply dT); first | with_reducible exact rfl | with_reducible assumption | omega)
  | ((with_reducible apply dF); first | with_reducible assumption | omega)
  | ((with_reducible apply dNT); first | with_reducible exact rfl | with_reducible assumption | omega)
  | ((with_reducible apply dNF); first | with_reducible assumption | omega))
local macro_rules | `(tactic| walk_at "ev") => `(tactic| repeat' first
  | with_reducible exact v_c | with_reducible exact v_A0 | with_reducible exact v_O0 | with_reducible exact w_yes | with_reducible exact w_next
  | ((with_reducible apply w_eq); with_reducible assumption)
  | ((with_reducible apply v_var); exact rfl) | ((with_reducible apply v_own); exact rfl)
  | with_reducible apply v_A | with_reducible apply v_m2 | with_reducible apply w_F | with_reducible apply w_B1 | with_reducible apply w_B2 | with_reducible apply v_B | with_reducible apply v_tB | with_reducible apply v_m1
  | with_reducible exact stR_v | with_reducible exact stR_f | with_reducible exact s_0 | with_reducible apply s_c
  | ((with_reducible apply w_len); exact rfl) | ((with_reducible apply w_ble); exact rfl) | ((with_reducible apply w_own); exact rfl)
  | with_reducible apply w_Tu | with_reducible apply w_L
  | with_reducible apply v_Sl | with_reducible apply v_O1 | with_reducible apply v_iV | with_reducible apply w_iB
  | with_reducible apply v_not | with_reducible apply v_T | with_reducible apply w_or | with_reducible apply w_and
  | with_reducible apply w_ch | with_reducible apply w_vAnd | with_reducible apply w_vNot | with_reducible apply w_vOr
  | with_reducible apply w_seq | with_reducible apply w_if | with_reducible apply w_mif | with_reducible apply w_asg | with_reducible apply w_ret | with_reducible apply v_expr
  | ((with_reducible apply w_app); exact rfl) | with_reducible apply w_par | with_reducible apply w_asgT | with_reducible apply w_frz | ((with_reducible apply w_aug); exact rfl)
  | with_reducible apply putR_v | with_reducible apply putR_f | with_reducible exact ret_v | with_reducible exact ret_f | ((with_reducible apply ret_b); walk_at "no")
  | ((with_reducible apply ite_no); walk_at "no") | ((with_reducible apply ite_yes); walk_at "no")
  | ((with_reducible apply w_retO); exact rfl) | with_reducible exact retS_v | with_reducible exact retS_o
  | walk_at "f" | walk_at "d" | walk_at "g"
  | ((with_reducible apply w_set); (simp only [List.set_cons_zero, List.set_cons_succ]; try exact rfl))
  | ((with_reducible apply w_start); (simp only [startE, List.map, List.length, List.replicate, List.cons_append, List.nil_append, Nat.reduceSub, Nat.reduceAdd]; try exact rfl))
  | ((with_reducible apply w_frzn); (simp only [frz, List.getElem?_cons_zero, List.getElem?_cons_succ, List.set_cons_zero, List.set_cons_succ]; try exact rfl))
  | ((with_reducible apply w_wipe); (simp only [wipeA, List.set_cons_zero, List.set_cons_succ]; try exact rfl))
  | ((with_reducible apply w_put); (simp only [Tg.put, putAll, List.set_cons_zero, List.set_cons_succ]; try exact rfl))
  | with_reducible exact truB _ | with_reducible exact rfl)
local macro_rules | `(tactic| walk_at "go") => `(tactic| repeat first | ((with_reducible apply w_seq); (focus (walk_at "ev"; done))) | ((with_reducible apply w_frz); (focus (walk_at "ev"; done))))
local macro_rules | `(tactic| walk_at "un") => `(tactic| ((with_reducible apply w_for); (focus (walk_at "ev"; done)); (repeat ((with_reducible apply w_forc); (focus (walk_at "ev"; done)); (focus (walk_at "ev"; done)))); with_reducible exact w_for0))

/-! ### refusals -/
abbrev TFT : Out FS.R := .ok ⟨.f, .list [.bool true, .bool false, .bool true]⟩
abbrev FTT : Out FS.R := .ok ⟨.f, .list [.bool false, .bool true, .bool true]⟩
def L7 : List PyData := [.none, .int 0, .int 1, .int 4, .int 11, .bool true, .str "2"]
def L8 (p : Int) : List PyData := [.none, .tuple [], .list [.int 1], .tuple [.int p], .tuple [.int (-1)], .tuple [.bool true], .tuple [.str "0"], .tuple [.int 0, .int 0, .int 0, .int 0, .int 0, .int 0, .int 0, .int 0, .int 0]]
def L6 : List PyData := [.none, .int 0, .int 9, .bool true, .str "1", .list [.int 1]]
theorem odd7 {z : Int} (h0 : 0 ≤ z) (h : z < 7) : ∃ d, atI L7 z = some d ∧ m__law_told [.int 0, d, .none] = TFT ∧ m__law_told [.int 1, d, .none] = TFT := by
  have : z = 0 ∨ z = 1 ∨ z = 2 ∨ z = 3 ∨ z = 4 ∨ z = 5 ∨ z = 6 := by omega
  rcases this with rfl | rfl | rfl | rfl | rfl | rfl | rfl <;> exact ⟨_, rfl, by kernel_rfl, by kernel_rfl⟩
theorem odd8 {p z : Int} (hp : p = 2 ∨ p = 3 ∨ p = 5 ∨ p = 7) (h0 : 0 ≤ z) (h : z < 8) : ∃ d, atI (L8 p) z = some d ∧ m__law_told [.int 0, .int p, d] = FTT := by
  have : z = 0 ∨ z = 1 ∨ z = 2 ∨ z = 3 ∨ z = 4 ∨ z = 5 ∨ z = 6 ∨ z = 7 := by omega
  rcases hp with rfl | rfl | rfl | rfl <;> rcases this with rfl | rfl | rfl | rfl | rfl | rfl | rfl | rfl <;> exact ⟨_, rfl, by kernel_rfl⟩
theorem odd6 {p z : Int} (hp : p = 2 ∨ p = 3 ∨ p = 5 ∨ p = 7) (h0 : 0 ≤ z) (h : z < 6) : ∃ d, atI L6 z = some d ∧ m__law_told [.int 1, .int p, d] = TFT := by
  have : z = 0 ∨ z = 1 ∨ z = 2 ∨ z = 3 ∨ z = 4 ∨ z = 5 := by omega
  rcases hp with rfl | rfl | rfl | rfl <;> rcases this with rfl | rfl | rfl | rfl | rfl | rfl <;> exact ⟨_, rfl, by kernel_rfl⟩
theorem told73 : m__law_told [.int 1, .int 7, .int 3] = TFT := by kernel_rfl
theorem refusedT {S : PyData} {p z0 z1 : Int} (hp : p = 2 ∨ p = 3 ∨ p = 5 ∨ p = 7) (c0 : m__law_cell [S, .int 0] = .ok ⟨.v, .int z0⟩) (c1 : m__law_cell [S, .int 1] = .ok ⟨.v, .int z1⟩) : m__law_refused [S, .int p] = .ok ⟨.v, .bool true⟩ := by
  obtain ⟨d7, a7, t7, u7⟩ := odd7 (z := z0 % 7) (Int.emod_nonneg _ (by omega)) (Int.emod_lt_of_pos _ (by omega))
  obtain ⟨d8, a8, t8⟩ := odd8 hp (z := z1 % 8) (Int.emod_nonneg _ (by omega)) (Int.emod_lt_of_pos _ (by omega))
  obtain ⟨d6, a6, t6⟩ := odd6 hp (z := z0 % 6) (Int.emod_nonneg _ (by omega)) (Int.emod_lt_of_pos _ (by omega))
  have n1 : neD (.list [.bool true, .bool false, .bool true]) (.list [.bool true, .bool false, .bool true]) = .ok ⟨.v, .bool false⟩ := by kernel_rfl
  have n2 : neD (.list [.bool false, .bool true, .bool true]) (.list [.bool false, .bool true, .bool true]) = .ok ⟨.v, .bool false⟩ := by kernel_rfl
  have n3 : eqD (.list [.bool true, .bool false, .bool true]) (.list [.bool true, .bool false, .bool true]) = .ok ⟨.v, .bool true⟩ := by kernel_rfl
  have m9 : mulD (.tuple [.int 0]) (.int 9) = .ok ⟨.v, .tuple [.int 0, .int 0, .int 0, .int 0, .int 0, .int 0, .int 0, .int 0, .int 0]⟩ := by kernel_rfl
  have lT : ∀ {α : En} {a b c : Bool}, mL (mA (mC (.bool a)) (mA (mC (.bool b)) (mA (mC (.bool c)) mA0))) α = .ok ⟨.f, .list [.bool a, .bool b, .bool c]⟩ := w_L (s_c v_c stR_v (s_c v_c stR_v (s_c v_c stR_v s_0))) rfl
  refine w_body (α := [.val S, .val (.int p), .un]) rfl ?_
  refine w_seq (β := [.val S, .val (.int p), .val d7]) (w_asg (v_m2 (w_L (s_c v_c stR_v (s_c v_c stR_v (s_c v_c stR_v (s_c v_c stR_v (s_c v_c stR_v (s_c v_c stR_v (s_c v_c stR_v s_0))))))) rfl) (v_m2 (w_F (s_c (v_var rfl) stR_v (s_c v_c stR_v s_0)) rfl c0) v_c (modD_int (by omega))) (ixl_of a7)) (putR_v rfl)) ?_
  refine w_seq (w_if (k := false) (v_orF (v_tB (v_m2 (w_F (s_c v_c stR_v (s_c (v_var rfl) stR_v (s_c v_c stR_v s_0))) rfl t7) lT n1)) (v_tB (v_m2 (w_F (s_c v_c stR_v (s_c (v_var rfl) stR_v (s_c v_c stR_v s_0))) rfl u7) lT n1))) (ite_no rfl w_next)) ?_
  refine w_seq (β := [.val S, .val (.int p), .val d8]) (w_asg (v_m2 (w_L (s_c v_c stR_v (s_c (w_Tu s_0 rfl) stR_v (s_c (w_L (s_c v_c stR_v s_0) rfl) stR_f (s_c (w_Tu (s_c (v_var rfl) stR_v s_0) rfl) stR_v (s_c (w_Tu (s_c (v_m1 v_c (negD_int _)) stR_v s_0) rfl) stR_v (s_c (w_Tu (s_c v_c stR_v s_0) rfl) stR_v (s_c (w_Tu (s_c v_c stR_v s_0) rfl) stR_v (s_c (v_m2 (w_Tu (s_c v_c stR_v s_0) rfl) v_c m9) stR_v s_0)))))))) rfl) (v_m2 (w_F (s_c (v_var rfl) stR_v (s_c v_c stR_v s_0)) rfl c1) v_c (modD_int (by omega))) (ixl_of a8)) (putR_v rfl)) ?_
  refine w_seq (w_if (k := false) (v_tB (v_m2 (w_F (s_c v_c stR_v (s_c (v_var rfl) stR_v (s_c (v_var rfl) stR_v s_0))) rfl t8) lT n2)) (ite_no rfl w_next)) ?_
  refine w_seq (β := [.val S, .val (.int p), .val d6]) (w_asg (v_m2 (w_L (s_c v_c stR_v (s_c v_c stR_v (s_c v_c stR_v (s_c v_c stR_v (s_c v_c stR_v (s_c (w_L (s_c v_c stR_v s_0) rfl) stR_f s_0)))))) rfl) (v_m2 (w_F (s_c (v_var rfl) stR_v (s_c v_c stR_v s_0)) rfl c0) v_c (modD_int (by omega))) (ixl_of a6)) (putR_v rfl)) ?_
  exact w_ret (v_vAndT (v_m2 (w_F (s_c v_c stR_v (s_c (v_var rfl) stR_v (s_c (v_var rfl) stR_v s_0))) rfl t6) lT n3) (truB _) (v_m2 (w_F (s_c v_c stR_v (s_c v_c stR_v (s_c v_c stR_v s_0))) rfl told73) lT n3)) ret_v
/-! ### hashes -/
def ndB : List Int → Bool
  | [] => true
  | x :: l => l.all (fun y => !decide (x = y)) && ndB l
theorem ndB_inj {β : Type} {h : β → Int} : ∀ {l : List β}, ndB (l.map h) = true → ∀ a ∈ l, ∀ b ∈ l, h a = h b → a = b
  | [], _, a, ha, _, _, _ => by cases ha
  | x :: l, e, a, ha, b, hb, hab => by
    have e : ((l.map h).all (fun y => !decide (h x = y)) && ndB (l.map h)) = true := e
    rw [Bool.and_eq_true] at e
    have no : ∀ y ∈ l, h x ≠ h y := fun y hy z => by
      have := List.all_eq_true.mp e.1 (h y) (List.mem_map.mpr ⟨y, hy, rfl⟩)
      rw [decide_eq_true z] at this
      cases this
    rcases List.mem_cons.mp ha with rfl | ha' <;> rcases List.mem_cons.mp hb with rfl | hb'
    · rfl
    · exact absurd hab (no b hb')
    · exact absurd hab.symm (no a ha')
    · exact ndB_inj e.2 a ha' b hb' hab
def tabK (p mo : Nat) : List Kp := (List.range mo).flatMap fun k => (rowsT p (k + 1)).map fun r => (((k + 1 : Nat) : Int), r)
theorem hsh2 : ndB ((tabK 2 5).map kh) = true := by decide +kernel
theorem hsh3 : ndB ((tabK 3 4).map kh) = true := by decide +kernel
theorem hsh5 : ndB ((tabK 5 3).map kh) = true := by decide +kernel
theorem hsh7 : ndB ((tabK 7 3).map kh) = true := by decide +kernel
theorem mem_tabK {p mo : Nat} {u : Nu} (h1 : 1 ≤ u.length) (h2 : u.length ≤ mo) (xu : ∀ x ∈ u, 0 ≤ x ∧ x < (p : Int)) : (((u.length : Nat) : Int), u) ∈ tabK p mo := by
  unfold tabK
  refine List.mem_flatMap.mpr ⟨u.length - 1, List.mem_range.mpr (by omega), List.mem_map.mpr ⟨u, mem_rowsT (by omega) xu, ?_⟩⟩
  rw [show u.length - 1 + 1 = u.length from by omega]
/-- a prime, the most figures, the most figures of rules -/
structure K03 (p mo mm : Nat) : Prop where
  dr : Drawn ((p : Int), [0])
  pr : (p : Int) = 2 ∨ (p : Int) = 3 ∨ (p : Int) = 5 ∨ (p : Int) = 7
  p2 : 2 ≤ p
  p7 : p ≤ 7
  m3 : 3 ≤ mo
  m5 : mo ≤ 5
  big : mo = 5 → p = 2
  n1 : 1 ≤ mm
  n4 : mm ≤ 4
  sz : p ^ mo ≤ 1000
  sm : p ^ mm ≤ 256
  nd : ndB ((tabK p mo).map kh) = true
theorem k03_at {z : Int} (h0 : 0 ≤ z) (h : z < 4) : ∃ p mo mm : Nat, K03 p mo mm ∧ atI [PyData.int 2, .int 3, .int 5, .int 7] z = some (.int (p : Int)) ∧ atI [PyData.int 5, .int 4, .int 3, .int 3] z = some (.int (mo : Int)) ∧ atI [PyData.int 4, .int 3, .int 2, .int 2] z = some (.int (mm : Int)) := by
  have : z = 0 ∨ z = 1 ∨ z = 2 ∨ z = 3 := by omega
  rcases this with rfl | rfl | rfl | rfl
  · exact ⟨2, 5, 4, ⟨.k_2_1 (by simp [ru_2_1]), .inl rfl, by omega, by omega, by omega, by omega, fun _ => rfl, by omega, by omega, by decide, by decide, hsh2⟩, rfl, rfl, rfl⟩
  · exact ⟨3, 4, 3, ⟨.k_3_1 (by simp [ru_3_1]), .inr (.inl rfl), by omega, by omega, by omega, by omega, fun z => by omega, by omega, by omega, by decide, by decide, hsh3⟩, rfl, rfl, rfl⟩
  · exact ⟨5, 3, 2, ⟨.k_5_1 (by simp [ru_5_1]), .inr (.inr (.inl rfl)), by omega, by omega, by omega, by omega, fun z => by omega, by omega, by omega, by decide, by decide, hsh5⟩, rfl, rfl, rfl⟩
  · exact ⟨7, 3, 2, ⟨.k_7_1 (by simp [ru_7_1]), .inr (.inr (.inr rfl)), by omega, by omega, by omega, by omega, fun z => by omega, by omega, by omega, by decide, by decide, hsh7⟩, rfl, rfl, rfl⟩
/-! ### the parts -/
theorem wgt_s (l : List (Nu × Nat)) (q : Nu × Nat) : wgt (l ++ [q]) = wgt l + q.1.length * q.2 := by
  unfold wgt
  rw [List.map_append, List.sum_append]
  simp
theorem wgt_a (l m : List (Nu × Nat)) : wgt (l ++ m) = wgt l + wgt m := by
  unfold wgt
  rw [List.map_append, List.sum_append]
theorem rep_len (p : Int) (w u : Nu) : ∀ k : Nat, (rep p w u k).length = w.length + u.length * k
  | 0 => rfl
  | k + 1 => by
    show (prodL p (rep p w u k) u).length = _
    rw [prodL_len, rep_len p w u k, Nat.mul_succ]; omega
theorem prodAll_len (p : Int) (fo : List (Nu × Nat)) : (prodAll p fo).length = wgt fo :=
  list_rev (P := fun fo => (prodAll p fo).length = wgt fo) rfl (fun l q ih => by rw [prodAll_s, rep_len, ih, wgt_s]) fo
theorem len_wgt : ∀ {fo : List (Nu × Nat)}, (∀ q ∈ fo, 1 ≤ q.2 ∧ 1 ≤ q.1.length) → fo.length ≤ wgt fo
  | [], _ => Nat.zero_le _
  | q :: fo, h => by
    have e : wgt (q :: fo) = q.1.length * q.2 + wgt fo := by unfold wgt; rw [List.map_cons, List.sum_cons]
    have h1 := h q List.mem_cons_self
    have h2 := Nat.mul_le_mul h1.2 h1.1
    have := len_wgt fun r hr => h r (List.mem_cons_of_mem _ hr)
    rw [e, List.length_cons]; omega
theorem klt_len {a b : Nu} (h : klt a b) : a.length ≤ b.length := by
  rcases h with h | h
  · omega
  · omega
theorem few_parts {p mo mm : Nat} (K : K03 p mo mm) {fo : List (Nu × Nat)} (g : ∀ q ∈ fo, PtG ((p : Int), [0]) q) (kl : (fo.map Prod.fst).Pairwise klt) (hw : wgt fo ≤ mo) : fo.length ≤ 4 := by
  have m5 := K.m5
  have hl := len_wgt fun q hq => ⟨(g q hq).o1, (g q hq).l1⟩
  by_cases h5 : mo = 5
  · have p2 := K.big h5
    subst p2
    match fo, g, kl, hw, hl with
    | [], _, _, _, _ => exact Nat.zero_le _
    | [_], _, _, _, _ => simp
    | [_, _], _, _, _, _ => simp
    | [_, _, _], _, _, _, _ => simp
    | [_, _, _, _], _, _, _, _ => simp
    | a :: b :: c :: d :: e :: r, g, kl, hw, hl =>
      exfalso
      have ga := g a (by simp); have gb := g b (by simp); have gc := g c (by simp); have gd := g d (by simp); have ge := g e (by simp)
      simp only [List.map_cons] at kl
      have k1 := List.pairwise_cons.mp kl
      have k2 := List.pairwise_cons.mp k1.2
      have k3 := List.pairwise_cons.mp k2.2
      have ab := k1.1 b.1 (by simp); have bc := k2.1 c.1 (by simp); have cd := k3.1 d.1 (by simp); have ce := k3.1 e.1 (by simp)
      have lab := klt_len ab; have lbc := klt_len bc; have lcd := klt_len cd; have lce := klt_len ce
      have c2 : 2 ≤ c.1.length := by
        rcases Nat.lt_or_ge c.1.length 2 with z | z
        · exfalso
          have la1 : a.1.length = 1 := by have := ga.l1; omega
          have lb1 : b.1.length = 1 := by have := gb.l1; omega
          have lc1 : c.1.length = 1 := by have := gc.l1; omega
          obtain ⟨x, ex⟩ := List.length_eq_one_iff.mp la1
          obtain ⟨y, ey⟩ := List.length_eq_one_iff.mp lb1
          obtain ⟨w, ew⟩ := List.length_eq_one_iff.mp lc1
          have xa := ga.xs x (by rw [ex]; simp)
          have xc := gc.xs w (by rw [ew]; simp)
          have h1 : x < y := by
            rcases ab with h | ⟨_, h⟩
            · omega
            · rw [ex, ey] at h; simpa [List.cons_lt_cons_iff] using h
          have h2 : y < w := by
            rcases bc with h | ⟨_, h⟩
            · omega
            · rw [ey, ew] at h; simpa [List.cons_lt_cons_iff] using h
          have xc2 : w < 2 := xc.2
          omega
        · exact z
      have e1 : wgt (a :: b :: c :: d :: e :: r) = a.1.length * a.2 + (b.1.length * b.2 + (c.1.length * c.2 + (d.1.length * d.2 + (e.1.length * e.2 + wgt r)))) := by
        unfold wgt; simp only [List.map_cons, List.sum_cons]
      have m1 := Nat.mul_le_mul ga.l1 ga.o1
      have m2 := Nat.mul_le_mul gb.l1 gb.o1
      have m3 := Nat.mul_le_mul c2 gc.o1
      have m4 := Nat.mul_le_mul (show 2 ≤ d.1.length by omega) gd.o1
      omega
  · omega
theorem wgt_mem3 : ∀ {l : List (Nu × Nat)} {q : Nu × Nat}, q ∈ l → q.1.length * q.2 ≤ wgt l
  | p :: l, q, h => by
    have e : wgt (p :: l) = p.1.length * p.2 + wgt l := by unfold wgt; rw [List.map_cons, List.sum_cons]
    rcases List.mem_cons.mp h with rfl | h
    · omega
    · have := wgt_mem3 h; omega
def keyK (q : Nu × Nat) : Kp := (((q.1.length : Nat) : Int), q.1)
theorem nodup_of_inj {β : Type} {h : β → Int} : ∀ {l : List β}, (∀ a ∈ l, ∀ b ∈ l, h a = h b → a = b) → l.Nodup → (l.map h).Nodup
  | [], _, _ => List.nodup_nil
  | x :: l, hi, hn => by
    obtain ⟨h1, h2⟩ := List.nodup_cons.mp hn
    rw [List.map_cons]
    refine List.nodup_cons.mpr ⟨fun z => ?_, nodup_of_inj (fun a ha b hb => hi a (List.mem_cons_of_mem _ ha) b (List.mem_cons_of_mem _ hb)) h2⟩
    obtain ⟨y, hy, e⟩ := List.mem_map.mp z
    have := hi y (List.mem_cons_of_mem _ hy) x List.mem_cons_self e
    exact h1 (this ▸ hy)
theorem klt_ne {a b : Nu} (h : klt a b) : a ≠ b := by
  rintro rfl
  rcases h with h | ⟨_, h⟩
  · omega
  · exact List.lt_irrefl _ h
theorem keys_ok {p mo mm : Nat} (K : K03 p mo mm) {fo : List (Nu × Nat)} (g : ∀ q ∈ fo, PtG ((p : Int), [0]) q) (kl : (fo.map Prod.fst).Pairwise klt) (hw : wgt fo ≤ mo) : kOk (fo.map keyK) ∧ ksort (fo.map keyK) = fo.map keyK := by
  have kl2 : fo.Pairwise fun a b => klt a.1 b.1 := List.pairwise_map.mp kl
  refine ⟨⟨by rw [List.length_map]; exact few_parts K g kl hw, ?_⟩, ?_⟩
  · refine nodup_of_inj (fun a ha b hb e => ?_) ?_
    · have mt : ∀ a ∈ fo.map keyK, a ∈ tabK p mo := fun a ha => by
        obtain ⟨q, hq, rfl⟩ := List.mem_map.mp ha
        have l2 := wgt_mem3 hq
        have gq := g q hq
        have := Nat.mul_le_mul_left q.1.length gq.o1
        exact mem_tabK gq.l1 (by omega) gq.xs
      exact ndB_inj K.nd a (mt a ha) b (mt b hb) e
    · exact List.pairwise_map.mpr (kl2.imp (S := fun a b => keyK a ≠ keyK b) fun {a b} h e => klt_ne h (congrArg Prod.snd e))
  · refine List.Perm.eq_of_pairwise (le := fun a b => kLe a b = true) (fun a b _ _ h1 h2 => kLe_anti h1 h2) (List.pairwise_mergeSort kLe_trans kLe_total _) (List.pairwise_map.mpr (kl2.imp fun {a b} h => ?_)) (List.mergeSort_perm _ _)
    unfold kLe keyK
    simp only [Bool.or_eq_true, Bool.and_eq_true, decide_eq_true_eq]
    rcases h with h | ⟨h, h2⟩
    · exact .inl (by omega)
    · exact .inr ⟨by omega, List.le_of_lt h2⟩
theorem eqv_kk (p : Kp) : PyData.eqv (kk p) (kk p) = true := by
  have e : PyData.eqv (.tuple [.int p.1, eN p.2]) (.tuple [.int p.1, eN p.2]) = ((p.1 == p.1) && (PyData.eqv (eN p.2) (eN p.2) && true)) := by
    simp [PyData.eqv, PyData.eqvAll]
  show PyData.eqv (.tuple [.int p.1, eN p.2]) (.tuple [.int p.1, eN p.2]) = true
  rw [e, eqv_eN]
  simp
theorem eqvAll_kk : ∀ l : List Kp, PyData.eqvAll (l.map kk) (l.map kk) = true
  | [] => by simp [PyData.eqvAll]
  | p :: l => by rw [List.map_cons]; unfold PyData.eqvAll; rw [eqv_kk, eqvAll_kk l]; rfl
theorem canLay_kk : ∀ l : List Kp, PyData.canLayAll0 (l.map kk) = true
  | [] => rfl
  | p :: l => by
    rw [List.map_cons]; unfold PyData.canLayAll0
    rw [canLay_kk l, show PyData.canLay0 (kk p) = true from by
      show PyData.canLayAll0 [.int p.1, eN p.2] = true
      unfold PyData.canLayAll0 PyData.canLayAll0
      rw [canLay_eN]; rfl]
    rfl
theorem depthAll_kk : ∀ l : List Kp, PyData.depthAll (l.map kk) ≤ 60
  | [] => by simp [PyData.depthAll]
  | p :: l => by rw [List.map_cons]; unfold PyData.depthAll; have := depthAll_kk l; have := depth_kk p; omega
theorem d_neK (l : List Kp) : neD (.list (l.map kk)) (.list (l.map kk)) = .ok ⟨.v, .bool false⟩ := by
  have sh : SeqAt.shaped (.list (l.map kk)) = true := by
    unfold SeqAt.shaped
    have h1 : PyData.canLay0 (.list (l.map kk)) = true := by unfold PyData.canLay0; exact canLay_kk l
    have h2 := depthAll_kk l
    have h3 : PyData.depth (.list (l.map kk)) ≤ 64 := by unfold PyData.depth; omega
    rw [h1, decide_eq_true h3]; rfl
  unfold neD
  rw [sh, show PyData.eqv (.list (l.map kk)) (.list (l.map kk)) = true from by unfold PyData.eqv; exact eqvAll_kk l]; rfl
theorem d_eqNN (a : List Nu) : eqD (.list (a.map eN)) (.list (a.map eN)) = .ok ⟨.v, .bool true⟩ := by
  unfold eqD
  rw [shaped_L, show PyData.eqv (.list (a.map eN)) (.list (a.map eN)) = decide (a = a) from by unfold PyData.eqv; exact eqvAll_eN a a, decide_eq_true rfl]; rfl
/-- parts, all that is known -/
theorem parts3 {p mo mm : Nat} (K : K03 p mo mm) {r : Nu} (h1 : 1 ≤ r.length) (hm : r.length ≤ mo) (xr : ∀ x ∈ r, 0 ≤ x ∧ x < (p : Int)) : ∃ fo : List (Nu × Nat), m_parts [.int (p : Int), eN r] = .ok ⟨.f, .list (fo.map encQ)⟩ ∧ prodAll (p : Int) fo = r ∧ (∀ q ∈ fo, PtG ((p : Int), [0]) q) ∧ (fo.map Prod.fst).Pairwise klt ∧ wgt fo = r.length := by
  have D := K.dr
  have m5 := K.m5; have p2 := K.p2
  have hs : p ^ (r.length / 2) ≤ 1000 := Nat.le_trans (Nat.pow_le_pow_right (by omega) (by omega)) K.sz
  obtain ⟨fo, e, e1, e2, e3, _⟩ := C_parts2 D (r := r) h1 (by omega) hs xr
  have z := prodAll_len (p : Int) fo
  rw [show prodAll (p : Int) fo = r from e1] at z
  exact ⟨fo, e, e1, e2, e3, z.symm⟩
theorem law_true (ns : List Int) (hl : ns.length ≤ 63) (hbits : ∀ k ∈ ns, Builtin.Int.intBits k ≤ 1048576) : m_law [.list (ns.map PyData.int)] = .ok ⟨.v, .bool true⟩ := by
  obtain ⟨S, hS⟩ : ∃ S, S = PyData.list (ns.map PyData.int) := ⟨_, rfl⟩
  have c0 : m__law_cell [S, .int 0] = .ok ⟨.v, .int (ns.getD 0 0)⟩ := by rw [hS]; exact cell_at ns 0
  have c1 : m__law_cell [S, .int 1] = .ok ⟨.v, .int (ns.getD 1 0)⟩ := by rw [hS]; exact cell_at ns 1
  have c2 : m__law_cell [S, .int 2] = .ok ⟨.v, .int (ns.getD 2 0)⟩ := by rw [hS]; exact cell_at ns 2
  have c3 : m__law_cell [S, .int 3] = .ok ⟨.v, .int (ns.getD 3 0)⟩ := by rw [hS]; exact cell_at ns 3
  have c4 : m__law_cell [S, .int 4] = .ok ⟨.v, .int (ns.getD 4 0)⟩ := by rw [hS]; exact cell_at ns 4
  have c5 : m__law_cell [S, .int 5] = .ok ⟨.v, .int (ns.getD 5 0)⟩ := by rw [hS]; exact cell_at ns 5
  have b3 := cell_bits hbits 3
  rw [← hS]
  clear hS hbits
  generalize ns.getD 0 0 = z0 at c0
  generalize ns.getD 1 0 = z1 at c1
  generalize ns.getD 2 0 = z2 at c2
  generalize ns.getD 3 0 = z3 at c3 b3
  generalize ns.getD 4 0 = z4 at c4
  generalize ns.getD 5 0 = z5 at c5
  obtain ⟨p, mo, mm, K, ap, am, an⟩ := k03_at (z := z2 % 4) (Int.emod_nonneg _ (by omega)) (Int.emod_lt_of_pos _ (by omega))
  have p2 := K.p2; have p7 := K.p7; have m3 := K.m3; have m5 := K.m5; have n1 := K.n1; have n4 := K.n4
  have rf := refusedT K.pr c0 c1
  have hp : (0 : Int) < (p : Int) := by omega
  have mo0 : 0 < (mo : Int) := by omega
  obtain ⟨lg, hlg, lg1, lg2⟩ : ∃ lg : Nat, 1 + z4 % (mo : Int) = (lg : Int) ∧ 1 ≤ lg ∧ lg ≤ mo := by
    have h1 := Int.emod_nonneg z4 (show (mo : Int) ≠ 0 by omega)
    have h2 := Int.emod_lt_of_pos z4 mo0
    exact ⟨(1 + z4 % (mo : Int)).toNat, by omega, by omega, by omega⟩
  obtain ⟨mn, hmn, mn1, mn2⟩ : ∃ mn : Nat, 1 + z5 % (mm : Int) = (mn : Int) ∧ 1 ≤ mn ∧ mn ≤ mm := by
    have h1 := Int.emod_nonneg z5 (show (mm : Int) ≠ 0 by omega)
    have h2 := Int.emod_lt_of_pos z5 (show 0 < (mm : Int) by omega)
    exact ⟨(1 + z5 % (mm : Int)).toNat, by omega, by omega, by omega⟩
  have ix2 : ∀ {α : En} {a b c d : Int}, (α[0]? = some (.val S)) → m2 modD (mF 2 m__law_cell (mA (mV 0) (mA (mC (.int 2)) mA0))) (mC (.int 4)) α = .ok ⟨.v, .int (z2 % 4)⟩ := fun h => v_m2 (w_F (s_c (v_var h) stR_v (s_c v_c stR_v s_0)) rfl c2) v_c (modD_int (by omega))
  have l4 : ∀ {α : En} {a b c d : Int}, mL (mA (mC (.int a)) (mA (mC (.int b)) (mA (mC (.int c)) (mA (mC (.int d)) mA0)))) α = .ok ⟨.f, .list [.int a, .int b, .int c, .int d]⟩ := w_L (s_c v_c stR_v (s_c v_c stR_v (s_c v_c stR_v (s_c v_c stR_v s_0)))) rfl
  refine w_body (α := [.val S, .un, .un, .un, .un, .un, .un, .un, .un, .un, .un, .un, .un, .un]) rfl ?_
  refine w_seq (β := [.val S, .val (.int (p : Int)), .un, .un, .un, .un, .un, .un, .un, .un, .un, .un, .un, .un]) (w_asg (v_m2 l4 (ix2 (a := 0) (b := 0) (c := 0) (d := 0) rfl) (ixl_of ap)) (putR_v rfl)) ?_
  refine w_seq (w_if (k := false) (v_not (k := true) (v_T (w_F (s_c (v_var rfl) stR_v (s_c (v_var rfl) stR_v s_0)) rfl rf) (truB _))) (ite_no rfl w_next)) ?_
  refine w_seq (β := [.val S, .val (.int (p : Int)), .val (.int (mo : Int)), .un, .un, .un, .un, .un, .un, .un, .un, .un, .un, .un]) (w_asg (v_m2 l4 (ix2 (a := 0) (b := 0) (c := 0) (d := 0) rfl) (ixl_of am)) (putR_v rfl)) ?_
  refine w_seq (β := [.val S, .val (.int (p : Int)), .val (.int (mo : Int)), .val (.int (lg : Int)), .un, .un, .un, .un, .un, .un, .un, .un, .un, .un]) (w_asg (v_m2 v_c (v_m2 (w_F (s_c (v_var rfl) stR_v (s_c v_c stR_v s_0)) rfl c4) (v_var rfl) (modD_int mo0)) (addD_int _ _)) (putR_v (by rw [hlg]; rfl))) ?_
  obtain ⟨r0, hr0⟩ : ∃ r0 : Nu, r0 = (List.range lg).map fun (k : Nat) => mix ((z3 + 41 * (0 + (k : Int))) ^ 2) 9949 (p : Int) := ⟨_, rfl⟩
  have lc0 : compM (.nm 9) bYes (mF 3 m__law_mix (mA (m2 powD (m2 addD (mF 2 m__law_cell (mA (mV 0) (mA (mC (.int 3)) mA0))) (m2 mulD (mC (.int 41)) (mV 9))) (mC (.int 2))) (mA (mC (.int 9949)) (mA (mV 1) mA0)))) [.val S, .val (.int (p : Int)), .val (.int (mo : Int)), .val (.int (lg : Int)), .un, .un, .un, .un, .un, .un, .un, .un, .un, .un] ((List.range lg).map fun (j : Nat) => PyData.int (0 + (j : Int))) = .ok (r0.map PyData.int) := by
    rw [hr0, List.map_map]
    exact compM_map (fun (j : Nat) => PyData.int (0 + (j : Int))) (fun (k : Nat) => PyData.int (mix ((z3 + 41 * (0 + (k : Int))) ^ 2) 9949 (p : Int))) (List.range lg) fun k hk => by
      have hk := List.mem_range.mp hk
      have b1 : Builtin.Int.intBits (41 * (0 + (k : Int))) ≤ 20 := bits_lt (by omega) (by show _ < (2 : Int) ^ 20; omega)
      have b2 := PySem.intBits_add_le b3 b1
      exact ⟨_, rfl, rfl, _, w_F (s_c (v_m2 (v_m2 (w_F (s_c (v_var rfl) stR_v (s_c v_c stR_v s_0)) rfl c3) (v_m2 v_c (v_var rfl) (mulD_int (.inl (by omega)))) (addD_int _ _)) v_c (pow_int (by omega) (by show ((Builtin.Int.intBits (z3 + 41 * (0 + (k : Int))) : Nat) : Int) * 2 ≤ 134217728; omega))) stR_v (s_c v_c stR_v (s_c (v_var rfl) stR_v s_0))) rfl (e__law_mix (by omega) (by omega) hp), stR_v⟩
  have l0 : r0.length = lg := by rw [hr0]; simp
  have x0 : ∀ x ∈ r0, 0 ≤ x ∧ x < (p : Int) := fun x hx => by
    rw [hr0] at hx
    obtain ⟨k, _, rfl⟩ := List.mem_map.mp hx
    exact mix_bd _ _ hp
  clear hr0
  refine w_seq (β := [.val S, .val (.int (p : Int)), .val (.int (mo : Int)), .val (.int (lg : Int)), .val (eN r0), .un, .un, .un, .un, .un, .un, .un, .un, .un]) (w_asg (w_B1 (w_LC (w_iB (s_c (v_var rfl) stR_v s_0) (rng1_nat (by omega))) (by rw [List.length_map, List.length_range]; omega) rfl rfl lc0) (tup_lst _)) (putR_v rfl)) ?_
  refine w_seqE (P := fun β => ∃ r s9, 1 ≤ r.length ∧ r.length ≤ mo ∧ (∀ x ∈ r, 0 ≤ x ∧ x < (p : Int)) ∧ nown s9 ∧ β = [.val S, .val (.int (p : Int)), .val (.int (mo : Int)), .val (.int (lg : Int)), .val (eN r), .un, .un, .un, .un, s9, .un, .un, .un, .un]) ?_ ?_
  · have ts : tBm (m2 eqD (m2 modD (mF 2 m__law_cell (mA (mV 0) (mA (mC (.int 4)) mA0))) (mC (.int 2))) (mC (.int 1))) [.val S, .val (.int (p : Int)), .val (.int (mo : Int)), .val (.int (lg : Int)), .val (eN r0), .un, .un, .un, .un, .un, .un, .un, .un, .un] = .ok (decide (z4 % 2 = 1)) :=
      v_tB (v_m2 (v_m2 (w_F (s_c (v_var rfl) stR_v (s_c v_c stR_v s_0)) rfl c4) v_c (modD_int (by omega))) v_c (eqD_int _ _))
    by_cases h : z4 % 2 = 1
    · obtain ⟨k2, hk2, k2a, k2b⟩ : ∃ k2 : Nat, 2 + z5 % 2 = (k2 : Int) ∧ 2 ≤ k2 ∧ k2 ≤ 3 := by
        have h1 := Int.emod_nonneg z5 (show (2 : Int) ≠ 0 by omega)
        have h2 := Int.emod_lt_of_pos z5 (show 0 < (2 : Int) by omega)
        exact ⟨(2 + z5 % 2).toNat, by omega, by omega, by omega⟩
      obtain ⟨α', f1, r, s9, e1, e2, e3, e4⟩ := for_go (T := .nm 9) (b := sAsg 4 (mF 3 m__law_product (mA (mV 1) (mA (mV 4) (mA (mTu (mA (mF 3 m__law_mix (mA (m2 addD (mF 2 m__law_cell (mA (mV 0) (mA (mC (.int 3)) mA0))) (m2 mulD (mC (.int 17)) (mV 9))) (mA (mC (.int 9941)) (mA (mV 1) mA0)))) mA0)) mA0))))) (fun (j : Nat) => PyData.int (0 + (j : Int))) (List.range k2)
        (fun pre α => ∃ r s9, r.length = pre.length ∧ (∀ x ∈ r, 0 ≤ x ∧ x < (p : Int)) ∧ nown s9 ∧ α = [.val S, .val (.int (p : Int)), .val (.int (mo : Int)), .val (.int (lg : Int)), .val (eN r), .un, .un, .un, .un, s9, .un, .un, .un, .un])
        (α := [.val S, .val (.int (p : Int)), .val (.int (mo : Int)), .val (.int (lg : Int)), .val (eN []), .un, .un, .un, .un, .un, .un, .un, .un, .un]) ⟨[], .un, rfl, fun x hx => (by cases hx), .un, rfl⟩ fun pre t α ⟨r, s9, e1, e2, e3, e4⟩ ⟨s, hs⟩ => by
          subst e4
          have hpl : pre.length < k2 := by
            have := congrArg List.length hs
            simp at this
            omega
          have ht : t < k2 := List.mem_range.mp (by rw [hs]; simp)
          have pd := e__law_product (p := (p : Int)) (a := r) (b := [mix (z3 + 17 * (0 + (t : Int))) 9941 (p : Int)]) hp (by omega) (by simp) (fun x hx => by have := e2 x hx; omega)
          refine turn (T := .nm 9) (β := [.val S, .val (.int (p : Int)), .val (.int (mo : Int)), .val (.int (lg : Int)), .val (eN r), .un, .un, .un, .un, .val (.int (0 + (t : Int))), .un, .un, .un, .un]) rfl
            (w_asg (w_F (s_c (v_var rfl) stR_v (s_c (v_var rfl) stR_v (s_c (w_Tu (s_c (w_F (s_c (v_m2 (w_F (s_c (v_var rfl) stR_v (s_c v_c stR_v s_0)) rfl c3) (v_m2 v_c (v_var rfl) (mulD_int (.inl (by omega)))) (addD_int _ _)) stR_v (s_c v_c stR_v (s_c (v_var rfl) stR_v s_0))) rfl (e__law_mix (by omega) (by omega) hp)) stR_v s_0) rfl) stR_v s_0))) rfl pd) (putR_v rfl)) ?_
          exact ⟨_, _, by rw [prodL_len, List.length_append, e1]; rfl, prodL_bd hp _ _, .val _, rfl⟩
      subst e4
      rw [List.length_range] at e1
      refine ⟨_, w_if ts (ite_yes (decide_eq_true h) (w_seq (w_asg (w_Tu s_0 rfl) (putR_v rfl)) ((v_for (w_iB (s_c (v_m2 v_c (v_m2 (w_F (s_c (v_var rfl) stR_v (s_c v_c stR_v s_0)) rfl c5) v_c (modD_int (by omega))) (addD_int _ _)) stR_v s_0) (by rw [hk2]; exact rng1_nat (by omega)))).trans f1))), r, s9, by omega, by omega, e2, e3, rfl⟩
    · exact ⟨_, w_if ts (ite_no (decide_eq_false h) w_next), r0, .un, by omega, by omega, x0, .un, rfl⟩
  rintro β ⟨r, s9, r1, r2, xr, n9, rfl⟩
  obtain ⟨fo, pa, pe, pg, pk, pw⟩ := parts3 K r1 r2 xr
  obtain ⟨ko, ks⟩ := keys_ok K pg pk (by omega)
  refine w_seq (w_asg (w_F (s_c (v_var rfl) stR_v (s_c (v_var rfl) stR_v s_0)) rfl pa) (putR_f rfl)) ?_
  refine w_seq (β := [.val S, .val (.int (p : Int)), .val (.int (mo : Int)), .val (.int (lg : Int)), .val (eN r), .own (fo.map encQ), .val (eN []), .un, .un, s9, .un, .un, .un, .un]) (w_asg (w_Tu s_0 rfl) (putR_v rfl)) ?_
  refine w_seq (β := [.val S, .val (.int (p : Int)), .val (.int (mo : Int)), .val (.int (lg : Int)), .val (eN r), .own (fo.map encQ), .val (eN []), .own [], .un, s9, .un, .un, .un, .un]) (w_asg (w_L s_0 rfl) (putR_f rfl)) ?_
  refine w_frz (β := [.val S, .val (.int (p : Int)), .val (.int (mo : Int)), .val (.int (lg : Int)), .val (eN r), .val (.list (fo.map encQ)), .val (eN []), .own [], .un, s9, .un, .un, .un, .un]) rfl ?_
  refine w_seqE (P := fun β => ∃ s10 s11 s12, β = [.val S, .val (.int (p : Int)), .val (.int (mo : Int)), .val (.int (lg : Int)), .val (eN r), .val (.list (fo.map encQ)), .val (eN r), .own ((fo.map keyK).map kk), .un, s9, s10, s11, s12, .un]) ?_ ?_
  · apply w_forE
    · exact v_iV (v_var rfl) stR_v (it_lst _)
    obtain ⟨α', f1, s10, s11, s12, e⟩ := for_go (T := .tp [10, 11]) (b := (mSeq (sApp 7 (mTu (mA (mB lenD (mA (mV 10) mA0)) (mA (mV 10) mA0))))
      (mSeq (sIf (bOr (bNot (mT (mF 1 m__law_whole (mA (mV 11) mA0)))) (bOr (tBm (m2 ltD (mV 11) (mC (.int 1)))) (bOr (tBm (m2 ltD (mB lenD (mA (mV 10) mA0)) (mC (.int 1)))) (bNot (mT (mF 2 m__law_is_rule (mA (mV 1) (mA (mV 10) mA0)))))))) (sRet (mC (.bool false))) mNext)
      (sFor (iB rng1 (mA (mV 11) mA0)) (.nm 12) (sAsg 6 (mF 3 m__law_product (mA (mV 1) (mA (mV 6) (mA (mV 10) mA0)))))))))  encQ fo
      (fun pre α => ∃ s10 s11 s12, α = [.val S, .val (.int (p : Int)), .val (.int (mo : Int)), .val (.int (lg : Int)), .val (eN r), .val (.list (fo.map encQ)), .val (eN (prodAll (p : Int) pre)), .own ((pre.map keyK).map kk), .un, s9, s10, s11, s12, .un])
      (α := [.val S, .val (.int (p : Int)), .val (.int (mo : Int)), .val (.int (lg : Int)), .val (eN r), .val (.list (fo.map encQ)), .val (eN []), .own [], .un, s9, .un, .un, .un, .un]) ⟨_, _, _, rfl⟩ fun pre q α ⟨s10, s11, s12, e⟩ ⟨s, hs⟩ => by
        subst e
        have hq : q ∈ fo := by rw [hs]; simp
        have gq := pg q hq
        have go := gq.o1; have gl := gq.l1
        have w1 : wgt pre + q.1.length * q.2 ≤ mo := by
          have z := congrArg wgt hs
          rw [wgt_a, show q :: s = [q] ++ s from rfl, wgt_a] at z
          have y : wgt [q] = q.1.length * q.2 := by unfold wgt; simp
          rw [y, pw] at z
          omega
        have ql : q.1.length ≤ mo := by have := Nat.mul_le_mul_left q.1.length go; omega
        have qo : q.2 ≤ mo := by have := Nat.mul_le_mul_right q.2 gl; omega
        have pl : pre.length < 1000000 := by
          have z := congrArg List.length hs
          have := few_parts K pg pk (by omega)
          simp at z
          omega
        have ir := e__law_is_rule (p := p) (r := q.1) (by omega) (by omega) (by omega) (Nat.le_trans (Nat.pow_le_pow_right (by omega) ql) K.sz) (q := true) ⟨fun _ => gq.ir, fun _ => rfl⟩
        have t2 : tBm (m2 ltD (mV 11) (mC (.int 1))) [.val S, .val (.int (p : Int)), .val (.int (mo : Int)), .val (.int (lg : Int)), .val (eN r), .val (.list (fo.map encQ)), .val (eN (prodAll (p : Int) pre)), .own ((pre.map keyK).map kk ++ [kk (keyK q)]), .un, s9, .val (eN q.1), .val (.int (q.2 : Int)), s12, .un] = .ok false :=
          v_tB ((v_m2 (v_var rfl) v_c (d_lt _ _)).trans (by rw [decide_eq_false (by omega)]))
        have t3 : tBm (m2 ltD (mB lenD (mA (mV 10) mA0)) (mC (.int 1))) [.val S, .val (.int (p : Int)), .val (.int (mo : Int)), .val (.int (lg : Int)), .val (eN r), .val (.list (fo.map encQ)), .val (eN (prodAll (p : Int) pre)), .own ((pre.map keyK).map kk ++ [kk (keyK q)]), .un, s9, .val (eN q.1), .val (.int (q.2 : Int)), s12, .un] = .ok false :=
          v_tB ((v_m2 (w_B1 (v_var rfl) (len_eN _)) v_c (d_lt _ _)).trans (by rw [decide_eq_false (by omega)]))
        obtain ⟨α2, g1, s12', e2⟩ := for_go (T := .nm 12) (b := sAsg 6 (mF 3 m__law_product (mA (mV 1) (mA (mV 6) (mA (mV 10) mA0))))) (fun (j : Nat) => PyData.int (0 + (j : Int))) (List.range q.2)
          (fun pr α => ∃ s12, α = [.val S, .val (.int (p : Int)), .val (.int (mo : Int)), .val (.int (lg : Int)), .val (eN r), .val (.list (fo.map encQ)), .val (eN (rep (p : Int) (prodAll (p : Int) pre) q.1 pr.length)), .own ((pre.map keyK).map kk ++ [kk (keyK q)]), .un, s9, .val (eN q.1), .val (.int (q.2 : Int)), s12, .un])
          (α := [.val S, .val (.int (p : Int)), .val (.int (mo : Int)), .val (.int (lg : Int)), .val (eN r), .val (.list (fo.map encQ)), .val (eN (prodAll (p : Int) pre)), .own ((pre.map keyK).map kk ++ [kk (keyK q)]), .un, s9, .val (eN q.1), .val (.int (q.2 : Int)), s12, .un]) ⟨_, rfl⟩ fun pr t α ⟨s12, e⟩ ⟨s', hs'⟩ => by
            subst e
            have hpl : pr.length < q.2 := by
              have := congrArg List.length hs'
              simp at this
              omega
            have rl : (rep (p : Int) (prodAll (p : Int) pre) q.1 pr.length).length ≤ 100 := by
              rw [rep_len, prodAll_len]
              have := Nat.mul_le_mul_left q.1.length (Nat.le_of_lt hpl)
              omega
            have pd := e__law_product (p := (p : Int)) (a := rep (p : Int) (prodAll (p : Int) pre) q.1 pr.length) (b := q.1) hp rl (by omega) (fun x hx => by have := rep_bd hp (prodAll_bd hp pre) _ x hx; omega)
            refine turn (T := .nm 12) (β := [.val S, .val (.int (p : Int)), .val (.int (mo : Int)), .val (.int (lg : Int)), .val (eN r), .val (.list (fo.map encQ)), .val (eN (rep (p : Int) (prodAll (p : Int) pre) q.1 pr.length)), .own ((pre.map keyK).map kk ++ [kk (keyK q)]), .un, s9, .val (eN q.1), .val (.int (q.2 : Int)), .val (.int (0 + (t : Int))), .un]) rfl
              (w_asg (w_F (s_c (v_var rfl) stR_v (s_c (v_var rfl) stR_v (s_c (v_var rfl) stR_v s_0))) rfl pd) (putR_v rfl)) ?_
            refine ⟨.val (.int (0 + (t : Int))), ?_⟩
            rw [List.length_append]
            rfl
        subst e2
        rw [List.length_range] at g1
        refine turn (T := .tp [10, 11]) (β := [.val S, .val (.int (p : Int)), .val (.int (mo : Int)), .val (.int (lg : Int)), .val (eN r), .val (.list (fo.map encQ)), .val (eN (prodAll (p : Int) pre)), .own ((pre.map keyK).map kk), .un, s9, .val (eN q.1), .val (.int (q.2 : Int)), s12, .un]) rfl
          (w_seq (w_app rfl (w_Tu (s_c (w_B1 (v_var rfl) (len_eN _)) stR_v (s_c (v_var rfl) stR_v s_0)) rfl) stR_v (by rw [List.length_map, List.length_map]; exact pl) rfl)
          (w_seq (w_if (k := false) (v_orF (v_not (k := true) (v_T (w_F (s_c (v_var rfl) stR_v s_0) rfl (C_wholeL _)) (truB _))) (v_orF t2 (v_orF t3 (v_not (k := true) (v_T (w_F (s_c (v_var rfl) stR_v (s_c (v_var rfl) stR_v s_0)) rfl ir) (truB _)))))) (ite_no rfl w_next))
          ((v_for (w_iB (s_c (v_var rfl) stR_v s_0) (rng1_nat (by omega)))).trans g1))) ?_
        refine ⟨.val (eN q.1), .val (.int (q.2 : Int)), s12', ?_⟩
        rw [prodAll_s, List.map_append, List.map_append]
        rfl
    rw [pe] at e
    exact ⟨α', f1, s10, s11, s12, e⟩
  rintro β ⟨s10, s11, s12, rfl⟩
  have so : mSortSetK (mV 7) [.val S, .val (.int (p : Int)), .val (.int (mo : Int)), .val (.int (lg : Int)), .val (eN r), .val (.list (fo.map encQ)), .val (eN r), .own ((fo.map keyK).map kk), .un, s9, s10, s11, s12, .un] = .ok ⟨.f, .list ((fo.map keyK).map kk)⟩ := by
    have z := w_sortSetK (me := mV 7) (α := [.val S, .val (.int (p : Int)), .val (.int (mo : Int)), .val (.int (lg : Int)), .val (eN r), .val (.list (fo.map encQ)), .val (eN r), .own ((fo.map keyK).map kk), .un, s9, s10, s11, s12, .un]) (v_own rfl) ko
    rw [ks] at z
    exact z
  refine w_seq (w_if (k := false) (v_orF (v_not (k := true) (v_T (v_m1 (v_var rfl) rfl) (truB _))) (v_orF (v_tB (v_m2 (v_own rfl) so (d_neK _))) (v_tB ((v_m2 (v_var rfl) (v_var rfl) (neD_eN _ _)).trans (by rw [decide_eq_true rfl]; rfl))))) (ite_no rfl w_next)) ?_
  refine w_seq (β := [.val S, .val (.int (p : Int)), .val (.int (mo : Int)), .val (.int (lg : Int)), .val (eN r), .val (.list (fo.map encQ)), .val (eN r), .own ((fo.map keyK).map kk), .val (.int (mn : Int)), s9, s10, s11, s12, .un])
    (w_asg (v_m2 v_c (v_m2 (w_F (s_c (v_var rfl) stR_v (s_c v_c stR_v s_0)) rfl c5) (v_m2 l4 (ix2 (a := 0) (b := 0) (c := 0) (d := 0) rfl) (ixl_of an)) (modD_int (by omega))) (addD_int _ _)) (putR_v (by rw [hmn]; rfl))) ?_
  classical
  have pmn : p ^ mn ≤ 256 := Nat.le_trans (Nat.pow_le_pow_right (by omega) mn2) K.sm
  have ru := C_rules K.dr (m := mn) mn1 (by omega) pmn
  have ru : m_rules [.int (p : Int), .int (mn : Int)] = .ok ⟨.f, .list (((rowsT p mn).filter fun r => decide (isR p r)).map eN)⟩ := ru
  have R1 : m__law_rows [.int (p : Int), .int (mn : Int)] = .ok ⟨.v, .list ((rowsT p mn).map eN)⟩ := e__law_rows (by omega) (by omega) mn1 (by omega) (by omega)
  have lc : compM (.nm 13) (mT (mF 2 m__law_is_rule (mA (mV 1) (mA (mV 13) mA0)))) (mV 13) [.val S, .val (.int (p : Int)), .val (.int (mo : Int)), .val (.int (lg : Int)), .val (eN r), .val (.list (fo.map encQ)), .val (eN r), .own ((fo.map keyK).map kk), .val (.int (mn : Int)), s9, s10, s11, s12, .un] ((rowsT p mn).map eN) = .ok (((rowsT p mn).filter fun r => decide (isR p r)).map eN) := by
    refine compM_filter eN eN (fun r => decide (isR p r)) (rowsT p mn) fun u hu => ?_
    obtain ⟨ul, _⟩ := rowsT_num hu
    have ir := e__law_is_rule (p := p) (r := u) (by omega) (by omega) (by omega) (by rw [ul]; omega) (q := decide (isR p u)) decide_eq_true_iff
    exact ⟨[.val S, .val (.int (p : Int)), .val (.int (mo : Int)), .val (.int (lg : Int)), .val (eN r), .val (.list (fo.map encQ)), .val (eN r), .own ((fo.map keyK).map kk), .val (.int (mn : Int)), s9, s10, s11, s12, .val (eN u)], rfl, v_T (w_F (s_c (v_var rfl) stR_v (s_c (v_var rfl) stR_v s_0)) rfl ir) (truB _), fun _ => ⟨_, v_var rfl, stR_v⟩⟩
  refine w_ret (v_m2 (w_F (s_c (v_var rfl) stR_v (s_c (v_var rfl) stR_v s_0)) rfl ru) (w_LC (v_iV (w_F (s_c (v_var rfl) stR_v (s_c (v_var rfl) stR_v s_0)) rfl R1) stR_v (it_lst _)) (by rw [List.length_map, rowsT_len]; omega) rfl rfl lc) (d_eqNN _)) ret_v

end FM

namespace FM
open PySem PySem.Spec PyProof.Rows L2 FS
structure Cs (K : PySem.W.Frag) (mg : Str → Option Value) : Prop where
  PRIMES : mg "PRIMES" = some (.ref (He.ga K "PRIMES"))
  PRIMES_t : ∀ H, SqT K H (He.ga K "PRIMES") ([2, 3, 5, 7].map V.int)
  MOST_NUMBERS : ∃ t, mg "MOST_NUMBERS" = some (.int 256 t)
  MOST_FIGURES : ∃ t, mg "MOST_FIGURES" = some (.int 8 t)
structure Qs (K : PySem.W.Frag) (mg : Str → Option Value) (ca : Ex → Addr) : Prop where
  g_BadRow : mg "BadRow" = some (.ref (He.ga K "BadRow"))
  g_BadWhole : mg "BadWhole" = some (.ref (He.ga K "BadWhole"))
  g_FieldError : mg "FieldError" = some (.ref (He.ga K "FieldError"))
  g_ValueError : mg "ValueError" = none
  exm_FieldError : ∀ c b, (tabX [.BadWhole, .BadRow] none) c = some b → PySem.W.exmOne K (.ref (ca c)) (.ref (He.ga K "FieldError")) = some b
  kit_BadRow : ∀ c b, (tabX [.BadWhole, .BadRow] (some .BadRow)) c = some b → ExcC K (ca c) ∧ PySem.W.kitOne K (.ref (ca c)) (.ref (He.ga K "BadRow")) = some b
  kit_BadWhole : ∀ c b, (tabX [.BadWhole, .BadRow] (some .BadWhole)) c = some b → ExcC K (ca c) ∧ PySem.W.kitOne K (.ref (ca c)) (.ref (He.ga K "BadWhole")) = some b
  kit_ValueError : ∀ c b, (tabX [.BadWhole, .BadRow] none) c = some b → ExcC K (ca c) ∧ PySem.W.kitOne K (.ref (ca c)) (.type "ValueError") = some b
section
variable {P : Program} {w : World} {K : PySem.W.Frag} {mg : Str → Option Value} {base : Heap} {ca : Ex → Addr}
theorem sc_is_within : FnScope ["thing", "low", "high"] ["thing", "low", "high"] (defScope (top 8)) := ⟨rfl, rfl, rfl, by decide +kernel, rfl, by decide +kernel, by decide +kernel⟩
theorem ok_is_within {f : Addr} {fd : FuncData} (B : Bs mg) (F : FunD K "is_within" "is_within" (defArgs (top 8)) (defBody (top 8)) (defScope (top 8)) [] [] f fd) (g : mg "is_within" = some (.ref f)) : Ready P w K mg base ca "is_within" 1 3 m_is_within :=
  ready_mk F g sc_is_within rfl rfl (fun _ _ _ _ _ _ us hl => match us, hl with | [_, _, _], _ => rfl) fun cdv A outer s H E hr =>
  have tk := takes_of (X := cxOf (L2.CX P w) P w K mg base ["thing", "low", "high"] "is_within" (defScope (top 8)) f cdv A outer s H E) rfl rfl rfl rfl
  have nd := (sc_is_within).nd
  (ss_one (ss_ret (se_and (se_isi (T := .int) (se_v 0) rfl B.isinstance rfl B.int (by decide +kernel)) (se_and (se_not (se_isi (T := .bool) (se_v 0) rfl B.isinstance rfl B.bool (by decide +kernel))) (se_one (se_chain od_le od_le (se_v 1) (se_v 0) (se_v 2)))))))
theorem sc_is_prime : FnScope ["thing"] ["thing"] (defScope (top 9)) := ⟨rfl, rfl, rfl, by decide +kernel, rfl, by decide +kernel, by decide +kernel⟩
theorem ok_is_prime {f : Addr} {fd : FuncData} (B : Bs mg) (r_is_within : Ready P w K mg base ca "is_within" 1 3 m_is_within) (C : Cs K mg) (F : FunD K "is_prime" "is_prime" (defArgs (top 9)) (defBody (top 9)) (defScope (top 9)) [] [] f fd) (g : mg "is_prime" = some (.ref f)) : Ready P w K mg base ca "is_prime" 2 1 m_is_prime :=
  ready_mk F g sc_is_prime rfl rfl (fun _ _ _ _ _ _ us hl => match us, hl with | [_], _ => rfl) fun cdv A outer s H E hr =>
  have tk := takes_of (X := cxOf (L2.CX P w) P w K mg base ["thing"] "is_prime" (defScope (top 9)) f cdv A outer s H E) rfl rfl rfl rfl
  have nd := (sc_is_prime).nd
  (ss_one (ss_ret (se_and (se_own (hr.mono (by decide)) tk r_is_within rfl (sa_cons (se_v 0) (sa_cons se_int (sa_cons se_int sa_nil)))) (se_one (se_cmp (od_in (units65 hr)) (se_v 0) (se_gtup (ns := [2, 3, 5, 7]) rfl C.PRIMES C.PRIMES_t) rfl)))))
theorem sc_are_figures : FnScope ["prime", "thing", "least", "most", "figure"] ["prime", "thing", "least", "most"] (defScope (top 10)) := ⟨rfl, rfl, rfl, by decide +kernel, rfl, by decide +kernel, by decide +kernel⟩
theorem ok_are_figures {f : Addr} {fd : FuncData} (B : Bs mg) (r_is_within : Ready P w K mg base ca "is_within" 1 3 m_is_within) (F : FunD K "are_figures" "are_figures" (defArgs (top 10)) (defBody (top 10)) (defScope (top 10)) [] [] f fd) (g : mg "are_figures" = some (.ref f)) : Ready P w K mg base ca "are_figures" 2 4 m_are_figures :=
  ready_mk F g sc_are_figures rfl rfl (fun _ _ _ _ _ _ us hl => match us, hl with | [_, _, _, _], _ => rfl) fun cdv A outer s H E hr =>
  have tk := takes_of (X := cxOf (L2.CX P w) P w K mg base ["prime", "thing", "least", "most", "figure"] "are_figures" (defScope (top 10)) f cdv A outer s H E) rfl rfl rfl rfl
  have nd := (sc_are_figures).nd
  (ss_cons (ss_if (SW.st (sw_or (st_not (st_truth (se_isi (T := .tuple) (se_v 1) rfl B.isinstance rfl B.tuple (by decide +kernel)))) (sw_or1 (st_not (st_chain od_le od_le (se_v 2) (se_callB cd_len rfl B.len (by decide +kernel) (sa_cons (se_v 1) sa_nil)) (se_v 3)))))) (ss_one (ss_ret se_bl)) ss_nil)
  (ss_one (ss_ret (se_not (se_lc (own := [("figure", 4)]) (T := (.nm 4)) rfl nd (si_val (se_v 1)) (blkOk_by (N := ["prime", "thing", "least", "most", "figure"]) (sc := defScope (top 10)) (by decide +kernel)) (fun _ _ _ _ _ => (pg_name (i := 4) nd rfl (.inl rfl))) (fun _ _ _ _ _ => (spt_one (st_not (st_truth (se_own (hr.mono (by decide)) takes0 r_is_within rfl (sa_cons (se_v 4) (sa_cons se_int (sa_cons (se_bin od_sub (se_v 0) se_int) sa_nil)))))))) (fun _ _ _ _ _ => (se_v 4)) (by decide))))))
theorem sc_times_as : FnScope ["number", "often", "found", "time"] ["number", "often"] (defScope (top 11)) := ⟨rfl, rfl, rfl, by decide +kernel, rfl, by decide +kernel, by decide +kernel⟩
theorem ok_times_as {f : Addr} {fd : FuncData} (B : Bs mg) (F : FunD K "times_as" "times_as" (defArgs (top 11)) (defBody (top 11)) (defScope (top 11)) [] [] f fd) (g : mg "times_as" = some (.ref f)) : Ready P w K mg base ca "times_as" 1 2 m_times_as :=
  ready_mk F g sc_times_as rfl rfl (fun _ _ _ _ _ _ us hl => match us, hl with | [_, _], _ => rfl) fun cdv A outer s H E hr =>
  have tk := takes_of (X := cxOf (L2.CX P w) P w K mg base ["number", "often", "found", "time"] "times_as" (defScope (top 11)) f cdv A outer s H E) rfl rfl rfl rfl
  have nd := (sc_times_as).nd
  (ss_cons (ss_asg (i := 2) nd rfl (.inl rfl) se_int)
  (ss_cons (ss_for (T := (.nm 3)) (passes_of rfl) rfl (si_range1 rfl B.range (sa_cons (se_v 1) sa_nil)) (pg_name (i := 3) nd rfl (.inl rfl)) (ss_one (ss_asg (i := 2) nd rfl (.inl rfl) (se_bin od_mul (se_v 2) (se_v 0)))))
  (ss_one (ss_retO 2))))
theorem sc_full : FnScope ["rule"] ["rule"] (defScope (top 12)) := ⟨rfl, rfl, rfl, by decide +kernel, rfl, by decide +kernel, by decide +kernel⟩
theorem ok_full {f : Addr} {fd : FuncData} (B : Bs mg) (F : FunD K "full" "full" (defArgs (top 12)) (defBody (top 12)) (defScope (top 12)) [] [] f fd) (g : mg "full" = some (.ref f)) : Ready P w K mg base ca "full" 1 1 m_full :=
  ready_mk F g sc_full rfl rfl (fun _ _ _ _ _ _ us hl => match us, hl with | [_], _ => rfl) fun cdv A outer s H E hr =>
  have tk := takes_of (X := cxOf (L2.CX P w) P w K mg base ["rule"] "full" (defScope (top 12)) f cdv A outer s H E) rfl rfl rfl rfl
  have nd := (sc_full).nd
  (ss_one (ss_ret (se_bin od_add (se_callTy cd_list rfl B.list (by decide +kernel) (sa_cons (se_v 0) sa_nil)) (se_lst (sa_cons se_int sa_nil)))))
theorem sc_divided : FnScope ["prime", "rule", "other", "left", "part", "found", "at", "lead", "place", "figure"] ["prime", "rule", "other"] (defScope (top 13)) := ⟨rfl, rfl, rfl, by decide +kernel, rfl, by decide +kernel, by decide +kernel⟩
theorem ok_divided {f : Addr} {fd : FuncData} (B : Bs mg) (r_full : Ready P w K mg base ca "full" 1 1 m_full) (F : FunD K "divided" "divided" (defArgs (top 13)) (defBody (top 13)) (defScope (top 13)) [] [] f fd) (g : mg "divided" = some (.ref f)) : Ready P w K mg base ca "divided" 2 3 m_divided :=
  ready_mk F g sc_divided rfl rfl (fun _ _ _ _ _ _ us hl => match us, hl with | [_, _, _], _ => rfl) fun cdv A outer s H E hr =>
  have tk := takes_of (X := cxOf (L2.CX P w) P w K mg base ["prime", "rule", "other", "left", "part", "found", "at", "lead", "place", "figure"] "divided" (defScope (top 13)) f cdv A outer s H E) rfl rfl rfl rfl
  have nd := (sc_divided).nd
  (ss_cons (ss_asg (i := 3) nd rfl (.inl rfl) (se_own (hr.mono (by decide)) tk r_full rfl (sa_cons (se_v 1) sa_nil)))
  (ss_cons (ss_asg (i := 4) nd rfl (.inl rfl) (se_own (hr.mono (by decide)) tk r_full rfl (sa_cons (se_v 2) sa_nil)))
  (ss_cons (ss_asg (i := 5) nd rfl (.inl rfl) (se_lst sa_nil))
  (ss_cons (ss_for (T := (.nm 6)) (passes_of rfl) rfl (si_range3 rfl B.range (sa_cons (se_bin od_sub (se_callB cd_len rfl B.len (by decide +kernel) (sa_cons (se_v 3) sa_nil)) (se_callB cd_len rfl B.len (by decide +kernel) (sa_cons (se_v 4) sa_nil))) (sa_cons (se_neg se_int) (sa_cons (se_neg se_int) sa_nil))) (pi_range3 rfl B.range (sa_cons (se_bin od_sub (se_callB cd_len rfl B.len (by decide +kernel) (sa_cons (se_v 3) sa_nil)) (se_callB cd_len rfl B.len (by decide +kernel) (sa_cons (se_v 4) sa_nil))) (sa_cons (se_neg se_int) (sa_cons (se_neg se_int) sa_nil))))) (pg_name (i := 6) nd rfl (.inl rfl)) (ss_cons (ss_asg (i := 7) nd rfl (.inl rfl) (se_ix (se_v 3) (se_bin od_add (se_v 6) (se_callB cd_len rfl B.len (by decide +kernel) (sa_cons (se_v 2) sa_nil)))))
  (ss_cons (ss_app (i := 5) rfl (.inl rfl) (se_v 7))
  (ss_frz 4 (ss_one (ss_for (T := (.tp [8, 9])) (passes_of rfl) rfl (si_enum rfl B.enumerate (sa_cons (se_v 4) sa_nil)) (pg_tup rfl (pgs_cons (pg_name (i := 8) nd rfl (.inl rfl)) (pgs_cons (pg_name (i := 9) nd rfl (.inl rfl)) pgs_nil))) (ss_one (ss_set (i := 3) rfl (.inl rfl) (se_bin od_add (se_v 6) (se_v 8)) (se_bin od_mod (se_bin od_sub (se_ix (se_v 3) (se_bin od_add (se_v 6) (se_v 8))) (se_bin od_mul (se_v 7) (se_v 9))) (se_v 0))))))))))
  (ss_one (ss_ret (se_tup (sa_cons (se_callTy cd_tup rfl B.tuple (by decide +kernel) (sa_cons (se_slice (se_revA (se_v 5)) so_none (so_some (se_neg se_int))) sa_nil)) (sa_cons (se_slice (se_v 3) so_none (so_some (se_callB cd_len rfl B.len (by decide +kernel) (sa_cons (se_v 2) sa_nil)))) sa_nil)))))))))
theorem sc_rows_of : FnScope ["prime", "many", "found", "place", "longer", "row", "figure"] ["prime", "many"] (defScope (top 14)) := ⟨rfl, rfl, rfl, by decide +kernel, rfl, by decide +kernel, by decide +kernel⟩
theorem ok_rows_of {f : Addr} {fd : FuncData} (B : Bs mg) (F : FunD K "rows_of" "rows_of" (defArgs (top 14)) (defBody (top 14)) (defScope (top 14)) [] [] f fd) (g : mg "rows_of" = some (.ref f)) : Ready P w K mg base ca "rows_of" 1 2 m_rows_of :=
  ready_mk F g sc_rows_of rfl rfl (fun _ _ _ _ _ _ us hl => match us, hl with | [_, _], _ => rfl) fun cdv A outer s H E hr =>
  have tk := takes_of (X := cxOf (L2.CX P w) P w K mg base ["prime", "many", "found", "place", "longer", "row", "figure"] "rows_of" (defScope (top 14)) f cdv A outer s H E) rfl rfl rfl rfl
  have nd := (sc_rows_of).nd
  (ss_cons (ss_asg (i := 2) nd rfl (.inl rfl) (se_lst (sa_cons (se_tup sa_nil) sa_nil)))
  (ss_cons (ss_for (T := (.nm 3)) (passes_of rfl) rfl (si_range1 rfl B.range (sa_cons (se_v 1) sa_nil)) (pg_name (i := 3) nd rfl (.inl rfl)) (ss_cons (ss_asg (i := 4) nd rfl (.inl rfl) (se_lst sa_nil))
  (ss_frz 2 (ss_cons (ss_for (T := (.nm 5)) (passes_of rfl) rfl (si_val (se_v 2)) (pg_name (i := 5) nd rfl (.inr rfl)) (ss_one (ss_ext (i := 4) rfl (.inl rfl) (se_lc (own := [("figure", 6)]) (T := (.nm 6)) rfl nd (si_range1 rfl B.range (sa_cons (se_v 0) sa_nil)) (blkOk_by (N := ["prime", "many", "found", "place", "longer", "row", "figure"]) (sc := defScope (top 14)) (by decide +kernel)) (fun _ _ _ _ _ => (pg_name (i := 6) nd rfl (.inl rfl))) (fun _ _ _ _ _ => spt_nil) (fun _ _ _ _ _ => (se_bin od_add (se_v 5) (se_tup (sa_cons (se_v 6) sa_nil)))) (by decide)))))
  (ss_frz 4 (ss_one (ss_asg (i := 2) nd rfl (.inl rfl) (se_v 4))))))))
  (ss_one (ss_retO 2))))
theorem sc_any_left : FnScope ["rest", "figure"] ["rest"] (defScope (top 16)) := ⟨rfl, rfl, rfl, by decide +kernel, rfl, by decide +kernel, by decide +kernel⟩
theorem ok_any_left {f : Addr} {fd : FuncData} (B : Bs mg) (F : FunD K "any_left" "any_left" (defArgs (top 16)) (defBody (top 16)) (defScope (top 16)) [] [] f fd) (g : mg "any_left" = some (.ref f)) : Ready P w K mg base ca "any_left" 1 1 m_any_left :=
  ready_mk F g sc_any_left rfl rfl (fun _ _ _ _ _ _ us hl => match us, hl with | [_], _ => rfl) fun cdv A outer s H E hr =>
  have tk := takes_of (X := cxOf (L2.CX P w) P w K mg base ["rest", "figure"] "any_left" (defScope (top 16)) f cdv A outer s H E) rfl rfl rfl rfl
  have nd := (sc_any_left).nd
  (ss_one (ss_ret (se_cmp (od_ne hr.units) (se_lc (own := [("figure", 1)]) (T := (.nm 1)) rfl nd (si_val (se_v 0)) (blkOk_by (N := ["rest", "figure"]) (sc := defScope (top 16)) (by decide +kernel)) (fun _ _ _ _ _ => (pg_name (i := 1) nd rfl (.inl rfl))) (fun _ _ _ _ _ => (spt_one (st_cmp (od_ne hr.units) (se_v 1) se_int (nomark _)))) (fun _ _ _ _ _ => (se_v 1)) (by decide)) (se_lst sa_nil) (nomark _))))
theorem sc_first_part : FnScope ["prime", "rule", "many", "other"] ["prime", "rule"] (defScope (top 15)) := ⟨rfl, rfl, rfl, by decide +kernel, rfl, by decide +kernel, by decide +kernel⟩
theorem ok_first_part {f : Addr} {fd : FuncData} (B : Bs mg) (r_rows_of : Ready P w K mg base ca "rows_of" 1 2 m_rows_of) (r_any_left : Ready P w K mg base ca "any_left" 1 1 m_any_left) (r_divided : Ready P w K mg base ca "divided" 2 3 m_divided) (F : FunD K "first_part" "first_part" (defArgs (top 15)) (defBody (top 15)) (defScope (top 15)) [] [] f fd) (g : mg "first_part" = some (.ref f)) : Ready P w K mg base ca "first_part" 3 2 m_first_part :=
  ready_mk F g sc_first_part rfl rfl (fun _ _ _ _ _ _ us hl => match us, hl with | [_, _], _ => rfl) fun cdv A outer s H E hr =>
  have tk := takes_of (X := cxOf (L2.CX P w) P w K mg base ["prime", "rule", "many", "other"] "first_part" (defScope (top 15)) f cdv A outer s H E) rfl rfl rfl rfl
  have nd := (sc_first_part).nd
  (ss_cons (ss_for (T := (.nm 2)) (passes_of rfl) rfl (si_range2 rfl B.range (sa_cons se_int (sa_cons (se_bin od_add (se_bin od_fdiv (se_callB cd_len rfl B.len (by decide +kernel) (sa_cons (se_v 1) sa_nil)) se_int) se_int) sa_nil))) (pg_name (i := 2) nd rfl (.inl rfl)) (ss_one (ss_for (T := (.nm 3)) (passes_of rfl) rfl (si_val (se_own (hr.mono (by decide)) tk r_rows_of rfl (sa_cons (se_v 0) (sa_cons (se_v 2) sa_nil)))) (pg_name (i := 3) nd rfl (.inl rfl)) (ss_one (ss_if (st_not (st_truth (se_own (hr.mono (by decide)) tk r_any_left rfl (sa_cons (se_ix (se_own (hr.mono (by decide)) tk r_divided rfl (sa_cons (se_v 0) (sa_cons (se_v 1) (sa_cons (se_v 3) sa_nil)))) se_int) sa_nil)))) (ss_one (ss_retO 3)) ss_nil)))))
  (ss_one (ss_retO 1)))
theorem sc_is_whole : FnScope ["prime", "rule"] ["prime", "rule"] (defScope (top 17)) := ⟨rfl, rfl, rfl, by decide +kernel, rfl, by decide +kernel, by decide +kernel⟩
theorem ok_is_whole {f : Addr} {fd : FuncData} (B : Bs mg) (r_first_part : Ready P w K mg base ca "first_part" 3 2 m_first_part) (F : FunD K "is_whole" "is_whole" (defArgs (top 17)) (defBody (top 17)) (defScope (top 17)) [] [] f fd) (g : mg "is_whole" = some (.ref f)) : Ready P w K mg base ca "is_whole" 4 2 m_is_whole :=
  ready_mk F g sc_is_whole rfl rfl (fun _ _ _ _ _ _ us hl => match us, hl with | [_, _], _ => rfl) fun cdv A outer s H E hr =>
  have tk := takes_of (X := cxOf (L2.CX P w) P w K mg base ["prime", "rule"] "is_whole" (defScope (top 17)) f cdv A outer s H E) rfl rfl rfl rfl
  have nd := (sc_is_whole).nd
  (ss_one (ss_ret (se_cmp (od_eq hr.units) (se_own (hr.mono (by decide)) tk r_first_part rfl (sa_cons (se_v 0) (sa_cons (se_v 1) sa_nil))) (se_v 1) (nomark _))))
theorem sc_look_prime : FnScope ["prime"] ["prime"] (defScope (top 18)) := ⟨rfl, rfl, rfl, by decide +kernel, rfl, by decide +kernel, by decide +kernel⟩
theorem ok_look_prime {f : Addr} {fd : FuncData} (B : Bs mg) (r_is_prime : Ready P w K mg base ca "is_prime" 2 1 m_is_prime) (X_BadWhole : Xc K mg ca .BadWhole "BadWhole") (F : FunD K "look_prime" "look_prime" (defArgs (top 18)) (defBody (top 18)) (defScope (top 18)) [] [] f fd) (g : mg "look_prime" = some (.ref f)) : Ready P w K mg base ca "look_prime" 3 1 m_look_prime :=
  ready_mk F g sc_look_prime rfl rfl (fun _ _ _ _ _ _ us hl => match us, hl with | [_], _ => rfl) fun cdv A outer s H E hr =>
  have tk := takes_of (X := cxOf (L2.CX P w) P w K mg base ["prime"] "look_prime" (defScope (top 18)) f cdv A outer s H E) rfl rfl rfl rfl
  have nd := (sc_look_prime).nd
  (ss_one (ss_if (st_not (st_truth (se_own (hr.mono (by decide)) tk r_is_prime rfl (sa_cons (se_v 0) sa_nil)))) (ss_one (ss_raiseX (c := .BadWhole) rfl tk X_BadWhole rfl)) ss_nil))
theorem sc_parts : FnScope ["prime", "rule", "left", "found", "part"] ["prime", "rule"] (defScope (top 19)) := ⟨rfl, rfl, rfl, by decide +kernel, rfl, by decide +kernel, by decide +kernel⟩
theorem ok_parts {f : Addr} {fd : FuncData} (B : Bs mg) (r_look_prime : Ready P w K mg base ca "look_prime" 3 1 m_look_prime) (r_are_figures : Ready P w K mg base ca "are_figures" 2 4 m_are_figures) (r_first_part : Ready P w K mg base ca "first_part" 3 2 m_first_part) (r_divided : Ready P w K mg base ca "divided" 2 3 m_divided) (X_BadRow : Xc K mg ca .BadRow "BadRow") (C : Cs K mg) (F : FunD K "parts" "parts" (defArgs (top 19)) (defBody (top 19)) (defScope (top 19)) [] [] f fd) (g : mg "parts" = some (.ref f)) : Ready P w K mg base ca "parts" 4 2 m_parts :=
  ready_mk F g sc_parts rfl rfl (fun _ _ _ _ _ _ us hl => match us, hl with | [_, _], _ => rfl) fun cdv A outer s H E hr =>
  have tk := takes_of (X := cxOf (L2.CX P w) P w K mg base ["prime", "rule", "left", "found", "part"] "parts" (defScope (top 19)) f cdv A outer s H E) rfl rfl rfl rfl
  have nd := (sc_parts).nd
  (ss_cons (ss_expr (se_own (hr.mono (by decide)) tk r_look_prime rfl (sa_cons (se_v 0) sa_nil)))
  (ss_cons (ss_if (st_not (st_truth (se_own (hr.mono (by decide)) tk r_are_figures rfl (sa_cons (se_v 0) (sa_cons (se_v 1) (sa_cons se_int (sa_cons (se_gint rfl C.MOST_FIGURES) sa_nil))))))) (ss_one (ss_raiseX (c := .BadRow) rfl tk X_BadRow rfl)) ss_nil)
  (ss_cons (ss_asg (i := 2) nd rfl (.inl rfl) (se_v 1))
  (ss_cons (ss_asg (i := 3) nd rfl (.inl rfl) (se_lst sa_nil))
  (ss_cons (ss_while 1000 (passes_of rfl) (st_truth (se_v 2)) (ss_cons (ss_asg (i := 4) nd rfl (.inl rfl) (se_own (hr.mono (by decide)) tk r_first_part rfl (sa_cons (se_v 0) (sa_cons (se_v 2) sa_nil))))
  (ss_cons (ss_if (SW.st (sw_and (st_truth (se_v 3)) (sw_and1 (st_cmp (od_eq hr.units) (se_ix (se_ix (se_v 3) (se_neg se_int)) se_int) (se_v 4) (nomark _))))) (ss_one (ss_set (i := 3) rfl (.inl rfl) (se_neg se_int) (se_tup (sa_cons (se_v 4) (sa_cons (se_bin od_add (se_ix (se_ix (se_v 3) (se_neg se_int)) se_int) se_int) sa_nil))))) (ss_one (ss_app (i := 3) rfl (.inl rfl) (se_tup (sa_cons (se_v 4) (sa_cons se_int sa_nil))))))
  (ss_one (ss_asg (i := 2) nd rfl (.inl rfl) (se_ix (se_own (hr.mono (by decide)) tk r_divided rfl (sa_cons (se_v 0) (sa_cons (se_v 2) (sa_cons (se_v 4) sa_nil)))) se_int))))))
  (ss_one (ss_retO 3)))))))
theorem sc_rules : FnScope ["prime", "many", "rule"] ["prime", "many"] (defScope (top 20)) := ⟨rfl, rfl, rfl, by decide +kernel, rfl, by decide +kernel, by decide +kernel⟩
theorem ok_rules {f : Addr} {fd : FuncData} (B : Bs mg) (r_look_prime : Ready P w K mg base ca "look_prime" 3 1 m_look_prime) (r_is_within : Ready P w K mg base ca "is_within" 1 3 m_is_within) (r_times_as : Ready P w K mg base ca "times_as" 1 2 m_times_as) (r_rows_of : Ready P w K mg base ca "rows_of" 1 2 m_rows_of) (r_is_whole : Ready P w K mg base ca "is_whole" 4 2 m_is_whole) (X_BadWhole : Xc K mg ca .BadWhole "BadWhole") (C : Cs K mg) (F : FunD K "rules" "rules" (defArgs (top 20)) (defBody (top 20)) (defScope (top 20)) [] [] f fd) (g : mg "rules" = some (.ref f)) : Ready P w K mg base ca "rules" 5 2 m_rules :=
  ready_mk F g sc_rules rfl rfl (fun _ _ _ _ _ _ us hl => match us, hl with | [_, _], _ => rfl) fun cdv A outer s H E hr =>
  have tk := takes_of (X := cxOf (L2.CX P w) P w K mg base ["prime", "many", "rule"] "rules" (defScope (top 20)) f cdv A outer s H E) rfl rfl rfl rfl
  have nd := (sc_rules).nd
  (ss_cons (ss_expr (se_own (hr.mono (by decide)) tk r_look_prime rfl (sa_cons (se_v 0) sa_nil)))
  (ss_cons (ss_if (SW.st (sw_or (st_not (st_truth (se_own (hr.mono (by decide)) tk r_is_within rfl (sa_cons (se_v 1) (sa_cons se_int (sa_cons (se_gint rfl C.MOST_FIGURES) sa_nil)))))) (sw_or1 (st_cmp od_gt (se_own (hr.mono (by decide)) tk r_times_as rfl (sa_cons (se_v 0) (sa_cons (se_v 1) sa_nil))) (se_gint rfl C.MOST_NUMBERS) (nomark _))))) (ss_one (ss_raiseX (c := .BadWhole) rfl tk X_BadWhole rfl)) ss_nil)
  (ss_one (ss_ret (se_lc (own := [("rule", 2)]) (T := (.nm 2)) rfl nd (si_val (se_own (hr.mono (by decide)) tk r_rows_of rfl (sa_cons (se_v 0) (sa_cons (se_v 1) sa_nil)))) (blkOk_by (N := ["prime", "many", "rule"]) (sc := defScope (top 20)) (by decide +kernel)) (fun _ _ _ _ _ => (pg_name (i := 2) nd rfl (.inl rfl))) (fun _ _ _ _ _ => (spt_one (st_truth (se_own (hr.mono (by decide)) takes0 r_is_whole rfl (sa_cons (se_v 0) (sa_cons (se_v 2) sa_nil)))))) (fun _ _ _ _ _ => (se_v 2)) (by decide))))))
theorem sc__law_cell : FnScope ["script", "k"] ["script", "k"] (defScope (top 22)) := ⟨rfl, rfl, rfl, by decide +kernel, rfl, by decide +kernel, by decide +kernel⟩
theorem ok__law_cell {f : Addr} {fd : FuncData} (B : Bs mg) (F : FunD K "_law_cell" "_law_cell" (defArgs (top 22)) (defBody (top 22)) (defScope (top 22)) [] [] f fd) (g : mg "_law_cell" = some (.ref f)) : Ready P w K mg base ca "_law_cell" 1 2 m__law_cell :=
  ready_mk F g sc__law_cell rfl rfl (fun _ _ _ _ _ _ us hl => match us, hl with | [_, _], _ => rfl) fun cdv A outer s H E hr =>
  have tk := takes_of (X := cxOf (L2.CX P w) P w K mg base ["script", "k"] "_law_cell" (defScope (top 22)) f cdv A outer s H E) rfl rfl rfl rfl
  have nd := (sc__law_cell).nd
  (ss_cons (ss_if (st_cmp od_lt (se_v 1) (se_callB cd_len rfl B.len (by decide +kernel) (sa_cons (se_v 0) sa_nil)) (nomark _)) (ss_one (ss_ret (se_ix (se_v 0) (se_v 1)))) ss_nil)
  (ss_one (ss_ret se_int)))
theorem sc__law_mix : FnScope ["cell", "prime", "many"] ["cell", "prime", "many"] (defScope (top 23)) := ⟨rfl, rfl, rfl, by decide +kernel, rfl, by decide +kernel, by decide +kernel⟩
theorem ok__law_mix {f : Addr} {fd : FuncData} (B : Bs mg) (F : FunD K "_law_mix" "_law_mix" (defArgs (top 23)) (defBody (top 23)) (defScope (top 23)) [] [] f fd) (g : mg "_law_mix" = some (.ref f)) : Ready P w K mg base ca "_law_mix" 1 3 m__law_mix :=
  ready_mk F g sc__law_mix rfl rfl (fun _ _ _ _ _ _ us hl => match us, hl with | [_, _, _], _ => rfl) fun cdv A outer s H E hr =>
  have tk := takes_of (X := cxOf (L2.CX P w) P w K mg base ["cell", "prime", "many"] "_law_mix" (defScope (top 23)) f cdv A outer s H E) rfl rfl rfl rfl
  have nd := (sc__law_mix).nd
  (ss_one (ss_ret (se_bin od_mod (se_bin od_mod (se_bin od_pow (se_bin od_mod (se_bin od_mul (se_v 0) se_int) (se_v 1)) se_int) (se_v 1)) (se_v 2))))
theorem sc__law_whole : FnScope ["found"] ["found"] (defScope (top 24)) := ⟨rfl, rfl, rfl, by decide +kernel, rfl, by decide +kernel, by decide +kernel⟩
theorem ok__law_whole {f : Addr} {fd : FuncData} (B : Bs mg) (F : FunD K "_law_whole" "_law_whole" (defArgs (top 24)) (defBody (top 24)) (defScope (top 24)) [] [] f fd) (g : mg "_law_whole" = some (.ref f)) : Ready P w K mg base ca "_law_whole" 1 1 m__law_whole :=
  ready_mk F g sc__law_whole rfl rfl (fun _ _ _ _ _ _ us hl => match us, hl with | [_], _ => rfl) fun cdv A outer s H E hr =>
  have tk := takes_of (X := cxOf (L2.CX P w) P w K mg base ["found"] "_law_whole" (defScope (top 24)) f cdv A outer s H E) rfl rfl rfl rfl
  have nd := (sc__law_whole).nd
  (ss_one (ss_ret (se_and (se_isi (T := .int) (se_v 0) rfl B.isinstance rfl B.int (by decide +kernel)) (se_one (se_not (se_isi (T := .bool) (se_v 0) rfl B.isinstance rfl B.bool (by decide +kernel)))))))
theorem sc__law_rows : FnScope ["prime", "many", "found", "place", "more", "row", "figure"] ["prime", "many"] (defScope (top 25)) := ⟨rfl, rfl, rfl, by decide +kernel, rfl, by decide +kernel, by decide +kernel⟩
theorem ok__law_rows {f : Addr} {fd : FuncData} (B : Bs mg) (F : FunD K "_law_rows" "_law_rows" (defArgs (top 25)) (defBody (top 25)) (defScope (top 25)) [] [] f fd) (g : mg "_law_rows" = some (.ref f)) : Ready P w K mg base ca "_law_rows" 1 2 m__law_rows :=
  ready_mk F g sc__law_rows rfl rfl (fun _ _ _ _ _ _ us hl => match us, hl with | [_, _], _ => rfl) fun cdv A outer s H E hr =>
  have tk := takes_of (X := cxOf (L2.CX P w) P w K mg base ["prime", "many", "found", "place", "more", "row", "figure"] "_law_rows" (defScope (top 25)) f cdv A outer s H E) rfl rfl rfl rfl
  have nd := (sc__law_rows).nd
  (ss_cons (ss_asg (i := 2) nd rfl (.inl rfl) (se_lst (sa_cons (se_tup sa_nil) sa_nil)))
  (ss_cons (ss_for (T := (.nm 3)) (passes_of rfl) rfl (si_range1 rfl B.range (sa_cons (se_v 1) sa_nil)) (pg_name (i := 3) nd rfl (.inl rfl)) (ss_cons (ss_asg (i := 4) nd rfl (.inl rfl) (se_lst sa_nil))
  (ss_frz 2 (ss_cons (ss_for (T := (.nm 5)) (passes_of rfl) rfl (si_val (se_v 2)) (pg_name (i := 5) nd rfl (.inr rfl)) (ss_one (ss_asg (i := 4) nd rfl (.inl rfl) (se_bin od_add (se_v 4) (se_lc (own := [("figure", 6)]) (T := (.nm 6)) rfl nd (si_range1 rfl B.range (sa_cons (se_v 0) sa_nil)) (blkOk_by (N := ["prime", "many", "found", "place", "more", "row", "figure"]) (sc := defScope (top 25)) (by decide +kernel)) (fun _ _ _ _ _ => (pg_name (i := 6) nd rfl (.inl rfl))) (fun _ _ _ _ _ => spt_nil) (fun _ _ _ _ _ => (se_bin od_add (se_v 5) (se_tup (sa_cons (se_v 6) sa_nil)))) (by decide))))))
  (ss_frz 4 (ss_one (ss_asg (i := 2) nd rfl (.inl rfl) (se_v 4))))))))
  (ss_one (ss_retO 2))))
theorem sc__law_product : FnScope ["prime", "one", "other", "left", "right", "found", "place", "k"] ["prime", "one", "other"] (defScope (top 26)) := ⟨rfl, rfl, rfl, by decide +kernel, rfl, by decide +kernel, by decide +kernel⟩
theorem ok__law_product {f : Addr} {fd : FuncData} (B : Bs mg) (F : FunD K "_law_product" "_law_product" (defArgs (top 26)) (defBody (top 26)) (defScope (top 26)) [] [] f fd) (g : mg "_law_product" = some (.ref f)) : Ready P w K mg base ca "_law_product" 1 3 m__law_product :=
  ready_mk F g sc__law_product rfl rfl (fun _ _ _ _ _ _ us hl => match us, hl with | [_, _, _], _ => rfl) fun cdv A outer s H E hr =>
  have tk := takes_of (X := cxOf (L2.CX P w) P w K mg base ["prime", "one", "other", "left", "right", "found", "place", "k"] "_law_product" (defScope (top 26)) f cdv A outer s H E) rfl rfl rfl rfl
  have nd := (sc__law_product).nd
  (ss_cons (ss_asg (i := 3) nd rfl (.inr rfl) (se_bin od_add (se_callTy cd_list rfl B.list (by decide +kernel) (sa_cons (se_v 1) sa_nil)) (se_lst (sa_cons se_int sa_nil))))
  (ss_cons (ss_asg (i := 4) nd rfl (.inr rfl) (se_bin od_add (se_callTy cd_list rfl B.list (by decide +kernel) (sa_cons (se_v 2) sa_nil)) (se_lst (sa_cons se_int sa_nil))))
  (ss_cons (ss_asg (i := 5) nd rfl (.inl rfl) (se_lst sa_nil))
  (ss_cons (ss_for (T := (.nm 6)) (passes_of rfl) rfl (si_range1 rfl B.range (sa_cons (se_bin od_add (se_callB cd_len rfl B.len (by decide +kernel) (sa_cons (se_v 1) sa_nil)) (se_callB cd_len rfl B.len (by decide +kernel) (sa_cons (se_v 2) sa_nil))) sa_nil)) (pg_name (i := 6) nd rfl (.inr rfl)) (ss_one (ss_app (i := 5) rfl (.inl rfl) (se_bin od_mod (se_callB (cd_sum rfl) rfl B.sum (by decide +kernel) (sa_cons (se_lc (own := [("k", 7)]) (T := (.nm 7)) rfl nd (si_range1 rfl B.range (sa_cons (se_callB cd_len rfl B.len (by decide +kernel) (sa_cons (se_v 3) sa_nil)) sa_nil)) (blkOk_by (N := ["prime", "one", "other", "left", "right", "found", "place", "k"]) (sc := defScope (top 26)) (by decide +kernel)) (fun _ _ _ _ _ => (pg_name (i := 7) nd rfl (.inl rfl))) (fun _ _ _ _ _ => (spt_one (st_chain od_le od_lt se_int (se_bin od_sub (se_v 6) (se_v 7)) (se_callB cd_len rfl B.len (by decide +kernel) (sa_cons (se_v 4) sa_nil))))) (fun _ _ _ _ _ => (se_bin od_mul (se_ix (se_v 3) (se_v 7)) (se_ix (se_v 4) (se_bin od_sub (se_v 6) (se_v 7))))) (by decide)) sa_nil)) (se_v 0)))))
  (ss_one (ss_ret (se_callTy cd_tup rfl B.tuple (by decide +kernel) (sa_cons (se_v 5) sa_nil))))))))
theorem sc__law_is_rule : FnScope ["prime", "rule", "many", "one", "other"] ["prime", "rule"] (defScope (top 27)) := ⟨rfl, rfl, rfl, by decide +kernel, rfl, by decide +kernel, by decide +kernel⟩
theorem ok__law_is_rule {f : Addr} {fd : FuncData} (B : Bs mg) (r__law_rows : Ready P w K mg base ca "_law_rows" 1 2 m__law_rows) (r__law_product : Ready P w K mg base ca "_law_product" 1 3 m__law_product) (F : FunD K "_law_is_rule" "_law_is_rule" (defArgs (top 27)) (defBody (top 27)) (defScope (top 27)) [] [] f fd) (g : mg "_law_is_rule" = some (.ref f)) : Ready P w K mg base ca "_law_is_rule" 2 2 m__law_is_rule :=
  ready_mk F g sc__law_is_rule rfl rfl (fun _ _ _ _ _ _ us hl => match us, hl with | [_, _], _ => rfl) fun cdv A outer s H E hr =>
  have tk := takes_of (X := cxOf (L2.CX P w) P w K mg base ["prime", "rule", "many", "one", "other"] "_law_is_rule" (defScope (top 27)) f cdv A outer s H E) rfl rfl rfl rfl
  have nd := (sc__law_is_rule).nd
  (ss_cons (ss_for (T := (.nm 2)) (passes_of rfl) rfl (si_range2 rfl B.range (sa_cons se_int (sa_cons (se_bin od_add (se_bin od_fdiv (se_callB cd_len rfl B.len (by decide +kernel) (sa_cons (se_v 1) sa_nil)) se_int) se_int) sa_nil))) (pg_name (i := 2) nd rfl (.inl rfl)) (ss_one (ss_for (T := (.nm 3)) (passes_of rfl) rfl (si_val (se_own (hr.mono (by decide)) tk r__law_rows rfl (sa_cons (se_v 0) (sa_cons (se_v 2) sa_nil)))) (pg_name (i := 3) nd rfl (.inl rfl)) (ss_one (ss_for (T := (.nm 4)) (passes_of rfl) rfl (si_val (se_own (hr.mono (by decide)) tk r__law_rows rfl (sa_cons (se_v 0) (sa_cons (se_bin od_sub (se_callB cd_len rfl B.len (by decide +kernel) (sa_cons (se_v 1) sa_nil)) (se_v 2)) sa_nil)))) (pg_name (i := 4) nd rfl (.inl rfl)) (ss_one (ss_if (st_cmp (od_eq hr.units) (se_own (hr.mono (by decide)) tk r__law_product rfl (sa_cons (se_v 0) (sa_cons (se_v 3) (sa_cons (se_v 4) sa_nil)))) (se_v 1) (nomark _)) (ss_one (ss_ret se_bl)) ss_nil)))))))
  (ss_one (ss_ret se_bl)))
theorem sc__law_told : FnScope ["way", "one", "two", "e"] ["way", "one", "two"] (defScope (top 28)) := ⟨rfl, rfl, rfl, by decide +kernel, rfl, by decide +kernel, by decide +kernel⟩
theorem ok__law_told {f : Addr} {fd : FuncData} (B : Bs mg) (r_parts : Ready P w K mg base ca "parts" 4 2 m_parts) (r_rules : Ready P w K mg base ca "rules" 5 2 m_rules) (Q : Qs K mg ca) (F : FunD K "_law_told" "_law_told" (defArgs (top 28)) (defBody (top 28)) (defScope (top 28)) [] [] f fd) (g : mg "_law_told" = some (.ref f)) : Ready P w K mg base ca "_law_told" 6 3 m__law_told :=
  ready_mk F g sc__law_told rfl rfl (fun _ _ _ _ _ _ us hl => match us, hl with | [_, _, _], _ => rfl) fun cdv A outer s H E hr =>
  have tk := takes_of (X := cxOf (L2.CX P w) P w K mg base ["way", "one", "two", "e"] "_law_told" (defScope (top 28)) f cdv A outer s H E) rfl rfl rfl rfl
  have nd := (sc__law_told).nd
  (ss_cons (ss_try (i := 3) (L := 4) (catches := (tabX [.BadWhole, .BadRow] none)) rfl rfl nd rfl rfl rfl ⟨rfl, by decide, .inl Q.g_FieldError⟩ tk Q.exm_FieldError
  (fun W1 pn xe tk po => (ss_one (ss_if (st_cmp (od_eq hr.units) (se_v 0) se_int (nomark _)) (ss_one (ss_expr (se_own (hr.mono (by decide)) tk r_parts rfl (sa_cons (se_v 1) (sa_cons (se_v 2) sa_nil))))) (ss_one (ss_expr (se_own (hr.mono (by decide)) tk r_rules rfl (sa_cons (se_v 1) (sa_cons (se_v 2) sa_nil))))))))
  (fun c a oe pn hz hf => (ss_one (ss_ret (se_lst (sa_cons (se_isE (i := 3) (tab := (tabX [.BadWhole, .BadRow] (some .BadWhole))) hz hf rfl (.inl rfl) rfl B.isinstance (pe_glob (v := .ref (He.ga K "BadWhole")) rfl Q.g_BadWhole rfl) (fun _ h => h) (Q.kit_BadWhole c)) (sa_cons (se_isE (i := 3) (tab := (tabX [.BadWhole, .BadRow] (some .BadRow))) hz hf rfl (.inl rfl) rfl B.isinstance (pe_glob (v := .ref (He.ga K "BadRow")) rfl Q.g_BadRow rfl) (fun _ h => h) (Q.kit_BadRow c)) (sa_cons (se_isE (i := 3) (tab := (tabX [.BadWhole, .BadRow] none)) hz hf rfl (.inl rfl) rfl B.isinstance (pe_bltn (v := .ty "ValueError") rfl Q.g_ValueError (by decide +kernel) rfl) (fun _ h => h) (Q.kit_ValueError c)) sa_nil))))))))
  (ss_one (ss_ret (se_lst sa_nil))))
theorem sc__law_refused : FnScope ["script", "prime", "odd"] ["script", "prime"] (defScope (top 29)) := ⟨rfl, rfl, rfl, by decide +kernel, rfl, by decide +kernel, by decide +kernel⟩
theorem ok__law_refused {f : Addr} {fd : FuncData} (B : Bs mg) (r__law_told : Ready P w K mg base ca "_law_told" 6 3 m__law_told) (r__law_cell : Ready P w K mg base ca "_law_cell" 1 2 m__law_cell) (F : FunD K "_law_refused" "_law_refused" (defArgs (top 29)) (defBody (top 29)) (defScope (top 29)) [] [] f fd) (g : mg "_law_refused" = some (.ref f)) : Ready P w K mg base ca "_law_refused" 7 2 m__law_refused :=
  ready_mk F g sc__law_refused rfl rfl (fun _ _ _ _ _ _ us hl => match us, hl with | [_, _], _ => rfl) fun cdv A outer s H E hr =>
  have tk := takes_of (X := cxOf (L2.CX P w) P w K mg base ["script", "prime", "odd"] "_law_refused" (defScope (top 29)) f cdv A outer s H E) rfl rfl rfl rfl
  have nd := (sc__law_refused).nd
  (ss_cons (ss_asg (i := 2) nd rfl (.inl rfl) (se_ix (se_lst (sa_cons se_non (sa_cons se_int (sa_cons se_int (sa_cons se_int (sa_cons se_int (sa_cons se_bl (sa_cons se_str sa_nil)))))))) (se_bin od_mod (se_own (hr.mono (by decide)) tk r__law_cell rfl (sa_cons (se_v 0) (sa_cons se_int sa_nil))) se_int)))
  (ss_cons (ss_if (SW.st (sw_or (st_cmp (od_ne hr.units) (se_own (hr.mono (by decide)) tk r__law_told rfl (sa_cons se_int (sa_cons (se_v 2) (sa_cons se_non sa_nil)))) (se_lst (sa_cons se_bl (sa_cons se_bl (sa_cons se_bl sa_nil)))) (nomark _)) (sw_or1 (st_cmp (od_ne hr.units) (se_own (hr.mono (by decide)) tk r__law_told rfl (sa_cons se_int (sa_cons (se_v 2) (sa_cons se_non sa_nil)))) (se_lst (sa_cons se_bl (sa_cons se_bl (sa_cons se_bl sa_nil)))) (nomark _))))) (ss_one (ss_ret se_bl)) ss_nil)
  (ss_cons (ss_asg (i := 2) nd rfl (.inl rfl) (se_ix (se_lst (sa_cons se_non (sa_cons (se_tup sa_nil) (sa_cons (se_lst (sa_cons se_int sa_nil)) (sa_cons (se_tup (sa_cons (se_v 1) sa_nil)) (sa_cons (se_tup (sa_cons (se_neg se_int) sa_nil)) (sa_cons (se_tup (sa_cons se_bl sa_nil)) (sa_cons (se_tup (sa_cons se_str sa_nil)) (sa_cons (se_bin od_mul (se_tup (sa_cons se_int sa_nil)) se_int) sa_nil))))))))) (se_bin od_mod (se_own (hr.mono (by decide)) tk r__law_cell rfl (sa_cons (se_v 0) (sa_cons se_int sa_nil))) se_int)))
  (ss_cons (ss_if (st_cmp (od_ne hr.units) (se_own (hr.mono (by decide)) tk r__law_told rfl (sa_cons se_int (sa_cons (se_v 1) (sa_cons (se_v 2) sa_nil)))) (se_lst (sa_cons se_bl (sa_cons se_bl (sa_cons se_bl sa_nil)))) (nomark _)) (ss_one (ss_ret se_bl)) ss_nil)
  (ss_cons (ss_asg (i := 2) nd rfl (.inl rfl) (se_ix (se_lst (sa_cons se_non (sa_cons se_int (sa_cons se_int (sa_cons se_bl (sa_cons se_str (sa_cons (se_lst (sa_cons se_int sa_nil)) sa_nil))))))) (se_bin od_mod (se_own (hr.mono (by decide)) tk r__law_cell rfl (sa_cons (se_v 0) (sa_cons se_int sa_nil))) se_int)))
  (ss_one (ss_ret (se_and (se_cmp (od_eq hr.units) (se_own (hr.mono (by decide)) tk r__law_told rfl (sa_cons se_int (sa_cons (se_v 1) (sa_cons (se_v 2) sa_nil)))) (se_lst (sa_cons se_bl (sa_cons se_bl (sa_cons se_bl sa_nil)))) (nomark _)) (se_one (se_cmp (od_eq hr.units) (se_own (hr.mono (by decide)) tk r__law_told rfl (sa_cons se_int (sa_cons se_int (sa_cons se_int sa_nil)))) (se_lst (sa_cons se_bl (sa_cons se_bl (sa_cons se_bl sa_nil)))) (nomark _)))))))))))
theorem sc_law : FnScope ["script", "prime", "most", "long", "row", "found", "whole_row", "keys", "many", "k", "part", "often", "time", "rule"] ["script"] (defScope (top 30)) := ⟨rfl, rfl, rfl, by decide +kernel, rfl, by decide +kernel, by decide +kernel⟩
theorem ok_law {f : Addr} {fd : FuncData} (B : Bs mg) (r_parts : Ready P w K mg base ca "parts" 4 2 m_parts) (r__law_refused : Ready P w K mg base ca "_law_refused" 7 2 m__law_refused) (r_rules : Ready P w K mg base ca "rules" 5 2 m_rules) (r__law_cell : Ready P w K mg base ca "_law_cell" 1 2 m__law_cell) (r__law_mix : Ready P w K mg base ca "_law_mix" 1 3 m__law_mix) (r__law_product : Ready P w K mg base ca "_law_product" 1 3 m__law_product) (r__law_whole : Ready P w K mg base ca "_law_whole" 1 1 m__law_whole) (r__law_is_rule : Ready P w K mg base ca "_law_is_rule" 2 2 m__law_is_rule) (r__law_rows : Ready P w K mg base ca "_law_rows" 1 2 m__law_rows) (F : FunD K "law" "law" (defArgs (top 30)) (defBody (top 30)) (defScope (top 30)) [] [] f fd) : FnOk P w K mg base (L2.CX P w) 8 f fd ["script"] (spF ca K 1 m_law) :=
  fnok_mk F sc_law rfl rfl fun cdv A outer s H E hr =>
  have tk := takes_of (X := cxOf (L2.CX P w) P w K mg base ["script", "prime", "most", "long", "row", "found", "whole_row", "keys", "many", "k", "part", "often", "time", "rule"] "law" (defScope (top 30)) f cdv A outer s H E) rfl rfl rfl rfl
  have nd := (sc_law).nd
  (ss_cons (ss_asg (i := 1) nd rfl (.inr rfl) (se_ix (se_lst (sa_cons se_int (sa_cons se_int (sa_cons se_int (sa_cons se_int sa_nil))))) (se_bin od_mod (se_own (hr.mono (by decide)) tk r__law_cell rfl (sa_cons (se_v 0) (sa_cons se_int sa_nil))) se_int)))
  (ss_cons (ss_if (st_not (st_truth (se_own (hr.mono (by decide)) tk r__law_refused rfl (sa_cons (se_v 0) (sa_cons (se_v 1) sa_nil))))) (ss_one (ss_ret se_bl)) ss_nil)
  (ss_cons (ss_asg (i := 2) nd rfl (.inl rfl) (se_ix (se_lst (sa_cons se_int (sa_cons se_int (sa_cons se_int (sa_cons se_int sa_nil))))) (se_bin od_mod (se_own (hr.mono (by decide)) tk r__law_cell rfl (sa_cons (se_v 0) (sa_cons se_int sa_nil))) se_int)))
  (ss_cons (ss_asg (i := 3) nd rfl (.inl rfl) (se_bin od_add se_int (se_bin od_mod (se_own (hr.mono (by decide)) tk r__law_cell rfl (sa_cons (se_v 0) (sa_cons se_int sa_nil))) (se_v 2))))
  (ss_cons (ss_asg (i := 4) nd rfl (.inl rfl) (se_callTy cd_tup rfl B.tuple (by decide +kernel) (sa_cons (se_lc (own := [("k", 9)]) (T := (.nm 9)) rfl nd (si_range1 rfl B.range (sa_cons (se_v 3) sa_nil)) (blkOk_by (N := ["script", "prime", "most", "long", "row", "found", "whole_row", "keys", "many", "k", "part", "often", "time", "rule"]) (sc := defScope (top 30)) (by decide +kernel)) (fun _ _ _ _ _ => (pg_name (i := 9) nd rfl (.inl rfl))) (fun _ _ _ _ _ => spt_nil) (fun _ _ _ _ _ => (se_own (hr.mono (by decide)) takes0 r__law_mix rfl (sa_cons (se_bin od_pow (se_bin od_add (se_own (hr.mono (by decide)) takes0 r__law_cell rfl (sa_cons (se_v 0) (sa_cons se_int sa_nil))) (se_bin od_mul se_int (se_v 9))) se_int) (sa_cons se_int (sa_cons (se_v 1) sa_nil))))) (by decide)) sa_nil)))
  (ss_cons (ss_if (st_cmp (od_eq hr.units) (se_bin od_mod (se_own (hr.mono (by decide)) tk r__law_cell rfl (sa_cons (se_v 0) (sa_cons se_int sa_nil))) se_int) se_int (nomark _)) (ss_cons (ss_asg (i := 4) nd rfl (.inl rfl) (se_tup sa_nil))
  (ss_one (ss_for (T := (.nm 9)) (passes_of rfl) rfl (si_range1 rfl B.range (sa_cons (se_bin od_add se_int (se_bin od_mod (se_own (hr.mono (by decide)) tk r__law_cell rfl (sa_cons (se_v 0) (sa_cons se_int sa_nil))) se_int)) sa_nil)) (pg_name (i := 9) nd rfl (.inl rfl)) (ss_one (ss_asg (i := 4) nd rfl (.inl rfl) (se_own (hr.mono (by decide)) tk r__law_product rfl (sa_cons (se_v 1) (sa_cons (se_v 4) (sa_cons (se_tup (sa_cons (se_own (hr.mono (by decide)) tk r__law_mix rfl (sa_cons (se_bin od_add (se_own (hr.mono (by decide)) tk r__law_cell rfl (sa_cons (se_v 0) (sa_cons se_int sa_nil))) (se_bin od_mul se_int (se_v 9))) (sa_cons se_int (sa_cons (se_v 1) sa_nil)))) sa_nil)) sa_nil))))))))) ss_nil)
  (ss_cons (ss_asg (i := 5) nd rfl (.inl rfl) (se_own (hr.mono (by decide)) tk r_parts rfl (sa_cons (se_v 1) (sa_cons (se_v 4) sa_nil))))
  (ss_cons (ss_asg (i := 6) nd rfl (.inl rfl) (se_tup sa_nil))
  (ss_cons (ss_asg (i := 7) nd rfl (.inl rfl) (se_lst sa_nil))
  (ss_frz 5 (ss_cons (ss_for (T := (.tp [10, 11])) (passes_of rfl) rfl (si_val (se_v 5)) (pg_tup rfl (pgs_cons (pg_name (i := 10) nd rfl (.inl rfl)) (pgs_cons (pg_name (i := 11) nd rfl (.inl rfl)) pgs_nil))) (ss_cons (ss_app (i := 7) rfl (.inl rfl) (se_tup (sa_cons (se_callB cd_len rfl B.len (by decide +kernel) (sa_cons (se_v 10) sa_nil)) (sa_cons (se_v 10) sa_nil))))
  (ss_cons (ss_if (SW.st (sw_or (st_not (st_truth (se_own (hr.mono (by decide)) tk r__law_whole rfl (sa_cons (se_v 11) sa_nil)))) (sw_or (st_cmp od_lt (se_v 11) se_int (nomark _)) (sw_or (st_cmp od_lt (se_callB cd_len rfl B.len (by decide +kernel) (sa_cons (se_v 10) sa_nil)) se_int (nomark _)) (sw_or1 (st_not (st_truth (se_own (hr.mono (by decide)) tk r__law_is_rule rfl (sa_cons (se_v 1) (sa_cons (se_v 10) sa_nil)))))))))) (ss_one (ss_ret se_bl)) ss_nil)
  (ss_one (ss_for (T := (.nm 12)) (passes_of rfl) rfl (si_range1 rfl B.range (sa_cons (se_v 11) sa_nil)) (pg_name (i := 12) nd rfl (.inl rfl)) (ss_one (ss_asg (i := 6) nd rfl (.inl rfl) (se_own (hr.mono (by decide)) tk r__law_product rfl (sa_cons (se_v 1) (sa_cons (se_v 6) (sa_cons (se_v 10) sa_nil)))))))))))
  (ss_cons (ss_if (SW.st (sw_or (st_not (st_truth (se_isi (T := .list) (se_v 5) rfl B.isinstance rfl B.list (by decide +kernel)))) (sw_or (st_cmp (od_ne hr.units) (se_v 7) (se_sortSetK rfl (Nat.lt_of_succ_lt (units65 hr)) rfl B.sorted rfl B.set (se_v 7)) (nomark _)) (sw_or1 (st_cmp (od_ne hr.units) (se_v 6) (se_v 4) (nomark _)))))) (ss_one (ss_ret se_bl)) ss_nil)
  (ss_cons (ss_asg (i := 8) nd rfl (.inl rfl) (se_bin od_add se_int (se_bin od_mod (se_own (hr.mono (by decide)) tk r__law_cell rfl (sa_cons (se_v 0) (sa_cons se_int sa_nil))) (se_ix (se_lst (sa_cons se_int (sa_cons se_int (sa_cons se_int (sa_cons se_int sa_nil))))) (se_bin od_mod (se_own (hr.mono (by decide)) tk r__law_cell rfl (sa_cons (se_v 0) (sa_cons se_int sa_nil))) se_int)))))
  (ss_one (ss_ret (se_cmp (od_eq hr.units) (se_own (hr.mono (by decide)) tk r_rules rfl (sa_cons (se_v 1) (sa_cons (se_v 8) sa_nil))) (se_lc (own := [("rule", 13)]) (T := (.nm 13)) rfl nd (si_val (se_own (hr.mono (by decide)) tk r__law_rows rfl (sa_cons (se_v 1) (sa_cons (se_v 8) sa_nil)))) (blkOk_by (N := ["script", "prime", "most", "long", "row", "found", "whole_row", "keys", "many", "k", "part", "often", "time", "rule"]) (sc := defScope (top 30)) (by decide +kernel)) (fun _ _ _ _ _ => (pg_name (i := 13) nd rfl (.inl rfl))) (fun _ _ _ _ _ => (spt_one (st_truth (se_own (hr.mono (by decide)) takes0 r__law_is_rule rfl (sa_cons (se_v 1) (sa_cons (se_v 13) sa_nil)))))) (fun _ _ _ _ _ => (se_v 13)) (by decide)) (nomark _)))))))))))))))))
end
end FM

namespace FM
open PySem PySem.Spec PyProof.Rows L2 FS
theorem facts {P : Program} {w : World} {K : PySem.W.Frag} {h : Heap} {mg : Str → Option Value} {f : Addr} (X : K.In h) (G : h.Ns mainGlobals mg) (hfa : mg ("law" : Str) = some (.ref f)) (c : He.SaysX fa fn [] [] ex w h K) :
    ∃ fd : FuncData, (∀ (s : Shared) (v : Value), BindsTo s fd ⟨[v], []⟩ [("script", v)]) ∧ ∀ base : Heap, K.In base → base.Ns mainGlobals mg → FnOk P w K mg base (L2.CX P w) 8 f fd ["script"] (spF (fun c => He.ga K c.nm) K 1 m_law) := by
  have m := c.more
  obtain ⟨e0, m⟩ := He.ba m
  obtain ⟨e1, m⟩ := He.ba m
  obtain ⟨e2, m⟩ := He.ba m
  obtain ⟨e3, m⟩ := He.ba m
  obtain ⟨e4, m⟩ := He.ba m
  have e5 := m
  have B : Bs mg := ⟨(He.free_ok X G (c.t.d.fact 0 (f := .free "len") rfl)), (He.free_ok X G (c.t.d.fact 1 (f := .free "range") rfl)), (He.free_ok X G (c.t.d.fact 2 (f := .free "list") rfl)), (He.free_ok X G (c.t.d.fact 3 (f := .free "tuple") rfl)), (He.free_ok X G (c.t.d.fact 4 (f := .free "int") rfl)), (He.free_ok X G (c.t.d.fact 5 (f := .free "max") rfl)), (He.free_ok X G (c.t.d.fact 6 (f := .free "min") rfl)), (He.free_ok X G (c.t.d.fact 7 (f := .free "sum") rfl)), (He.free_ok X G (c.t.d.fact 8 (f := .free "str") rfl)), (He.free_ok X G (c.t.d.fact 9 (f := .free "isinstance") rfl)), (He.free_ok X G (c.t.d.fact 10 (f := .free "enumerate") rfl)), (He.free_ok X G (c.t.d.fact 11 (f := .free "zip") rfl)), (He.free_ok X G (c.t.d.fact 12 (f := .free "sorted") rfl)), (He.free_ok X G (c.t.d.fact 13 (f := .free "set") rfl)), (He.free_ok X G (c.t.d.fact 14 (f := .free "bool") rfl)), (He.free_ok X G (c.t.d.fact 15 (f := .free "dict") rfl))⟩
  have X_BadRow : Xc K mg (fun c => He.ga K c.nm) .BadRow "BadRow" := ⟨(He.glo_ok X G (c.t.d.fact 16 (f := .glo "BadRow") rfl)), (He.exc_ok (c.t.d.fact 17 (f := .exc "BadRow") rfl)).1, (He.exc_ok (c.t.d.fact 17 (f := .exc "BadRow") rfl)).2.1, (He.exc_ok (c.t.d.fact 17 (f := .exc "BadRow") rfl)).2.2.1, (He.exc_ok (c.t.d.fact 17 (f := .exc "BadRow") rfl)).2.2.2⟩
  have X_BadWhole : Xc K mg (fun c => He.ga K c.nm) .BadWhole "BadWhole" := ⟨(He.glo_ok X G (c.t.d.fact 18 (f := .glo "BadWhole") rfl)), (He.exc_ok (c.t.d.fact 19 (f := .exc "BadWhole") rfl)).1, (He.exc_ok (c.t.d.fact 19 (f := .exc "BadWhole") rfl)).2.1, (He.exc_ok (c.t.d.fact 19 (f := .exc "BadWhole") rfl)).2.2.1, (He.exc_ok (c.t.d.fact 19 (f := .exc "BadWhole") rfl)).2.2.2⟩
  have C : Cs K mg := ⟨(He.glo_ok X G (c.t.d.fact 20 (f := .glo "PRIMES") rfl)), fun H => He.tupB_ok (vs := [.int 2, .int 3, .int 5, .int 7]) e0 H, He.int_ok X G (c.t.d.fact 21 (f := .int "MOST_NUMBERS" 256) rfl), He.int_ok X G (c.t.d.fact 22 (f := .int "MOST_FIGURES" 8) rfl)⟩
  have Q : Qs K mg (fun c => He.ga K c.nm) := ⟨(He.glo_ok X G (c.t.d.fact 16 (f := .glo "BadRow") rfl)), (He.glo_ok X G (c.t.d.fact 18 (f := .glo "BadWhole") rfl)), (He.glo_ok X G (c.t.d.fact 23 (f := .glo "FieldError") rfl)), (He.free_ok X G (c.t.d.fact 24 (f := .free "ValueError") rfl)), exm_of1 e1, kit_of1 e2 e3, kit_of1 e4 e3, kit_of1 e5 e3⟩
  obtain ⟨fd_is_within, F_is_within⟩ := c.t.d.def_ 0 (d := d_is_within) rfl
  obtain ⟨fd_is_prime, F_is_prime⟩ := c.t.d.def_ 1 (d := d_is_prime) rfl
  obtain ⟨fd_are_figures, F_are_figures⟩ := c.t.d.def_ 2 (d := d_are_figures) rfl
  obtain ⟨fd_times_as, F_times_as⟩ := c.t.d.def_ 3 (d := d_times_as) rfl
  obtain ⟨fd_full, F_full⟩ := c.t.d.def_ 4 (d := d_full) rfl
  obtain ⟨fd_divided, F_divided⟩ := c.t.d.def_ 5 (d := d_divided) rfl
  obtain ⟨fd_rows_of, F_rows_of⟩ := c.t.d.def_ 6 (d := d_rows_of) rfl
  obtain ⟨fd_any_left, F_any_left⟩ := c.t.d.def_ 8 (d := d_any_left) rfl
  obtain ⟨fd_first_part, F_first_part⟩ := c.t.d.def_ 7 (d := d_first_part) rfl
  obtain ⟨fd_is_whole, F_is_whole⟩ := c.t.d.def_ 9 (d := d_is_whole) rfl
  obtain ⟨fd_look_prime, F_look_prime⟩ := c.t.d.def_ 10 (d := d_look_prime) rfl
  obtain ⟨fd_parts, F_parts⟩ := c.t.d.def_ 11 (d := d_parts) rfl
  obtain ⟨fd_rules, F_rules⟩ := c.t.d.def_ 12 (d := d_rules) rfl
  obtain ⟨fd__law_cell, F__law_cell⟩ := c.t.d.def_ 13 (d := d__law_cell) rfl
  obtain ⟨fd__law_mix, F__law_mix⟩ := c.t.d.def_ 14 (d := d__law_mix) rfl
  obtain ⟨fd__law_whole, F__law_whole⟩ := c.t.d.def_ 15 (d := d__law_whole) rfl
  obtain ⟨fd__law_rows, F__law_rows⟩ := c.t.d.def_ 16 (d := d__law_rows) rfl
  obtain ⟨fd__law_product, F__law_product⟩ := c.t.d.def_ 17 (d := d__law_product) rfl
  obtain ⟨fd__law_is_rule, F__law_is_rule⟩ := c.t.d.def_ 18 (d := d__law_is_rule) rfl
  obtain ⟨fd__law_told, F__law_told⟩ := c.t.d.def_ 19 (d := d__law_told) rfl
  obtain ⟨fd__law_refused, F__law_refused⟩ := c.t.d.def_ 20 (d := d__law_refused) rfl
  obtain ⟨fd_law, F_law⟩ := c.t.d.def_ 21 (d := d_law) rfl
  have e := hfa.symm.trans (He.glo_ok X G (c.t.d.fact 25 (f := .glo "law") rfl))
  cases e
  have b := FunD.bindsA (ps := ["script"]) F_law fun _ _ _ _ _ _ us hl => match us, hl with | [_], _ => rfl
  refine ⟨fd_law, fun s v => b s [v] rfl, fun base _ _ => ?_⟩
  have r_is_within : Ready P w K mg base (fun c => He.ga K c.nm) "is_within" 1 3 m_is_within := ok_is_within B F_is_within (He.glo_ok X G (c.t.d.fact 26 (f := .glo "is_within") rfl))
  have r_is_prime : Ready P w K mg base (fun c => He.ga K c.nm) "is_prime" 2 1 m_is_prime := ok_is_prime B r_is_within C F_is_prime (He.glo_ok X G (c.t.d.fact 27 (f := .glo "is_prime") rfl))
  have r_are_figures : Ready P w K mg base (fun c => He.ga K c.nm) "are_figures" 2 4 m_are_figures := ok_are_figures B r_is_within F_are_figures (He.glo_ok X G (c.t.d.fact 28 (f := .glo "are_figures") rfl))
  have r_times_as : Ready P w K mg base (fun c => He.ga K c.nm) "times_as" 1 2 m_times_as := ok_times_as B F_times_as (He.glo_ok X G (c.t.d.fact 29 (f := .glo "times_as") rfl))
  have r_full : Ready P w K mg base (fun c => He.ga K c.nm) "full" 1 1 m_full := ok_full B F_full (He.glo_ok X G (c.t.d.fact 30 (f := .glo "full") rfl))
  have r_divided : Ready P w K mg base (fun c => He.ga K c.nm) "divided" 2 3 m_divided := ok_divided B r_full F_divided (He.glo_ok X G (c.t.d.fact 31 (f := .glo "divided") rfl))
  have r_rows_of : Ready P w K mg base (fun c => He.ga K c.nm) "rows_of" 1 2 m_rows_of := ok_rows_of B F_rows_of (He.glo_ok X G (c.t.d.fact 32 (f := .glo "rows_of") rfl))
  have r_any_left : Ready P w K mg base (fun c => He.ga K c.nm) "any_left" 1 1 m_any_left := ok_any_left B F_any_left (He.glo_ok X G (c.t.d.fact 33 (f := .glo "any_left") rfl))
  have r_first_part : Ready P w K mg base (fun c => He.ga K c.nm) "first_part" 3 2 m_first_part := ok_first_part B r_rows_of r_any_left r_divided F_first_part (He.glo_ok X G (c.t.d.fact 34 (f := .glo "first_part") rfl))
  have r_is_whole : Ready P w K mg base (fun c => He.ga K c.nm) "is_whole" 4 2 m_is_whole := ok_is_whole B r_first_part F_is_whole (He.glo_ok X G (c.t.d.fact 35 (f := .glo "is_whole") rfl))
  have r_look_prime : Ready P w K mg base (fun c => He.ga K c.nm) "look_prime" 3 1 m_look_prime := ok_look_prime B r_is_prime X_BadWhole F_look_prime (He.glo_ok X G (c.t.d.fact 36 (f := .glo "look_prime") rfl))
  have r_parts : Ready P w K mg base (fun c => He.ga K c.nm) "parts" 4 2 m_parts := ok_parts B r_look_prime r_are_figures r_first_part r_divided X_BadRow C F_parts (He.glo_ok X G (c.t.d.fact 37 (f := .glo "parts") rfl))
  have r_rules : Ready P w K mg base (fun c => He.ga K c.nm) "rules" 5 2 m_rules := ok_rules B r_look_prime r_is_within r_times_as r_rows_of r_is_whole X_BadWhole C F_rules (He.glo_ok X G (c.t.d.fact 38 (f := .glo "rules") rfl))
  have r__law_cell : Ready P w K mg base (fun c => He.ga K c.nm) "_law_cell" 1 2 m__law_cell := ok__law_cell B F__law_cell (He.glo_ok X G (c.t.d.fact 39 (f := .glo "_law_cell") rfl))
  have r__law_mix : Ready P w K mg base (fun c => He.ga K c.nm) "_law_mix" 1 3 m__law_mix := ok__law_mix B F__law_mix (He.glo_ok X G (c.t.d.fact 40 (f := .glo "_law_mix") rfl))
  have r__law_whole : Ready P w K mg base (fun c => He.ga K c.nm) "_law_whole" 1 1 m__law_whole := ok__law_whole B F__law_whole (He.glo_ok X G (c.t.d.fact 41 (f := .glo "_law_whole") rfl))
  have r__law_rows : Ready P w K mg base (fun c => He.ga K c.nm) "_law_rows" 1 2 m__law_rows := ok__law_rows B F__law_rows (He.glo_ok X G (c.t.d.fact 42 (f := .glo "_law_rows") rfl))
  have r__law_product : Ready P w K mg base (fun c => He.ga K c.nm) "_law_product" 1 3 m__law_product := ok__law_product B F__law_product (He.glo_ok X G (c.t.d.fact 43 (f := .glo "_law_product") rfl))
  have r__law_is_rule : Ready P w K mg base (fun c => He.ga K c.nm) "_law_is_rule" 2 2 m__law_is_rule := ok__law_is_rule B r__law_rows r__law_product F__law_is_rule (He.glo_ok X G (c.t.d.fact 44 (f := .glo "_law_is_rule") rfl))
  have r__law_told : Ready P w K mg base (fun c => He.ga K c.nm) "_law_told" 6 3 m__law_told := ok__law_told B r_parts r_rules Q F__law_told (He.glo_ok X G (c.t.d.fact 45 (f := .glo "_law_told") rfl))
  have r__law_refused : Ready P w K mg base (fun c => He.ga K c.nm) "_law_refused" 7 2 m__law_refused := ok__law_refused B r__law_told r__law_cell F__law_refused (He.glo_ok X G (c.t.d.fact 46 (f := .glo "_law_refused") rfl))
  exact ok_law B r_parts r__law_refused r_rules r__law_cell r__law_mix r__law_product r__law_whole r__law_is_rule r__law_rows F_law
end FM

open PySem PySem.W PySem.Calls PyProof.Rows
theorem PySem.Challenge.cw_fieldsteps_k03_parts_holds : PySem.Challenge.rw_fieldsteps_k03_parts.Holds := by
  w_on; o_law
  refine HandSHeadRun.head_any (r := FM.Rw) (q := view FM.Rw.prog [30]) (H := FM.hk) (ob := FM.ob) (M := 20000) (loose := FM.loose) (d := HandSHeadRun.topDef FM.Rw.prog 30) (kwd := []) FM.ob_eq
    (by kernel_rfl) (fun s => by kernel_rfl) FM.run (by kernel_rfl) (by kernel_rfl) (by kernel_rfl) (by rfl) (by first | assumption | decide +kernel) (by decide +kernel) ⟨rfl, rfl, rfl, rfl, rfl, by decide +kernel⟩ ?hw ?hc
  case hw => w_witness2
  case hc =>
    refine FS.walk_pure (l := PySem.Challenge.rw_fieldsteps_k03_parts) (n := 63) (k := 8) (x := "script") rfl (by decide) (by kernel_rfl) ⟨rfl, by decide, by decide⟩ ?F FM.law_true
    intro w mg fa h Y G hmg0
    obtain ⟨K, KX, c⟩ := Y
    have hmg : mg ("law" : PySem.Str) = some (.ref fa) := by
      have e : (HandSHeadRun.topDef FM.Rw.prog 30).name = ("law" : PySem.Str) := by kernel_rfl
      rw [← e]
      exact hmg0
    obtain ⟨fd, hb, hF⟩ := FM.facts (P := (PySem.Challenge.rw_fieldsteps_k03_parts).prog) (w := w) KX G hmg c
    exact ⟨K, fd, _, KX, hb, hF⟩
