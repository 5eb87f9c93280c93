import PyProof.Rows.All
import Wide.All
import OpenK.AllK
import Wide.FinOn
import HandS.ForMost
import HandS.Exc
import HandS.Wide
import HandS.WideBits
import HandS.TupAny
import HandS.TupMul
import HandS.Star
import HandS.Conv
import HandS.Deep
import HandS.Zip
import HandS.Style
import HandS.Lambda
import HandS.ExcInit
import HandS.EndTab
import HandS.IsInst
import HandS.TupLe
import HandS.Flow
import PyProof.ReprRoads
import HandS.ExcField
import HandS.ExcOwn
import KE.KExcIs
import HandS.TupSets
import KE.KDictKeyed
import HandS.HeadWalk
import HandS.HeadHook4
import KE.KStateDown
import HandS.Head0
import HandS.Head1
import HandS.Head2
import HandS.HeadEnd
import HandS.HeadHook1
import HandS.HeadHook2
import PySem.Challenge.RW_howevergreat_k89_limits_of_parts_of_term
set_option Elab.async false
set_option linter.all false
set_option maxRecDepth 100000
set_option maxHeartbeats 1000000
/-! Data, a store of changing objects, and how they lie in the layer's heap. -/
namespace Py
open PySem PySem.Spec PyProof.Rows L2

/-- a value: what never changes by value (con: a list that nobody writes; xv: an exception of the class c), all else by its place in the store -/
inductive D where
  | non
  | bl (b : Bool)
  | int (i : Int)
  | str (x : Str)
  | tup (xs : List D)
  | con (xs : List D)
  | ref (n : Nat)
  | xv (c : Nat) (d : D)

/-- what stands in the store -/
inductive O where
  | lst (xs : List D)

abbrev Sto := List O

/-- an exception: its class, its argument -/
abbrev Xc := Nat × D

inductive Res (β : Type) where
  | ok (b : β) (S : Sto)
  | exc (x : Xc) (S : Sto)
  | bad

def Res.bind {β γ : Type} (r : Res β) (f : β → Sto → Res γ) : Res γ := match r with
  | .ok b S => f b S
  | .exc x S => .exc x S
  | .bad => .bad

/-- what is fixed: the module's objects, the classes of exceptions, the tables of code objects -/
structure Kt where
  K : PySem.W.Frag
  cls : Nat → Addr
  T : List (Addr × Str)
/-- an exception's object that is held as a value -/
def XO (a : Addr) (cls : Value) (dx : Addr) : HO := .ext fun h => ∃ (oe : Obj) (vs : Array Value), h.get? a = some oe ∧ Zc cls (some dx) oe ∧ oe.data = .fields vs
section
variable (κ : Kt)
/-- a tuple that stands for good -/
def TupAt (α : List Addr) (H : Hp) (a : Addr) (vs : List V) : Prop :=
  (H a = some (.tup vs) ∧ a ∉ α) ∨
    ∃ (o : Obj) (its : Array Value) (n : Nat), κ.K.lookup a = some o ∧ o.cls = .type "tuple" ∧ o.data = .seq its n ∧ its.size ≤ sizeLine ∧ Vals vs its.toList
/-- a list that stands for good -/
def SqC (α : List Addr) (H : Hp) (a : Addr) (vs : List V) : Prop :=
  (∃ o, H a = some (.frz o (.lst vs)) ∧ a ∉ α) ∨
    ∃ (o : Obj) (its : Array Value) (n : Nat), κ.K.lookup a = some o ∧ o.cls = .type "list" ∧ o.dict = none ∧ o.data = .seq its n ∧ its.size ≤ sizeLine ∧ Vals vs its.toList
mutual
def Rep (α : List Addr) (H : Hp) : D → V → Prop
  | .non, v => v = .non
  | .bl b, v => v = .bl b
  | .int i, v => v = .int i
  | .str x, v => v = .str x
  | .tup ds, v => ∃ a vs, v = .ref a ∧ TupAt κ α H a vs ∧ RepL α H ds vs
  | .con ds, v => ∃ a vs, v = .ref a ∧ SqC κ α H a vs ∧ RepL α H ds vs
  | .ref n, v => ∃ a, v = .ref a ∧ α[n]? = some a
  | .xv c d, v => ∃ a dx w, v = .ref a ∧ H a = some (XO a (.ref (κ.cls c)) dx) ∧ a ∉ α ∧ H dx = some (.xd [("value", w)]) ∧ dx ∉ α ∧ Rep α H d w
def RepL (α : List Addr) (H : Hp) : List D → List V → Prop
  | [], vs => vs = []
  | d :: ds, vs => ∃ v r, vs = v :: r ∧ Rep α H d v ∧ RepL α H ds r
end
def RepO (α : List Addr) (H : Hp) (a : Addr) : O → Prop
  | .lst ds => ∃ vs, H a = some (.lst vs) ∧ RepL κ α H ds vs
structure RelS (α : List Addr) (H : Hp) (S : Sto) : Prop where
  len : α.length = S.length
  nd : α.Nodup
  at_ : ∀ (n : Nat) (a : Addr) (o : O), α[n]? = some a → S[n]? = some o → RepO κ α H a o
  tabs : LamX.Tabs κ.T H
end
/-- no table of code objects -/
def NoTbl (o : HO) : Prop := ∀ ps, o ≠ .tbl ps
/-- onward: new objects at β, all that was tracked and isn't in the store stands -/
structure Ext (α : List Addr) (H : Hp) (α' : List Addr) (H' : Hp) : Prop where
  pre : ∃ β, α' = α ++ β ∧ ∀ b ∈ β, ∀ o, H b = some o → ¬ NoTbl o
  keep : ∀ b o, H b = some o → b ∉ α → NoTbl o → H' b = some o
  live : ∀ b o, H b = some o → NoTbl o → ∃ o', H' b = some o' ∧ NoTbl o'
theorem Ext.refl (α : List Addr) (H : Hp) : Ext α H α H := ⟨⟨[], by simp, by simp⟩, fun _ _ e _ _ => e, fun _ o e n => ⟨o, e, n⟩⟩
theorem Ext.trans {α α1 α2 : List Addr} {H H1 H2 : Hp} (a : Ext α H α1 H1) (b : Ext α1 H1 α2 H2) : Ext α H α2 H2 := by
  obtain ⟨β, e1, n1⟩ := a.pre
  obtain ⟨γ, e2, n2⟩ := b.pre
  refine ⟨⟨β ++ γ, by rw [e2, e1, List.append_assoc], fun b' hb o e hn => ?_⟩, fun b' o e hn ht => ?_, fun b' o e hn => ?_⟩
  · rcases List.mem_append.mp hb with h | h
    · exact n1 _ h o e hn
    · obtain ⟨o', e', hn'⟩ := a.live b' o e hn
      exact n2 _ h o' e' hn'
  · refine b.keep _ _ (a.keep _ _ e hn ht) ?_ ht
    rw [e1]
    intro hb
    rcases List.mem_append.mp hb with h | h
    · exact hn h
    · exact n1 _ h o e ht
  · obtain ⟨o', e', hn'⟩ := a.live b' o e hn
    exact b.live b' o' e' hn'
theorem Ext.get {α α' : List Addr} {H H' : Hp} (e : Ext α H α' H') {n : Nat} {a : Addr} (h : α[n]? = some a) : α'[n]? = some a := by
  obtain ⟨β, rfl, _⟩ := e.pre
  obtain ⟨h1, h2⟩ := List.getElem?_eq_some_iff.mp h
  rw [List.getElem?_append_left h1, h]
theorem Ext.out {α α' : List Addr} {H H' : Hp} (e : Ext α H α' H') {a : Addr} {o : HO} (h : H a = some o) (ht : NoTbl o) (hn : a ∉ α) : a ∉ α' := by
  obtain ⟨β, rfl, nb⟩ := e.pre
  intro z
  rcases List.mem_append.mp z with z | z
  · exact hn z
  · exact nb _ z o h ht
theorem noTbl_tup {vs : List V} : NoTbl (.tup vs) := fun _ z => by cases z
theorem noTbl_lst {vs : List V} : NoTbl (.lst vs) := fun _ z => by cases z
theorem noTbl_frz {o : Obj} {u : HO} : NoTbl (.frz o u) := fun _ z => by cases z
theorem noTbl_xd {fs : List (Str × V)} : NoTbl (.xd fs) := fun _ z => by cases z
theorem noTbl_xo {a : Addr} {c : Value} {d : Addr} : NoTbl (XO a c d) := fun _ z => by unfold XO at z; cases z
section
variable {κ : Kt} {α α' : List Addr} {H H' : Hp}
theorem TupAt.sq {a : Addr} {vs : List V} (h : TupAt κ α H a vs) : SqT κ.K H a vs := by
  rcases h with ⟨h, _⟩ | h
  · exact .inl (.inl h)
  · exact .inr h
theorem TupAt.mono {a : Addr} {vs : List V} (h : TupAt κ α H a vs) (e : Ext α H α' H') : TupAt κ α' H' a vs := by
  rcases h with ⟨h, hn⟩ | h
  · exact .inl ⟨e.keep _ _ h hn noTbl_tup, e.out h noTbl_tup hn⟩
  · exact .inr h
theorem SqC.sq {a : Addr} {vs : List V} (h : SqC κ α H a vs) : SqL κ.K H a vs := by
  rcases h with ⟨o, h, _⟩ | h
  · exact .inl (.inr ⟨o, h⟩)
  · exact .inr h
theorem SqC.mono {a : Addr} {vs : List V} (h : SqC κ α H a vs) (e : Ext α H α' H') : SqC κ α' H' a vs := by
  rcases h with ⟨o, h, hn⟩ | h
  · exact .inl ⟨o, e.keep _ _ h hn noTbl_frz, e.out h noTbl_frz hn⟩
  · exact .inr h
mutual
theorem Rep.mono (e : Ext α H α' H') : ∀ (d : D) (v : V), Rep κ α H d v → Rep κ α' H' d v
  | .non, v, h => by simp only [Rep] at h ⊢; exact h
  | .bl b, v, h => by simp only [Rep] at h ⊢; exact h
  | .int i, v, h => by simp only [Rep] at h ⊢; exact h
  | .str x, v, h => by simp only [Rep] at h ⊢; exact h
  | .tup ds, v, h => by
    simp only [Rep] at h ⊢
    obtain ⟨a, vs, rfl, t, r⟩ := h
    exact ⟨a, vs, rfl, t.mono e, RepL.mono e ds vs r⟩
  | .con ds, v, h => by
    simp only [Rep] at h ⊢
    obtain ⟨a, vs, rfl, t, r⟩ := h
    exact ⟨a, vs, rfl, t.mono e, RepL.mono e ds vs r⟩
  | .ref n, v, h => by
    simp only [Rep] at h ⊢
    obtain ⟨a, rfl, h⟩ := h
    exact ⟨a, rfl, e.get h⟩
  | .xv c d, v, h => by
    simp only [Rep] at h ⊢
    obtain ⟨a, dx, w, rfl, h1, h2, h3, h4, h5⟩ := h
    exact ⟨a, dx, w, rfl, e.keep _ _ h1 h2 noTbl_xo, e.out h1 noTbl_xo h2, e.keep _ _ h3 h4 noTbl_xd, e.out h3 noTbl_xd h4, Rep.mono e d w h5⟩
theorem RepL.mono (e : Ext α H α' H') : ∀ (ds : List D) (vs : List V), RepL κ α H ds vs → RepL κ α' H' ds vs
  | [], vs, h => by simp only [RepL] at h ⊢; exact h
  | d :: ds, vs, h => by
    simp only [RepL] at h ⊢
    obtain ⟨v, r, rfl, h1, h2⟩ := h
    exact ⟨v, r, rfl, Rep.mono e d v h1, RepL.mono e ds r h2⟩
end
theorem RepL.length : ∀ {ds : List D} {vs : List V}, RepL κ α H ds vs → vs.length = ds.length
  | [], vs, h => by simp only [RepL] at h; subst h; rfl
  | d :: ds, vs, h => by
    simp only [RepL] at h
    obtain ⟨v, r, rfl, _, h2⟩ := h
    simp [RepL.length h2]
theorem RepL.cons {d : D} {ds : List D} {v : V} {vs : List V} (h : Rep κ α H d v) (t : RepL κ α H ds vs) : RepL κ α H (d :: ds) (v :: vs) := by
  simp only [RepL]; exact ⟨v, vs, rfl, h, t⟩
theorem RepL.nil : RepL κ α H [] [] := by simp only [RepL]
theorem RepL.append : ∀ {ds es : List D} {vs us : List V}, RepL κ α H ds vs → RepL κ α H es us → RepL κ α H (ds ++ es) (vs ++ us)
  | [], es, vs, us, h, t => by simp only [RepL] at h; subst h; exact t
  | d :: ds, es, vs, us, h, t => by
    simp only [RepL] at h
    obtain ⟨v, r, rfl, h1, h2⟩ := h
    exact RepL.cons h1 (RepL.append h2 t)
theorem RepL.get : ∀ {ds : List D} {vs : List V} {n : Nat} {d : D}, RepL κ α H ds vs → ds[n]? = some d → ∃ v, vs[n]? = some v ∧ Rep κ α H d v
  | [], _, _, _, _, e => by simp at e
  | d :: ds, vs, n, d', h, e => by
    simp only [RepL] at h
    obtain ⟨v, r, rfl, h1, h2⟩ := h
    cases n with
    | zero => simp at e; subst e; exact ⟨v, by simp, h1⟩
    | succ n =>
      obtain ⟨v', e1, e2⟩ := RepL.get (n := n) (d := d') h2 (by simpa using e)
      exact ⟨v', by simpa using e1, e2⟩
theorem RepL.set : ∀ {ds : List D} {vs : List V} (n : Nat) {d : D} {v : V}, RepL κ α H ds vs → Rep κ α H d v → RepL κ α H (ds.set n d) (vs.set n v)
  | [], vs, n, d, v, h, t => by simp only [RepL] at h; subst h; simp; exact RepL.nil
  | d :: ds, vs, n, d', v', h, t => by
    simp only [RepL] at h
    obtain ⟨v, r, rfl, h1, h2⟩ := h
    cases n with
    | zero => exact RepL.cons t h2
    | succ n => exact RepL.cons h1 (RepL.set n h2 t)
theorem RepL.take : ∀ {ds : List D} {vs : List V} (n : Nat), RepL κ α H ds vs → RepL κ α H (ds.take n) (vs.take n)
  | [], vs, n, h => by simp only [RepL] at h; subst h; simp; exact RepL.nil
  | d :: ds, vs, 0, h => by simp; exact RepL.nil
  | d :: ds, vs, n + 1, h => by
    simp only [RepL] at h
    obtain ⟨v, r, rfl, h1, h2⟩ := h
    exact RepL.cons h1 (RepL.take n h2)
theorem RepL.drop : ∀ {ds : List D} {vs : List V} (n : Nat), RepL κ α H ds vs → RepL κ α H (ds.drop n) (vs.drop n)
  | [], vs, n, h => by simp only [RepL] at h; subst h; simp; exact RepL.nil
  | d :: ds, vs, 0, h => h
  | d :: ds, vs, n + 1, h => by
    simp only [RepL] at h
    obtain ⟨v, r, rfl, h1, h2⟩ := h
    exact RepL.drop n h2
theorem RepO.mono_of (e : Ext α H α' H') {a : Addr} {o : O} (h : RepO κ α H a o) (ha : ∀ u, H a = some u → H' a = some u) : RepO κ α' H' a o := by
  cases o with
  | lst ds =>
    obtain ⟨vs, h1, h2⟩ := h
    exact ⟨vs, ha _ h1, h2.mono e⟩
theorem RepO.mono_of' (e : Ext α H α' H') {a : Addr} {o : O} (h : RepO κ α H a o) (hn : ∀ u, H a = some u → NoTbl u → H' a = some u) : RepO κ α' H' a o := by
  cases o with
  | lst ds =>
    obtain ⟨vs, h1, h2⟩ := h
    exact ⟨vs, hn _ h1 noTbl_lst, h2.mono e⟩
/-- a new tuple is laid -/
theorem Ext.newTup {p : Addr} {o : HO} (hp : H p = none) : Ext α H α (upd H p o) :=
  ⟨⟨[], by simp, by simp⟩, fun b u e _ _ => by rw [upd_ne (ne_of_none e hp)]; exact e, fun b u e n => ⟨u, by rw [upd_ne (ne_of_none e hp)]; exact e, n⟩⟩
theorem RelS.newTup {S : Sto} {p : Addr} {o : HO} (rs : RelS κ α H S) (hp : H p = none) : RelS κ α (upd H p o) S :=
  ⟨rs.len, rs.nd, fun n a u h1 h2 => (rs.at_ n a u h1 h2).mono_of (Ext.newTup hp) fun x e => by rw [upd_ne (ne_of_none e hp)]; exact e, rs.tabs.ext fun b o e => by rw [upd_ne (ne_of_none e hp)]; exact e⟩
/-- a new object of the store -/
theorem Ext.newObj {p : Addr} {o : HO} (hp : H p = none) : Ext α H (α ++ [p]) (upd H p o) :=
  ⟨⟨[p], rfl, fun b hb u e => by obtain rfl : b = p := by simpa using hb
                                 rw [hp] at e; cases e⟩, (Ext.newTup (α := α) hp).keep, (Ext.newTup (α := α) hp).live⟩
theorem RepO.live {a : Addr} {o : O} (h : RepO κ α H a o) : H a ≠ none := by
  cases o with
  | lst ds => obtain ⟨vs, h, _⟩ := h; rw [h]; simp
/-- a new address is none of the store's -/
theorem RelS.notIn {S : Sto} {p : Addr} (rs : RelS κ α H S) (hp : H p = none) : p ∉ α := fun z => by
  obtain ⟨n, e⟩ := List.getElem?_of_mem z
  have hn : n < S.length := by rw [← rs.len]; exact (List.getElem?_eq_some_iff.mp e).1
  exact (rs.at_ n p S[n] e (List.getElem?_eq_getElem hn)).live hp
end
end Py
set_option Elab.async false
set_option linter.all false
set_option maxRecDepth 100000
set_option maxHeartbeats 1000000
/-! The language of the texts, as a small one of our own, and what its programs do. -/
namespace Py
open PySem PySem.Spec PyProof.Rows L2
open Classical in
noncomputable abbrev tst {β : Type} (p : Prop) (a b : β) : β := if p then a else b

/-- a target: a name, or several -/
inductive Tg where
  | nm (i : Nat)
  | tp (ts : List Tg)
/-- built-in kinds that are asked for -/
inductive Ty where
  | int | bool | str | tuple | list
/-- built-in functions and types that are called -/
inductive Bi where
  | len | abs | max | min | int | sum | all | any | tuple | list | repr
/-- methods of lists -/
inductive Mt where
  | append | pop | extend
mutual
inductive Ex where
  | var (i : Nat)
  | int (i : Int)
  | bl (b : Bool)
  | non
  | str (x : Str)
  | glb (i : Nat)
  | tup (es : Exs)
  | lst (es : Exs)
  | bin (op : Operator) (a b : Ex)
  | neg (a : Ex)
  | nt (a : Ex)
  | cmp (op : CmpOp) (a b : Ex)
  | chn (op op' : CmpOp) (a b c : Ex)
  | isN (a : Ex) (no : Bool)
  | isB (a : Ex) (b no : Bool)
  | con (a b : Ex)
  | dis (a b : Ex)
  | ife (t a b : Ex)
  | ix (a b : Ex)
  | sl (a : Ex) (lo hi : Eo)
  | call (f : Nat) (es : Exs)
  | bi (b : Bi) (es : Exs)
  | isi (a : Ex) (t : Ty)
  | isx (a : Ex) (c : Nat)
  | ssort (a : Ex)
  | lrange (a : Ex)
  | mth (o : Ex) (m : Mt) (es : Exs)
  | lc (e : Ex) (tg : Tg) (own : List Nat) (it : It) (ifs : Eo)
  | fld (o : Ex)
  | dget (i : Nat) (a : Ex)
  | heard (b : Ex)
inductive Exs where
  | nil
  | cons (e : Ex) (es : Exs)
  | star (e : Ex) (es : Exs)
inductive Eo where
  | no
  | yes (e : Ex)
inductive It where
  | seq (e : Ex)
  | r1 (a : Ex)
  | r2 (a b : Ex)
  | enum (e : Ex)
  | zip (a b : Ex)
end
mutual
inductive Stm where
  | set (tg : Tg) (e : Ex)
  | par (i j : Nat) (a b : Ex)
  | sub (o i e : Ex)
  | ex (e : Ex)
  | ret (e : Ex)
  | cnd (c : Ex) (a b : Stms)
  | rep (tg : Tg) (it : It) (b : Stms)
  | whl (c : Ex) (b : Stms)
  | brk
  | rse (c : Nat) (e : Ex)
inductive Stms where
  | nil
  | cons (s : Stm) (ss : Stms)
end
abbrev Env := List (Option D)

/-! ### data -/
mutual
def D.py : D → Option PyData
  | .non => some .none
  | .bl b => some (.bool b)
  | .int i => some (.int i)
  | .str x => some (.str x)
  | .tup ds => (D.pys ds).map .tuple
  | .con ds => (D.pys ds).map .list
  | .ref _ => none
  | .xv _ _ => none
def D.pys : List D → Option (List PyData)
  | [] => some []
  | d :: ds => match d.py, D.pys ds with
    | some x, some xs => some (x :: xs)
    | _, _ => none
end
/-- a value as data; a list of the store, if its items are data -/
def pyOf (S : Sto) (d : D) : Option PyData := match d with
  | .ref n => match S[n]? with
    | some (.lst ds) => (D.pys ds).map .list
    | _ => none
  | d => d.py

def D.isRef : D → Bool
  | .ref _ => true
  | _ => false
def D.isNon : D → Bool
  | .non => true
  | _ => false
/-! ### operators -/
def szOk (n : Nat) : Prop := n ≤ sizeLine
noncomputable def binop (op : Operator) (a b : D) (S : Sto) : Res D := match op, a, b with
  | .Add, .int i, .int j => .ok (.int (i + j)) S
  | .Sub, .int i, .int j => .ok (.int (i - j)) S
  | .Mult, .int i, .int j => tst (IntMulOk i j) (.ok (.int (i * j)) S) .bad
  | .FloorDiv, .int i, .int j => tst (CDivW i j) (.ok (.int (i / j)) S) .bad
  | .Mod, .int i, .int j => tst (j ≠ 0) (.ok (.int (i.fmod j)) S) .bad
  | .Pow, .int i, .int j => tst (0 ≤ j ∧ (Builtin.Int.intBits i : Int) * j ≤ 2 ^ 27) (.ok (.int (i ^ j.toNat)) S) .bad
  | .Add, .tup xs, .tup ys => tst (xs.length + ys.length ≤ sizeLine) (.ok (.tup (xs ++ ys)) S) .bad
  | .Add, .ref m, .ref n => match S[m]?, S[n]? with
    | some (.lst xs), some (.lst ys) => tst (xs.length + ys.length ≤ sizeLine) (.ok (.ref S.length) (S ++ [.lst (xs ++ ys)])) .bad
    | _, _ => .bad
  | .Mult, .ref m, .int k => match S[m]? with
    | some (.lst xs) => tst (-(2 ^ 63) ≤ k ∧ k < 2 ^ 63 ∧ xs.length * k.toNat ≤ sizeLine) (.ok (.ref S.length) (S ++ [.lst (List.replicate k.toNat xs).flatten])) .bad
    | _ => .bad
  | .Mult, .tup xs, .int k => if k = 1 then .ok (.tup xs) S else tst (xs ≠ [] ∧ 2 ≤ k ∧ k ≤ 1000 ∧ xs.length ≤ 1000) (.ok (.tup (List.replicate k.toNat xs).flatten) S) .bad
  | _, _, _ => .bad
/-- flat things: what is asked for by == alone -/
def D.flat : D → Bool
  | .non | .bl _ | .int _ | .str _ => true
  | _ => false
def D.eqF : D → D → Bool
  | .non, .non => true
  | .bl a, .bl b => a == b
  | .int a, .int b => a == b
  | .str a, .str b => a == b
  | _, _ => false
/-- of one kind, or neither a bool nor an int -/
def D.cmpb : D → D → Bool
  | .bl _, .int _ => false
  | .int _, .bl _ => false
  | _, _ => true
/-- the items of a list -/
def lstOf (S : Sto) (d : D) : Option (List D) := match d with
  | .con ds => some ds
  | .ref n => match S[n]? with
    | some (.lst ds) => some ds
    | _ => none
  | _ => none
def pyEq (S : Sto) (a b : D) : Option Bool := match pyOf S a, pyOf S b with
  | some x, some y => if SeqAt.shaped x && SeqAt.shaped y then some (PyData.eqv x y) else none
  | _, _ => none
/-- a == b -/
def eqOf (S : Sto) (a b : D) : Option Bool := match a, b with
  | .int i, .int j => some (decide (i = j))
  | .str i, .str j => some (decide (i = j))
  | .bl i, .bl j => some (decide (i = j))
  | a, b => match lstOf S a, lstOf S b with
    | some xs, some ys => if xs.length != ys.length then some false else if xs.isEmpty then some true else pyEq S a b
    | _, _ => pyEq S a b
/-- the items of a list or tuple -/
def itemsOf (S : Sto) (d : D) : Option (List D) := match d with
  | .tup ds => some ds
  | .con ds => some ds
  | .ref n => match S[n]? with
    | some (.lst ds) => some ds
    | _ => none
  | _ => none
def inOf (S : Sto) (a b : D) : Option Bool := match itemsOf S b with
  | some ds => if a.flat && ds.all D.flat && ds.all (fun d => a.cmpb d) then some (ds.any fun d => d.eqF a) else none
  | none => none
def cmpop (op : CmpOp) (a b : D) (S : Sto) : Option Bool := match op, a, b with
  | .Eq, a, b => eqOf S a b
  | .NotEq, a, b => (eqOf S a b).map fun x => !x
  | .Lt, .int i, .int j => some (decide (i < j))
  | .LtE, .int i, .int j => some (decide (i ≤ j))
  | .Gt, .int i, .int j => some (decide (j < i))
  | .GtE, .int i, .int j => some (decide (j ≤ i))
  | .In, a, b => inOf S a b
  | .NotIn, a, b => (inOf S a b).map fun x => !x
  | _, _, _ => none
def ixop (a b : D) (S : Sto) : Option D := match b with
  | .int i => match itemsOf S a with
    | some ds => atI ds i
    | none => none
  | _ => none
/-- truth -/
def truth (d : D) (S : Sto) : Option Bool := match d with
  | .non => some false
  | .bl b => some b
  | .int i => some (i != 0)
  | .tup ds => some (!ds.isEmpty)
  | .ref n => match S[n]? with
    | some (.lst ds) => some (!ds.isEmpty)
    | _ => none
  | _ => none
def ofO {β : Type} (o : Option β) (S : Sto) : Res β := match o with
  | some b => .ok b S
  | none => .bad
def cutD (xs : List D) (lo hi : Option Int) : List D := (xs.drop (HT.sIx xs.length 0 lo)).take (HT.sIx xs.length xs.length hi - HT.sIx xs.length 0 lo)
def slop (a : D) (lo hi : Option Int) (S : Sto) : Res D := match a with
  | .tup ds => .ok (.tup (cutD ds lo hi)) S
  | .con ds => .ok (.ref S.length) (S ++ [.lst (cutD ds lo hi)])
  | .ref n => match S[n]? with
    | some (.lst ds) => .ok (.ref S.length) (S ++ [.lst (cutD ds lo hi)])
    | _ => .bad
  | _ => .bad
def intsD : List D → Option (List Int)
  | [] => some []
  | .int i :: ds => (intsD ds).map (i :: ·)
  | _ :: _ => none
def boolsD : List D → Option (List Bool)
  | [] => some []
  | .bl b :: ds => (boolsD ds).map (b :: ·)
  | _ :: _ => none
def Ty.of : Ty → D → Option Bool
  | .int, .int _ => some true
  | .int, .bl _ => some true
  | .int, .str _ => some false
  | .int, .non => some false
  | .int, .tup _ => some false
  | .bool, .bl _ => some true
  | .bool, .int _ => some false
  | .bool, .str _ => some false
  | .bool, .non => some false
  | .bool, .tup _ => some false
  | .str, .str _ => some true
  | .str, .int _ => some false
  | .str, .bl _ => some false
  | .str, .non => some false
  | .str, .tup _ => some false
  | .tuple, .tup _ => some true
  | .tuple, .int _ => some false
  | .tuple, .bl _ => some false
  | .tuple, .str _ => some false
  | .tuple, .non => some false
  | _, _ => none
def bints (ds : List D) (S : Sto) (f : List Int → Res D) : Res D := match ds with
  | [d] => match (lstOf S d).bind intsD with
    | some is => f is
    | none => .bad
  | _ => .bad
def bbools (ds : List D) (S : Sto) (f : List Bool → Res D) : Res D := match ds with
  | [d] => match (lstOf S d).bind boolsD with
    | some is => f is
    | none => .bad
  | _ => .bad
def bitems (ds : List D) (S : Sto) (f : List D → Res D) : Res D := match ds with
  | [d] => match itemsOf S d with
    | some xs => f xs
    | none => .bad
  | _ => .bad
noncomputable def biop (b : Bi) (ds : List D) (S : Sto) : Res D := match b with
  | .len => bitems ds S fun xs => .ok (.int xs.length) S
  | .abs => match ds with
    | [.int i] => .ok (.int (if i < 0 then -i else i)) S
    | _ => .bad
  | .max => match ds with
    | [.int i, .int j] => .ok (.int (if j > i then j else i)) S
    | _ => .bad
  | .min => match ds with
    | [.int i, .int j] => .ok (.int (if j < i then j else i)) S
    | [d] => bints [d] S fun is => match is with
      | i :: is => .ok (.int (is.foldl min i)) S
      | [] => .bad
    | _ => .bad
  | .int => match ds with
    | [.int i] => .ok (.int i) S
    | [.bl k] => .ok (.int (if k then 1 else 0)) S
    | _ => .bad
  | .sum => bints ds S fun is => .ok (.int is.sum) S
  | .all => bbools ds S fun bs => .ok (.bl (bs.all id)) S
  | .any => bbools ds S fun bs => .ok (.bl (bs.any id)) S
  | .tuple => bitems ds S fun xs => .ok (.tup xs) S
  | .list => bitems ds S fun xs => .ok (.ref S.length) (S ++ [.lst xs])
  | .repr => match ds with
    | [d] => match pyOf S d with
      | some x => tst (x.showable = true ∧ x.hasDict = false ∧ x.depth ≤ 60 ∧ x.shown.length ≤ sizeLine) (.ok (.str x.shown) S) .bad
      | none => .bad
    | _ => .bad
/-- a method of a list -/
noncomputable def mtop (m : Mt) (o : D) (ds : List D) (S : Sto) : Res D := match o with
  | .ref n => match S[n]? with
    | some (.lst xs) => match m, ds with
      | .append, [d] => tst (xs.length < sizeLine) (.ok .non (S.set n (.lst (xs ++ [d])))) .bad
      | .pop, [] => match xs.getLast? with
        | some d => .ok d (S.set n (.lst xs.dropLast))
        | none => .bad
      | .extend, [.ref k] => match S[k]? with
        | some (.lst ys) => tst (k ≠ n ∧ xs.length + ys.length ≤ sizeLine) (.ok .non (S.set n (.lst (xs ++ ys)))) .bad
        | _ => .bad
      | _, _ => .bad
    | none => .bad
  | _ => .bad
mutual
/-- stored at a target -/
def Tg.put : Tg → D → Env → Option Env
  | .nm i, d, E => some (E.set i (some d))
  | .tp ts, d, E => match d with
    | .tup ds => Tg.puts ts ds E
    | _ => none
def Tg.puts : List Tg → List D → Env → Option Env
  | [], [], E => some E
  | t :: ts, d :: ds, E => match t.put d E with
    | some E' => Tg.puts ts ds E'
    | none => none
  | _, _, _ => none
end
def wipeE (E : Env) : List Nat → Env
  | [] => E
  | v :: vs => (wipeE E vs).set v none
/-- what is walked: its items, and the lists of the store that must stand meanwhile -/
abbrev Walk := List D × List (Nat × List D)
def Stands (g : List (Nat × List D)) (S : Sto) : Prop := ∀ p ∈ g, S[p.1]? = some (.lst p.2)
def seqW (d : D) (S : Sto) : Option Walk := match d with
  | .tup ds => some (ds, [])
  | .con ds => some (ds, [])
  | .ref n => match S[n]? with
    | some (.lst ds) => some (ds, [(n, ds)])
    | _ => none
  | _ => none
def rgD (a b : Int) : List D := (List.range (b - a).toNat).map fun (i : Nat) => D.int (a + (i : Int))
/-- a comprehension's turns: f the test, h the element, the new list at n -/
noncomputable def lcGo (n : Nat) (g : List (Nat × List D)) (put : D → Option Env) (f : Env → Sto → Res Bool) (h : Env → Sto → Res D) : List D → Sto → Res D
  | [], S => tst (Stands g S) (.ok (.ref n) S) .bad
  | x :: xs, S => tst (Stands g S) (match put x with
      | none => .bad
      | some E => match f E S with
        | .ok false S1 => lcGo n g put f h xs S1
        | .ok true S1 => match h E S1 with
          | .ok d S2 => match S2[n]? with
            | some (.lst acc) => tst (acc.length < sizeLine) (lcGo n g put f h xs (S2.set n (.lst (acc ++ [d])))) .bad
            | _ => .bad
          | _ => .bad
        | _ => .bad) .bad
inductive Fl where
  | next (E : Env) (S : Sto)
  | ret (d : D) (S : Sto)
  | brk (E : Env) (S : Sto)
  | exc (x : Xc) (S : Sto)
  | bad
noncomputable def forGo (g : List (Nat × List D)) (put : D → Env → Option Env) (b : Env → Sto → Fl) : List D → Env → Sto → Fl
  | [], E, S => tst (Stands g S) (.next E S) .bad
  | x :: xs, E, S => tst (Stands g S) (match put x E with
      | none => .bad
      | some E1 => match b E1 S with
        | .next E2 S2 => forGo g put b xs E2 S2
        | .brk E2 S2 => .next E2 S2
        | .ret d S2 => .ret d S2
        | .exc x S2 => .exc x S2
        | .bad => .bad) .bad
/-- n turns of a while at most -/
def whGo (c : Env → Sto → Res Bool) (b : Env → Sto → Fl) : Nat → Env → Sto → Option Fl
  | 0, _, _ => none
  | n + 1, E, S => match c E S with
    | .ok false S1 => some (.next E S1)
    | .ok true S1 => match b E S1 with
      | .next E2 S2 => whGo c b n E2 S2
      | .brk E2 S2 => some (.next E2 S2)
      | .ret d S2 => some (.ret d S2)
      | .exc x S2 => some (.exc x S2)
      | .bad => some .bad
    | .exc x S1 => some (.exc x S1)
    | .bad => some .bad
open Classical in
noncomputable def whAll (c : Env → Sto → Res Bool) (b : Env → Sto → Fl) (E : Env) (S : Sto) : Fl :=
  if h : ∃ n f, whGo c b n E S = some f then h.choose_spec.choose else .bad

/-- two at once -/
def zipW (S : Sto) (d e : D) : Option Walk := match d, e with
  | .tup xs, .tup ys => some (List.zipWith (fun x y => .tup [x, y]) xs ys, [])
  | d, e => match lstOf S d, lstOf S e, seqW d S, seqW e S with
    | some xs, some ys, some u, some v => some (List.zipWith (fun x y => .tup [x, y]) xs ys, u.2 ++ v.2)
    | _, _, _, _ => none
def enumD : List D → Nat → List D
  | [], _ => []
  | d :: ds, n => .tup [.int n, d] :: enumD ds (n + 1)
def enumW (S : Sto) (d : D) : Option Walk := match lstOf S d, seqW d S with
  | some xs, some u => some (enumD xs 0, u.2)
  | _, _ => none

/-! ### programs -/
structure Glob where
  /-- a module's constants -/
  con : Nat → D
  /-- a module's dict, from words -/
  dic : Nat → List (Str × D)
  /-- what a call of a def does -/
  call : Nat → List D → Sto → Res D
  /-- an exception's class is within another one -/
  sub : Nat → Nat → Bool
  /-- how many classes of exceptions -/
  nC : Nat
  /-- sorted(set(..)) -/
  srt : List D → Option (List D)
  /-- the class that the def that hears a lambda's end asks for -/
  top : Nat
section
variable (G : Glob)
/-- what the def that hears a lambda's end returns -/
def hearD (r : Res D) : Res D := match r with
  | .ok d S => .ok (.tup [.non, d]) S
  | .exc x S => if x.1 < G.nC ∧ G.sub x.1 G.top = true then .ok (.tup [.xv x.1 x.2, .non]) S else .bad
  | .bad => .bad
mutual
noncomputable def Ex.ev : Ex → Env → Sto → Res D
  | .var i, E, S => match E[i]? with
    | some (some d) => .ok d S
    | _ => .bad
  | .int i, _, S => .ok (.int i) S
  | .bl b, _, S => .ok (.bl b) S
  | .non, _, S => .ok .non S
  | .str x, _, S => .ok (.str x) S
  | .glb i, _, S => .ok (G.con i) S
  | .tup es, E, S => (es.ev E S).bind fun ds S => tst (ds.length ≤ sizeLine) (.ok (.tup ds) S) .bad
  | .lst es, E, S => (es.ev E S).bind fun ds S => tst (ds.length ≤ sizeLine) (.ok (.ref S.length) (S ++ [.lst ds])) .bad
  | .bin op a b, E, S => (a.ev E S).bind fun x S => (b.ev E S).bind fun y S => binop op x y S
  | .neg a, E, S => (a.ev E S).bind fun x S => match x with
    | .int i => .ok (.int (-i)) S
    | _ => .bad
  | .nt a, E, S => (a.ev E S).bind fun x S => (ofO (truth x S) S).bind fun k S => .ok (.bl (!k)) S
  | .cmp op a b, E, S => (a.ev E S).bind fun x S => (b.ev E S).bind fun y S => (ofO (cmpop op x y S) S).bind fun k S => .ok (.bl k) S
  | .chn op op' a b c, E, S => (a.ev E S).bind fun x S => (b.ev E S).bind fun y S => (ofO (cmpop op x y S) S).bind fun k S =>
      if k = true then (c.ev E S).bind fun z S => (ofO (cmpop op' y z S) S).bind fun k S => .ok (.bl k) S else .ok (.bl false) S
  | .isN a no, E, S => (a.ev E S).bind fun x S => .ok (.bl (if no then !x.isNon else x.isNon)) S
  | .isB a b no, E, S => (a.ev E S).bind fun x S => match x with
    | .bl c => .ok (.bl (if no then !(c == b) else (c == b))) S
    | _ => .bad
  | .con a b, E, S => (a.ev E S).bind fun x S => match x with
    | .bl true => b.ev E S
    | .bl false => .ok (.bl false) S
    | _ => .bad
  | .dis a b, E, S => (a.ev E S).bind fun x S => match x with
    | .bl false => b.ev E S
    | .bl true => .ok (.bl true) S
    | _ => .bad
  | .ife t a b, E, S => (t.tv E S).bind fun k S => if k = true then a.ev E S else b.ev E S
  | .ix a b, E, S => (a.ev E S).bind fun x S => (b.ev E S).bind fun y S => ofO (ixop x y S) S
  | .sl a lo hi, E, S => (a.ev E S).bind fun x S => (lo.ev E S).bind fun l S => (hi.ev E S).bind fun h S => slop x l h S
  | .call f es, E, S => (es.ev E S).bind fun ds S => G.call f ds S
  | .bi b es, E, S => (es.ev E S).bind fun ds S => biop b ds S
  | .isi a t, E, S => (a.ev E S).bind fun x S => (ofO (t.of x) S).bind fun k S => .ok (.bl k) S
  | .isx a c, E, S => (a.ev E S).bind fun x S => match x with
    | .xv c' _ => if c' < G.nC then .ok (.bl (G.sub c' c)) S else .bad
    | _ => .bad
  | .ssort a, E, S => (a.ev E S).bind fun x S => match (lstOf S x).bind G.srt with
    | some ds => .ok (.ref S.length) (S ++ [.lst ds])
    | none => .bad
  | .lrange a, E, S => (a.ev E S).bind fun d S => match d with
    | .int j => tst (-(2 ^ 62) ≤ j ∧ j ≤ 1000) (.ok (.ref S.length) (S ++ [.lst (rgD 0 j)])) .bad
    | _ => .bad
  | .mth o m es, E, S => (o.ev E S).bind fun x S => if x.isRef = true then (es.ev E S).bind fun ds S => mtop m x ds S else .bad
  | .lc e tg own it ifs, E, S => (it.ev E S).bind fun w S =>
      lcGo S.length w.2 (fun x => tg.put x (wipeE E own)) (fun E S => ifs.tv E S) (fun E S => e.ev E S) w.1 (S ++ [.lst []])
  | .fld o, E, S => (o.ev E S).bind fun x S => match x with
    | .xv c d => if c < G.nC then .ok d S else .bad
    | _ => .bad
  | .dget i a, E, S => (a.ev E S).bind fun x S => match x with
    | .str y => ofO ((G.dic i).lookup y) S
    | _ => .bad
  | .heard b, E, S => hearD G (b.ev E S)
/-- as a test -/
noncomputable def Ex.tv : Ex → Env → Sto → Res Bool
  | .con a b, E, S => (a.tv E S).bind fun k S => if k = true then b.tv E S else .ok false S
  | .dis a b, E, S => (a.tv E S).bind fun k S => if k = true then .ok true S else b.tv E S
  | .nt a, E, S => (a.tv E S).bind fun k S => .ok (!k) S
  | .var i, E, S => match E[i]? with
    | some (some d) => ofO (truth d S) S
    | _ => .bad
  | .cmp op a b, E, S => (a.ev E S).bind fun x S => (b.ev E S).bind fun y S => ofO (cmpop op x y S) S
  | .chn op op' a b c, E, S => (a.ev E S).bind fun x S => (b.ev E S).bind fun y S => (ofO (cmpop op x y S) S).bind fun k S =>
      if k = true then (c.ev E S).bind fun z S => ofO (cmpop op' y z S) S else .ok false S
  | .isN a no, E, S => (a.ev E S).bind fun x S => .ok (if no then !x.isNon else x.isNon) S
  | .isB a b no, E, S => (a.ev E S).bind fun x S => match x with
    | .bl c => .ok (if no then !(c == b) else (c == b)) S
    | _ => .bad
  | .ix a b, E, S => (a.ev E S).bind fun x S => (b.ev E S).bind fun y S => (ofO (ixop x y S) S).bind fun d S => ofO (truth d S) S
  | .call f es, E, S => ((es.ev E S).bind fun ds S => G.call f ds S).bind fun d S => ofO (truth d S) S
  | .bi b es, E, S => ((es.ev E S).bind fun ds S => biop b ds S).bind fun d S => ofO (truth d S) S
  | .isi a t, E, S => (a.ev E S).bind fun x S => ofO (t.of x) S
  | .isx a c, E, S => (a.ev E S).bind fun x S => match x with
    | .xv c' _ => if c' < G.nC then .ok (G.sub c' c) S else .bad
    | _ => .bad
  | _, _, _ => .bad
noncomputable def Exs.ev : Exs → Env → Sto → Res (List D)
  | .nil, _, S => .ok [] S
  | .cons e es, E, S => (e.ev E S).bind fun d S => (es.ev E S).bind fun ds S => .ok (d :: ds) S
  | .star e es, E, S => (e.ev E S).bind fun d S => match itemsOf S d with
    | some xs => (es.ev E S).bind fun ds S => .ok (xs ++ ds) S
    | none => .bad
/-- a part of a slice -/
noncomputable def Eo.ev : Eo → Env → Sto → Res (Option Int)
  | .no, _, S => .ok none S
  | .yes e, E, S => (e.ev E S).bind fun d S => match d with
    | .int i => .ok (some i) S
    | _ => .bad
/-- a test, or none -/
noncomputable def Eo.tv : Eo → Env → Sto → Res Bool
  | .no, _, S => .ok true S
  | .yes e, E, S => e.tv E S
noncomputable def It.ev : It → Env → Sto → Res Walk
  | .seq e, E, S => (e.ev E S).bind fun d S => ofO (seqW d S) S
  | .r1 a, E, S => (a.ev E S).bind fun d S => match d with
    | .int j => tst (-(2 ^ 62) ≤ j ∧ j < 2 ^ 62) (.ok (rgD 0 j, []) S) .bad
    | _ => .bad
  | .r2 a b, E, S => (a.ev E S).bind fun d S => (b.ev E S).bind fun e S => match d, e with
    | .int i, .int j => tst (-(2 ^ 62) ≤ i ∧ i < 2 ^ 62 ∧ -(2 ^ 62) ≤ j ∧ j < 2 ^ 62) (.ok (rgD i j, []) S) .bad
    | _, _ => .bad
  | .enum e, E, S => (e.ev E S).bind fun d S => ofO (enumW S d) S
  | .zip a b, E, S => (a.ev E S).bind fun d S => (b.ev E S).bind fun e S => ofO (zipW S d e) S
end
/-- from an end to what stands behind -/
def Fl.then (f : Fl) (g : Env → Sto → Fl) : Fl := match f with
  | .next E S => g E S
  | f => f
/-- an expression's end as a statement's -/
def flow {β : Type} (r : Res β) (f : β → Sto → Fl) : Fl := match r with
  | .ok b S => f b S
  | .exc x S => .exc x S
  | .bad => .bad
def flO (o : Option Env) (S : Sto) : Fl := match o with
  | some E => .next E S
  | none => .bad
/-- o[i] = d -/
def subop (o i d : D) (S : Sto) : Option Sto := match o, i with
  | .ref n, .int i => match S[n]? with
    | some (.lst xs) => (ixN xs.length i).map fun j => S.set n (.lst (xs.set j d))
    | _ => none
  | _, _ => none
mutual
noncomputable def Stm.ev : Stm → Env → Sto → Fl
  | .set tg e, E, S => flow (e.ev G E S) fun d S => flO (tg.put d E) S
  | .par i j a b, E, S => flow (a.ev G E S) fun x S => flow (b.ev G E S) fun y S => .next ((E.set i (some x)).set j (some y)) S
  | .sub o i e, E, S => flow (e.ev G E S) fun d S => flow (o.ev G E S) fun x S => flow (i.ev G E S) fun y S => match subop x y d S with
    | some S => .next E S
    | none => .bad
  | .ex e, E, S => flow (e.ev G E S) fun _ S => .next E S
  | .ret e, E, S => flow (e.ev G E S) fun d S => .ret d S
  | .cnd c a b, E, S => flow (c.tv G E S) fun k S => if k = true then a.ev E S else b.ev E S
  | .rep tg it b, E, S => flow (it.ev G E S) fun w S => forGo w.2 (fun x E => tg.put x E) (fun E S => b.ev E S) w.1 E S
  | .whl c b, E, S => whAll (fun E S => c.tv G E S) (fun E S => b.ev E S) E S
  | .brk, E, S => .brk E S
  | .rse c e, E, S => flow (e.ev G E S) fun d S => .exc (c, d) S
noncomputable def Stms.ev : Stms → Env → Sto → Fl
  | .nil, E, S => .next E S
  | .cons s ss, E, S => (s.ev E S).then fun E S => ss.ev E S
end
/-- a def's end -/
def Fl.out : Fl → Res D
  | .next _ S => .ok .non S
  | .ret d S => .ok d S
  | .exc x S => .exc x S
  | .brk _ _ => .bad
  | .bad => .bad
/-- a def: how many parameters, how many names, its body -/
structure Fn where
  ps : Nat
  ns : Nat
  body : Stms
noncomputable def Fn.run (f : Fn) (ds : List D) (S : Sto) : Res D :=
  if ds.length = f.ps then (f.body.ev G (ds.map some ++ List.replicate (f.ns - ds.length) none) S).out else .bad
end
end Py
set_option Elab.async false
set_option linter.all false
set_option maxRecDepth 100000
set_option maxHeartbeats 1000000
/-! What a construct's reading asks follows from what our language says of it. -/
namespace Py
open PySem PySem.Spec PyProof.Rows L2
theorem tst_pos {β : Type} {p : Prop} {a b : β} (h : p) : tst p a b = a := if_pos h
theorem tst_neg {β : Type} {p : Prop} {a b : β} (h : ¬p) : tst p a b = b := if_neg h

/-! ### readings -/
section
variable (κ : Kt)
/-- an exception: its class, its own dict -/
def XRep (α : List Addr) (H : Hp) (x : Xc) (cls : Value) (dx : Option Addr) : Prop :=
  ∃ (d : Addr) (v : V), cls = .ref (κ.cls x.1) ∧ dx = some d ∧ H d = some (.xd [("value", v)]) ∧ d ∉ α ∧ Rep κ α H x.2 v
/-- how a part ends: W the wish about exceptions -/
def EndG {β : Type} (W : XK) (α : List Addr) (H : Hp) (r : Res β) (P : β → Sto → List Addr → Hp → Prop) : Prop := match r with
  | .ok b S' => ∀ α' H', Ext α H α' H' → RelS κ α' H' S' → P b S' α' H'
  | .exc x S' => ∀ α' H' cls dx, Ext α H α' H' → RelS κ α' H' S' → XRep κ α' H' x cls dx → W cls dx H'
  | .bad => False
structure RelE (α : List Addr) (H : Hp) (E : Env) (σ : L2.St) : Prop where
  len : E.length = σ.length
  at_ : ∀ (i : Nat) (d : D), E[i]? = some (some d) → ∃ v, σ[i]? = some (some v) ∧ Rep κ α H d v
def tE (W : XK) (m : Env → Sto → Res D) : TE := fun σ H Q => ∃ α E S, RelE κ α H E σ ∧ RelS κ α H S ∧ EndG κ W α H (m E S) fun d _ α' H' => ∀ v, Rep κ α' H' d v → Q v H'
def tT (W : XK) (m : Env → Sto → Res Bool) : TT := fun σ H Q => ∃ α E S, RelE κ α H E σ ∧ RelS κ α H S ∧ EndG κ W α H (m E S) fun b _ _ H' => Q b H'
def tA (W : XK) (m : Env → Sto → Res (List D)) : TA := fun σ H Q => ∃ α E S, RelE κ α H E σ ∧ RelS κ α H S ∧ EndG κ W α H (m E S) fun ds _ α' H' => ∀ vs, RepL κ α' H' ds vs → Q vs H'
def tO (W : XK) (m : Env → Sto → Res (Option Int)) : TO := fun σ H Q => ∃ α E S, RelE κ α H E σ ∧ RelS κ α H S ∧ EndG κ W α H (m E S) fun o _ _ H' => Q o H'
end
section
variable {κ : Kt} {α α' : List Addr} {H H' : Hp} {W : XK} {σ : L2.St} {E : Env} {S : Sto}
theorem RelE.mono (r : RelE κ α H E σ) (e : Ext α H α' H') : RelE κ α' H' E σ :=
  ⟨r.len, fun i d h => let ⟨v, h1, h2⟩ := r.at_ i d h; ⟨v, h1, h2.mono e⟩⟩
theorem RelE.set (r : RelE κ α H E σ) (i : Nat) {d : D} {v : V} (h : Rep κ α H d v) : RelE κ α H (E.set i (some d)) (σ.set i (some v)) :=
  ⟨by simp [r.len], fun j e hj => by
    by_cases q : i = j
    · subst q
      by_cases hl : i < E.length
      · rw [List.getElem?_set_self hl] at hj
        cases hj
        exact ⟨v, by rw [List.getElem?_set_self (by rw [← r.len]; exact hl)], h⟩
      · rw [List.getElem?_eq_none (by simpa using hl)] at hj; cases hj
    · rw [List.getElem?_set_ne q] at hj
      obtain ⟨u, h1, h2⟩ := r.at_ j e hj
      exact ⟨u, by rw [List.getElem?_set_ne q]; exact h1, h2⟩⟩
theorem EndG.mono {β : Type} {r : Res β} {P P' : β → Sto → List Addr → Hp → Prop} (h : EndG κ W α H r P) (i : ∀ b S α' H', Ext α H α' H' → RelS κ α' H' S → P b S α' H' → P' b S α' H') : EndG κ W α H r P' := by
  cases r with
  | ok b S' => exact fun a b e r => i _ _ _ _ e r (h a b e r)
  | exc x S' => exact h
  | bad => exact h
theorem EndG.onward {β : Type} {r : Res β} {P : β → Sto → List Addr → Hp → Prop} (h : EndG κ W α H r P) (e : Ext α H α' H') : EndG κ W α' H' r P := by
  cases r with
  | ok b S' => exact fun a b e' r => h a b (e.trans e') r
  | exc x S' => exact fun a b c d e' r x => h a b c d (e.trans e') r x
  | bad => exact h
theorem EndG.bind {β γ : Type} {r : Res β} {f : β → Sto → Res γ} {P : γ → Sto → List Addr → Hp → Prop} (h : EndG κ W α H (r.bind f) P) :
    EndG κ W α H r fun b S' α' H' => EndG κ W α' H' (f b S') P := by
  cases r with
  | ok b S' => exact fun a b e r => EndG.onward h e
  | exc x S' => exact h
  | bad => exact h
theorem EndG.now {β : Type} {b : β} {P : β → Sto → List Addr → Hp → Prop} (h : EndG κ W α H (.ok b S) P) (rs : RelS κ α H S) : P b S α H := h α H (Ext.refl _ _) rs
theorem EndG.ofO {β : Type} {o : Option β} {P : β → Sto → List Addr → Hp → Prop} (h : EndG κ W α H (ofO o S) P) (rs : RelS κ α H S) : ∃ b, o = some b ∧ P b S α H := by
  cases o with
  | none => exact h.elim
  | some b => exact ⟨b, rfl, EndG.now h rs⟩
theorem EndG.tst {β : Type} {p : Prop} {r : Res β} {P : β → Sto → List Addr → Hp → Prop} (h : EndG κ W α H (tst p r .bad) P) : p ∧ EndG κ W α H r P := by
  by_cases hp : p
  · rw [tst_pos hp] at h; exact ⟨hp, h⟩
  · rw [tst_neg hp] at h; exact h.elim
/-- one part behind another: the state ahead of the next one -/
structure St1 (κ : Kt) (α : List Addr) (H : Hp) (E : Env) (σ : L2.St) (α' : List Addr) (H' : Hp) (S' : Sto) : Prop where
  ext : Ext α H α' H'
  re : RelE κ α' H' E σ
  rs : RelS κ α' H' S'
theorem tE_of {m : Env → Sto → Res D} {P : D → Sto → List Addr → Hp → Prop} {Q : VK} (re : RelE κ α H E σ) (rs : RelS κ α H S) (h : EndG κ W α H (m E S) P)
    (q : ∀ α' H' S' d v, St1 κ α H E σ α' H' S' → Rep κ α' H' d v → P d S' α' H' → Q v H') : tE κ W m σ H Q :=
  ⟨α, E, S, re, rs, h.mono fun d S' α' H' e rs' p v r => q α' H' S' d v ⟨e, re.mono e, rs'⟩ r p⟩
theorem tT_of {m : Env → Sto → Res Bool} {P : Bool → Sto → List Addr → Hp → Prop} {Q : Bool → Hp → Prop} (re : RelE κ α H E σ) (rs : RelS κ α H S) (h : EndG κ W α H (m E S) P)
    (q : ∀ α' H' S' b, St1 κ α H E σ α' H' S' → P b S' α' H' → Q b H') : tT κ W m σ H Q :=
  ⟨α, E, S, re, rs, h.mono fun b S' α' H' e rs' p => q α' H' S' b ⟨e, re.mono e, rs'⟩ p⟩
theorem tA_of {m : Env → Sto → Res (List D)} {P : List D → Sto → List Addr → Hp → Prop} {Q : List V → Hp → Prop} (re : RelE κ α H E σ) (rs : RelS κ α H S) (h : EndG κ W α H (m E S) P)
    (q : ∀ α' H' S' ds vs, St1 κ α H E σ α' H' S' → RepL κ α' H' ds vs → P ds S' α' H' → Q vs H') : tA κ W m σ H Q :=
  ⟨α, E, S, re, rs, h.mono fun d S' α' H' e rs' p v r => q α' H' S' d v ⟨e, re.mono e, rs'⟩ r p⟩
theorem tO_of {m : Env → Sto → Res (Option Int)} {P : Option Int → Sto → List Addr → Hp → Prop} {Q : Option Int → Hp → Prop} (re : RelE κ α H E σ) (rs : RelS κ α H S) (h : EndG κ W α H (m E S) P)
    (q : ∀ α' H' S' o, St1 κ α H E σ α' H' S' → P o S' α' H' → Q o H') : tO κ W m σ H Q :=
  ⟨α, E, S, re, rs, h.mono fun b S' α' H' e rs' p => q α' H' S' b ⟨e, re.mono e, rs'⟩ p⟩
end
theorem _root_.L2.PE.imp {X : Cx} {e : Expr} {t t' : TE} (h : PE X e t) (i : ∀ σ H Q, t' σ H Q → t σ H Q) : PE X e t' := ⟨fun pins s σ H Q I q => h.run pins s σ H Q I (i σ H Q q)⟩
theorem _root_.L2.PT.imp {X : Cx} {e : Expr} {t t' : TT} (h : PT X e t) (i : ∀ σ H Q, t' σ H Q → t σ H Q) : PT X e t' := ⟨fun pins s σ H Q I q => h.run pins s σ H Q I (i σ H Q q)⟩
theorem _root_.L2.PW.imp {X : Cx} {e : Expr} {t t' : TT} (h : PW X e t) (i : ∀ σ H Q, t' σ H Q → t σ H Q) : PW X e t' := ⟨fun wh pins s σ H Q I q => h.run wh pins s σ H Q I (i σ H Q q)⟩
theorem _root_.L2.PA.imp {X : Cx} {es : List Expr} {t t' : TA} (h : PA X es t) (i : ∀ σ H Q, t' σ H Q → t σ H Q) : PA X es t' := ⟨fun p pins s σ H Q I q => h.run p pins s σ H Q I (i σ H Q q)⟩
theorem _root_.L2.PO.imp {X : Cx} {e : Option Expr} {t t' : TO} (h : PO X e t) (i : ∀ σ H Q, t' σ H Q → t σ H Q) : PO X e t' := ⟨fun pins s σ H Q I q => h.run pins s σ H Q I (i σ H Q q)⟩
theorem _root_.L2.PS.imp {X : Cx} {s : Stmt} {t t' : TS} (h : PS X s t) (i : ∀ D σ H, t' D σ H → t D σ H) : PS X s t' := ⟨fun pins s σ H D I q => h.run pins s σ H D I (i D σ H q)⟩
theorem _root_.L2.PSs.imp {X : Cx} {s : List Stmt} {t t' : TS} (h : PSs X s t) (i : ∀ D σ H, t' D σ H → t D σ H) : PSs X s t' := ⟨fun pins s σ H D I q => h.run pins s σ H D I (i D σ H q)⟩

section
variable {κ : Kt} {α α' : List Addr} {H H' : Hp} {S : Sto}
theorem rep_int {i : Int} {v : V} (h : Rep κ α H (.int i) v) : v = .int i := by simpa only [Rep] using h
theorem rep_bl {b : Bool} {v : V} (h : Rep κ α H (.bl b) v) : v = .bl b := by simpa only [Rep] using h
theorem rep_str {x : Str} {v : V} (h : Rep κ α H (.str x) v) : v = .str x := by simpa only [Rep] using h
theorem rep_non {v : V} (h : Rep κ α H .non v) : v = .non := by simpa only [Rep] using h
theorem rep_tup {ds : List D} {v : V} (h : Rep κ α H (.tup ds) v) : ∃ a vs, v = .ref a ∧ TupAt κ α H a vs ∧ RepL κ α H ds vs := by simpa only [Rep] using h
theorem rep_con {ds : List D} {v : V} (h : Rep κ α H (.con ds) v) : ∃ a vs, v = .ref a ∧ SqC κ α H a vs ∧ RepL κ α H ds vs := by simpa only [Rep] using h
theorem rep_ref {n : Nat} {v : V} (h : Rep κ α H (.ref n) v) : ∃ a, v = .ref a ∧ α[n]? = some a := by simpa only [Rep] using h
theorem mk_int {i : Int} : Rep κ α H (.int i) (.int i) := by simp only [Rep]
theorem mk_bl {b : Bool} : Rep κ α H (.bl b) (.bl b) := by simp only [Rep]
theorem mk_str {x : Str} : Rep κ α H (.str x) (.str x) := by simp only [Rep]
theorem rep_xv {c : Nat} {d : D} {v : V} (h : Rep κ α H (.xv c d) v) : ∃ a dx w, v = .ref a ∧ H a = some (XO a (.ref (κ.cls c)) dx) ∧ a ∉ α ∧ H dx = some (.xd [("value", w)]) ∧ dx ∉ α ∧ Rep κ α H d w := by simpa only [Rep] using h
theorem mk_non : Rep κ α H .non .non := by simp only [Rep]
theorem mk_tup {ds : List D} {a : Addr} {vs : List V} (h : TupAt κ α H a vs) (r : RepL κ α H ds vs) : Rep κ α H (.tup ds) (.ref a) := by simp only [Rep]; exact ⟨a, vs, rfl, h, r⟩
/-- the list of the store that a value is -/
theorem RelS.lst (rs : RelS κ α H S) {n : Nat} {v : V} {ds : List D} (h : Rep κ α H (.ref n) v) (e : S[n]? = some (.lst ds)) :
    ∃ a vs, v = .ref a ∧ α[n]? = some a ∧ H a = some (.lst vs) ∧ RepL κ α H ds vs := by
  obtain ⟨a, rfl, ea⟩ := rep_ref h
  obtain ⟨vs, h1, h2⟩ := rs.at_ n a _ ea e
  exact ⟨a, vs, rfl, ea, h1, h2⟩
/-- a list or a tuple -/
theorem RelS.items (rs : RelS κ α H S) {d : D} {v : V} {ds : List D} (h : Rep κ α H d v) (e : itemsOf S d = some ds) :
    ∃ a vs, v = .ref a ∧ (SqL κ.K H a vs ∨ SqT κ.K H a vs) ∧ RepL κ α H ds vs := by
  cases d with
  | tup xs =>
    cases e
    obtain ⟨a, vs, rfl, t, r⟩ := rep_tup h
    exact ⟨a, vs, rfl, .inr t.sq, r⟩
  | con xs =>
    cases e
    obtain ⟨a, vs, rfl, t, r⟩ := rep_con h
    exact ⟨a, vs, rfl, .inl t.sq, r⟩
  | ref n =>
    simp only [itemsOf] at e
    split at e
    · rename_i xs hx
      cases e
      obtain ⟨a, vs, rfl, _, t, r⟩ := rs.lst h hx
      exact ⟨a, vs, rfl, .inl (SqL.of t), r⟩
    · cases e
  | _ => cases e
/-- a new list of the store -/
theorem RelS.newLst (rs : RelS κ α H S) {p : Addr} {vs : List V} {ds : List D} (hp : H p = none) (r : RepL κ α H ds vs) :
    RelS κ (α ++ [p]) (upd H p (.lst vs)) (S ++ [.lst ds]) := by
  have e : Ext α H (α ++ [p]) (upd H p (.lst vs)) := Ext.newObj hp
  refine ⟨by simp [rs.len], ?_, fun n a o h1 h2 => ?_, rs.tabs.ext fun b o q => by rw [upd_ne (ne_of_none q hp)]; exact q⟩
  · rw [List.nodup_append]
    exact ⟨rs.nd, by simp, fun x hx y hy z => rs.notIn hp (by simp at hy; rw [← hy, ← z]; exact hx)⟩
  · by_cases hn : n < α.length
    · rw [List.getElem?_append_left hn] at h1
      rw [List.getElem?_append_left (by rw [← rs.len]; exact hn)] at h2
      exact (rs.at_ n a o h1 h2).mono_of e fun u q => by rw [upd_ne (ne_of_none q hp)]; exact q
    · have e1 : n = α.length := by
        have := (List.getElem?_eq_some_iff.mp h1).1
        simp at this; omega
      subst e1
      rw [List.getElem?_append_right (Nat.le_refl _)] at h1
      simp at h1; subst h1
      rw [rs.len, List.getElem?_append_right (Nat.le_refl _)] at h2
      simp at h2; subst h2
      exact ⟨vs, upd_same, r.mono e⟩
theorem mk_new (rs : RelS κ α H S) {p : Addr} {o : HO} : Rep κ (α ++ [p]) (upd H p o) (.ref S.length) (.ref p) := by
  simp only [Rep]
  exact ⟨p, rfl, by rw [← rs.len]; simp⟩
/-- a tuple that is laid -/
theorem mk_newTup (rs : RelS κ α H S) {p : Addr} {vs : List V} {ds : List D} (hp : H p = none) (r : RepL κ α H ds vs) : Rep κ α (upd H p (.tup vs)) (.tup ds) (.ref p) :=
  mk_tup (.inl ⟨upd_same, rs.notIn hp⟩) (r.mono (Ext.newTup hp))
/-- a list of the store is written -/
theorem Ext.write {n : Nat} {a : Addr} {vs us : List V} (ea : α[n]? = some a) (hl : H a = some (.lst us)) : Ext α H α (upd H a (.lst vs)) :=
  ⟨⟨[], by simp, by simp⟩, fun b o e hn _ => by
    rw [upd_ne (fun z => hn (by rw [z]; exact List.mem_of_getElem? ea))]; exact e, fun b o e n => by
    by_cases hb : b = a
    · subst hb; exact ⟨_, upd_same, noTbl_lst⟩
    · exact ⟨o, by rw [upd_ne hb]; exact e, n⟩⟩
/-- what stands at a place of the store is a list -/
theorem RelS.isLst (rs : RelS κ α H S) {n : Nat} {a : Addr} (ea : α[n]? = some a) : ∃ us, H a = some (.lst us) := by
  have hl : n < S.length := by rw [← rs.len]; exact (List.getElem?_eq_some_iff.mp ea).1
  have z := rs.at_ n a S[n] ea (List.getElem?_eq_getElem hl)
  cases hq : S[n] with
  | lst ds => rw [hq] at z; obtain ⟨us, z, _⟩ := z; exact ⟨us, z⟩
theorem RelS.write (rs : RelS κ α H S) {n : Nat} {a : Addr} {vs : List V} {ds : List D} (ea : α[n]? = some a) (r : RepL κ α H ds vs) : RelS κ α (upd H a (.lst vs)) (S.set n (.lst ds)) := by
  obtain ⟨us0, hla0⟩ := rs.isLst ea
  have e : Ext α H α (upd H a (.lst vs)) := Ext.write ea hla0
  obtain ⟨us, hla⟩ := rs.isLst ea
  refine ⟨by simp [rs.len], rs.nd, fun m b o h1 h2 => ?_, fun p hp => ?_⟩
  rotate_left
  · obtain ⟨ps, t1, t2, t3⟩ := rs.tabs p hp
    refine ⟨ps, by rw [upd_ne (by intro z; rw [z, hla] at t1; cases t1)]; exact t1, t2, fun pos cv hc => ?_⟩
    obtain ⟨c, e1, e2⟩ := t3 pos cv hc
    exact ⟨c, e1, by rw [upd_ne (by intro z; rw [z, hla] at e2; unfold LamX.CodeO at e2; cases e2)]; exact e2⟩
  by_cases hm : m = n
  · subst hm
    rw [ea] at h1; cases h1
    have hl : m < S.length := by rw [← rs.len]; exact (List.getElem?_eq_some_iff.mp ea).1
    rw [List.getElem?_set_self hl] at h2
    cases h2
    exact ⟨vs, upd_same, r.mono e⟩
  · rw [List.getElem?_set_ne (Ne.symm hm)] at h2
    refine (rs.at_ m b o h1 h2).mono_of e fun u q => ?_
    rw [upd_ne]
    · exact q
    · rintro rfl
      have i1 := List.getElem?_eq_some_iff.mp h1
      have i2 := List.getElem?_eq_some_iff.mp ea
      exact hm ((List.getElem_inj rs.nd).mp (i1.2.trans i2.2.symm))
end
end Py
set_option Elab.async false
set_option linter.all false
set_option maxRecDepth 100000
set_option maxHeartbeats 1000000
/-! Each operator of our language keeps what the layer's rule asks. -/
namespace Py
open PySem PySem.Spec PyProof.Rows L2

/-- the module's names by number -/
structure Nm where
  conN : Nat → Str
  dicN : Nat → Str
  fnN : Nat → Str
  clsN : Nat → Str
  hearN : Str
  nCon : Nat
  nDic : Nat
  nFn : Nat
  nC : Nat
  gd : Nat → Bool
/-- the module: its names, what its parts are, its classes of exceptions, its tables of code objects -/
structure Mo where
  nm : Nm
  G : Glob
  cls : Nat → Addr
  T : List (Addr × Str)
abbrev kt (X : Cx) (M : Mo) : Kt := ⟨X.K, M.cls, M.T⟩
abbrev eT (X : Cx) (M : Mo) (W : XK) (m : Env → Sto → Res D) : TE := tE (kt X M) W m
abbrev bT (X : Cx) (M : Mo) (W : XK) (m : Env → Sto → Res Bool) : TT := tT (kt X M) W m
abbrev aT (X : Cx) (M : Mo) (W : XK) (m : Env → Sto → Res (List D)) : TA := tA (kt X M) W m
abbrev oT (X : Cx) (M : Mo) (W : XK) (m : Env → Sto → Res (Option Int)) : TO := tO (kt X M) W m
/-- what is wanted behind a value -/
abbrev VQ (κ : Kt) (Q : VK) : D → Sto → List Addr → Hp → Prop := fun d _ α' H' => ∀ v, Rep κ α' H' d v → Q v H'
section
variable {X : Cx} {M : Mo} {W : XK} {pos : Pos} {a b c : Expr} {ma mb mc : Env → Sto → Res D}

theorem ok_var {i : Nat} {x : Str} (hN : X.N[i]? = some x) (hv : Vis X.env.scope x) (hd : (x == ("__debug__" : Str)) = false) (hcd : (x == ("__classdict__" : Str)) = false) : PE X (.Name x pos) (eT X M W ((Ex.var i).ev M.G)) := by
  refine (pe_var hN hv hd hcd).imp fun σ H Q ⟨α, E, S, re, rs, h⟩ => ?_
  simp only [Ex.ev] at h
  split at h
  · rename_i d hd'
    obtain ⟨v, h1, h2⟩ := re.at_ i d hd'
    exact ⟨v, h1, EndG.now h rs v h2⟩
  · exact h.elim
theorem ok_int {i : Int} {j : Nat} : PE X (.Constant (.int i) j pos) (eT X M W ((Ex.int i).ev M.G)) :=
  pe_int.imp fun σ H Q ⟨α, E, S, re, rs, h⟩ => by simp only [Ex.ev] at h; exact EndG.now h rs _ mk_int
theorem ok_bl {i : Bool} {j : Nat} : PE X (.Constant (.bool i) j pos) (eT X M W ((Ex.bl i).ev M.G)) :=
  pe_bl.imp fun σ H Q ⟨α, E, S, re, rs, h⟩ => by simp only [Ex.ev] at h; exact EndG.now h rs _ mk_bl
theorem ok_non {j : Nat} : PE X (.Constant .none j pos) (eT X M W ((Ex.non).ev M.G)) :=
  pe_non.imp fun σ H Q ⟨α, E, S, re, rs, h⟩ => by simp only [Ex.ev] at h; exact EndG.now h rs _ mk_non
theorem ok_str {x : Str} {j : Nat} : PE X (.Constant (.str x) j pos) (eT X M W ((Ex.str x).ev M.G)) :=
  pe_str.imp fun σ H Q ⟨α, E, S, re, rs, h⟩ => by simp only [Ex.ev] at h; exact EndG.now h rs _ mk_str
/-- a module's constant -/
def ConOk (X : Cx) (M : Mo) (x : Str) (d : D) : Prop := ∃ v u, X.mg x = some u ∧ RelV v u ∧ ∀ α H, Rep (kt X M) α H d v
theorem ok_glb {i : Nat} {x : Str} (C : ConOk X M x (M.G.con i)) (hg : Gl X x) (hd : (x == ("__debug__" : Str)) = false) : PE X (.Name x pos) (eT X M W ((Ex.glb i).ev M.G)) := by
  obtain ⟨v, u, h1, h2, h3⟩ := C
  refine (pe_glob hg h1 h2 hd).imp fun σ H Q ⟨α, E, S, re, rs, h⟩ => ?_
  simp only [Ex.ev] at h
  exact EndG.now h rs v (h3 _ _)
/-- two parts, one behind the other -/
theorem two_of {r : R2} {f : D → D → Sto → Res D}
    (i : ∀ α H S x y v u Q, RelS (kt X M) α H S → Rep (kt X M) α H x v → Rep (kt X M) α H y u → EndG (kt X M) W α H (f x y S) (VQ (kt X M) Q) → r v u H Q) :
    ∀ σ H Q, (eT X M W fun E S => (ma E S).bind fun x S => (mb E S).bind fun y S => f x y S) σ H Q → tOp r (eT X M W ma) (eT X M W mb) σ H Q := by
  intro σ H Q ⟨α, E, S, re, rs, h⟩
  refine tE_of re rs h.bind fun α1 H1 S1 x v st1 p1 h1 => ?_
  refine tE_of st1.re st1.rs h1.bind fun α2 H2 S2 y u st2 p2 h2 => ?_
  exact i α2 H2 S2 x y v u Q st2.rs (p1.mono st2.ext) p2 h2
theorem one_of {f : D → Sto → Res D} {r : V → Hp → VK → Prop}
    (i : ∀ α H S x v Q, RelS (kt X M) α H S → Rep (kt X M) α H x v → EndG (kt X M) W α H (f x S) (VQ (kt X M) Q) → r v H Q) :
    ∀ σ H Q, (eT X M W fun E S => (ma E S).bind fun x S => f x S) σ H Q → (eT X M W ma) σ H (fun v H1 => r v H1 Q) := by
  intro σ H Q ⟨α, E, S, re, rs, h⟩
  exact tE_of re rs h.bind fun α1 H1 S1 x v st1 p1 h1 => i α1 H1 S1 x v Q st1.rs p1 h1
/-- .. as a test -/
theorem oneB_of {f : D → Sto → Res Bool} {r : V → Hp → (Bool → Hp → Prop) → Prop}
    (i : ∀ α H S x v Q, RelS (kt X M) α H S → Rep (kt X M) α H x v → EndG (kt X M) W α H (f x S) (fun b _ _ H' => Q b H') → r v H Q) :
    ∀ σ H Q, (bT X M W fun E S => (ma E S).bind fun x S => f x S) σ H Q → (eT X M W ma) σ H (fun v H1 => r v H1 Q) := by
  intro σ H Q ⟨α, E, S, re, rs, h⟩
  exact tE_of re rs h.bind fun α1 H1 S1 x v st1 p1 h1 => i α1 H1 S1 x v Q st1.rs p1 h1

/-! ### arithmetic -/
theorem add_ok {α H S x y v u Q} (rs : RelS (kt X M) α H S) (p : Rep (kt X M) α H x v) (q : Rep (kt X M) α H y u)
    (h : EndG (kt X M) W α H (binop .Add x y S) (VQ (kt X M) Q)) :
    (rI0 fun i j => V.int (i + j)) v u H Q ∨ rCatA X.K v u H Q ∨ rCat v u H Q := by
  unfold binop at h
  split at h <;> try (first | exact h.elim | contradiction)
  · rename_i e
    rw [rep_int p, rep_int q]
    exact .inl ⟨_, _, rfl, rfl, EndG.now h rs _ mk_int⟩
  · rename_i xs ys e
    obtain ⟨hz, h⟩ := h.tst
    obtain ⟨a, vs, rfl, ta, ra⟩ := rep_tup p
    obtain ⟨b, us, rfl, tb, rb⟩ := rep_tup q
    refine .inr (.inl ⟨a, b, vs, us, rfl, rfl, ta.sq, tb.sq, by rw [ra.length, rb.length]; exact hz, fun z => ?_, fun _ z => ?_, fun _ _ p hp => ?_⟩)
    · subst z
      have := ra.length
      cases xs with
      | nil => exact EndG.now h rs _ (mk_tup tb rb)
      | cons x xs => simp at this
    · subst z
      have := rb.length
      cases ys with
      | nil => rw [List.append_nil] at h; exact EndG.now h rs _ (mk_tup ta ra)
      | cons x xs => simp at this
    · exact h _ _ (Ext.newTup hp) (rs.newTup hp) _ (mk_newTup rs hp (ra.append rb))
  · rename_i m n e
    split at h
    · rename_i xs ys e1 e2
      obtain ⟨hz, h⟩ := h.tst
      obtain ⟨a, vs, rfl, _, ta, ra⟩ := rs.lst p e1
      obtain ⟨b, us, rfl, _, tb, rb⟩ := rs.lst q e2
      refine .inr (.inr ⟨a, b, vs, us, rfl, rfl, ta, tb, by rw [ra.length, rb.length]; exact hz, fun p hp => ?_⟩)
      exact h _ _ (Ext.newObj hp) (rs.newLst hp (ra.append rb)) _ (mk_new rs)
    · exact h.elim
theorem ok_add (ha : PE X a (eT X M W ma)) (hb : PE X b (eT X M W mb)) : PE X (.BinOp a .Add b pos) (eT X M W fun E S => (ma E S).bind fun x S => (mb E S).bind fun y S => binop .Add x y S) :=
  (pe_op (op_add.or (op_catA.or op_cat)) ha hb).imp (two_of fun _ _ _ _ _ _ _ _ rs p q h => add_ok rs p q h)
theorem ok_sub (ha : PE X a (eT X M W ma)) (hb : PE X b (eT X M W mb)) : PE X (.BinOp a .Sub b pos) (eT X M W fun E S => (ma E S).bind fun x S => (mb E S).bind fun y S => binop .Sub x y S) := by
  refine (pe_op op_sub ha hb).imp (two_of fun α H S x y v u Q rs p q h => ?_)
  unfold binop at h
  split at h <;> try (first | exact h.elim | contradiction)
  rw [rep_int p, rep_int q]
  exact ⟨_, _, rfl, rfl, EndG.now h rs _ mk_int⟩
theorem ok_fdiv (ha : PE X a (eT X M W ma)) (hb : PE X b (eT X M W mb)) : PE X (.BinOp a .FloorDiv b pos) (eT X M W fun E S => (ma E S).bind fun x S => (mb E S).bind fun y S => binop .FloorDiv x y S) := by
  refine (pe_op op_fdivW ha hb).imp (two_of fun α H S x y v u Q rs p q h => ?_)
  unfold binop at h
  split at h <;> try (first | exact h.elim | contradiction)
  obtain ⟨hz, h⟩ := h.tst
  rw [rep_int p, rep_int q]
  exact ⟨_, _, rfl, rfl, hz, EndG.now h rs _ mk_int⟩
theorem ok_mod (ha : PE X a (eT X M W ma)) (hb : PE X b (eT X M W mb)) : PE X (.BinOp a .Mod b pos) (eT X M W fun E S => (ma E S).bind fun x S => (mb E S).bind fun y S => binop .Mod x y S) := by
  refine (pe_op op_modN ha hb).imp (two_of fun α H S x y v u Q rs p q h => ?_)
  unfold binop at h
  split at h <;> try (first | exact h.elim | contradiction)
  obtain ⟨hz, h⟩ := h.tst
  rw [rep_int p, rep_int q]
  exact ⟨_, _, rfl, rfl, hz, EndG.now h rs _ mk_int⟩
theorem op_mulOk : OpR X (binaryOp .Mult) (rI IntMulOk fun i j => .int (i * j)) := opI fun _ _ _ _ _ _ _ hc q => mul_int q hc
theorem op_powOk : OpR X (binaryOp .Pow) (rI (fun i j => 0 ≤ j ∧ (Builtin.Int.intBits i : Int) * j ≤ 2 ^ 27) fun i j => .int (i ^ j.toNat)) := opI fun _ _ _ _ _ _ _ hc q => pow_int hc.1 hc.2 q
theorem ok_pow (ha : PE X a (eT X M W ma)) (hb : PE X b (eT X M W mb)) : PE X (.BinOp a .Pow b pos) (eT X M W fun E S => (ma E S).bind fun x S => (mb E S).bind fun y S => binop .Pow x y S) := by
  refine (pe_op op_powOk ha hb).imp (two_of fun α H S x y v u Q rs p q h => ?_)
  unfold binop at h
  split at h <;> try (first | exact h.elim | contradiction)
  obtain ⟨hz, h⟩ := h.tst
  rw [rep_int p, rep_int q]
  exact ⟨_, _, rfl, rfl, hz, EndG.now h rs _ mk_int⟩
theorem RepL.repl {κ : Kt} {α : List Addr} {H : Hp} {ds : List D} {vs : List V} (h : RepL κ α H ds vs) : ∀ k : Nat, RepL κ α H (List.replicate k ds).flatten (List.replicate k vs).flatten
  | 0 => RepL.nil
  | k + 1 => by
    rw [List.replicate_succ, List.replicate_succ, List.flatten_cons, List.flatten_cons]
    exact h.append (RepL.repl h k)
/-- a tuple once is itself -/
theorem tuple_once (l : Addr) (items : Array Value) (n : Nat) (dd : Option Addr) (sl : Array (Option Value)) (u : Tok) :
    Meets (Builtin.«tuple.__mul__» ⟨[.ref l, .int 1 u], []⟩) (fun _ R s => s.heap.get? l = some { cls := .type "tuple", dict := dd, data := .seq items n, slots := sl } ∧ R (.ok (.ret (Value.ref l))) s) :=
  .of_wp fun prog w A R s h => by
    obtain ⟨hp, g, d, tk, os⟩ := s
    obtain ⟨hl, h⟩ := h
    have f1 := AutoSeq1.idx_int
    have c1 : (items.isEmpty || (1 : Int) == 1) = true := by simp
    wp_walk using wpAny_loadPart' hl
    exact ⟨_, rfl, h⟩
theorem op_once : OpR X (binaryOp .Mult) (fun x y H Q => ∃ l xs, x = .ref l ∧ y = .int 1 ∧ SqT X.K H l xs ∧ Q (.ref l) H) := by
  intro pins s σ H x y v u Q I rx ry h
  obtain ⟨l, xs, rfl, rfl, hT, q⟩ := h
  cases rx
  obtain ⟨t, rfl⟩ := ry
  obtain ⟨its, r, ⟨⟨cls, dd, data, sl⟩, ho, hc, n, hd⟩, hs⟩ := I.tuple hT
  simp only at hc hd
  subst hc hd
  exact wpAny_binaryOp_repeat_ref (T := "tuple") (U := "int") (by decide) ⟨_, ho, rfl⟩ (fun s' => typeIs_int s' 1 t) noFill_tuple_mul F.fills_int_mul F.slot_int_rmul repeat_tuple F.slot_int_index.lookup
    (call_meets F.slot_int_rmul (typeIs_int s 1 t) F.entry_int_rmul (F.args_int_rmul_2 _ _) (int_rmul_tuple 1 t l its.toArray n dd sl)
      ⟨ho, rfl, ⟨_, ho, rfl⟩, call_meets F.slot_tuple_mul ⟨_, ho, rfl⟩ F.entry_tuple_mul (F.args_tuple_mul_2 _ _) (tuple_once l its.toArray n dd sl t) ⟨ho, ⟨.ref l, H, I, rfl, q⟩⟩⟩)
theorem ok_mul (ha : PE X a (eT X M W ma)) (hb : PE X b (eT X M W mb)) : PE X (.BinOp a .Mult b pos) (eT X M W fun E S => (ma E S).bind fun x S => (mb E S).bind fun y S => binop .Mult x y S) := by
  refine (pe_op (op_mulOk.or (op_rep.or (op_repT.or op_once))) ha hb).imp (two_of fun α H S x y v u Q rs p q h => ?_)
  unfold binop at h
  split at h <;> try (first | exact h.elim | contradiction)
  · obtain ⟨hz, h⟩ := h.tst
    rw [rep_int p, rep_int q]
    exact .inl ⟨_, _, rfl, rfl, hz, EndG.now h rs _ mk_int⟩
  · rename_i m k e
    split at h
    · rename_i xs e1
      obtain ⟨⟨z1, z2, z3⟩, h⟩ := h.tst
      obtain ⟨a, vs, rfl, _, ta, ra⟩ := rs.lst p e1
      rw [rep_int q]
      refine .inr (.inl ⟨a, k, vs, rfl, rfl, ta, z1, z2, by rw [ra.length]; exact z3, fun p hp => ?_⟩)
      exact h _ _ (Ext.newObj hp) (rs.newLst hp (ra.repl _)) _ (mk_new rs)
    · exact h.elim
  · rename_i xs k e
    obtain ⟨a, vs, rfl, ta, ra⟩ := rep_tup p
    rw [rep_int q]
    split at h
    · rename_i hk
      subst hk
      exact .inr (.inr (.inr ⟨a, vs, rfl, rfl, ta.sq, EndG.now h rs _ (mk_tup ta ra)⟩))
    · obtain ⟨⟨z0, z1, z2, z4⟩, h⟩ := h.tst
      have hl := ra.length
      refine .inr (.inr (.inl ⟨a, k, vs, rfl, rfl, ta.sq, fun z => z0 ?_, z1, z2, by omega, fun p hp => ?_⟩))
      · rw [z] at hl
        exact List.eq_nil_of_length_eq_zero hl.symm
      · exact h _ _ (Ext.newTup hp) (rs.newTup hp) _ (mk_newTup rs hp (ra.repl _))
theorem ok_bin {op : Operator} (ho : (match op with | .Add | .Sub | .Mult | .FloorDiv | .Mod | .Pow => true | _ => false) = true) (ha : PE X a (eT X M W ma)) (hb : PE X b (eT X M W mb)) :
    PE X (.BinOp a op b pos) (eT X M W fun E S => (ma E S).bind fun x S => (mb E S).bind fun y S => binop op x y S) := by
  cases op <;> first
    | exact absurd (show false = true from ho) Bool.false_ne_true
    | exact ok_add ha hb
    | exact ok_sub ha hb
    | exact ok_mul ha hb
    | exact ok_fdiv ha hb
    | exact ok_mod ha hb
    | exact ok_pow ha hb
theorem ok_neg (ha : PE X a (eT X M W ma)) : PE X (.UnaryOp .USub a pos) (eT X M W fun E S => (ma E S).bind fun x S => match x with
    | .int i => .ok (.int (-i)) S
    | _ => .bad) := by
  refine (pe_un un_neg ha).imp fun σ H Q h => one_of (fun α H S x v Q rs p h => ?_) σ H Q h
  split at h <;> try (first | exact h.elim | contradiction)
  rw [rep_int p]
  exact ⟨_, rfl, EndG.now h rs _ mk_int⟩

/-! ### data -/
mutual
theorem dp_of {κ : Kt} {α : List Addr} {H : Hp} : ∀ (d : D) (x : PyData) (v : V), d.py = some x → Rep κ α H d v → Dp κ.K H v x
  | .non, x, v, e, r => by simp only [D.py] at e; cases e; rw [rep_non r]; exact .non
  | .bl b, x, v, e, r => by simp only [D.py] at e; cases e; rw [rep_bl r]; exact .bl b
  | .int i, x, v, e, r => by simp only [D.py] at e; cases e; rw [rep_int r]; exact .int i
  | .str i, x, v, e, r => by simp only [D.py] at e; cases e; rw [rep_str r]; exact .str i
  | .tup ds, x, v, e, r => by
    simp only [D.py, Option.map_eq_some_iff] at e
    obtain ⟨xs, e, rfl⟩ := e
    obtain ⟨a, vs, rfl, t, r⟩ := rep_tup r
    exact .tup t.sq (dps_of ds xs vs e r)
  | .con ds, x, v, e, r => by
    simp only [D.py, Option.map_eq_some_iff] at e
    obtain ⟨xs, e, rfl⟩ := e
    obtain ⟨a, vs, rfl, t, r⟩ := rep_con r
    exact .lst t.sq (dps_of ds xs vs e r)
  | .ref n, x, v, e, r => by simp only [D.py] at e; cases e
  | .xv n d, x, v, e, r => by simp only [D.py] at e; cases e
theorem dps_of {κ : Kt} {α : List Addr} {H : Hp} : ∀ (ds : List D) (xs : List PyData) (vs : List V), D.pys ds = some xs → RepL κ α H ds vs → DpAll κ.K H vs xs
  | [], xs, vs, e, r => by
    simp only [D.pys] at e
    simp only [RepL] at r
    cases e
    subst r
    exact .nil
  | d :: ds, xs, vs, e, r => by
    simp only [D.pys] at e
    simp only [RepL] at r
    obtain ⟨v, ws, rfl, r1, r2⟩ := r
    split at e
    · rename_i y ys e1 e2
      cases e
      exact .cons (dp_of d y v e1 r1) (dps_of ds ys ws e2 r2)
    · cases e
end
theorem dpS_of {κ : Kt} {α : List Addr} {H : Hp} {S : Sto} (rs : RelS κ α H S) {d : D} {x : PyData} {v : V} (e : pyOf S d = some x) (r : Rep κ α H d v) : Dp κ.K H v x := by
  unfold pyOf at e
  split at e
  · rename_i n
    split at e
    · rename_i ds hs
      rw [Option.map_eq_some_iff] at e
      obtain ⟨xs, e, rfl⟩ := e
      obtain ⟨a, vs, rfl, _, t, ra⟩ := rs.lst r hs
      exact .lst (SqL.of t) (dps_of ds xs vs e ra)
    · cases e
  · exact dp_of _ x v e r
/-- a list that is compared -/
theorem lstOf_at {κ : Kt} {α : List Addr} {H : Hp} {S : Sto} (rs : RelS κ α H S) {d : D} {ds : List D} {v : V} (e : lstOf S d = some ds) (r : Rep κ α H d v) : ∃ a vs, v = .ref a ∧ SqL κ.K H a vs ∧ RepL κ α H ds vs := by
  unfold lstOf at e
  split at e
  · cases e
    obtain ⟨a, vs, rfl, t, ra⟩ := rep_con r
    exact ⟨a, vs, rfl, t.sq, ra⟩
  · split at e
    · rename_i hs
      cases e
      obtain ⟨a, vs, rfl, _, t, ra⟩ := rs.lst r hs
      exact ⟨a, vs, rfl, SqL.of t, ra⟩
    · cases e
  · cases e
/-- two lists of unlike lengths, or two empty ones -/
def rLen (K : PySem.W.Frag) (no : Bool) : R2 := fun x y H Q => ∃ a b xs ys, x = .ref a ∧ y = .ref b ∧ SqL K H a xs ∧ SqL K H b ys ∧ (xs.length ≠ ys.length ∨ xs = [] ∧ ys = []) ∧ Q (.bl (if no then !decide (xs.length = ys.length) else decide (xs.length = ys.length))) H
theorem op_eqLen (hu : X.A.units < cLine) : OpR X (compareOp .Eq) (rLen X.K false) := by
  intro pins s σ H x y v u Q I rx ry h
  obtain ⟨a, b, xs, ys, rfl, rfl, ha, hb, hd, q⟩ := h
  cases rx
  cases ry
  obtain ⟨its, r1, p1, _⟩ := I.list ha
  obtain ⟨its2, r2, p2, _⟩ := I.list hb
  have e1 := r1.length
  have e2 := r2.length
  rcases hd with hd | ⟨rfl, rfl⟩
  · rw [decide_eq_false hd] at q
    exact SeqAt.eq_list_lengthsAt p1.isList p2.isList (by simp; omega) hu ⟨.bl false, H, I, rfl, q⟩
  · cases r1
    cases r2
    exact SeqAt.eq_listAt (e := fun _ => true) p1.isList p2.isList rfl hu (fun j h1 _ => absurd h1 (by simp)) ⟨.bl true, H, I, rfl, q⟩
theorem op_neLen (hu : X.A.units < cLine) : OpR X (compareOp .NotEq) (rLen X.K true) := by
  intro pins s σ H x y v u Q I rx ry h
  obtain ⟨a, b, xs, ys, rfl, rfl, ha, hb, hd, q⟩ := h
  cases rx
  cases ry
  obtain ⟨its, r1, p1, _⟩ := I.list ha
  obtain ⟨its2, r2, p2, _⟩ := I.list hb
  have e1 := r1.length
  have e2 := r2.length
  rcases hd with hd | ⟨rfl, rfl⟩
  · rw [decide_eq_false hd] at q
    exact SeqAt.RcNeAt.lists_lengths p1.isList p2.isList (by simp; omega) hu X.prog X.w X.xe _ ⟨.bl true, H, I, rfl, q⟩
  · cases r1
    cases r2
    exact SeqAt.RcNeAt.lists (e := fun _ => true) p1.isList p2.isList rfl hu (fun j h1 _ => absurd h1 (by simp)) X.prog X.w X.xe _ ⟨.bl false, H, I, rfl, q⟩
/-- == of what is told -/
def rEqP (K : PySem.W.Frag) (no : Bool) : R2 := fun x y H Q => (∃ k, scal x y = true ∧ decide (x = y) = k ∧ Q (.bl (if no then !k else k)) H) ∨ rLen K no x y H Q ∨
  ∃ d e, Dp K H x d ∧ Dp K H y e ∧ SeqAt.shaped d = true ∧ SeqAt.shaped e = true ∧ Q (.bl (if no then !PyData.eqv d e else PyData.eqv d e)) H
theorem eq_ok {no : Bool} {α H S x y v u Q} {k : Bool} (rs : RelS (kt X M) α H S) (p : Rep (kt X M) α H x v) (q : Rep (kt X M) α H y u) (e : eqOf S x y = some k) (h : Q (.bl (if no then !k else k)) H) : rEqP X.K no v u H Q := by
  have py : pyEq S x y = some k → rEqP X.K no v u H Q := fun e => by
    unfold pyEq at e
    split at e
    · rename_i d d' e1 e2
      split at e
      · rename_i hs
        rw [Bool.and_eq_true] at hs
        cases e
        exact .inr (.inr ⟨d, d', dpS_of rs e1 p, dpS_of rs e2 q, hs.1, hs.2, h⟩)
      · cases e
    · cases e
  unfold eqOf at e
  split at e
  · cases e
    rw [rep_int p, rep_int q]
    exact .inl ⟨_, rfl, by simp, h⟩
  · cases e
    rw [rep_str p, rep_str q]
    exact .inl ⟨_, rfl, by simp, h⟩
  · cases e
    rw [rep_bl p, rep_bl q]
    exact .inl ⟨_, rfl, by simp, h⟩
  · split at e
    · rename_i xs ys e1 e2
      obtain ⟨a, vs, rfl, ta, ra⟩ := lstOf_at rs e1 p
      obtain ⟨b, us, rfl, tb, rb⟩ := lstOf_at rs e2 q
      have l1 := ra.length
      have l2 := rb.length
      split at e
      · rename_i hne
        cases e
        have hne : vs.length ≠ us.length := by rw [l1, l2]; simpa using hne
        exact .inr (.inl ⟨a, b, vs, us, rfl, rfl, ta, tb, .inl hne, by rw [decide_eq_false hne]; exact h⟩)
      · rename_i hee
        split at e
        · rename_i hem
          cases e
          have z1 : vs = [] := List.eq_nil_of_length_eq_zero (by rw [l1]; simpa using hem)
          have z2 : us = [] := List.eq_nil_of_length_eq_zero (by rw [l2]; simp at hee hem; rw [hem] at hee; simpa using hee.symm)
          subst z1
          subst z2
          exact .inr (.inl ⟨a, b, _, _, rfl, rfl, ta, tb, .inr ⟨rfl, rfl⟩, h⟩)
        · exact py e
    · exact py e
theorem op_eqP (hu : X.A.units + 64 < cLine) : OpR X (compareOp .Eq) (rEqP X.K false) := by
  intro pins s σ H x y v u Q I rx ry h
  rcases h with ⟨k, h1, rfl, h2⟩ | h | h
  · exact op_eq pins s σ H x y v u Q I rx ry ⟨h1, h2⟩
  · exact op_eqLen (by omega) pins s σ H x y v u Q I rx ry h
  · exact op_eqD hu pins s σ H x y v u Q I rx ry h
theorem op_neP (hu : X.A.units + 64 < cLine) : OpR X (compareOp .NotEq) (rEqP X.K true) := by
  intro pins s σ H x y v u Q I rx ry h
  rcases h with ⟨k, h1, rfl, h2⟩ | h | h
  · exact op_ne pins s σ H x y v u Q I rx ry ⟨h1, h2⟩
  · exact op_neLen (by omega) pins s σ H x y v u Q I rx ry h
  · exact op_neD hu pins s σ H x y v u Q I rx ry h
/-- in, of flat things -/
theorem flat_of {κ : Kt} {α : List Addr} {H : Hp} {d : D} {v : V} (h : d.flat = true) (r : Rep κ α H d v) : flatV v = true := by
  cases d <;> first
    | (rw [rep_int r]; rfl)
    | (rw [rep_bl r]; rfl)
    | (rw [rep_str r]; rfl)
    | (rw [rep_non r]; rfl)
    | exact absurd (show false = true from h) Bool.false_ne_true
theorem eqF_of {κ : Kt} {α : List Addr} {H : Hp} {d e : D} {v u : V} (h : d.flat = true) (k : e.flat = true) (c : e.cmpb d = true) (r : Rep κ α H d v) (q : Rep κ α H e u) : eqV v u = d.eqF e := by
  cases d <;> first
    | exact absurd (show false = true from h) Bool.false_ne_true
    | (cases e <;> first
      | exact absurd (show false = true from k) Bool.false_ne_true
      | exact absurd (show false = true from c) Bool.false_ne_true
      | (simp only [rep_int, rep_bl, rep_str, rep_non, Rep] at r q; subst r; subst q; rfl))
theorem in_ok {no : Bool} {α H S x y v u Q} {k : Bool} (rs : RelS (kt X M) α H S) (p : Rep (kt X M) α H x v) (q : Rep (kt X M) α H y u) (e : inOf S x y = some k) (h : Q (.bl (if no then !k else k)) H) : rIn X.K no v u H Q := by
  unfold inOf at e
  split at e
  · rename_i ds hi
    obtain ⟨a, vs, rfl, t, r⟩ := rs.items q hi
    split at e
    · rename_i hf
      cases e
      simp only [Bool.and_eq_true] at hf
      obtain ⟨⟨f1, f2⟩, f3⟩ := hf
      have key : ∀ (ds : List D) (vs : List V), RepL (kt X M) α H ds vs → ds.all D.flat = true → (ds.all fun d => x.cmpb d) = true → vs.all flatV = true ∧ inV v vs = ds.any fun d => d.eqF x := by
        intro ds
        induction ds with
        | nil => intro vs r _ _; simp only [RepL] at r; subst r; exact ⟨rfl, rfl⟩
        | cons d ds ih =>
          intro vs r g1 g2
          simp only [RepL] at r
          obtain ⟨w, ws, rfl, r1, r2⟩ := r
          rw [List.all_cons, Bool.and_eq_true] at g1 g2
          obtain ⟨i1, i2⟩ := ih ws r2 g1.2 g2.2
          refine ⟨by rw [List.all_cons, flat_of g1.1 r1, i1]; rfl, ?_⟩
          unfold inV at i2 ⊢
          rw [List.any_cons, List.any_cons, i2, eqF_of g1.1 f1 g2.1 r1 p]
      obtain ⟨k1, k2⟩ := key ds vs r f2 f3
      exact ⟨a, vs, rfl, t, flat_of f1 p, k1, by rw [k2]; exact h⟩
    · cases e
  · cases e
/-- a comparison, by what is told of it -/
def rCmp (X : Cx) (M : Mo) (op : CmpOp) : R2 := fun v u H Q => ∃ α S x y k, RelS (kt X M) α H S ∧ Rep (kt X M) α H x v ∧ Rep (kt X M) α H y u ∧ cmpop op x y S = some k ∧ Q (.bl k) H
theorem op_cmp {op : CmpOp} (hu : X.A.units + 64 < cLine) : OpR X (compareOp op) (rCmp X M op) := by
  intro pins s σ H v u v' u' Q I rx ry h
  obtain ⟨α, S, x, y, k, rs, p, q, e, h⟩ := h
  unfold cmpop at e
  split at e
  · exact op_eqP hu pins s σ H v u v' u' Q I rx ry (eq_ok (no := false) rs p q e h)
  · rw [Option.map_eq_some_iff] at e
    obtain ⟨k', e, rfl⟩ := e
    exact op_neP hu pins s σ H v u v' u' Q I rx ry (eq_ok (no := true) rs p q e h)
  · cases e; rw [rep_int p] at rx; rw [rep_int q] at ry; exact op_lt pins s σ H _ _ v' u' Q I rx ry ⟨_, _, rfl, rfl, h⟩
  · cases e; rw [rep_int p] at rx; rw [rep_int q] at ry; exact op_le pins s σ H _ _ v' u' Q I rx ry ⟨_, _, rfl, rfl, h⟩
  · cases e; rw [rep_int p] at rx; rw [rep_int q] at ry; exact op_gt pins s σ H _ _ v' u' Q I rx ry ⟨_, _, rfl, rfl, h⟩
  · cases e; rw [rep_int p] at rx; rw [rep_int q] at ry; exact op_ge pins s σ H _ _ v' u' Q I rx ry ⟨_, _, rfl, rfl, h⟩
  · exact op_in_seq pins s σ H v u v' u' Q I rx ry (in_ok (no := false) rs p q e h)
  · rw [Option.map_eq_some_iff] at e
    obtain ⟨k', e, rfl⟩ := e
    exact op_notIn_seq pins s σ H v u v' u' Q I rx ry (in_ok (no := true) rs p q e h)
  · cases e
theorem ok_cmp {op : CmpOp} (hu : X.A.units + 64 < cLine) (hm : behindInMarks op b = false) (ha : PE X a (eT X M W ma)) (hb : PE X b (eT X M W mb)) :
    PE X (.Compare a [op] [b] pos) (eT X M W fun E S => (ma E S).bind fun x S => (mb E S).bind fun y S => (ofO (cmpop op x y S) S).bind fun k S => .ok (.bl k) S) := by
  refine (pe_cmpR (op_cmp (M := M) hu) ha hb hm).imp (two_of fun α H S x y v u Q rs p q h => ?_)
  obtain ⟨k, e, h⟩ := h.bind.ofO rs
  exact ⟨α, S, x, y, k, rs, p, q, e, EndG.now h rs _ mk_bl⟩
theorem ok_cmpT {op : CmpOp} (hu : X.A.units + 64 < cLine) (hm : behindInMarks op b = false) (ha : PE X a (eT X M W ma)) (hb : PE X b (eT X M W mb)) :
    PT X (.Compare a [op] [b] pos) (bT X M W fun E S => (ma E S).bind fun x S => (mb E S).bind fun y S => ofO (cmpop op x y S) S) := by
  refine (pt_cmpR (op_cmp (M := M) hu) ha hb hm).imp fun σ H Q ⟨α, E, S, re, rs, h⟩ => ?_
  refine tE_of re rs h.bind fun α1 H1 S1 x v st1 p1 h1 => ?_
  refine tE_of st1.re st1.rs h1.bind fun α2 H2 S2 y u st2 p2 h2 => ?_
  obtain ⟨k, e, h⟩ := h2.ofO st2.rs
  exact ⟨α2, S2, x, y, k, st2.rs, p1.mono st2.ext, p2, e, k, rfl, h⟩
theorem ok_chn {op op' : CmpOp} (hu : X.A.units + 64 < cLine) (hm : lastMarks [op, op'] [b, c] = false) (ha : PE X a (eT X M W ma)) (hb : PE X b (eT X M W mb)) (hc : PE X c (eT X M W mc)) :
    PE X (.Compare a [op, op'] [b, c] pos) (eT X M W fun E S => (ma E S).bind fun x S => (mb E S).bind fun y S => (ofO (cmpop op x y S) S).bind fun k S =>
      if k = true then (mc E S).bind fun z S => (ofO (cmpop op' y z S) S).bind fun k S => .ok (.bl k) S else .ok (.bl false) S) := by
  refine (pe_chain (op_cmp (M := M) hu) (op_cmp (M := M) hu) ha hb hc hm).imp fun σ H Q ⟨α, E, S, re, rs, h⟩ => ?_
  refine tE_of re rs h.bind fun α1 H1 S1 x v st1 p1 h1 => ?_
  refine tE_of st1.re st1.rs h1.bind fun α2 H2 S2 y u st2 p2 h2 => ?_
  obtain ⟨k, e, h⟩ := h2.bind.ofO st2.rs
  refine ⟨α2, S2, x, y, k, st2.rs, p1.mono st2.ext, p2, e, k, rfl, ?_⟩
  cases k with
  | true =>
    rw [if_pos rfl] at h ⊢
    refine tE_of st2.re st2.rs h.bind fun α3 H3 S3 z w st3 p3 h3 => ?_
    obtain ⟨k, e, h⟩ := h3.bind.ofO st3.rs
    exact ⟨α3, S3, y, z, k, st3.rs, p2.mono st3.ext, p3, e, EndG.now h st3.rs _ mk_bl⟩
  | false => exact EndG.now h st2.rs _ mk_bl
theorem ok_chnT {op op' : CmpOp} (hu : X.A.units + 64 < cLine) (hm : lastMarks [op, op'] [b, c] = false) (ha : PE X a (eT X M W ma)) (hb : PE X b (eT X M W mb)) (hc : PE X c (eT X M W mc)) :
    PT X (.Compare a [op, op'] [b, c] pos) (bT X M W fun E S => (ma E S).bind fun x S => (mb E S).bind fun y S => (ofO (cmpop op x y S) S).bind fun k S =>
      if k = true then (mc E S).bind fun z S => ofO (cmpop op' y z S) S else .ok false S) := by
  refine (pt_chain (op_cmp (M := M) hu) (op_cmp (M := M) hu) ha hb hc hm).imp fun σ H Q ⟨α, E, S, re, rs, h⟩ => ?_
  refine tE_of re rs h.bind fun α1 H1 S1 x v st1 p1 h1 => ?_
  refine tE_of st1.re st1.rs h1.bind fun α2 H2 S2 y u st2 p2 h2 => ?_
  obtain ⟨k, e, h⟩ := h2.bind.ofO st2.rs
  refine ⟨α2, S2, x, y, k, st2.rs, p1.mono st2.ext, p2, e, k, rfl, ?_⟩
  cases k with
  | true =>
    rw [if_pos rfl] at h ⊢
    refine tE_of st2.re st2.rs h.bind fun α3 H3 S3 z w st3 p3 h3 => ?_
    obtain ⟨k, e, h⟩ := h3.ofO st3.rs
    exact ⟨α3, S3, y, z, k, st3.rs, p2.mono st3.ext, p3, e, k, rfl, h⟩
  | false => exact ⟨false, rfl, EndG.now h st2.rs⟩
end
end Py
set_option Elab.async false
set_option linter.all false
set_option maxRecDepth 100000
set_option maxHeartbeats 1000000
/-! Tests, places, slices, displays, built-in functions, methods. -/
namespace Py
open PySem PySem.Spec PyProof.Rows L2
section
variable {X : Cx} {M : Mo} {W : XK} {pos : Pos} {a b c : Expr} {ma mb mc : Env → Sto → Res D} {ta tb : Env → Sto → Res Bool}
/-- is None -/
theorem isN_of {α : List Addr} {H : Hp} {d : D} {v : V} {κ : Kt} (r : Rep κ α H d v) : decide (v = .non) = d.isNon := by
  cases d with
  | non => rw [rep_non r]; rfl
  | bl b => rw [rep_bl r]; rfl
  | int i => rw [rep_int r]; rfl
  | str x => rw [rep_str r]; rfl
  | tup ds => obtain ⟨a, vs, rfl, _⟩ := rep_tup r; rfl
  | con ds => obtain ⟨a, vs, rfl, _⟩ := rep_con r; rfl
  | ref n => obtain ⟨a, rfl, _⟩ := rep_ref r; rfl
  | xv c d => obtain ⟨a, dx, w, rfl, _⟩ := rep_xv r; rfl
theorem ok_isN {op : CmpOp} {no : Bool} {j : Nat} {p' : Pos} (ho : (op = .Is ∧ no = false) ∨ (op = .IsNot ∧ no = true)) (ha : PE X a (eT X M W ma)) :
    PE X (.Compare a [op] [.Constant .none j p'] pos) (eT X M W fun E S => (ma E S).bind fun x S => .ok (.bl (if no then !x.isNon else x.isNon)) S) := by
  have key : ∀ σ H Q, (eT X M W fun E S => (ma E S).bind fun x S => .ok (.bl (if no then !x.isNon else x.isNon)) S) σ H Q → (eT X M W ma) σ H fun x H1 => Q (.bl (if no then !decide (x = .non) else decide (x = .non))) H1 := fun σ H Q h =>
    one_of (r := fun x H Q => Q (.bl (if no then !decide (x = .non) else decide (x = .non))) H) (fun α H S x v Q rs p h => by
      have z := EndG.now h rs _ mk_bl
      rw [isN_of p]
      exact z) σ H Q h
  rcases ho with ⟨rfl, rfl⟩ | ⟨rfl, rfl⟩
  · exact (pe_cmp (pc_isN ha)).imp key
  · exact (pe_cmp (pc_notN ha)).imp key
theorem ok_isNT {op : CmpOp} {no : Bool} {j : Nat} {p' : Pos} (ho : (op = .Is ∧ no = false) ∨ (op = .IsNot ∧ no = true)) (ha : PE X a (eT X M W ma)) :
    PT X (.Compare a [op] [.Constant .none j p'] pos) (bT X M W fun E S => (ma E S).bind fun x S => .ok (if no then !x.isNon else x.isNon) S) := by
  have key : ∀ σ H Q, (bT X M W fun E S => (ma E S).bind fun x S => .ok (if no then !x.isNon else x.isNon) S) σ H Q → (eT X M W ma) σ H fun x H1 => ∃ c, V.bl (if no then !decide (x = .non) else decide (x = .non)) = .bl c ∧ Q c H1 := fun σ H Q h =>
    oneB_of (r := fun x H Q => ∃ c, V.bl (if no then !decide (x = .non) else decide (x = .non)) = .bl c ∧ Q c H) (fun α H S x v Q rs p h => by
      have z := EndG.now h rs
      refine ⟨_, rfl, ?_⟩
      rw [isN_of p]
      exact z) σ H Q h
  rcases ho with ⟨rfl, rfl⟩ | ⟨rfl, rfl⟩
  · exact (pt_cmp (pc_isN ha)).imp key
  · exact (pt_cmp (pc_notN ha)).imp key
/-- is True -/
theorem ok_isB {op : CmpOp} {k no : Bool} {j : Nat} {p' : Pos} (ho : (op = .Is ∧ no = false) ∨ (op = .IsNot ∧ no = true)) (ha : PE X a (eT X M W ma)) :
    PE X (.Compare a [op] [.Constant (.bool k) j p'] pos) (eT X M W fun E S => (ma E S).bind fun x S => match x with
      | .bl c => .ok (.bl (if no then !(c == k) else (c == k))) S
      | _ => .bad) := by
  rcases ho with ⟨rfl, rfl⟩ | ⟨rfl, rfl⟩
  · refine (pe_cmpR op_is_bl ha pe_bl (nomark _)).imp fun σ H Q h => one_of (r := fun x H Q => ∃ a b, x = .bl a ∧ V.bl k = .bl b ∧ Q (.bl (decide (a = b))) H) (fun α H S x v Q rs p h => ?_) σ H Q h
    split at h
    · rw [rep_bl p]
      exact ⟨_, _, rfl, rfl, by have z := EndG.now h rs _ mk_bl; rw [← Bool.beq_eq_decide_eq]; exact z⟩
    · exact h.elim
  · refine (pe_cmpR op_isnot_bl ha pe_bl (nomark _)).imp fun σ H Q h => one_of (r := fun x H Q => ∃ a b, x = .bl a ∧ V.bl k = .bl b ∧ Q (.bl (!decide (a = b))) H) (fun α H S x v Q rs p h => ?_) σ H Q h
    split at h
    · rw [rep_bl p]
      exact ⟨_, _, rfl, rfl, by have z := EndG.now h rs _ mk_bl; rw [← Bool.beq_eq_decide_eq]; exact z⟩
    · exact h.elim
theorem ok_isBT {op : CmpOp} {k no : Bool} {j : Nat} {p' : Pos} (ho : (op = .Is ∧ no = false) ∨ (op = .IsNot ∧ no = true)) (ha : PE X a (eT X M W ma)) :
    PT X (.Compare a [op] [.Constant (.bool k) j p'] pos) (bT X M W fun E S => (ma E S).bind fun x S => match x with
      | .bl c => .ok (if no then !(c == k) else (c == k)) S
      | _ => .bad) := by
  rcases ho with ⟨rfl, rfl⟩ | ⟨rfl, rfl⟩
  · refine (pt_cmpR op_is_bl ha pe_bl (nomark _)).imp fun σ H Q h => oneB_of (r := fun x H Q => ∃ a b, x = .bl a ∧ V.bl k = .bl b ∧ ∃ c, V.bl (decide (a = b)) = .bl c ∧ Q c H) (fun α H S x v Q rs p h => ?_) σ H Q h
    split at h
    · rw [rep_bl p]
      exact ⟨_, _, rfl, rfl, _, rfl, by have z := EndG.now h rs; rw [← Bool.beq_eq_decide_eq]; exact z⟩
    · exact h.elim
  · refine (pt_cmpR op_isnot_bl ha pe_bl (nomark _)).imp fun σ H Q h => oneB_of (r := fun x H Q => ∃ a b, x = .bl a ∧ V.bl k = .bl b ∧ ∃ c, V.bl (!decide (a = b)) = .bl c ∧ Q c H) (fun α H S x v Q rs p h => ?_) σ H Q h
    split at h
    · rw [rep_bl p]
      exact ⟨_, _, rfl, rfl, _, rfl, by have z := EndG.now h rs; rw [← Bool.beq_eq_decide_eq]; exact z⟩
    · exact h.elim

/-! ### and, or, not, if -/
variable {rest : List Expr}
theorem ok_and (ha : PE X a (eT X M W ma)) (hb : PE X (.BoolOp .And (b :: rest) pos) (eT X M W mb)) :
    PE X (.BoolOp .And (a :: b :: rest) pos) (eT X M W fun E S => (ma E S).bind fun x S => match x with
      | .bl true => mb E S
      | .bl false => .ok (.bl false) S
      | _ => .bad) := by
  refine (pe_and ha hb).imp fun σ H Q ⟨α, E, S, re, rs, h⟩ => ?_
  refine tE_of re rs h.bind fun α1 H1 S1 x v st1 p1 h1 => ?_
  split at h1
  · rw [rep_bl p1]; exact ⟨true, rfl, α1, E, S1, st1.re, st1.rs, h1⟩
  · rw [rep_bl p1]; exact ⟨false, rfl, EndG.now h1 st1.rs _ mk_bl⟩
  · exact h1.elim
theorem ok_or (ha : PE X a (eT X M W ma)) (hb : PE X (.BoolOp .Or (b :: rest) pos) (eT X M W mb)) :
    PE X (.BoolOp .Or (a :: b :: rest) pos) (eT X M W fun E S => (ma E S).bind fun x S => match x with
      | .bl false => mb E S
      | .bl true => .ok (.bl true) S
      | _ => .bad) := by
  refine (pe_or ha hb).imp fun σ H Q ⟨α, E, S, re, rs, h⟩ => ?_
  refine tE_of re rs h.bind fun α1 H1 S1 x v st1 p1 h1 => ?_
  split at h1
  · rw [rep_bl p1]; exact ⟨false, rfl, α1, E, S1, st1.re, st1.rs, h1⟩
  · rw [rep_bl p1]; exact ⟨true, rfl, EndG.now h1 st1.rs _ mk_bl⟩
  · exact h1.elim
theorem ok_andT (ha : PT X a (bT X M W ta)) (hb : PW X (.BoolOp .And (b :: rest) pos) (bT X M W tb)) :
    PW X (.BoolOp .And (a :: b :: rest) pos) (bT X M W fun E S => (ta E S).bind fun k S => if k = true then tb E S else .ok false S) := by
  refine (pw_and ha hb).imp fun σ H Q ⟨α, E, S, re, rs, h⟩ => ?_
  refine tT_of re rs h.bind fun α1 H1 S1 k st1 h1 => ?_
  cases k with
  | true => exact ⟨α1, E, S1, st1.re, st1.rs, h1⟩
  | false => exact EndG.now h1 st1.rs
theorem ok_orT (ha : PT X a (bT X M W ta)) (hb : PW X (.BoolOp .Or (b :: rest) pos) (bT X M W tb)) :
    PW X (.BoolOp .Or (a :: b :: rest) pos) (bT X M W fun E S => (ta E S).bind fun k S => if k = true then .ok true S else tb E S) := by
  refine (pw_or ha hb).imp fun σ H Q ⟨α, E, S, re, rs, h⟩ => ?_
  refine tT_of re rs h.bind fun α1 H1 S1 k st1 h1 => ?_
  cases k with
  | true => exact EndG.now h1 st1.rs
  | false => exact ⟨α1, E, S1, st1.re, st1.rs, h1⟩
theorem ok_notT (ha : PT X a (bT X M W ta)) : PT X (.UnaryOp .Not a pos) (bT X M W fun E S => (ta E S).bind fun k S => .ok (!k) S) := by
  refine (pt_not ha).imp fun σ H Q ⟨α, E, S, re, rs, h⟩ => ?_
  exact tT_of re rs h.bind fun α1 H1 S1 k st1 h1 => EndG.now h1 st1.rs
theorem ok_ife (hc : PT X c (bT X M W ta)) (ha : PE X a (eT X M W ma)) (hb : PE X b (eT X M W mb)) : PE X (.IfExp c a b pos) (eT X M W fun E S => (ta E S).bind fun k S => if k = true then ma E S else mb E S) := by
  refine (pe_ifExp hc ha hb).imp fun σ H Q ⟨α, E, S, re, rs, h⟩ => ?_
  refine tT_of re rs h.bind fun α1 H1 S1 k st1 h1 => ?_
  cases k with
  | true => exact ⟨α1, E, S1, st1.re, st1.rs, h1⟩
  | false => exact ⟨α1, E, S1, st1.re, st1.rs, h1⟩

/-! ### truth -/
theorem truth_of {α : List Addr} {H : Hp} {S : Sto} {d : D} {v : V} {k : Bool} (rs : RelS (kt X M) α H S) (r : Rep (kt X M) α H d v) (e : truth d S = some k) : TruV X.K v H k := by
  unfold truth at e
  split at e
  · cases e; rw [rep_non r]; exact rfl
  · cases e; rw [rep_bl r]; exact rfl
  · cases e; rw [rep_int r]; exact rfl
  · cases e
    obtain ⟨a, vs, rfl, t, ra⟩ := rep_tup r
    refine .inr (.inl ⟨vs, t.sq, ?_⟩)
    have := ra.length
    cases vs <;> cases ‹List D› <;> simp_all
  · split at e
    · rename_i hs
      cases e
      obtain ⟨a, vs, rfl, _, t, ra⟩ := rs.lst r hs
      refine .inl ⟨vs, SqL.of t, ?_⟩
      have := ra.length
      cases vs <;> cases ‹List D› <;> simp_all
    · cases e
  · cases e
theorem ok_not (ha : PE X a (eT X M W ma)) : PE X (.UnaryOp .Not a pos) (eT X M W fun E S => (ma E S).bind fun x S => (ofO (truth x S) S).bind fun k S => .ok (.bl (!k)) S) := by
  refine (pe_notT ha).imp fun σ H Q h => one_of (r := fun x H Q => ∃ k, TruV X.K x H k ∧ Q (.bl (!k)) H) (fun α H S x v Q rs p h => ?_) σ H Q h
  obtain ⟨k, e, h⟩ := h.bind.ofO rs
  exact ⟨k, truth_of rs p e, EndG.now h rs _ mk_bl⟩
/-- an expression whose test is its value's truth -/
theorem ok_truth (ha : PE X a (eT X M W ma)) (he : ∀ whole, isTrue a X.env whole = (do let v ← whole; standAt a.pos; holding [v] (truthy v))) : PT X a (bT X M W fun E S => (ma E S).bind fun d S => ofO (truth d S) S) := by
  refine (pt_truth ha he).imp fun σ H Q h => oneB_of (r := fun x H Q => ∃ k, TruV X.K x H k ∧ Q k H) (fun α H S x v Q rs p h => ?_) σ H Q h
  obtain ⟨k, e, h⟩ := h.ofO rs
  exact ⟨k, truth_of rs p e, h⟩

/-! ### places, slices -/
theorem ok_ix (hs : PlainIx b) (ha : PE X a (eT X M W ma)) (hb : PE X b (eT X M W mb)) : PE X (.Subscript a b pos) (eT X M W fun E S => (ma E S).bind fun x S => (mb E S).bind fun y S => ofO (ixop x y S) S) := by
  refine (pe_ix (ix_list.or ix_tup) ha hb hs).imp (two_of fun α H S x y v u Q rs p q h => ?_)
  obtain ⟨d, e, h'⟩ := h.ofO rs
  clear h
  unfold ixop at e
  split at e
  · split at e
    · rename_i ds hi
      obtain ⟨a, vs, rfl, t, r⟩ := rs.items p hi
      have hl := r.length
      obtain ⟨w, hw, rw'⟩ : ∃ w, atI vs ‹Int› = some w ∧ Rep (kt X M) α H d w := by
        unfold atI at e ⊢
        rw [hl]
        cases hj : ixN ds.length ‹Int› with
        | none => rw [hj] at e; cases e
        | some j => rw [hj] at e; exact r.get e
      rw [rep_int q]
      rcases t with t | t
      · exact .inl ⟨a, vs, _, w, rfl, rfl, t, hw, h' w rw'⟩
      · exact .inr ⟨a, vs, _, w, rfl, rfl, t, hw, h' w rw'⟩
    · cases e
  · cases e
theorem RepL.cut {κ : Kt} {α : List Addr} {H : Hp} {ds : List D} {vs : List V} (r : RepL κ α H ds vs) (lo hi : Option Int) : RepL κ α H (cutD ds lo hi) (cutV vs lo hi) := by
  unfold cutD cutV
  rw [r.length]
  exact (r.drop _).take _
variable {lo hi : Option Expr} {ml mh : Env → Sto → Res (Option Int)} {p2 : Pos}
theorem ok_sl (ha : PE X a (eT X M W ma)) (hl : PO X lo (oT X M W ml)) (hh : PO X hi (oT X M W mh)) :
    PE X (.Subscript a (.Slice lo hi none p2) pos) (eT X M W fun E S => (ma E S).bind fun x S => (ml E S).bind fun l S => (mh E S).bind fun h S => slop x l h S) := by
  refine (pe_slice (sl_list.or sl_tupA) ha hl hh).imp fun σ H Q ⟨α, E, S, re, rs, h⟩ => ?_
  refine tE_of re rs h.bind fun α1 H1 S1 x v st1 p1 h1 => ?_
  refine tO_of st1.re st1.rs h1.bind fun α2 H2 S2 l st2 h2 => ?_
  refine tO_of st2.re st2.rs h2.bind fun α3 H3 S3 u st3 h3 => ?_
  have p3 := p1.mono (st2.ext.trans st3.ext)
  have rs3 := st3.rs
  unfold slop at h3
  split at h3
  · rename_i ds
    obtain ⟨a, vs, rfl, t, r⟩ := rep_tup p3
    refine .inr ⟨a, vs, rfl, t.sq, fun z => EndG.now h3 rs3 _ ?_, fun _ p hp => h3 _ _ (Ext.newTup hp) (rs3.newTup hp) _ (mk_newTup rs3 hp (r.cut l u))⟩
    have e : cutD ds l u = ds := by
      have hl := r.length
      unfold cutD
      rw [hl] at z
      rw [z.1, z.2]
      simp
    rw [e]
    exact mk_tup t r
  · rename_i ds
    obtain ⟨a, vs, rfl, t, r⟩ := rep_con p3
    exact .inl ⟨a, vs, rfl, t.sq, fun p hp => h3 _ _ (Ext.newObj hp) (rs3.newLst hp (r.cut l u)) _ (mk_new rs3)⟩
  · split at h3
    · rename_i ds hs
      obtain ⟨a, vs, rfl, _, t, r⟩ := rs3.lst p3 hs
      exact .inl ⟨a, vs, rfl, SqL.of t, fun p hp => h3 _ _ (Ext.newObj hp) (rs3.newLst hp (r.cut l u)) _ (mk_new rs3)⟩
    · exact h3.elim
  · exact h3.elim
theorem ok_noPart : PO X none (oT X M W ((Eo.no).ev M.G)) := po_none.imp fun σ H Q ⟨α, E, S, re, rs, h⟩ => by simp only [Eo.ev] at h; exact EndG.now h rs
theorem ok_part (ha : PE X a (eT X M W ma)) : PO X (some a) (oT X M W fun E S => (ma E S).bind fun d S => match d with
    | .int i => .ok (some i) S
    | _ => .bad) := by
  refine (po_some ha).imp fun σ H Q ⟨α, E, S, re, rs, h⟩ => ?_
  refine tE_of re rs h.bind fun α1 H1 S1 x v st1 p1 h1 => ?_
  split at h1
  · exact ⟨_, rep_int p1, EndG.now h1 st1.rs⟩
  · exact h1.elim

/-! ### lists of arguments, displays -/
variable {e : Expr} {es : List Expr} {mr : Env → Sto → Res (List D)} {k : Nat} {p : Pos}
theorem ok_nil : PA X [] (aT X M W ((Exs.nil).ev M.G)) := pa_nil.imp fun σ H Q ⟨α, E, S, re, rs, h⟩ => by simp only [Exs.ev] at h; exact EndG.now h rs _ RepL.nil
theorem ok_cons (hs : starEach (e :: es) X.env = (false, eval e X.env) :: starEach es X.env) (ha : PE X e (eT X M W ma)) (hr : PA X es (aT X M W mr)) :
    PA X (e :: es) (aT X M W fun E S => (ma E S).bind fun d S => (mr E S).bind fun ds S => .ok (d :: ds) S) := by
  refine (pa_cons ha hr hs).imp fun σ H Q ⟨α, E, S, re, rs, h⟩ => ?_
  refine tE_of re rs h.bind fun α1 H1 S1 x v st1 p1 h1 => ?_
  refine tA_of st1.re st1.rs h1.bind fun α2 H2 S2 ds vs st2 r2 h2 => ?_
  exact EndG.now h2 st2.rs _ (RepL.cons (p1.mono st2.ext) r2)
theorem ok_star (ha : PE X e (eT X M W ma)) (hr : PA X es (aT X M W mr)) :
    PA X (.Starred e p :: es) (aT X M W fun E S => (ma E S).bind fun d S => match itemsOf S d with
      | some xs => (mr E S).bind fun ds S => .ok (xs ++ ds) S
      | none => .bad) := by
  refine (StX.pa_star ha hr).imp fun σ H Q ⟨α, E, S, re, rs, h⟩ => ?_
  refine tE_of re rs h.bind fun α1 H1 S1 x v st1 p1 h1 => ?_
  split at h1
  · rename_i xs hi
    obtain ⟨a, vs, rfl, t, r⟩ := st1.rs.items p1 hi
    refine ⟨a, vs, rfl, t.symm, ?_⟩
    refine tA_of st1.re st1.rs h1.bind fun α2 H2 S2 ds us st2 r2 h2 => ?_
    exact EndG.now h2 st2.rs _ ((r.mono st2.ext).append r2)
  · exact h1.elim
theorem ok_tup (hr : PA X es (aT X M W mr)) : PE X (.Tuple es k pos) (eT X M W fun E S => (mr E S).bind fun ds S => tst (ds.length ≤ sizeLine) (.ok (.tup ds) S) .bad) := by
  refine (pe_tup hr).imp fun σ H Q ⟨α, E, S, re, rs, h⟩ => ?_
  refine tA_of re rs h.bind fun α1 H1 S1 ds vs st1 r1 h1 => ?_
  obtain ⟨hz, h1⟩ := h1.tst
  exact ⟨by rw [r1.length]; exact hz, fun p hp => h1 _ _ (Ext.newTup hp) (st1.rs.newTup hp) _ (mk_newTup st1.rs hp r1)⟩
theorem ok_lst (hr : PA X es (aT X M W mr)) : PE X (.List es pos) (eT X M W fun E S => (mr E S).bind fun ds S => tst (ds.length ≤ sizeLine) (.ok (.ref S.length) (S ++ [.lst ds])) .bad) := by
  refine (pe_lst hr).imp fun σ H Q ⟨α, E, S, re, rs, h⟩ => ?_
  refine tA_of re rs h.bind fun α1 H1 S1 ds vs st1 r1 h1 => ?_
  obtain ⟨hz, h1⟩ := h1.tst
  exact ⟨by rw [r1.length]; exact hz, fun p hp => h1 _ _ (Ext.newObj hp) (st1.rs.newLst hp r1) _ (mk_new st1.rs)⟩
end
end Py
set_option Elab.async false
set_option linter.all false
set_option maxRecDepth 100000
set_option maxHeartbeats 1000000
/-! Built-in functions, kinds, methods, calls of defs. -/
namespace Py
open PySem PySem.Spec PyProof.Rows L2
def Bi.name : Bi → Str
  | .len => "len" | .abs => "abs" | .max => "max" | .min => "min" | .int => "int" | .sum => "sum" | .all => "all" | .any => "any" | .tuple => "tuple" | .list => "list" | .repr => "repr"
def Bi.id : Bi → String
  | .len => "len" | .abs => "abs" | .max => "max" | .min => "min" | .int => "int" | .sum => "sum" | .all => "all" | .any => "any" | .tuple => "tuple" | .list => "list" | .repr => "repr"
def Bi.isTy : Bi → Bool
  | .int | .tuple | .list => true
  | _ => false
def Bi.val (b : Bi) : Value := if b.isTy = true then .type b.id else .builtin b.id
theorem Bi.boot (b : Bi) : bootBuiltins b.name = some b.val := by cases b <;> decide +kernel
theorem Bi.plain (b : Bi) : b.name ≠ "__name__" ∧ (b.name == ("__debug__" : Str)) = false := by cases b <;> decide +kernel
theorem intsD_at {κ : Kt} {α : List Addr} {H : Hp} : ∀ {ds : List D} {is : List Int} {vs : List V}, intsD ds = some is → RepL κ α H ds vs → vs = is.map V.int
  | [], is, vs, e, r => by
    simp only [intsD] at e
    simp only [RepL] at r
    cases e
    exact r
  | .int i :: ds, is, vs, e, r => by
    simp only [intsD, Option.map_eq_some_iff] at e
    obtain ⟨js, e, rfl⟩ := e
    simp only [RepL] at r
    obtain ⟨v, ws, rfl, r1, r2⟩ := r
    rw [rep_int r1, intsD_at e r2]
    rfl
  | .non :: ds, is, vs, e, r => by simp only [intsD] at e; cases e
  | .bl _ :: ds, is, vs, e, r => by simp only [intsD] at e; cases e
  | .str _ :: ds, is, vs, e, r => by simp only [intsD] at e; cases e
  | .tup _ :: ds, is, vs, e, r => by simp only [intsD] at e; cases e
  | .con _ :: ds, is, vs, e, r => by simp only [intsD] at e; cases e
  | .ref _ :: ds, is, vs, e, r => by simp only [intsD] at e; cases e
  | .xv _ _ :: ds, is, vs, e, r => by simp only [intsD] at e; cases e
theorem boolsD_at {κ : Kt} {α : List Addr} {H : Hp} : ∀ {ds : List D} {is : List Bool} {vs : List V}, boolsD ds = some is → RepL κ α H ds vs → vs = is.map V.bl
  | [], is, vs, e, r => by
    simp only [boolsD] at e
    simp only [RepL] at r
    cases e
    exact r
  | .bl i :: ds, is, vs, e, r => by
    simp only [boolsD, Option.map_eq_some_iff] at e
    obtain ⟨js, e, rfl⟩ := e
    simp only [RepL] at r
    obtain ⟨v, ws, rfl, r1, r2⟩ := r
    rw [rep_bl r1, boolsD_at e r2]
    rfl
  | .non :: ds, is, vs, e, r => by simp only [boolsD] at e; cases e
  | .int _ :: ds, is, vs, e, r => by simp only [boolsD] at e; cases e
  | .str _ :: ds, is, vs, e, r => by simp only [boolsD] at e; cases e
  | .tup _ :: ds, is, vs, e, r => by simp only [boolsD] at e; cases e
  | .con _ :: ds, is, vs, e, r => by simp only [boolsD] at e; cases e
  | .ref _ :: ds, is, vs, e, r => by simp only [boolsD] at e; cases e
  | .xv _ _ :: ds, is, vs, e, r => by simp only [boolsD] at e; cases e
theorem rep1 {κ : Kt} {α : List Addr} {H : Hp} {d : D} {vs : List V} (r : RepL κ α H [d] vs) : ∃ v, vs = [v] ∧ Rep κ α H d v := by
  simp only [RepL] at r
  obtain ⟨v, w, rfl, r1, rfl⟩ := r
  exact ⟨v, rfl, r1⟩
theorem rep2 {κ : Kt} {α : List Addr} {H : Hp} {d e : D} {vs : List V} (r : RepL κ α H [d, e] vs) : ∃ v u, vs = [v, u] ∧ Rep κ α H d v ∧ Rep κ α H e u := by
  simp only [RepL] at r
  obtain ⟨v, w, rfl, r1, u, w', rfl, r2, rfl⟩ := r
  exact ⟨v, u, rfl, r1, r2⟩
/-- the least one, as the layer tells it -/
theorem foldl_min_le : ∀ (is : List Int) (i : Int), is.foldl min i ≤ i ∧ ∀ y ∈ is, is.foldl min i ≤ y
  | [], i => ⟨Int.le_refl _, fun _ h => by cases h⟩
  | j :: is, i => by
    obtain ⟨h1, h2⟩ := foldl_min_le is (min i j)
    rw [List.foldl_cons]
    refine ⟨by omega, fun y hy => ?_⟩
    rcases List.mem_cons.mp hy with rfl | hy
    · omega
    · exact h2 y hy
theorem foldl_min_mem : ∀ (is : List Int) (i : Int), is.foldl min i ∈ i :: is
  | [], i => by simp
  | j :: is, i => by
    rw [List.foldl_cons]
    have h := foldl_min_mem is (min i j)
    rcases List.mem_cons.mp h with h | h
    · rw [h]
      by_cases q : i ≤ j
      · rw [show min i j = i by omega]; simp
      · rw [show min i j = j by omega]; simp
    · exact List.mem_cons_of_mem _ (List.mem_cons_of_mem _ h)
section
variable {X : Cx} {M : Mo} {W : XK}
/-- what a call with values is to reach -/
def rDs (X : Cx) (M : Mo) (W : XK) (m : List D → Sto → Res D) : List V → Hp → VK → Prop := fun vs H Q => ∃ α S ds, RelS (kt X M) α H S ∧ RepL (kt X M) α H ds vs ∧ EndG (kt X M) W α H (m ds S) (VQ (kt X M) Q)
theorem bitems_at {α H S ds vs} {f : List D → Res D} {P : D → Sto → List Addr → Hp → Prop} (rs : RelS (kt X M) α H S) (r : RepL (kt X M) α H ds vs) (h : EndG (kt X M) W α H (bitems ds S f) P) :
    ∃ a ws d xs, ds = [d] ∧ vs = [.ref a] ∧ itemsOf S d = some xs ∧ (SqL X.K H a ws ∨ SqT X.K H a ws) ∧ RepL (kt X M) α H xs ws ∧ EndG (kt X M) W α H (f xs) P := by
  unfold bitems at h
  split at h
  · rename_i d
    split at h
    · rename_i xs hi
      obtain ⟨v, rfl, p⟩ := rep1 r
      obtain ⟨a, ws, rfl, t, q⟩ := rs.items p hi
      exact ⟨a, ws, d, xs, rfl, rfl, hi, t, q, h⟩
    · exact h.elim
  · exact h.elim
theorem bints_at {α H S ds vs} {f : List Int → Res D} {P : D → Sto → List Addr → Hp → Prop} (rs : RelS (kt X M) α H S) (r : RepL (kt X M) α H ds vs) (h : EndG (kt X M) W α H (bints ds S f) P) :
    ∃ a is, vs = [.ref a] ∧ SqL X.K H a (is.map V.int) ∧ EndG (kt X M) W α H (f is) P := by
  unfold bints at h
  split at h
  · split at h
    · rename_i is hi
      obtain ⟨v, rfl, p⟩ := rep1 r
      rw [Option.bind_eq_some_iff] at hi
      obtain ⟨xs, h1, h2⟩ := hi
      obtain ⟨a, ws, rfl, t, q⟩ := lstOf_at rs h1 p
      exact ⟨a, is, rfl, by rw [← intsD_at h2 q]; exact t, h⟩
    · exact h.elim
  · exact h.elim
theorem bbools_at {α H S ds vs} {f : List Bool → Res D} {P : D → Sto → List Addr → Hp → Prop} (rs : RelS (kt X M) α H S) (r : RepL (kt X M) α H ds vs) (h : EndG (kt X M) W α H (bbools ds S f) P) :
    ∃ a is, vs = [.ref a] ∧ SqL X.K H a (is.map V.bl) ∧ EndG (kt X M) W α H (f is) P := by
  unfold bbools at h
  split at h
  · split at h
    · rename_i is hi
      obtain ⟨v, rfl, p⟩ := rep1 r
      rw [Option.bind_eq_some_iff] at hi
      obtain ⟨xs, h1, h2⟩ := hi
      obtain ⟨a, ws, rfl, t, q⟩ := lstOf_at rs h1 p
      exact ⟨a, is, rfl, by rw [← boolsD_at h2 q]; exact t, h⟩
    · exact h.elim
  · exact h.elim
/-- repr(x) -/
theorem call_reprD (hg : X.A.guards = some []) (hu : X.A.units + 128 < cLine) : CallR X (.builtin "repr") (fun vs H Q => ∃ v d, vs = [v] ∧ Dp X.K H v d ∧ d.showable = true ∧ d.hasDict = false ∧ d.depth ≤ 60 ∧ d.shown.length ≤ sizeLine ∧ Q (.str d.shown) H) := by
  intro pins s σ H vs us Q I r h
  obtain ⟨v, d, rfl, hd, h1, h2, h3, h4, q⟩ := h
  obtain ⟨u, rfl, ru⟩ := vals1 r
  obtain ⟨as, rd⟩ := Dp.reads I d v u hd ru
  have fin : ∀ t : Nat, EP X pins σ Q (.str d.shown t) { s with toks := s.toks + 1 } := fun t => ⟨.str d.shown, H, I.tok _, ⟨_, rfl⟩, q⟩
  have finR : ∀ {a : Addr} {as : List Addr}, Reads s.heap (.ref a) d as → wpAny (model X.prog X.w) X.A (call (.builtin "repr") [.ref a]) (EP X pins σ Q) X.xe s := fun rd =>
    repr_of_reads' rd h1 (PyData.noDict_hsm h2) hg (by omega) (fun _ _ e => e) (fun h' u tk hk => ⟨.str d.shown, H, I.kept hk, ⟨_, rfl⟩, q⟩) h4
  cases rd with
  | none => exact P.repr_of_none (fin _)
  | bool b => exact P.repr_of_bool (fin _)
  | int i t => exact P.repr_of_int (of_decide_eq_true h1) (fin _)
  | str x t => exact P.repr_of_str (fin _) h4
  | list a1 a2 a3 a4 => exact finR (Reads.list a1 a2 a3 a4)
  | tuple a1 a2 a3 a4 => exact finR (Reads.tuple a1 a2 a3 a4)
  | dict => exact absurd h2 (by simp [PyData.hasDict])
theorem call_bi (b : Bi) (hc : X.calm = true) (hg : b = .repr → X.A.guards = some []) (hu : X.A.units + 128 < cLine) : CallR X b.val (rDs X M W (biop b)) := by
  intro pins s σ H vs us Q I rv h
  obtain ⟨α, S, ds, rs, r, h⟩ := h
  cases b with
  | len =>
    obtain ⟨a, ws, d, xs, rfl, rfl, hi, t, q, h⟩ := bitems_at rs r h
    exact call_len_seq pins s σ H _ us Q I rv ⟨a, ws, rfl, t, by rw [q.length]; exact EndG.now h rs _ mk_int⟩
  | abs =>
    simp only [biop] at h
    split at h
    · obtain ⟨v, rfl, p⟩ := rep1 r
      rw [rep_int p] at rv
      exact call_abs pins s σ H _ us Q I rv ⟨_, rfl, EndG.now h rs _ mk_int⟩
    · exact h.elim
  | max =>
    simp only [biop] at h
    split at h
    · obtain ⟨v, u, rfl, p, q⟩ := rep2 r
      rw [rep_int p, rep_int q] at rv
      exact call_max2 hc pins s σ H _ us Q I rv ⟨_, _, rfl, EndG.now h rs _ mk_int⟩
    · exact h.elim
  | min =>
    simp only [biop] at h
    split at h
    · obtain ⟨v, u, rfl, p, q⟩ := rep2 r
      rw [rep_int p, rep_int q] at rv
      exact call_min2 hc pins s σ H _ us Q I rv ⟨_, _, rfl, EndG.now h rs _ mk_int⟩
    · obtain ⟨a, is, rfl, t, h⟩ := bints_at rs r h
      split at h
      · rename_i i is
        refine cr_min hc pins s σ H _ us Q I rv ⟨a, i :: is, rfl, t, by simp, fun m hm hle => ?_⟩
        have e : m = is.foldl min i := by
          have h1 := hle _ (foldl_min_mem is i)
          obtain ⟨h2, h3⟩ := foldl_min_le is i
          rcases List.mem_cons.mp hm with rfl | hm
          · omega
          · have := h3 _ hm
            omega
        rw [e]
        exact EndG.now h rs _ mk_int
      · exact h.elim
    · exact h.elim
  | int =>
    simp only [biop] at h
    split at h
    · obtain ⟨v, rfl, p⟩ := rep1 r
      rw [rep_int p] at rv
      exact call_int1 pins s σ H _ us Q I rv (.inl ⟨_, rfl, EndG.now h rs _ mk_int⟩)
    · obtain ⟨v, rfl, p⟩ := rep1 r
      rw [rep_bl p] at rv
      exact call_int1 pins s σ H _ us Q I rv (.inr ⟨_, rfl, EndG.now h rs _ mk_int⟩)
    · exact h.elim
  | sum =>
    obtain ⟨a, is, rfl, t, h⟩ := bints_at rs r h
    exact cr_sum hc pins s σ H _ us Q I rv ⟨a, is, rfl, t, EndG.now h rs _ mk_int⟩
  | all =>
    obtain ⟨a, is, rfl, t, h⟩ := bbools_at rs r h
    exact cr_all hc pins s σ H _ us Q I rv ⟨a, is, rfl, t, EndG.now h rs _ mk_bl⟩
  | any =>
    obtain ⟨a, is, rfl, t, h⟩ := bbools_at rs r h
    exact cr_any hc pins s σ H _ us Q I rv ⟨a, is, rfl, t, EndG.now h rs _ mk_bl⟩
  | tuple =>
    obtain ⟨a, ws, d, xs, rfl, e, hi, _, _, h2⟩ := bitems_at rs r h
    clear h
    obtain ⟨v, rfl, p⟩ := rep1 r
    cases d with
    | tup zs =>
      cases hi
      obtain ⟨b, ys, rfl, t, q⟩ := rep_tup p
      exact call_tuple_of pins s σ H _ us Q I rv ⟨b, ys, rfl, .inr ⟨t.sq, EndG.now h2 rs _ (mk_tup t q)⟩⟩
    | con zs =>
      cases hi
      obtain ⟨b, ys, rfl, t, q⟩ := rep_con p
      exact call_tuple_of pins s σ H _ us Q I rv ⟨b, ys, rfl, .inl ⟨t.sq, fun l hl => h2 _ _ (Ext.newTup hl) (rs.newTup hl) _ (mk_newTup rs hl q)⟩⟩
    | ref n =>
      simp only [itemsOf] at hi
      split at hi
      · rename_i hs
        cases hi
        obtain ⟨b, ys, rfl, _, t, q⟩ := rs.lst p hs
        exact call_tuple_of pins s σ H _ us Q I rv ⟨b, ys, rfl, .inl ⟨SqL.of t, fun l hl => h2 _ _ (Ext.newTup hl) (rs.newTup hl) _ (mk_newTup rs hl q)⟩⟩
      · cases hi
    | _ => cases hi
  | list =>
    obtain ⟨a, ws, d, xs, rfl, rfl, hi, t, q, h⟩ := bitems_at rs r h
    exact call_list_of pins s σ H _ us Q I rv ⟨a, ws, rfl, t, fun l hl => h _ _ (Ext.newObj hl) (rs.newLst hl q) _ (mk_new rs)⟩
  | repr =>
    simp only [biop] at h
    split at h
    · split at h
      · rename_i x hx
        obtain ⟨⟨z1, z2, z3, z4⟩, h⟩ := h.tst
        obtain ⟨v, rfl, p⟩ := rep1 r
        exact call_reprD (hg rfl) hu pins s σ H _ us Q I rv ⟨v, x, rfl, dpS_of rs hx p, z1, z2, z3, z4, EndG.now h rs _ mk_str⟩
      · exact h.elim
    · exact h.elim
variable {e : Expr} {es : List Expr} {p pos : Pos} {mr : Env → Sto → Res (List D)}
theorem tA_call {m : List D → Sto → Res D} : ∀ σ H Q, (eT X M W fun E S => (mr E S).bind fun ds S => m ds S) σ H Q → (aT X M W mr) σ H fun vs H1 => rDs X M W m vs H1 Q := fun σ H Q ⟨α, E, S, re, rs, h⟩ =>
  tA_of re rs h.bind fun α1 H1 S1 ds vs st1 r1 h1 => ⟨α1, S1, ds, st1.rs, r1, h1⟩
theorem ok_bi {b : Bi} (hc : X.calm = true) (hg : b = .repr → X.A.guards = some []) (hu : X.A.units + 128 < cLine) (hgl : Gl X b.name) (hm : X.mg b.name = none) (ha : PA X (e :: es) (aT X M W mr))
    (he : starEach (e :: es) X.env = (false, eval e X.env) :: starEach es X.env) (hpl : (backTo pos (starEach es X.env)).any (·.1) = false) :
    PE X (.Call (.Name b.name p) (e :: es) [] pos) (eT X M W fun E S => (mr E S).bind fun ds S => biop b ds S) := by
  have hcall := call_bi (X := X) (M := M) (W := W) b hc hg hu
  have hb := b.boot
  unfold Bi.val at hcall hb
  split at hb
  · rename_i q
    rw [if_pos q] at hcall
    exact (pe_callTy hcall hgl hm hb ha b.plain.1 b.plain.2 he hpl).imp tA_call
  · rename_i q
    rw [if_neg q] at hcall
    exact (pe_callB hcall hgl hm hb ha b.plain.1 b.plain.2 he hpl).imp tA_call

/-! ### kinds -/
def Ty.name : Ty → Str
  | .int => "int" | .bool => "bool" | .str => "str" | .tuple => "tuple" | .list => "list"
def Ty.id : Ty → String
  | .int => "int" | .bool => "bool" | .str => "str" | .tuple => "tuple" | .list => "list"
theorem Ty.boot (t : Ty) : bootBuiltins t.name = some (.type t.id) := by cases t <;> decide +kernel
theorem Ty.plain (t : Ty) : t.name ≠ "__name__" ∧ (t.name == ("__debug__" : Str)) = false := by cases t <;> decide +kernel
theorem ty_of {α H S x v k} {t : Ty} (rs : RelS (kt X M) α H S) (p : Rep (kt X M) α H x v) (e : t.of x = some k) : ∃ a, TyX X.K H v (.type a) ∧ kitB a t.id = some k := by
  cases x with
  | non => rw [rep_non p]; exact ⟨_, .base .non, by cases t <;> cases e <;> decide +kernel⟩
  | bl b => rw [rep_bl p]; exact ⟨_, .base (.bl b), by cases t <;> cases e <;> decide +kernel⟩
  | int i => rw [rep_int p]; exact ⟨_, .base (.int i), by cases t <;> cases e <;> decide +kernel⟩
  | str z => rw [rep_str p]; exact ⟨_, .base (.str z), by cases t <;> cases e <;> decide +kernel⟩
  | tup ds =>
    obtain ⟨a, vs, rfl, ta, _⟩ := rep_tup p
    refine ⟨"tuple", ?_, by cases t <;> cases e <;> decide +kernel⟩
    rcases ta with ⟨ta, _⟩ | ⟨o, its, n, h1, h2, _⟩
    · exact .base (.tup ta)
    · exact .kTuple h1 h2
  | con ds => cases t <;> cases e
  | ref n => cases t <;> cases e
  | xv c d => cases t <;> cases e
variable {a : Expr} {ma : Env → Sto → Res D} {q : Pos}
/-- isinstance(x, T) -/
theorem isi_core {t : Ty} {m2 : D → Sto → Res D} (hgi : Gl X "isinstance") (hmi : X.mg "isinstance" = none) (hgt : Gl X t.name) (hmt : X.mg t.name = none) (ha : PE X a (eT X M W ma)) (hn : starEach [a, .Name t.name q] X.env = (false, eval a X.env) :: starEach [.Name t.name q] X.env) :
    PE X (.Call (.Name "isinstance" p) [a, .Name t.name q] [] pos) (fun σ H Q => (eT X M W ma) σ H fun x H1 => ∃ a k, TyX X.K H1 x (.type a) ∧ kitB a t.id = some k ∧ Q (.bl k) H1) := by
  refine (pe_callB call_isi hgi hmi PyProof.Rows.boot_isinstance (pa_cons ha (pa_cons (pe_bltn hgt hmt t.boot (v := .ty t.id) rfl t.plain.1 t.plain.2) pa_nil) hn) (by decide) (by decide) hn (by rfl)).imp fun σ H Q ⟨α, E, S, re, rs, h⟩ => ?_
  refine ⟨α, E, S, re, rs, h.mono fun d S' α' H' e rs' z v r => ?_⟩
  obtain ⟨b, k, h1, h2, h3⟩ := z v r
  exact ⟨v, .ty t.id, .type b, .type t.id, k, rfl, .ty _, h1, kit_ty h2, h3⟩
theorem ok_isi {t : Ty} (hgi : Gl X "isinstance") (hmi : X.mg "isinstance" = none) (hgt : Gl X t.name) (hmt : X.mg t.name = none) (ha : PE X a (eT X M W ma)) (hn : starEach [a, .Name t.name q] X.env = (false, eval a X.env) :: starEach [.Name t.name q] X.env) :
    PE X (.Call (.Name "isinstance" p) [a, .Name t.name q] [] pos) (eT X M W fun E S => (ma E S).bind fun x S => (ofO (t.of x) S).bind fun k S => .ok (.bl k) S) := by
  refine (isi_core (m2 := fun d S => .ok d S) hgi hmi hgt hmt ha hn).imp fun σ H Q h => one_of (r := fun x H Q => ∃ a k, TyX X.K H x (.type a) ∧ kitB a t.id = some k ∧ Q (.bl k) H) (fun α H S x v Q rs p h => ?_) σ H Q h
  obtain ⟨k, e, h⟩ := h.bind.ofO rs
  obtain ⟨b, h1, h2⟩ := ty_of rs p e
  exact ⟨b, k, h1, h2, EndG.now h rs _ mk_bl⟩
/-- a call's test -/
theorem plain_call (f : Expr) (es : List Expr) (kw : List Keyword) (pos : Pos) (env : PySem.Env) : ∀ whole, isTrue (.Call f es kw pos) env whole = (do let v ← whole; standAt (Expr.Call f es kw pos).pos; holding [v] (truthy v)) := by intro _; rfl
theorem ok_isiT {t : Ty} (hgi : Gl X "isinstance") (hmi : X.mg "isinstance" = none) (hgt : Gl X t.name) (hmt : X.mg t.name = none) (ha : PE X a (eT X M W ma)) (hn : starEach [a, .Name t.name q] X.env = (false, eval a X.env) :: starEach [.Name t.name q] X.env) :
    PT X (.Call (.Name "isinstance" p) [a, .Name t.name q] [] pos) (bT X M W fun E S => (ma E S).bind fun x S => ofO (t.of x) S) := by
  refine (pt_val (isi_core (m2 := fun d S => .ok d S) hgi hmi hgt hmt ha hn)).imp fun σ H Q h => oneB_of (r := fun x H Q => ∃ a k, TyX X.K H x (.type a) ∧ kitB a t.id = some k ∧ ∃ c, V.bl k = .bl c ∧ Q c H) (fun α H S x v Q rs p h => ?_) σ H Q h
  obtain ⟨k, e, h⟩ := h.ofO rs
  obtain ⟨b, h1, h2⟩ := ty_of rs p e
  exact ⟨b, k, h1, h2, k, rfl, h⟩
end
end Py
set_option Elab.async false
set_option linter.all false
set_option maxRecDepth 100000
set_option maxHeartbeats 1000000
/-! Exceptions that are held, dicts of the module, methods, calls of defs. -/
namespace Py
open PySem PySem.Spec PyProof.Rows L2
/-- what the module's objects say of a class of exceptions -/
structure XcF (K : PySem.W.Frag) (C : Addr) : Prop where
  ga : PySem.W.findIn K (.ref C) "__getattribute__" = some (some (.builtin "BaseException.__getattribute__"))
  gg : PySem.W.findIn K (.ref C) "__getattr__" = some none
  ex : PySem.W.subIn K (.ref C) (.type "BaseException") = some true
  hd : PySem.W.hasDictIn K C = true
  va : PySem.W.findIn K (.ref C) "value" = some none
  cl : (PySem.W.clsIn K C).isSome = true
  cc : PySem.W.findIn K (.ref C) "__class__" = some (some (.builtin "object.__class__"))
  cg : PySem.W.specialIn K (.builtin "object.__class__") "__get__" = some (some (.builtin "getset_descriptor.__get__"))
  ct : PySem.W.takesIn K (.builtin "object.__class__") = some true
  mo : PySem.W.mroIn K C (.type "object") = some true
section
variable {X : Cx} {M : Mo} {W : XK} {pos p q : Pos} {a e : Expr} {es : List Expr} {ma : Env → Sto → Res D} {mr : Env → Sto → Res (List D)}
theorem xo_at {pins : List (Addr × Obj)} {σ : L2.St} {H : Hp} {s : Shared} {b C dx : Addr} {w : V} (I : Inv X pins σ H s) (h1 : H b = some (XO b (.ref C) dx)) (h2 : H dx = some (.xd [("value", w)])) :
    ∃ oe od, PySem.W.InstAt s.heap b oe C (some od) ∧ ∃ u, PySem.W.lookIn "value" od = some (some u) ∧ RelV w u := by
  obtain ⟨⟨oe, vs, e1, e2, e3⟩, _⟩ := I.hok b _ h1
  obtain ⟨mA, hns, hr⟩ := (show ObjOk X.prog X.w H s.heap dx (.xd [("value", w)]) from I.hok dx _ h2)
  obtain ⟨od, ho, hl⟩ := lookIn_ns hns
  obtain ⟨u, hu, ru⟩ := RelO.some_of (v := w) (o := mA "value") (by have := hr "value"; simpa using this)
  exact ⟨oe, od, ⟨e1, e2.1, by unfold PySem.W.notCls; rw [e3] <;> rfl, by rw [e2.2]; exact ho⟩, u, by rw [hl, hu], ru⟩
/-- a part is run -/
theorem run_tE {pins : List (Addr × Obj)} {s : Shared} {σ : L2.St} {H : Hp} {α : List Addr} {E : Env} {S : Sto} {P : D → Sto → List Addr → Hp → Prop} (ha : PE X a (eT X M W ma)) (I : Inv X pins σ H s) (re : RelE (kt X M) α H E σ) (rs : RelS (kt X M) α H S)
    (h : EndG (kt X M) W α H (ma E S) P) : wpAny (model X.prog X.w) X.A (eval a X.env) (fun u s1 => ∃ v H1 α1 S1 d, Inv X pins σ H1 s1 ∧ RelV v u ∧ St1 (kt X M) α H E σ α1 H1 S1 ∧ Rep (kt X M) α1 H1 d v ∧ P d S1 α1 H1) X.xe s := by
  refine thn (ha.run pins s σ H (fun v H1 => ∃ α1 S1 d, St1 (kt X M) α H E σ α1 H1 S1 ∧ Rep (kt X M) α1 H1 d v ∧ P d S1 α1 H1) I (tE_of re rs h fun α1 H1 S1 x v st1 p1 h1 => ⟨α1, S1, x, st1, p1, h1⟩)) fun u s1 hh => ?_
  obtain ⟨v, H1, I1, rv, α1, S1, d, st, r, q⟩ := hh
  exact ⟨v, H1, α1, S1, d, I1, rv, st, r, q⟩
/-- error.value -/
theorem ok_fld (F : ∀ c, c < M.G.nC → XcF X.K (M.cls c)) (ha : PE X a (eT X M W ma)) (hb : attributeBase a "value" X.env (eval a X.env) = eval a X.env) :
    PE X (.Attribute a "value" pos) (eT X M W fun E S => (ma E S).bind fun x S => match x with
      | .xv c d => if c < M.G.nC then .ok d S else .bad
      | _ => .bad) := by
  refine ⟨fun pins s σ H Q I ⟨α, E, S, re, rs, h⟩ => ?_⟩
  refine attr_of hb (thn (run_tE ha I re rs h.bind) fun u s1 hh => ?_)
  obtain ⟨v, H1, α1, S1, x, I1, rv, st1, p1, h1⟩ := hh
  split at h1
  · rename_i c d
    split at h1
    · rename_i hc
      obtain ⟨b, dx, w, rfl, e1, _, e3, _, e5⟩ := rep_xv p1
      obtain rfl : u = Value.ref b := rv
      obtain ⟨oe, od, J, u, hu, ru⟩ := xo_at I1 e1 e3
      have T := F c hc
      exact HandSPX.exc_get I1.kIn J T.ga T.gg T.ex (PySem.W.findObj_own T.hd T.va rfl hu) (handed_of ru) ⟨w, H1, I1.tok _, ru, EndG.now h1 st1.rs w e5⟩
    · exact h1.elim
  · exact h1.elim
/-- isinstance(error, C) -/
def rIsx (X : Cx) (M : Mo) (c : Nat) : List V → Hp → VK → Prop := fun vs H Q => ∃ b dx w c', vs = [.ref b, .ref (M.cls c)] ∧ c' < M.G.nC ∧ H b = some (XO b (.ref (M.cls c')) dx) ∧ H dx = some (.xd [("value", w)]) ∧ Q (.bl (M.G.sub c' c)) H
theorem call_isx {c : Nat} (F : ∀ c, c < M.G.nC → XcF X.K (M.cls c)) (hs : ∀ c', c' < M.G.nC → PySem.W.kitOne X.K (.ref (M.cls c')) (.ref (M.cls c)) = some (M.G.sub c' c)) : CallR X (.builtin "isinstance") (rIsx X M c) := by
  intro pins s σ H xs us Q I r h
  obtain ⟨b, dx, w, c', rfl, hc, e1, e2, q⟩ := h
  obtain ⟨u1, u2, rfl, r1, r2⟩ := vals2 r
  cases r1
  cases r2
  obtain ⟨oe, od, J, _⟩ := xo_at I e1 e2
  have T := F c' hc
  exact PySem.W.kia_one (PySem.W.kitx_exc (ox := oe) (od := some od) T.cl T.ga T.gg T.ex T.cc T.cg T.ct T.mo) I.kIn J (hs c' hc) (fun z => nomatch z) fun tk => ⟨.bl _, H, I.tok tk, rfl, q⟩
theorem isx_core {c : Nat} {x : Str} (F : ∀ c, c < M.G.nC → XcF X.K (M.cls c)) (hs : ∀ c', c' < M.G.nC → PySem.W.kitOne X.K (.ref (M.cls c')) (.ref (M.cls c)) = some (M.G.sub c' c)) (hgi : Gl X "isinstance") (hmi : X.mg "isinstance" = none)
    (hgc : Gl X x) (hmc : X.mg x = some (.ref (M.cls c))) (hd : (x == ("__debug__" : Str)) = false) (ha : PE X a (eT X M W ma)) (hn : starEach [a, .Name x q] X.env = (false, eval a X.env) :: starEach [.Name x q] X.env) :
    PE X (.Call (.Name "isinstance" p) [a, .Name x q] [] pos) (fun σ H Q => (eT X M W ma) σ H fun v H1 => rIsx X M c [v, .ref (M.cls c)] H1 Q) :=
  pe_callB (call_isx F hs) hgi hmi PyProof.Rows.boot_isinstance (pa_cons ha (pa_cons (pe_glob hgc hmc (v := .ref (M.cls c)) rfl hd) pa_nil) hn) (by decide) (by decide) hn (by rfl)
theorem ok_isx {c : Nat} {x : Str} (F : ∀ c, c < M.G.nC → XcF X.K (M.cls c)) (hs : ∀ c', c' < M.G.nC → PySem.W.kitOne X.K (.ref (M.cls c')) (.ref (M.cls c)) = some (M.G.sub c' c)) (hgi : Gl X "isinstance") (hmi : X.mg "isinstance" = none)
    (hgc : Gl X x) (hmc : X.mg x = some (.ref (M.cls c))) (hd : (x == ("__debug__" : Str)) = false) (ha : PE X a (eT X M W ma)) (hn : starEach [a, .Name x q] X.env = (false, eval a X.env) :: starEach [.Name x q] X.env) :
    PE X (.Call (.Name "isinstance" p) [a, .Name x q] [] pos) (eT X M W fun E S => (ma E S).bind fun x S => match x with
      | .xv c' _ => if c' < M.G.nC then .ok (.bl (M.G.sub c' c)) S else .bad
      | _ => .bad) := by
  refine (isx_core F hs hgi hmi hgc hmc hd ha hn).imp fun σ H Q h => one_of (r := fun v H Q => rIsx X M c [v, .ref (M.cls c)] H Q) (fun α H S x v Q rs p h => ?_) σ H Q h
  split at h
  · split at h
    · rename_i hc
      obtain ⟨b, dx, w, rfl, e1, _, e3, _, _⟩ := rep_xv p
      exact ⟨b, dx, w, _, rfl, hc, e1, e3, EndG.now h rs _ mk_bl⟩
    · exact h.elim
  · exact h.elim
theorem ok_isxT {c : Nat} {x : Str} (F : ∀ c, c < M.G.nC → XcF X.K (M.cls c)) (hs : ∀ c', c' < M.G.nC → PySem.W.kitOne X.K (.ref (M.cls c')) (.ref (M.cls c)) = some (M.G.sub c' c)) (hgi : Gl X "isinstance") (hmi : X.mg "isinstance" = none)
    (hgc : Gl X x) (hmc : X.mg x = some (.ref (M.cls c))) (hd : (x == ("__debug__" : Str)) = false) (ha : PE X a (eT X M W ma)) (hn : starEach [a, .Name x q] X.env = (false, eval a X.env) :: starEach [.Name x q] X.env) :
    PT X (.Call (.Name "isinstance" p) [a, .Name x q] [] pos) (bT X M W fun E S => (ma E S).bind fun x S => match x with
      | .xv c' _ => if c' < M.G.nC then .ok (M.G.sub c' c) S else .bad
      | _ => .bad) := by
  refine (pt_val (isx_core F hs hgi hmi hgc hmc hd ha hn)).imp fun σ H Q h => oneB_of (r := fun v H Q => rIsx X M c [v, .ref (M.cls c)] H fun x H1 => ∃ k, x = .bl k ∧ Q k H1) (fun α H S x v Q rs p h => ?_) σ H Q h
  split at h
  · split at h
    · rename_i hc
      obtain ⟨b, dx, w, rfl, e1, _, e3, _, _⟩ := rep_xv p
      exact ⟨b, dx, w, _, rfl, hc, e1, e3, _, rfl, EndG.now h rs⟩
    · exact h.elim
  · exact h.elim

/-! ### a dict of the module -/
structure DicOk (X : Cx) (M : Mo) (x : Str) (l : List (Str × D)) : Prop where
  ex : ∃ d es n, X.mg x = some (.ref d) ∧ KDict X.K X.w d es n ∧ ∀ y e, l.lookup y = some e → ∃ u v, PySem.W.nsIn X.K d y = some (some u) ∧ RelV v u ∧ ∀ α H, Rep (kt X M) α H e v
theorem ok_dget {i : Nat} {x : Str} (F : DicOk X M x (M.G.dic i)) (hg : Gl X x) (hd : (x == ("__debug__" : Str)) = false) (hs : PlainIx a) (ha : PE X a (eT X M W ma)) :
    PE X (.Subscript (.Name x p) a pos) (eT X M W fun E S => (ma E S).bind fun x S => match x with
      | .str y => ofO ((M.G.dic i).lookup y) S
      | _ => .bad) := by
  obtain ⟨d, es, n, hm, K, ht⟩ := F.ex
  refine ⟨fun pins s σ H Q I ⟨α, E, S, re, rs, h⟩ => ?_⟩
  refine Subscript_ (ld_glob I hg hm (thn (run_tE ha I re rs h.bind) fun u s1 hh => ?_) hd)
  obtain ⟨v, H1, α1, S1, x, I1, rv, st1, p1, h1⟩ := hh
  split at h1
  · rename_i y
    obtain ⟨e, he, h1⟩ := h1.ofO st1.rs
    obtain ⟨u0, v0, e1, e2, e3⟩ := ht y e he
    rw [rep_str p1] at rv
    exact tail_any (kd_type K I1) PySem.F.slot_dict_getitem.lookup (op_item_kd K pins s1 σ H1 (.ref d) (.str y) (.ref d) u Q I1 rfl rv ⟨y, u0, v0, rfl, rfl, e1, e2, h1 v0 (e3 _ _)⟩) (hs _ _)
  · exact h1.elim

/-! ### list(range(..)) -/
theorem RepL.rg {κ : Kt} {α : List Addr} {H : Hp} (a b : Int) : RepL κ α H (rgD a b) (rgV a b) := by
  unfold rgD rgV
  generalize List.range (b - a).toNat = l
  induction l with
  | nil => exact RepL.nil
  | cons i l ih => exact RepL.cons mk_int ih
theorem ok_lrange {p1 p2 pos2 : Pos} (hc : X.calm = true) (hgl : Gl X "list") (hml : X.mg "list" = none) (hgr : Gl X "range") (hmr : X.mg "range" = none) (ha : PE X a (eT X M W ma)) (na : starEach [a] X.env = (false, eval a X.env) :: starEach [] X.env) :
    PE X (.Call (.Name "list" p1) [.Call (.Name "range" p2) [a] [] pos2] [] pos) (eT X M W fun E S => (ma E S).bind fun d S => match d with
      | .int j => tst (-(2 ^ 62) ≤ j ∧ j ≤ 1000) (.ok (.ref S.length) (S ++ [.lst (rgD 0 j)])) .bad
      | _ => .bad) := by
  refine (pe_listRg hc hgl hml (prg_1 hgr hmr ha na)).imp fun σ H Q h => one_of (r := fun x H Q => ∃ n, x = .int n ∧ RgOk 0 n ∧ ∀ q, H q = none → Q (.ref q) (upd H q (.lst (rgV 0 n)))) (fun α H S x v Q rs p h => ?_) σ H Q h
  split at h
  · rename_i j
    obtain ⟨⟨h1, h2⟩, h⟩ := h.tst
    exact ⟨j, rep_int p, ⟨by omega, by omega, by omega, by omega, by omega⟩, fun q hq => h _ _ (Ext.newObj hq) (rs.newLst hq (RepL.rg 0 j)) _ (mk_new rs)⟩
  · exact h.elim

/-! ### methods of lists -/
def Mt.name : Mt → Str
  | .append => "append" | .pop => "pop" | .extend => "extend"
def Mt.id : Mt → String
  | .append => "list.append" | .pop => "list.pop" | .extend => "list.extend"
/-- what a method's call is to reach -/
def rDm (X : Cx) (M : Mo) (W : XK) (m : Mt) : V → List V → Hp → VK → Prop := fun v vs H Q => ∃ α S o ds, RelS (kt X M) α H S ∧ Rep (kt X M) α H o v ∧ RepL (kt X M) α H ds vs ∧ EndG (kt X M) W α H (mtop m o ds S) (VQ (kt X M) Q)
theorem mt_all (m : Mt) : MtR X m.id (rDm X M W m) := by
  intro pins s σ H x xs v us Q I rx rv h
  obtain ⟨α, S, o, ds, rs, p, r, h⟩ := h
  unfold mtop at h
  split at h
  · rename_i n
    split at h
    · rename_i zs hs
      obtain ⟨a, vs, rfl, ea, t, q⟩ := rs.lst p hs
      have hl := q.length
      split at h
      · obtain ⟨hz, h⟩ := h.tst
        obtain ⟨w, rfl, pw⟩ := rep1 r
        exact mt_append pins s σ H _ _ v us Q I rx rv ⟨a, vs, w, rfl, rfl, t, by omega, h _ _ (Ext.write ea t) (rs.write ea (q.append (RepL.cons pw RepL.nil))) _ mk_non⟩
      · split at h
        · rename_i d hd
          have hn : xs = [] := by simp only [RepL] at r; exact r
          subst hn
          have hne : zs ≠ [] := fun z => by rw [z] at hd; cases hd
          have hg : zs[zs.length - 1]? = some d := by rw [← List.getLast?_eq_getElem?]; exact hd
          obtain ⟨w, hw, pw⟩ := q.get hg
          refine mt_pop pins s σ H _ _ v us Q I rx rv ⟨a, vs, w, rfl, rfl, t, by rw [hl]; exact hw, h _ _ (Ext.write ea t) (rs.write ea ?_) _ (Rep.mono (Ext.write ea t) _ _ pw)⟩
          rw [List.dropLast_eq_take, List.dropLast_eq_take, hl]
          exact q.take _
        · exact h.elim
      · split at h
        · rename_i k ys hk
          obtain ⟨⟨_, hz⟩, h⟩ := h.tst
          obtain ⟨w, rfl, pw⟩ := rep1 r
          obtain ⟨b, ws, rfl, _, t2, q2⟩ := rs.lst pw hk
          have hl2 := q2.length
          exact mt_extend pins s σ H _ _ v us Q I rx rv ⟨a, b, vs, ws, rfl, rfl, t, t2, by omega, h _ _ (Ext.write ea t) (rs.write ea (q.append q2)) _ mk_non⟩
        · exact h.elim
      · exact h.elim
    · exact h.elim
  · exact h.elim
theorem mt_facts (m : Mt) : PlainAttrs "list" ∧ Slot "list" m.name m.id ∧ typeOf (.builtin m.id) = pure (.type "method_descriptor") := by
  cases m with
  | append => exact ⟨PySem.F.plainAttrs_list, PySem.F.slot_list_append, PySem.F.type_list_append⟩
  | pop => exact ⟨PySem.F.plainAttrs_list, PySem.F.slot_list_pop, PySem.F.type_list_pop⟩
  | extend => exact ⟨PySem.F.plainAttrs_list, PySem.F.slot_list_extend, PySem.F.type_list_extend⟩
theorem ref_list {α H S v} {n : Nat} (rs : RelS (kt X M) α H S) (p : Rep (kt X M) α H (.ref n) v) : tyV X.K "list" v H := by
  obtain ⟨a, rfl, ea⟩ := rep_ref p
  have hl : n < S.length := by rw [← rs.len]; exact (List.getElem?_eq_some_iff.mp ea).1
  have z := rs.at_ n a S[n] ea (List.getElem?_eq_getElem hl)
  cases hq : S[n] with
  | lst ds => rw [hq] at z; obtain ⟨us, z, _⟩ := z; exact .inl ⟨rfl, us, SqL.of z⟩
variable {apos cpos : Pos} {o : Expr} {mo : Env → Sto → Res D}
theorem ok_mth0 {m : Mt} (ho : PE X o (eT X M W mo)) (hbase : attributeBase o m.name X.env (eval o X.env) = eval o X.env) (hline : (apos.endLine == cpos.line) = true) :
    PE X (.Call (.Attribute o m.name apos) [] [] cpos) (eT X M W fun E S => (mo E S).bind fun x S => if x.isRef = true then ((Exs.nil).ev M.G E S).bind fun ds S => mtop m x ds S else .bad) := by
  obtain ⟨f1, f2, f3⟩ := mt_facts m
  refine (pe_bm0 f1 f2 f3 (mt_all (M := M) (W := W) m) ho hbase hline).imp fun σ H Q ⟨α, E, S, re, rs, h⟩ => ?_
  refine tE_of re rs h.bind fun α1 H1 S1 x v st1 p1 h1 => ?_
  split at h1
  rotate_left
  · exact h1.elim
  rename_i hx
  obtain ⟨n, rfl⟩ : ∃ n, x = .ref n := by
    cases x with
    | ref n => exact ⟨n, rfl⟩
    | _ => exact absurd (show false = true from hx) Bool.false_ne_true
  simp only [Exs.ev] at h1
  have h2 := EndG.now h1.bind st1.rs
  exact ⟨ref_list st1.rs p1, α1, S1, _, [], st1.rs, p1, RepL.nil, h2⟩
theorem ok_mth {m : Mt} (ho : PE X o (eT X M W mo)) (ha : PA X (e :: es) (aT X M W mr)) (hbase : attributeBase o m.name X.env (eval o X.env) = eval o X.env)
    (hfew : ((backTo cpos (starEach (e :: es) X.env)).all (fun x => !x.1) && (backToKw cpos (keywordEach [] X.env)).all (fun x => x.1.isSome)
      && decide ((e :: es).length + ([] : List Keyword).length + (if ([] : List Keyword).isEmpty then 0 else 1) < 30)) = true)
    (hline : (apos.endLine == cpos.line) = true) (hs : starEach (e :: es) X.env = (false, eval e X.env) :: starEach es X.env) (hplain : (backTo cpos (starEach es X.env)).any (·.1) = false) :
    PE X (.Call (.Attribute o m.name apos) (e :: es) [] cpos) (eT X M W fun E S => (mo E S).bind fun x S => if x.isRef = true then (mr E S).bind fun ds S => mtop m x ds S else .bad) := by
  obtain ⟨f1, f2, f3⟩ := mt_facts m
  refine (pe_bm f1 f2 f3 (mt_all (M := M) (W := W) m) ho ha hbase hfew hline hs hplain).imp fun σ H Q ⟨α, E, S, re, rs, h⟩ => ?_
  refine tE_of re rs h.bind fun α1 H1 S1 x v st1 p1 h1 => ?_
  split at h1
  rotate_left
  · exact h1.elim
  rename_i hx
  obtain ⟨n, rfl⟩ : ∃ n, x = .ref n := by
    cases x with
    | ref n => exact ⟨n, rfl⟩
    | _ => exact absurd (show false = true from hx) Bool.false_ne_true
  refine ⟨ref_list st1.rs p1, ?_⟩
  exact tA_of st1.re st1.rs h1.bind fun α2 H2 S2 ds us st2 r2 h2 => ⟨α2, S2, _, ds, st2.rs, Rep.mono st2.ext _ _ p1, r2, h2⟩
end
end Py
set_option Elab.async false
set_option linter.all false
set_option maxRecDepth 100000
set_option maxHeartbeats 1000000
/-! Calls of defs, what is walked, targets, comprehensions. -/
namespace Py
open PySem PySem.Spec PyProof.Rows L2
/-! ### calls of defs -/
/-- a def's promise, as our language tells it -/
def spOf (κ : Kt) (n : Nat) (m : List D → Sto → Res D) : Sp := fun vs H Q E => ∃ α S ds, ds.length = n ∧ RelS κ α H S ∧ RepL κ α H ds vs ∧ EndG κ E α H (m ds S) (VQ κ Q)
/-- a def keeps its promise; gd: where nothing is just being shown -/
structure FnG (P : Program) (w : World) (K : PySem.W.Frag) (mg : Str → Option Value) (base : Heap) (CX : CXT) (gd : Bool) (k : Nat) (f : Addr) (fd : FuncData) (ps : List Str) (sp : Sp) : Prop where
  len : ∀ vs H Q E, sp vs H Q E → vs.length = ps.length
  run : ∀ (A : Around) (outer : List PySem.Env) (s : Shared) (H : Hp) (args : Args) (us : List Value) (vs : List V) (Q : VK) (E : XK), Room k A → (gd = true → A.guards = some []) → Env0 P w K mg base A outer s H →
    BindsTo s fd args (ps.zip us) → Vals vs us → sp vs H Q E → codeAny (model P w) A (.call (.ref f) args) (CR CX outer P w H s Q E) s
section
variable {X : Cx} {M : Mo} {W : XK} {pos p q : Pos} {a e : Expr} {es : List Expr} {ma : Env → Sto → Res D} {mr : Env → Sto → Res (List D)}
/-- what is known of a def ahead of its call -/
structure CallOk (X : Cx) (M : Mo) (i : Nat) (x : Str) : Prop where
  ex : ∃ (gd : Bool) (k : Nat) (f : Addr) (fd : FuncData) (ps : List Str), (gd = true → X.A.guards = some []) ∧ Room k X.A ∧ X.mg x = some (.ref f) ∧ PySem.W.keepIn X.K (.ref f) = true ∧ Binds X.K fd ps [] ∧
    (∀ ds S, ds.length ≠ ps.length → M.G.call i ds S = .bad) ∧ FnG X.prog X.w X.K X.mg X.base (L2.CX X.prog X.w) gd k f fd ps (spOf (kt X M) ps.length (M.G.call i))
theorem ok_call {i : Nat} {x : Str} (C : CallOk X M i x) (tk : Takes X (fun cls d _ H => W cls d H)) (hgl : Gl X x) (hd : (x == ("__debug__" : Str)) = false) (ha : PA X (e :: es) (aT X M W mr))
    (he : starEach (e :: es) X.env = (false, eval e X.env) :: starEach es X.env) (hpl : (backTo pos (starEach es X.env)).any (·.1) = false) :
    PE X (.Call (.Name x p) (e :: es) [] pos) (eT X M W fun E S => (mr E S).bind fun ds S => M.G.call i ds S) := by
  obtain ⟨gd, k, f, fd, ps, hg, hr, hm, hk, hb, hlen, F⟩ := C.ex
  refine ⟨fun pins s σ H Q I h => ?_⟩
  have h := tA_call σ H Q h
  refine wpAny_Call_Name_kw (ld_glob I hgl hm ?_ hd)
  refine PySem.W.callWith_K (h₀ := X.base) I.ok.mod.kin hk (thn (ha.run pos pins s σ H _ I h) fun us s1 ⟨vs, H1, I1, r, α, S, ds, rs, rd, z⟩ => ⟨I1.kIn, ?_⟩) he hpl
  have hn : ds.length = ps.length := by
    by_cases hq : ds.length = ps.length
    · exact hq
    · rw [hlen ds S hq] at z; exact z.elim
  have l1 := rd.length
  have l2 := r.length
  have hl : us.length = ps.length := by omega
  have b := hb s1 us I1.kIn (by rw [List.append_nil]; exact hl)
  rw [List.append_nil] at b
  refine wpAny_call (codeAny_mono (F.run X.A X.stack s1 H1 ⟨us, []⟩ us vs Q W hr hg I1.env0 b r ⟨α, S, ds, hn, rs, rd, z⟩) fun r s' hq => ?_)
  cases r with
  | error e => exact passAt tk σ pins H1 s1 e s' I1 hq
  | ok fl =>
    cases fl with
    | ret u => exact I1.after hq
    | next => exact False.elim hq
    | brk => exact False.elim hq
    | cont => exact False.elim hq

/-! ### what is walked -/
structure JOk (κ : Kt) (α1 : List Addr) (H1 : Hp) (w : Walk) (J : L2.It) : Prop where
  at_ : ∀ α H S, Ext α1 H1 α H → RelS κ α H S → Stands w.2 S → ∀ i d, w.1[i]? = some d → J.go i H ∧ ∀ x H', J.yld i H x H' → Ext α H α H' ∧ RelS κ α H' S ∧ Rep κ α H' d x
  stop : ∀ α H S, Ext α1 H1 α H → RelS κ α H S → Stands w.2 S → ∀ i, w.1.length ≤ i → J.stop i H
def tI (κ : Kt) (W : XK) (m : Env → Sto → Res Walk) : TI := fun σ H R => ∃ α E S, RelE κ α H E σ ∧ RelS κ α H S ∧ EndG κ W α H (m E S) fun w _ α' H' => ∀ J, JOk κ α' H' w J → R J H'
/-- a list that is walked, wherever it stands -/
theorem walk_lst {κ : Kt} {α1 : List Addr} {H1 : Hp} {S1 : Sto} {d : D} {v : V} {ds : List D} {u : Walk} (rs : RelS κ α1 H1 S1) (p : Rep κ α1 H1 d v) (h1 : lstOf S1 d = some ds) (h2 : seqW d S1 = some u) :
    ∃ a, v = .ref a ∧ u.1 = ds ∧ ∀ α H S, Ext α1 H1 α H → RelS κ α H S → Stands u.2 S → ∃ vs, SqL κ.K H a vs ∧ RepL κ α H ds vs := by
  unfold lstOf at h1
  split at h1
  · cases h1
    cases h2
    obtain ⟨a, vs, rfl, t, r⟩ := rep_con p
    exact ⟨a, rfl, rfl, fun α H S e _ _ => ⟨vs, (t.mono e).sq, r.mono e⟩⟩
  · rename_i n
    split at h1
    · rename_i hs
      cases h1
      simp only [seqW, hs] at h2
      cases h2
      obtain ⟨a, rfl, ea⟩ := rep_ref p
      refine ⟨a, rfl, rfl, fun α H S e rs' st => ?_⟩
      have := st (n, ds) (by simp)
      obtain ⟨vs, q1, q2⟩ := rs'.at_ n a _ (e.get ea) this
      exact ⟨vs, SqL.of q1, q2⟩
    · cases h1
  · cases h1
theorem jok_list {κ : Kt} {α1 : List Addr} {H1 : Hp} {ds : List D} {g : List (Nat × List D)} {a : Addr} (h : ∀ α H S, Ext α1 H1 α H → RelS κ α H S → Stands g S → ∃ vs, SqL κ.K H a vs ∧ RepL κ α H ds vs) : JOk κ α1 H1 (ds, g) (Itl κ.K a) := by
  refine ⟨fun α H S e rs st i d hd => ?_, fun α H S e rs st i hi => ?_⟩
  · obtain ⟨vs, t, r⟩ := h α H S e rs st
    obtain ⟨v, hv, rv⟩ := r.get hd
    refine ⟨⟨vs, v, t, hv⟩, fun x H' y => ?_⟩
    obtain ⟨rfl, y⟩ := y
    have := y vs t
    rw [hv] at this
    cases this
    exact ⟨Ext.refl _ _, rs, rv⟩
  · obtain ⟨vs, t, r⟩ := h α H S e rs st
    exact ⟨vs, t, by rw [r.length]; exact hi⟩
theorem jok_tup {κ : Kt} {α1 : List Addr} {H1 : Hp} {ds : List D} {g : List (Nat × List D)} {a : Addr} {vs : List V} (t : TupAt κ α1 H1 a vs) (r : RepL κ α1 H1 ds vs) : JOk κ α1 H1 (ds, g) (Itt κ.K a) := by
  refine ⟨fun α H S e rs st i d hd => ?_, fun α H S e rs st i hi => ⟨vs, (t.mono e).sq, by rw [r.length]; exact hi⟩⟩
  obtain ⟨v, hv, rv⟩ := (RepL.mono e _ _ r).get hd
  refine ⟨⟨vs, v, (t.mono e).sq, hv⟩, fun x H' y => ?_⟩
  obtain ⟨rfl, y⟩ := y
  have := y vs (t.mono e).sq
  rw [hv] at this
  cases this
  exact ⟨Ext.refl _ _, rs, rv⟩
theorem jok_rg {κ : Kt} {α1 : List Addr} {H1 : Hp} {g : List (Nat × List D)} (lo hi : Int) : JOk κ α1 H1 (rgD lo hi, g) (Itr lo (hi - lo).toNat) := by
  have hl : (rgD lo hi).length = (hi - lo).toNat := by unfold rgD; rw [List.length_map, List.length_range]
  refine ⟨fun α H S e rs st i d hd => ?_, fun α H S e rs st i h => by show (hi - lo).toNat ≤ i; rw [← hl]; exact h⟩
  have hi' : i < (hi - lo).toNat := by rw [← hl]; exact (List.getElem?_eq_some_iff.mp hd).1
  refine ⟨hi', fun x H' y => ?_⟩
  obtain ⟨rfl, rfl⟩ := y
  have : d = .int (lo + i) := by
    unfold rgD at hd
    rw [List.getElem?_map, List.getElem?_range hi'] at hd
    cases hd
    rfl
  subst this
  exact ⟨Ext.refl _ _, rs, mk_int⟩
theorem RepL.two {κ : Kt} {α : List Addr} {H : Hp} {d e : D} {v u : V} (h : Rep κ α H d v) (k : Rep κ α H e u) : RepL κ α H [d, e] [v, u] := RepL.cons h (RepL.cons k RepL.nil)
theorem zipW_get {xs ys : List D} {i : Nat} {d : D} (h : (List.zipWith (fun x y => D.tup [x, y]) xs ys)[i]? = some d) : ∃ x y, xs[i]? = some x ∧ ys[i]? = some y ∧ d = .tup [x, y] := by
  rw [List.getElem?_zipWith] at h
  cases hx : xs[i]? with
  | none => rw [hx] at h; cases h
  | some x =>
    cases hy : ys[i]? with
    | none => rw [hx, hy] at h; cases h
    | some y => rw [hx, hy] at h; cases h; exact ⟨x, y, rfl, rfl, rfl⟩
theorem stands_l {g g' : List (Nat × List D)} {S : Sto} (h : Stands (g ++ g') S) : Stands g S := fun p hp => h p (List.mem_append_left _ hp)
theorem stands_r {g g' : List (Nat × List D)} {S : Sto} (h : Stands (g ++ g') S) : Stands g' S := fun p hp => h p (List.mem_append_right _ hp)
theorem jok_zipL {κ : Kt} {α1 : List Addr} {H1 : Hp} {xs ys : List D} {g : List (Nat × List D)} {a b : Addr} (h : ∀ α H S, Ext α1 H1 α H → RelS κ α H S → Stands g S → ∃ vs, SqL κ.K H a vs ∧ RepL κ α H xs vs)
    (k : ∀ α H S, Ext α1 H1 α H → RelS κ α H S → Stands g S → ∃ vs, SqL κ.K H b vs ∧ RepL κ α H ys vs) : JOk κ α1 H1 (List.zipWith (fun x y => D.tup [x, y]) xs ys, g) (Itz κ.K a b) := by
  refine ⟨fun α H S e rs st i d hd => ?_, fun α H S e rs st i hi => ?_⟩
  · obtain ⟨x, y, hx, hy, rfl⟩ := zipW_get hd
    obtain ⟨vs, t, r⟩ := h α H S e rs st
    obtain ⟨us, t2, r2⟩ := k α H S e rs st
    obtain ⟨v, hv, rv⟩ := r.get hx
    obtain ⟨u, hu, ru⟩ := r2.get hy
    refine ⟨⟨vs, us, v, u, t, t2, hv, hu⟩, fun z H' y => ?_⟩
    obtain ⟨T, v', u', rfl, hT, rfl, y1, y2⟩ := y
    have := y1 vs t
    rw [hv] at this
    cases this
    have := y2 us t2
    rw [hu] at this
    cases this
    exact ⟨Ext.newTup hT, rs.newTup hT, mk_newTup rs hT (RepL.two rv ru)⟩
  · obtain ⟨vs, t, r⟩ := h α H S e rs st
    obtain ⟨us, t2, r2⟩ := k α H S e rs st
    have l1 := r.length
    have l2 := r2.length
    rw [List.length_zipWith] at hi
    exact ⟨vs, us, t, t2, by omega⟩
theorem jok_zipT {κ : Kt} {α1 : List Addr} {H1 : Hp} {xs ys : List D} {g : List (Nat × List D)} {a b : Addr} {vs us : List V} (t : TupAt κ α1 H1 a vs) (r : RepL κ α1 H1 xs vs) (t2 : TupAt κ α1 H1 b us) (r2 : RepL κ α1 H1 ys us) :
    JOk κ α1 H1 (List.zipWith (fun x y => D.tup [x, y]) xs ys, g) (RZ.ItzT κ.K a b) := by
  refine ⟨fun α H S e rs st i d hd => ?_, fun α H S e rs st i hi => ?_⟩
  · obtain ⟨x, y, hx, hy, rfl⟩ := zipW_get hd
    obtain ⟨v, hv, rv⟩ := (RepL.mono e _ _ r).get hx
    obtain ⟨u, hu, ru⟩ := (RepL.mono e _ _ r2).get hy
    refine ⟨⟨vs, us, v, u, (t.mono e).sq, (t2.mono e).sq, hv, hu⟩, fun z H' y => ?_⟩
    obtain ⟨T, v', u', rfl, hT, rfl, y1, y2⟩ := y
    have := y1 vs (t.mono e).sq
    rw [hv] at this
    cases this
    have := y2 us (t2.mono e).sq
    rw [hu] at this
    cases this
    exact ⟨Ext.newTup hT, rs.newTup hT, mk_newTup rs hT (RepL.two rv ru)⟩
  · have l1 := r.length
    have l2 := r2.length
    rw [List.length_zipWith] at hi
    exact ⟨vs, us, (t.mono e).sq, (t2.mono e).sq, by omega⟩
theorem enumD_get : ∀ {ds : List D} {n i : Nat} {d : D}, (enumD ds n)[i]? = some d → ∃ x, ds[i]? = some x ∧ d = .tup [.int ((n + i : Nat) : Int), x]
  | [], n, i, d, h => by simp [enumD] at h
  | x :: ds, n, 0, d, h => by simp [enumD] at h; exact ⟨x, by simp, h.symm⟩
  | x :: ds, n, i + 1, d, h => by
    simp only [enumD, List.getElem?_cons_succ] at h
    obtain ⟨y, h1, rfl⟩ := enumD_get h
    exact ⟨y, by simpa using h1, by rw [show n + 1 + i = n + (i + 1) by omega]⟩
theorem enumD_length : ∀ (ds : List D) (n : Nat), (enumD ds n).length = ds.length
  | [], n => rfl
  | x :: ds, n => by simp [enumD, enumD_length ds]
theorem jok_enum {κ : Kt} {α1 : List Addr} {H1 : Hp} {xs : List D} {g : List (Nat × List D)} {a : Addr} (h : ∀ α H S, Ext α1 H1 α H → RelS κ α H S → Stands g S → ∃ vs, SqL κ.K H a vs ∧ RepL κ α H xs vs) : JOk κ α1 H1 (enumD xs 0, g) (Ite κ.K a) := by
  refine ⟨fun α H S e rs st i d hd => ?_, fun α H S e rs st i hi => ?_⟩
  · obtain ⟨x, hx, rfl⟩ := enumD_get hd
    obtain ⟨vs, t, r⟩ := h α H S e rs st
    obtain ⟨v, hv, rv⟩ := r.get hx
    refine ⟨⟨vs, v, t, hv⟩, fun z H' y => ?_⟩
    obtain ⟨T, v', rfl, hT, rfl, y1⟩ := y
    have := y1 vs t
    rw [hv] at this
    cases this
    rw [Nat.zero_add]
    exact ⟨Ext.newTup hT, rs.newTup hT, mk_newTup rs hT (RepL.two mk_int rv)⟩
  · obtain ⟨vs, t, r⟩ := h α H S e rs st
    rw [enumD_length] at hi
    exact ⟨vs, t, by rw [r.length]; exact hi⟩
end
end Py
set_option Elab.async false
set_option linter.all false
set_option maxRecDepth 100000
set_option maxHeartbeats 1000000
/-! Iterators, targets, comprehensions. -/
namespace Py
open PySem PySem.Spec PyProof.Rows L2
theorem _root_.L2.PI.imp {X : Cx} {tg e : Expr} {t t' : TI} (h : PI X tg e t) (i : ∀ σ H Q, t' σ H Q → t σ H Q) : PI X tg e t' := ⟨fun pins s σ H Q I q => h.run pins s σ H Q I (i σ H Q q)⟩
theorem _root_.L2.PG.imp {X : Cx} {tg : Expr} {t t' : TG} (h : PG X tg t) (i : ∀ v σ H Q, t' v σ H Q → t v σ H Q) : PG X tg t' := ⟨fun pins s σ H v u Q I r q => h.run pins s σ H v u Q I r (i v σ H Q q)⟩
theorem _root_.L2.PGs.imp {X : Cx} {tg : List Expr} {t t' : TGs} (h : PGs X tg t) (i : ∀ v σ H Q, t' v σ H Q → t v σ H Q) : PGs X tg t' := ⟨fun pins s σ H v u Q I r q => h.run pins s σ H v u Q I r (i v σ H Q q)⟩
theorem _root_.L2.PTs.imp {X : Cx} {tg : List Expr} {t t' : TT} (h : PTs X tg t) (i : ∀ σ H Q, t' σ H Q → t σ H Q) : PTs X tg t' := ⟨fun pins s σ H Q I q => h.run pins s σ H Q I (i σ H Q q)⟩
section
variable {X : Cx} {M : Mo} {W : XK} {pos p q : Pos} {a b e tg : Expr} {es : List Expr} {ma mb : Env → Sto → Res D}
abbrev iT (X : Cx) (M : Mo) (W : XK) (m : Env → Sto → Res Walk) : TI := tI (kt X M) W m
/-- a list or a tuple, wherever it stands -/
theorem pi_any {l : Expr} {tl : TE} (hl : PE X l tl) : PI X tg l (fun σ H R => tl σ H fun x H1 => ∃ a, x = .ref a ∧ ((∃ xs, SqL X.K H1 a xs) ∧ R (Itl X.K a) H1 ∨ (∃ xs, SqT X.K H1 a xs) ∧ R (Itt X.K a) H1)) := by
  refine ⟨fun pins s σ H R I h => ?_⟩
  refine thn (hl.run pins s σ H _ I h) fun v s1 ⟨x, H1, I1, r1, a, ex, q⟩ => ?_
  subst ex
  obtain rfl : v = Value.ref a := r1
  have fr : ∀ b ∈ [s1.heap.objs.size], FpOk X pins H1 b := fun b hb => by
    obtain rfl : b = s1.heap.objs.size := by simpa using hb
    exact I1.fpOk (Nat.le_refl _) (I1.hok.fresh (Nat.le_refl _))
  rcases q with ⟨⟨xs, hq⟩, q⟩ | ⟨⟨xs, hq⟩, q⟩
  · obtain ⟨its, rv, p, hz⟩ := I1.list hq
    exact wpAny_pyIter_list p.isList ⟨s1.heap.objs.size, [s1.heap.objs.size], _, _, H1, rfl, I1.kept (t' := s1.toks) fun b o e => Heap.get?_push_of_some _ e, turn_list a _, ⟨_, Heap.get?_push_size _ rfl, rfl, rfl⟩, fr, q⟩
  · obtain ⟨its, rv, p, hz⟩ := I1.tuple hq
    exact wpAny_pyIter_tuple (show s1.heap.IsTuple a its.toArray from p) ⟨s1.heap.objs.size, [s1.heap.objs.size], _, _, H1, rfl, I1.kept (t' := s1.toks) fun b o e => Heap.get?_push_of_some _ e, turn_tuple a _, ⟨_, Heap.get?_push_size _ rfl, rfl, rfl⟩, fr, q⟩
theorem ok_seq (ha : PE X a (eT X M W ma)) : PI X tg a (iT X M W fun E S => (ma E S).bind fun d S => ofO (seqW d S) S) := by
  refine (pi_any ha).imp fun σ H R ⟨α, E, S, re, rs, h⟩ => ?_
  refine tE_of re rs h.bind fun α1 H1 S1 d v st1 p1 h1 => ?_
  obtain ⟨w, e, h1⟩ := h1.ofO st1.rs
  unfold seqW at e
  split at e
  · cases e
    obtain ⟨a, vs, rfl, t, r⟩ := rep_tup p1
    exact ⟨a, rfl, .inr ⟨⟨vs, t.sq⟩, h1 _ (jok_tup t r)⟩⟩
  · rename_i ds
    cases e
    obtain ⟨a, rfl, _, k⟩ := walk_lst (u := (ds, [])) st1.rs p1 rfl rfl
    obtain ⟨vs, t, _⟩ := k α1 H1 S1 (Ext.refl _ _) st1.rs (fun _ h => by cases h)
    exact ⟨a, rfl, .inl ⟨⟨vs, t⟩, h1 _ (jok_list k)⟩⟩
  · rename_i n
    split at e
    · rename_i ds hs
      cases e
      obtain ⟨a, rfl, _, k⟩ := walk_lst (u := (ds, [(n, ds)])) (ds := ds) st1.rs p1 (by simp only [lstOf, hs]) (by simp only [seqW, hs])
      obtain ⟨vs, t, _⟩ := k α1 H1 S1 (Ext.refl _ _) st1.rs (fun p hp => by
        obtain rfl : p = (n, ds) := by simpa using hp
        exact hs)
      exact ⟨a, rfl, .inl ⟨⟨vs, t⟩, h1 _ (jok_list k)⟩⟩
    · cases e
  · cases e
theorem ok_r1 (hg : Gl X "range") (hm : X.mg "range" = none) (ha : PE X a (eT X M W ma)) (hn : starEach [a] X.env = [(false, eval a X.env)]) :
    PI X tg (.Call (.Name "range" p) [a] [] pos) (iT X M W fun E S => (ma E S).bind fun d S => match d with
      | .int j => tst (-(2 ^ 62) ≤ j ∧ j < 2 ^ 62) (.ok (rgD 0 j, []) S) .bad
      | _ => .bad) := by
  refine (pi_range1 hg hm (pa_cons ha pa_nil (by rw [hn] <;> rfl)) hn).imp fun σ H R ⟨α, E, S, re, rs, h⟩ => ?_
  refine tE_of re rs h.bind fun α1 H1 S1 d v st1 p1 h1 => ?_
  split at h1
  · rename_i j
    obtain ⟨⟨z1, z2⟩, h1⟩ := h1.tst
    refine ⟨j, by rw [rep_int p1], z1, z2, ?_⟩
    have z := EndG.now h1 st1.rs _ (jok_rg 0 j)
    rw [Int.sub_zero] at z
    exact z
  · exact h1.elim
theorem ok_r2 (hg : Gl X "range") (hm : X.mg "range" = none) (ha : PE X a (eT X M W ma)) (hb : PE X b (eT X M W mb)) (hn : starEach [a, b] X.env = [(false, eval a X.env), (false, eval b X.env)]) (hn2 : starEach [b] X.env = [(false, eval b X.env)]) :
    PI X tg (.Call (.Name "range" p) [a, b] [] pos) (iT X M W fun E S => (ma E S).bind fun d S => (mb E S).bind fun e S => match d, e with
      | .int i, .int j => tst (-(2 ^ 62) ≤ i ∧ i < 2 ^ 62 ∧ -(2 ^ 62) ≤ j ∧ j < 2 ^ 62) (.ok (rgD i j, []) S) .bad
      | _, _ => .bad) := by
  refine (pi_range2 hg hm (pa_cons ha (pa_cons hb pa_nil (by rw [hn2] <;> rfl)) (by rw [hn, hn2])) hn hn2).imp fun σ H R ⟨α, E, S, re, rs, h⟩ => ?_
  refine tE_of re rs h.bind fun α1 H1 S1 d v st1 p1 h1 => ?_
  refine tE_of st1.re st1.rs h1.bind fun α2 H2 S2 e u st2 p2 h2 => ?_
  split at h2
  · rename_i i j
    obtain ⟨z, h2⟩ := h2.tst
    refine ⟨i, j, by rw [rep_int p1, rep_int p2], z, EndG.now h2 st2.rs _ (jok_rg i j)⟩
  · exact h2.elim
theorem ok_zip {elts : List Expr} {kk : Nat} {tpos : Pos} (hg : Gl X "zip") (hm : X.mg "zip" = none) (ha : PE X a (eT X M W ma)) (hb : PE X b (eT X M W mb)) (hn : starEach [a, b] X.env = (false, eval a X.env) :: starEach [b] X.env) (hn2 : starEach [b] X.env = [(false, eval b X.env)]) :
    PI X (.Tuple elts kk tpos) (.Call (.Name "zip" p) [a, b] [] pos) (iT X M W fun E S => (ma E S).bind fun d S => (mb E S).bind fun e S => ofO (zipW S d e) S) := by
  refine (RZ.pi_zipA hg hm (pa_cons ha (pa_cons hb pa_nil (by rw [hn2] <;> rfl)) hn) hn (by rw [hn2] <;> rfl)).imp fun σ H R ⟨α, E, S, re, rs, h⟩ => ?_
  refine tE_of re rs h.bind fun α1 H1 S1 d v st1 p1 h1 => ?_
  refine tE_of st1.re st1.rs h1.bind fun α2 H2 S2 e u st2 p2 h2 => ?_
  have p1 := Rep.mono st2.ext _ _ p1
  obtain ⟨w, ew, h2⟩ := h2.ofO st2.rs
  have stand0 : ∀ {d : D} {u : Walk}, seqW d S2 = some u → Stands u.2 S2 := fun {d u} e p hp => by
    unfold seqW at e
    split at e
    · cases e; cases hp
    · cases e; cases hp
    · rename_i n
      split at e
      · rename_i ds hs
        cases e
        obtain rfl : p = (n, ds) := by simpa using hp
        exact hs
      · cases e
    · cases e
  unfold zipW at ew
  split at ew
  · cases ew
    obtain ⟨a, vs, rfl, t, r⟩ := rep_tup p1
    obtain ⟨b, us, rfl, t2, r2⟩ := rep_tup p2
    exact ⟨a, b, vs, us, rfl, .inr ⟨t.sq, t2.sq, h2 _ (jok_zipT t r t2 r2)⟩⟩
  · split at ew
    · rename_i xs ys w1 w2 e1 e2 e3 e4
      cases ew
      obtain ⟨a, rfl, _, k⟩ := walk_lst st2.rs p1 e1 e3
      obtain ⟨b, rfl, _, k2⟩ := walk_lst st2.rs p2 e2 e4
      obtain ⟨vs, t, _⟩ := k α2 H2 S2 (Ext.refl _ _) st2.rs (stand0 e3)
      obtain ⟨us, t2, _⟩ := k2 α2 H2 S2 (Ext.refl _ _) st2.rs (stand0 e4)
      exact ⟨a, b, vs, us, rfl, .inl ⟨t, t2, h2 _ (jok_zipL (fun α H S e r st => k α H S e r (stands_l st)) fun α H S e r st => k2 α H S e r (stands_r st))⟩⟩
    · cases ew
theorem ok_enum {elts : List Expr} {kk : Nat} {tpos : Pos} (hg : Gl X "enumerate") (hm : X.mg "enumerate" = none) (ha : PE X a (eT X M W ma)) (hn : starEach [a] X.env = [(false, eval a X.env)]) :
    PI X (.Tuple elts kk tpos) (.Call (.Name "enumerate" p) [a] [] pos) (iT X M W fun E S => (ma E S).bind fun d S => ofO (enumW S d) S) := by
  refine (pi_enum hg hm (pa_cons ha pa_nil (by rw [hn] <;> rfl)) hn).imp fun σ H R ⟨α, E, S, re, rs, h⟩ => ?_
  refine tE_of re rs h.bind fun α1 H1 S1 d v st1 p1 h1 => ?_
  obtain ⟨w, ew, h1⟩ := h1.ofO st1.rs
  unfold enumW at ew
  split at ew
  · rename_i xs u e1 e2
    cases ew
    obtain ⟨a, rfl, _, k⟩ := walk_lst st1.rs p1 e1 e2
    obtain ⟨vs, t, _⟩ := k α1 H1 S1 (Ext.refl _ _) st1.rs (fun p hp => by
      unfold seqW at e2
      split at e2
      · cases e2; cases hp
      · cases e2; cases hp
      · rename_i n
        split at e2
        · rename_i ds hs
          cases e2
          obtain rfl : p = (n, ds) := by simpa using hp
          exact hs
        · cases e2
      · cases e2)
    exact ⟨a, vs, rfl, t, h1 _ (jok_enum k)⟩
  · cases ew

/-! ### targets -/
mutual
/-- the slots of a target -/
def Tg.sl : Tg → List Nat
  | .nm i => [i]
  | .tp ts => Tg.sls ts
def Tg.sls : List Tg → List Nat
  | [] => []
  | t :: ts => t.sl ++ Tg.sls ts
end
/-- the slots as before, but those -/
def Agr (sl : List Nat) (σ σ' : L2.St) : Prop := σ'.length = σ.length ∧ ∀ j, j ∉ sl → σ'[j]? = σ[j]?
theorem Agr.refl (sl : List Nat) (σ : L2.St) : Agr sl σ σ := ⟨rfl, fun _ _ => rfl⟩
theorem Agr.set (i : Nat) (v : Option V) (σ : L2.St) : Agr [i] σ (σ.set i v) := ⟨by simp, fun j hj => by rw [List.getElem?_set_ne (fun z => hj (by simp [z]))]⟩
theorem Agr.app {s1 s2 : List Nat} {σ σ1 σ2 : L2.St} (h : Agr s1 σ σ1) (k : Agr s2 σ1 σ2) : Agr (s1 ++ s2) σ σ2 :=
  ⟨k.1.trans h.1, fun j hj => by rw [List.mem_append, not_or] at hj; rw [k.2 j hj.2, h.2 j hj.1]⟩
theorem wipe_get (σ : L2.St) : ∀ (vs : List Nat) (j : Nat), (L2.wipe σ vs)[j]? = if j ∈ vs then (if j < σ.length then some none else none) else σ[j]?
  | [], j => by simp [L2.wipe]
  | v :: vs, j => by
    unfold L2.wipe
    by_cases hv : v = j
    · subst hv
      rw [if_pos (by simp)]
      by_cases hl : v < σ.length
      · rw [List.getElem?_set_self (by rw [L2.wipe_length]; exact hl), if_pos hl]
      · rw [List.getElem?_eq_none (by rw [List.length_set, L2.wipe_length]; omega), if_neg hl]
    · rw [List.getElem?_set_ne hv, wipe_get σ vs j]
      have e : (j ∈ v :: vs) = (j ∈ vs) := by simp [Ne.symm hv]
      simp only [e]
theorem Agr.wipe {sl vs : List Nat} {σ σ' : L2.St} (h : Agr sl (L2.wipe σ vs) σ') (hs : ∀ j ∈ sl, j ∈ vs) : L2.wipe σ' vs = L2.wipe σ vs := by
  have hl : σ'.length = σ.length := by rw [h.1, L2.wipe_length]
  refine List.ext_getElem? fun j => ?_
  rw [wipe_get, wipe_get, hl]
  by_cases hj : j ∈ vs
  · rw [if_pos hj, if_pos hj]
  · rw [if_neg hj, if_neg hj, h.2 j (fun z => hj (hs j z)), wipe_get, if_neg hj]
def gT (κ : Kt) (sl : List Nat) (put : D → Env → Option Env) : TG := fun v σ H Q => ∃ α E S d E', RelE κ α H E σ ∧ RelS κ α H S ∧ Rep κ α H d v ∧ put d E = some E' ∧ ∀ σ', RelE κ α H E' σ' → Agr sl σ σ' → Q σ' H
def gTs (κ : Kt) (sl : List Nat) (put : List D → Env → Option Env) : TGs := fun vs σ H Q => ∃ α E S ds E', RelE κ α H E σ ∧ RelS κ α H S ∧ RepL κ α H ds vs ∧ put ds E = some E' ∧ ∀ σ', RelE κ α H E' σ' → Agr sl σ σ' → Q σ' H
theorem ok_tgN {i : Nat} {x : Str} (hN : X.N.Nodup) (hi : X.N[i]? = some x) (hx : Loc X.env.scope x) (hf : X.fn x = true ∨ X.env.scope.names.lookup x = some .local) : PG X (.Name x pos) (gT (kt X M) (Tg.nm i).sl (Tg.nm i).put) := by
  refine (pg_name hN hi hx hf).imp fun v σ H Q ⟨α, E, S, d, E', re, rs, r, e, q⟩ => ?_
  simp only [Tg.put] at e
  cases e
  exact q _ (re.set i r) (Agr.set i _ σ)
theorem ok_tgT {ts : List Tg} {k : Nat} {n : Nat} (hc : X.calm = true) (h : PGs X es (gTs (kt X M) (Tg.sls ts) (Tg.puts ts))) (hn : (assignEach es X.env).length = n) (hst : (assignEach es X.env).findIdx? (·.1) = none)
    (hl : ∀ ds E E', Tg.puts ts ds E = some E' → ds.length = n) : PG X (.Tuple es k pos) (gT (kt X M) (Tg.tp ts).sl (Tg.tp ts).put) := by
  refine (pg_tup hc h hn hst).imp fun v σ H Q ⟨α, E, S, d, E', re, rs, r, e, q⟩ => ?_
  simp only [Tg.put] at e
  split at e
  · obtain ⟨a, vs, rfl, t, ra⟩ := rep_tup r
    exact ⟨a, vs, rfl, t.sq, by rw [ra.length]; exact hl _ _ _ e, α, E, S, _, E', re, rs, ra, e, q⟩
  · cases e
theorem ok_tgs0 : PGs X [] (gTs (kt X M) (Tg.sls []) (Tg.puts [])) := by
  refine pgs_nil.imp fun v σ H Q ⟨α, E, S, ds, E', re, rs, r, e, q⟩ => ?_
  cases ds with
  | nil =>
    simp only [Tg.puts] at e
    simp only [RepL] at r
    cases e
    exact ⟨r, q σ re (Agr.refl _ _)⟩
  | cons d ds => simp only [Tg.puts] at e; cases e
theorem ok_tgs1 {t : Tg} {ts : List Tg} (h1 : PG X e (gT (kt X M) t.sl t.put)) (h2 : PGs X es (gTs (kt X M) (Tg.sls ts) (Tg.puts ts))) (hs : (assignEach (e :: es) X.env).map (·.2) = assign e X.env :: (assignEach es X.env).map (·.2)) :
    PGs X (e :: es) (gTs (kt X M) (Tg.sls (t :: ts)) (Tg.puts (t :: ts))) := by
  refine (pgs_cons h1 h2 hs).imp fun v σ H Q ⟨α, E, S, ds, E', re, rs, r, e, q⟩ => ?_
  cases ds with
  | nil => simp only [Tg.puts] at e; cases e
  | cons d ds =>
    simp only [Tg.puts] at e
    split at e
    · rename_i E1 e1
      simp only [RepL] at r
      obtain ⟨w, ws, rfl, r1, r2⟩ := r
      exact ⟨w, ws, rfl, α, E, S, d, E1, re, rs, r1, e1, fun σ' re' ag => ⟨α, E1, S, ds, E', re', rs, r2, e, fun σ2 re2 ag2 => q σ2 re2 (by simp only [Tg.sls]; exact ag.app ag2)⟩⟩
    · cases e
theorem puts_length : ∀ {ts : List Tg} {ds : List D} {E E' : Env}, Tg.puts ts ds E = some E' → ds.length = ts.length
  | [], [], _, _, _ => rfl
  | [], _ :: _, _, _, e => by simp only [Tg.puts] at e; cases e
  | _ :: _, [], _, _, e => by simp only [Tg.puts] at e; cases e
  | t :: ts, d :: ds, E, E', e => by
    simp only [Tg.puts] at e
    split at e
    · simp [puts_length e]
    · cases e

/-! ### comprehensions -/
theorem RelE.wipe {κ : Kt} {α : List Addr} {H : Hp} {E : Env} {σ : L2.St} (r : RelE κ α H E σ) : ∀ vs, RelE κ α H (wipeE E vs) (L2.wipe σ vs)
  | [] => r
  | v :: vs => by
    have h := RelE.wipe r vs
    refine ⟨by simp only [wipeE, L2.wipe, List.length_set]; exact h.len, fun j d e => ?_⟩
    unfold wipeE at e
    unfold L2.wipe
    by_cases hv : v = j
    · subst hv
      by_cases hl : v < (wipeE E vs).length
      · rw [List.getElem?_set_self hl] at e; cases e
      · rw [List.getElem?_eq_none (by simpa using hl)] at e; cases e
    · rw [List.getElem?_set_ne hv] at e ⊢
      exact h.at_ j d e
/-- the wish of a block: nothing is raised -/
abbrev W0 : XK := fun _ _ _ => False
theorem end_true {α H} {κ : Kt} {β : Type} {r : Res β} {b : β} {S : Sto} (h : r = .ok b S) : EndG κ W0 α H r fun b' S' _ _ => b' = b ∧ S' = S := by
  rw [h]
  exact fun _ _ _ _ => ⟨rfl, rfl⟩
variable {mf : Env → Sto → Res Bool} {mi : Env → Sto → Res Walk} {own : List Nat} {t : Tg}
/-- what the layer asks of a comprehension -/
theorem lc_ok {σ : L2.St} {H : Hp} {Q : VK} (hs : ∀ j ∈ t.sl, j ∈ own)
    (h : (eT X M W fun E S => (mi E S).bind fun w S => lcGo S.length w.2 (fun x => t.put x (wipeE E own)) mf ma w.1 (S ++ [.lst []])) σ H Q) :
    tLc (iT X M W mi) (gT (kt X M) t.sl t.put) (tT (kt X M) W0 mf) (tE (kt X M) W0 ma) own σ H Q := by
  obtain ⟨α, E, S, re, rs, h⟩ := h
  refine ⟨α, E, S, re, rs, h.bind.mono fun w S1 α1 H1 e1 rs1 h1 => ?_⟩
  intro J hJ Dn hD
  refine ⟨fun i m Hc => m = w.1.length - i ∧ i ≤ w.1.length ∧ ∃ α2 S2, Ext α1 H1 α2 Hc ∧ RelS (kt X M) α2 Hc S2 ∧ α2[S1.length]? = some Dn ∧ EndG (kt X M) W α2 Hc (lcGo S1.length w.2 (fun x => t.put x (wipeE E own)) mf ma (w.1.drop i) S2) (VQ (kt X M) Q), ⟨w.1.length, by simp, Nat.zero_le _, α1 ++ [Dn], S1 ++ [.lst []], Ext.newObj hD, rs1.newLst hD RepL.nil, by rw [← rs1.len]; simp, by
    rw [List.drop_zero]
    exact h1.onward (Ext.newObj hD)⟩, ?_⟩
  rintro i m Hc ⟨rfl, hi, α2, S2, e2, rs2, eD, h2⟩
  by_cases hlt : i < w.1.length
  · have hd : w.1[i]? = some w.1[i] := List.getElem?_eq_getElem hlt
    rw [List.drop_eq_getElem_cons hlt] at h2
    simp only [lcGo] at h2
    obtain ⟨st, h2⟩ := h2.tst
    obtain ⟨go, yld⟩ := hJ.at_ α2 Hc S2 e2 rs2 st i _ hd
    refine .inr ⟨go, fun H' => i + 1 ≤ w.1.length ∧ ∃ α3 S3, Ext α1 H1 α3 H' ∧ RelS (kt X M) α3 H' S3 ∧ α3[S1.length]? = some Dn ∧ EndG (kt X M) W α3 H' (lcGo S1.length w.2 (fun x => t.put x (wipeE E own)) mf ma (w.1.drop (i + 1)) S3) (VQ (kt X M) Q), fun H' ⟨z1, z2⟩ => ⟨w.1.length - (i + 1), by omega, rfl, z1, z2⟩, fun x H' y => ?_⟩
    obtain ⟨ey, rsy, ry⟩ := yld x H' y
    split at h2
    · exact h2.elim
    · rename_i E1 hput
      have ex : Ext α H α2 H' := e1.trans (e2.trans ey)
      have re1 : RelE (kt X M) α2 H' (wipeE E own) (L2.wipe σ own) := (re.mono ex).wipe own
      refine ⟨α2, wipeE E own, S2, w.1[i], E1, re1, rsy, ry, hput, fun σ2 re2 ag => ⟨ag.wipe hs, ?_⟩⟩
      have onw : ∀ {α3 : List Addr} {H3 : Hp}, Ext α2 H' α3 H3 → Ext α1 H1 α3 H3 := fun z => e2.trans (ey.trans z)
      split at h2
      · rename_i S3 hf
        refine ⟨α2, E1, S2, re2, rsy, (end_true hf).mono fun b S' α3 H3 e3 rs3 hb => ?_⟩
        obtain ⟨rfl, rfl⟩ := hb
        rw [if_neg (by simp)]
        exact ⟨hlt, α3, _, onw e3, rs3, e3.get eD, h2.onward (ey.trans e3)⟩
      · rename_i S3 hf
        refine ⟨α2, E1, S2, re2, rsy, (end_true hf).mono fun b S' α3 H3 e3 rs3 hb => ?_⟩
        obtain ⟨rfl, rfl⟩ := hb
        rw [if_pos rfl]
        split at h2
        · rename_i d S4 hh
          refine ⟨α3, E1, _, re2.mono e3, rs3, (end_true hh).mono fun b S' α4 H4 e4 rs4 hb v rv => ?_⟩
          obtain ⟨rfl, rfl⟩ := hb
          split at h2
          · rename_i acc hacc
            obtain ⟨hz, h2⟩ := h2.tst
            have eD4 := e4.get (e3.get eD)
            obtain ⟨vs, q1, q2⟩ := rs4.at_ _ _ _ eD4 hacc
            have ew := Ext.write (vs := vs ++ [v]) eD4 q1
            exact ⟨vs, q1, by rw [q2.length]; exact hz, hlt, α4, _, onw (e3.trans (e4.trans ew)), rs4.write eD4 (q2.append (RepL.cons rv RepL.nil)), eD4, h2.onward (ey.trans (e3.trans (e4.trans ew)))⟩
          · exact h2.elim
        · exact h2.elim
      · exact h2.elim
  · have e : i = w.1.length := by omega
    subst e
    rw [List.drop_length] at h2
    simp only [lcGo] at h2
    obtain ⟨st, h2⟩ := h2.tst
    exact .inl ⟨hJ.stop α2 Hc S2 e2 rs2 st _ (Nat.le_refl _), EndG.now h2 rs2 _ (by simp only [Rep]; exact ⟨Dn, rfl, eD⟩)⟩
end
end Py
set_option Elab.async false
set_option linter.all false
set_option maxRecDepth 100000
set_option maxHeartbeats 1000000
/-! Statements. -/
namespace Py
open PySem PySem.Spec PyProof.Rows L2
/-- how a statement ends -/
def EndF (κ : Kt) (W : XK) (α : List Addr) (H : Hp) (f : Fl) (D : Ends) : Prop := match f with
  | .next E S => ∀ α' H' σ', Ext α H α' H' → RelS κ α' H' S → RelE κ α' H' E σ' → D.nx σ' H'
  | .brk E S => ∀ α' H' σ', Ext α H α' H' → RelS κ α' H' S → RelE κ α' H' E σ' → D.bk σ' H'
  | .ret d S => ∀ α' H' v, Ext α H α' H' → RelS κ α' H' S → Rep κ α' H' d v → D.rt v H'
  | .exc x S => ∀ α' H' cls dx, Ext α H α' H' → RelS κ α' H' S → XRep κ α' H' x cls dx → W cls dx H'
  | .bad => False
def sT (κ : Kt) (W : XK) (m : Env → Sto → Fl) : TS := fun D σ H => ∃ α E S, RelE κ α H E σ ∧ RelS κ α H S ∧ EndF κ W α H (m E S) D
section
variable {κ : Kt} {α α' : List Addr} {H H' : Hp} {W : XK} {σ : L2.St} {E : Env} {S : Sto} {D : Ends}
theorem EndF.onward {f : Fl} (h : EndF κ W α H f D) (e : Ext α H α' H') : EndF κ W α' H' f D := by
  cases f with
  | next E S => exact fun a b c e' => h a b c (e.trans e')
  | brk E S => exact fun a b c e' => h a b c (e.trans e')
  | ret d S => exact fun a b c e' => h a b c (e.trans e')
  | exc x S => exact fun a b c d e' => h a b c d (e.trans e')
  | bad => exact h
/-- an expression ahead of the rest -/
theorem EndF.flow {β : Type} {r : Res β} {f : β → Sto → Fl} (h : EndF κ W α H (Py.flow r f) D) : EndG κ W α H r fun b S' α' H' => EndF κ W α' H' (f b S') D := by
  cases r with
  | ok b S' => exact fun a b e r => EndF.onward h e
  | exc x S' => exact h
  | bad => exact h
theorem EndF.then {f : Fl} {g : Env → Sto → Fl} (h : EndF κ W α H (f.then g) D) : EndF κ W α H f { D with nx := sT κ W g D } := by
  cases f with
  | next E S => exact fun a b c e r re => ⟨a, E, S, re, r, EndF.onward h e⟩
  | brk E S => exact h
  | ret d S => exact h
  | exc x S => exact h
  | bad => exact h
end
section
variable {X : Cx} {M : Mo} {W : XK} {pos pos' p q : Pos} {a b e tg : Expr} {es : List Expr} {ma mb mc : Env → Sto → Res D} {mt : Env → Sto → Res Bool} {m m2 : Env → Sto → Fl} {st : Stmt} {rest ss ss2 : List Stmt}
abbrev fT (X : Cx) (M : Mo) (W : XK) (m : Env → Sto → Fl) : TS := sT (kt X M) W m
theorem ok_snil : PSs X [] (fT X M W fun E S => .next E S) := pss_nil.imp fun D σ H ⟨α, E, S, re, rs, h⟩ => h α H σ (Ext.refl _ _) rs re
theorem ok_scons (h1 : PS X st (fT X M W m)) (h2 : PSs X rest (fT X M W m2)) : PSs X (st :: rest) (fT X M W fun E S => (m E S).then m2) :=
  (pss_cons h1 h2).imp fun D σ H ⟨α, E, S, re, rs, h⟩ => ⟨α, E, S, re, rs, h.then⟩
/-- a value stored at a target -/
theorem asg_of {t : Tg} : ∀ D σ H, (fT X M W fun E S => flow (ma E S) fun d S => flO (t.put d E) S) D σ H → tAsg (eT X M W ma) (gT (kt X M) t.sl t.put) D σ H := by
  intro D σ H ⟨α, E, S, re, rs, h⟩
  refine tE_of re rs h.flow fun α1 H1 S1 d v st1 p1 h1 => ?_
  unfold flO at h1
  split at h1
  · rename_i E1 e1
    exact ⟨α1, E, S1, d, E1, st1.re, st1.rs, p1, e1, fun σ' re' _ => h1 α1 H1 σ' (Ext.refl _ _) st1.rs re'⟩
  · exact h1.elim
theorem ok_set {i : Nat} {x : Str} (hN : X.N.Nodup) (hi : X.N[i]? = some x) (hx : Loc X.env.scope x) (hf : X.fn x = true ∨ X.env.scope.names.lookup x = some .local) (he : PE X e (eT X M W ma)) (hs : swapsWith e (some (.Name x pos')) pos.line X.env = pure false) :
    PS X (.Assign [.Name x pos'] e pos) (fT X M W fun E S => flow (ma E S) fun d S => flO ((Tg.nm i).put d E) S) := by
  refine (ps_set hN hi hx he hs hf).imp fun D σ H ⟨α, E, S, re, rs, h⟩ => ?_
  refine tE_of re rs h.flow fun α1 H1 S1 d v st1 p1 h1 => ?_
  simp only [Tg.put, flO] at h1
  exact h1 α1 H1 _ (Ext.refl _ _) st1.rs (st1.re.set i p1)
theorem ok_asg {t : Tg} (he : PE X e (eT X M W ma)) (hg : PG X tg (gT (kt X M) t.sl t.put)) (hs : swapsWithSole [tg] e pos.line X.env = pure false) (hw : swappedStores [tg] e X.env = pure none) (h1 : (assignEach [tg] X.env).map (·.2) = [assign tg X.env]) :
    PS X (.Assign [tg] e pos) (fT X M W fun E S => flow (ma E S) fun d S => flO (t.put d E) S) := (ps_asg he hg hs hw h1).imp asg_of
theorem ok_ex (he : PE X e (eT X M W ma)) (hs : swapsWith e none pos.line X.env = pure false) : PS X (.Expr e pos) (fT X M W fun E S => flow (ma E S) fun _ S => .next E S) := by
  refine (ps_expr he hs).imp fun D σ H ⟨α, E, S, re, rs, h⟩ => ?_
  exact tE_of re rs h.flow fun α1 H1 S1 d v st1 p1 h1 => h1 α1 H1 σ (Ext.refl _ _) st1.rs st1.re
theorem ok_ret (he : PE X e (eT X M W ma)) : PS X (.Return (some e) pos) (fT X M W fun E S => flow (ma E S) fun d S => .ret d S) := by
  refine (ps_ret he).imp fun D σ H ⟨α, E, S, re, rs, h⟩ => ?_
  exact tE_of re rs h.flow fun α1 H1 S1 d v st1 p1 h1 => h1 α1 H1 v (Ext.refl _ _) st1.rs p1
theorem ok_cnd (hc : PT X e (bT X M W mt)) (ha : PSs X ss (fT X M W m)) (hb : PSs X ss2 (fT X M W m2)) : PS X (.If e ss ss2 pos) (fT X M W fun E S => flow (mt E S) fun k S => if k = true then m E S else m2 E S) := by
  refine (ps_if hc ha hb).imp fun D σ H ⟨α, E, S, re, rs, h⟩ => ?_
  refine tT_of re rs h.flow fun α1 H1 S1 k st1 h1 => ?_
  cases k with
  | true => exact ⟨α1, E, S1, st1.re, st1.rs, h1⟩
  | false => exact ⟨α1, E, S1, st1.re, st1.rs, h1⟩
theorem ok_brk : PS X (.Break pos) (fT X M W fun E S => .brk E S) := ps_break.imp fun D σ H ⟨α, E, S, re, rs, h⟩ => h α H σ (Ext.refl _ _) rs re
theorem ok_par {i j : Nat} {x y : Str} {px py pt : Pos} {kt' k2 pt2} (hc : X.calm = true) (hN : X.N.Nodup) (hi : X.N[i]? = some x) (hj : X.N[j]? = some y) (hij : i ≠ j)
    (hx : X.env.scope.names.lookup x = some .local) (hy : X.env.scope.names.lookup y = some .local) (ha : PE X a (eT X M W ma)) (hb : PE X b (eT X M W mb)) (hn : starEach [a, b] X.env = (false, eval a X.env) :: starEach [b] X.env) (hn2 : starEach [b] X.env = (false, eval b X.env) :: starEach [] X.env)
    (hw : swappedStores [.Tuple [.Name x px, .Name y py] kt' pt] (.Tuple [a, b] k2 pt2) X.env = pure (some [x, y])) :
    PS X (.Assign [.Tuple [.Name x px, .Name y py] kt' pt] (.Tuple [a, b] k2 pt2) pos) (fT X M W fun E S => flow (ma E S) fun x S => flow (mb E S) fun y S => .next ((E.set i (some x)).set j (some y)) S) := by
  refine (ps_par hc hN hi hj hij hx hy (pa_cons ha (pa_cons hb pa_nil hn2) hn) hw).imp fun D σ H ⟨α, E, S, re, rs, h⟩ => ?_
  refine tE_of re rs h.flow fun α1 H1 S1 d v st1 p1 h1 => ?_
  refine tE_of st1.re st1.rs h1.flow fun α2 H2 S2 d2 u st2 p2 h2 => ?_
  exact ⟨v, u, rfl, h2 α2 H2 _ (Ext.refl _ _) st2.rs ((st2.re.set i (Rep.mono st2.ext _ _ p1)).set j p2)⟩
theorem ok_subA {o i : Expr} {mo mi : Env → Sto → Res D} (ho : PE X o (eT X M W mo)) (hi : PE X i (eT X M W mi)) (he : PE X e (eT X M W ma)) (hs : swapsWithSole [.Subscript o i p] e pos.line X.env = pure false) (hw : swappedStores [.Subscript o i p] e X.env = pure none)
    (ha : ∀ v, assign (.Subscript o i p) X.env v = (do
      let ov ← holding [v] (eval o X.env)
      let iv ← holding [v, ov] (eval i X.env)
      standAt p
      holding [v, ov, iv] (setItem ov iv v)
      release [v, ov, iv] [])) :
    PS X (.Assign [.Subscript o i p] e pos) (fT X M W fun E S => flow (ma E S) fun d S => flow (mo E S) fun x S => flow (mi E S) fun y S => match subop x y d S with
      | some S => .next E S
      | none => .bad) := by
  refine (ps_asg he (pg_sub ho hi set_list ha) hs hw).imp fun D σ H ⟨α, E, S, re, rs, h⟩ => ?_
  refine tE_of re rs h.flow fun α1 H1 S1 d v st1 p1 h1 => ?_
  refine tE_of st1.re st1.rs h1.flow fun α2 H2 S2 x u st2 p2 h2 => ?_
  refine tE_of st2.re st2.rs h2.flow fun α3 H3 S3 y w st3 p3 h3 => ?_
  have p1 := Rep.mono (st2.ext.trans st3.ext) _ _ p1
  have p2 := Rep.mono st3.ext _ _ p2
  split at h3
  · rename_i S4 hs4
    unfold subop at hs4
    split at hs4
    · split at hs4
      · rename_i n k xs hxs
        rw [Option.map_eq_some_iff] at hs4
        obtain ⟨j, hj, rfl⟩ := hs4
        obtain ⟨l, vs, rfl, el, t, r⟩ := st3.rs.lst p2 hxs
        rw [rep_int p3]
        exact ⟨l, vs, _, j, rfl, rfl, t, by rw [r.length]; exact hj, h3 α3 _ σ (Ext.write el t) (st3.rs.write el (r.set j p1)) (st3.re.mono (Ext.write el t))⟩
      · cases hs4
    · cases hs4
  · exact h3.elim
theorem ok_whl (hp : PassesOwn (model X.prog X.w) X.A X.env X.xe) (hc : PT X e (bT X M W mt)) (hb : PSs X ss (fT X M W m)) : PS X (.While e ss [] pos) (fT X M W fun E S => whAll mt m E S) := by
  refine (ps_while hp hc hb).imp fun D σ H ⟨α, E, S, re, rs, h⟩ => ?_
  have h : EndF (kt X M) W α H (whAll mt m E S) D := h
  unfold whAll at h
  split at h
  · rename_i hex
    refine ⟨fun n σ1 H1 => ∃ α1 E1 S1 f, RelE (kt X M) α1 H1 E1 σ1 ∧ RelS (kt X M) α1 H1 S1 ∧ whGo mt m n E1 S1 = some f ∧ EndF (kt X M) W α1 H1 f D, ⟨hex.choose, α, E, S, _, re, rs, hex.choose_spec.choose_spec, h⟩, ?_⟩
    rintro n σ1 H1 ⟨α1, E1, S1, f, re1, rs1, hf, h1⟩
    cases n with
    | zero => cases hf
    | succ n =>
      unfold whGo at hf
      have key : EndG (kt X M) W α1 H1 (mt E1 S1) fun k S2 α2 H2 => if k = true then ∃ f', (match m E1 S2 with
          | .next E2 S2 => whGo mt m n E2 S2
          | .brk E2 S2 => some (.next E2 S2)
          | .ret d S2 => some (.ret d S2)
          | .exc x S2 => some (.exc x S2)
          | .bad => some .bad) = some f' ∧ EndF (kt X M) W α2 H2 f' D else EndF (kt X M) W α2 H2 (.next E1 S2) D := by
        split at hf
        · rename_i hm
          rw [hm]
          cases hf
          exact fun a b e r => by show (if false = true then _ else _); rw [if_neg (by simp)]; exact EndF.onward h1 e
        · rename_i hm
          rw [hm]
          exact fun a b e r => by show (if true = true then _ else _); rw [if_pos rfl]; exact ⟨f, hf, EndF.onward h1 e⟩
        · rename_i hm
          rw [hm]
          cases hf
          exact h1
        · cases hf
          exact h1.elim
      refine tT_of re1 rs1 key fun α2 H2 S2 k st2 h2 => ?_
      cases k with
      | false =>
        rw [if_neg (by simp)] at h2 ⊢
        exact h2 α2 H2 σ1 (Ext.refl _ _) st2.rs st2.re
      | true =>
        rw [if_pos rfl] at h2 ⊢
        obtain ⟨f', hf', h2⟩ := h2
        refine ⟨fun σ' H' => ∃ α1 E1 S1 f, RelE (kt X M) α1 H' E1 σ' ∧ RelS (kt X M) α1 H' S1 ∧ whGo mt m n E1 S1 = some f ∧ EndF (kt X M) W α1 H' f D, fun σ' H' hh => ⟨n, Nat.lt_succ_self n, hh⟩, α2, E1, S2, st2.re, st2.rs, ?_⟩
        cases hm : m E1 S2 with
        | next E2 S3 =>
          rw [hm] at hf'
          exact fun a b c e r re => ⟨a, E2, S3, f', re, r, hf', h2.onward e⟩
        | brk E2 S3 =>
          rw [hm] at hf'
          cases hf'
          exact h2
        | ret d S3 =>
          rw [hm] at hf'
          cases hf'
          exact h2
        | exc x S3 =>
          rw [hm] at hf'
          cases hf'
          exact h2
        | bad =>
          rw [hm] at hf'
          cases hf'
          exact h2
  · exact h.elim
theorem ok_rep {t : Tg} {mi : Env → Sto → Res Walk} (hp : PassesOwn (model X.prog X.w) X.A X.env X.xe) (hc : X.calm = true) (hi : PI X tg e (iT X M W mi)) (hg : PG X tg (gT (kt X M) t.sl t.put)) (hb : PSs X ss (fT X M W m))
    (hs : ∀ x, foldedSetIterable e X.env x = pure x) : PS X (.For tg e ss [] pos) (fT X M W fun E S => flow (mi E S) fun w S => forGo w.2 (fun x E => t.put x E) m w.1 E S) := by
  refine (ps_for hp hc hi hg hb hs).imp fun D σ H ⟨α, E, S, re, rs, h⟩ => ?_
  refine ⟨α, E, S, re, rs, h.flow.mono fun w S1 α1 H1 e1 rs1 h1 J hJ => ?_⟩
  refine ⟨fun i n σ2 H2 => n = w.1.length - i ∧ i ≤ w.1.length ∧ ∃ α2 E2 S2, Ext α1 H1 α2 H2 ∧ RelE (kt X M) α2 H2 E2 σ2 ∧ RelS (kt X M) α2 H2 S2 ∧ EndF (kt X M) W α2 H2 (forGo w.2 (fun x E => t.put x E) m (w.1.drop i) E2 S2) D,
    ⟨w.1.length, by simp, Nat.zero_le _, α1, E, S1, Ext.refl _ _, re.mono e1, rs1, by rw [List.drop_zero]; exact h1⟩, ?_⟩
  rintro i n σ2 H2 ⟨rfl, hi, α2, E2, S2, e2, re2, rs2, h2⟩
  by_cases hlt : i < w.1.length
  · have hd : w.1[i]? = some w.1[i] := List.getElem?_eq_getElem hlt
    rw [List.drop_eq_getElem_cons hlt] at h2
    simp only [forGo] at h2
    by_cases st : Stands w.2 S2
    rotate_left
    · rw [tst_neg st] at h2; exact h2.elim
    rw [tst_pos st] at h2
    obtain ⟨go, yld⟩ := hJ.at_ α2 H2 S2 e2 rs2 st i _ hd
    refine .inr ⟨go, fun σ' H' => i + 1 ≤ w.1.length ∧ ∃ α3 E3 S3, Ext α1 H1 α3 H' ∧ RelE (kt X M) α3 H' E3 σ' ∧ RelS (kt X M) α3 H' S3 ∧ EndF (kt X M) W α3 H' (forGo w.2 (fun x E => t.put x E) m (w.1.drop (i + 1)) E3 S3) D, fun σ' H' ⟨z1, z2⟩ => ⟨w.1.length - (i + 1), by omega, rfl, z1, z2⟩, fun x H' y => ?_⟩
    obtain ⟨ey, rsy, ry⟩ := yld x H' y
    split at h2
    · exact h2.elim
    · rename_i E3 hput
      refine ⟨α2, E2, S2, w.1[i], E3, re2.mono ey, rsy, ry, hput, fun σ' re' _ => ⟨α2, E3, S2, re', rsy, ?_⟩⟩
      cases hm : m E3 S2 with
      | next E4 S4 =>
        rw [hm] at h2
        exact fun a b c e r re => ⟨hlt, a, E4, S4, e2.trans (ey.trans e), re, r, h2.onward (ey.trans e)⟩
      | brk E4 S4 =>
        rw [hm] at h2
        exact h2.onward ey
      | ret d S4 =>
        rw [hm] at h2
        exact h2.onward ey
      | exc z S4 =>
        rw [hm] at h2
        exact h2.onward ey
      | bad =>
        rw [hm] at h2
        exact h2
  · have e : i = w.1.length := by omega
    subst e
    rw [List.drop_length] at h2
    simp only [forGo] at h2
    by_cases st : Stands w.2 S2
    rotate_left
    · rw [tst_neg st] at h2; exact h2.elim
    rw [tst_pos st] at h2
    exact .inl ⟨hJ.stop α2 H2 S2 e2 rs2 st _ (Nat.le_refl _), h2 α2 H2 σ2 (Ext.refl _ _) rs2 re2⟩
end
end Py
set_option Elab.async false
set_option linter.all false
set_option maxRecDepth 100000
set_option maxHeartbeats 1000000
/-! A text is held against the program's: when it says yes, the program does what our language says. -/
namespace Py
open PySem PySem.Spec PyProof.Rows L2
/-! ### what an expression is made of -/
def vName : Expr → Option Str
  | .Name x _ => some x
  | _ => none
def vCon : Expr → Option Const
  | .Constant c _ _ => some c
  | _ => none
def vBin : Expr → Option (Expr × Operator × Expr)
  | .BinOp a o b _ => some (a, o, b)
  | _ => none
def vUn : Expr → Option (UnaryOp × Expr)
  | .UnaryOp o a _ => some (o, a)
  | _ => none
def vCmp : Expr → Option (Expr × CmpOp × Expr)
  | .Compare a [o] [b] _ => some (a, o, b)
  | _ => none
def vChn : Expr → Option (Expr × CmpOp × CmpOp × Expr × Expr)
  | .Compare a [o, o'] [b, c] _ => some (a, o, o', b, c)
  | _ => none
def vBool : Expr → Option (BoolOp × Expr × Expr × List Expr × Pos)
  | .BoolOp o (a :: b :: rest) pos => some (o, a, b, rest, pos)
  | _ => none
def vIf : Expr → Option (Expr × Expr × Expr)
  | .IfExp c a b _ => some (c, a, b)
  | _ => none
def vSub : Expr → Option (Expr × Expr)
  | .Subscript a b _ => some (a, b)
  | _ => none
def vSlice : Expr → Option (Option Expr × Option Expr)
  | .Slice lo hi none _ => some (lo, hi)
  | _ => none
def vCall : Expr → Option (Str × Expr × List Expr)
  | .Call (.Name x _) (e :: es) [] _ => some (x, e, es)
  | _ => none
def vTup : Expr → Option (List Expr)
  | .Tuple es _ _ => some es
  | _ => none
def vLst : Expr → Option (List Expr)
  | .List es _ => some es
  | _ => none
def vMth : Expr → Option (Expr × Str × Pos × List Expr × Pos)
  | .Call (.Attribute o m ap) es [] cp => some (o, m, ap, es, cp)
  | _ => none
def vLc : Expr → Option (Expr × Expr × Expr × List Expr × Scope)
  | .ListComp e [⟨tg, it, ifs, 0⟩] sc _ => some (e, tg, it, ifs, sc)
  | _ => none
def vAtt : Expr → Option (Expr × Str)
  | .Attribute o f _ => some (o, f)
  | _ => none
theorem vName_eq {e : Expr} {x} (h : vName e = some x) : ∃ p, e = .Name x p := by cases e <;> first | (cases h; done) | (cases h; exact ⟨_, rfl⟩)
theorem vCon_eq {e : Expr} {x} (h : vCon e = some x) : ∃ j p, e = .Constant x j p := by cases e <;> first | (cases h; done) | (cases h; exact ⟨_, _, rfl⟩)
theorem vBin_eq {e : Expr} {a o b} (h : vBin e = some (a, o, b)) : ∃ p, e = .BinOp a o b p := by cases e <;> first | (cases h; done) | (cases h; exact ⟨_, rfl⟩)
theorem vUn_eq {e : Expr} {a o} (h : vUn e = some (o, a)) : ∃ p, e = .UnaryOp o a p := by cases e <;> first | (cases h; done) | (cases h; exact ⟨_, rfl⟩)
theorem vCmp_eq {e : Expr} {a o b} (h : vCmp e = some (a, o, b)) : ∃ p, e = .Compare a [o] [b] p := by
  unfold vCmp at h
  split at h
  · cases h; exact ⟨_, rfl⟩
  · cases h
theorem vChn_eq {e : Expr} {a o o' b c} (h : vChn e = some (a, o, o', b, c)) : ∃ p, e = .Compare a [o, o'] [b, c] p := by
  unfold vChn at h
  split at h
  · cases h; exact ⟨_, rfl⟩
  · cases h
theorem vBool_eq {e : Expr} {o a b r p} (h : vBool e = some (o, a, b, r, p)) : e = .BoolOp o (a :: b :: r) p := by
  unfold vBool at h
  split at h
  · cases h; rfl
  · cases h
theorem vIf_eq {e : Expr} {a b c} (h : vIf e = some (a, b, c)) : ∃ p, e = .IfExp a b c p := by cases e <;> first | (cases h; done) | (cases h; exact ⟨_, rfl⟩)
theorem vSub_eq {e : Expr} {a b} (h : vSub e = some (a, b)) : ∃ p, e = .Subscript a b p := by cases e <;> first | (cases h; done) | (cases h; exact ⟨_, rfl⟩)
theorem vSlice_eq {e : Expr} {a b} (h : vSlice e = some (a, b)) : ∃ p, e = .Slice a b none p := by
  unfold vSlice at h
  split at h
  · cases h; exact ⟨_, rfl⟩
  · cases h
theorem vCall_eq {e : Expr} {x a es} (h : vCall e = some (x, a, es)) : ∃ p q, e = .Call (.Name x p) (a :: es) [] q := by
  unfold vCall at h
  split at h
  · cases h; exact ⟨_, _, rfl⟩
  · cases h
theorem vTup_eq {e : Expr} {x} (h : vTup e = some x) : ∃ k p, e = .Tuple x k p := by cases e <;> first | (cases h; done) | (cases h; exact ⟨_, _, rfl⟩)
theorem vLst_eq {e : Expr} {x} (h : vLst e = some x) : ∃ p, e = .List x p := by cases e <;> first | (cases h; done) | (cases h; exact ⟨_, rfl⟩)
theorem vMth_eq {e : Expr} {o m ap es cp} (h : vMth e = some (o, m, ap, es, cp)) : e = .Call (.Attribute o m ap) es [] cp := by
  unfold vMth at h
  split at h
  · cases h; rfl
  · cases h
theorem vLc_eq {e : Expr} {a tg it ifs sc} (h : vLc e = some (a, tg, it, ifs, sc)) : ∃ p, e = .ListComp a [⟨tg, it, ifs, 0⟩] sc p := by
  unfold vLc at h
  split at h
  · cases h; exact ⟨_, rfl⟩
  · cases h
theorem vAtt_eq {e : Expr} {a f} (h : vAtt e = some (a, f)) : ∃ p, e = .Attribute a f p := by cases e <;> first | (cases h; done) | (cases h; exact ⟨_, rfl⟩)
/-! ### small tests of the text -/
def visB (sc : Scope) (x : Str) : Bool := match sc.names.lookup x with
  | some .local => true
  | some .cell => true
  | some .free => true
  | _ => false
def glB (sc : Scope) (x : Str) : Bool := match sc.names.lookup x with
  | some .globalImplicit => true
  | _ => false
def dbgB (x : Str) : Bool := !(x == ("__debug__" : Str)) && !(x == ("__classdict__" : Str))
def noStar : Expr → Bool
  | .Starred _ _ => false
  | _ => true
def noSet : Expr → Bool
  | .Set _ _ _ => false
  | _ => true
def noSlice : Expr → Bool
  | .Slice _ _ _ _ => false
  | _ => true
def noCall0 : Expr → Bool
  | .Call (.Name _ _) [] [] _ => false
  | _ => true
def noComp : Expr → Bool
  | .ListComp _ _ _ _ => false
  | .SetComp _ _ _ _ => false
  | .DictComp _ _ _ _ _ => false
  | _ => true
theorem visB_ok {sc : Scope} {x : Str} (h : visB sc x = true) : Vis sc x := by
  unfold visB at h
  unfold Vis
  split at h
  · exact .inl (by assumption)
  · exact .inr (.inl (by assumption))
  · exact .inr (.inr (by assumption))
  · cases h
theorem glB_ok {sc : Scope} {x : Str} (h : glB sc x = true) : sc.names.lookup x = some .globalImplicit := by
  unfold glB at h
  split at h
  · assumption
  · cases h
theorem dbgB_ok {x : Str} (h : dbgB x = true) : (x == ("__debug__" : Str)) = false ∧ (x == ("__classdict__" : Str)) = false := by
  unfold dbgB at h
  simpa using h
theorem star_cons {x : Expr} {xs : List Expr} {env : PySem.Env} (h : noStar x = true) : starEach (x :: xs) env = (false, eval x env) :: starEach xs env := by
  cases x <;> first
    | exact absurd (show false = true from h) Bool.false_ne_true
    | rfl
theorem star_any {env : PySem.Env} {pos : Pos} : ∀ {xs : List Expr}, xs.all noStar = true → (backTo pos (starEach xs env)).any (·.1) = false
  | [], _ => by rfl
  | x :: xs, h => by
    rw [List.all_cons, Bool.and_eq_true] at h
    rw [star_cons h.1]
    show (false || (backTo pos (starEach xs env)).any (·.1)) = false
    rw [star_any h.2]
    rfl
theorem star_all {env : PySem.Env} {pos : Pos} : ∀ {xs : List Expr}, xs.all noStar = true → (backTo pos (starEach xs env)).all (fun x => !x.1) = true
  | [], _ => by rfl
  | x :: xs, h => by
    rw [List.all_cons, Bool.and_eq_true] at h
    rw [star_cons h.1]
    show (!false && (backTo pos (starEach xs env)).all (fun x => !x.1)) = true
    rw [star_all h.2]
    rfl
theorem plain_ix {b : Expr} (h : noSlice b = true) : PlainIx b := by
  intro o i
  cases b <;> first
    | exact absurd (show false = true from h) Bool.false_ne_true
    | rfl
theorem mark_ok {op : CmpOp} {b : Expr} (h : noSet b = true) : behindInMarks op b = false := by
  cases b <;> first
    | exact absurd (show false = true from h) Bool.false_ne_true
    | rfl
theorem att_base {o : Expr} {f : Str} {env : PySem.Env} (h : noCall0 o = true) : attributeBase o f env (eval o env) = eval o env := by
  unfold attributeBase
  split
  · exact absurd (show false = true from h) Bool.false_ne_true
  · rfl
theorem folded_ok {it : Expr} {env : PySem.Env} (h : noSet it = true) : ∀ x, foldedSetIterable it env x = pure x := by
  intro x
  cases it <;> first
    | exact absurd (show false = true from h) Bool.false_ne_true
    | rfl
theorem swaps_ok {e : Expr} {t : Option Expr} {l : Nat} {env : PySem.Env} (h : noComp e = true) : swapsWith e t l env = pure false := by
  cases e <;> first
    | exact absurd (show false = true from h) Bool.false_ne_true
    | rfl
end Py
set_option Elab.async false
set_option linter.all false
set_option maxRecDepth 100000
set_option maxHeartbeats 2000000
/-! try: .. except X as n: .. where the exception's object is kept; the def that hears a lambda's end. -/
namespace Py
open PySem PySem.Spec PyProof.Rows L2
section
variable {X : Cx} {pins : List (Addr × Obj)} {σ : L2.St} {H : Hp} {s : Shared}
/-- the exception's object becomes one that is tracked -/
theorem adopt {a dd : Addr} {cls : Value} {oe : Obj} {vs : Array Value} (I : Inv X pins σ H s) (ha : s.heap.get? a = some oe) (hz : Zc cls (some dd) oe) (hd : oe.data = .fields vs) (na : H a = none) (n0 : X.s_0.heap.get? a = none)
    (nL : a ≠ X.env.locals) (nC : ∀ x c, X.env.cells.lookup x = some c → c ≠ a) (nP : ∀ p ∈ X.pn ++ pins, p.1 ≠ a) : Inv X pins σ (upd H a (XO a cls dd)) s := by
  have keepH : ∀ b u, H b = some u → upd H a (XO a cls dd) b = some u := fun b u e => by rw [upd_ne (ne_of_none e na)]; exact e
  refine ⟨I.ok, I.os, I.bare, ⟨I.base.keep, I.base.slot, fun b o e n hx => ?_, I.base.there, fun b xs e => keepH _ _ (I.base.tups b xs e), fun b o u e => keepH _ _ (I.base.frzs b o u e), fun b ps e => ?_⟩, I.loc, I.cell, ?_, fun x c e => ?_, fun p hp => ?_, fun b u e => ?_, I.len⟩
  · rw [upd_ne (fun z => by rw [z, n0] at e; cases e)]
    exact I.base.free b o e n hx
  · obtain ⟨more, z⟩ := I.base.tbls b ps e
    exact ⟨more, keepH _ _ z⟩
  · rw [upd_ne (Ne.symm nL)]; exact I.free
  · rw [upd_ne (nC x c e)]; exact I.freeC x c e
  · obtain ⟨z1, z2, z3⟩ := I.pin p hp
    exact ⟨z1, by rw [upd_ne (nP p hp)]; exact z2, z3⟩
  · by_cases hb : b = a
    · subst hb
      rw [upd_same] at e
      cases e
      exact ⟨⟨oe, vs, ha, hz, hd⟩, ⟨oe, ha⟩, fun h1 h2 ⟨o, w, q1, q2, q3⟩ k => ⟨o, w, k _ q1, q2, q3⟩⟩
    · rw [upd_ne hb] at e
      exact (I.hok b u e).stay (fun c w _ q => q) (fun c q => keepH _ _ q) fun c xs q => keepH _ _ q
/-- what an except clause wishes whose exception is kept: c the class, i the name's slot -/
def wKeep (K : PySem.W.Frag) (c : Value) (i : Nat) (ts : Addr → TS) (D : Ends) : WX := fun cls d σ H => PySem.W.exmOne K cls c = some true ∧ ∃ dd, d = some dd ∧ ∀ a, H a = none →
  ts a { nx := fun σ' H' => D.nx (σ'.set i none) H', rt := fun _ _ => False } (σ.set i (some (.ref a))) (upd H a (XO a cls dd))
variable {x n : Str} {c : Value} {i : Nat} {body suite : List Stmt} {b₀ : Stmt} {np pos pos' : Pos} {tb : WX → TS} {ts : Addr → TS}
theorem ps_keep (hs : X.stack = X.env :: X.outer) (hf : X.env.frame = some X.env.locals) (hex : X.ex = []) (hN : X.N.Nodup) (hi : X.N[i]? = some n) (hln : X.env.kindOf n = some .local) (hc : Names X x c)
    (hb : ∀ (W : WX) (pn : List (Addr × Obj)) (xe : Value → Shared → Prop), Takes (X.tr pn xe) W → PSs (X.tr pn xe) body (tb W)) (hsu : ∀ (a : Addr) (pn : List (Addr × Obj)), PSs (X.suite a pn) (b₀ :: suite) (ts a)) :
    PS X (.Try body [.ExceptHandler (some (.Name x np)) (some n) (b₀ :: suite) pos'] [] [] pos) (fun D σ H => tb (wKeep X.K c i ts D) D σ H) := by
  refine ⟨fun pins s σ H D I h => wpAny_Try_except ?_⟩
  have hok := I.ok
  have hfr : X.A.frames = some (X.env :: X.outer) := hok.frames.trans (congrArg some hs)
  have took : Takes (X.tr (X.pn ++ pins) fun e s₁ => wpAny (model X.prog X.w) X.A (noteFrame e X.env) (fun _ s₂ => wpAny (model X.prog X.w) X.A (setFlight e none) (fun _ s₃ =>
      wpAny (model X.prog X.w) X.A (handleBy e X.env [.ExceptHandler (some (.Name x np)) (some n) (b₀ :: suite) pos']) (SP X pins D) X.xe s₃) X.xe s₂) X.xe s₁) (wKeep X.K c i ts D) := by
    rintro u s' ⟨a, B, sI, pins', σ', H', cls, d, rfl, JI, nb, up, sky, na, os, ag, hm, dd, rfl, hyes⟩
    have JJ : Inv X pins σ' H' sI := JI.ofTry hok
    refine Sky.land Zc.steady hfr hf (show Sky B (X.env :: X.outer) a (Zc cls (some dd)) X.env.locals s'.heap from hs ▸ sky) fun h3 fl3 up3 => ?_
    have J3 : Inv X pins σ' H' { s' with heap := h3 } := JJ.landed nb fl3.1 (up.trans up3) os ag
    obtain ⟨oe3, vs3, he3, hz3, hd3⟩ := fl3.there
    have nfr : a ∉ frs (X.env :: X.outer) := fun hm => by
      obtain ⟨_, o', e', hnf⟩ := fl3.2.2.1.mem hm
      rw [he3] at e'
      cases e'
      exact hnf _ hd3
    have nL : a ≠ X.env.locals := fun z => nfr (List.mem_filterMap.mpr ⟨X.env, List.mem_cons_self, by rw [hf, z]⟩)
    -- it was not there when the body began
    have newI : sI.heap.get? a = none := by
      cases q : sI.heap.get? a with
      | none => rfl
      | some o =>
        have z := nb a o q (by rw [show (X.tr (X.pn ++ pins) _).stack = X.stack from rfl, hs]; exact nfr)
        rw [fl3.2.1] at z
        cases z
    have new0 : X.s_0.heap.get? a = none := by
      cases q : X.s_0.heap.get? a with
      | none => rfl
      | some o =>
        obtain ⟨o', e'⟩ := JJ.base.there a o q (by rw [hex]; simp)
        rw [newI] at e'
        cases e'
    have nC : ∀ y c', X.env.cells.lookup y = some c' → c' ≠ a := fun y c' e z => by
      obtain ⟨v, o, ho, _⟩ := JJ.cell y c' e
      rw [z, newI] at ho
      cases ho
    have nP : ∀ p ∈ X.pn ++ pins, p.1 ≠ a := fun p hp z => by
      have q := (JJ.pin p hp).1
      rw [z, newI] at q
      cases q
    -- the state with the object tracked, as the suite sees it
    have inS : ∀ {h4 : Heap} {oe4 : Obj} {vs4 : Array Value}, Inv X pins σ' H' { s' with heap := h4 } → h4.get? a = some oe4 → Zc cls (some dd) oe4 → oe4.data = .fields vs4 → Inv (X.suite a (X.pn ++ pins)) [] σ' (upd H' a (XO a cls dd)) { s' with heap := h4 } := fun {h4 oe4 vs4} J4 e1 e2 e3 => by
      have Z := adopt J4 e1 e2 e3 na new0 nL nC nP
      exact ⟨Z.ok.suite _ _, Z.os, Z.bare, Z.base, Z.loc, Z.cell, Z.free, Z.freeC, fun p hp => Z.pin p (by rw [List.append_nil] at hp; exact hp), Z.hok, Z.len⟩
    have back : ∀ {σ2 : L2.St} {H2 : Hp} {s2 : Shared}, Inv (X.suite a (X.pn ++ pins)) [] σ2 H2 s2 → Inv X pins σ2 H2 s2 := fun {σ2 H2 s2} Z =>
      ⟨hok, Z.os, Z.bare, Z.base, Z.loc, Z.cell, Z.free, Z.freeC, fun p hp => Z.pin p (List.mem_append_left _ hp), Z.hok, Z.len⟩
    have S3 := inS J3 he3 hz3 hd3
    refine wpAny_handleBy_cons (codeAny_handlers_test ?_) (by intro q; cases q)
    have LT : PySem.W.Looks (model X.prog X.w) h3 (typeOf (.ref a)) cls := fun A Q E s k q => wpAny_typeOf_ref (k _ _ he3) (hz3.1.symm ▸ q)
    have LM := PySem.W.exm_one (M := model X.prog X.w) J3.kIn LT hm
    have asked : ∀ {Q : Value → Shared → Prop} {E : Value → Shared → Prop}, Q c { s' with heap := h3 } → wpAny (model X.prog X.w) (X.A.mark (some (.ref a))) (eval (.Name x np) X.env) Q E { s' with heap := h3 } := fun {Q E} q => by
      rcases hc with ⟨hg, hdb, hm' | ⟨hm', hv, hnn⟩⟩
      · exact ld_glob S3 hg hm' q hdb
      · exact ld_blt S3 hg hm' hv q hnn hdb
    refine asked (LM.here (codeAny_handlers_suite_as (HandSPX.lands_againZ fl3 fun h4 fl4 up4 => ?_)))
    obtain ⟨oe4, vs4, he4, hz4, hd4⟩ := fl4.there
    have S4 := inS (JJ.landed (s' := { s' with heap := h4 }) nb fl4.1 ((up.trans up3).trans up4) os ag) he4 hz4 hd4
    refine store_ok (X := X.suite a (X.pn ++ pins)) (v := .ref a) S4 hN hi (.inl hln) rfl (fun s5 S5 => ?_) (.inr hln)
    refine wpAny_mono ((hsu a (X.pn ++ pins)).run [] s5 _ _ _ S5 (hyes a na)) (fun f s6 hsp => ?_) (fun _ _ z => False.elim z)
    cases f with
    | next =>
      obtain ⟨σ6, H6, S6, q6⟩ := hsp
      exact gone_ok (back S6) hN hi hln fun s7 J7 => ⟨_, _, J7, q6⟩
    | brk => obtain ⟨_, _, _, q6⟩ := hsp; exact False.elim q6
    | cont => obtain ⟨_, _, _, q6⟩ := hsp; exact False.elim q6
    | ret u => obtain ⟨_, _, _, _, _, q6⟩ := hsp; exact False.elim q6
  refine wpAny_mono ((hb (wKeep X.K c i ts D) (X.pn ++ pins) _ took).run [] s σ H D (I.toTry _) h) (fun f s1 hsp => ?_) fun e s1 he => he
  cases f with
  | next => obtain ⟨σ', H', J', q⟩ := hsp; exact wpAny_execs_nil ⟨σ', H', J'.ofTry hok, q⟩
  | brk => obtain ⟨σ', H', J', q⟩ := hsp; exact ⟨σ', H', J'.ofTry hok, q⟩
  | cont => obtain ⟨σ', H', J', q⟩ := hsp; exact ⟨σ', H', J'.ofTry hok, q⟩
  | ret u => obtain ⟨v, σ', H', J', r, q⟩ := hsp; exact ⟨v, σ', H', J'.ofTry hok, r, q⟩
end

/-! ### swapped stores -/
/-- the names that are stored -/
def swapNames (sc : Scope) (ts : List Expr) : List Str := ts.filterMap fun
  | .Name id pos => if sc.names.lookup id == some .local && pos.line == (ts.head?.map (·.pos.line)).getD 0 then some id else none
  | _ => none
/-- what the storing of a pair asks of the text: none (cannot be told), some none (one behind the other), some names -/
def swapOf (sc : Scope) (ts vs : List Expr) : Option (Option (List Str)) :=
  if (!(ts.length == 2 || ts.length == 3) || vs.length != ts.length) = true then some none
  else if (vs.any fun | .Starred .. => true | _ => false) = true then some none
  else if ((swapNames sc ts).length != ts.length || (swapNames sc ts).eraseDups.length != (swapNames sc ts).length) = true then some none
  else if vs.all (foldedForSure 8) = true then some none
  else if vs.all (constantsAlone 8) = true then none
  else some (some (swapNames sc ts))
theorem swap_ok {sc : Scope} {ts vs : List Expr} {k k2 : Nat} {p p2 : Pos} {env : PySem.Env} {o : Option (List Str)} (hk : env.scope.kind = .function) (hs : env.scope = sc) (h : swapOf sc ts vs = some o) :
    swappedStores [.Tuple ts k p] (.Tuple vs k2 p2) env = pure o := by
  have hb : env.blockKind = .function := by unfold Env.blockKind; rw [hk]; rfl
  subst hs
  unfold swappedStores
  unfold swapOf at h
  simp only [hb]
  have e0 : (!(ts.length == 2 || ts.length == 3) || vs.length != ts.length || ScopeKind.function != ScopeKind.function) = (!(ts.length == 2 || ts.length == 3) || vs.length != ts.length) := by
    rw [show (ScopeKind.function != ScopeKind.function) = false from rfl, Bool.or_false]
  rw [e0]
  split at h
  · rename_i c; cases h; rw [if_pos c]
  · rename_i c
    rw [if_neg c]
    split at h
    · rename_i c; cases h; exact if_pos c
    · rename_i c
      refine (if_neg c).trans ?_
      split at h
      · rename_i c; cases h; exact if_pos c
      · rename_i c
        refine (if_neg c).trans ?_
        split at h
        · rename_i c; cases h; rw [if_pos c]
        · rename_i c
          rw [if_neg c]
          split at h
          · cases h
          · rename_i c
            cases h
            exact if_neg c
/-! ### a lambda without parameters, handed to a def that calls it in a try -/
section
variable {X : Cx} {pins : List (Addr × Obj)} {σ : L2.St} {H : Hp} {s : Shared}
/-- the context of the def that got it -/
abbrev inG (X : Cx) (Ng : List Str) (qg : Str) (sg : Scope) (g : Addr) (cdg : Value) (s : Shared) (H : Hp) : Cx := cxOf C8.CX0 X.prog X.w X.K X.mg X.base Ng qg sg g cdg X.A X.stack s H C8.E0
/-- a(), where slot 0 holds the lambda; what it lets out is told with the slots as they are -/
theorem act_ok {Ng : List Str} {qg : Str} {sg : Scope} {g f c' : Addr} {cdg pm ctv : Value} {params : Arguments} {body : Expr} {scope : Scope} {k : Nat} {a : Str} {pn : List (Addr × Obj)} {xe : Value → Shared → Prop} {W : WX} {tb : XK → TE} {p1 p2 : Pos}
    (I : Inv X pins σ H s) (L : LamX.LamS X.env.scope scope) (hf : s.heap.get? f = some (PySem.W.kla_obj "<lambda>" (X.env.qual ++ "<lambda>") params body scope (cloFrom X.env.cells scope.names []) pm c' ctv)) (hfn : H f = none) (hfr : f ∉ frs X.stack)
    (hbind : bindArgs (PySem.W.kla_fn "<lambda>" (X.env.qual ++ "<lambda>") params body scope (cloFrom X.env.cells scope.names []) pm (.ref c') ctv) ⟨[], []⟩ = pure []) (tk : Takes ((inG X Ng qg sg g cdg s H).tr pn xe) W)
    (hr : Room (k + 1) (X.A.deeper (envOfC qg sg s.heap.objs.size g cdg))) (hbody : ∀ (E : XK) (A : Around) (outer : List PySem.Env) (s : Shared) (H : Hp), Room k (A.deeper (LamX.lamEnv X scope s.heap.objs.size f c')) → PE (LamX.lamCx X A outer s H E scope f c') body (tb E))
    (hN : Ng[0]? = some a) (hv : Vis sg a) (hd : (a == ("__debug__" : Str)) = false) (hcd : (a == ("__classdict__" : Str)) = false) :
    PE ((inG X Ng qg sg g cdg s H).tr pn xe) (.Call (.Name a p1) [] [] p2) (fun σZ HZ Q => σZ[0]? = some (some (.ref f)) ∧ HZ c' = some (LamX.CodeO c' (X.env.qual ++ "<lambda>")) ∧ tb (fun cls d H1 => W cls d σZ H1) σ HZ Q) := by
  refine ⟨fun pinsZ sZ σZ HZ Q IZ ⟨hs, hc, ht⟩ => ?_⟩
  have name : PE ((inG X Ng qg sg g cdg s H).tr pn xe) (.Name a p1) (tVar 0) := pe_var hN hv hd hcd
  refine wpAny_Call_Name_kw (thn (name.run pinsZ sZ σZ HZ (fun v H1 => v = .ref f ∧ H1 = HZ) IZ ⟨.ref f, hs, rfl, rfl⟩) fun u s1 ⟨v, H1, I1, r1, ev, eH⟩ => ?_)
  subst ev
  subst eH
  obtain rfl : u = Value.ref f := r1
  have at1 : s1.heap.get? f = some (PySem.W.kla_obj "<lambda>" (X.env.qual ++ "<lambda>") params body scope (cloFrom X.env.cells scope.names []) pm c' ctv) := I1.base.keep f _ hf hfn hfr (fun z => absurd (show f ∈ ([] : List Addr) from z) (by simp))
  obtain ⟨⟨oc, vs, t, hoc, hdc, hvc⟩, _, _⟩ := I1.hok c' _ hc
  refine PySem.W.callWith_F0 ⟨_, _, _, _, at1⟩ ?_
  have ran : codeAny (model X.prog X.w) (X.A.deeper (envOfC qg sg s.heap.objs.size g cdg)) (.call (.ref f) ⟨[], []⟩) (CR (L2.CX X.prog X.w) (envOfC qg sg s.heap.objs.size g cdg :: X.stack) X.prog X.w H1 s1 Q (fun cls d H2 => W cls d σZ H2)) s1 := by
    refine PySem.W.kla_callFunE hr.depth at1 rfl L.co L.gen rfl ⟨c', oc, vs, t, rfl, hoc, hdc, hvc⟩ ?_
    rw [hbind]
    refine wpAny_pure (wpAny_newFunctionEnv (fun y hy => (L.own y hy).2) (fun y hy => absurd hy (by simp)) (fun h₁ hns hsb => ⟨I1.nolimit.fresh _ hsb, ?_⟩) L.kind)
    have kp : ∀ b o, s1.heap.get? b = some o → h₁.get? b = some o := fun b o e => hsb.extBut b o (Nat.ne_of_lt (Heap.lt_size e)) (Heap.get?_push_of_some _ e)
    have J : Inv (LamX.lamCx X (X.A.deeper (envOfC qg sg s.heap.objs.size g cdg)) (envOfC qg sg s.heap.objs.size g cdg :: X.stack) s1 H1 (fun cls d H2 => W cls d σZ H2) scope f c') [] σ H1 { s1 with heap := h₁, toks := s1.toks + ([] : List (Str × Value)).length } :=
      LamX.lam_start2 I L I1.env0 hr.hd I1.base hns kp
    refine PySem.W.kla_codeExpr (wpAny_mono ((hbody _ _ _ s1 H1 (hr.deeper _)).run [] _ _ H1 Q J ht) (fun v s' ⟨w', H', J', rv, q⟩ => ?_) fun e s' hq => hq)
    exact ⟨w', H', J'.os, J'.bare, J'.base, J'.hok, rv, q⟩
  refine wpAny_call (codeAny_mono ran fun r s' hq => ?_)
  cases r with
  | error e => exact tk e s' (XE.of_call I1 (fun cls d H2 h => h) hq)
  | ok fl =>
    cases fl with
    | ret u => exact I1.after hq
    | next => exact False.elim hq
    | brk => exact False.elim hq
    | cont => exact False.elim hq
end
/-- what the def makes of the lambda's reading: (None, value) or (exception, None) -/
def TTh (K : PySem.W.Frag) (CS : Value) : (XK → Hp → VK → Prop) → Hp → VK → Prop := fun tl H Q => ∀ p0, H p0 = none → ∀ (E1 : XK) (Q1 : VK),
  (∀ cls d H1, (PySem.W.exmOne K cls CS = some true ∧ ∃ dd, d = some dd ∧ ∀ a, H1 a = none → ∀ p, upd H1 a (XO a cls dd) p = none → Q (.ref p) (upd (upd H1 a (XO a cls dd)) p (.tup [.ref a, .non]))) → E1 cls d H1) →
  (∀ v H1, (∀ p, H1 p = none → Q (.ref p) (upd H1 p (.tup [.non, v]))) → Q1 v H1) → tl E1 (upd H p0 (.tup [.non, .non])) Q1
/-- the text of that def: its names (what it got, the two it returns, the exception's), the class that it asks for -/
def vHear : List Stmt → Option (Str × Str × Str × Str)
  | [.Assign [.Tuple [.Name c1 _, .Name c2 _] _ _] (.Tuple [.Constant .none _ _, .Constant .none _ _] _ _) _,
      .Try [.Assign [.Name d2 _] (.Call (.Name a _) [] [] _) _] [.ExceptHandler (some (.Name e _)) (some n) [.Assign [.Name d1 _] (.Name n' _) _] _] [] [] _,
      .Return (some (.Tuple [.Name b1 _, .Name b2 _] _ _)) _] => if c1 = d1 ∧ c1 = b1 ∧ c2 = d2 ∧ c2 = b2 ∧ n = n' ∧ a = "call" ∧ c1 = "caught" ∧ c2 = "back" ∧ n = "error" then some (c1, c2, n, e) else none
  | _ => none
section
variable {X : Cx} {pins : List (Addr × Obj)} {σ : L2.St} {H : Hp} {s : Shared}
abbrev hearN4 : List Str := ["call", "caught", "back", "error"]
theorem hear_body {bg : List Stmt} {v1 v2 v3 : Str} {x e q : Str} {sg : Scope} {g f c' : Addr} {cdg CS : Value} {Q : VK} {tl : XK → Hp → VK → Prop} (hv : vHear bg = some (v1, v2, v3, e)) (hk : sg.kind = .function) (hl : ∀ y ∈ hearN4, sg.names.lookup y = some .local)
    (hge : sg.names.lookup e = some .globalImplicit) (hme : X.mg e = some CS) (hde : (e == ("__debug__" : Str)) = false)
    (act : ∀ (W : WX) (pn : List (Addr × Obj)) (xe : Value → Shared → Prop) (p1 p2 : Pos), Takes ((inG X hearN4 x sg g cdg s H).tr pn xe) W →
      PE ((inG X hearN4 x sg g cdg s H).tr pn xe) (.Call (.Name "call" p1) [] [] p2) (fun σZ HZ Q => σZ[0]? = some (some (.ref f)) ∧ HZ c' = some (LamX.CodeO c' q) ∧ tl (fun cls d H1 => W cls d σZ H1) HZ Q))
    (hc : H c' = some (LamX.CodeO c' q)) (h : TTh X.K CS tl H Q) : ∃ t, PSs (inG X hearN4 x sg g cdg s H).nox bg t ∧ t { nx := fun _ H' => Q .non H', rt := Q } (L2.start hearN4 [.ref f]) H := by
  unfold vHear at hv
  split at hv
  rotate_left
  · cases hv
  split at hv
  rotate_left
  · cases hv
  rename_i c1 p1 c2 p2 k1 p3 j1 p4 j2 p5 k2 p6 p7 d2 p8 a p9 p10 p11 e' p12 n d1 p13 n' p14 p15 p16 p17 b1 p18 b2 p19 k3 p20 p21 hz
  obtain ⟨rfl, rfl, rfl, rfl, rfl, rfl, rfl, rfl, rfl⟩ := hz
  cases hv
  have nd : hearN4.Nodup := by decide +kernel
  have l1 := hl "caught" (by simp)
  have l2 := hl "back" (by simp)
  have ln := hl "error" (by simp)
  have hsw : swapOf sg [.Name "caught" p1, .Name "back" p2] [.Constant .none j1 p4, .Constant .none j2 p5] = some none := by
    unfold swapOf
    rw [if_neg (by simp), if_neg (by simp)]
    split
    · rfl
    · rw [if_pos (by simp [foldedForSure])]
  refine ⟨_, pss_cons (X := (inG X hearN4 x sg g cdg s H).nox) (ps_asg (pe_tup (pa_cons pe_non (pa_cons pe_non pa_nil))) (pg_tup (n := 2) rfl (pgs_cons (pg_name (i := 1) nd rfl (.inl l1)) (pgs_cons (pg_name (i := 2) nd rfl (.inl l2)) pgs_nil))) rfl (swap_ok (sc := sg) hk rfl hsw))
    (pss_cons (ps_keep (i := 3) (c := CS) (tb := fun W D σ H => σ[0]? = some (some (.ref f)) ∧ H c' = some (LamX.CodeO c' q) ∧ tl (fun cls d H1 => W cls d σ H1) H (fun v H1 => D.nx (σ.set 2 (some v)) H1))
        (ts := fun _ => tAsg (tVar 3) (gName 1)) rfl rfl rfl nd rfl ln ⟨hge, hde, .inl hme⟩ (fun W pn xe tk => ?_) fun a' pn => pss_one (ps_set (i := 1) nd rfl (.inl l1) (pe_var (i := 3) rfl (.inl ln))))
      (pss_one (ps_ret (pe_tup (pa_cons (pe_var (i := 1) rfl (.inl l1)) (pa_cons (pe_var (i := 2) rfl (.inl l2)) pa_nil)))))), ?_⟩
  · refine ⟨fun pins s' σ H' D I hh => ?_⟩
    exact (pss_one (ps_set (pos := p11) (pos' := p8) (i := 2) nd rfl (.inl l2) (act W pn xe p9 p10 tk))).run pins s' σ H' D I hh
  · refine ⟨by show 2 ≤ sizeLine; decide, fun p0 hp0 => ⟨p0, [.non, .non], rfl, SqT.of upd_same, rfl, .non, [.non], rfl, .non, [], rfl, rfl, ?_⟩⟩
    refine ⟨rfl, by rw [upd_ne (ne_of_none hc hp0)]; exact hc, h p0 hp0 _ _ (fun cls d H1 hE => ?_) fun v H1 hQ => ?_⟩
    · obtain ⟨h1, dd, rfl, h2⟩ := hE
      refine ⟨h1, dd, rfl, fun a ha => ⟨.ref a, rfl, ?_⟩⟩
      exact ⟨.ref a, rfl, .non, rfl, by show 2 ≤ sizeLine; decide, fun p hp => h2 a ha p hp⟩
    · exact ⟨.non, rfl, v, rfl, by show 2 ≤ sizeLine; decide, fun p hp => hQ p hp⟩
/-- what is known of that def -/
def HearK (K : PySem.W.Frag) (mg : Str → Option Value) (x : Str) (CS : Value) : Prop := ∃ (g : Addr) (pg : Arguments) (bg : List Stmt) (sg : Scope) (dV kV doc pm cdv ct oc : Value) (an od : Option Addr) (osl : Array (Option Value)) (v1 v2 v3 e : Str), mg x = some (.ref g) ∧ PySem.W.keepIn K (.ref g) = true ∧
    K.lookup g = some ⟨oc, od, .func (PySem.W.fnOf x x pg bg sg dV kV doc pm an cdv ct), osl⟩ ∧ PySem.W.codeIn K cdv x = true ∧ L2.Binds K (PySem.W.fnOf x x pg bg sg dV kV doc pm an cdv ct) ["call"] [] ∧ FnScope hearN4 ["call"] sg ∧
    vHear bg = some (v1, v2, v3, e) ∧ (∀ y ∈ hearN4, sg.names.lookup y = some .local) ∧ sg.names.lookup e = some .globalImplicit ∧ mg e = some CS ∧ (e == ("__debug__" : Str)) = false
structure HearF (X : Cx) (x : Str) (CS : Value) : Prop where
  ex : HearK X.K X.mg x CS
/-- x(lambda: body) -/
theorem pe_hear {T : List (Addr × Str)} {x : Str} {CS : Value} {c P : Addr} {k : Nat} {params : Arguments} {body : Expr} {scope : Scope} {t : XK → TE} {p lpos pos : Pos} (F : HearF X x CS) (hg : Gl X x) (hdb : (x == ("__debug__" : Str)) = false)
    (TB : LamX.TabB X.base X.mg c P) (hcode : X.env.code = .ref c) (hmT : (P, X.env.qual ++ "<lambda>") ∈ T) (hu : ∀ p ∈ T, p.1 = P → p.2 = X.env.qual ++ "<lambda>") (hr : Room (k + 2) X.A) (L : LamX.LamS X.env.scope scope) (hdef : defaultsOf params X.env = ([], []))
    (hbind : ∀ (q : Str) (cl : List (Str × Addr)) (pm cv ctv : Value), bindArgs (PySem.W.kla_fn "<lambda>" q params body scope cl pm cv ctv) ⟨[], []⟩ = pure [])
    (hbody : ∀ (A : Around) (outer : List PySem.Env) (s : Shared) (H : Hp) (E : XK) (f c' : Addr), Room k (A.deeper (LamX.lamEnv X scope s.heap.objs.size f c')) → PE (LamX.lamCx X A outer s H E scope f c') body (t E)) :
    PE X (.Call (.Name x p) [.Lambda params body scope lpos] [] pos) (LamX.tLam T (TTh X.K CS) t) := by
  obtain ⟨g, pg, bg, sg, dV, kV, doc, pm, cdv, ct, oc, an, od, osl, v1, v2, v3, e, hm, hk, lk, hcg, hb, Sg, hv, hl, hge, hme, hde⟩ := F.ex
  refine ⟨fun pins s σ H Q I ⟨hT, h⟩ => ?_⟩
  refine wpAny_Call_Name_kw (ld_glob I hg hm (PySem.W.callWith_K (h₀ := X.base) I.ok.mod.kin hk ?_ (by rfl) (by rfl)) hdb)
  refine Calls.spliced_cons (LamX.lam_make2 I TB hcode hmT hu hT hdef (L.has I.ok) fun f c' pm' ctv H1 s' I1 eN T1 hf hfn hfr hco => Calls.spliced_nil ⟨I1.kIn, ?_⟩)
  have ran : codeAny (model X.prog X.w) X.A (.call (.ref g) ⟨[.ref f], []⟩) (CR C8.CX0 X.stack X.prog X.w H1 s' Q C8.E0) s' := by
    refine LamX.run_ofS (N := hearN4) (ps := ["call"]) (us := [.ref f]) (vs := [.ref f]) lk hcg Sg hr I1.env0 (hb s' [.ref f] I1.kIn rfl) (.cons rfl .nil) rfl fun hr' => ?_
    obtain ⟨t', ht', hq'⟩ := hear_body (X := X) (tl := fun E H' Q' => t E σ H' Q') hv Sg.kind hl hge hme hde (fun W pn xe p1 p2 tk => act_ok (tb := t) I1 L hf hfn hfr (hbind _ _ _ _ _) tk hr' (fun E A outer s H hr2 => hbody A outer s H E f c' hr2) rfl (.inl (hl "call" (by simp))) (by decide) (by decide)) hco (h H1 eN T1)
    exact ⟨t', ht'.nox, hq'⟩
  refine wpAny_call (codeAny_mono ran fun r s2 hq => ?_)
  cases r with
  | error e => exact (show False from hq).elim
  | ok fl =>
    cases fl with
    | ret u => exact I1.after hq
    | next => exact False.elim hq
    | brk => exact False.elim hq
    | cont => exact False.elim hq
end
/-- what the __init__ of the classes of exceptions promises -/
def spIni (K : PySem.W.Frag) : Sp := fun vs H Q _ => ∃ (a C : Addr) (v : V), vs = [.ref a, v] ∧ OexC K C ∧ PySem.W.findIn K (.ref C) "value" = some none ∧ H a = some (exo a C none) ∧ ∀ dx, H dx = none → dx ≠ a → Q .non (upd (upd H dx (exd dx [("value", v)])) a (exo a C (some dx)))
end Py
set_option Elab.async false
set_option linter.all false
set_option maxRecDepth 100000
set_option maxHeartbeats 2000000
/-! Sets of nested tuples of ints. -/
namespace Py.Ns
open PySem PySem.Spec PyProof.Rows L2
/-! ### the keys: numbers, None and tuples of such -/
mutual
def txtless : NestedKey → Bool
  | .text _ => false
  | .tup l => txtlessL l
  | _ => true
def txtlessL : List NestedKey → Bool
  | [] => true
  | y :: l => txtless y && txtlessL l
end
/-- the object at b is the key y -/
structure At (h : Heap) (y : NestedKey) (b : Addr) : Prop where
  nest : NestedIs h y (.ref b)
  deep : y.depth ≤ 8
  num : txtless y = true
section
variable {P : Program} {w : World}
/-- a set that holds v need not ask code of the program's -/
structure Mute (P : Program) (w : World) (s : Shared) (n : Nat) (v : Value) : Prop where
  cls : ∀ A E (Q : Bool → Shared → Prop), Q false s → wpAny (model P w) A (ofAClassStatement n v) Q E s
  val : ∀ A E (Q : Bool → Shared → Prop), Q true s → wpAny (model P w) A (hashByValue n v) Q E s
theorem mute_flat {s : Shared} {v : Value} (h1 : ∀ n, ofAClassStatement n v = pure false) (h2 : ∀ n, hashByValue n v = pure true) (n : Nat) : Mute P w s n v :=
  ⟨fun _ _ _ q => by rw [h1 n]; exact wpAny_pure q, fun _ _ _ q => by rw [h2 n]; exact wpAny_pure q⟩
/-- a loop over values that are all mute leaves all as it is -/
theorem loop_same {A : Around} {E : Value → Shared → Prop} {s : Shared} {R : Value → Prop} (f : Value → Option Bool × Unit → Sem (ForInStep (Option Bool × Unit))) (l : List Value) (hl : ∀ v ∈ l, R v)
    (ht : ∀ v, R v → ∀ Q : ForInStep (Option Bool × Unit) → Shared → Prop, Q (.yield (none, ())) s → wpAny (model P w) A (f v (none, ())) Q E s) {Q : Option Bool × Unit → Shared → Prop} (h : Q (none, ()) s) :
    wpAny (model P w) A (forIn l ((none, ()) : Option Bool × Unit) f) Q E s := by
  induction l with
  | nil => exact wpAny_pure h
  | cons v l ih =>
    rw [List.forIn_cons]
    exact wpAny_bind (ht v (hl v List.mem_cons_self) _ (ih fun u hu => hl u (List.mem_cons_of_mem _ hu)))
theorem mute_tup {s : Shared} {b : Addr} {o : Obj} {vs : Array Value} {m n : Nat} (g : s.heap.get? b = some o) (c : o.cls = .type "tuple") (d : o.data = .seq vs m) (all : ∀ v ∈ vs.toList, Mute P w s n v) : Mute P w s (n + 1) (.ref b) := by
  have ty : s.TypeIs (.ref b) "tuple" := ⟨o, g, c⟩
  constructor
  · intro A E Q q
    unfold ofAClassStatement
    refine wpAny_bind (wpAny_typeOf ty ?_)
    have e : (("tuple" : String) == "tuple") = true := by decide
    simp only [e, if_true, Bool.not_true, Bool.false_eq_true, if_false]
    try refine wpAny_bind (wpAny_pure ?_)
    try simp only [Bool.not_true, Bool.false_eq_true, if_false]
    show wpAny _ _ (seqItems? (.ref b) >>= _) _ _ s
    refine wpAny_bind (wpAny_seqItems g d (wpAny_bind ?_))
    show wpAny _ _ (forIn vs _ _) _ _ s
    rw [← Array.forIn_toList]
    refine loop_same (R := Mute P w s n) _ _ all (fun v hv Q' q' => ?_) ?_
    · exact wpAny_bind (hv.cls _ _ _ (wpAny_pure q'))
    · exact wpAny_pure q
  · intro A E Q q
    unfold hashByValue
    refine wpAny_bind (wpAny_specialOf ty F.slot_tuple_hash.lookup ?_)
    show wpAny _ _ (seqItems? (.ref b) >>= _) _ _ s
    refine wpAny_bind (wpAny_seqItems g d (wpAny_bind ?_))
    show wpAny _ _ (forIn vs _ _) _ _ s
    rw [← Array.forIn_toList]
    refine loop_same (R := Mute P w s n) _ _ all (fun v hv Q' q' => ?_) ?_
    · exact wpAny_bind (hv.val _ _ _ (wpAny_pure q'))
    · exact wpAny_pure q
mutual
theorem mute_key : ∀ (y : NestedKey) (v : Value) (n : Nat) (s : Shared), NestedIs s.heap y v → y.depth ≤ n → txtless y = true → Mute P w s n v
  | .none, _, n, s, x, _, _ => by cases x; exact mute_flat (fun n => by cases n <;> rfl) (fun n => by cases n <;> rfl) n
  | .num i, _, n, s, x, _, _ => by cases x <;> exact mute_flat (fun n => by cases n <;> rfl) (fun n => by cases n <;> rfl) n
  | .text y, _, n, s, x, _, z => by cases z
  | .tup l, _, n, s, x, hn, z => by
    cases x with
    | tup g c d hk =>
      unfold NestedKey.depth at hn
      unfold txtless at z
      match n, hn with
      | 0, hn => omega
      | n + 1, hn => exact mute_tup g c d (mute_keys l _ n s hk (by omega) z)
theorem mute_keys : ∀ (l : List NestedKey) (vs : List Value) (n : Nat) (s : Shared), NestedAll s.heap l vs → NestedKey.depthAll l ≤ n → txtlessL l = true → ∀ v ∈ vs, Mute P w s n v
  | [], _, n, s, x, _, _ => by cases x; exact fun v hv => by cases hv
  | y :: l, _, n, s, x, hn, z => by
    cases x with
    | cons x1 x2 =>
      unfold NestedKey.depthAll at hn
      unfold txtlessL at z
      rw [Bool.and_eq_true] at z
      intro v hv
      rcases List.mem_cons.mp hv with e | e
      · exact e ▸ mute_key y _ n s x1 (by omega) z.1
      · exact mute_keys l _ n s x2 (by omega) z.2 v e
end
end
/-! ### the table and its elements -/
abbrev Elt := Addr × NestedKey
def row (w : World) (p : Elt) : Int × Value := (p.2.hash w, .ref p.1)
def hsh (w : World) (L : List Elt) : List Int := L.map fun p => p.2.hash w
/-- the table t with the entries es keeps the elements L -/
structure Tb (w : World) (L : List Elt) (es : Array (Int × Value)) (t : SetTable) : Prop where
  rows : es.toList = L.map (row w)
  tab : TabOk t (hsh w L)
  once : (L.map (·.2)).Nodup
  plain : t.plain = true
  led : w.params.followText "set-order" = true ∨ t.led = true
  room : L.length * 5 < t.mask * 3
  few : L.length < 64
section
variable {w : World} {L : List Elt} {es : Array (Int × Value)} {t : SetTable}
theorem rows_size (h : es.toList = L.map (row w)) : es.size = L.length := by
  rw [← Array.length_toList, h, List.length_map]
theorem rows_at (h : es.toList = L.map (row w)) {i : Nat} {p : Elt} (hp : L[i]? = some p) : es[i]? = some (row w p) := by
  rw [← Array.getElem?_toList, h, List.getElem?_map, hp, Option.map_some]
theorem tab_size {hs : List Int} (T : TabOk t hs) : t.place.toList.length = hs.length := by rw [Array.length_toList, T.sz]
theorem fits_of {n : Nat} (d : t.dummies = #[]) (h1 : t.place.size = n) (h2 : n ≤ t.mask) : t.fits n = true := by
  unfold SetTable.fits SetTable.fill
  rw [d, Bool.and_eq_true, beq_iff_eq, decide_eq_true_eq]
  exact ⟨h1, by show t.place.size + 0 ≤ t.mask; omega⟩
theorem Tb.fits (T : Tb w L es t) : t.fits es.size = true := by
  have z := T.room
  have e := rows_size T.rows
  refine fits_of T.tab.dm ?_ (by omega)
  rw [T.tab.sz, e]
  exact List.length_map ..
/-- the c-th step of the way of the hash H -/
def prb (t : SetTable) (H : Int) (c : Nat) : SetTable.Probe := nth t.mask (runAt t.mask (SetTable.bits H % (t.mask + 1)) (SetTable.bits H)) c
theorem prb_add (t : SetTable) (H : Int) (c q : Nat) : nth t.mask (prb t H c) q = prb t H (c + q) := (nth_add t.mask c _ q).symm
theorem adv_dummy (m : Nat) (p : SetTable.Probe) : (adv m p).dummy = p.dummy := by
  unfold adv
  split <;> rfl
theorem nth_dummy (m : Nat) : ∀ (n : Nat) (p : SetTable.Probe), (nth m p n).dummy = p.dummy
  | 0, _ => rfl
  | n + 1, p => (nth_dummy m n (adv m p)).trans (adv_dummy m p)
def hAt (es : Array (Int × Value)) (i : Nat) : Int := (es[i]?.map (·.1)).getD 0
/-- what a probe from the c-th step on meets: an element of that hash, the first of them, or the end of the way -/
theorem probe_at (T : Tb w L es t) {H : Int} {K c : Nat} (hc : c ≤ K) (hK : K < 10 * SetTable.turns t.mask) (hE : way t.mask H K ∉ t.place.toList) (hB : ∀ n, n < K → way t.mask H n ∈ t.place.toList) :
    (∃ q i p, c ≤ q ∧ q < K ∧ L[i]? = some p ∧ t.place.toList[i]? = some (way t.mask H q) ∧ t.slot (way t.mask H q) = .live i ∧ (∀ (n j : Nat) (p' : Elt), c ≤ n → n < q → t.place.toList[j]? = some (way t.mask H n) → L[j]? = some p' → p'.2.hash w ≠ H) ∧
      t.probe (hAt es) H (prb t H c) = some (.candidate (way t.mask H q) i (prb t H (q + 1)))) ∨
    ((∀ (n j : Nat) (p' : Elt), c ≤ n → n < K → t.place.toList[j]? = some (way t.mask H n) → L[j]? = some p' → p'.2.hash w ≠ H) ∧ t.probe (hAt es) H (prb t H c) = some (.empty (way t.mask H K) none)) := by
  have wj : ∀ q, (nth t.mask (prb t H c) q).j = way t.mask H (c + q) := fun q => congrArg SetTable.Probe.j (prb_add t H c q)
  have hv : ∀ {j : Nat} {p' : Elt}, L[j]? = some p' → hAt es j = p'.2.hash w := fun {j p'} e => by
    unfold hAt
    rw [rows_at T.rows e]
    rfl
  have sp := go_spec t T.tab.ris T.tab.dm (hAt es) H (10 * SetTable.turns t.mask) (K - c) (prb t H c) (nth_dummy _ _ _) (by omega) (fun q hq => by rw [wj]; exact hB _ (by omega))
    (by rw [wj, Nat.add_sub_cancel' hc]; exact hE)
  rcases sp with ⟨q, i, h1, h2, h3, h4, h5⟩ | ⟨h4, h5⟩
  · left
    rw [wj] at h2
    have il : i < L.length := by
      have z := (List.getElem?_eq_some_iff.mp h2).1
      rw [tab_size T.tab] at z
      exact Nat.lt_of_lt_of_eq z (List.length_map ..)
    refine ⟨c + q, i, L[i], by omega, by omega, List.getElem?_eq_getElem il, h2, slot_live T.tab.ris h2, fun n j p' a1 a2 a3 a4 => ?_, ?_⟩
    · have z := h4 (n - c) j (by omega) (by rw [wj, Nat.add_sub_cancel' a1]; exact a3)
      rw [hv a4] at z
      exact z
    · rw [wj, prb_add] at h5
      exact h5
  · right
    rw [wj, Nat.add_sub_cancel' hc] at h5
    refine ⟨fun n j p' a1 a2 a3 a4 => ?_, h5⟩
    have z := h4 (n - c) j (by omega) (by rw [wj, Nat.add_sub_cancel' a1]; exact a3)
    rw [hv a4] at z
    exact z
end
section
variable {P : Program} {w : World} {A : Around} {E : Value → Shared → Prop} {s : Shared} {a b : Addr} {L : List Elt} {es : Array (Int × Value)} {ep : Nat} {t : SetTable} {y : NestedKey}
theorem At.eq {x : NestedKey} {c : Addr} (u : A.units + 8 < cLine) (h1 : At s.heap x b) (h2 : At s.heap y c) {Q : Bool → Shared → Prop} (h : Q (decide (x = y)) s) : wpAny (model P w) A (eqBool (.ref b) (.ref c)) Q E s :=
  eqAt_key x y A s _ _ h1.nest h2.nest (by have := h1.deep; omega) P w E Q (by rw [← NestedKey.decide_eq]; exact h)
theorem At.mute (h : At s.heap y b) : Mute P w s 8 (.ref b) := mute_key y _ 8 s h.nest h.deep h.num
theorem At.quiet (h : At s.heap y b) {Q : Bool → Shared → Prop} (q : Q true s) : wpAny (model P w) A (eqIsQuiet 8 (.ref b)) Q E s := quiet_key y _ 8 s h.nest h.deep A E Q q
theorem unseen (x : At s.heap y b) (l : List Value) (hl : ∀ v ∈ l, ∃ z c, v = .ref c ∧ At s.heap z c) {Q : Bool → Shared → Prop} (h : Q false s) : wpAny (model P w) A (searchCouldBeSeen (.ref b) l) Q E s := by
  unfold searchCouldBeSeen
  refine wpAny_bind (loop_same _ l hl (fun v hv Q' q' => ?_) ?_)
  · obtain ⟨z, c, rfl, hz⟩ := hv
    dsimp only
    by_cases e : (b == c || (carriedByValue (.ref b) && carriedByValue (.ref c))) = true
    · exact wp_if_pos e (wpAny_pure q')
    · refine wp_if_neg e (wpAny_bind (x.quiet ?_))
      refine wpAny_bind (hz.quiet ?_)
      refine wpAny_bind (x.mute.cls _ _ _ ?_)
      exact wpAny_bind (hz.mute.cls _ _ _ (wpAny_pure q'))
  · exact wpAny_pure h
/-- the search for y, from the c-th step on -/
theorem find (T : Tb w L es t) {o : Obj} (ho : s.heap.get? a = some o) (hd : o.data = .set es ep t) (all : ∀ p ∈ L, At s.heap p.2 p.1) (x : At s.heap y b) (u : A.units + 8 < cLine) {H : Int} (eH : y.hash w = H) {K : Nat}
    (hK : K < 10 * SetTable.turns t.mask) (hE : way t.mask H K ∉ t.place.toList) (hB : ∀ n, n < K → way t.mask H n ∈ t.place.toList) {Q : SetFound → Shared → Prop} (hin : y ∈ L.map (·.2) → Q (.there none) s) (hout : y ∉ L.map (·.2) → Q (.free (way t.mask H K) false) s) :
    ∀ (f c : Nat) (st : Option SetTable.Probe), st.getD (t.probeStart H) = prb t H c → c ≤ K → K - c < f → (∀ (i : Nat) (p : Elt), L[i]? = some p → p.2 = y → ∃ n, c ≤ n ∧ n < K ∧ t.place.toList[i]? = some (way t.mask H n)) →
      wpAny (model P w) A (setSearchFrom a (.ref b) H true f st) Q E s := by
  intro f
  induction f with
  | zero => intro c st _ _ hf; omega
  | succ f ih =>
    intro c st hs hc hf left
    rw [setSearchFrom_succ]
    refine wpAny_bind (wpAny_setState_of ho hd T.fits (wp_if_neg ?_ ?_))
    · unfold SetTable.gaveWay
      rw [mask_odd T.tab.mok]
      decide
    rw [hs]
    rcases probe_at T hc hK hE hB with ⟨q, i, p, q1, q2, q3, q4, q5, q6, q7⟩ | ⟨q6, q7⟩
    · have q8 : t.probe (fun i => (es[i]?.map (·.1)).getD 0) H (prb t H c) = _ := q7
      rw [q8]
      have pm := List.mem_of_getElem? q3
      have fin : wpAny (model P w) A (searchRest a (.ref b) H true f es t (way t.mask H q) i (prb t H (q + 1))) Q E s := by
        unfold searchRest
        rw [rows_at T.rows q3]
        refine wpAny_bind (wpAny_holding ((all p pm).eq u x (wpAny_bind (wpAny_setState_of ho hd T.fits ?_))))
        by_cases e : p.2 = y
        · exact wp_if_pos (by simp [e]) (wpAny_pure (hin (List.mem_map.mpr ⟨p, pm, e⟩)))
        · refine wp_if_neg (by simp [e]) ?_
          rw [sameMem]
          simp only [if_true, q5, rows_at T.rows q3]
          refine wpAny_bind (wpAny_isSame_ref_self (wpAny_bind (wpAny_pure ?_)))
          simp only [if_true]
          refine wp_if_neg (by simp [e]) (ih (q + 1) _ rfl q2 (by omega) fun i0 p0 e0 k0 => ?_)
          obtain ⟨n, n1, n2, n3⟩ := left i0 p0 e0 k0
          refine ⟨n, ?_, n2, n3⟩
          rcases Nat.lt_trichotomy n q with z | z | z
          · exact absurd (by rw [k0]; exact eH) (q6 n i0 p0 n1 z n3 e0)
          · subst z
            have s0 := slot_live T.tab.ris n3
            rw [q5] at s0
            injection s0 with s0
            subst s0
            rw [q3] at e0
            injection e0 with e0
            exact absurd (e0 ▸ k0) e
          · exact z
      by_cases hl : t.led = true
      · exact wp_if_neg (by simp [hl]) fin
      · refine wp_if_pos (by simp [hl]) (wpAny_bind (unseen x _ (fun v hv => ?_) (wp_if_neg (by decide) fin)))
        obtain ⟨en, h1, rfl⟩ := List.mem_map.mp hv
        have h2 : en ∈ es.toList := by
          have h3 : en ∈ es ∧ en.1 = H := by simpa using h1
          simpa using h3.1
        rw [T.rows] at h2
        obtain ⟨p2, h4, rfl⟩ := List.mem_map.mp h2
        exact ⟨p2.2, p2.1, rfl, all p2 h4⟩
    · have q8 : t.probe (fun i => (es[i]?.map (·.1)).getD 0) H (prb t H c) = _ := q7
      rw [q8]
      refine wpAny_pure (hout fun m => ?_)
      obtain ⟨p0, m0, k0⟩ := List.mem_map.mp m
      obtain ⟨i0, l0, e0⟩ := List.getElem_of_mem m0
      have g0 : L[i0]? = some p0 := by rw [List.getElem?_eq_getElem l0, e0]
      obtain ⟨n, n1, n2, n3⟩ := left i0 p0 g0 k0
      exact q6 n i0 p0 n1 n2 n3 g0 (by rw [k0]; exact eH)
/-- the search as a set asks for it when it adds -/
theorem find0 (T : Tb w L es t) {o : Obj} (ho : s.heap.get? a = some o) (hd : o.data = .set es ep t) (all : ∀ p ∈ L, At s.heap p.2 p.1) (x : At s.heap y b) (u : A.units + 8 < cLine) {Q : SetFound → Shared → Prop} (hin : y ∈ L.map (·.2) → Q (.there none) s)
    (hout : ∀ K, y ∉ L.map (·.2) → way t.mask (y.hash w) K ∉ t.place.toList → (∀ n, n < K → way t.mask (y.hash w) n ∈ t.place.toList) → Q (.free (way t.mask (y.hash w) K) false) s) :
    wpAny (model P w) A (setSearch a (.ref b) (y.hash w) true) Q E s := by
  have z := T.room
  obtain ⟨K, k1, k2, k3⟩ := T.tab.first (by show (hsh w L).length ≤ _; unfold hsh; rw [List.length_map]; omega) (y.hash w)
  have big : 10 * SetTable.turns t.mask ≤ 1420 := by
    unfold SetTable.turns
    rcases T.tab.mok with e | e | e <;> omega
  refine find T ho hd all x u rfl k1 k2 k3 hin (fun h => hout K h k2 k3) 100000 0 none rfl (Nat.zero_le _) (by omega) fun i p e1 e2 => ?_
  have e3 : (hsh w L)[i]? = some (y.hash w) := by
    unfold hsh
    rw [List.getElem?_map, e1, ← e2]
    rfl
  have il : i < t.place.toList.length := by
    rw [tab_size T.tab]
    exact (List.getElem?_eq_some_iff.mp e3).1
  obtain ⟨n, n1, n2⟩ := T.tab.before k2 e3 (List.getElem?_eq_getElem il)
  exact ⟨n, Nat.zero_le _, n1, by rw [List.getElem?_eq_getElem il, n2]⟩
end
end Py.Ns
set_option Elab.async false
set_option linter.all false
set_option maxRecDepth 100000
set_option maxHeartbeats 2000000
/-! Sets of nested tuples: one more. -/
namespace Py.Ns
open PySem PySem.Spec PyProof.Rows L2
/-- a set of the elements L stands at a -/
def Set1 (w : World) (h : Heap) (a : Addr) (L : List Elt) : Prop := ∃ o es ep t, h.get? a = some o ∧ o.ExactSet ∧ o.data = .set es ep t ∧ Tb w L es t
section
variable {w : World} {L : List Elt} {es : Array (Int × Value)} {t : SetTable}
theorem exact_put {o : Obj} (x : o.ExactSet) (es : Array (Int × Value)) (ep : Nat) (t : SetTable) : ({ o with data := .set es ep t } : Obj).ExactSet := ⟨x.1, x.2.1, x.2.2⟩
theorem fm_map {α β : Type} (f : α → Option β) (g : α → β) : ∀ l : List α, (∀ i ∈ l, f i = some (g i)) → l.filterMap f = l.map g
  | [], _ => rfl
  | i :: l, h => by
    rw [List.filterMap_cons_some (h i List.mem_cons_self), fm_map f g l fun j hj => h j (List.mem_cons_of_mem _ hj)]
    rfl
/-- the entries in another order -/
theorem reorder (h : es.toList = L.map (row w)) {order : Array Nat} (hp : order.toList.Perm (List.range L.length)) : ∃ L2 : List Elt, L2.Perm L ∧ (order.filterMap (es[·]?)).toList = L2.map (row w) ∧ hsh w L2 = order.toList.map fun i => (es.map (·.1)).getD i 0 := by
  have inn : ∀ i ∈ order.toList, i < L.length := fun i hi => List.mem_range.mp (hp.mem_iff.mp hi)
  have at_ : ∀ i ∈ order.toList, es[i]? = some (row w (L.getD i (0, .none))) := fun i hi => by
    refine rows_at h ?_
    rw [List.getD_eq_getElem?_getD, List.getElem?_eq_getElem (inn i hi)]
    rfl
  refine ⟨order.toList.map fun i => L.getD i (0, .none), ?_, ?_, ?_⟩
  · refine (hp.map _).trans (List.Perm.of_eq ?_)
    refine List.ext_getElem (by rw [List.length_map, List.length_range]) fun i h1 h2 => ?_
    rw [List.getElem_map, List.getElem_range, List.getD_eq_getElem?_getD, List.getElem?_eq_getElem h2]
    rfl
  · rw [Array.toList_filterMap, List.map_map]
    exact fm_map _ _ _ fun i hi => at_ i hi
  · unfold hsh
    rw [List.map_map]
    refine List.map_congr_left fun i hi => ?_
    have e : (es.map (·.1))[i]? = some ((L.getD i (0, .none)).2.hash w) := by rw [Array.getElem?_map, at_ i hi]; rfl
    show _ = _
    rw [Array.getD_eq_getD_getElem?, e]
    rfl
theorem rows_in (h : es.toList = L.map (row w)) (n : Nat) (q : Elt) : (SetTable.insertAt es n (row w q)).toList = (L.take n ++ q :: L.drop n).map (row w) := by
  rw [SetTable.toList_insertAt, h, List.map_append, List.map_cons, List.map_take, List.map_drop]
theorem perm_in (L : List Elt) (n : Nat) (q : Elt) : (L.take n ++ q :: L.drop n).Perm (q :: L) := by
  have z : (L.take n ++ q :: L.drop n).Perm (q :: (L.take n ++ L.drop n)) := List.perm_middle
  rwa [List.take_append_drop] at z
end
section
variable {P : Program} {w : World} {A : Around} {E : Value → Shared → Prop} {s : Shared} {a b : Addr} {L : List Elt} {es : Array (Int × Value)} {ep : Nat} {t : SetTable} {y : NestedKey}
/-- a table laid anew -/
theorem anew {o : Obj} (ho : s.heap.get? a = some o) (hx : o.ExactSet) (hd : o.data = .set es ep t) (rw_ : es.toList = L.map (row w)) (T : TabOk t (hsh w L)) (le : L.length ≤ t.mask) (nd : (L.map (·.2)).Nodup) (pl : t.plain = true)
    (ld : w.params.followText "set-order" = true ∨ t.led = true) (few : L.length < 64) {n M : Nat} (hn : SetTable.sizeAbove n = M + 1) (hM : MaskOk M) (room : L.length * 5 < M * 3) {Q : Unit → Shared → Prop}
    (q : ∀ h' L', Heap.SameBut a s.heap h' → Set1 w h' a L' → L'.Perm L → Q () { s with heap := h' }) : wpAny (model P w) A (setRelay a n) Q E s := by
  have es_len := rows_size rw_
  have m128 : M ≤ 127 := by rcases hM with e | e | e <;> omega
  obtain ⟨t', order, e1, e2, T', e3, e4, e5, _⟩ := relaid_ok t (hs := es.map (·.1)) (wanted := n) (M := M) (by omega) hM (by rw [Array.size_map]; omega)
  rw [Array.size_map, es_len] at e2
  obtain ⟨L2, p1, p2, p3⟩ := reorder rw_ e2
  rw [← p3] at T'
  have sz2 : (order.filterMap (es[·]?)).size = es.size := by rw [rows_size p2, p1.length_eq, es_len]
  rw [setRelay_eq]
  refine wpAny_bind (wpAny_setState_of ho hd (fits_of T.dm (by rw [T.sz, es_len]; exact List.length_map ..) (by omega)) ?_)
  refine wp_if_neg (by rw [hn, sizeLine_eq]; omega) ?_
  rw [e1]
  refine wpAny_bind (wp_if_neg (by rw [sz2]; simp) (wpAny_pure ?_))
  refine wpAny_storeSet_of ho hd (q _ L2 (Heap.SameBut.update ..) ⟨_, _, _, _, store_at ho hd, exact_put hx _ _ _, rfl, p2, T', ?_, by rw [e5]; exact pl, by rw [e4]; exact ld, ?_, by rw [p1.length_eq]; exact few⟩ p1) (by rw [sz2, es_len, sizeLine_eq]; omega)
  · exact (p1.map (·.2)).nodup_iff.mpr nd
  · rw [p1.length_eq, e3]
    exact room
/-- y put in -/
theorem add (S : Set1 w s.heap a L) (all : ∀ p ∈ L, At s.heap p.2 p.1) (x : At s.heap y b) (u : A.units + 8 < cLine) (few : L.length + 1 < 64) {Q : Bool → Shared → Prop}
    (q : ∀ r h' L', Heap.SameBut a s.heap h' → Set1 w h' a L' → (if y ∈ L.map (·.2) then L' = L else L'.Perm ((b, y) :: L)) → Q r { s with heap := h' }) : wpAny (model P w) A (setAddHashed a (.ref b) (y.hash w)) Q E s := by
  obtain ⟨o, es, ep, t, ho, hx, hd, T⟩ := id S
  have es_len := rows_size T.rows
  have room := T.room
  unfold setAddHashed
  refine wpAny_holding ?_
  rw [show (100000 : Nat) = 99999 + 1 from rfl, setAddHashedIn_succ]
  refine wpAny_bind (wpAny_setState_of ho hd T.fits (wp_if_neg (by simp [byScan, Value.scannable]) (wpAny_bind (find0 T ho hd all x u (fun m => ?_) fun K m k1 k2 => ?_))))
  · exact wpAny_pure (q false s.heap L (Heap.SameBut.refl a s.heap) S (by rw [if_pos m]))
  · refine wpAny_bind (wpAny_setState_of ho hd T.fits ?_)
    dsimp only
    obtain ⟨q1, q2, q3, q4, q5, q6, _, _, q9⟩ := T.tab.put k1 k2
    generalize hpt : t.put (way t.mask (y.hash w) K) = pt at q1 q3 q4 q5 q6 q9 ⊢
    obtain ⟨t1, n⟩ := pt
    dsimp only at q1 q3 q4 q5 q6 q9 ⊢
    subst q1
    generalize hbn : SetTable.below t.place (way t.mask (y.hash w) K) = n at q2 q3 ⊢
    have rin : (SetTable.insertAt es n (y.hash w, Value.ref b)).toList = (L.take n ++ (b, y) :: L.drop n).map (row w) := rows_in T.rows n (b, y)
    have pm := perm_in L n (b, y)
    have eh : (hsh w L).take n ++ y.hash w :: (hsh w L).drop n = hsh w (L.take n ++ (b, y) :: L.drop n) := by
      unfold hsh
      rw [List.map_append, List.map_cons, List.map_take, List.map_drop]
    rw [eh] at q3
    have hl : (hsh w L).length = L.length := List.length_map ..
    rw [hl] at q9
    have pl : t1.plain = true := q6.trans T.plain
    have ld : w.params.followText "set-order" = true ∨ t1.led = true := by rw [q5]; exact T.led
    generalize SetTable.insertAt es n (y.hash w, Value.ref b) = es1 at rin ⊢
    generalize L.take n ++ (b, y) :: L.drop n = L1 at pm q3 rin
    have len1 : L1.length = L.length + 1 := pm.length_eq
    have nd : (L1.map (·.2)).Nodup := (pm.map (·.2)).nodup_iff.mpr (by rw [List.map_cons]; exact List.nodup_cons.mpr ⟨m, T.once⟩)
    have es1_len := rows_size rin
    refine wp_if_pos pl (wpAny_bind (x.mute.val _ _ _ ?_))
    simp only [if_true]
    refine wpAny_bind (wpAny_storeSet_of ho hd ?_ (by rw [es1_len, sizeLine_eq]; omega))
    have sb : Heap.SameBut a s.heap (s.heap.update a (Obj.putSet es1 t1)) := Heap.SameBut.update ..
    have ho1 := store_at (es' := es1) (t' := t1) ho hd
    generalize s.heap.update a (Obj.putSet es1 t1) = h1 at sb ho1 ⊢
    have full : t1.tooFull = decide ((L.length + 1) * 5 ≥ t1.mask * 3) := by
      unfold SetTable.tooFull
      rw [q9]
    by_cases hf : (L.length + 1) * 5 ≥ t1.mask * 3
    · have two : ∃ M, SetTable.sizeAbove (SetTable.grown (es.size + 1)) = M + 1 ∧ MaskOk M ∧ L1.length * 5 < M * 3 := by
        rw [es_len, len1]
        rw [q4] at hf
        rcases T.tab.mok with e | e | e
        · have e2 : L.length = 4 := by omega
          exact ⟨31, by rw [e2]; exact size_20, .inr (.inl rfl), by omega⟩
        · have e2 : L.length = 18 := by omega
          exact ⟨127, by rw [e2]; exact size_76, .inr (.inr rfl), by omega⟩
        · omega
      obtain ⟨M, m1, m2, m3⟩ := two
      refine wp_if_pos (by simp [full, hf]) (wpAny_bind ?_)
      refine anew (s := { s with heap := h1 }) ho1 (exact_put hx _ _ _) rfl rin q3 ?_ nd pl ld (by omega) m1 m2 m3 fun h2 L2 sb2 S2 pm2 => wpAny_pure (q true h2 L2 (sb.trans sb2) S2 (by rw [if_neg m]; exact pm2.trans pm))
      rw [q4, len1]
      rcases T.tab.mok with e | e | e <;> omega
    · refine wp_if_neg (by simp [full, hf]) ?_
      refine wpAny_pure (q true h1 L1 sb ⟨_, es1, ep + 1, t1, ho1, exact_put hx _ _ _, rfl, rin, q3, nd, pl, ld, by omega, by omega⟩ (by rw [if_neg m]; exact pm))
end
end Py.Ns
set_option Elab.async false
set_option linter.all false
set_option maxRecDepth 100000
set_option maxHeartbeats 3200000
/-! set(xs) of nested tuples. -/
namespace Py.Ns
open PySem PySem.Spec PyProof.Rows L2
/-- what a set has taken of the first i of xs -/
def Took (xs : List Elt) (i : Nat) (L : List Elt) : Prop := L.length ≤ i ∧ (∀ p ∈ L, p ∈ xs.take i) ∧ ∀ p ∈ xs.take i, ∃ q ∈ L, q.2 = p.2
theorem took_none (xs : List Elt) : Took xs 0 [] := ⟨Nat.le_refl _, fun _ h => (by cases h), fun _ h => (by cases h)⟩
theorem took_next {xs L L' : List Elt} {i : Nat} {b : Addr} {y : NestedKey} (g : Took xs i L) (hi : xs[i]? = some (b, y)) (h : if y ∈ L.map (·.2) then L' = L else L'.Perm ((b, y) :: L)) : Took xs (i + 1) L' := by
  obtain ⟨g1, g2, g3⟩ := g
  have e : xs.take (i + 1) = xs.take i ++ [(b, y)] := by rw [List.take_succ, hi]; rfl
  unfold Took
  simp only [e, List.mem_append, List.mem_singleton]
  split at h
  · rename_i m
    subst h
    refine ⟨by omega, fun p hp => .inl (g2 p hp), fun p hp => ?_⟩
    rcases hp with hp | hp
    · exact g3 p hp
    · obtain ⟨q, q1, q2⟩ := List.mem_map.mp m
      exact ⟨q, q1, by rw [hp, q2]⟩
  · refine ⟨by rw [h.length_eq]; exact Nat.succ_le_succ g1, fun p hp => ?_, fun p hp => ?_⟩
    · rcases List.mem_cons.mp (h.mem_iff.mp hp) with z | z
      · exact .inr z
      · exact .inl (g2 p z)
    · rcases hp with hp | hp
      · obtain ⟨q, q1, q2⟩ := g3 p hp
        exact ⟨q, h.mem_iff.mpr (List.mem_cons_of_mem _ q1), q2⟩
      · exact ⟨_, h.mem_iff.mpr List.mem_cons_self, by rw [hp]⟩
theorem At.keep {h h' : Heap} {y : NestedKey} {b : Addr} (x : At h y b) (k : ∀ c o, h.get? c = some o → h'.get? c = some o) : At h' y b := ⟨NestedIs.at (fun c o _ _ e _ => k c o e) _ _ x.nest, x.deep, x.num⟩
theorem Set1.keep {w : World} {h h' : Heap} {a : Addr} {L : List Elt} (x : Set1 w h a L) (k : ∀ o, h.get? a = some o → h'.get? a = some o) : Set1 w h' a L := by
  obtain ⟨o, es, ep, t, e, r⟩ := x
  exact ⟨o, es, ep, t, k o e, r⟩
theorem set1_new {w : World} {h : Heap} {a : Addr} (e : h.get? a = some { cls := .type "set", dict := none, data := .set #[] 0 (.fresh 0 0 (!w.params.followText "set-order")) }) : Set1 w h a [] := by
  refine ⟨_, #[], 0, _, e, ⟨rfl, rfl, rfl⟩, rfl, rfl, ⟨List.Pairwise.nil, rfl, rfl, .inl rfl, fun x hx => (by cases hx), fun i h j hi => (by simp [hsh] at hi)⟩, List.nodup_nil, rfl, ?_, by show 0 * 5 < 7 * 3; decide, by show 0 < 64; decide⟩
  show _ ∨ (!w.params.followText "set-order") = true
  cases w.params.followText "set-order" <;> simp
section
variable {P : Program} {w : World} {A : Around} {E : Value → Shared → Prop}
/-- one after the other is put in -/
theorem take_all {S I l : Addr} {items : Array Value} {xs : List Elt} (hx : items.toList = xs.map fun p => Value.ref p.1) (few : xs.length < 64) {h0 : Heap} (all : ∀ p ∈ xs, At h0 p.2 p.1) (hl : h0.IsList l items) (nS : h0.get? S = none) (nI : h0.get? I = none)
    (ne : S ≠ I) (hh : A.in1.handled = none) (u : A.in1.units + 8 < cLine) {R : Result → Shared → Prop} :
    ∀ (k i : Nat) (s : Shared) (L : List Elt), xs.length - i = k → i ≤ xs.length → s.heap.IsListIter I l i → (∀ b o, h0.get? b = some o → s.heap.get? b = some o) → Set1 w s.heap S L → Took xs i L →
      (∀ h' tk L', (∀ b o, h0.get? b = some o → h'.get? b = some o) → Set1 w h' S L' → Took xs xs.length L' → R (.ok (.ret .none)) { s with heap := h', toks := tk }) → codeAny (model P w) A (.builtin "set.update.loop" ⟨[.ref S, .ref I], []⟩) R s := by
  have lI : l ≠ I := fun e => by
    obtain ⟨o, ho, _⟩ := hl
    rw [e, nI] at ho
    cases ho
  have sz : items.size = xs.length := by rw [← Array.length_toList, hx, List.length_map]
  intro k
  induction k with
  | zero =>
    intro i s L hk hi it kp st tk q
    have e : i = xs.length := by omega
    subst e
    refine codeAny_builtin F.entry_set_update_loop ?_
    rw [Around.under_plainId F.plain_set_update_loop _]
    refine wpAny_bind (m := pyNext (.ref I)) ((Walks.list hh I l lI items).done s _ _ (by rw [sz]; exact ⟨it, hl.at fun o e => kp l o e⟩) fun h' tk' k' => ?_)
    refine wpAny_pure (q h' tk' L (fun b o e => k' b o (fun m => ?_) (kp b o e)) (st.keep fun o e => k' S o (fun m => ne (List.mem_singleton.mp m)) e) tk)
    rw [List.mem_singleton.mp m, nI] at e
    cases e
  | succ k ih =>
    intro i s L hk hi it kp st tk q
    have lt : i < xs.length := by omega
    refine codeAny_builtin F.entry_set_update_loop ?_
    rw [Around.under_plainId F.plain_set_update_loop _]
    refine wpAny_bind (m := pyNext (.ref I)) ((Walks.list hh I l lI items).item i s _ _ (by omega) ⟨it, hl.at fun o e => kp l o e⟩ fun v h' tk' pv st' k' => ?_)
    have ev : ∃ p, xs[i]? = some p ∧ v = .ref p.1 := by
      have z : items.toList[i]? = some v := by rw [Array.getElem?_toList]; exact pv
      rw [hx, List.getElem?_map, List.getElem?_eq_getElem lt, Option.map_some] at z
      exact ⟨_, List.getElem?_eq_getElem lt, (Option.some.inj z).symm⟩
    obtain ⟨⟨b, y⟩, hp, rfl⟩ := ev
    have kp' : ∀ b o, h0.get? b = some o → h'.get? b = some o := fun b o e => k' b o (fun m => by rw [List.mem_singleton.mp m, nI] at e; cases e) (kp b o e)
    have x0 : At h0 y b := all _ (List.mem_of_getElem? hp)
    have x1 : At h' y b := x0.keep kp'
    refine wpAny_bind (m := holding [Value.ref b] (setAdd S (.ref b))) (wpAny_holding ?_)
    unfold setAdd
    refine wpAny_holding (wpAny_bind (pyHash_key y _ _ _ _ x1.nest (by have := x1.deep; omega) ?_))
    refine add (L := L) (st.keep fun o e => k' S o (fun m => ne (List.mem_singleton.mp m)) e) (fun p hp => (all p (List.mem_of_mem_take (tk.2.1 p hp))).keep kp') x1 u (by have := tk.1; omega) fun r h2 L2 sb st2 c => ?_
    have kp2 : ∀ b o, h0.get? b = some o → h2.get? b = some o := fun c o e => (sb.2 c fun z => by rw [z, nS] at e; cases e).trans (kp' c o e)
    refine wpAny_pure ⟨plainId_quiet F.plain_set_update_loop _, ih (i + 1) _ L2 (by omega) lt (st'.1.at fun o e => (sb.2 I fun z => ne z.symm).trans e) kp2 st2 (took_next tk hp c) fun h3 tk3 L3 a1 a2 a3 => q h3 tk3 L3 a1 a2 a3⟩
end
end Py.Ns
set_option Elab.async false
set_option linter.all false
set_option maxRecDepth 100000
set_option maxHeartbeats 3200000
/-! The call set(xs). -/
namespace Py.Ns
open PySem PySem.Spec PyProof.Rows L2
abbrev bare (w : World) : Obj := { cls := .type "set", dict := none, data := .set #[] 0 (.fresh 0 0 (!w.params.followText "set-order")) }
section
variable {P : Program} {w : World} {A : Around} {E : Value → Shared → Prop} {s : Shared}
/-- what stands when set(xs) is done -/
structure Made (w : World) (s : Shared) (xs : List Elt) (s' : Shared) : Prop where
  ex : ∃ h' tk L, s' = { s with heap := h', toks := tk } ∧ Set1 w h' s.heap.objs.size L ∧ Took xs xs.length L ∧ ∀ b o, s.heap.get? b = some o → h'.get? b = some o
theorem init_all {l : Addr} {items : Array Value} {xs : List Elt} (hh : A.handled = none) (hl : s.heap.IsList l items) (hx : items.toList = xs.map fun p => Value.ref p.1) (all : ∀ p ∈ xs, At s.heap p.2 p.1) (few : xs.length < 64) (u : A.units + 9 < cLine)
    {Q : Unit → Shared → Prop} (q : ∀ s', Made w s xs s' → Q () s') :
    wpAny (model P w) A (runValue (.builtin "set.update.loop" ⟨[.ref s.heap.objs.size, .ref (s.heap.objs.size + 1)], []⟩) >>= fun _ => pure ()) Q E { s with heap := (s.heap.push (bare w)).push { cls := .type "list_iterator", data := .fields #[.ref l, .int 0 0] } } := by
  have fresh : ∀ b, s.heap.objs.size ≤ b → s.heap.get? b = none := fun b hb => by
    cases z : s.heap.get? b with
    | none => rfl
    | some o => exact absurd (Heap.lt_size z) (Nat.not_lt.mpr hb)
  have sz : (s.heap.push (bare w)).objs.size = s.heap.objs.size + 1 := Heap.size_push ..
  have kp : ∀ b o, s.heap.get? b = some o → ((s.heap.push (bare w)).push { cls := .type "list_iterator", data := .fields #[.ref l, .int 0 0] }).get? b = some o := fun b o e => Heap.get?_push_of_some _ (Heap.get?_push_of_some _ e)
  refine wpAny_bind (wpAny_runValue ?_)
  refine take_all (S := s.heap.objs.size) (I := s.heap.objs.size + 1) hx few all hl (fresh _ (Nat.le_refl _)) (fresh _ (Nat.le_succ _)) (Nat.ne_of_lt (Nat.lt_succ_self _)) (by simp [hh]) (by show A.units + 1 + 8 < _; omega) xs.length 0 _ [] (by omega) (Nat.zero_le _)
    ?_ kp (set1_new (Heap.get?_push_of_some _ (Heap.get?_push_size _ rfl))) (took_none xs) fun h' tk L a1 a2 a3 => ?_
  · rw [← sz]
    exact ⟨_, Heap.get?_push_size _ rfl, rfl, rfl⟩
  · exact wpAny_pure (q _ ⟨⟨h', tk, L, rfl, a2, a3, a1⟩⟩)
/-- set(xs) -/
theorem call_set {l : Addr} {items : Array Value} {xs : List Elt} (hh : A.handled = none) (hl : s.heap.IsList l items) (hx : items.toList = xs.map fun p => Value.ref p.1) (all : ∀ p ∈ xs, At s.heap p.2 p.1) (few : xs.length < 64) (u : A.units + 20 < cLine)
    {Q : Value → Shared → Prop} (q : ∀ s', Made w s xs s' → Q (.ref s.heap.objs.size) s') : wpAny (model P w) A (call (.type "set") [.ref l]) Q E s := by
  obtain ⟨c, tl, mro⟩ := F.called_set.mro
  have f1 := F.called_set.made
  have f2 := F.called_set.sub
  have f3 := F.called_set.notType
  have f4 := F.called_set.canCreate
  have f5 := F.typeCall_set_1 (.ref l)
  refine wpAny_call (codeAny_of_tree ?_)
  show wpAny _ _ (callAny (.type "set") _) _ _ _
  refine wpAny_pure ⟨Code.quiet_builtin _ (by decide +kernel), codeAny_builtin F.entry_type_call ?_⟩
  rw [Around.under_plain (weight_type_call_type "set" [.ref l] []) rfl]
  repeat (any_goals (first | assumption | wp_step))
  refine codeAny_mono (code_set_led1 (.ref l) (E := E) (Q₁ := fun v z => v = .ref s.heap.objs.size ∧ z = { s with heap := s.heap.push (bare w) }) ⟨rfl, rfl⟩) fun r z hr => ?_
  match r, hr with
  | .error e, hr => exact hr
  | .ok (.ret v), hr =>
    obtain ⟨rfl, rfl⟩ := hr
    have at_ : (s.heap.push (bare w)).get? s.heap.objs.size = some (bare w) := Heap.get?_push_size _ rfl
    have ty : Shared.TypeIs { s with heap := s.heap.push (bare w) } (.ref s.heap.objs.size) "set" := ⟨_, at_, rfl⟩
    have g1 := F.called_set.init.lookup
    have g2 := F.called_set.init.bind (.ref s.heap.objs.size)
    repeat (any_goals (first | assumption | wp_step))
    refine codeAny_mono (codeAny_call_builtin (R := wants (fun r z => r = .none ∧ Made w s xs z) E) F.called_set.init.plain F.entry_set_init (check_set_init_1 ty ?_)) fun r z hr => ?_
    · obtain ⟨⟨c1, c2, c3, c4⟩, e1, e2, n, e3⟩ := id hl
      simp only at e2 e3
      subst e2
      subst e3
      have at2 : (s.heap.push (bare w)).get? l = some { cls := .type "list", dict := c2, data := .seq items n, slots := c4 } := Heap.get?_push_of_some _ e1
      have hl2 : (s.heap.push (bare w)).IsList l items := ⟨_, at2, rfl, n, rfl⟩
      have k1 := F.sub_list_set
      have k2 := F.sub_list_frozenset
      have k3 : (Value.type "list" == Value.type "dict") = false := by decide
      unfold Builtin.«set.__init__» noKeywords Builtin.Frozenset.updateFrom
      generalize hgen : pyIter = gen
      wp_walk
      subst hgen
      refine wpAny_pyIter_list hl2 ?_
      have szp : (s.heap.push (bare w)).objs.size = s.heap.objs.size + 1 := Heap.size_push ..
      rw [szp]
      exact init_all (s := s) (A := A.in1.in1) (by simp [hh]) hl hx all few (by show A.units + 2 + 9 < _; omega) fun z m => wpAny_pure ⟨rfl, m⟩
    · match r, hr with
      | .error e, hr => exact hr
      | .ok (.ret v), hr =>
        obtain ⟨rfl, m⟩ := hr
        repeat (any_goals (first | assumption | wp_step))
        exact q _ m
end
end Py.Ns
set_option Elab.async false
set_option linter.all false
set_option maxRecDepth 100000
set_option maxHeartbeats 2000000
/-! The order of pairs ((a,), b). -/
namespace Py.Ns
open PySem PySem.Spec PyProof.Rows L2
/-- at t lies ((x,), y) -/
structure Two (h : Heap) (t : Addr) (x y : Int) : Prop where
  ex : ∃ i u v o o' n n', h.get? t = some o ∧ o.cls = .type "tuple" ∧ o.data = .seq #[.ref i, .int y v] n ∧ h.get? i = some o' ∧ o'.cls = .type "tuple" ∧ o'.data = .seq #[.int x u] n'
def kTwo (x y : Int) : NestedKey := .tup [.tup [.num x], .num y]
theorem Two.at {h : Heap} {t : Addr} {x y : Int} (T : Two h t x y) : At h (kTwo x y) t := by
  obtain ⟨i, u, v, o, o', n, n', h1, h2, h3, h4, h5, h6⟩ := T.ex
  exact ⟨.tup h1 h2 h3 (.cons (.tup h4 h5 h6 (.cons (.int _ _) .nil)) (.cons (.int _ _) .nil)), by simp [kTwo, NestedKey.depth, NestedKey.depthAll], rfl⟩
theorem Two.keep {h h' : Heap} {t : Addr} {x y : Int} (T : Two h t x y) (k : ∀ b o, h.get? b = some o → o.cls = .type "tuple" → h'.get? b = some o) : Two h' t x y := by
  obtain ⟨i, u, v, o, o', n, n', h1, h2, h3, h4, h5, h6⟩ := T.ex
  exact ⟨⟨i, u, v, o, o', n, n', k _ _ h1 h2, h2, h3, k _ _ h4 h5, h5, h6⟩⟩
theorem Two.one {h : Heap} {t : Addr} {x y x' y' : Int} (T : Two h t x y) (T' : Two h t x' y') : x = x' ∧ y = y' := by
  obtain ⟨i, u, v, o, o', n, n', h1, h2, h3, h4, h5, h6⟩ := T.ex
  obtain ⟨j, u', v', p, p', m, m', g1, g2, g3, g4, g5, g6⟩ := T'.ex
  rw [h1] at g1
  cases g1
  rw [h3] at g3
  injection g3 with g3 _
  injection g3 with g3
  injection g3 with e1 e2
  injection e1 with e1
  subst e1
  injection e2 with e2 _
  injection e2 with e2 _
  rw [h4] at g4
  cases g4
  rw [h6] at g6
  injection g6 with g6 _
  injection g6 with g6
  injection g6 with g6 _
  injection g6 with g6 _
  exact ⟨g6, e2⟩
section
variable {P : Program} {w : World} {A : Around} {E : Value → Shared → Prop} {s : Shared}
theorem oneLt_int {x y : Int} {u v : Tok} {Q : Bool → Shared → Prop} {E : Value → Shared → Prop} (q : Q (decide (x < y)) s) : wpAny (model P w) A (oneLt' false (.int x u) (.int y v)) Q E s :=
  PySem.W.kat_one _ _ (PyProof.Rows.lt_int q)
/-- < of two such -/
theorem lt_two {t t' : Addr} {x y x' y' : Int} (T : Two s.heap t x y) (T' : Two s.heap t' x' y') (u : A.units + 8 < cLine) {Q : Bool → Shared → Prop} (q : Q (if x = x' then decide (y < y') else decide (x < x')) s) :
    wpAny (model P w) A (keyLt' (tuples' false) (.ref t) (.ref t')) Q E s := by
  obtain ⟨i, u1, v1, o, p, n, m, h1, h2, h3, h4, h5, h6⟩ := T.ex
  obtain ⟨j, u2, v2, o', p', n', m', g1, g2, g3, g4, g5, g6⟩ := T'.ex
  refine PySem.W.kat_lt h1 h3 g1 g3 ?_
  show PySem.W.KatLex P w A false false Q [(Value.ref i, Value.ref j), (Value.int y v1, Value.int y' v2)] 0 s
  have ni : NestedIs s.heap (.tup [.num x]) (.ref i) := .tup h4 h5 h6 (.cons (.int _ _) .nil)
  have nj : NestedIs s.heap (.tup [.num x']) (.ref j) := .tup g4 g5 g6 (.cons (.int _ _) .nil)
  have eb : NestedKey.beq (.tup [.num x]) (.tup [.num x']) = decide (x = x') := by simp [NestedKey.beq, NestedKey.beqAll]
  refine PySem.W.kat_cons (eqAt_key (.tup [.num x]) (.tup [.num x']) A s _ _ ni nj (by simp only [NestedKey.depth, NestedKey.depthAll]; omega) P w _ _ ?_)
  rw [eb]
  by_cases e : x = x'
  · rw [if_pos e] at q
    rw [decide_eq_true e]
    refine PySem.W.kat_yes (PySem.W.kat_cons (wpAny_eqBool_int ?_))
    by_cases e2 : y = y'
    · rw [show (y == y') = true from beq_iff_eq.mpr e2]
      have z : decide (y < y') = false := decide_eq_false (by omega)
      rw [z] at q
      exact PySem.W.kat_yes (PySem.W.kat_nil q)
    · rw [show (y == y') = false from beq_eq_false_iff_ne.mpr e2]
      exact PySem.W.kat_no (oneLt_int q)
  · rw [if_neg e] at q
    rw [decide_eq_false e]
    refine PySem.W.kat_no (PySem.W.kat_one _ _ (HT.lt_tupInts (ns := [x]) (ms := [x']) ⟨_, h4, h5, _, h6⟩ ⟨_, g4, g5, _, g6⟩ (.cons _ _ .nil) (.cons _ _ .nil) (by omega) ?_))
    show Q (HT.lexLt [x] [x']) s
    rw [HT.lexLt_cons, if_neg e]
    exact q
end
end Py.Ns
set_option Elab.async false
set_option linter.all false
set_option maxRecDepth 100000
set_option maxHeartbeats 2000000
/-! Lists of pairs ((a,), b), sorted. -/
namespace Py.Ns
open PySem PySem.Spec PyProof.Rows L2
/-- v is such a pair, its second number within C -/
def InC (h : Heap) (C : Int) (v : Value) : Prop := ∃ t x y, v = .ref t ∧ Two h t x y ∧ -C ≤ y ∧ y ≤ C
theorem InC.keep {h h' : Heap} {C : Int} {v : Value} (z : InC h C v) (k : ∀ b o, h.get? b = some o → o.cls = .type "tuple" → h'.get? b = some o) : InC h' C v := by
  obtain ⟨t, x, y, e, T, r⟩ := z
  exact ⟨t, x, y, e, T.keep k, r⟩
/-- the rank of a pair -/
def code (C x y : Int) : Int := x * (2 * C + 1) + y
theorem code_lt {C x y x' y' : Int} (h1 : -C ≤ y) (h2 : y ≤ C) (h3 : -C ≤ y') (h4 : y' ≤ C) : decide (code C x y < code C x' y') = if x = x' then decide (y < y') else decide (x < x') := by
  have mono : ∀ a b : Int, a < b → a * (2 * C + 1) + (2 * C + 1) ≤ b * (2 * C + 1) := fun a b hab => by
    have z := Int.mul_le_mul_of_nonneg_right (show a + 1 ≤ b by omega) (show (0 : Int) ≤ 2 * C + 1 by omega)
    rw [Int.add_mul, Int.one_mul] at z
    exact z
  unfold code
  by_cases e : x = x'
  · subst e
    rw [if_pos rfl]
    exact decide_eq_decide.mpr ⟨fun z => by omega, fun z => by omega⟩
  · rw [if_neg e]
    refine decide_eq_decide.mpr ⟨fun z => ?_, fun z => ?_⟩
    · rcases Int.lt_trichotomy x x' with q | q | q
      · exact q
      · exact absurd q e
      · have := mono x' x q
        omega
    · have := mono x x' z
      omega
/-- r ranks the pairs of h -/
def Ranks (h : Heap) (C : Int) (r : Value → Int) : Prop := ∀ t x y, Two h t x y → r (.ref t) = code C x y
theorem ranks_some (h : Heap) (C : Int) : ∃ r, Ranks h C r := by
  classical
  refine ⟨fun v => if e : ∃ p : Int × Int, ∃ t, v = .ref t ∧ Two h t p.1 p.2 then code C e.choose.1 e.choose.2 else 0, fun t x y T => ?_⟩
  have e : ∃ p : Int × Int, ∃ t', Value.ref t = .ref t' ∧ Two h t' p.1 p.2 := ⟨(x, y), t, rfl, T⟩
  have z := e.choose_spec
  obtain ⟨t', e1, T'⟩ := z
  injection e1 with e1
  subst e1
  obtain ⟨q1, q2⟩ := T.one T'
  show (if e : ∃ p : Int × Int, ∃ t', Value.ref t = .ref t' ∧ Two h t' p.1 p.2 then code C e.choose.1 e.choose.2 else 0) = _
  rw [dif_pos e, ← q1, ← q2]
section
variable {P : Program} {w : World} {A : Around} {E : Value → Shared → Prop} {s : Shared}
theorem firsts {h : Heap} {C : Int} : ∀ vs : List Value, (∀ v ∈ vs, InC h C v) → ∃ fs, PySem.W.KatTups h vs fs ∧ fs.length = vs.length ∧ ∀ f ∈ fs, ∃ i o, f = Value.ref i ∧ h.get? i = some o ∧ o.cls = .type "tuple"
  | [], _ => ⟨[], .nil, rfl, fun f hf => by cases hf⟩
  | v :: vs, all => by
    obtain ⟨fs, k, l, q⟩ := firsts vs fun u hu => all u (List.mem_cons_of_mem _ hu)
    obtain ⟨t, x, y, rfl, T, _⟩ := all v List.mem_cons_self
    obtain ⟨i, u1, v1, o, p, n, m, h1, h2, h3, h4, h5, h6⟩ := T.ex
    refine ⟨.ref i :: fs, .cons h1 h2 h3 rfl k, by rw [List.length_cons, List.length_cons, l], fun f hf => ?_⟩
    rcases List.mem_cons.mp hf with rfl | hf
    · exact ⟨i, p, rfl, h4, h5⟩
    · exact q f hf
theorem kind_two {C : Int} {vs : List Value} (h2 : 2 ≤ vs.length) (all : ∀ v ∈ vs, InC s.heap C v) (r : Value → Int) (hr : ∀ t x y, Value.ref t ∈ vs → Two s.heap t x y → r (.ref t) = code C x y) (u : A.units + 8 < cLine) (Q : SortKind → Shared → Prop) (q : ∀ κ, TS.Cmp P w A s κ (pairsOf vs) r → Q κ s) :
    wpAny (model P w) A (keyKind' vs.toArray) Q E s := by
  obtain ⟨fs, k, l, hf⟩ := firsts vs all
  refine PySem.W.kat_kind (T := Value.type "tuple") k (by omega) (fun f m => ?_) rfl (q _ fun a b ha hb Q' E' hQ => ?_)
  · obtain ⟨i, o, rfl, g, c⟩ := hf f m
    exact fun A Q E z k q => wpAny_typeOf ⟨o, k _ _ g, c⟩ q
  · rw [pairsOf_toList] at ha hb
    obtain ⟨t, x, y, e, T, r1, r2⟩ := all _ (mem_zip_self ha).2
    obtain ⟨t', x', y', e', T', r3, r4⟩ := all _ (mem_zip_self hb).2
    have m := (mem_zip_self ha).2
    have m' := (mem_zip_self hb).2
    rw [e] at m
    rw [e'] at m'
    rw [e, e'] at hQ ⊢
    rw [hr _ _ _ m T, hr _ _ _ m' T', code_lt r1 r2 r3 r4] at hQ
    exact lt_two T T' u hQ
/-- list.sort of such a list -/
theorem sort_two {a : Addr} {vs : List Value} {n : Nat} {C : Int} {Q : PySem.Fin → Shared → Prop} (ho : s.heap.get? a = some (seqObj "list" vs.toArray n)) (few : vs.length < 64) (all : ∀ v ∈ vs, InC s.heap C v) (r : Value → Int) (hr : ∀ t x y, Value.ref t ∈ vs → Two s.heap t x y → r (.ref t) = code C x y) (u : A.units + 8 < cLine)
    (q : ∀ out : Array Value, out.toList.Perm vs → out.toList.Pairwise (fun u v => r u ≤ r v) → Q (.done (.ret .none)) { s with heap := sortedHeap s.heap a vs out }) : wpAny (model P w) A (Builtin.«list.sort» ⟨[.ref a], []⟩) Q E s := by
  have kp : ∀ b o, s.heap.get? b = some o → o.cls = .type "tuple" → (TS.midHeap s.heap a vs).get? b = some o := fun b o e c => TS.midHeap_old (fun z => by
    rw [z, ho] at e
    cases e
    exact absurd (show ("list" : String) = "tuple" from Value.type.inj c) (by decide)) e
  refine SK.plain_sort (r := r) ho few (fun h2 Q' hQ => ?_) fun ps out e1 e2 e3 => ?_
  · refine kind_two (s := { s with heap := TS.midHeap s.heap a vs }) (C := C) h2 (fun v hv => (all v hv).keep kp) r (fun t x y m T => ?_) u Q' hQ
    obtain ⟨t', x', y', e, T', _⟩ := all _ m
    injection e with e
    subst e
    obtain ⟨e1, e2⟩ := T.one (T'.keep kp)
    rw [e1, e2]
    exact hr _ _ _ m T'
  · obtain ⟨p, o⟩ := TS.out_rank e1 e2 e3
    exact q out p o
end
end Py.Ns
set_option Elab.async false
set_option linter.all false
set_option maxRecDepth 100000
set_option maxHeartbeats 2000000
/-! sorted of a set of pairs ((a,), b). -/
namespace Py.Ns
open PySem PySem.Spec PyProof.Rows L2
theorem perm_back {α β : Type} {f : α → β} {l l2 : List β} (h : l.Perm l2) : ∀ M : List α, l2 = M.map f → ∃ M' : List α, M'.Perm M ∧ l = M'.map f := by
  induction h with
  | nil => intro M e; exact ⟨M, .refl _, e⟩
  | cons x h ih =>
    intro M e
    match M, e with
    | m :: M, e =>
      rw [List.map_cons] at e
      injection e with e1 e2
      obtain ⟨M', p, e3⟩ := ih M e2
      exact ⟨m :: M', p.cons m, by rw [List.map_cons, e1, e3]⟩
  | swap x y l =>
    intro M e
    match M, e with
    | m :: n :: M, e =>
      rw [List.map_cons, List.map_cons] at e
      injection e with e1 e2
      injection e2 with e2 e3
      exact ⟨n :: m :: M, .swap .., by rw [List.map_cons, List.map_cons, e1, e2, e3]⟩
  | trans _ _ ih1 ih2 =>
    intro M e
    obtain ⟨M1, p1, e1⟩ := ih2 M e
    obtain ⟨M2, p2, e2⟩ := ih1 M1 e1
    exact ⟨M2, p2.trans p1, e2⟩
/-- a pair with its place -/
abbrev Pt := Addr × Int × Int
def Pt.elt (m : Pt) : Elt := (m.1, kTwo m.2.1 m.2.2)
section
variable {P : Program} {w : World} {A : Around} {E : Value → Shared → Prop} {s : Shared}
theorem sorted_set {a : Addr} {M : List Pt} {C : Int} (S : Set1 w s.heap a (M.map Pt.elt)) (hh : A.handled = none) (all : ∀ m ∈ M, Two s.heap m.1 m.2.1 m.2.2 ∧ -C ≤ m.2.2 ∧ m.2.2 ≤ C) (u : A.units + 12 < cLine) {Q : Value → Shared → Prop}
    (q : ∀ (s' : Shared) (c : Addr) (n : Nat) (out : Array Value) (M' : List Pt), (∀ b o, s.heap.get? b = some o → s'.heap.get? b = some o) → s'.gens = s.gens → s'.os = s.os → s.heap.objs.size ≤ c → s'.heap.get? c = some (seqObj "list" out n) → out.toList = M'.map (fun m => Value.ref m.1) → M'.Perm M →
      M'.Pairwise (fun m m' => code C m.2.1 m.2.2 ≤ code C m'.2.1 m'.2.2) → Q (.ref c) s') : wpAny (model P w) A (call (.builtin "sorted") [.ref a]) Q E s := by
  obtain ⟨o, es, ep, t, ho, hx, hd, T⟩ := S
  have len := rows_size T.rows
  have few := T.few
  rw [List.length_map] at few len
  refine Calls.call_function_entry kind_sorted plain_sorted entry_sorted (args_sorted1 _) ?_
  unfold Builtin.«sorted»
  refine wpAny_bind (m := checkCount "sorted" 1 1 _) (wpAny_pure (wpAny_bind (collect_set (A := A.in1) hh ⟨o, ho, hx.1, hd⟩ T.fits (by unfold scanBound; omega) T.tab.ris T.led fun s1 vs k1 hz g1 o1 pm => ?_)))
  rw [T.rows, List.map_map, List.map_map] at pm
  obtain ⟨M1, p1, rfl⟩ := perm_back pm M rfl
  have l1 : M1.length = M.length := p1.length_eq
  generalize hvs : M1.map ((Prod.snd ∘ row w) ∘ Pt.elt) = vs
  have evs : vs = M1.map fun m => Value.ref m.1 := hvs.symm
  have vl : vs.length < 64 := by rw [evs, List.length_map, l1]; exact few
  refine wpAny_bind (wpAny_newList ?_ (by rw [sizeLine_eq]; have : vs.toArray.size = vs.length := by simp
                                          omega))
  have hoL : (s1.heap.push (seqObj "list" vs.toArray 0)).get? s1.heap.objs.size = some (seqObj "list" vs.toArray 0) := Heap.get?_push_size _ rfl
  have two : ∀ m ∈ M1, Two (s1.heap.push (seqObj "list" vs.toArray 0)) m.1 m.2.1 m.2.2 ∧ -C ≤ m.2.2 ∧ m.2.2 ≤ C := fun m hm => by
    obtain ⟨z, r⟩ := all m (p1.mem_iff.mp hm)
    exact ⟨z.keep fun b o e _ => Heap.get?_push_of_some _ (k1 b o e), r⟩
  have inC : ∀ v ∈ vs, InC (s1.heap.push (seqObj "list" vs.toArray 0)) C v := fun v hv => by
    rw [evs] at hv
    obtain ⟨m, hm, rfl⟩ := List.mem_map.mp hv
    exact ⟨_, _, _, rfl, two m hm⟩
  obtain ⟨r, hr⟩ := ranks_some (s1.heap.push (seqObj "list" vs.toArray 0)) C
  refine wpAny_bind (wpAny_holding (wpAny_call_entry slot_list_sort ⟨_, hoL, rfl⟩ entry_list_sort (sort_two (s := { s1 with heap := s1.heap.push (seqObj "list" vs.toArray 0) }) hoL vl inC r (fun t x y _ T => hr t x y T) (by show A.units + 2 + 8 < _; omega) fun out a1 a2 => ⟨_, rfl, ?_⟩) (args_list_sort _)))
  obtain ⟨n, hn⟩ := sortedHeap_at (vs := vs) (out := out) hoL
  obtain ⟨M2, p2, e2⟩ := perm_back a1 M1 evs
  refine wpAny_pure ⟨_, rfl, q _ s1.heap.objs.size n out M2 (fun b o e => ?_) g1 o1 hz hn e2 (p2.trans p1) ?_⟩
  · have e1 := k1 b o e
    have lt := Heap.lt_size e1
    show (sortedHeap (s1.heap.push (seqObj "list" vs.toArray 0)) s1.heap.objs.size vs out).get? b = some o
    rw [sortedHeap_old (Nat.ne_of_lt lt) (by rw [size_push']; exact Nat.lt_succ_of_lt lt)]
    exact Heap.get?_push_of_some _ e1
  · rw [e2] at a2
    refine List.Pairwise.imp_of_mem (fun {m m'} hm hm' le => ?_) (List.pairwise_map.mp a2)
    rw [hr _ _ _ (two m (p2.mem_iff.mp hm)).1, hr _ _ _ (two m' (p2.mem_iff.mp hm')).1] at le
    exact le
end
end Py.Ns
set_option Elab.async false
set_option linter.all false
set_option maxRecDepth 100000
set_option maxHeartbeats 2000000
/-! set(xs) and sorted(..) of pairs ((a,), b), as rules of the layer. -/
namespace Py.Ns
open PySem PySem.Spec PyProof.Rows L2
/-- in the layer's heap ((x,), y) lies at m -/
def VTwo (K : PySem.W.Frag) (H : Hp) (m : Pt) : Prop := ∃ i, SqT K H m.1 [.ref i, .int m.2.2] ∧ SqT K H i [.int m.2.1]
def HSet (w : World) (a : Addr) (M : List Pt) : HO := .ext fun h => Set1 w h a (M.map Pt.elt)
section
variable {X : Cx} {pins : List (Addr × Obj)} {σ : L2.St} {H : Hp} {s : Shared}
theorem two_raw (I : Inv X pins σ H s) {m : Pt} (h : VTwo X.K H m) : Two s.heap m.1 m.2.1 m.2.2 := by
  obtain ⟨i, h1, h2⟩ := h
  obtain ⟨us, r1, ⟨o, g1, c1, n1, d1⟩, _⟩ := I.tuple h1
  obtain ⟨ws, r2, ⟨o', g2, c2, n2, d2⟩, _⟩ := I.tuple h2
  cases r1 with
  | cons a1 r1 =>
    cases r1 with
    | cons a2 r1 =>
      cases r1
      cases r2 with
      | cons b1 r2 =>
        cases r2
        obtain ⟨t2, rfl⟩ := a2
        obtain ⟨t3, rfl⟩ := b1
        cases a1
        exact ⟨⟨i, t3, t2, o, o', n1, n2, g1, c1, d1, g2, c2, d2⟩⟩
theorem set_ok {w : World} {P : Program} {h : Heap} {a : Addr} {M : List Pt} (R : Set1 w h a (M.map Pt.elt)) : ObjOk P w H h a (HSet w a M) := by
  have ⟨o, es, ep, t, e, _⟩ := R
  refine ⟨R, ⟨o, e⟩, fun h1 h2 p k => ?_⟩
  have p' : Set1 w h1 a (M.map Pt.elt) := p
  exact p'.keep fun o e => k o e
/-- what a set has of the pairs of a list -/
def Of (ms M : List Pt) : Prop := M.length ≤ ms.length ∧ (∀ m ∈ M, m ∈ ms) ∧ (∀ m ∈ ms, ∃ m' ∈ M, m'.2 = m.2) ∧ (M.map (·.2)).Nodup
theorem elts_back {ms : List Pt} : ∀ L : List Elt, (∀ p ∈ L, p ∈ ms.map Pt.elt) → ∃ M : List Pt, L = M.map Pt.elt ∧ ∀ m ∈ M, m ∈ ms
  | [], _ => ⟨[], rfl, fun m h => by cases h⟩
  | p :: L, h => by
    obtain ⟨M, e, q⟩ := elts_back L fun p hp => h p (List.mem_cons_of_mem _ hp)
    obtain ⟨m, hm, rfl⟩ := List.mem_map.mp (h p List.mem_cons_self)
    refine ⟨m :: M, by rw [e, List.map_cons], fun m' h' => ?_⟩
    rcases List.mem_cons.mp h' with z | z
    · exact z ▸ hm
    · exact q m' z
theorem kTwo_inj {x y x' y' : Int} (e : kTwo x y = kTwo x' y') : x = x' ∧ y = y' := by
  unfold kTwo at e
  injection e with e
  injection e with e1 e2
  injection e1 with e1
  injection e1 with e1 _
  injection e1 with e1
  injection e2 with e2 _
  injection e2 with e2
  exact ⟨e1, e2⟩
theorem refs_val : ∀ {ms : List Pt} {us : List Value}, Vals (ms.map fun m => V.ref m.1) us → us = ms.map fun m => Value.ref m.1
  | [], _, .nil => rfl
  | m :: ms, _, .cons r t => by
    cases r
    rw [refs_val t]
    rfl
theorem val_refs : ∀ ms : List Pt, Vals (ms.map fun m => V.ref m.1) (ms.map fun m => Value.ref m.1)
  | [] => .nil
  | m :: ms => .cons rfl (val_refs ms)
/-- set(xs) -/
def rSet (K : PySem.W.Frag) (w : World) : List V → Hp → VK → Prop := fun vs H Q => ∃ l ms, vs = [V.ref l] ∧ SqL K H l (ms.map fun m : Pt => V.ref m.1) ∧ (∀ m ∈ ms, VTwo K H m) ∧ ms.length < 64 ∧ ∀ a M, H a = none → Of ms M → Q (.ref a) (upd H a (HSet w a M))
theorem cr_set (hc : X.calm = true) (u : X.A.units + 64 < cLine) : CallR X (.type "set") (rSet X.K X.w) := by
  intro pins s σ H vs us Q I r h
  obtain ⟨l, ms, rfl, hl, all, few, q⟩ := h
  rw [Vals.ref1 r]
  obtain ⟨its, rv, pl, _⟩ := I.list hl
  have hn : H s.heap.objs.size = none := I.hok.fresh (Nat.le_refl _)
  refine call_set (P := X.prog) (w := X.w) (xs := ms.map Pt.elt) (I.ok.hd hc) pl.isList (by rw [List.map_map]; exact refs_val (us := its) rv) (fun p hp => ?_) (by rw [List.length_map]; exact few) (by omega) fun s' md => ?_
  · obtain ⟨m, hm, rfl⟩ := List.mem_map.mp hp
    exact (two_raw I (all m hm)).at
  · obtain ⟨h', tk, L, rfl, st, ⟨t1, t2, t3⟩, k⟩ := md.ex
    have tk_all : (ms.map Pt.elt).take (ms.map Pt.elt).length = ms.map Pt.elt := List.take_length ..
    rw [tk_all] at t2 t3
    obtain ⟨M, rfl, mm⟩ := elts_back L t2
    have once : (M.map (·.2)).Nodup := by
      obtain ⟨o, es, ep, t, _, _, _, T⟩ := id st
      have z := T.once
      rw [List.map_map] at z
      refine List.pairwise_map.mpr ((List.pairwise_map.mp z).imp fun {m m'} ne e => ne ?_)
      show kTwo m.2.1 m.2.2 = kTwo m'.2.1 m'.2.2
      rw [e]
    refine ⟨.ref s.heap.objs.size, upd H s.heap.objs.size (HSet X.w s.heap.objs.size M), I.laid (t' := tk) k (Nat.le_refl _) (set_ok st), rfl, q _ M hn ⟨by simpa using t1, mm, fun m hm => ?_, once⟩⟩
    obtain ⟨p, hp, e⟩ := t3 _ (List.mem_map.mpr ⟨m, hm, rfl⟩)
    obtain ⟨m', hm', rfl⟩ := List.mem_map.mp hp
    obtain ⟨e1, e2⟩ := kTwo_inj e
    exact ⟨m', hm', Prod.ext e1 e2⟩
/-- sorted of it -/
def rSrt (K : PySem.W.Frag) (w : World) : List V → Hp → VK → Prop := fun vs H Q => ∃ a M C, vs = [V.ref a] ∧ H a = some (HSet w a M) ∧ (∀ m ∈ M, VTwo K H m ∧ -C ≤ m.2.2 ∧ m.2.2 ≤ C) ∧ M.length < 64 ∧
  ∀ (M' : List Pt) (c : Addr), M'.Perm M → M'.Pairwise (fun m m' => code C m.2.1 m.2.2 ≤ code C m'.2.1 m'.2.2) → H c = none → Q (.ref c) (upd H c (.lst (M'.map fun m => V.ref m.1)))
theorem cr_srt (hc : X.calm = true) (u : X.A.units + 64 < cLine) : CallR X (.builtin "sorted") (rSrt X.K X.w) := by
  intro pins s σ H vs us Q I r h
  obtain ⟨a, M, C, rfl, ha, all, few, q⟩ := h
  have st : Set1 X.w s.heap a (M.map Pt.elt) := (I.hok a _ ha).1
  rw [Vals.ref1 r]
  refine sorted_set st (I.ok.hd hc) (fun m hm => ⟨two_raw I (all m hm).1, (all m hm).2⟩) (by omega) fun s' c n out M' k g o le hg hout pm pw => ?_
  have lq : (M'.map fun m => V.ref m.1).length ≤ sizeLine := by
    have := pm.length_eq
    rw [List.length_map, sizeLine_eq]
    omega
  have hn : H c = none := I.hok.fresh le
  have J : Inv X pins σ (upd H c (.lst (M'.map fun m => V.ref m.1))) { s with heap := s'.heap, gens := s'.gens, drawn := s'.drawn, toks := s'.toks } :=
    I.call (ch := []) (Un.laid k le hn) (I.hok.laid k le ⟨lq, out.toList, n, by rw [hout]; exact val_refs M', hg⟩) (by rw [g]; exact I.bare) (fun _ z => nomatch z)
  have e : s' = { s with heap := s'.heap, gens := s'.gens, drawn := s'.drawn, toks := s'.toks } := by
    cases s'
    cases s
    cases o
    rfl
  rw [e]
  exact ⟨.ref c, _, J, rfl, q M' c pm pw hn⟩
end
end Py.Ns
set_option Elab.async false
set_option linter.all false
/-! Sorting pairs of ints without repeats, as a plain function. -/
namespace Py
def LtP (p q : Int × Int) : Prop := p.1 < q.1 ∨ p.1 = q.1 ∧ p.2 < q.2
instance (p q : Int × Int) : Decidable (LtP p q) := by unfold LtP; exact inferInstance
theorem LtP.trans {p q r : Int × Int} (h1 : LtP p q) (h2 : LtP q r) : LtP p r := by unfold LtP at *; omega
theorem LtP.irr {p : Int × Int} : ¬ LtP p p := by unfold LtP; omega
theorem LtP.total {p q : Int × Int} (h1 : p ≠ q) (h2 : ¬ LtP p q) : LtP q p := by
  unfold LtP at *
  have : ¬ (p.1 = q.1 ∧ p.2 = q.2) := fun z => h1 (Prod.ext z.1 z.2)
  omega
def insP (p : Int × Int) : List (Int × Int) → List (Int × Int)
  | [] => [p]
  | q :: l => if p = q then q :: l else if LtP p q then p :: q :: l else q :: insP p l
def srtP : List (Int × Int) → List (Int × Int)
  | [] => []
  | p :: l => insP p (srtP l)
theorem mem_insP {p x : Int × Int} : ∀ {l : List (Int × Int)}, x ∈ insP p l ↔ x = p ∨ x ∈ l
  | [] => by simp [insP]
  | q :: l => by
    unfold insP
    split
    · rename_i e
      subst e
      simp
    · split
      · simp
      · rw [List.mem_cons, mem_insP, List.mem_cons]
        constructor <;> (intro z; rcases z with z | z | z <;> simp [z])
theorem mem_srtP {x : Int × Int} : ∀ {l : List (Int × Int)}, x ∈ srtP l ↔ x ∈ l
  | [] => Iff.rfl
  | p :: l => by rw [srtP, mem_insP, mem_srtP, List.mem_cons]
theorem up_insP {p : Int × Int} : ∀ {l : List (Int × Int)}, l.Pairwise LtP → (insP p l).Pairwise LtP
  | [], _ => by simp [insP]
  | q :: l, h => by
    unfold insP
    rw [List.pairwise_cons] at h
    split
    · exact List.pairwise_cons.mpr h
    · split
      · rename_i _ lt
        refine List.pairwise_cons.mpr ⟨fun x hx => ?_, List.pairwise_cons.mpr h⟩
        rcases List.mem_cons.mp hx with z | z
        · exact z ▸ lt
        · exact lt.trans (h.1 x z)
      · rename_i ne lt
        refine List.pairwise_cons.mpr ⟨fun x hx => ?_, up_insP h.2⟩
        rcases mem_insP.mp hx with z | z
        · exact z ▸ LtP.total ne lt
        · exact h.1 x z
theorem up_srtP : ∀ l : List (Int × Int), (srtP l).Pairwise LtP
  | [] => .nil
  | _ :: l => up_insP (up_srtP l)
theorem len_insP (p : Int × Int) : ∀ l : List (Int × Int), (insP p l).length ≤ l.length + 1
  | [] => Nat.le_refl _
  | q :: l => by
    unfold insP
    split
    · exact Nat.le_succ _
    · split
      · exact Nat.le_refl _
      · exact Nat.succ_le_succ (len_insP p l)
theorem len_srtP : ∀ l : List (Int × Int), (srtP l).length ≤ l.length
  | [] => Nat.le_refl _
  | p :: l => Nat.le_trans (len_insP p _) (Nat.succ_le_succ (len_srtP l))
/-- what is strictly up is told by its members -/
theorem up_one : ∀ {l l' : List (Int × Int)}, l.Pairwise LtP → l'.Pairwise LtP → (∀ x, x ∈ l ↔ x ∈ l') → l = l'
  | [], [], _, _, _ => rfl
  | [], q :: _, _, _, h => by have := (h q).mpr List.mem_cons_self; cases this
  | p :: _, [], _, _, h => by have := (h p).mp List.mem_cons_self; cases this
  | p :: l, q :: l', h1, h2, h => by
    rw [List.pairwise_cons] at h1 h2
    have e : p = q := by
      rcases List.mem_cons.mp ((h p).mp List.mem_cons_self) with z | z
      · exact z
      · rcases List.mem_cons.mp ((h q).mpr List.mem_cons_self) with y | y
        · exact y.symm
        · exact absurd ((h2.1 p z).trans (h1.1 q y)) LtP.irr
    subst e
    rw [up_one h1.2 h2.2 fun x => ?_]
    have z := h x
    rw [List.mem_cons, List.mem_cons] at z
    constructor
    · intro hx
      rcases z.mp (.inr hx) with e | e
      · exact absurd (e ▸ h1.1 x hx) LtP.irr
      · exact e
    · intro hx
      rcases z.mpr (.inr hx) with e | e
      · exact absurd (e ▸ h2.1 x hx) LtP.irr
      · exact e
end Py
set_option Elab.async false
set_option linter.all false
set_option maxRecDepth 100000
/-! What sorted(set(xs)) gives is srtP. -/
namespace Py.Ns
open PySem PySem.Spec PyProof.Rows L2
theorem lt_of_code {C : Int} {p q : Int × Int} (h : code C p.1 p.2 ≤ code C q.1 q.2) (ne : p ≠ q) (b1 : -C ≤ p.2 ∧ p.2 ≤ C) (b2 : -C ≤ q.2 ∧ q.2 ≤ C) : LtP p q := by
  have z := code_lt (x := q.1) (x' := p.1) b2.1 b2.2 b1.1 b1.2
  rw [decide_eq_false (show ¬ code C q.1 q.2 < code C p.1 p.2 by omega)] at z
  have ne2 : ¬ (p.1 = q.1 ∧ p.2 = q.2) := fun w => ne (Prod.ext w.1 w.2)
  unfold LtP
  by_cases e : q.1 = p.1
  · rw [if_pos e] at z
    have z2 : ¬ q.2 < p.2 := of_decide_eq_false z.symm
    omega
  · rw [if_neg e] at z
    have z2 : ¬ q.1 < p.1 := of_decide_eq_false z.symm
    omega
theorem is_srt {C : Int} {ms M M' : List Pt} (o : Of ms M) (p : M'.Perm M) (up : M'.Pairwise (fun m m' => code C m.2.1 m.2.2 ≤ code C m'.2.1 m'.2.2)) (bd : ∀ m ∈ ms, -C ≤ m.2.2 ∧ m.2.2 ≤ C) : M'.map (·.2) = srtP (ms.map (·.2)) := by
  obtain ⟨_, o2, o3, o4⟩ := o
  have nd : (M'.map (·.2)).Nodup := (p.map (·.2)).nodup_iff.mpr o4
  have inn : ∀ m ∈ M', m ∈ ms := fun m hm => o2 m (p.mem_iff.mp hm)
  refine up_one ?_ (up_srtP _) fun x => ?_
  · refine List.pairwise_map.mpr ?_
    have both := List.Pairwise.and up (List.pairwise_map.mp nd)
    exact List.Pairwise.imp_of_mem (fun {m m'} h1 h2 h => lt_of_code h.1 h.2 (bd m (inn m h1)) (bd m' (inn m' h2))) both
  · rw [mem_srtP]
    constructor
    · intro h
      obtain ⟨m, hm, e⟩ := List.mem_map.mp h
      exact List.mem_map.mpr ⟨m, inn m hm, e⟩
    · intro h
      obtain ⟨m, hm, e⟩ := List.mem_map.mp h
      obtain ⟨m', hm', e'⟩ := o3 m hm
      exact List.mem_map.mpr ⟨m', p.mem_iff.mpr hm', e'.trans e⟩
/-- some number bounds all -/
theorem bound (ms : List Pt) : ∃ C : Int, ∀ m ∈ ms, -C ≤ m.2.2 ∧ m.2.2 ≤ C := by
  induction ms with
  | nil => exact ⟨0, fun m h => by cases h⟩
  | cons a l ih =>
    obtain ⟨C, h⟩ := ih
    refine ⟨max C (a.2.2.natAbs), fun m hm => ?_⟩
    rcases List.mem_cons.mp hm with e | e
    · subst e
      omega
    · have := h m e
      omega
/-! ### the data -/
def pairD (p : Int × Int) : D := .tup [.tup [.int p.1], .int p.2]
def unD : D → Option (Int × Int)
  | .tup [.tup [.int x], .int y] => some (x, y)
  | _ => none
theorem unD_some {d : D} {p : Int × Int} (h : unD d = some p) : d = pairD p := by
  unfold unD at h
  split at h
  · injection h with h
    subst h
    rfl
  · cases h
/-- sorted(set(ds)) of fewer than 64 pairs -/
def srtD (ds : List D) : Option (List D) := if ds.length < 64 then (ds.mapM unD).map fun ps => (srtP ps).map pairD else none
end Py.Ns
set_option Elab.async false
set_option linter.all false
set_option maxRecDepth 100000
set_option maxHeartbeats 1000000
/-! sorted(set(xs)) in our language. -/
namespace Py
open PySem PySem.Spec PyProof.Rows L2 Ns
theorem vtwo_of {κ : Kt} {α : List Addr} {H : Hp} {p : Int × Int} {v : V} (r : Rep κ α H (pairD p) v) : ∃ m : Pt, m.2 = p ∧ v = .ref m.1 ∧ VTwo κ.K H m := by
  obtain ⟨a, vs, rfl, t, r⟩ := rep_tup r
  simp only [RepL] at r
  obtain ⟨v1, r1, rfl, q1, v2, r2, rfl, q2, rfl⟩ := r
  obtain ⟨b, ws, rfl, t2, q3⟩ := rep_tup q1
  simp only [RepL] at q3
  obtain ⟨v3, r3, rfl, q4, rfl⟩ := q3
  have e1 := rep_int q2
  have e2 := rep_int q4
  subst e1
  subst e2
  exact ⟨(a, p), rfl, rfl, b, t.sq, t2.sq⟩
theorem vtwos_of {κ : Kt} {α : List Addr} {H : Hp} : ∀ {ps : List (Int × Int)} {vs : List V}, RepL κ α H (ps.map pairD) vs → ∃ ms : List Pt, ms.map (·.2) = ps ∧ vs = ms.map (fun m => V.ref m.1) ∧ ∀ m ∈ ms, VTwo κ.K H m ∧ Rep κ α H (pairD m.2) (.ref m.1)
  | [], vs, r => by
    simp only [List.map_nil, RepL] at r
    exact ⟨[], rfl, r, fun m h => by cases h⟩
  | p :: ps, vs, r => by
    simp only [List.map_cons, RepL] at r
    obtain ⟨v, r', rfl, q1, q2⟩ := r
    obtain ⟨m, rfl, rfl, z⟩ := vtwo_of q1
    obtain ⟨ms, rfl, rfl, q⟩ := vtwos_of q2
    refine ⟨m :: ms, rfl, rfl, fun m' h => ?_⟩
    rcases List.mem_cons.mp h with e | e
    · subst e
      exact ⟨z, q1⟩
    · exact q m' e
theorem mapM_un : ∀ {ds : List D} {ps : List (Int × Int)}, ds.mapM unD = some ps → ds = ps.map Ns.pairD
  | [], ps, h => by
    simp at h
    subst h
    rfl
  | d :: ds, ps, h => by
    rw [List.mapM_cons] at h
    cases hu : unD d with
    | none => rw [hu] at h; cases h
    | some p =>
      cases hm : ds.mapM unD with
      | none => rw [hu, hm] at h; cases h
      | some qs =>
        rw [hu, hm] at h
        injection h with h
        subst h
        rw [List.map_cons, ← unD_some hu, ← mapM_un hm]
section
variable {X : Cx} {M : Mo} {W : XK} {pos : Pos} {a : Expr} {ma : Env → Sto → Res D}
theorem repl_srt {κ : Kt} {α : List Addr} {H : Hp} : ∀ ms : List Pt, (∀ m ∈ ms, Rep κ α H (pairD m.2) (.ref m.1)) → RepL κ α H ((ms.map (·.2)).map pairD) (ms.map fun m => V.ref m.1)
  | [], _ => RepL.nil
  | m :: ms, h => RepL.cons (h m List.mem_cons_self) (repl_srt ms fun m' h' => h m' (List.mem_cons_of_mem _ h'))
theorem ok_ssort {p1 p2 pos2 : Pos} (hc : X.calm = true) (u : X.A.units + 64 < cLine) (hgs : Gl X "set") (hms : X.mg "set" = none) (hgr : Gl X "sorted") (hmr : X.mg "sorted" = none) (hS : M.G.srt = srtD) (ha : PE X a (eT X M W ma))
    (na : starEach [a] X.env = (false, eval a X.env) :: starEach [] X.env) :
    PE X (.Call (.Name "sorted" p1) [.Call (.Name "set" p2) [a] [] pos2] [] pos) (eT X M W fun E S => (ma E S).bind fun x S => match (lstOf S x).bind M.G.srt with
      | some ds => .ok (.ref S.length) (S ++ [.lst ds])
      | none => .bad) := by
  refine (pe_callB (cr_srt hc u) hgr hmr rfl (pa_cons (pe_callTy (cr_set hc u) hgs hms rfl (pa_cons ha pa_nil (hs := na)) (he := na)) pa_nil)).imp fun σ H Q h => one_of (r := fun x H Q => rSet X.K X.w [x] H fun u H' => rSrt X.K X.w [u] H' Q) (fun α H S x v Q rs p h => ?_) σ H Q h
  split at h
  · rename_i zs hz
    rw [hS] at hz
    cases hl : lstOf S x with
    | none => rw [hl] at hz; cases hz
    | some ds =>
      rw [hl] at hz
      replace hz : srtD ds = some zs := hz
      unfold srtD at hz
      split at hz
      · rename_i few
        cases hm : ds.mapM unD with
        | none => rw [hm] at hz; cases hz
        | some ps =>
          rw [hm] at hz
          injection hz with hz
          subst hz
          have e := mapM_un hm
          subst e
          obtain ⟨l, vs, rfl, sq, rl⟩ := lstOf_at rs hl p
          obtain ⟨ms, rfl, rfl, q⟩ := vtwos_of rl
          have few2 : ms.length < 64 := by simpa using few
          refine ⟨l, ms, rfl, sq, fun m hm => (q m hm).1, few2, fun b N hb o => ?_⟩
          obtain ⟨C, hC⟩ := Ns.bound ms
          have keep : Ext α H α (upd H b (HSet X.w b N)) := Ext.newTup hb
          refine ⟨b, N, C, rfl, by simp [upd], fun m hm => ⟨?_, hC m (o.2.1 m hm)⟩, Nat.lt_of_le_of_lt o.1 few2, fun N' c pm up hcn => ?_⟩
          · obtain ⟨m2, e2, e3, z⟩ := vtwo_of (Rep.mono keep _ _ (q m (o.2.1 m hm)).2)
            injection e3 with e3
            have e4 : m2 = m := Prod.ext e3.symm e2
            exact e4 ▸ z
          · have es := is_srt o pm up hC
            have rl2 : RepL (kt X M) α (upd H b (HSet X.w b N)) ((srtP (ms.map (·.2))).map pairD) (N'.map fun m => V.ref m.1) := by
              rw [← es]
              exact repl_srt N' fun m hm => Rep.mono keep _ _ (q m (o.2.1 m (pm.mem_iff.mp hm))).2
            exact h _ _ (keep.trans (Ext.newObj hcn)) ((rs.newTup hb).newLst hcn rl2) _ (mk_new (rs.newTup hb))
      · cases hz
  · exact h.elim
end
end Py
set_option Elab.async false
set_option linter.all false
set_option maxRecDepth 100000
set_option maxHeartbeats 1000000
/-! The text of a def against its form in our language: expressions. -/
namespace Py
open PySem PySem.Spec PyProof.Rows L2
/-- built-in names that the texts use -/
def bltN : List Str := ["len", "abs", "max", "min", "int", "sum", "all", "any", "tuple", "list", "repr", "isinstance", "range", "zip", "enumerate", "bool", "str", "sorted", "set", "ValueError"]
/-- sh: nothing is just being shown; lam: lambdas may be made -/
structure Gk where
  sh : Bool
  lam : Bool
/-- what is known of a module, whatever runs; k: how deep calls may go; gk: nothing is just being shown -/
structure Base (P : Program) (w : World) (K : PySem.W.Frag) (mg : Str → Option Value) (base : Heap) (M : Mo) (k : Nat) (gk : Gk) : Prop where
  hC : M.G.nC = M.nm.nC
  srt : M.G.srt = Ns.srtD
  blt : ∀ x ∈ bltN, mg x = none
  con : ∀ i, i < M.nm.nCon → ∃ v u, mg (M.nm.conN i) = some u ∧ RelV v u ∧ ∀ α H, Rep ⟨K, M.cls, M.T⟩ α H (M.G.con i) v
  dic : ∀ i, i < M.nm.nDic → ∃ d es n, mg (M.nm.dicN i) = some (.ref d) ∧ KDict K w d es n ∧ ∀ y e, (M.G.dic i).lookup y = some e → ∃ u v, PySem.W.nsIn K d y = some (some u) ∧ RelV v u ∧ ∀ α H, Rep ⟨K, M.cls, M.T⟩ α H e v
  xcf : ∀ c, c < M.nm.nC → XcF K (M.cls c)
  xcm : ∀ c, c < M.nm.nC → mg (M.nm.clsN c) = some (.ref (M.cls c))
  xcs : ∀ c, c < M.nm.nC → ∀ c', c' < M.nm.nC → PySem.W.kitOne K (.ref (M.cls c')) (.ref (M.cls c)) = some (M.G.sub c' c)
  fns : ∀ i, i < M.nm.nFn → (M.nm.gd i = true → gk.sh = true) → ∃ (gd : Bool) (k' : Nat) (f : Addr) (fd : FuncData) (ps : List Str), (gd = true → gk.sh = true) ∧ k' ≤ k ∧ mg (M.nm.fnN i) = some (.ref f) ∧ PySem.W.keepIn K (.ref f) = true ∧ Binds K fd ps [] ∧
    (∀ ds S, ds.length ≠ ps.length → M.G.call i ds S = .bad) ∧ FnG P w K mg base (L2.CX P w) gd k' f fd ps (spOf ⟨K, M.cls, M.T⟩ ps.length (M.G.call i))
  rse : ∀ c, c < M.nm.nC → OexC K (M.cls c) ∧ ∃ (fI : Addr) (k' : Nat) (fd : FuncData) (ps : List Str), PySem.W.findIn K (.ref (M.cls c)) "__init__" = some (some (.ref fI)) ∧ PySem.W.typeIn K (.ref fI) = some (.type "function") ∧
    FnOk P w K mg base (L2.CX P w) k' fI fd ps (spIni K) ∧ k' + 1 ≤ k ∧ Binds K fd ps []
/-- what is known where a lambda may be made -/
structure HearOk (X : Cx) (M : Mo) : Prop where
  F : HearF X M.nm.hearN (.ref (M.cls M.G.top))
  ex : ∃ (c P : Addr) (k : Nat), LamX.TabB X.base X.mg c P ∧ X.env.code = .ref c ∧ (P, X.env.qual ++ "<lambda>") ∈ M.T ∧ (∀ p ∈ M.T, p.1 = P → p.2 = X.env.qual ++ "<lambda>") ∧ Room (k + 2) X.A ∧ Base X.prog X.w X.K X.mg X.base M k ⟨false, false⟩
  xce : ∀ c, c < M.G.nC → M.G.sub c M.G.top = true → PySem.W.exmOne X.K (.ref (M.cls c)) (.ref (M.cls M.G.top)) = some true
/-- what is known around a body -/
structure Stat (X : Cx) (M : Mo) (N : List Str) (sc : Scope) (fnb : Bool) (gk : Gk) : Prop where
  eN : X.N = N
  eS : X.env.scope = sc
  fn : fnb = true → ∀ x, X.fn x = true
  nd : X.N.Nodup
  hC : M.G.nC = M.nm.nC
  srt : M.G.srt = Ns.srtD
  calm : X.calm = true
  un : X.A.units + 128 < cLine
  gks : gk.sh = true → X.A.guards = some []
  blt : ∀ x ∈ bltN, X.mg x = none
  con : ∀ i, i < M.nm.nCon → ConOk X M (M.nm.conN i) (M.G.con i)
  dic : ∀ i, i < M.nm.nDic → DicOk X M (M.nm.dicN i) (M.G.dic i)
  xcf : ∀ c, c < M.G.nC → XcF X.K (M.cls c)
  xcm : ∀ c, c < M.G.nC → X.mg (M.nm.clsN c) = some (.ref (M.cls c))
  xcs : ∀ c, c < M.G.nC → ∀ c', c' < M.G.nC → PySem.W.kitOne X.K (.ref (M.cls c')) (.ref (M.cls c)) = some (M.G.sub c' c)
  fns : ∀ i, i < M.nm.nFn → (M.nm.gd i = true → gk.sh = true) → CallOk X M i (M.nm.fnN i)
  hear : gk.lam = true → HearOk X M
def gOk (sc : Scope) (x : Str) : Bool := glB sc x && dbgB x
def ownP (N : List Str) (own : List Nat) : List (Str × Nat) := own.map fun j => ((N[j]?).getD "", j)
mutual
def chkG (N : List Str) (fnb : Bool) : Tg → Scope → Expr → Bool
  | .nm i, sc, e => match vName e with
    | some x => decide (N[i]? = some x) && (match sc.names.lookup x with
      | some .local => true
      | some .cell => fnb
      | _ => false)
    | none => false
  | .tp ts, sc, e => match vTup e with
    | some es => chkGs N fnb ts sc es
    | none => false
def chkGs (N : List Str) (fnb : Bool) : List Tg → Scope → List Expr → Bool
  | [], _, es => es.isEmpty
  | t :: ts, sc, es => match es with
    | e :: es => noStar e && chkG N fnb t sc e && chkGs N fnb ts sc es
    | [] => false
end
def Exs.len : Exs → Nat
  | .nil => 0
  | .cons _ es => es.len + 1
  | .star _ es => es.len + 1
/-- a lambda without parameters -/
def noPar (a : Arguments) : Bool := a.posonlyargs.isEmpty && a.args.isEmpty && a.vararg.isNone && a.kwonlyargs.isEmpty && a.kw_defaults.isEmpty && a.kwarg.isNone && a.defaults.isEmpty
def vLam : Expr → Option (Str × Arguments × Expr × Scope)
  | .Call (.Name x _) [.Lambda ps b sc _] [] _ => some (x, ps, b, sc)
  | _ => none
theorem vLam_eq {e : Expr} {x ps b sc} (h : vLam e = some (x, ps, b, sc)) : ∃ p q r, e = .Call (.Name x p) [.Lambda ps b sc q] [] r := by
  unfold vLam at h
  split at h
  · cases h; exact ⟨_, _, _, rfl⟩
  · cases h
variable (Q : Nm) (N : List Str)
mutual
def chkE : Gk → Ex → Scope → Expr → Bool
  | gk, .var i, sc, e => match vName e with
    | some x => decide (N[i]? = some x) && visB sc x && dbgB x
    | none => false
  | gk, .int i, _, e => match vCon e with
    | some (.int j) => decide (i = j)
    | _ => false
  | gk, .bl b, _, e => match vCon e with
    | some (.bool j) => decide (b = j)
    | _ => false
  | gk, .non, _, e => match vCon e with
    | some .none => true
    | _ => false
  | gk, .str x, _, e => match vCon e with
    | some (.str j) => decide (x = j)
    | _ => false
  | gk, .glb i, sc, e => match vName e with
    | some x => decide (i < Q.nCon) && decide (x = Q.conN i) && gOk sc x
    | none => false
  | gk, .tup es, sc, e => match vTup e with
    | some xs => chkA gk es sc xs
    | none => false
  | gk, .lst es, sc, e => match vLst e with
    | some xs => chkA gk es sc xs
    | none => false
  | gk, .bin op a b, sc, e => match vBin e with
    | some (a', o, b') => decide (op = o) && (match op with | .Add | .Sub | .Mult | .FloorDiv | .Mod | .Pow => true | _ => false) && chkE gk a sc a' && chkE gk b sc b'
    | none => false
  | gk, .neg a, sc, e => match vUn e with
    | some (.USub, a') => chkE gk a sc a'
    | _ => false
  | gk, .nt a, sc, e => match vUn e with
    | some (.Not, a') => chkE gk a sc a'
    | _ => false
  | gk, .cmp op a b, sc, e => match vCmp e with
    | some (a', o, b') => decide (op = o) && noSet b' && chkE gk a sc a' && chkE gk b sc b'
    | none => false
  | gk, .chn op op' a b c, sc, e => match vChn e with
    | some (a', o, o', b', c') => decide (op = o) && decide (op' = o') && noSet c' && chkE gk a sc a' && chkE gk b sc b' && chkE gk c sc c'
    | none => false
  | gk, .isN a no, sc, e => match vCmp e with
    | some (a', o, b') => decide (o = if no then .IsNot else .Is) && (match vCon b' with
      | some .none => true
      | _ => false) && chkE gk a sc a'
    | none => false
  | gk, .isB a b no, sc, e => match vCmp e with
    | some (a', o, b') => decide (o = if no then .IsNot else .Is) && (match vCon b' with
      | some (.bool k) => decide (b = k)
      | _ => false) && chkE gk a sc a'
    | none => false
  | gk, .con a b, sc, e => match vBool e with
    | some (.And, a', b', rest, pos) => chkE gk a sc a' && chkE gk b sc (if rest.isEmpty then b' else .BoolOp .And (b' :: rest) pos)
    | _ => false
  | gk, .dis a b, sc, e => match vBool e with
    | some (.Or, a', b', rest, pos) => chkE gk a sc a' && chkE gk b sc (if rest.isEmpty then b' else .BoolOp .Or (b' :: rest) pos)
    | _ => false
  | gk, .ife t a b, sc, e => match vIf e with
    | some (t', a', b') => chkT gk t sc t' && chkE gk a sc a' && chkE gk b sc b'
    | none => false
  | gk, .ix a b, sc, e => match vSub e with
    | some (a', b') => noSlice b' && chkE gk a sc a' && chkE gk b sc b'
    | none => false
  | gk, .sl a lo hi, sc, e => match vSub e with
    | some (a', b') => match vSlice b' with
      | some (lo', hi') => chkE gk a sc a' && chkO gk lo sc lo' && chkO gk hi sc hi'
      | none => false
    | none => false
  | gk, .call f es, sc, e => match vCall e with
    | some (x, a, xs) => decide (f < Q.nFn) && decide (x = Q.fnN f) && gOk sc x && (!Q.gd f || gk.sh) && (a :: xs).all noStar && chkA gk es sc (a :: xs)
    | none => false
  | gk, .bi b es, sc, e => match vCall e with
    | some (x, a, xs) => decide (x = b.name) && glB sc x && (match b with | .repr => gk.sh | _ => true) && (a :: xs).all noStar && chkA gk es sc (a :: xs)
    | none => false
  | gk, .isi a t, sc, e => match vCall e with
    | some (x, a', [y]) => decide (x = "isinstance") && glB sc x && (match vName y with
      | some y => decide (y = t.name) && glB sc y
      | none => false) && noStar a' && chkE gk a sc a'
    | _ => false
  | gk, .isx a c, sc, e => match vCall e with
    | some (x, a', [y]) => decide (x = "isinstance") && glB sc x && (match vName y with
      | some y => decide (c < Q.nC) && decide (y = Q.clsN c) && gOk sc y
      | none => false) && noStar a' && chkE gk a sc a'
    | _ => false
  | gk, .ssort a, sc, e => match vCall e with
    | some (x, r, []) => decide (x = "sorted") && glB sc x && (match vCall r with
      | some (y, a', []) => decide (y = "set") && glB sc y && noStar a' && chkE gk a sc a'
      | _ => false)
    | _ => false
  | gk, .lrange a, sc, e => match vCall e with
    | some (x, r, []) => decide (x = "list") && glB sc x && (match vCall r with
      | some (y, a', []) => decide (y = "range") && glB sc y && noStar a' && chkE gk a sc a'
      | _ => false)
    | _ => false
  | gk, .mth o m es, sc, e => match vMth e with
    | some (o', x, ap, xs, cp) => decide (x = m.name) && noCall0 o' && (ap.endLine == cp.line) && xs.all noStar && decide (xs.length < 30) && chkE gk o sc o' && chkA gk es sc xs
    | none => false
  | gk, .lc e tg own it ifs, sc, x => match vLc x with
    | some (e', tg', it', ifs', scope) => blkC N sc scope (ownP N own) && decide (∀ j ∈ tg.sl, j ∈ own) && noSet it' && chkI gk it sc tg' it' && chkG N false tg (relS scope sc) tg' && chkF gk ifs (relS scope sc) ifs' && chkE gk e (relS scope sc) e'
    | none => false
  | gk, .fld o, sc, e => match vAtt e with
    | some (o', f) => decide (f = "value") && noCall0 o' && chkE gk o sc o'
    | none => false
  | gk, .dget i a, sc, e => match vSub e with
    | some (d, a') => match vName d with
      | some x => decide (i < Q.nDic) && decide (x = Q.dicN i) && gOk sc x && noSlice a' && chkE gk a sc a'
      | none => false
    | none => false
  | gk, .heard b, sc, e => match vLam e with
    | some (x, ps, b', scope) => gk.lam && decide (x = Q.hearN) && gOk sc x && LamX.lamSB sc scope && noPar ps && chkE ⟨false, false⟩ b scope b'
    | none => false
/-- as a test -/
def chkT : Gk → Ex → Scope → Expr → Bool
  | gk, .con a b, sc, e => match vBool e with
    | some (.And, a', b', rest, pos) => chkT gk a sc a' && chkT gk b sc (if rest.isEmpty then b' else .BoolOp .And (b' :: rest) pos)
    | _ => false
  | gk, .dis a b, sc, e => match vBool e with
    | some (.Or, a', b', rest, pos) => chkT gk a sc a' && chkT gk b sc (if rest.isEmpty then b' else .BoolOp .Or (b' :: rest) pos)
    | _ => false
  | gk, .nt a, sc, e => match vUn e with
    | some (.Not, a') => chkT gk a sc a'
    | _ => false
  | gk, .var i, sc, e => match vName e with
    | some x => decide (N[i]? = some x) && visB sc x && dbgB x
    | none => false
  | gk, .cmp op a b, sc, e => match vCmp e with
    | some (a', o, b') => decide (op = o) && noSet b' && chkE gk a sc a' && chkE gk b sc b'
    | none => false
  | gk, .chn op op' a b c, sc, e => match vChn e with
    | some (a', o, o', b', c') => decide (op = o) && decide (op' = o') && noSet c' && chkE gk a sc a' && chkE gk b sc b' && chkE gk c sc c'
    | none => false
  | gk, .isN a no, sc, e => match vCmp e with
    | some (a', o, b') => decide (o = if no then .IsNot else .Is) && (match vCon b' with
      | some .none => true
      | _ => false) && chkE gk a sc a'
    | none => false
  | gk, .isB a b no, sc, e => match vCmp e with
    | some (a', o, b') => decide (o = if no then .IsNot else .Is) && (match vCon b' with
      | some (.bool k) => decide (b = k)
      | _ => false) && chkE gk a sc a'
    | none => false
  | gk, .ix a b, sc, e => match vSub e with
    | some (a', b') => noSlice b' && chkE gk a sc a' && chkE gk b sc b'
    | none => false
  | gk, .call f es, sc, e => match vCall e with
    | some (x, a, xs) => decide (f < Q.nFn) && decide (x = Q.fnN f) && gOk sc x && (!Q.gd f || gk.sh) && (a :: xs).all noStar && chkA gk es sc (a :: xs)
    | none => false
  | gk, .bi b es, sc, e => match vCall e with
    | some (x, a, xs) => decide (x = b.name) && glB sc x && (match b with | .repr => gk.sh | _ => true) && (a :: xs).all noStar && chkA gk es sc (a :: xs)
    | none => false
  | gk, .isi a t, sc, e => match vCall e with
    | some (x, a', [y]) => decide (x = "isinstance") && glB sc x && (match vName y with
      | some y => decide (y = t.name) && glB sc y
      | none => false) && noStar a' && chkE gk a sc a'
    | _ => false
  | gk, .isx a c, sc, e => match vCall e with
    | some (x, a', [y]) => decide (x = "isinstance") && glB sc x && (match vName y with
      | some y => decide (c < Q.nC) && decide (y = Q.clsN c) && gOk sc y
      | none => false) && noStar a' && chkE gk a sc a'
    | _ => false
  | _, _, _, _ => false
def chkA : Gk → Exs → Scope → List Expr → Bool
  | gk, .nil, _, xs => xs.isEmpty
  | gk, .cons e es, sc, xs => match xs with
    | x :: xs => noStar x && chkE gk e sc x && chkA gk es sc xs
    | [] => false
  | gk, .star e es, sc, xs => match xs with
    | .Starred x _ :: xs => chkE gk e sc x && chkA gk es sc xs
    | _ => false
def chkO : Gk → Eo → Scope → Option Expr → Bool
  | gk, .no, _, e => e.isNone
  | gk, .yes x, sc, e => match e with
    | some e => chkE gk x sc e
    | none => false
def chkF : Gk → Eo → Scope → List Expr → Bool
  | gk, .no, _, es => es.isEmpty
  | gk, .yes x, sc, es => match es with
    | [e] => chkT gk x sc e
    | _ => false
/-- what is walked, for the target tg -/
def chkI : Gk → It → Scope → Expr → Expr → Bool
  | gk, .seq e, sc, _, x => chkE gk e sc x
  | gk, .r1 a, sc, _, x => match vCall x with
    | some (f, a', []) => decide (f = "range") && glB sc f && noStar a' && chkE gk a sc a'
    | _ => false
  | gk, .r2 a b, sc, _, x => match vCall x with
    | some (f, a', [b']) => decide (f = "range") && glB sc f && noStar a' && noStar b' && chkE gk a sc a' && chkE gk b sc b'
    | _ => false
  | gk, .enum a, sc, tg, x => match vCall x with
    | some (f, a', []) => (vTup tg).isSome && decide (f = "enumerate") && glB sc f && noStar a' && chkE gk a sc a'
    | _ => false
  | gk, .zip a b, sc, tg, x => match vCall x with
    | some (f, a', [b']) => (vTup tg).isSome && decide (f = "zip") && glB sc f && noStar a' && noStar b' && chkE gk a sc a' && chkE gk b sc b'
    | _ => false
end
section
variable {P : Program} {w : World} {K : PySem.W.Frag} {mg : Str → Option Value} {base : Heap} {M : Mo} {k : Nat} {gk : Gk}
/-- .. in a context over it -/
theorem Base.stat (B : Base P w K mg base M k gk) {X : Cx} {N : List Str} {sc : Scope} {fnb : Bool} (eP : X.prog = P) (ew : X.w = w) (eK : X.K = K) (em : X.mg = mg) (eb : X.base = base) (eN : X.N = N) (eS : X.env.scope = sc) (hf : fnb = true → ∀ x, X.fn x = true) (nd : N.Nodup) (hc : X.calm = true) (hr : Room k X.A)
    (hg : gk.sh = true → X.A.guards = some []) (hh : gk.lam = true → HearOk X M) : Stat X M N sc fnb gk where
  eN := eN
  eS := eS
  fn := hf
  nd := by rw [eN]; exact nd
  hC := B.hC
  srt := B.srt
  calm := hc
  un := by have := hr.un; omega
  gks := hg
  blt := by rw [em]; exact B.blt
  con := fun i hi => by
    obtain ⟨v, u, h1, h2, h3⟩ := B.con i hi
    exact ⟨v, u, by rw [em]; exact h1, h2, by unfold kt; rw [eK]; exact h3⟩
  dic := fun i hi => by
    obtain ⟨d, es, n, h1, h2, h3⟩ := B.dic i hi
    exact ⟨⟨d, es, n, by rw [em]; exact h1, by rw [eK, ew]; exact h2, by unfold kt; rw [eK]; exact h3⟩⟩
  xcf := fun c hc' => by rw [eK]; exact B.xcf c (by rw [← B.hC]; exact hc')
  xcm := fun c hc' => by rw [em]; exact B.xcm c (by rw [← B.hC]; exact hc')
  xcs := fun c hc1 c' hc2 => by rw [eK]; exact B.xcs c (by rw [← B.hC]; exact hc1) c' (by rw [← B.hC]; exact hc2)
  fns := fun i hi hgd => by
    obtain ⟨gd, k', f, fd, ps, h0, h1, h2, h3, h4, h5, h6⟩ := B.fns i hi hgd
    refine ⟨gd, k', f, fd, ps, fun z => hg (h0 z), hr.mono h1, by rw [em]; exact h2, by rw [eK]; exact h3, by rw [eK]; exact h4, h5, ?_⟩
    unfold kt
    rw [eP, ew, eK, em, eb]
    exact h6
  hear := hh
end
end Py
set_option Elab.async false
set_option linter.all false
set_option maxRecDepth 100000
set_option maxHeartbeats 4000000
/-! Where the text of an expression is held, the program does what our language says. -/
namespace Py
open PySem PySem.Spec PyProof.Rows L2
theorem Res.bind_assoc {β γ δ : Type} (r : Res β) (f : β → Sto → Res γ) (g : γ → Sto → Res δ) : (r.bind f).bind g = r.bind fun b S => (f b S).bind g := by
  cases r <;> rfl
section
variable {X : Cx} {M : Mo} {N : List Str} {sc : Scope} {fnb : Bool} {gk : Gk}
theorem Stat.gl (st : Stat X M N sc fnb gk) {x : Str} (h : glB sc x = true) : Gl X x := by
  show X.env.scope.names.lookup x = _
  rw [st.eS]
  exact glB_ok h
theorem Stat.un64 (st : Stat X M N sc fnb gk) : X.A.units + 64 < cLine := by have := st.un; omega
theorem gOk_ok {x : Str} (h : gOk sc x = true) : glB sc x = true ∧ (x == ("__debug__" : Str)) = false := by
  unfold gOk at h
  rw [Bool.and_eq_true] at h
  exact ⟨h.1, (dbgB_ok h.2).1⟩
theorem isOp_ok {o : CmpOp} {no : Bool} (h : o = if no then .IsNot else .Is) : (o = .Is ∧ no = false) ∨ (o = .IsNot ∧ no = true) := by
  cases no
  · exact .inl ⟨h, rfl⟩
  · exact .inr ⟨h, rfl⟩
mutual
theorem chkG_ok : ∀ (t : Tg) {X : Cx} {sc : Scope} {fnb : Bool} (st : Stat X M N sc fnb gk) (e : Expr), chkG N fnb t sc e = true → PG X e (gT (kt X M) t.sl t.put)
  | .nm i, X, sc, fnb, st, e, h => by
    simp only [chkG] at h
    split at h
    · rename_i x hv
      obtain ⟨p, rfl⟩ := vName_eq hv
      rw [Bool.and_eq_true, decide_eq_true_eq] at h
      obtain ⟨h1, h2⟩ := h
      split at h2
      · rename_i hl
        exact ok_tgN st.nd (by rw [st.eN]; exact h1) (.inl (by rw [st.eS]; exact hl)) (.inr (by rw [st.eS]; exact hl))
      · rename_i hl
        exact ok_tgN st.nd (by rw [st.eN]; exact h1) (.inr (by rw [st.eS]; exact hl)) (.inl (st.fn h2 x))
      · cases h2
    · cases h
  | .tp ts, X, sc, fnb, st, e, h => by
    simp only [chkG] at h
    split at h
    · rename_i es hv
      obtain ⟨k, p, rfl⟩ := vTup_eq hv
      obtain ⟨z1, z2, z3⟩ := chkGs_ok ts st es h
      exact ok_tgT st.calm z1 z2 z3 fun ds E E' q => puts_length q
    · cases h
theorem chkGs_ok : ∀ (ts : List Tg) {X : Cx} {sc : Scope} {fnb : Bool} (st : Stat X M N sc fnb gk) (es : List Expr), chkGs N fnb ts sc es = true →
    PGs X es (gTs (kt X M) (Tg.sls ts) (Tg.puts ts)) ∧ (assignEach es X.env).length = ts.length ∧ (assignEach es X.env).findIdx? (·.1) = none
  | [], X, sc, fnb, st, es, h => by
    simp only [chkGs] at h
    cases es with
    | nil => exact ⟨ok_tgs0, rfl, rfl⟩
    | cons e es => cases h
  | t :: ts, X, sc, fnb, st, es, h => by
    simp only [chkGs] at h
    cases es with
    | nil => cases h
    | cons e es =>
      simp only [Bool.and_eq_true] at h
      obtain ⟨⟨h1, h2⟩, h3⟩ := h
      obtain ⟨z1, z2, z3⟩ := chkGs_ok ts st es h3
      have ee : assignEach (e :: es) X.env = (false, assign e X.env) :: assignEach es X.env := by
        cases e <;> first
          | exact absurd (show false = true from h1) Bool.false_ne_true
          | rfl
      refine ⟨ok_tgs1 (chkG_ok t st e h2) z1 (by rw [ee] <;> rfl), by rw [ee]; simp [z2], ?_⟩
      rw [ee, List.findIdx?_cons]
      simp [z3]
end
/-- the state around a comprehension's block -/
theorem Stat.blk (st : Stat X M N sc fnb gk) (s : Shared) (H : Hp) (scope : Scope) (C : Addr) (cl : List (Str × Addr)) (fp : List Addr) :
    Stat (X.blk s H scope (compEnvC scope cl C X.env) fp) M N (relS scope sc) false gk where
  eN := st.eN
  eS := by rw [← st.eS] <;> rfl
  fn := fun z => by cases z
  nd := st.nd
  hC := st.hC
  srt := st.srt
  calm := st.calm
  un := st.un
  gks := st.gks
  blt := st.blt
  con := st.con
  dic := fun i hi => ⟨(st.dic i hi).ex⟩
  xcf := st.xcf
  xcm := st.xcm
  xcs := st.xcs
  fns := fun i hi hg => ⟨(st.fns i hi hg).ex⟩
  hear := fun z => by
    obtain ⟨F, ⟨c, P, k, h1, h2, h3, h4, h5, h6⟩, hx⟩ := st.hear z
    exact ⟨⟨F.ex⟩, ⟨c, P, k, h1, h2, h3, h4, h5, h6⟩, hx⟩
theorem ownP_snd (N : List Str) (own : List Nat) : (ownP N own).map (·.2) = own := by
  unfold ownP
  rw [List.map_map]
  exact List.map_id own
theorem takes_blk {s : Shared} {H : Hp} {scope : Scope} {C : Addr} {cl : List (Str × Addr)} {fp : List Addr} : Takes (X.blk s H scope (compEnvC scope cl C X.env) fp) (fun cls d _ H => W0 cls d H) := LamX.takes0
end
/-! ### a lambda's end is heard -/
theorem noPar_ok {a : Arguments} (h : noPar a = true) : a = ⟨[], [], none, [], [], none, []⟩ := by
  obtain ⟨a1, a2, a3, a4, a5, a6, a7⟩ := a
  simp only [noPar, Bool.and_eq_true, List.isEmpty_iff, Option.isNone_iff_eq_none] at h
  obtain ⟨⟨⟨⟨⟨⟨rfl, rfl⟩, rfl⟩, rfl⟩, rfl⟩, rfl⟩, rfl⟩ := h
  rfl
theorem ok_heard {X : Cx} {M : Mo} {W : XK} {ps : Arguments} {b' : Expr} {scope : Scope} {p q r : Pos} {c P : Addr} {k : Nat} {mb : Env → Sto → Res D} (F : HearF X M.nm.hearN (.ref (M.cls M.G.top))) (hx : ∀ c, c < M.G.nC → M.G.sub c M.G.top = true → PySem.W.exmOne X.K (.ref (M.cls c)) (.ref (M.cls M.G.top)) = some true)
    (hg : Gl X M.nm.hearN) (hd : (M.nm.hearN == ("__debug__" : Str)) = false) (TB : LamX.TabB X.base X.mg c P) (hcode : X.env.code = .ref c) (hmT : (P, X.env.qual ++ "<lambda>") ∈ M.T) (hu : ∀ p ∈ M.T, p.1 = P → p.2 = X.env.qual ++ "<lambda>") (hr : Room (k + 2) X.A)
    (L : LamX.LamS X.env.scope scope) (hp : ps = ⟨[], [], none, [], [], none, []⟩) (hb : ∀ (A : Around) (outer : List PySem.Env) (s : Shared) (H : Hp) (E : XK) (f c' : Addr), Room k (A.deeper (LamX.lamEnv X scope s.heap.objs.size f c')) → PE (LamX.lamCx X A outer s H E scope f c') b' (tE (kt X M) E mb)) :
    PE X (.Call (.Name M.nm.hearN p) [.Lambda ps b' scope q] [] r) (eT X M W fun E S => hearD M.G (mb E S)) := by
  subst hp
  refine (pe_hear (t := fun E => tE (kt X M) E mb) F hg hd TB hcode hmT hu hr L rfl (fun _ _ _ _ _ => rfl) hb).imp fun σ H Q ⟨α, E, S, re, rs, h⟩ => ?_
  refine ⟨rs.tabs, fun H1 eN T1 p0 hp0 E1 Q1 hE hQ => ?_⟩
  have e1 : Ext α H α H1 := ⟨⟨[], by simp, by simp⟩, fun b o e _ ht => eN b o e ht, fun b o e ht => ⟨o, eN b o e ht, ht⟩⟩
  have rs1 : RelS (kt X M) α H1 S := ⟨rs.len, rs.nd, fun n a o h1 h2 => (rs.at_ n a o h1 h2).mono_of' e1 fun u q ht => eN a u q ht, T1⟩
  have e2 := e1.trans (Ext.newTup (α := α) (o := .tup [.non, .non]) hp0)
  refine ⟨α, E, S, re.mono e2, rs1.newTup hp0, ?_⟩
  have h : EndG (kt X M) W α H (hearD M.G (mb E S)) (VQ (kt X M) Q) := h
  cases hm : mb E S with
  | ok d S' =>
    rw [hm] at h
    refine fun α' H' e rs' v rv => hQ v H' fun p hp => ?_
    exact h α' _ (e2.trans (e.trans (Ext.newTup hp))) (rs'.newTup hp) _ (mk_newTup rs' hp (RepL.two mk_non rv))
  | exc x S' =>
    rw [hm] at h
    have h : EndG (kt X M) W α H (if x.1 < M.G.nC ∧ M.G.sub x.1 M.G.top = true then .ok (.tup [.xv x.1 x.2, .non]) S' else .bad) (VQ (kt X M) Q) := h
    split at h
    · rename_i hc
      refine fun α' H' cls dx e rs' xr => hE cls dx H' ?_
      obtain ⟨dd, w, rfl, rfl, hd1, hd2, hd3⟩ := xr
      refine ⟨hx _ hc.1 hc.2, dd, rfl, fun a ha p hp => ?_⟩
      have ea : Ext α' H' α' (upd H' a (XO a (.ref (M.cls x.1)) dd)) := Ext.newTup ha
      have rsa := rs'.newTup (o := XO a (.ref (M.cls x.1)) dd) ha
      have xv : Rep (kt X M) α' (upd H' a (XO a (.ref (M.cls x.1)) dd)) (.xv x.1 x.2) (.ref a) := by
        simp only [Rep]
        exact ⟨a, dd, w, rfl, upd_same, rs'.notIn ha, by rw [upd_ne (ne_of_none hd1 ha)]; exact hd1, hd2, Rep.mono ea _ _ hd3⟩
      exact h α' _ (e2.trans (e.trans (ea.trans (Ext.newTup hp)))) (rsa.newTup hp) _ (mk_newTup rsa hp (RepL.two xv mk_non))
    · exact h.elim
  | bad =>
    rw [hm] at h
    exact False.elim h
section
variable {M : Mo} {N : List Str}
mutual
theorem chkE_ok : ∀ (x : Ex) {gk : Gk} {X : Cx} {W : XK} {sc : Scope} {fnb : Bool} (st : Stat X M N sc fnb gk) (tk : Takes X (fun cls d _ H => W cls d H)) (e : Expr), chkE M.nm N gk x sc e = true → PE X e (eT X M W (x.ev M.G))
  | .var i, gk, X, W, sc, fnb, st, tk, e, h => by
    simp only [chkE] at h
    split at h
    · rename_i x hv
      obtain ⟨p, rfl⟩ := vName_eq hv
      simp only [Bool.and_eq_true, decide_eq_true_eq] at h
      obtain ⟨⟨h1, h2⟩, h3⟩ := h
      exact ok_var (by rw [st.eN]; exact h1) (by rw [st.eS]; exact visB_ok h2) (dbgB_ok h3).1 (dbgB_ok h3).2
    · cases h
  | .int i, gk, X, W, sc, fnb, st, tk, e, h => by
    simp only [chkE] at h
    split at h
    · rename_i j hv
      obtain ⟨k, p, rfl⟩ := vCon_eq hv
      rw [decide_eq_true_eq] at h
      subst h
      exact ok_int
    · cases h
  | .bl i, gk, X, W, sc, fnb, st, tk, e, h => by
    simp only [chkE] at h
    split at h
    · rename_i j hv
      obtain ⟨k, p, rfl⟩ := vCon_eq hv
      rw [decide_eq_true_eq] at h
      subst h
      exact ok_bl
    · cases h
  | .non, gk, X, W, sc, fnb, st, tk, e, h => by
    simp only [chkE] at h
    split at h
    · rename_i hv
      obtain ⟨k, p, rfl⟩ := vCon_eq hv
      exact ok_non
    · cases h
  | .str i, gk, X, W, sc, fnb, st, tk, e, h => by
    simp only [chkE] at h
    split at h
    · rename_i j hv
      obtain ⟨k, p, rfl⟩ := vCon_eq hv
      rw [decide_eq_true_eq] at h
      subst h
      exact ok_str
    · cases h
  | .glb i, gk, X, W, sc, fnb, st, tk, e, h => by
    simp only [chkE] at h
    split at h
    · rename_i x hv
      obtain ⟨p, rfl⟩ := vName_eq hv
      simp only [Bool.and_eq_true, decide_eq_true_eq] at h
      obtain ⟨⟨h1, h2⟩, h3⟩ := h
      subst h2
      obtain ⟨g1, g2⟩ := gOk_ok h3
      exact ok_glb (st.con i h1) (st.gl g1) g2
    · cases h
  | .tup es, gk, X, W, sc, fnb, st, tk, e, h => by
    simp only [chkE] at h
    split at h
    · rename_i xs hv
      obtain ⟨k, p, rfl⟩ := vTup_eq hv
      exact ok_tup (chkA_ok es st tk xs h)
    · cases h
  | .lst es, gk, X, W, sc, fnb, st, tk, e, h => by
    simp only [chkE] at h
    split at h
    · rename_i xs hv
      obtain ⟨p, rfl⟩ := vLst_eq hv
      exact ok_lst (chkA_ok es st tk xs h)
    · cases h
  | .bin op a b, gk, X, W, sc, fnb, st, tk, e, h => by
    simp only [chkE] at h
    split at h
    · rename_i a' o b' hv
      obtain ⟨p, rfl⟩ := vBin_eq hv
      simp only [Bool.and_eq_true, decide_eq_true_eq] at h
      obtain ⟨⟨⟨rfl, h2⟩, h3⟩, h4⟩ := h
      exact ok_bin h2 (chkE_ok a st tk a' h3) (chkE_ok b st tk b' h4)
    · cases h
  | .neg a, gk, X, W, sc, fnb, st, tk, e, h => by
    simp only [chkE] at h
    split at h
    · rename_i a' hv
      obtain ⟨p, rfl⟩ := vUn_eq hv
      exact ok_neg (chkE_ok a st tk a' h)
    · cases h
  | .nt a, gk, X, W, sc, fnb, st, tk, e, h => by
    simp only [chkE] at h
    split at h
    · rename_i a' hv
      obtain ⟨p, rfl⟩ := vUn_eq hv
      exact ok_not (chkE_ok a st tk a' h)
    · cases h
  | .cmp op a b, gk, X, W, sc, fnb, st, tk, e, h => by
    simp only [chkE] at h
    split at h
    · rename_i a' o b' hv
      obtain ⟨p, rfl⟩ := vCmp_eq hv
      simp only [Bool.and_eq_true, decide_eq_true_eq] at h
      obtain ⟨⟨⟨rfl, h2⟩, h3⟩, h4⟩ := h
      exact ok_cmp st.un64 (mark_ok h2) (chkE_ok a st tk a' h3) (chkE_ok b st tk b' h4)
    · cases h
  | .chn op op' a b c, gk, X, W, sc, fnb, st, tk, e, h => by
    simp only [chkE] at h
    split at h
    · rename_i a' o o' b' c' hv
      obtain ⟨p, rfl⟩ := vChn_eq hv
      simp only [Bool.and_eq_true, decide_eq_true_eq] at h
      obtain ⟨⟨⟨⟨⟨rfl, rfl⟩, h2⟩, h3⟩, h4⟩, h5⟩ := h
      exact ok_chn st.un64 (mark_ok h2) (chkE_ok a st tk a' h3) (chkE_ok b st tk b' h4) (chkE_ok c st tk c' h5)
    · cases h
  | .isN a no, gk, X, W, sc, fnb, st, tk, e, h => by
    simp only [chkE] at h
    split at h
    · rename_i a' o b' hv
      obtain ⟨p, rfl⟩ := vCmp_eq hv
      simp only [Bool.and_eq_true, decide_eq_true_eq] at h
      obtain ⟨⟨h1, h2⟩, h3⟩ := h
      split at h2
      · rename_i hc
        obtain ⟨k, p, rfl⟩ := vCon_eq hc
        exact ok_isN (isOp_ok h1) (chkE_ok a st tk a' h3)
      · cases h2
    · cases h
  | .isB a b no, gk, X, W, sc, fnb, st, tk, e, h => by
    simp only [chkE] at h
    split at h
    · rename_i a' o b' hv
      obtain ⟨p, rfl⟩ := vCmp_eq hv
      simp only [Bool.and_eq_true, decide_eq_true_eq] at h
      obtain ⟨⟨h1, h2⟩, h3⟩ := h
      split at h2
      · rename_i k hc
        obtain ⟨k, p, rfl⟩ := vCon_eq hc
        rw [decide_eq_true_eq] at h2
        subst h2
        exact ok_isB (isOp_ok h1) (chkE_ok a st tk a' h3)
      · cases h2
    · cases h
  | .con a b, gk, X, W, sc, fnb, st, tk, e, h => by
    simp only [chkE] at h
    split at h
    · rename_i a' b' rest pos hv
      obtain rfl := vBool_eq hv
      simp only [Bool.and_eq_true] at h
      obtain ⟨h1, h2⟩ := h
      refine ok_and (chkE_ok a st tk a' h1) ?_
      cases rest with
      | nil => exact pe_one (chkE_ok b st tk b' h2)
      | cons r rs => exact chkE_ok b st tk _ h2
    · cases h
  | .dis a b, gk, X, W, sc, fnb, st, tk, e, h => by
    simp only [chkE] at h
    split at h
    · rename_i a' b' rest pos hv
      obtain rfl := vBool_eq hv
      simp only [Bool.and_eq_true] at h
      obtain ⟨h1, h2⟩ := h
      refine ok_or (chkE_ok a st tk a' h1) ?_
      cases rest with
      | nil => exact pe_one (chkE_ok b st tk b' h2)
      | cons r rs => exact chkE_ok b st tk _ h2
    · cases h
  | .ife t a b, gk, X, W, sc, fnb, st, tk, e, h => by
    simp only [chkE] at h
    split at h
    · rename_i t' a' b' hv
      obtain ⟨p, rfl⟩ := vIf_eq hv
      simp only [Bool.and_eq_true] at h
      obtain ⟨⟨h1, h2⟩, h3⟩ := h
      exact ok_ife (chkT_ok t st tk t' h1).1 (chkE_ok a st tk a' h2) (chkE_ok b st tk b' h3)
    · cases h
  | .ix a b, gk, X, W, sc, fnb, st, tk, e, h => by
    simp only [chkE] at h
    split at h
    · rename_i a' b' hv
      obtain ⟨p, rfl⟩ := vSub_eq hv
      simp only [Bool.and_eq_true] at h
      obtain ⟨⟨h1, h2⟩, h3⟩ := h
      exact ok_ix (plain_ix h1) (chkE_ok a st tk a' h2) (chkE_ok b st tk b' h3)
    · cases h
  | .sl a lo hi, gk, X, W, sc, fnb, st, tk, e, h => by
    simp only [chkE] at h
    split at h
    · rename_i a' b' hv
      obtain ⟨p, rfl⟩ := vSub_eq hv
      split at h
      · rename_i lo' hi' hs
        obtain ⟨p2, rfl⟩ := vSlice_eq hs
        simp only [Bool.and_eq_true] at h
        obtain ⟨⟨h1, h2⟩, h3⟩ := h
        exact ok_sl (chkE_ok a st tk a' h1) (chkO_ok lo st tk lo' h2) (chkO_ok hi st tk hi' h3)
      · cases h
    · cases h
  | .call f es, gk, X, W, sc, fnb, st, tk, e, h => by
    simp only [chkE] at h
    split at h
    · rename_i x a' xs hv
      obtain ⟨p, q, rfl⟩ := vCall_eq hv
      simp only [Bool.and_eq_true, decide_eq_true_eq] at h
      obtain ⟨⟨⟨⟨⟨h1, rfl⟩, h3⟩, h4⟩, h5⟩, h6⟩ := h
      obtain ⟨g1, g2⟩ := gOk_ok h3
      rw [List.all_cons, Bool.and_eq_true] at h5
      exact ok_call (st.fns f h1 (fun z => by rw [z] at h4; simpa using h4)) tk (st.gl g1) g2 (chkA_ok es st tk _ h6) (star_cons h5.1) (star_any h5.2)
    · cases h
  | .bi b es, gk, X, W, sc, fnb, st, tk, e, h => by
    simp only [chkE] at h
    split at h
    · rename_i x a' xs hv
      obtain ⟨p, q, rfl⟩ := vCall_eq hv
      simp only [Bool.and_eq_true, decide_eq_true_eq] at h
      obtain ⟨⟨⟨⟨rfl, h3⟩, h4⟩, h5⟩, h6⟩ := h
      rw [List.all_cons, Bool.and_eq_true] at h5
      exact ok_bi st.calm (fun z => by rw [z] at h4; exact st.gks h4) st.un (st.gl h3) (st.blt _ (by cases b <;> decide)) (chkA_ok es st tk _ h6) (star_cons h5.1) (star_any h5.2)
    · cases h
  | .isi a t, gk, X, W, sc, fnb, st, tk, e, h => by
    simp only [chkE] at h
    split at h
    · rename_i x a' y hv
      obtain ⟨p, q, rfl⟩ := vCall_eq hv
      simp only [Bool.and_eq_true, decide_eq_true_eq] at h
      obtain ⟨⟨⟨⟨rfl, h2⟩, h3⟩, h4⟩, h5⟩ := h
      split at h3
      · rename_i y hy
        obtain ⟨q2, rfl⟩ := vName_eq hy
        rw [Bool.and_eq_true, decide_eq_true_eq] at h3
        obtain ⟨rfl, g⟩ := h3
        exact ok_isi (st.gl h2) (st.blt _ (by decide)) (st.gl g) (st.blt _ (by cases t <;> decide)) (chkE_ok a st tk a' h5) (star_cons h4)
      · cases h3
    · cases h
  | .isx a c, gk, X, W, sc, fnb, st, tk, e, h => by
    simp only [chkE] at h
    split at h
    · rename_i x a' y hv
      obtain ⟨p, q, rfl⟩ := vCall_eq hv
      simp only [Bool.and_eq_true, decide_eq_true_eq] at h
      obtain ⟨⟨⟨⟨rfl, h2⟩, h3⟩, h4⟩, h5⟩ := h
      split at h3
      · rename_i y hy
        obtain ⟨q2, rfl⟩ := vName_eq hy
        simp only [Bool.and_eq_true, decide_eq_true_eq] at h3
        obtain ⟨⟨g1, rfl⟩, g2⟩ := h3
        obtain ⟨g3, g4⟩ := gOk_ok g2
        rw [← st.hC] at g1
        exact ok_isx st.xcf (st.xcs c g1) (st.gl h2) (st.blt _ (by decide)) (st.gl g3) (st.xcm c g1) g4 (chkE_ok a st tk a' h5) (star_cons h4)
      · cases h3
    · cases h
  | .ssort a, gk, X, W, sc, fnb, st, tk, e, h => by
    simp only [chkE] at h
    split at h
    · rename_i x r hv
      obtain ⟨p, q, rfl⟩ := vCall_eq hv
      simp only [Bool.and_eq_true, decide_eq_true_eq] at h
      obtain ⟨⟨rfl, h2⟩, h3⟩ := h
      split at h3
      · rename_i y a' hv2
        obtain ⟨p2, q2, rfl⟩ := vCall_eq hv2
        simp only [Bool.and_eq_true, decide_eq_true_eq] at h3
        obtain ⟨⟨⟨rfl, g2⟩, g3⟩, g4⟩ := h3
        exact ok_ssort st.calm (by have := st.un; omega) (st.gl g2) (st.blt _ (by decide)) (st.gl h2) (st.blt _ (by decide)) st.srt (chkE_ok a st tk a' g4) (star_cons g3)
      · cases h3
    · cases h
  | .lrange a, gk, X, W, sc, fnb, st, tk, e, h => by
    simp only [chkE] at h
    split at h
    · rename_i x r hv
      obtain ⟨p, q, rfl⟩ := vCall_eq hv
      simp only [Bool.and_eq_true, decide_eq_true_eq] at h
      obtain ⟨⟨rfl, h2⟩, h3⟩ := h
      split at h3
      · rename_i y a' hv2
        obtain ⟨p2, q2, rfl⟩ := vCall_eq hv2
        simp only [Bool.and_eq_true, decide_eq_true_eq] at h3
        obtain ⟨⟨⟨rfl, g2⟩, g3⟩, g4⟩ := h3
        exact ok_lrange st.calm (st.gl h2) (st.blt _ (by decide)) (st.gl g2) (st.blt _ (by decide)) (chkE_ok a st tk a' g4) (star_cons g3)
      · cases h3
    · cases h
  | .mth o m es, gk, X, W, sc, fnb, st, tk, e, h => by
    simp only [chkE] at h
    split at h
    · rename_i o' x ap xs cp hv
      obtain rfl := vMth_eq hv
      simp only [Bool.and_eq_true, decide_eq_true_eq] at h
      obtain ⟨⟨⟨⟨⟨⟨rfl, h2⟩, h3⟩, h4⟩, h5⟩, h6⟩, h7⟩ := h
      cases xs with
      | nil =>
        cases es with
        | nil => exact ok_mth0 (chkE_ok o st tk o' h6) (att_base h2) h3
        | cons _ _ => simp [chkA] at h7
        | star _ _ => simp [chkA] at h7
      | cons a xs =>
        have h4' := h4
        rw [List.all_cons, Bool.and_eq_true] at h4'
        refine ok_mth (chkE_ok o st tk o' h6) (chkA_ok es st tk _ h7) (att_base h2) ?_ h3 (star_cons h4'.1) (star_any h4'.2)
        rw [star_all h4]
        have hl : (a :: xs).length < 30 := h5
        simp only [Bool.true_and, List.isEmpty_nil, if_true, List.length_nil, Nat.add_zero, Bool.and_eq_true, decide_eq_true_eq]
        exact ⟨rfl, hl⟩
    · cases h
  | .lc e1 tg own it ifs, gk, X, W, sc, fnb, st, tk, e, h => by
    simp only [chkE] at h
    split at h
    · rename_i e' tg' it' ifs' scope hv
      obtain ⟨p, rfl⟩ := vLc_eq hv
      simp only [Bool.and_eq_true, decide_eq_true_eq] at h
      obtain ⟨⟨⟨⟨⟨⟨h1, h2⟩, h3⟩, h4⟩, h5⟩, h6⟩, h7⟩ := h
      have z := pe_lc (own := ownP N own) (g := gT (kt X M) tg.sl tg.put) (tt := bT X M W0 (fun E S => ifs.tv M.G E S)) (te := eT X M W0 (e1.ev M.G)) st.calm st.nd (chkI_ok it st tk tg' it' h4) (by rw [st.eN, st.eS]; exact blkOk_by h1)
        (fun s H C cl fp => chkG_ok tg (st.blk s H scope C cl fp) tg' h5) (fun s H C cl fp => chkF_ok ifs (st.blk s H scope C cl fp) takes_blk ifs' h6) (fun s H C cl fp => chkE_ok e1 (st.blk s H scope C cl fp) takes_blk e' h7) (folded_ok h3) (pos := p)
      rw [ownP_snd] at z
      exact z.imp fun σ H Q hq => lc_ok h2 hq
    · cases h
  | .fld o, gk, X, W, sc, fnb, st, tk, e, h => by
    simp only [chkE] at h
    split at h
    · rename_i o' f hv
      obtain ⟨p, rfl⟩ := vAtt_eq hv
      simp only [Bool.and_eq_true, decide_eq_true_eq] at h
      obtain ⟨⟨rfl, h2⟩, h3⟩ := h
      exact ok_fld st.xcf (chkE_ok o st tk o' h3) (att_base h2)
    · cases h
  | .dget i a, gk, X, W, sc, fnb, st, tk, e, h => by
    simp only [chkE] at h
    split at h
    · rename_i d a' hv
      obtain ⟨p, rfl⟩ := vSub_eq hv
      split at h
      · rename_i x hx
        obtain ⟨p2, rfl⟩ := vName_eq hx
        simp only [Bool.and_eq_true, decide_eq_true_eq] at h
        obtain ⟨⟨⟨⟨h1, rfl⟩, h3⟩, h4⟩, h5⟩ := h
        obtain ⟨g1, g2⟩ := gOk_ok h3
        exact ok_dget (st.dic i h1) (st.gl g1) g2 (plain_ix h4) (chkE_ok a st tk a' h5)
      · cases h
    · cases h
  | .heard b, gk, X, W, sc, fnb, st, tk, e, h => by
    simp only [chkE] at h
    split at h
    · rename_i x ps b' scope hv
      obtain ⟨p, q, r, rfl⟩ := vLam_eq hv
      simp only [Bool.and_eq_true, decide_eq_true_eq] at h
      obtain ⟨⟨⟨⟨⟨h1, rfl⟩, h3⟩, h4⟩, h5⟩, h6⟩ := h
      obtain ⟨g1, g2⟩ := gOk_ok h3
      obtain ⟨F, ⟨c, P, k, z1, z2, z3, z4, z5, z6⟩, hx⟩ := st.hear h1
      have hb : ∀ (A : Around) (outer : List PySem.Env) (s : Shared) (H : Hp) (E : XK) (f c' : Addr), Room k (A.deeper (LamX.lamEnv X scope s.heap.objs.size f c')) → PE (LamX.lamCx X A outer s H E scope f c') b' (tE (kt X M) E (b.ev M.G)) := fun A outer s H E f c' hr => by
        have st' : Stat (LamX.lamCx X A outer s H E scope f c') M N scope false ⟨false, false⟩ := z6.stat rfl rfl rfl rfl rfl st.eN rfl (fun z => by cases z) (by rw [← st.eN]; exact st.nd) rfl hr (fun z => by cases z) (fun z => by cases z)
        exact chkE_ok b st' (takes_of rfl rfl rfl rfl) b' h6
      exact ok_heard F (fun c hc hs => hx c hc hs) (st.gl g1) g2 z1 z2 z3 z4 z5 (by rw [st.eS]; exact LamX.lamS_by h4) (noPar_ok h5) hb
    · cases h
theorem chkT_ok : ∀ (x : Ex) {gk : Gk} {X : Cx} {W : XK} {sc : Scope} {fnb : Bool} (st : Stat X M N sc fnb gk) (tk : Takes X (fun cls d _ H => W cls d H)) (e : Expr), chkT M.nm N gk x sc e = true →
    PT X e (bT X M W (x.tv M.G)) ∧ ∀ o vs p, e = .BoolOp o vs p → PW X e (bT X M W (x.tv M.G))
  | .con a b, gk, X, W, sc, fnb, st, tk, e, h => by
    simp only [chkT] at h
    split at h
    · rename_i a' b' rest pos hv
      obtain rfl := vBool_eq hv
      simp only [Bool.and_eq_true] at h
      obtain ⟨h1, h2⟩ := h
      have z : PW X (.BoolOp .And (b' :: rest) pos) (bT X M W (b.tv M.G)) := by
        cases rest with
        | nil => exact pw_and1 (chkT_ok b st tk b' h2).1
        | cons r rs => exact (chkT_ok b st tk _ h2).2 _ _ _ rfl
      have y : PW X (.BoolOp .And (a' :: b' :: rest) pos) (bT X M W ((Ex.con a b).tv M.G)) := ok_andT (chkT_ok a st tk a' h1).1 z
      exact ⟨y.pt, fun _ _ _ _ => y⟩
    · cases h
  | .dis a b, gk, X, W, sc, fnb, st, tk, e, h => by
    simp only [chkT] at h
    split at h
    · rename_i a' b' rest pos hv
      obtain rfl := vBool_eq hv
      simp only [Bool.and_eq_true] at h
      obtain ⟨h1, h2⟩ := h
      have z : PW X (.BoolOp .Or (b' :: rest) pos) (bT X M W (b.tv M.G)) := by
        cases rest with
        | nil => exact pw_or1 (chkT_ok b st tk b' h2).1
        | cons r rs => exact (chkT_ok b st tk _ h2).2 _ _ _ rfl
      have y : PW X (.BoolOp .Or (a' :: b' :: rest) pos) (bT X M W ((Ex.dis a b).tv M.G)) := ok_orT (chkT_ok a st tk a' h1).1 z
      exact ⟨y.pt, fun _ _ _ _ => y⟩
    · cases h
  | .nt a, gk, X, W, sc, fnb, st, tk, e, h => by
    simp only [chkT] at h
    split at h
    · rename_i a' hv
      obtain ⟨p, rfl⟩ := vUn_eq hv
      exact ⟨ok_notT (chkT_ok a st tk a' h).1, fun _ _ _ z => by cases z⟩
    · cases h
  | .var i, gk, X, W, sc, fnb, st, tk, e, h => by
    have hE : chkE M.nm N gk (.var i) sc e = true := by simp only [chkT] at h; simp only [chkE]; exact h
    have z := chkE_ok (.var i) st tk e hE
    simp only [chkT] at h
    split at h
    · rename_i x hv
      obtain ⟨p, rfl⟩ := vName_eq hv
      refine ⟨(ok_truth z (by intro _; rfl)).imp fun σ H Q ⟨α, E, S, re, rs, hq⟩ => ⟨α, E, S, re, rs, ?_⟩, fun _ _ _ z => by cases z⟩
      simp only [Ex.tv] at hq
      simp only [Ex.ev]
      split at hq
      · exact hq
      · exact hq.elim
    · cases h
  | .cmp op a b, gk, X, W, sc, fnb, st, tk, e, h => by
    simp only [chkT] at h
    split at h
    · rename_i a' o b' hv
      obtain ⟨p, rfl⟩ := vCmp_eq hv
      simp only [Bool.and_eq_true, decide_eq_true_eq] at h
      obtain ⟨⟨⟨rfl, h2⟩, h3⟩, h4⟩ := h
      exact ⟨ok_cmpT st.un64 (mark_ok h2) (chkE_ok a st tk a' h3) (chkE_ok b st tk b' h4), fun _ _ _ z => by cases z⟩
    · cases h
  | .chn op op' a b c, gk, X, W, sc, fnb, st, tk, e, h => by
    simp only [chkT] at h
    split at h
    · rename_i a' o o' b' c' hv
      obtain ⟨p, rfl⟩ := vChn_eq hv
      simp only [Bool.and_eq_true, decide_eq_true_eq] at h
      obtain ⟨⟨⟨⟨⟨rfl, rfl⟩, h2⟩, h3⟩, h4⟩, h5⟩ := h
      exact ⟨ok_chnT st.un64 (mark_ok h2) (chkE_ok a st tk a' h3) (chkE_ok b st tk b' h4) (chkE_ok c st tk c' h5), fun _ _ _ z => by cases z⟩
    · cases h
  | .isN a no, gk, X, W, sc, fnb, st, tk, e, h => by
    simp only [chkT] at h
    split at h
    · rename_i a' o b' hv
      obtain ⟨p, rfl⟩ := vCmp_eq hv
      simp only [Bool.and_eq_true, decide_eq_true_eq] at h
      obtain ⟨⟨h1, h2⟩, h3⟩ := h
      split at h2
      · rename_i hc
        obtain ⟨k, p, rfl⟩ := vCon_eq hc
        exact ⟨ok_isNT (isOp_ok h1) (chkE_ok a st tk a' h3), fun _ _ _ z => by cases z⟩
      · cases h2
    · cases h
  | .isB a b no, gk, X, W, sc, fnb, st, tk, e, h => by
    simp only [chkT] at h
    split at h
    · rename_i a' o b' hv
      obtain ⟨p, rfl⟩ := vCmp_eq hv
      simp only [Bool.and_eq_true, decide_eq_true_eq] at h
      obtain ⟨⟨h1, h2⟩, h3⟩ := h
      split at h2
      · rename_i k hc
        obtain ⟨k, p, rfl⟩ := vCon_eq hc
        rw [decide_eq_true_eq] at h2
        subst h2
        exact ⟨ok_isBT (isOp_ok h1) (chkE_ok a st tk a' h3), fun _ _ _ z => by cases z⟩
      · cases h2
    · cases h
  | .ix a b, gk, X, W, sc, fnb, st, tk, e, h => by
    simp only [chkT] at h
    split at h
    · rename_i a' b' hv
      obtain ⟨p, rfl⟩ := vSub_eq hv
      simp only [Bool.and_eq_true] at h
      obtain ⟨⟨h1, h2⟩, h3⟩ := h
      refine ⟨(ok_truth (ok_ix (plain_ix h1) (chkE_ok a st tk a' h2) (chkE_ok b st tk b' h3)) (by intro _; rfl)).imp fun σ H Q ⟨α, E, S, re, rs, hq⟩ => ⟨α, E, S, re, rs, ?_⟩, fun _ _ _ z => by cases z⟩
      simp only [Ex.tv] at hq
      simp only [Res.bind_assoc]
      exact hq
    · cases h
  | .call f es, gk, X, W, sc, fnb, st, tk, e, h => by
    simp only [chkT] at h
    split at h
    · rename_i x a' xs hv
      obtain ⟨p, q, rfl⟩ := vCall_eq hv
      simp only [Bool.and_eq_true, decide_eq_true_eq] at h
      obtain ⟨⟨⟨⟨⟨h1, rfl⟩, h3⟩, h4⟩, h5⟩, h6⟩ := h
      obtain ⟨g1, g2⟩ := gOk_ok h3
      rw [List.all_cons, Bool.and_eq_true] at h5
      exact ⟨ok_truth (ok_call (st.fns f h1 (fun z => by rw [z] at h4; simpa using h4)) tk (st.gl g1) g2 (chkA_ok es st tk _ h6) (star_cons h5.1) (star_any h5.2)) (by intro _; rfl), fun _ _ _ z => by cases z⟩
    · cases h
  | .bi b es, gk, X, W, sc, fnb, st, tk, e, h => by
    simp only [chkT] at h
    split at h
    · rename_i x a' xs hv
      obtain ⟨p, q, rfl⟩ := vCall_eq hv
      simp only [Bool.and_eq_true, decide_eq_true_eq] at h
      obtain ⟨⟨⟨⟨rfl, h3⟩, h4⟩, h5⟩, h6⟩ := h
      rw [List.all_cons, Bool.and_eq_true] at h5
      exact ⟨ok_truth (ok_bi st.calm (fun z => by rw [z] at h4; exact st.gks h4) st.un (st.gl h3) (st.blt _ (by cases b <;> decide)) (chkA_ok es st tk _ h6) (star_cons h5.1) (star_any h5.2)) (by intro _; rfl), fun _ _ _ z => by cases z⟩
    · cases h
  | .isi a t, gk, X, W, sc, fnb, st, tk, e, h => by
    simp only [chkT] at h
    split at h
    · rename_i x a' y hv
      obtain ⟨p, q, rfl⟩ := vCall_eq hv
      simp only [Bool.and_eq_true, decide_eq_true_eq] at h
      obtain ⟨⟨⟨⟨rfl, h2⟩, h3⟩, h4⟩, h5⟩ := h
      split at h3
      · rename_i y hy
        obtain ⟨q2, rfl⟩ := vName_eq hy
        rw [Bool.and_eq_true, decide_eq_true_eq] at h3
        obtain ⟨rfl, g⟩ := h3
        exact ⟨ok_isiT (st.gl h2) (st.blt _ (by decide)) (st.gl g) (st.blt _ (by cases t <;> decide)) (chkE_ok a st tk a' h5) (star_cons h4), fun _ _ _ z => by cases z⟩
      · cases h3
    · cases h
  | .isx a c, gk, X, W, sc, fnb, st, tk, e, h => by
    simp only [chkT] at h
    split at h
    · rename_i x a' y hv
      obtain ⟨p, q, rfl⟩ := vCall_eq hv
      simp only [Bool.and_eq_true, decide_eq_true_eq] at h
      obtain ⟨⟨⟨⟨rfl, h2⟩, h3⟩, h4⟩, h5⟩ := h
      split at h3
      · rename_i y hy
        obtain ⟨q2, rfl⟩ := vName_eq hy
        simp only [Bool.and_eq_true, decide_eq_true_eq] at h3
        obtain ⟨⟨g1, rfl⟩, g2⟩ := h3
        obtain ⟨g3, g4⟩ := gOk_ok g2
        rw [← st.hC] at g1
        exact ⟨ok_isxT st.xcf (st.xcs c g1) (st.gl h2) (st.blt _ (by decide)) (st.gl g3) (st.xcm c g1) g4 (chkE_ok a st tk a' h5) (star_cons h4), fun _ _ _ z => by cases z⟩
      · cases h3
    · cases h
  | .int _, gk, X, W, sc, fnb, st, tk, e, h => by simp only [chkT] at h; cases h
  | .bl _, gk, X, W, sc, fnb, st, tk, e, h => by simp only [chkT] at h; cases h
  | .non, gk, X, W, sc, fnb, st, tk, e, h => by simp only [chkT] at h; cases h
  | .str _, gk, X, W, sc, fnb, st, tk, e, h => by simp only [chkT] at h; cases h
  | .glb _, gk, X, W, sc, fnb, st, tk, e, h => by simp only [chkT] at h; cases h
  | .tup _, gk, X, W, sc, fnb, st, tk, e, h => by simp only [chkT] at h; cases h
  | .lst _, gk, X, W, sc, fnb, st, tk, e, h => by simp only [chkT] at h; cases h
  | .bin _ _ _, gk, X, W, sc, fnb, st, tk, e, h => by simp only [chkT] at h; cases h
  | .neg _, gk, X, W, sc, fnb, st, tk, e, h => by simp only [chkT] at h; cases h
  | .ife _ _ _, gk, X, W, sc, fnb, st, tk, e, h => by simp only [chkT] at h; cases h
  | .sl _ _ _, gk, X, W, sc, fnb, st, tk, e, h => by simp only [chkT] at h; cases h
  | .ssort _, gk, X, W, sc, fnb, st, tk, e, h => by simp only [chkT] at h; cases h
  | .lrange _, gk, X, W, sc, fnb, st, tk, e, h => by simp only [chkT] at h; cases h
  | .mth _ _ _, gk, X, W, sc, fnb, st, tk, e, h => by simp only [chkT] at h; cases h
  | .lc _ _ _ _ _, gk, X, W, sc, fnb, st, tk, e, h => by simp only [chkT] at h; cases h
  | .fld _, gk, X, W, sc, fnb, st, tk, e, h => by simp only [chkT] at h; cases h
  | .dget _ _, gk, X, W, sc, fnb, st, tk, e, h => by simp only [chkT] at h; cases h
  | .heard _, gk, X, W, sc, fnb, st, tk, e, h => by simp only [chkT] at h; cases h
theorem chkA_ok : ∀ (x : Exs) {gk : Gk} {X : Cx} {W : XK} {sc : Scope} {fnb : Bool} (st : Stat X M N sc fnb gk) (tk : Takes X (fun cls d _ H => W cls d H)) (e : List Expr), chkA M.nm N gk x sc e = true → PA X e (aT X M W (x.ev M.G))
  | .nil, gk, X, W, sc, fnb, st, tk, e, h => by
    simp only [chkA] at h
    cases e with
    | nil => exact ok_nil
    | cons _ _ => cases h
  | .cons a es, gk, X, W, sc, fnb, st, tk, e, h => by
    simp only [chkA] at h
    cases e with
    | nil => cases h
    | cons y ys =>
      simp only [Bool.and_eq_true] at h
      obtain ⟨⟨h1, h2⟩, h3⟩ := h
      exact ok_cons (star_cons h1) (chkE_ok a st tk y h2) (chkA_ok es st tk ys h3)
  | .star a es, gk, X, W, sc, fnb, st, tk, e, h => by
    simp only [chkA] at h
    split at h
    · rename_i y p ys
      simp only [Bool.and_eq_true] at h
      exact ok_star (chkE_ok a st tk y h.1) (chkA_ok es st tk ys h.2)
    · cases h
theorem chkO_ok : ∀ (x : Eo) {gk : Gk} {X : Cx} {W : XK} {sc : Scope} {fnb : Bool} (st : Stat X M N sc fnb gk) (tk : Takes X (fun cls d _ H => W cls d H)) (e : Option Expr), chkO M.nm N gk x sc e = true → PO X e (oT X M W (x.ev M.G))
  | .no, gk, X, W, sc, fnb, st, tk, e, h => by
    simp only [chkO] at h
    cases e with
    | none => exact ok_noPart
    | some _ => cases h
  | .yes a, gk, X, W, sc, fnb, st, tk, e, h => by
    simp only [chkO] at h
    cases e with
    | none => cases h
    | some y => exact ok_part (chkE_ok a st tk y h)
theorem chkF_ok : ∀ (x : Eo) {gk : Gk} {X : Cx} {W : XK} {sc : Scope} {fnb : Bool} (st : Stat X M N sc fnb gk) (tk : Takes X (fun cls d _ H => W cls d H)) (e : List Expr), chkF M.nm N gk x sc e = true → PTs X e (bT X M W (x.tv M.G))
  | .no, gk, X, W, sc, fnb, st, tk, e, h => by
    simp only [chkF] at h
    cases e with
    | nil => exact pts_nil.imp fun σ H Q ⟨α, E, S, re, rs, h⟩ => by simp only [Eo.tv] at h; exact EndG.now h rs
    | cons _ _ => cases h
  | .yes a, gk, X, W, sc, fnb, st, tk, e, h => by
    simp only [chkF] at h
    split at h
    · exact pts_one (chkT_ok a st tk _ h).1
    · cases h
theorem chkI_ok : ∀ (x : It) {gk : Gk} {X : Cx} {W : XK} {sc : Scope} {fnb : Bool} (st : Stat X M N sc fnb gk) (tk : Takes X (fun cls d _ H => W cls d H)) (tg e : Expr), chkI M.nm N gk x sc tg e = true → PI X tg e (iT X M W (x.ev M.G))
  | .seq a, gk, X, W, sc, fnb, st, tk, tg, e, h => by
    simp only [chkI] at h
    exact ok_seq (chkE_ok a st tk e h)
  | .r1 a, gk, X, W, sc, fnb, st, tk, tg, e, h => by
    simp only [chkI] at h
    split at h
    · rename_i f a' hv
      obtain ⟨p, q, rfl⟩ := vCall_eq hv
      simp only [Bool.and_eq_true, decide_eq_true_eq] at h
      obtain ⟨⟨⟨rfl, h2⟩, h3⟩, h4⟩ := h
      exact ok_r1 (st.gl h2) (st.blt _ (by decide)) (chkE_ok a st tk a' h4) (star_cons h3)
    · cases h
  | .r2 a b, gk, X, W, sc, fnb, st, tk, tg, e, h => by
    simp only [chkI] at h
    split at h
    · rename_i f a' b' hv
      obtain ⟨p, q, rfl⟩ := vCall_eq hv
      simp only [Bool.and_eq_true, decide_eq_true_eq] at h
      obtain ⟨⟨⟨⟨⟨rfl, h2⟩, h3⟩, h4⟩, h5⟩, h6⟩ := h
      exact ok_r2 (st.gl h2) (st.blt _ (by decide)) (chkE_ok a st tk a' h5) (chkE_ok b st tk b' h6) (by rw [star_cons h3, star_cons h4] <;> rfl) (star_cons h4)
    · cases h
  | .enum a, gk, X, W, sc, fnb, st, tk, tg, e, h => by
    simp only [chkI] at h
    split at h
    · rename_i f a' hv
      obtain ⟨p, q, rfl⟩ := vCall_eq hv
      simp only [Bool.and_eq_true, decide_eq_true_eq] at h
      obtain ⟨⟨⟨⟨h0, rfl⟩, h2⟩, h3⟩, h4⟩ := h
      obtain ⟨ts, ht⟩ := Option.isSome_iff_exists.mp h0
      obtain ⟨k, p2, rfl⟩ := vTup_eq ht
      exact ok_enum (st.gl h2) (st.blt _ (by decide)) (chkE_ok a st tk a' h4) (star_cons h3)
    · cases h
  | .zip a b, gk, X, W, sc, fnb, st, tk, tg, e, h => by
    simp only [chkI] at h
    split at h
    · rename_i f a' b' hv
      obtain ⟨p, q, rfl⟩ := vCall_eq hv
      simp only [Bool.and_eq_true, decide_eq_true_eq] at h
      obtain ⟨⟨⟨⟨⟨⟨h0, rfl⟩, h2⟩, h3⟩, h4⟩, h5⟩, h6⟩ := h
      obtain ⟨ts, ht⟩ := Option.isSome_iff_exists.mp h0
      obtain ⟨k, p2, rfl⟩ := vTup_eq ht
      exact ok_zip (st.gl h2) (st.blt _ (by decide)) (chkE_ok a st tk a' h5) (chkE_ok b st tk b' h6) (star_cons h3) (star_cons h4)
    · cases h
end
end
end Py
set_option Elab.async false
set_option linter.all false
set_option maxRecDepth 100000
set_option maxHeartbeats 4000000
/-! Raise; the text of a def's body against its form. -/
namespace Py
open PySem PySem.Spec PyProof.Rows L2
/-! ### raise -/
structure RaiseOk (X : Cx) (C : Addr) : Prop where
  T : OexC X.K C
  va : PySem.W.findIn X.K (.ref C) "value" = some none
  ex : ∃ (fI : Addr) (k : Nat) (fd : FuncData) (ps : List Str), PySem.W.findIn X.K (.ref C) "__init__" = some (some (.ref fI)) ∧ PySem.W.typeIn X.K (.ref fI) = some (.type "function") ∧
    FnOk X.prog X.w X.K X.mg X.base (L2.CX X.prog X.w) k fI fd ps (spIni X.K) ∧ Room (k + 1) X.A ∧ Binds X.K fd ps []
section
variable {X : Cx} {M : Mo} {W : XK} {pos p q : Pos} {e : Expr} {ma : Env → Sto → Res D}
theorem ok_rse {c : Nat} {x : Str} (R : RaiseOk X (M.cls c)) (hc : X.calm = true) (tk : Takes X (fun cls d _ H => W cls d H)) (hg : Gl X x) (hm : X.mg x = some (.ref (M.cls c))) (hd : (x == ("__debug__" : Str)) = false) (he : PE X e (eT X M W ma)) (hn : starEach [e] X.env = (false, eval e X.env) :: starEach [] X.env) :
    PS X (.Raise (some (.Call (.Name x p) [e] [] q)) none pos) (fT X M W fun E S => flow (ma E S) fun d S => .exc (c, d) S) := by
  obtain ⟨fI, k, fd, ps, h1, h2, F, hr, hb⟩ := R.ex
  refine (ps_raise hc tk (pmk_oex R.T h1 h2 F hr hb .nil (passes_call tk (fun _ _ _ _ z => False.elim z)) hg hm (pa_cons he pa_nil hn) hd hn (by rfl))).imp fun D σ H ⟨α, E, S, re, rs, h⟩ => ?_
  refine tE_of re rs h.flow fun α1 H1 S1 d v st1 p1 h1 => ?_
  refine ⟨by simp, fun a ha => ⟨a, M.cls c, v, by simp, R.T, R.va, upd_same, fun dx hdx hne => ⟨rfl, dx, [("value", v)], upd_same, by rw [upd_ne hne, upd_same], ?_, ?_⟩⟩⟩
  · rw [upd_ne hne] at hdx
    exact hdx
  · rw [upd_ne hne] at hdx
    have eH : upd (L2.del (upd (upd (upd H1 a (exo a (M.cls c) none)) dx (exd dx [("value", v)])) a (exo a (M.cls c) (some dx))) a) dx (.xd [("value", v)]) = upd H1 dx (.xd [("value", v)]) := by
      funext b
      by_cases h1 : b = dx
      · rw [h1, upd_same, upd_same]
      · rw [upd_ne h1, upd_ne h1]
        by_cases h2 : b = a
        · rw [h2, del_same, ha]
        · rw [del_ne h2, upd_ne h2, upd_ne h1, upd_ne h2]
    rw [eH]
    exact h1 α1 _ _ _ (Ext.newTup hdx) (st1.rs.newTup hdx) ⟨dx, v, rfl, rfl, upd_same, st1.rs.notIn hdx, Rep.mono (Ext.newTup hdx) _ _ p1⟩
end
/-- what a comprehension's text says of the name that it is stored in -/
def swB (sc : Scope) (t : Expr) (e : Expr) : Bool := match e, t with
  | .ListComp _ _ s pos, .Name y py => (match sc.names.lookup y with | some .local => true | _ => false) && py.line == pos.line && !(s.names.any fun (n, k) => n == y && (k == .local || k == .cell))
  | _, _ => false
theorem swB_ok {sc : Scope} {t e : Expr} {l : Nat} {env : PySem.Env} (hk : env.scope.kind = .function) (hs : env.scope = sc) (hl : (vLc e).isSome = true) (hb : swB sc t e = false) : swapsWith e (some t) l env = pure false := by
  have hb' : env.blockKind = .function := by unfold Env.blockKind; rw [hk]; rfl
  subst hs
  cases e <;> first
    | (simp [vLc] at hl; done)
    | skip
  cases t <;> first
    | rfl
    | skip
  rename_i elt gs s pos y py
  have hb : ((match env.scope.names.lookup y with | some .local => true | _ => false) && py.line == pos.line && !(s.names.any fun (n, k) => n == y && (k == .local || k == .cell))) = false := hb
  unfold swapsWith
  simp only [hb', Env.kindOf, Expr.pos]
  congr 1
  by_cases h1 : env.scope.names.lookup y = some .local
  · rw [h1] at hb ⊢
    simp only [Bool.true_and] at hb
    rw [show ((ScopeKind.function == ScopeKind.function && some NameKind.local == some NameKind.local) : Bool) = true from rfl, Bool.true_and]
    exact hb
  · have e : (env.scope.names.lookup y == some NameKind.local) = false := by
      cases h2 : env.scope.names.lookup y with
      | none => rfl
      | some k => cases k <;> first | rfl | exact absurd h2 h1
    rw [e]
    rfl
end Py
set_option Elab.async false
set_option linter.all false
set_option maxRecDepth 100000
set_option maxHeartbeats 4000000
/-! The text of a def's body against its form in our language; a def keeps what our language says of it. -/
namespace Py
open PySem PySem.Spec PyProof.Rows L2
def vAsg : Stmt → Option (Expr × Expr)
  | .Assign [t] e _ => some (t, e)
  | _ => none
theorem vAsg_eq {s : Stmt} {t e} (h : vAsg s = some (t, e)) : ∃ p, s = .Assign [t] e p := by
  unfold vAsg at h
  split at h
  · cases h; exact ⟨_, rfl⟩
  · cases h
def vExp : Stmt → Option Expr
  | .Expr e _ => some e
  | _ => none
theorem vExp_eq {s : Stmt} {e} (h : vExp s = some e) : ∃ p, s = .Expr e p := by
  unfold vExp at h
  split at h
  · cases h; exact ⟨_, rfl⟩
  · cases h
def vRet : Stmt → Option Expr
  | .Return (some e) _ => some e
  | _ => none
theorem vRet_eq {s : Stmt} {e} (h : vRet s = some e) : ∃ p, s = .Return (some e) p := by
  unfold vRet at h
  split at h
  · cases h; exact ⟨_, rfl⟩
  · cases h
def vCnd : Stmt → Option (Expr × List Stmt × List Stmt)
  | .If c a b _ => some (c, a, b)
  | _ => none
theorem vCnd_eq {s : Stmt} {c a b} (h : vCnd s = some (c, a, b)) : ∃ p, s = .If c a b p := by
  unfold vCnd at h
  split at h
  · cases h; exact ⟨_, rfl⟩
  · cases h
def vFor : Stmt → Option (Expr × Expr × List Stmt)
  | .For t e b [] _ => some (t, e, b)
  | _ => none
theorem vFor_eq {s : Stmt} {t e b} (h : vFor s = some (t, e, b)) : ∃ p, s = .For t e b [] p := by
  unfold vFor at h
  split at h
  · cases h; exact ⟨_, rfl⟩
  · cases h
def vWhl : Stmt → Option (Expr × List Stmt)
  | .While c b [] _ => some (c, b)
  | _ => none
theorem vWhl_eq {s : Stmt} {c b} (h : vWhl s = some (c, b)) : ∃ p, s = .While c b [] p := by
  unfold vWhl at h
  split at h
  · cases h; exact ⟨_, rfl⟩
  · cases h
def vBrk : Stmt → Bool
  | .Break _ => true
  | _ => false
theorem vBrk_eq {s : Stmt} (h : vBrk s = true) : ∃ p, s = .Break p := by
  unfold vBrk at h
  split at h
  · exact ⟨_, rfl⟩
  · cases h
def vRse : Stmt → Option Expr
  | .Raise (some e) none _ => some e
  | _ => none
theorem vRse_eq {s : Stmt} {e} (h : vRse s = some e) : ∃ p, s = .Raise (some e) none p := by
  unfold vRse at h
  split at h
  · cases h; exact ⟨_, rfl⟩
  · cases h
def isTgE : Expr → Bool
  | .Name _ _ => true
  | .Tuple _ _ _ => true
  | _ => false
section
variable (Q : Nm) (N : List Str) (gk : Gk)
mutual
def chkS : Stm → Scope → Stmt → Bool
  | .set tg e, sc, s => match vAsg s with
    | some (t, e') => chkG N true tg sc t && isTgE t && chkE Q N gk e sc e' && (if noComp e' = true then (match vTup t, vTup e' with
        | some ts, some vs => decide (swapOf sc ts vs = some none)
        | _, _ => true)
      else (vLc e').isSome && (match e, tg with
        | .lc e1 tg1 own it ifs, .nm i => (match vLc e', vName t with
          | some (_, _, _, _, _), some y => !swB sc t e' || decide (sc.names.lookup y = some .local)
          | _, _ => false)
        | _, _ => false))
    | none => false
  | .par i j a b, sc, s => match vAsg s with
    | some (t, e') => match vTup t, vTup e' with
      | some [x, y], some [a', b'] => match vName x, vName y with
        | some x', some y' => decide (N[i]? = some x') && decide (N[j]? = some y') && decide (i ≠ j) && decide (sc.names.lookup x' = some .local) && decide (sc.names.lookup y' = some .local) && noStar a' && noStar b' &&
            chkE Q N gk a sc a' && chkE Q N gk b sc b' && decide (swapOf sc [x, y] [a', b'] = some (some [x', y']))
        | _, _ => false
      | _, _ => false
    | none => false
  | .sub o i e, sc, s => match vAsg s with
    | some (t, e') => match vSub t with
      | some (o', i') => noSlice i' && noComp e' && chkE Q N gk o sc o' && chkE Q N gk i sc i' && chkE Q N gk e sc e'
      | none => false
    | none => false
  | .ex e, sc, s => match vExp s with
    | some e' => noComp e' && chkE Q N gk e sc e'
    | none => false
  | .ret e, sc, s => match vRet s with
    | some e' => chkE Q N gk e sc e'
    | none => false
  | .cnd c a b, sc, s => match vCnd s with
    | some (c', a', b') => chkT Q N gk c sc c' && chkSs a sc a' && chkSs b sc b'
    | none => false
  | .rep tg it b, sc, s => match vFor s with
    | some (t, e, b') => noSet e && chkI Q N gk it sc t e && chkG N true tg sc t && chkSs b sc b'
    | none => false
  | .whl c b, sc, s => match vWhl s with
    | some (c', b') => chkT Q N gk c sc c' && chkSs b sc b'
    | none => false
  | .brk, _, s => vBrk s
  | .rse c e, sc, s => match vRse s with
    | some x => match vCall x with
      | some (f, e', []) => decide (c < Q.nC) && decide (f = Q.clsN c) && gOk sc f && noStar e' && chkE Q N gk e sc e'
      | _ => false
    | none => false
def chkSs : Stms → Scope → List Stmt → Bool
  | .nil, _, ss => ss.isEmpty
  | .cons s ss, sc, l => match l with
    | t :: ts => chkS s sc t && chkSs ss sc ts
    | [] => false
end
end
section
variable {M : Mo} {N : List Str} {gk : Gk}
/-- name = [..] -/
theorem ok_setLc {X : Cx} {W : XK} {sc : Scope} {fnb : Bool} (st : Stat X M N sc fnb gk) (tk : Takes X (fun cls d _ H => W cls d H)) (hk : X.env.scope.kind = .function) {i : Nat} {y : Str} {py spos : Pos} {e' : Expr} {e1 : Ex} {tg1 : Tg} {own : List Nat} {it : It} {ifs : Eo}
    (hy : N[i]? = some y) (hl : sc.names.lookup y = some .local) (hc : chkE M.nm N gk (.lc e1 tg1 own it ifs) sc e' = true) (hs : swB sc (.Name y py) e' = true) :
    PS X (.Assign [.Name y py] e' spos) (fT X M W fun E S => flow ((Ex.lc e1 tg1 own it ifs).ev M.G E S) fun d S => flO ((Tg.nm i).put d E) S) := by
  simp only [chkE] at hc
  split at hc
  · rename_i e' tg' it' ifs' scope hv
    obtain ⟨p, rfl⟩ := vLc_eq hv
    simp only [Bool.and_eq_true, decide_eq_true_eq] at hc
    obtain ⟨⟨⟨⟨⟨⟨h1, h2⟩, h3⟩, h4⟩, h5⟩, h6⟩, h7⟩ := hc
    have hs : ((match sc.names.lookup y with | some .local => true | _ => false) && py.line == p.line && !(scope.names.any fun (n, k) => n == y && (k == .local || k == .cell))) = true := hs
    simp only [Bool.and_eq_true, Bool.not_eq_true'] at hs
    have hl' : X.env.scope.names.lookup y = some .local := by rw [st.eS]; exact hl
    have z := ps_setLc (own := ownP N own) (g := gT (kt X M) tg1.sl tg1.put) (tt := bT X M W0 (fun E S => ifs.tv M.G E S)) (te := eT X M W0 (e1.ev M.G)) (spos := spos) st.calm st.nd (by rw [st.eN]; exact hy) hl' (sw_true hk hl' hs.1.2 hs.2) (chkI_ok it st tk tg' it' h4) (by rw [st.eN, st.eS]; exact blkOk_by h1)
      (fun s H C cl fp => chkG_ok tg1 (st.blk s H scope C cl fp) tg' h5) (fun s H C cl fp => chkF_ok ifs (st.blk s H scope C cl fp) takes_blk ifs' h6) (fun s H C cl fp => chkE_ok e1 (st.blk s H scope C cl fp) takes_blk e' h7) (folded_ok h3)
    rw [ownP_snd] at z
    refine z.imp fun D σ H ⟨α, E, S, re, rs, hq⟩ => ?_
    refine lc_ok (Q := fun x H1 => gName i x σ H1 D.nx) h2 ?_
    refine ⟨α, E, S, re, rs, hq.flow.mono fun d S1 α1 H1 e1 rs1 h8 v rv => ?_⟩
    simp only [Tg.put, flO] at h8
    exact h8 α1 H1 _ (Ext.refl _ _) rs1 ((re.mono e1).set i rv)
  · cases hc
theorem swaps_tg {t e : Expr} {sc : Scope} {env : PySem.Env} (hk : env.scope.kind = .function) (hs : env.scope = sc) (ht : isTgE t = true) (h : (match vTup t, vTup e with
    | some ts, some vs => decide (swapOf sc ts vs = some none)
    | _, _ => true) = true) : swappedStores [t] e env = pure none := by
  cases t <;> first
    | exact absurd (show false = true from ht) Bool.false_ne_true
    | skip
  · cases e <;> rfl
  · cases e <;> first
      | exact swap_ok hk hs (of_decide_eq_true h)
      | rfl
theorem sole_of {t e : Expr} {l : Nat} {env : PySem.Env} {b : Bool} (h : swapsWith e (some t) l env = pure b) : swapsWithSole [t] e l env = pure b := h
theorem assign_one {t : Expr} {env : PySem.Env} (ht : isTgE t = true) : (assignEach [t] env).map (·.2) = [assign t env] := by
  cases t <;> first
    | exact absurd (show false = true from ht) Bool.false_ne_true
    | rfl
mutual
theorem chkS_ok : ∀ (x : Stm) {X : Cx} {W : XK} {sc : Scope} (st : Stat X M N sc true gk) (tk : Takes X (fun cls d _ H => W cls d H)) (hk : X.env.scope.kind = .function) (po : PassesOwn (model X.prog X.w) X.A X.env X.xe) (ro : ∀ c, c < M.nm.nC → RaiseOk X (M.cls c)) (s : Stmt),
    chkS M.nm N gk x sc s = true → PS X s (fT X M W (x.ev M.G))
  | .set tg e, X, W, sc, st, tk, hk, po, ro, s, h => by
    simp only [chkS] at h
    split at h
    · rename_i t e' hv
      obtain ⟨p, rfl⟩ := vAsg_eq hv
      simp only [Bool.and_eq_true] at h
      obtain ⟨⟨⟨h1, h2⟩, h3⟩, h4⟩ := h
      split at h4
      · rename_i hn
        exact ok_asg (chkE_ok e st tk e' h3) (chkG_ok tg st t h1) (sole_of (swaps_ok hn)) (swaps_tg hk st.eS h2 h4) (assign_one h2)
      · rw [Bool.and_eq_true] at h4
        obtain ⟨g1, g2⟩ := h4
        split at g2
        · rename_i e1 tg1 own it ifs i
          split at g2
          · rename_i y hv1 hv2
            obtain ⟨py, rfl⟩ := vName_eq hv2
            cases hb : swB sc (.Name y py) e' with
            | true =>
              rw [hb] at g2
              simp only [Bool.not_true, Bool.false_or, decide_eq_true_eq] at g2
              have hN : N[i]? = some y := by
                simp only [chkG, vName, Bool.and_eq_true, decide_eq_true_eq] at h1
                exact h1.1
              exact ok_setLc st tk hk hN g2 h3 hb
            | false =>
              refine ok_asg (chkE_ok _ st tk e' h3) (chkG_ok _ st _ h1) (sole_of (swB_ok hk st.eS g1 hb)) (swaps_tg hk st.eS h2 ?_) (assign_one h2)
              rfl
          · cases g2
        · cases g2
    · cases h
  | .par i j a b, X, W, sc, st, tk, hk, po, ro, s, h => by
    simp only [chkS] at h
    split at h
    · rename_i t e' hv
      obtain ⟨p, rfl⟩ := vAsg_eq hv
      split at h
      · rename_i x y a' b' hv1 hv2
        obtain ⟨k1, p1, rfl⟩ := vTup_eq hv1
        obtain ⟨k2, p2, rfl⟩ := vTup_eq hv2
        split at h
        · rename_i x' y' hx hy
          obtain ⟨px, rfl⟩ := vName_eq hx
          obtain ⟨py, rfl⟩ := vName_eq hy
          simp only [Bool.and_eq_true, decide_eq_true_eq] at h
          obtain ⟨⟨⟨⟨⟨⟨⟨⟨⟨h1, h2⟩, h3⟩, h4⟩, h5⟩, h6⟩, h7⟩, h8⟩, h9⟩, h10⟩ := h
          exact ok_par st.calm st.nd (by rw [st.eN]; exact h1) (by rw [st.eN]; exact h2) h3 (by rw [st.eS]; exact h4) (by rw [st.eS]; exact h5) (chkE_ok a st tk a' h8) (chkE_ok b st tk b' h9) (star_cons h6) (star_cons h7) (swap_ok hk st.eS h10)
        · cases h
      · cases h
    · cases h
  | .sub o i e, X, W, sc, st, tk, hk, po, ro, s, h => by
    simp only [chkS] at h
    split at h
    · rename_i t e' hv
      obtain ⟨p, rfl⟩ := vAsg_eq hv
      split at h
      · rename_i o' i' hs
        obtain ⟨p2, rfl⟩ := vSub_eq hs
        simp only [Bool.and_eq_true] at h
        obtain ⟨⟨⟨⟨h1, h2⟩, h3⟩, h4⟩, h5⟩ := h
        exact ok_subA (chkE_ok o st tk o' h3) (chkE_ok i st tk i' h4) (chkE_ok e st tk e' h5) (sole_of (swaps_ok h2)) (by cases e' <;> rfl) (by
          intro v
          cases i' <;> first
            | exact absurd (show false = true from h1) Bool.false_ne_true
            | rfl)
      · cases h
    · cases h
  | .ex e, X, W, sc, st, tk, hk, po, ro, s, h => by
    simp only [chkS] at h
    split at h
    · rename_i e' hv
      obtain ⟨p, rfl⟩ := vExp_eq hv
      rw [Bool.and_eq_true] at h
      exact ok_ex (chkE_ok e st tk e' h.2) (swaps_ok h.1)
    · cases h
  | .ret e, X, W, sc, st, tk, hk, po, ro, s, h => by
    simp only [chkS] at h
    split at h
    · rename_i e' hv
      obtain ⟨p, rfl⟩ := vRet_eq hv
      exact ok_ret (chkE_ok e st tk e' h)
    · cases h
  | .cnd c a b, X, W, sc, st, tk, hk, po, ro, s, h => by
    simp only [chkS] at h
    split at h
    · rename_i c' a' b' hv
      obtain ⟨p, rfl⟩ := vCnd_eq hv
      simp only [Bool.and_eq_true] at h
      obtain ⟨⟨h1, h2⟩, h3⟩ := h
      exact ok_cnd (chkT_ok c st tk c' h1).1 (chkSs_ok a st tk hk po ro a' h2) (chkSs_ok b st tk hk po ro b' h3)
    · cases h
  | .rep tg it b, X, W, sc, st, tk, hk, po, ro, s, h => by
    simp only [chkS] at h
    split at h
    · rename_i t e b' hv
      obtain ⟨p, rfl⟩ := vFor_eq hv
      simp only [Bool.and_eq_true] at h
      obtain ⟨⟨⟨h1, h2⟩, h3⟩, h4⟩ := h
      exact ok_rep po st.calm (chkI_ok it st tk t e h2) (chkG_ok tg st t h3) (chkSs_ok b st tk hk po ro b' h4) (folded_ok h1)
    · cases h
  | .whl c b, X, W, sc, st, tk, hk, po, ro, s, h => by
    simp only [chkS] at h
    split at h
    · rename_i c' b' hv
      obtain ⟨p, rfl⟩ := vWhl_eq hv
      simp only [Bool.and_eq_true] at h
      exact ok_whl po (chkT_ok c st tk c' h.1).1 (chkSs_ok b st tk hk po ro b' h.2)
    · cases h
  | .brk, X, W, sc, st, tk, hk, po, ro, s, h => by
    simp only [chkS] at h
    obtain ⟨p, rfl⟩ := vBrk_eq h
    exact ok_brk
  | .rse c e, X, W, sc, st, tk, hk, po, ro, s, h => by
    simp only [chkS] at h
    split at h
    · rename_i x hv
      obtain ⟨p, rfl⟩ := vRse_eq hv
      split at h
      · rename_i f e' hc
        obtain ⟨p1, p2, rfl⟩ := vCall_eq hc
        simp only [Bool.and_eq_true, decide_eq_true_eq] at h
        obtain ⟨⟨⟨⟨h1, rfl⟩, h3⟩, h4⟩, h5⟩ := h
        obtain ⟨g1, g2⟩ := gOk_ok h3
        exact ok_rse (ro c h1) st.calm tk (st.gl g1) (st.xcm c (by rw [st.hC]; exact h1)) g2 (chkE_ok e st tk e' h5) (star_cons h4)
      · cases h
    · cases h
theorem chkSs_ok : ∀ (x : Stms) {X : Cx} {W : XK} {sc : Scope} (st : Stat X M N sc true gk) (tk : Takes X (fun cls d _ H => W cls d H)) (hk : X.env.scope.kind = .function) (po : PassesOwn (model X.prog X.w) X.A X.env X.xe) (ro : ∀ c, c < M.nm.nC → RaiseOk X (M.cls c)) (s : List Stmt),
    chkSs M.nm N gk x sc s = true → PSs X s (fT X M W (x.ev M.G))
  | .nil, X, W, sc, st, tk, hk, po, ro, s, h => by
    simp only [chkSs] at h
    cases s with
    | nil => exact ok_snil
    | cons _ _ => cases h
  | .cons a ss, X, W, sc, st, tk, hk, po, ro, s, h => by
    simp only [chkSs] at h
    cases s with
    | nil => cases h
    | cons t ts =>
      simp only [Bool.and_eq_true] at h
      exact ok_scons (chkS_ok a st tk hk po ro t h.1) (chkSs_ok ss st tk hk po ro ts h.2)
end
end
end Py
set_option Elab.async false
set_option linter.all false
set_option maxRecDepth 100000
set_option maxHeartbeats 4000000
/-! A def keeps what our language says of it; all defs of a module, call by call. -/
namespace Py
open PySem PySem.Spec PyProof.Rows L2
section
variable {P : Program} {w : World} {K : PySem.W.Frag} {mg : Str → Option Value} {base : Heap} {M : Mo} {k : Nat} {gk : Gk}
theorem Base.raises (B : Base P w K mg base M k gk) {X : Cx} (eP : X.prog = P) (ew : X.w = w) (eK : X.K = K) (em : X.mg = mg) (eb : X.base = base) (hr : Room k X.A) : ∀ c, c < M.nm.nC → RaiseOk X (M.cls c) := fun c hc => by
  obtain ⟨h1, fI, k', fd, ps, h2, h3, h4, h5, h6⟩ := B.rse c hc
  refine ⟨by rw [eK]; exact h1, by rw [eK]; exact (B.xcf c hc).va, fI, k', fd, ps, by rw [eK]; exact h2, by rw [eK]; exact h3, ?_, hr.mono h5, by rw [eK]; exact h6⟩
  rw [eP, ew, eK, em, eb]
  exact h4
theorem start_rel {κ : Kt} {α : List Addr} {H : Hp} {N : List Str} {ds : List D} {vs : List V} (r : RepL κ α H ds vs) (hn : ds.length ≤ N.length) : RelE κ α H (ds.map some ++ List.replicate (N.length - ds.length) none) (L2.start N vs) := by
  have hl := r.length
  refine ⟨by unfold L2.start; simp [hl], fun i d e => ?_⟩
  by_cases hi : i < ds.length
  · rw [List.getElem?_append_left (by simpa using hi), List.getElem?_map] at e
    cases q : ds[i]? with
    | none => rw [q] at e; cases e
    | some d' =>
      rw [q] at e
      cases e
      obtain ⟨v, hv, rv⟩ := r.get q
      refine ⟨v, ?_, rv⟩
      unfold L2.start
      rw [List.getElem?_append_left (by simp; omega), List.getElem?_map, hv]
      rfl
  · rw [List.getElem?_append_right (by simpa using hi), List.getElem?_replicate] at e
    split at e <;> cases e
theorem endF_of {κ : Kt} {W : XK} {α : List Addr} {H : Hp} {f : Fl} {Q : VK} (h : EndG κ W α H f.out (VQ κ Q)) : EndF κ W α H f { nx := fun _ H' => Q .non H', rt := Q } := by
  cases f with
  | next E S => exact fun a b c e r _ => h a b e r _ mk_non
  | brk E S => exact False.elim h
  | ret d S => exact fun a b v e r p => h a b e r v p
  | exc x S => exact h
  | bad => exact h
/-- what is known where lambdas are made: the def that hears them, the maker's code object and its table -/
structure LamK (P : Program) (w : World) (K : PySem.W.Frag) (mg : Str → Option Value) (base : Heap) (M : Mo) (cdv : Value) (qual : Str) : Prop where
  F : HearK K mg M.nm.hearN (.ref (M.cls M.G.top))
  ex : ∃ (c P : Addr), LamX.TabB base mg c P ∧ cdv = .ref c ∧ (P, qual ++ ".<locals>." ++ "<lambda>") ∈ M.T ∧ ∀ p ∈ M.T, p.1 = P → p.2 = qual ++ ".<locals>." ++ "<lambda>"
  xce : ∀ c, c < M.G.nC → M.G.sub c M.G.top = true → PySem.W.exmOne K (.ref (M.cls c)) (.ref (M.cls M.G.top)) = some true
theorem LamK.hear {cdv : Value} {qual : Str} (h : LamK P w K mg base M cdv qual) {X : Cx} (eP : X.prog = P) (ew : X.w = w) (eK : X.K = K) (em : X.mg = mg) (eb : X.base = base) (ec : X.env.code = cdv) (eq : X.env.qual = qual ++ ".<locals>.") (hr : Room (k + 2) X.A) (B0 : Base P w K mg base M k ⟨false, false⟩) : HearOk X M := by
  obtain ⟨F, ⟨c, P', h1, h2, h3, h4⟩, hx⟩ := h
  refine ⟨⟨by rw [eK, em]; exact F⟩, ⟨c, P', k, by rw [eb, em]; exact h1, by rw [ec]; exact h2, by rw [eq]; exact h3, by rw [eq]; exact h4, hr, by rw [eP, ew, eK, em, eb]; exact B0⟩, by rw [eK]; exact hx⟩
/-- a def whose text is held keeps what our language says -/
theorem fn_ok (B : Base P w K mg base M k gk) (B0 : Base P w K mg base M k ⟨false, false⟩) {f : Addr} {name qual : Str} {params : Arguments} {body : List Stmt} {scope : Scope} {dV kV doc pm cdv ct oc : Value} {an od : Option Addr} {osl : Array (Option Value)} {N ps : List Str} {F : Fn}
    (lk : K.lookup f = some ⟨oc, od, .func (PySem.W.fnOf name qual params body scope dV kV doc pm an cdv ct), osl⟩) (hcd : PySem.W.codeIn K cdv qual = true) (Sf : FnScope N ps scope)
    (hp : F.ps = ps.length) (hn : F.ns = N.length) (hle : ps.length ≤ N.length) (hchk : chkSs M.nm N gk F.body scope body = true) (hl : gk.lam = true → LamK P w K mg base M cdv qual) :
    FnG P w K mg base (L2.CX P w) gk.sh (k + 3) f (PySem.W.fnOf name qual params body scope dV kV doc pm an cdv ct) ps (spOf ⟨K, M.cls, M.T⟩ ps.length (F.run M.G)) := by
  refine ⟨fun vs H Q E ⟨α, S, ds, h1, _, h3, _⟩ => by rw [← h1]; exact h3.length, fun A outer s H args us vs Q E hr hg e0 hb rv hsp => ?_⟩
  obtain ⟨α, S, ds, hl', rs, r, h⟩ := hsp
  refine LamX.run_ofS (k := k + 2) (N := N) lk hcd Sf hr e0 hb rv (by rw [r.length]; exact hl') fun hr' => ?_
  have st : Stat (cxOf (L2.CX P w) P w K mg base N qual scope f cdv A outer s H E) M N scope true gk := B.stat rfl rfl rfl rfl rfl rfl rfl (fun _ _ => rfl) Sf.nd rfl (hr'.mono (by omega)) hg fun z => (hl z).hear rfl rfl rfl rfl rfl rfl rfl hr' B0
  refine ⟨_, chkSs_ok F.body st (takes_of rfl rfl rfl rfl) Sf.kind (passes_of rfl) (B.raises rfl rfl rfl rfl rfl (hr'.mono (by omega))) body hchk, ?_⟩
  refine ⟨α, _, S, start_rel r (by omega), rs, ?_⟩
  unfold Fn.run at h
  rw [if_pos (by rw [hp]; exact hl'), hn] at h
  exact endF_of h
end

/-! ### all defs of a module -/
/-- a module in our language -/
structure Pg where
  nm : Nm
  defs : Nat → Fn
  con : Nat → D
  dic : Nat → List (Str × D)
  sub : Nat → Nat → Bool
  top : Nat
  lam : Nat → Bool
mutual
/-- what a call does, where calls go n deep -/
noncomputable def Pg.call (p : Pg) : Nat → Nat → List D → Sto → Res D
  | 0, _, _, _ => .bad
  | n + 1, i, ds, S => (p.defs i).run { con := p.con, dic := p.dic, call := Pg.call p n, sub := p.sub, nC := p.nm.nC, srt := Ns.srtD, top := p.top } ds S
end
noncomputable def Pg.G (p : Pg) (n : Nat) : Glob := { con := p.con, dic := p.dic, call := p.call n, sub := p.sub, nC := p.nm.nC, srt := Ns.srtD, top := p.top }
noncomputable abbrev Pg.M (p : Pg) (cls : Nat → Addr) (T : List (Addr × Str)) (n : Nat) : Mo := ⟨p.nm, p.G n, cls, T⟩
theorem Pg.call_succ (p : Pg) (n i : Nat) (ds : List D) (S : Sto) : p.call (n + 1) i ds S = (p.defs i).run (p.G n) ds S := by
  simp only [Pg.call, Pg.G]
/-- what the module's objects say of a def of the text -/
structure DefK (P : Program) (w : World) (K : PySem.W.Frag) (mg : Str → Option Value) (base : Heap) (p : Pg) (cls : Nat → Addr) (T : List (Addr × Str)) (i : Nat) : Prop where
  ex : ∃ (f : Addr) (name qual : Str) (params : Arguments) (body : List Stmt) (scope : Scope) (dV kV doc pm cdv ct oc : Value) (an od : Option Addr) (osl : Array (Option Value)) (N ps : List Str),
    K.lookup f = some ⟨oc, od, .func (PySem.W.fnOf name qual params body scope dV kV doc pm an cdv ct), osl⟩ ∧ PySem.W.codeIn K cdv qual = true ∧ FnScope N ps scope ∧ (p.defs i).ps = ps.length ∧ (p.defs i).ns = N.length ∧ ps.length ≤ N.length ∧
    chkSs p.nm N ⟨p.nm.gd i, p.lam i⟩ (p.defs i).body scope body = true ∧ (p.lam i = true → LamK P w K mg base (p.M cls T 0) cdv qual) ∧ mg (p.nm.fnN i) = some (.ref f) ∧ PySem.W.keepIn K (.ref f) = true ∧ Binds K (PySem.W.fnOf name qual params body scope dV kV doc pm an cdv ct) ps []
/-- what is known of the module beside its defs -/
structure ModK (P : Program) (w : World) (K : PySem.W.Frag) (mg : Str → Option Value) (base : Heap) (p : Pg) (cls : Nat → Addr) (T : List (Addr × Str)) : Prop where
  blt : ∀ x ∈ bltN, mg x = none
  con : ∀ i, i < p.nm.nCon → ∃ v u, mg (p.nm.conN i) = some u ∧ RelV v u ∧ ∀ α H, Rep ⟨K, cls, T⟩ α H (p.con i) v
  dic : ∀ i, i < p.nm.nDic → ∃ d es n, mg (p.nm.dicN i) = some (.ref d) ∧ KDict K w d es n ∧ ∀ y e, (p.dic i).lookup y = some e → ∃ u v, PySem.W.nsIn K d y = some (some u) ∧ RelV v u ∧ ∀ α H, Rep ⟨K, cls, T⟩ α H e v
  xcf : ∀ c, c < p.nm.nC → XcF K (cls c)
  xcm : ∀ c, c < p.nm.nC → mg (p.nm.clsN c) = some (.ref (cls c))
  xcs : ∀ c, c < p.nm.nC → ∀ c', c' < p.nm.nC → PySem.W.kitOne K (.ref (cls c')) (.ref (cls c)) = some (p.sub c' c)
  rse : ∀ c, c < p.nm.nC → OexC K (cls c) ∧ ∃ (fI : Addr) (k' : Nat) (fd : FuncData) (ps : List Str), PySem.W.findIn K (.ref (cls c)) "__init__" = some (some (.ref fI)) ∧ PySem.W.typeIn K (.ref fI) = some (.type "function") ∧
    FnOk P w K mg base (L2.CX P w) k' fI fd ps (spIni K) ∧ k' + 1 ≤ 2 ∧ Binds K fd ps []
  defs : ∀ i, i < p.nm.nFn → DefK P w K mg base p cls T i
section
variable {P : Program} {w : World} {K : PySem.W.Frag} {mg : Str → Option Value} {base : Heap} {p : Pg} {cls : Nat → Addr} {T : List (Addr × Str)}
/-- every def keeps what our language says of it, however deep its calls go -/
theorem ModK.all (m : ModK P w K mg base p cls T) : ∀ (n : Nat) (gk : Gk), Base P w K mg base (p.M cls T n) (3 * n + 2) gk
  | 0, gk => ⟨rfl, rfl, m.blt, m.con, m.dic, m.xcf, m.xcm, m.xcs, fun i hi hg => by
      obtain ⟨f, name, qual, params, body, scope, dV, kV, doc, pm, cdv, ct, oc, an, od, osl, N, ps, h1, h2, h3, h4, h5, h6, h7, h11, h8, h9, h10⟩ := (m.defs i hi).ex
      exact ⟨p.nm.gd i, 0, f, _, ps, hg, Nat.zero_le _, h8, h9, h10, fun ds S _ => by show p.call 0 i ds S = _; simp only [Pg.call],
        ⟨fun vs H Q E ⟨α, S, ds, _, _, _, h⟩ => by exfalso; have h : EndG _ _ _ _ (p.call 0 i ds S) _ := h; simp only [Pg.call] at h; exact h,
          fun A outer s H args us vs Q E _ _ _ _ _ ⟨α, S, ds, _, _, _, h⟩ => by exfalso; have h : EndG _ _ _ _ (p.call 0 i ds S) _ := h; simp only [Pg.call] at h; exact h⟩⟩,
      fun c hc => by
        obtain ⟨h1, fI, k', fd, ps, h2, h3, h4, h5, h6⟩ := m.rse c hc
        exact ⟨h1, fI, k', fd, ps, h2, h3, h4, by omega, h6⟩⟩
  | n + 1, gk => ⟨rfl, rfl, m.blt, m.con, m.dic, m.xcf, m.xcm, m.xcs, fun i hi hg => by
      obtain ⟨f, name, qual, params, body, scope, dV, kV, doc, pm, cdv, ct, oc, an, od, osl, N, ps, h1, h2, h3, h4, h5, h6, h7, h11, h8, h9, h10⟩ := (m.defs i hi).ex
      have z := fn_ok (ModK.all m n ⟨p.nm.gd i, p.lam i⟩) (ModK.all m n ⟨false, false⟩) (F := p.defs i) h1 h2 h3 h4 h5 h6 h7 fun q => ⟨(h11 q).F, (h11 q).ex, (h11 q).xce⟩
      have e : p.call (n + 1) i = (p.defs i).run (p.G n) := by funext ds S; exact p.call_succ n i ds S
      refine ⟨p.nm.gd i, 3 * n + 5, f, _, ps, hg, by omega, h8, h9, h10, fun ds S hne => ?_, ?_⟩
      · show p.call (n + 1) i ds S = _
        rw [e]
        unfold Fn.run
        rw [if_neg (by rw [h4]; exact hne)]
      · show FnG P w K mg base (L2.CX P w) (p.nm.gd i) (3 * n + 5) f _ ps (spOf ⟨K, cls, T⟩ ps.length (p.call (n + 1) i))
        rw [e]
        exact z,
      fun c hc => by
        obtain ⟨h1, fI, k', fd, ps, h2, h3, h4, h5, h6⟩ := m.rse c hc
        exact ⟨h1, fI, k', fd, ps, h2, h3, h4, by omega, h6⟩⟩
end
end Py
set_option Elab.async false
set_option linter.all false
set_option maxRecDepth 100000
set_option maxHeartbeats 2000000
/-! The end of a law whose def may show values: nothing is just being shown when it is called. -/
namespace Py
open PySem PySem.Spec PyProof.Rows L2 LamX
section
variable {P : Program} {w : World} {K : PySem.W.Frag} {mg mb : Str → Option Value} {CX : CXT} {gd : Bool} {k : Nat} {fa a : Addr} {cs : List (Addr × Addr)} {fd : FuncData} {x : Str} {sp : Sp} {s1 : Shared} {vs : List Value} {ns : List Int}
/-- what is known of the heap at the call -/
structure TopOk (K : PySem.W.Frag) (mg mb : Str → Option Value) (cs : List (Addr × Addr)) (s1 : Shared) (a : Addr) (vs : List Value) : Prop where
  kin : K.In s1.heap
  glob : s1.heap.Ns mainGlobals mg
  blt : s1.heap.Ns builtinsNs mb
  boot : ∀ x : Str, x ≠ "__name__" → mb x = bootBuiltins x
  lim : s1.heap.NoLimit
  gens : s1.gens = #[]
  tab : ∀ p ∈ cs, s1.heap.get? p.2 = some { cls := .none, data := .fields #[] }
  noK : ∀ p ∈ cs, K.lookup p.2 = none
  head : ∀ p ∈ cs, PySem.W.CodeHd s1.heap p.1 p.2
  main : ∃ (bm : Addr) (ob : Obj), mg "__builtins__" = some (.ref bm) ∧ bm ≠ builtinsNs ∧ s1.heap.get? bm = some ob ∧ ob.cls = .type "module" ∧ ob.dict = some builtinsNs ∧ ob.data = .plain
  arg : s1.heap.get? a = some { cls := .type "list", data := .seq vs.toArray }
/-- what is tracked at first: the argument (where it is no object of the module), the tables -/
def top0 (K : PySem.W.Frag) (cs : List (Addr × Addr)) (a : Addr) (vs : List Value) (ns : List Int) : Hp := fun b =>
  if b = a ∧ K.lookup a = none then some (.frz { cls := .type "list", data := .seq vs.toArray } (.lst (ns.map V.int))) else if b ∈ cs.map (·.2) then some (.tbl #[]) else none
theorem top0_cases (b : Addr) : (b = a ∧ K.lookup a = none ∧ top0 K cs a vs ns b = some (.frz { cls := .type "list", data := .seq vs.toArray } (.lst (ns.map V.int)))) ∨ (¬ (b = a ∧ K.lookup a = none) ∧ b ∈ cs.map (·.2) ∧ top0 K cs a vs ns b = some (.tbl #[])) ∨
    (¬ (b = a ∧ K.lookup a = none) ∧ b ∉ cs.map (·.2) ∧ top0 K cs a vs ns b = none) := by
  unfold top0
  by_cases h : b = a ∧ K.lookup a = none
  · rw [if_pos h]; exact .inl ⟨h.1, h.2, rfl⟩
  · rw [if_neg h]
    by_cases h2 : b ∈ cs.map (·.2)
    · rw [if_pos h2]; exact .inr (.inl ⟨h, h2, rfl⟩)
    · rw [if_neg h2]; exact .inr (.inr ⟨h, h2, rfl⟩)
theorem TopOk.isTab (T : TopOk K mg mb cs s1 a vs) {b : Addr} (h : b ∈ cs.map (·.2)) : s1.heap.get? b = some { cls := .none, data := .fields #[] } := by
  rw [List.mem_map] at h
  obtain ⟨q, hq, rfl⟩ := h
  exact T.tab q hq
theorem TopOk.argNoTab (T : TopOk K mg mb cs s1 a vs) : a ∉ cs.map (·.2) := fun h => by
  have q := T.isTab h
  rw [T.arg] at q
  have q' : Data.seq vs.toArray _ = Data.fields #[] := congrArg Obj.data (Option.some.inj q)
  cases q'
/-- an object that is neither the argument nor a table is not tracked -/
theorem TopOk.free (T : TopOk K mg mb cs s1 a vs) {b : Addr} {o : Obj} (e : s1.heap.get? b = some o) (h1 : ∀ us n, o.data ≠ .seq us n) (h2 : o.data ≠ .fields #[]) : top0 K cs a vs ns b = none := by
  rcases top0_cases (K := K) (cs := cs) (a := a) (vs := vs) (ns := ns) b with ⟨rfl, _, _⟩ | ⟨_, h, _⟩ | ⟨_, _, h⟩
  · rw [T.arg] at e; cases e; exact absurd rfl (h1 _ _)
  · rw [T.isTab h] at e; cases e; exact absurd rfl h2
  · exact h
theorem TopOk.hid (T : TopOk K mg mb cs s1 a vs) {b : Addr} {o : Obj} (e : s1.heap.get? b = some o) (h : top0 K cs a vs ns b = none) : (hidT s1.heap (top0 K cs a vs ns)).get? b = some o := hidT_get e h
theorem TopOk.hidNs (T : TopOk K mg mb cs s1 a vs) {b : Addr} {m : Str → Option Value} (h : s1.heap.Ns b m) : (hidT s1.heap (top0 K cs a vs ns)).Ns b m := by
  obtain ⟨o, es, ep, e, d, r⟩ := h
  exact ⟨o, es, ep, T.hid e (T.free e (fun us n z => by rw [d] at z; cases z) fun z => by rw [d] at z; cases z), d, r⟩
theorem TopOk.hidK (T : TopOk K mg mb cs s1 a vs) : K.In (hidT s1.heap (top0 K cs a vs ns)) := fun b o e => by
  refine T.hid (T.kin b o e) ?_
  rcases top0_cases (K := K) (cs := cs) (a := a) (vs := vs) (ns := ns) b with ⟨rfl, h, _⟩ | ⟨_, h, _⟩ | ⟨_, _, h⟩
  · rw [h] at e; cases e
  · rw [List.mem_map] at h
    obtain ⟨q, hq, rfl⟩ := h
    rw [T.noK q hq] at e
    cases e
  · exact h
theorem TopOk.mod (T : TopOk K mg mb cs s1 a vs) : L2.Mod K mg (hidT s1.heap (top0 K cs a vs ns)) :=
  ⟨T.hidK, T.hidNs T.glob, ⟨mb, T.hidNs T.blt, T.boot⟩, by obtain ⟨mc, h1, h2⟩ := T.lim; exact ⟨mc, T.hidNs h1, h2⟩⟩
theorem TopOk.tabB (T : TopOk K mg mb cs s1 a vs) : ∀ p ∈ cs, TabB (hidT s1.heap (top0 K cs a vs ns)) mg p.1 p.2 := fun p hp => by
  have gd : mainGlobals ≠ p.2 := fun z => by
    obtain ⟨o, es, ep, e, hd, _⟩ := T.glob
    rw [z, T.tab p hp] at e
    cases e
    cases hd
  refine ⟨?_, ?_, gd⟩
  · obtain ⟨o, us, file, tf, flags, tg, inF, text, tt, e1, r1, r2, r3, rest⟩ := T.head p hp
    exact ⟨o, us, file, tf, flags, tg, inF, text, tt, T.hid e1 (T.free e1 (fun _ _ z => by rw [r2] at z; cases z) fun z => by rw [r2] at z; cases z; simp at r3), r1, r2, r3, rest⟩
  · obtain ⟨bm, ob, b1, b2, b3, b4, b5, b6⟩ := T.main
    refine ⟨bm, ob, b1, b2, fun q => ?_, fun q => ?_, T.hid b3 (T.free b3 (fun _ _ z => by rw [b6] at z; cases z) fun z => by rw [b6] at z; cases z), b4, b5, b6⟩
    · obtain ⟨o, es, ep, e, hd, _⟩ := T.glob
      rw [q, e] at b3
      cases b3
      rw [hd] at b6
      cases b6
    · rw [q, T.tab p hp] at b3
      cases b3
      cases b6
theorem TopOk.hok (T : TopOk K mg mb cs s1 a vs) (hi : IntsAre vs ns) (hl : ns.length ≤ sizeLine) : HOk P w (top0 K cs a vs ns) s1.heap := fun b u z => by
  rcases top0_cases (K := K) (cs := cs) (a := a) (vs := vs) (ns := ns) b with ⟨rfl, _, h⟩ | ⟨_, hm, h⟩ | ⟨_, _, h⟩
  · rw [h] at z
    cases z
    exact ⟨T.arg, by rw [List.length_map]; exact hl, vs, _, vals_ints hi, T.arg⟩
  · rw [h] at z
    cases z
    exact T.isTab hm
  · rw [h] at z
    cases z
theorem TopOk.sq (T : TopOk K mg mb cs s1 a vs) (hi : IntsAre vs ns) (hl : ns.length ≤ sizeLine) : SqC ⟨K, fun _ => 0, []⟩ [] (top0 K cs a vs ns) a (ns.map V.int) := by
  cases hk : K.lookup a with
  | none => exact .inl ⟨_, if_pos ⟨rfl, hk⟩, by simp⟩
  | some o =>
    have e := T.kin a o hk
    rw [T.arg] at e
    cases e
    exact .inr ⟨_, vs.toArray, _, hk, rfl, rfl, rfl, by rw [List.size_toArray, hi.length]; exact hl, by simpa using vals_ints hi⟩
/-- the law's def is called -/
theorem TopOk.call (T : TopOk K mg mb cs s1 a vs) (hi : IntsAre vs ns) (hl : ns.length ≤ sizeLine) (hr : Room k callerA) (F : ∀ base : Heap, L2.Mod K mg base → (∀ p ∈ cs, TabB base mg p.1 p.2) → FnG P w K mg base CX gd k fa fd [x] sp)
    (hb : ∀ (s : Shared) (u : Value), BindsTo s fd ⟨[u], []⟩ [(x, u)]) (hsp : sp [.ref a] (top0 K cs a vs ns) (fun v _ => v = .bl true) fun _ _ _ => False) (hCX : ∀ H e s', CX [] H s1 (fun _ _ _ => False) e s' → False) :
    codeAny (model P w) callerA (.call (.ref fa) ⟨[.ref a], []⟩) (fun r s' => r = .ok (.ret (.bool true)) ∧ OldK s1.heap s'.heap ∧ s'.os = s1.os ∧ AllBare s'.gens) s1 := by
  have env : Env0 P w K mg (hidT s1.heap (top0 K cs a vs ns)) callerA [] s1 (top0 K cs a vs ns) :=
    ⟨rfl, T.mod, fun b o e => of_hidT e, Nat.le_of_eq (hidT_size _ _), trivial, fun b hb => absurd (show b ∈ ([] : List Addr) from hb) (by simp), T.hok hi hl, .of_eq T.gens⟩
  refine codeAny_mono ((F _ T.mod T.tabB).run callerA [] s1 _ ⟨[.ref a], []⟩ [.ref a] [.ref a] _ _ hr (fun _ => rfl) env (hb s1 (.ref a)) (.cons rfl .nil) hsp) fun r s' h => ?_
  cases r with
  | error e => exact (hCX _ e s' h).elim
  | ok fl =>
    cases fl with
    | ret u =>
      obtain ⟨v, H', os, bare, un, hok', r', rfl⟩ := h
      obtain rfl : u = Value.bool true := r'
      have rest : ∀ b o, b ∉ cs.map (·.2) → s1.heap.get? b = some o → s'.heap.get? b = some o := fun b o nb e => by
        rcases top0_cases (K := K) (cs := cs) (a := a) (vs := vs) (ns := ns) b with ⟨rfl, _, h⟩ | ⟨_, hm, _⟩ | ⟨_, _, h⟩
        · rw [T.arg] at e
          cases e
          exact (hok' _ _ (un.frzs _ _ _ h)).1
        · exact absurd hm nb
        · exact un.keep b o e h (fun z => absurd (show b ∈ ([] : List Addr) from z) (by simp)) (by simp)
      have grew : ∀ p ∈ cs, ∃ more : Array Value, s'.heap.get? p.2 = some { cls := .none, data := .fields more } := fun p hp => by
        have hm : p.2 ∈ cs.map (·.2) := List.mem_map.mpr ⟨p, hp, rfl⟩
        rcases top0_cases (K := K) (cs := cs) (a := a) (vs := vs) (ns := ns) p.2 with ⟨h, _, _⟩ | ⟨_, _, h⟩ | ⟨_, h, _⟩
        · exact absurd (h ▸ hm) T.argNoTab
        · obtain ⟨more, z⟩ := un.tbls p.2 #[] h
          exact ⟨_, hok' p.2 _ z⟩
        · exact absurd hm h
      refine ⟨rfl, ⟨fun b o e => ?_, fun b o e => ?_⟩, os, bare⟩
      · by_cases nb : b ∈ cs.map (·.2)
        · rw [List.mem_map] at nb
          obtain ⟨p, hp, rfl⟩ := nb
          obtain ⟨more, hm⟩ := grew p hp
          rw [T.tab p hp] at e
          cases e
          exact .inr (.inl ⟨((T.head p hp).tab (T.tab p hp)).isCodeTable, rfl, #[], more, rfl, by rw [Array.empty_append]; exact hm⟩)
        · exact .inl (rest b o nb e)
      · by_cases nb : b ∈ cs.map (·.2)
        · rw [List.mem_map] at nb
          obtain ⟨p, hp, rfl⟩ := nb
          obtain ⟨more, hm⟩ := grew p hp
          exact ⟨_, hm⟩
        · exact ⟨o, rest b o nb e⟩
    | _ => exact False.elim h
end
end Py
set_option Elab.async false
set_option linter.all false
set_option maxRecDepth 100000
set_option maxHeartbeats 2000000
/-! What the run of the module's top shows, and what follows of the module's defs. -/
namespace Py
open PySem PySem.Spec PyProof.Rows L2 LamX
/-! ### the text -/
/-- a def of the text, by its name -/
def defD (prog : Program) (x : Str) : He.DefD := (prog.main.body.findSome? fun s => match s with
  | .FunctionDef name args body _ _ _ scope _ _ _ => if name = x then some (⟨(x, none), x, x, args, body, scope, [], []⟩ : He.DefD) else none
  | _ => none).getD ⟨(x, none), x, x, ⟨[], [], none, [], [], none, []⟩, [], default, [], []⟩
/-- the __init__ of a class of the text -/
def iniD (prog : Program) (c : Str) : He.DefD := (prog.main.body.findSome? fun s => match s with
  | .ClassDef name _ _ body _ _ _ _ _ _ _ => if name = c then (body.findSome? fun t => match t with
      | .FunctionDef name args body _ _ _ scope _ _ _ => if name = ("__init__" : Str) then some (⟨(c, some "__init__"), "__init__", c ++ ".__init__", args, body, scope, [], []⟩ : He.DefD) else none
      | _ => none) else none
  | _ => none).getD ⟨(c, none), c, c, ⟨[], [], none, [], [], none, []⟩, [], default, [], []⟩
def scB (N ps : List Str) (sc : Scope) : Bool := decide (sc.kind = .function) && !sc.isCoroutine && !sc.isGenerator && decide N.Nodup && decide (N.take ps.length = ps) &&
  (ps.all fun x => decide (sc.names.lookup x = some .local) || decide (sc.names.lookup x = some .cell)) && sc.names.all fun y => decide (y.2 ≠ .free)
theorem scB_ok {N ps : List Str} {sc : Scope} (h : scB N ps sc = true) : FnScope N ps sc := by
  unfold scB at h
  simp only [Bool.and_eq_true, Bool.not_eq_true', decide_eq_true_eq, List.all_eq_true, Bool.or_eq_true] at h
  obtain ⟨⟨⟨⟨⟨⟨h1, h2⟩, h3⟩, h4⟩, h5⟩, h6⟩, h7⟩ := h
  exact ⟨h1, h2, h3, h4, h5, h6, h7⟩
/-- the parameters are bound by place -/
def ParOk (d : He.DefD) (ps : List Str) : Prop := ∀ (kV doc pm : Value) (an : Option Addr) (cdv ct : Value) (us : List Value), us.length = ps.length → bindArgs (PySem.W.fnOf d.name d.qual d.params d.body d.scope .none kV doc pm an cdv ct) ⟨us, []⟩ = pure (ps.zip us)
/-! ### classes of exceptions -/
def oexB (K : PySem.W.Frag) (C : Addr) : Bool := match K.lookup C with
  | some ⟨.type "type", _, .cls cd, sl⟩ => (match cd.mro, sl.toList with
    | .ref C' :: bm, [_, _, _, _, some (.builtin n), _] => C' == C && n == "ValueError.__new__" && !cd.hasDel && cd.hasDict && PySem.HandSPX.refsVE bm
    | _, _ => false)
  | _ => false
theorem oexB_ok {K : PySem.W.Frag} {C : Addr} (h : oexB K C = true) : ∃ nm q N bs bm sn sub ab col dd k0 k1 k2 k3 k5, K.lookup C = some (excClassObj nm q C N bs bm true sn sub ab col dd k0 k1 k2 k3 k5 "ValueError.__new__") ∧ PySem.HandSPX.refsVE bm = true := by
  unfold oexB at h
  split at h
  · rename_i dd cd sl ho
    split at h
    · rename_i C' bm k0 k1 k2 k3 n k5 hm hs
      simp only [Bool.and_eq_true, beq_iff_eq, Bool.not_eq_true'] at h
      obtain ⟨⟨⟨⟨rfl, rfl⟩, h3⟩, h4⟩, h5⟩ := h
      obtain ⟨c1, c2, c3, c4, c5, c6, c7, c8, c9, c10, c11⟩ := cd
      simp only at hm h3 h4
      subst hm
      subst h3
      subst h4
      obtain ⟨l⟩ := sl
      simp only at hs
      subst hs
      exact ⟨_, _, _, _, _, _, _, _, _, _, _, _, _, _, _, ho, h5⟩
    · cases h
  · cases h
def xcB (K : PySem.W.Frag) (C : Addr) : Bool := decide (PySem.W.findIn K (.ref C) "__getattribute__" = some (some (.builtin "BaseException.__getattribute__"))) && decide (PySem.W.findIn K (.ref C) "__getattr__" = some none) &&
  decide (PySem.W.subIn K (.ref C) (.type "BaseException") = some true) && PySem.W.hasDictIn K C && decide (PySem.W.findIn K (.ref C) "value" = some none) && (PySem.W.clsIn K C).isSome &&
  decide (PySem.W.findIn K (.ref C) "__class__" = some (some (.builtin "object.__class__"))) && decide (PySem.W.specialIn K (.builtin "object.__class__") "__get__" = some (some (.builtin "getset_descriptor.__get__"))) &&
  decide (PySem.W.takesIn K (.builtin "object.__class__") = some true) && decide (PySem.W.mroIn K C (.type "object") = some true)
theorem xcB_ok {K : PySem.W.Frag} {C : Addr} (h : xcB K C = true) : XcF K C := by
  unfold xcB at h
  simp only [Bool.and_eq_true, decide_eq_true_eq] at h
  obtain ⟨⟨⟨⟨⟨⟨⟨⟨⟨h1, h2⟩, h3⟩, h4⟩, h5⟩, h6⟩, h7⟩, h8⟩, h9⟩, h10⟩ := h
  exact ⟨h1, h2, h3, h4, h5, h6, h7, h8, h9, h10⟩
def oeB (K : PySem.W.Frag) (C : Addr) : Bool := oexB K C && decide (PySem.W.findIn K (.ref C) "__setattr__" = some (some (.builtin "object.__setattr__"))) && decide (PySem.W.subIn K (.ref C) (.type "BaseException") = some true) &&
  decide (PySem.W.typeIn K (.ref C) = some (.type "type")) && PySem.W.keepIn K (.ref C)
theorem oeB_ok {K : PySem.W.Frag} {C : Addr} (h : oeB K C = true) : OexC K C := by
  unfold oeB at h
  simp only [Bool.and_eq_true, decide_eq_true_eq] at h
  obtain ⟨⟨⟨⟨h1, h2⟩, h3⟩, h4⟩, h5⟩ := h
  exact ⟨oexB_ok h1, h2, h3, h4, h5⟩
/-! ### constants -/
/-- a flat constant as a value -/
def repB : D → Value → Bool
  | .non, .none => true
  | .bl b, .bool c => decide (b = c)
  | .int i, .int j _ => decide (i = j)
  | .str x, .str y _ => decide (x = y)
  | _, _ => false
theorem repB_ok {κ : Kt} : ∀ {d : D} {u : Value}, repB d u = true → ∃ v, RelV v u ∧ ∀ α H, Rep κ α H d v
  | .non, .none, _ => ⟨.non, rfl, fun _ _ => mk_non⟩
  | .bl b, .bool c, h => by
    have e : b = c := of_decide_eq_true h
    subst e
    exact ⟨.bl b, rfl, fun _ _ => mk_bl⟩
  | .int i, .int j t, h => by
    have e : i = j := of_decide_eq_true h
    subst e
    exact ⟨.int i, ⟨t, rfl⟩, fun _ _ => mk_int⟩
  | .str i, .str j t, h => by
    have e : i = j := of_decide_eq_true h
    subst e
    exact ⟨.str i, ⟨t, rfl⟩, fun _ _ => mk_str⟩
def conB (K : PySem.W.Frag) (x : Str) (d : D) : Bool := match PySem.W.nsIn K mainGlobals x with
  | some (some u) => repB d u
  | _ => false
theorem conB_ok {K : PySem.W.Frag} {h : Heap} {mg : Str → Option Value} {κ : Kt} (KX : K.In h) (G : h.Ns mainGlobals mg) {x : Str} {d : D} (e : conB K x d = true) : ∃ v u, mg x = some u ∧ RelV v u ∧ ∀ α H, Rep κ α H d v := by
  unfold conB at e
  split at e
  · rename_i u hu
    obtain ⟨v, h1, h2⟩ := repB_ok (κ := κ) e
    exact ⟨v, u, PySem.W.mg_of KX G hu, h1, h2⟩
  · cases e
/-! ### what the run shows -/
/-- a law's text and its form -/
structure Src where
  prog : Program
  p : Pg
  N : Nat → List Str
  ps : Nat → List Str
  /-- the class whose __init__ all classes of exceptions have -/
  ini : Str
def Src.fns (S : Src) : List Str := (List.range S.p.nm.nFn).map S.p.nm.fnN
def Src.lams (S : Src) : List He.Defn := ((List.range S.p.nm.nFn).filter S.p.lam).map fun i => (S.p.nm.fnN i, none)
def Src.fn (S : Src) : List He.DefD := S.fns.map (defD S.prog) ++ [defD S.prog S.p.nm.hearN, iniD S.prog S.ini]
def Src.ts (S : Src) : List He.Tab := (List.range S.p.nm.nDic).map fun i => ((fun K => He.ga K (S.p.nm.dicN i)), (S.p.dic i).map (·.1))
def nsB (K : PySem.W.Frag) (d : Addr) (l : List (Str × D)) : Bool := l.all fun q => match PySem.W.nsIn K d q.1 with
  | some (some u) => repB q.2 u
  | _ => false
/-- the rest of the facts, as a Bool -/
def Src.modB (S : Src) (K : PySem.W.Frag) : Bool :=
  bltN.all (fun x => (He.Fa.free x).ok K) && (List.range S.p.nm.nCon).all (fun i => conB K (S.p.nm.conN i) (S.p.con i)) &&
  (List.range S.p.nm.nDic).all (fun i => (He.Fa.glo (S.p.nm.dicN i)).ok K && nsB K (He.ga K (S.p.nm.dicN i)) (S.p.dic i)) &&
  (List.range S.p.nm.nC).all (fun c => (He.Fa.glo (S.p.nm.clsN c)).ok K && xcB K (He.ga K (S.p.nm.clsN c)) && oeB K (He.ga K (S.p.nm.clsN c)) && decide (PySem.W.findIn K (.ref (He.ga K (S.p.nm.clsN c))) "__init__" = some (some (.ref (He.fAd K (S.ini, some "__init__"))))) &&
    (List.range S.p.nm.nC).all (fun c' => decide (PySem.W.kitOne K (.ref (He.ga K (S.p.nm.clsN c'))) (.ref (He.ga K (S.p.nm.clsN c))) = some (S.p.sub c' c))) &&
    (!S.p.sub c S.p.top || decide (PySem.W.exmOne K (.ref (He.ga K (S.p.nm.clsN c))) (.ref (He.ga K (S.p.nm.clsN S.p.top))) = some true))) &&
  decide (PySem.W.typeIn K (.ref (He.fAd K (S.ini, some "__init__"))) = some (.type "function")) && (match PySem.W.findCls K (.type "ValueError") (.type "type") "__init__" with | some (.val (.builtin n)) => n == "ValueError.__init__" | _ => false) &&
  S.fns.all (fun x => (He.Fa.glo x).ok K) && (He.Fa.glo S.p.nm.hearN).ok K && decide ((S.lams.map fun p => (He.cT K p).2).Nodup)
def Src.cls (S : Src) (K : PySem.W.Frag) : Nat → Addr := fun c => He.ga K (S.p.nm.clsN c)
def Src.T (S : Src) (K : PySem.W.Frag) : List (Addr × Str) := S.lams.map fun p => ((He.cT K p).2, p.1 ++ ".<locals>." ++ "<lambda>")
/-- the text of a def that stands where its name says, without defaults -/
structure AtN (d : He.DefD) (x : Str) : Prop where
  at_ : d.at_ = (x, none)
  name : d.name = x
  qual : d.qual = x
  dfl : d.dfl = []
  kwd : d.kwd = []
/-- what the text alone shows -/
structure Src.Ok (S : Src) : Prop where
  defs : ∀ i, i < S.p.nm.nFn → scB (S.N i) (S.ps i) (defD S.prog (S.p.nm.fnN i)).scope = true ∧ (S.p.defs i).ps = (S.ps i).length ∧ (S.p.defs i).ns = (S.N i).length ∧ (S.ps i).length ≤ (S.N i).length ∧
    chkSs S.p.nm (S.N i) ⟨S.p.nm.gd i, S.p.lam i⟩ (S.p.defs i).body (defD S.prog (S.p.nm.fnN i)).scope (defD S.prog (S.p.nm.fnN i)).body = true
  pars : ∀ i, i < S.p.nm.nFn → ParOk (defD S.prog (S.p.nm.fnN i)) (S.ps i)
  names : ∀ i, i < S.p.nm.nFn → AtN (defD S.prog (S.p.nm.fnN i)) (S.p.nm.fnN i)
  hear : AtN (defD S.prog S.p.nm.hearN) S.p.nm.hearN ∧ scB hearN4 ["call"] (defD S.prog S.p.nm.hearN).scope = true ∧ (∀ y ∈ hearN4, (defD S.prog S.p.nm.hearN).scope.names.lookup y = some .local) ∧ ParOk (defD S.prog S.p.nm.hearN) ["call"]
  hearT : ∃ v1 v2 v3, vHear (defD S.prog S.p.nm.hearN).body = some (v1, v2, v3, S.p.nm.clsN S.p.top) ∧ (defD S.prog S.p.nm.hearN).scope.names.lookup (S.p.nm.clsN S.p.top) = some .globalImplicit ∧ (S.p.nm.clsN S.p.top == ("__debug__" : Str)) = false
  top : S.p.top < S.p.nm.nC
end Py
set_option Elab.async false
set_option linter.all false
set_option maxRecDepth 100000
set_option maxHeartbeats 2000000
/-! From what the run shows to what is known of the module. -/
namespace Py
open PySem PySem.Spec PyProof.Rows L2 LamX
/-! ### the __init__ of the classes of exceptions -/
theorem meth_eval {x m : Str} {p1 p2 pos : Pos} {es : List Expr} {env : PySem.Env} (hf : methodCallForm (es.length + ([] : List Keyword).length) (backTo pos (starEach es env)) (backToKw pos (keywordEach [] env)) = true) (hl : (p2.endLine == pos.line) = true) :
    eval (.Call (.Attribute (.Name x p1) m p2) es [] pos) env = (do
      let ov ← eval (.Name x p1) env
      standAt p2.atName
      let (f, first) ← holding [ov] (getMethod ov m (plainOf (.Name x p1) env))
      callWith pos f first (backTo pos (starEach es env)) (backToKw pos (keywordEach [] env))) := by
  show (do
      let ov ← eval (.Name x p1) env
      standAt p2.atName
      methodCall (.Name x p1) m p2 pos env ov (es.length + ([] : List Keyword).length) (backTo pos (starEach es env)) (backToKw pos (keywordEach [] env))) = _
  congr 1
  funext ov
  congr 1
  funext _
  exact mcall_line hf hl
/-- def __init__(self, value): ValueError.__init__(self, value); self.value = value -/
def vIni : List Stmt → Bool
  | [.Expr (.Call (.Attribute (.Name v _) i p2) [.Name s1 _, .Name a1 _] [] p5) _, .Assign [.Attribute (.Name s2 _) f _] (.Name a2 _) _] =>
    decide (v = "ValueError" ∧ i = "__init__" ∧ s1 = "self" ∧ a1 = "value" ∧ s2 = "self" ∧ f = "value" ∧ a2 = "value") && (p2.endLine == p5.line)
  | _ => false
theorem ini_ok {P : Program} {w : World} {K : PySem.W.Frag} {mg : Str → Option Value} {base : Heap} {f : Addr} {name qual : Str} {params : Arguments} {body : List Stmt} {scope : Scope} {fd : FuncData} (F : FunD K name qual params body scope [] [] f fd) (Sf : FnScope ["self", "value"] ["self", "value"] scope)
    (hb : vIni body = true) (hgl : scope.names.lookup ("ValueError" : Str) = some .globalImplicit) (hm : mg "ValueError" = none) (vV : PySem.W.findCls K (.type "ValueError") (.type "type") "__init__" = some (.val (.builtin "ValueError.__init__"))) :
    FnOk P w K mg base (L2.CX P w) 1 f fd ["self", "value"] (spIni K) := by
  refine F.ok Sf (fun vs H Q E ⟨a, C, v, h, _⟩ => by rw [h]; rfl) fun cdv A outer s H vs Q E hr hsp => ?_
  obtain ⟨a, C, v, rfl, T, hno, ha, hq⟩ := hsp
  unfold vIni at hb
  split at hb
  rotate_left
  · cases hb
  rename_i v1 p1 i1 p2 s1 p3 a1 p4 p5 p6 s2 p7 f1 p8 a2 p9 p10
  rw [Bool.and_eq_true, decide_eq_true_eq] at hb
  obtain ⟨⟨rfl, rfl, rfl, rfl, rfl, rfl, rfl⟩, hln⟩ := hb
  have n0 : Vis scope "self" := (Sf.par "self" (by simp)).elim .inl fun z => .inr (.inl z)
  have n1 : Vis scope "value" := (Sf.par "value" (by simp)).elim .inl fun z => .inr (.inl z)
  refine ⟨_, pss_cons (ps_expr (pe_veinit hgl hm vV (pa_cons (pe_var (i := 0) rfl n0) (pa_cons (pe_var (i := 1) rfl n1) pa_nil)) (meth_eval (by rfl) hln))) (pss_one (ps_ost (pe_var (i := 0) rfl n0) (pe_var (i := 1) rfl n1))), ?_⟩
  refine ⟨_, rfl, _, rfl, a, C, [v], rfl, by simp, T, ha, ?_⟩
  exact ⟨_, rfl, _, rfl, a, C, rfl, T, hno, .inl ⟨ha, fun dx h1 h2 => hq dx h1 h2⟩⟩
/-- .. of the text -/
structure Src.OkI (S : Src) : Prop where
  at_ : (iniD S.prog S.ini).at_ = (S.ini, some ("__init__" : Str))
  dfl : (iniD S.prog S.ini).dfl = []
  kwd : (iniD S.prog S.ini).kwd = []
  sc : scB ["self", "value"] ["self", "value"] (iniD S.prog S.ini).scope = true
  body : vIni (iniD S.prog S.ini).body = true
  gl : (iniD S.prog S.ini).scope.names.lookup ("ValueError" : Str) = some .globalImplicit
  par : ParOk (iniD S.prog S.ini) ["self", "value"]
section
variable {S : Src} {P : Program} {w : World} {h : Heap} {mg : Str → Option Value} {base : Heap} {K : PySem.W.Frag} {ex : PySem.W.Frag → Bool}
theorem all_range {n : Nat} {f : Nat → Bool} (h : (List.range n).all f = true) {i : Nat} (hi : i < n) : f i = true := List.all_eq_true.mp h i (List.mem_range.mpr hi)
theorem def_at (c : He.SaysX [] S.fn S.ts S.lams S.modB w h K) {d : He.DefD} (hd : d ∈ S.fn) (h0 : d.dfl = []) (h1 : d.kwd = []) : ∃ fd, FunD K d.name d.qual d.params d.body d.scope [] [] (He.fAd K d.at_) fd := by
  have c0 : He.SaysD [] S.fn K := congrArg (fun z : He.AlT => z.1) c.t
  obtain ⟨fd, F⟩ := c0.defs hd
  refine ⟨fd, ?_⟩
  have e1 : d.dvs K = [] := by unfold He.DefD.dvs; rw [h0]; rfl
  have e2 : d.kws K = [] := by unfold He.DefD.kws; rw [h1]; rfl
  rw [e1, e2] at F
  exact F
theorem binds_of {d : He.DefD} {ps : List Str} {f : Addr} {fd : FuncData} (F : FunD K d.name d.qual d.params d.body d.scope [] [] f fd) (hp : ParOk d ps) : Binds K fd ps [] := F.bindsN (ps := ps) hp
theorem lam_mem {i : Nat} (hi : i < S.p.nm.nFn) (hl : S.p.lam i = true) : (S.p.nm.fnN i, none) ∈ S.lams :=
  List.mem_map.mpr ⟨i, List.mem_filter.mpr ⟨List.mem_range.mpr hi, hl⟩, rfl⟩
theorem nodup_inj {α β : Type} {f : α → β} : ∀ {l : List α}, (l.map f).Nodup → ∀ {x y : α}, x ∈ l → y ∈ l → f x = f y → x = y
  | [], _, _, _, hx, _, _ => by cases hx
  | a :: l, h, x, y, hx, hy, e => by
    rw [List.map_cons, List.nodup_cons] at h
    rcases List.mem_cons.mp hx with h1 | h1 <;> rcases List.mem_cons.mp hy with h2 | h2
    · rw [h1, h2]
    · exact absurd (List.mem_map.mpr ⟨y, h2, by rw [← e, h1]⟩) h.1
    · exact absurd (List.mem_map.mpr ⟨x, h1, by rw [e, h2]⟩) h.1
    · exact nodup_inj h.2 h1 h2 e
/-- what is known of the module -/
theorem modK_of (O : S.Ok) (OI : S.OkI) (KX : K.In h) (G : h.Ns mainGlobals mg) (c : He.SaysX [] S.fn S.ts S.lams S.modB w h K) (TB : ∀ p ∈ S.lams, TabB base mg (He.cT K p).1 (He.cT K p).2) : ModK P w K mg base S.p (S.cls K) (S.T K) := by
  have m := c.more
  unfold Src.modB at m
  simp only [Bool.and_eq_true, decide_eq_true_eq] at m
  obtain ⟨⟨⟨⟨⟨⟨⟨⟨m1, m2⟩, m3⟩, m4⟩, m5⟩, m6⟩, m7⟩, m8⟩, m9⟩ := m
  have blt : ∀ x ∈ bltN, mg x = none := fun x hx => He.free_ok KX G (List.all_eq_true.mp m1 x hx)
  have cls : ∀ c, c < S.p.nm.nC → mg (S.p.nm.clsN c) = some (.ref (S.cls K c)) := fun c hc => by
    have z := all_range m4 hc
    simp only [Bool.and_eq_true] at z
    exact He.glo_ok KX G z.1.1.1.1.1
  have glo : ∀ i, i < S.p.nm.nFn → mg (S.p.nm.fnN i) = some (.ref (He.ga K (S.p.nm.fnN i))) := fun i hi => He.glo_ok KX G (List.all_eq_true.mp m7 _ (List.mem_map.mpr ⟨i, List.mem_range.mpr hi, rfl⟩))
  have vV : PySem.W.findCls K (.type "ValueError") (.type "type") "__init__" = some (.val (.builtin "ValueError.__init__")) := by
    split at m6
    · rename_i n hn
      rw [beq_iff_eq] at m6
      subst m6
      exact hn
    · cases m6
  have hearK : HearK K mg S.p.nm.hearN (.ref (S.cls K S.p.top)) := by
    obtain ⟨A, h2, h3, h4⟩ := O.hear
    obtain ⟨v1, v2, v3, h5, h6, h7⟩ := O.hearT
    obtain ⟨fd, F⟩ := def_at c (d := defD S.prog S.p.nm.hearN) (List.mem_append_right _ (by simp)) A.dfl A.kwd
    have hbd := binds_of F h4
    obtain ⟨oc, od, dV, kV, doc, pm, an, cdv, ct, osl, rfl, lk, hcd, _, _⟩ := F.ex
    rw [A.at_] at lk
    have kp := F.kp
    rw [A.at_] at kp
    rw [A.name, A.qual] at lk hbd
    rw [A.qual] at hcd
    exact ⟨_, _, _, _, dV, kV, doc, pm, cdv, ct, oc, an, od, osl, v1, v2, v3, _, He.glo_ok KX G m8, kp, lk, hcd, hbd, scB_ok h2, h5, h3, h6, cls _ O.top, h7⟩
  refine ⟨blt, fun i hi => conB_ok KX G (all_range m2 hi), fun i hi => ?_, fun c' hc => ?_, cls, fun c' hc c'' hc2 => ?_, fun c' hc => ?_, fun i hi => ?_⟩
  · have z := all_range m3 hi
    rw [Bool.and_eq_true] at z
    have hts : S.ts.map (fun t => He.dicW K (t.1 K)) = S.ts.map fun t => some (He.keysIn w.params t.2) := congrArg (fun z : He.AlT => z.2) c.t
    have hd : He.dicW K (He.ga K (S.p.nm.dicN i)) = some (He.keysIn w.params ((S.p.dic i).map (·.1))) := by
      have e := congrArg (fun l => l[i]?) hts
      simp only [Src.ts, List.map_map, List.getElem?_map, List.getElem?_range hi, Option.map_some, Function.comp] at e
      exact Option.some.inj e
    obtain ⟨es, n, kd⟩ := He.dicW_ok hd
    refine ⟨_, es, n, He.glo_ok KX G z.1, kd, fun y e he => ?_⟩
    have hv := List.all_eq_true.mp z.2 (y, e) (PySem.mem_of_lookup he)
    simp only at hv
    split at hv
    · rename_i u hu
      obtain ⟨v, h1, h2⟩ := repB_ok (κ := ⟨K, S.cls K, S.T K⟩) hv
      exact ⟨u, v, hu, h1, h2⟩
    · cases hv
  · have z := all_range m4 hc
    simp only [Bool.and_eq_true] at z
    exact xcB_ok z.1.1.1.1.2
  · have z := all_range m4 hc
    simp only [Bool.and_eq_true] at z
    exact of_decide_eq_true (all_range z.1.2 hc2)
  · have z := all_range m4 hc
    simp only [Bool.and_eq_true, decide_eq_true_eq] at z
    obtain ⟨fd, F⟩ := def_at c (d := iniD S.prog S.ini) (List.mem_append_right _ (by simp)) OI.dfl OI.kwd
    rw [OI.at_] at F
    exact ⟨oeB_ok z.1.1.1.2, _, 1, fd, ["self", "value"], z.1.1.2, m5, ini_ok F (scB_ok OI.sc) OI.body OI.gl (blt "ValueError" (by simp [bltN])) vV, by omega, binds_of F OI.par⟩
  · have A := O.names i hi
    obtain ⟨d1, d2, d3, d4, d5⟩ := O.defs i hi
    obtain ⟨fd, F⟩ := def_at c (d := defD S.prog (S.p.nm.fnN i)) (List.mem_append_left _ (List.mem_map.mpr ⟨_, List.mem_map.mpr ⟨i, List.mem_range.mpr hi, rfl⟩, rfl⟩)) A.dfl A.kwd
    have hbd := binds_of F (O.pars i hi)
    obtain ⟨oc, od, dV, kV, doc, pm, an, cdv, ct, osl, rfl, lk, hcd, _, _⟩ := F.ex
    have kp := F.kp
    rw [A.at_] at lk kp
    refine ⟨⟨_, _, _, _, _, _, dV, kV, doc, pm, cdv, ct, oc, an, od, osl, S.N i, S.ps i, lk, hcd, scB_ok d1, d2, d3, d4, d5, fun hl => ?_, glo i hi, kp, hbd⟩⟩
    have hm := lam_mem hi hl
    obtain ⟨cc, ec⟩ := He.codeIn_ref hcd
    have eco : He.codeOf K (S.p.nm.fnN i, none) = cc := He.codeOf_eq lk ec
    refine ⟨hearK, ⟨cc, (He.cT K (S.p.nm.fnN i, none)).2, ?_, ec, ?_, fun q hq e => ?_⟩, fun c' hc hs => ?_⟩
    · have z := TB _ hm
      rw [show (He.cT K (S.p.nm.fnN i, none)).1 = cc from eco] at z
      exact z
    · rw [A.qual]
      exact List.mem_map.mpr ⟨_, hm, rfl⟩
    · obtain ⟨p, hp, rfl⟩ := List.mem_map.mp hq
      have := nodup_inj m9 hp hm e
      subst this
      rw [A.qual]
    · have z := all_range m4 hc
      simp only [Bool.and_eq_true] at z
      have z2 := z.2
      have hs : S.p.sub c' S.p.top = true := hs
      rw [hs, Bool.not_true, Bool.false_or] at z2
      exact of_decide_eq_true z2
end
end Py
set_option Elab.async false
set_option linter.all false
set_option maxRecDepth 100000
/-! The program's defs and those of the law in our language; printed by wip/gen.py. -/
namespace K89
open PySem PySem.Spec PyProof.Rows L2 Py

/-- is_tuple(value, least, most); names: 0 value, 1 least, 2 most -/
def d0 : Fn := { ps := 3, ns := 3, body := (.cons (.ret (.con (.isi (.var 0) .tuple) (.chn .LtE .LtE (.var 1) (.bi .len (.cons (.var 0) .nil)) (.var 2)))) .nil) }

/-- is_whole(value); names: 0 value -/
def d1 : Fn := { ps := 1, ns := 1, body := (.cons (.ret (.con (.isi (.var 0) .int) (.nt (.isi (.var 0) .bool)))) .nil) }

/-- is_integer(value, low, high); names: 0 value, 1 low, 2 high -/
def d2 : Fn := { ps := 3, ns := 3, body := (.cons (.ret (.con (.call 1 (.cons (.var 0) .nil)) (.chn .LtE .LtE (.var 1) (.var 0) (.var 2)))) .nil) }

/-- is_count(value); names: 0 value -/
def d3 : Fn := { ps := 1, ns := 1, body := (.cons (.ret (.call 2 (.cons (.var 0) (.cons (.int 0) (.cons (.glb 0) .nil))))) .nil) }

/-- check_count(value); names: 0 value -/
def d4 : Fn := { ps := 1, ns := 1, body := (.cons (.cnd (.nt (.call 3 (.cons (.var 0) .nil))) (.cons (.rse 1 (.var 0)) .nil) .nil) .nil) }

/-- is_sum(names, value); names: 0 names, 1 value, 2 factor -/
def d5 : Fn := { ps := 2, ns := 3, body := (.cons (.cnd (.dis (.nt (.call 0 (.cons (.ix (.var 1) (.int 1)) (.cons (.var 0) (.cons (.var 0) .nil))))) (.nt (.call 2 (.cons (.ix (.var 1) (.glb 7)) (.cons (.neg (.glb 4)) (.cons (.glb 4) .nil)))))) (.cons (.ret (.bl false)) .nil) .nil) (.cons (.ret (.bi .all (.cons (.lc (.call 2 (.cons (.var 2) (.cons (.neg (.glb 3)) (.cons (.glb 3) .nil)))) (.nm 2) [2] (.seq (.ix (.var 1) (.int 1))) .no) .nil))) .nil)) }

/-- is_head(names, value); names: 0 names, 1 value -/
def d6 : Fn := { ps := 2, ns := 2, body := (.cons (.cnd (.dis (.nt (.call 0 (.cons (.var 1) (.cons (.glb 7) (.cons (.glb 9) .nil))))) (.dis (.nt (.isi (.ix (.var 1) (.int 0)) .str)) (.cmp .Gt (.var 0) (.glb 1)))) (.cons (.ret (.bl false)) .nil) .nil) (.cons (.cnd (.cmp .In (.ix (.var 1) (.int 0)) (.tup (.cons (.glb 10) (.cons (.glb 11) .nil)))) (.cons (.ret (.con (.cmp .Eq (.bi .len (.cons (.var 1) .nil)) (.glb 8)) (.call 5 (.cons (.var 0) (.cons (.var 1) .nil))))) .nil) .nil) (.cons (.cnd (.cmp .Eq (.ix (.var 1) (.int 0)) (.glb 12)) (.cons (.ret (.con (.cmp .Eq (.bi .len (.cons (.var 1) .nil)) (.glb 9)) (.con (.call 5 (.cons (.var 0) (.cons (.var 1) .nil))) (.call 2 (.cons (.ix (.var 1) (.glb 8)) (.cons (.glb 5) (.cons (.glb 6) .nil))))))) .nil) .nil) (.cons (.cnd (.cmp .In (.ix (.var 1) (.int 0)) (.tup (.cons (.glb 14) (.cons (.glb 15) .nil)))) (.cons (.ret (.cmp .Eq (.bi .len (.cons (.var 1) .nil)) (.glb 8))) .nil) .nil) (.cons (.ret (.con (.cmp .Eq (.bi .len (.cons (.var 1) .nil)) (.glb 7)) (.cmp .In (.ix (.var 1) (.int 0)) (.tup (.cons (.glb 13) (.cons (.glb 16) (.cons (.glb 17) .nil))))))) .nil))))) }

/-- is_shape(names, value); names: 0 names, 1 value, 2 waiting, 3 many, 4 known, 5 part -/
def d7 : Fn := { ps := 2, ns := 6, body := (.cons (.par 2 3 (.lst (.cons (.tup (.cons (.var 0) (.cons (.var 1) .nil))) .nil)) (.int 0)) (.cons (.whl (.cmp .NotEq (.var 2) (.lst .nil)) (.cons (.set (.tp [(.nm 4), (.nm 5)]) (.mth (.var 2) .pop .nil)) (.cons (.set (.nm 3) (.bin .Add (.var 3) (.int 1))) (.cons (.cnd (.dis (.cmp .Gt (.var 3) (.glb 2)) (.nt (.call 6 (.cons (.var 4) (.cons (.var 5) .nil))))) (.cons (.ret (.bl false)) .nil) .nil) (.cons (.cnd (.cmp .In (.ix (.var 5) (.int 0)) (.tup (.cons (.glb 14) (.cons (.glb 15) .nil)))) (.cons (.ex (.mth (.var 2) .extend (.cons (.lst (.cons (.tup (.cons (.var 4) (.cons (.ix (.var 5) (.int 1)) .nil))) (.cons (.tup (.cons (.var 4) (.cons (.ix (.var 5) (.glb 7)) .nil))) .nil))) .nil))) .nil) (.cons (.cnd (.cmp .In (.ix (.var 5) (.int 0)) (.tup (.cons (.glb 13) (.cons (.glb 16) (.cons (.glb 17) .nil))))) (.cons (.ex (.mth (.var 2) .append (.cons (.tup (.cons (.bin .Add (.var 4) (.ife (.cmp .Eq (.ix (.var 5) (.int 0)) (.glb 13)) (.int 0) (.int 1))) (.cons (.ix (.var 5) (.int 1)) .nil))) .nil))) .nil) .nil) .nil)) .nil))))) (.cons (.ret (.bl true)) .nil))) }

/-- is_statement(names, value); names: 0 names, 1 value -/
def d8 : Fn := { ps := 2, ns := 2, body := (.cons (.ex (.call 4 (.cons (.var 0) .nil))) (.cons (.ret (.call 7 (.cons (.var 0) (.cons (.var 1) .nil)))) .nil)) }

/-- check_statement(names, value); names: 0 names, 1 value -/
def d9 : Fn := { ps := 2, ns := 2, body := (.cons (.cnd (.nt (.call 8 (.cons (.var 0) (.cons (.var 1) .nil)))) (.cons (.rse 2 (.var 1)) .nil) .nil) .nil) }

/-- plain(statement); names: 0 statement, 1 part -/
def d10 : Fn := { ps := 1, ns := 2, body := (.cons (.cnd (.cmp .In (.ix (.var 0) (.int 0)) (.tup (.cons (.glb 10) (.cons (.glb 11) (.cons (.glb 12) .nil))))) (.cons (.ret (.bl true)) .nil) .nil) (.cons (.ret (.con (.cmp .In (.ix (.var 0) (.int 0)) (.tup (.cons (.glb 13) (.cons (.glb 14) (.cons (.glb 15) .nil))))) (.bi .all (.cons (.lc (.call 10 (.cons (.var 1) .nil)) (.nm 1) [1] (.seq (.sl (.var 0) (.yes (.int 1)) .no)) .no) .nil)))) .nil)) }

/-- is_numbers(names, value); names: 0 names, 1 value, 2 number -/
def d11 : Fn := { ps := 2, ns := 3, body := (.cons (.ret (.con (.call 0 (.cons (.var 1) (.cons (.var 0) (.cons (.var 0) .nil)))) (.bi .all (.cons (.lc (.call 2 (.cons (.var 2) (.cons (.int 0) (.cons (.glb 18) .nil)))) (.nm 2) [2] (.seq (.var 1)) .no) .nil)))) .nil) }

/-- check_numbers(names, value); names: 0 names, 1 value -/
def d12 : Fn := { ps := 2, ns := 2, body := (.cons (.cnd (.nt (.call 11 (.cons (.var 0) (.cons (.var 1) .nil)))) (.cons (.rse 3 (.var 1)) .nil) .nil) .nil) }

/-- sum_of(factors, numbers); names: 0 factors, 1 numbers, 2 factor, 3 number -/
def d13 : Fn := { ps := 2, ns := 4, body := (.cons (.ret (.bi .sum (.cons (.lc (.bin .Mult (.var 2) (.var 3)) (.tp [(.nm 2), (.nm 3)]) [2, 3] (.zip (.var 0) (.var 1)) .no) .nil))) .nil) }

/-- pushed_in(statement, is_not); names: 0 statement, 1 is_not, 2 word, 3 part -/
def d14 : Fn := { ps := 2, ns := 4, body := (.cons (.set (.nm 2) (.ix (.var 0) (.int 0))) (.cons (.cnd (.cmp .In (.var 2) (.tup (.cons (.glb 10) (.cons (.glb 11) (.cons (.glb 12) .nil))))) (.cons (.ret (.ife (.var 1) (.tup (.cons (.glb 13) (.cons (.var 0) .nil))) (.var 0))) .nil) .nil) (.cons (.cnd (.cmp .Eq (.var 2) (.glb 13)) (.cons (.ret (.call 14 (.cons (.ix (.var 0) (.int 1)) (.cons (.nt (.var 1)) .nil)))) .nil) .nil) (.cons (.ret (.tup (.cons (.ife (.var 1) (.dget 0 (.var 2)) (.var 2)) (.star (.lc (.call 14 (.cons (.var 3) (.cons (.var 1) .nil))) (.nm 3) [3] (.seq (.sl (.var 0) (.yes (.int 1)) .no)) .no) .nil)))) .nil)))) }

/-- common(one, other); names: 0 one, 1 other -/
def d15 : Fn := { ps := 2, ns := 2, body := (.cons (.whl (.cmp .NotEq (.var 1) (.int 0)) (.cons (.par 0 1 (.var 1) (.bin .Mod (.var 0) (.var 1))) .nil)) (.cons (.ret (.bi .abs (.cons (.var 0) .nil))) .nil)) }

/-- least_multiple(some); names: 0 some, 1 found, 2 one -/
def d16 : Fn := { ps := 1, ns := 3, body := (.cons (.set (.nm 1) (.int 1)) (.cons (.rep (.nm 2) (.seq (.var 0)) (.cons (.set (.nm 1) (.bin .FloorDiv (.bin .Mult (.var 1) (.bi .abs (.cons (.var 2) .nil))) (.call 15 (.cons (.var 1) (.cons (.var 2) .nil))))) .nil)) (.cons (.ret (.var 1)) .nil))) }

/-- is_free_sum(names, value); names: 0 names, 1 value, 2 one -/
def d17 : Fn := { ps := 2, ns := 3, body := (.cons (.ret (.con (.call 0 (.cons (.ix (.var 1) (.int 1)) (.cons (.var 0) (.cons (.var 0) .nil)))) (.bi .all (.cons (.lc (.call 1 (.cons (.var 2) .nil)) (.nm 2) [2] (.seq (.tup (.star (.ix (.var 1) (.int 1)) (.cons (.ix (.var 1) (.glb 7)) .nil)))) .no) .nil)))) .nil) }

/-- is_free_part(names, value); names: 0 names, 1 value -/
def d18 : Fn := { ps := 2, ns := 2, body := (.cons (.cnd (.dis (.nt (.call 0 (.cons (.var 1) (.cons (.glb 7) (.cons (.glb 23) .nil))))) (.nt (.isi (.ix (.var 1) (.int 0)) .str))) (.cons (.ret (.bl false)) .nil) .nil) (.cons (.cnd (.cmp .In (.ix (.var 1) (.int 0)) (.tup (.cons (.glb 10) (.cons (.glb 11) .nil)))) (.cons (.ret (.con (.cmp .Eq (.bi .len (.cons (.var 1) .nil)) (.glb 8)) (.call 17 (.cons (.var 0) (.cons (.var 1) .nil))))) .nil) .nil) (.cons (.cnd (.cmp .Eq (.ix (.var 1) (.int 0)) (.glb 12)) (.cons (.ret (.con (.cmp .Eq (.bi .len (.cons (.var 1) .nil)) (.glb 23)) (.con (.call 17 (.cons (.var 0) (.cons (.var 1) .nil))) (.con (.call 1 (.cons (.ix (.var 1) (.glb 8)) .nil)) (.cmp .Gt (.ix (.var 1) (.glb 8)) (.int 0)))))) .nil) .nil) (.cons (.ret (.con (.cmp .In (.ix (.var 1) (.int 0)) (.tup (.cons (.glb 13) (.cons (.glb 14) (.cons (.glb 15) .nil))))) (.cmp .Eq (.bi .len (.cons (.var 1) .nil)) (.ife (.cmp .Eq (.ix (.var 1) (.int 0)) (.glb 13)) (.glb 7) (.glb 8))))) .nil)))) }

/-- is_free_deep(names, value, deep); names: 0 names, 1 value, 2 deep, 3 waiting, 4 many, 5 one, 6 left, 7 part -/
def d19 : Fn := { ps := 3, ns := 8, body := (.cons (.par 3 4 (.lst (.cons (.tup (.cons (.var 1) (.cons (.var 2) .nil))) .nil)) (.int 0)) (.cons (.whl (.cmp .NotEq (.var 3) (.lst .nil)) (.cons (.set (.tp [(.nm 5), (.nm 6)]) (.mth (.var 3) .pop .nil)) (.cons (.set (.nm 4) (.bin .Add (.var 4) (.int 1))) (.cons (.cnd (.dis (.cmp .Gt (.var 4) (.glb 22)) (.dis (.cmp .Lt (.var 6) (.int 0)) (.nt (.call 18 (.cons (.var 0) (.cons (.var 5) .nil)))))) (.cons (.ret (.bl false)) .nil) .nil) (.cons (.cnd (.cmp .In (.ix (.var 5) (.int 0)) (.tup (.cons (.glb 13) (.cons (.glb 14) (.cons (.glb 15) .nil))))) (.cons (.ex (.mth (.var 3) .extend (.cons (.lc (.tup (.cons (.var 7) (.cons (.bin .Sub (.var 6) (.int 1)) .nil))) (.nm 7) [7] (.seq (.sl (.var 5) (.yes (.int 1)) .no)) .no) .nil))) .nil) .nil) .nil))))) (.cons (.ret (.bl true)) .nil))) }

/-- is_free(n, value); names: 0 n, 1 value -/
def d20 : Fn := { ps := 2, ns := 2, body := (.cons (.ex (.call 4 (.cons (.var 0) .nil))) (.cons (.ret (.call 19 (.cons (.var 0) (.cons (.var 1) (.cons (.glb 21) .nil))))) .nil)) }

/-- free_at(statement, numbers); names: 0 statement, 1 numbers, 2 word, 3 left -/
def d21 : Fn := { ps := 2, ns := 4, body := (.cons (.set (.nm 2) (.ix (.var 0) (.int 0))) (.cons (.cnd (.cmp .Eq (.var 2) (.glb 13)) (.cons (.ret (.nt (.call 21 (.cons (.ix (.var 0) (.int 1)) (.cons (.var 1) .nil))))) .nil) .nil) (.cons (.cnd (.cmp .Eq (.var 2) (.glb 14)) (.cons (.ret (.con (.call 21 (.cons (.ix (.var 0) (.int 1)) (.cons (.var 1) .nil))) (.call 21 (.cons (.ix (.var 0) (.glb 7)) (.cons (.var 1) .nil))))) .nil) .nil) (.cons (.cnd (.cmp .Eq (.var 2) (.glb 15)) (.cons (.ret (.dis (.call 21 (.cons (.ix (.var 0) (.int 1)) (.cons (.var 1) .nil))) (.call 21 (.cons (.ix (.var 0) (.glb 7)) (.cons (.var 1) .nil))))) .nil) .nil) (.cons (.set (.nm 3) (.bin .Sub (.call 13 (.cons (.ix (.var 0) (.int 1)) (.cons (.var 1) .nil))) (.ix (.var 0) (.glb 7)))) (.cons (.cnd (.cmp .Eq (.var 2) (.glb 12)) (.cons (.ret (.cmp .Eq (.bin .Mod (.var 3) (.ix (.var 0) (.glb 8))) (.int 0))) .nil) .nil) (.cons (.ret (.ife (.cmp .Eq (.var 2) (.glb 10)) (.cmp .LtE (.var 3) (.int 0)) (.cmp .Eq (.var 3) (.int 0)))) .nil))))))) }

/-- free_holds(n, statement, numbers); names: 0 n, 1 statement, 2 numbers -/
def d22 : Fn := { ps := 3, ns := 3, body := (.cons (.cnd (.nt (.call 20 (.cons (.var 0) (.cons (.var 1) .nil)))) (.cons (.rse 5 (.var 1)) .nil) .nil) (.cons (.ex (.call 12 (.cons (.var 0) (.cons (.var 2) .nil)))) (.cons (.ret (.call 21 (.cons (.var 1) (.cons (.var 2) .nil)))) .nil))) }

/-- turned_sum(statement); names: 0 statement, 1 inner, 2 minus, 3 factor -/
def d23 : Fn := { ps := 1, ns := 4, body := (.cons (.cnd (.cmp .Eq (.ix (.var 0) (.int 0)) (.glb 13)) (.cons (.set (.nm 1) (.ix (.var 0) (.int 1))) (.cons (.set (.nm 2) (.bi .tuple (.cons (.lc (.neg (.var 3)) (.nm 3) [3] (.seq (.ix (.var 1) (.int 1))) .no) .nil))) (.cons (.cnd (.cmp .Eq (.ix (.var 1) (.int 0)) (.glb 10)) (.cons (.ret (.tup (.cons (.glb 10) (.cons (.var 2) (.cons (.bin .Sub (.neg (.ix (.var 1) (.glb 7))) (.int 1)) .nil))))) .nil) .nil) (.cons (.cnd (.cmp .Eq (.ix (.var 1) (.int 0)) (.glb 11)) (.cons (.ret (.tup (.cons (.glb 15) (.cons (.tup (.cons (.glb 10) (.cons (.ix (.var 1) (.int 1)) (.cons (.bin .Sub (.ix (.var 1) (.glb 7)) (.int 1)) .nil)))) (.cons (.tup (.cons (.glb 10) (.cons (.var 2) (.cons (.bin .Sub (.neg (.ix (.var 1) (.glb 7))) (.int 1)) .nil)))) .nil))))) .nil) .nil) (.cons (.ret (.var 0)) .nil))))) .nil) (.cons (.cnd (.cmp .Eq (.ix (.var 0) (.int 0)) (.glb 11)) (.cons (.set (.nm 2) (.bi .tuple (.cons (.lc (.neg (.var 3)) (.nm 3) [3] (.seq (.ix (.var 0) (.int 1))) .no) .nil))) (.cons (.ret (.tup (.cons (.glb 14) (.cons (.tup (.cons (.glb 10) (.cons (.ix (.var 0) (.int 1)) (.cons (.ix (.var 0) (.glb 7)) .nil)))) (.cons (.tup (.cons (.glb 10) (.cons (.var 2) (.cons (.neg (.ix (.var 0) (.glb 7))) .nil)))) .nil))))) .nil)) .nil) (.cons (.ret (.var 0)) .nil))) }

/-- straight(statement); names: 0 statement -/
def d24 : Fn := { ps := 1, ns := 1, body := (.cons (.cnd (.cmp .In (.ix (.var 0) (.int 0)) (.tup (.cons (.glb 14) (.cons (.glb 15) .nil)))) (.cons (.ret (.tup (.cons (.ix (.var 0) (.int 0)) (.cons (.call 24 (.cons (.ix (.var 0) (.int 1)) .nil)) (.cons (.call 24 (.cons (.ix (.var 0) (.glb 7)) .nil)) .nil))))) .nil) .nil) (.cons (.ret (.call 23 (.cons (.var 0) .nil))) .nil)) }

/-- sums_in(statement); names: 0 statement, 1 found, 2 part -/
def d25 : Fn := { ps := 1, ns := 3, body := (.cons (.cnd (.cmp .In (.ix (.var 0) (.int 0)) (.tup (.cons (.glb 10) (.cons (.glb 11) (.cons (.glb 12) .nil))))) (.cons (.ret (.lst (.cons (.var 0) .nil))) .nil) .nil) (.cons (.set (.nm 1) (.lst .nil)) (.cons (.rep (.nm 2) (.seq (.sl (.var 0) (.yes (.int 1)) .no)) (.cons (.ex (.mth (.var 1) .extend (.cons (.call 25 (.cons (.var 2) .nil)) .nil))) .nil)) (.cons (.ret (.var 1)) .nil)))) }

/-- scaled(statement, span); names: 0 statement, 1 span, 2 last, 3 times, 4 factors, 5 rest, 6 factor, 7 part -/
def d26 : Fn := { ps := 2, ns := 8, body := (.cons (.cnd (.cmp .In (.ix (.var 0) (.int 0)) (.tup (.cons (.glb 13) (.cons (.glb 14) (.cons (.glb 15) .nil))))) (.cons (.ret (.tup (.cons (.ix (.var 0) (.int 0)) (.star (.lc (.call 26 (.cons (.var 7) (.cons (.var 1) .nil))) (.nm 7) [7] (.seq (.sl (.var 0) (.yes (.int 1)) .no)) .no) .nil)))) .nil) .nil) (.cons (.set (.nm 2) (.bi .abs (.cons (.ix (.ix (.var 0) (.int 1)) (.neg (.int 1))) .nil))) (.cons (.set (.nm 3) (.ife (.cmp .Gt (.var 2) (.int 0)) (.bin .FloorDiv (.var 1) (.var 2)) (.int 1))) (.cons (.set (.nm 4) (.bi .tuple (.cons (.lc (.bin .Mult (.var 6) (.var 3)) (.nm 6) [6] (.seq (.ix (.var 0) (.int 1))) .no) .nil))) (.cons (.set (.nm 4) (.tup (.star (.sl (.var 4) .no (.yes (.neg (.int 1)))) (.cons (.ife (.cmp .Eq (.var 2) (.int 0)) (.int 0) (.ife (.cmp .Gt (.ix (.var 4) (.neg (.int 1))) (.int 0)) (.int 1) (.neg (.int 1)))) .nil)))) (.cons (.set (.nm 5) (.ife (.cmp .Eq (.ix (.var 0) (.int 0)) (.glb 12)) (.tup (.cons (.bin .Mult (.ix (.var 0) (.glb 8)) (.var 3)) .nil)) (.tup .nil))) (.cons (.ret (.tup (.cons (.ix (.var 0) (.int 0)) (.cons (.var 4) (.cons (.bin .Mult (.ix (.var 0) (.glb 7)) (.var 3)) (.star (.var 5) .nil)))))) .nil))))))) }

/-- bound_body(n, statement); names: 0 n, 1 statement, 2 body, 3 span, 4 whole, 5 one -/
def d27 : Fn := { ps := 2, ns := 6, body := (.cons (.set (.nm 2) (.call 24 (.cons (.call 14 (.cons (.var 1) (.cons (.bl false) .nil))) .nil))) (.cons (.set (.nm 3) (.call 16 (.cons (.lc (.ix (.ix (.var 5) (.int 1)) (.neg (.int 1))) (.nm 5) [5] (.seq (.call 25 (.cons (.var 2) .nil))) (.yes (.cmp .NotEq (.ix (.ix (.var 5) (.int 1)) (.neg (.int 1))) (.int 0)))) .nil))) (.cons (.set (.nm 4) (.tup (.cons (.glb 12) (.cons (.tup (.star (.bin .Mult (.lst (.cons (.int 0) .nil)) (.var 0)) (.cons (.int 1) .nil))) (.cons (.int 0) (.cons (.var 3) .nil)))))) (.cons (.ret (.tup (.cons (.tup (.cons (.glb 14) (.cons (.call 26 (.cons (.var 2) (.cons (.var 3) .nil))) (.cons (.var 4) .nil)))) (.cons (.var 3) .nil)))) .nil)))) }

/-- lower_terms(n, body); names: 0 n, 1 body, 2 found, 3 one -/
def d28 : Fn := { ps := 2, ns := 4, body := (.cons (.set (.nm 2) (.lst (.cons (.tup (.cons (.bin .Mult (.tup (.cons (.int 0) .nil)) (.var 0)) (.cons (.int 0) .nil))) .nil))) (.cons (.rep (.nm 3) (.seq (.call 25 (.cons (.var 1) .nil))) (.cons (.cnd (.con (.cmp .Eq (.ix (.var 3) (.int 0)) (.glb 10)) (.cmp .Lt (.ix (.ix (.var 3) (.int 1)) (.neg (.int 1))) (.int 0))) (.cons (.ex (.mth (.var 2) .append (.cons (.tup (.cons (.sl (.ix (.var 3) (.int 1)) .no (.yes (.neg (.int 1)))) (.cons (.neg (.ix (.var 3) (.glb 7))) .nil))) .nil))) .nil) .nil) .nil)) (.cons (.ret (.ssort (.var 2))) .nil))) }

/-- step_of(body); names: 0 body, 1 one -/
def d29 : Fn := { ps := 1, ns := 2, body := (.cons (.ret (.call 16 (.cons (.lc (.ix (.var 1) (.glb 8)) (.nm 1) [1] (.seq (.call 25 (.cons (.var 0) .nil))) (.yes (.cmp .Eq (.ix (.var 1) (.int 0)) (.glb 12)))) .nil))) .nil) }

/-- check_bound(n, statement); names: 0 n, 1 statement -/
def d30 : Fn := { ps := 2, ns := 2, body := (.cons (.ex (.call 9 (.cons (.var 0) (.cons (.var 1) .nil)))) (.cons (.cnd (.dis (.cmp .NotIn (.ix (.var 1) (.int 0)) (.tup (.cons (.glb 16) (.cons (.glb 17) .nil)))) (.nt (.call 10 (.cons (.ix (.var 1) (.int 1)) .nil)))) (.cons (.rse 6 (.var 1)) .nil) .nil) .nil)) }

/-- inner_of(statement); names: 0 statement -/
def d31 : Fn := { ps := 1, ns := 1, body := (.cons (.ret (.ife (.cmp .Eq (.ix (.var 0) (.int 0)) (.glb 16)) (.ix (.var 0) (.int 1)) (.tup (.cons (.glb 13) (.cons (.ix (.var 0) (.int 1)) .nil))))) .nil) }

/-- terms(n, statement); names: 0 n, 1 statement, 2 body, 3 span -/
def d32 : Fn := { ps := 2, ns := 4, body := (.cons (.ex (.call 30 (.cons (.var 0) (.cons (.var 1) .nil)))) (.cons (.set (.tp [(.nm 2), (.nm 3)]) (.call 27 (.cons (.var 0) (.cons (.call 31 (.cons (.var 1) .nil)) .nil)))) (.cons (.ret (.tup (.cons (.bi .tuple (.cons (.call 28 (.cons (.var 0) (.cons (.var 2) .nil))) .nil)) (.cons (.call 29 (.cons (.var 2) .nil)) (.cons (.var 3) .nil))))) .nil))) }

/-- put_term(statement, factors, number); names: 0 statement, 1 factors, 2 number, 3 last, 4 added, 5 one, 6 other, 7 part -/
def d33 : Fn := { ps := 3, ns := 8, body := (.cons (.cnd (.cmp .In (.ix (.var 0) (.int 0)) (.tup (.cons (.glb 13) (.cons (.glb 14) (.cons (.glb 15) .nil))))) (.cons (.ret (.tup (.cons (.ix (.var 0) (.int 0)) (.star (.lc (.call 33 (.cons (.var 7) (.cons (.var 1) (.cons (.var 2) .nil)))) (.nm 7) [7] (.seq (.sl (.var 0) (.yes (.int 1)) .no)) .no) .nil)))) .nil) .nil) (.cons (.set (.nm 3) (.ix (.ix (.var 0) (.int 1)) (.neg (.int 1)))) (.cons (.set (.nm 4) (.bi .tuple (.cons (.lc (.bin .Add (.var 5) (.bin .Mult (.var 3) (.var 6))) (.tp [(.nm 5), (.nm 6)]) [5, 6] (.zip (.sl (.ix (.var 0) (.int 1)) .no (.yes (.neg (.int 1)))) (.var 1)) .no) .nil))) (.cons (.ret (.tup (.cons (.ix (.var 0) (.int 0)) (.cons (.var 4) (.cons (.bin .Sub (.ix (.var 0) (.glb 7)) (.bin .Mult (.var 3) (.var 2))) (.star (.sl (.var 0) (.yes (.glb 8)) .no) .nil)))))) .nil)))) }

/-- size_of(statement); names: 0 statement, 1 part -/
def d34 : Fn := { ps := 1, ns := 2, body := (.cons (.ret (.bin .Add (.int 1) (.ife (.cmp .In (.ix (.var 0) (.int 0)) (.tup (.cons (.glb 10) (.cons (.glb 11) (.cons (.glb 12) .nil))))) (.int 0) (.bi .sum (.cons (.lc (.call 34 (.cons (.var 1) .nil)) (.nm 1) [1] (.seq (.sl (.var 0) (.yes (.int 1)) .no)) .no) .nil))))) .nil) }

/-- joined_or(some); names: 0 some, 1 middle -/
def d35 : Fn := { ps := 1, ns := 2, body := (.cons (.cnd (.cmp .Eq (.bi .len (.cons (.var 0) .nil)) (.int 1)) (.cons (.ret (.ix (.var 0) (.int 0))) .nil) .nil) (.cons (.set (.nm 1) (.bin .FloorDiv (.bi .len (.cons (.var 0) .nil)) (.glb 7))) (.cons (.ret (.tup (.cons (.glb 15) (.cons (.call 35 (.cons (.sl (.var 0) .no (.yes (.var 1))) .nil)) (.cons (.call 35 (.cons (.sl (.var 0) (.yes (.var 1)) .no) .nil)) .nil))))) .nil))) }

/-- eliminated(n, statement); names: 0 n, 1 statement, 2 some, 3 found, 4 body, 5 span, 6 lows, 7 step, 8 factors, 9 number, 10 minus, 11 more, 12 fits, 13 factor -/
def d36 : Fn := { ps := 2, ns := 14, body := (.cons (.ex (.call 30 (.cons (.var 0) (.cons (.var 1) .nil)))) (.cons (.set (.tp [(.nm 4), (.nm 5)]) (.call 27 (.cons (.var 0) (.cons (.call 31 (.cons (.var 1) .nil)) .nil)))) (.cons (.par 6 7 (.call 28 (.cons (.var 0) (.cons (.var 4) .nil))) (.call 29 (.cons (.var 4) .nil))) (.cons (.cnd (.cmp .Gt (.bin .Mult (.bin .Mult (.var 7) (.bi .len (.cons (.var 6) .nil))) (.call 34 (.cons (.var 4) .nil))) (.glb 19)) (.cons (.rse 4 (.glb 19)) .nil) .nil) (.cons (.set (.nm 2) (.lst .nil)) (.cons (.rep (.tp [(.nm 8), (.nm 9)]) (.seq (.var 6)) (.cons (.set (.nm 10) (.bi .tuple (.cons (.lc (.neg (.var 13)) (.nm 13) [13] (.seq (.var 8)) .no) .nil))) (.cons (.rep (.nm 11) (.r1 (.var 7)) (.cons (.set (.nm 12) (.tup (.cons (.glb 10) (.cons (.var 10) (.cons (.bin .Add (.var 9) (.var 11)) .nil))))) (.cons (.ex (.mth (.var 2) .append (.cons (.tup (.cons (.glb 14) (.cons (.var 12) (.cons (.call 33 (.cons (.var 4) (.cons (.var 8) (.cons (.bin .Add (.var 9) (.var 11)) .nil)))) .nil)))) .nil))) .nil))) .nil))) (.cons (.set (.nm 3) (.call 35 (.cons (.var 2) .nil))) (.cons (.ret (.ife (.cmp .Eq (.ix (.var 1) (.int 0)) (.glb 16)) (.var 3) (.tup (.cons (.glb 13) (.cons (.var 3) .nil))))) .nil)))))))) }

/-- least_in(n, inner, numbers); names: 0 n, 1 inner, 2 numbers, 3 good, 4 body, 5 span, 6 lows, 7 step, 8 factors, 9 number, 10 begin, 11 last -/
def d37 : Fn := { ps := 3, ns := 12, body := (.cons (.set (.tp [(.nm 4), (.nm 5)]) (.call 27 (.cons (.var 0) (.cons (.var 1) .nil)))) (.cons (.par 6 7 (.call 28 (.cons (.var 0) (.cons (.var 4) .nil))) (.call 29 (.cons (.var 4) .nil))) (.cons (.cnd (.cmp .Gt (.bin .Mult (.var 7) (.bi .len (.cons (.var 6) .nil))) (.glb 20)) (.cons (.rse 4 (.glb 20)) .nil) .nil) (.cons (.set (.nm 3) (.lst .nil)) (.cons (.rep (.tp [(.nm 8), (.nm 9)]) (.seq (.var 6)) (.cons (.set (.nm 10) (.bin .Add (.call 13 (.cons (.var 8) (.cons (.var 2) .nil))) (.var 9))) (.cons (.ex (.mth (.var 3) .extend (.cons (.lc (.var 11) (.nm 11) [11] (.r2 (.var 10) (.bin .Add (.var 10) (.var 7))) (.yes (.con (.cmp .GtE (.var 11) (.int 0)) (.call 21 (.cons (.var 4) (.cons (.tup (.star (.var 2) (.cons (.var 11) .nil))) .nil)))))) .nil))) .nil))) (.cons (.ret (.ife (.cmp .NotEq (.var 3) (.lst .nil)) (.bin .FloorDiv (.bi .min (.cons (.var 3) .nil)) (.var 5)) .non)) .nil)))))) }

/-- check_word(n, statement, word); names: 0 n, 1 statement, 2 word -/
def d38 : Fn := { ps := 3, ns := 3, body := (.cons (.ex (.call 30 (.cons (.var 0) (.cons (.var 1) .nil)))) (.cons (.cnd (.cmp .NotEq (.ix (.var 1) (.int 0)) (.var 2)) (.cons (.rse 6 (.var 1)) .nil) .nil) .nil)) }

/-- least_last(n, statement, numbers); names: 0 n, 1 statement, 2 numbers -/
def d39 : Fn := { ps := 3, ns := 3, body := (.cons (.ex (.call 38 (.cons (.var 0) (.cons (.var 1) (.cons (.glb 16) .nil))))) (.cons (.ex (.call 12 (.cons (.var 0) (.cons (.var 2) .nil)))) (.cons (.ret (.call 37 (.cons (.var 0) (.cons (.ix (.var 1) (.int 1)) (.cons (.var 2) .nil))))) .nil))) }

/-- _law_pot(script, place); names: 0 script, 1 place, 2 cell, 3 own, 4 small -/
def d40 : Fn := { ps := 2, ns := 5, body := (.cons (.set (.nm 2) (.ife (.cmp .Lt (.var 1) (.bi .len (.cons (.var 0) .nil))) (.ix (.var 0) (.var 1)) (.bin .Add (.bin .Add (.bin .Mod (.bi .int (.cons (.bi .sum (.cons (.sl (.var 0) .no (.yes (.int 1))) .nil)) .nil)) (.int 1000003)) (.bin .Mult (.int 6582) (.var 1))) (.int 431)))) (.cons (.set (.nm 3) (.bin .Mult (.bin .Mod (.bi .int (.cons (.bi .abs (.cons (.var 2) .nil)) .nil)) (.bin .Pow (.bin .Pow (.int 10) (.int 60)) (.int 5))) (.bi .int (.cons (.cmp .GtE (.bi .abs (.cons (.var 2) .nil)) (.bin .Pow (.int 10) (.int 18))) .nil)))) (.cons (.set (.nm 4) (.bin .Mod (.bi .int (.cons (.var 2) .nil)) (.int 2305843009213693951))) (.cons (.ret (.lst (.cons (.var 3) (.cons (.bin .Mod (.bi .int (.cons (.bin .Add (.bin .Add (.bin .Mult (.var 4) (.int 100443)) (.bin .Mult (.bin .Mult (.int 11404) (.var 1)) (.var 1))) (.int 838)) .nil)) (.int 2305843009213693921)) (.cons (.int 0) .nil))))) .nil)))) }

/-- _law_take(pot, upto); names: 0 pot, 1 upto, 2 prime, 3 blend, 4 digit -/
def d41 : Fn := { ps := 2, ns := 5, body := (.cons (.cnd (.cmp .Gt (.ix (.var 0) (.int 0)) (.int 0)) (.cons (.set (.nm 4) (.bin .Mod (.bi .int (.cons (.ix (.var 0) (.int 0)) .nil)) (.var 1))) (.cons (.sub (.var 0) (.int 0) (.bin .FloorDiv (.ix (.var 0) (.int 0)) (.var 1))) (.cons (.ret (.var 4)) .nil))) .nil) (.cons (.sub (.var 0) (.int 2) (.bin .Add (.ix (.var 0) (.int 2)) (.int 1))) (.cons (.set (.nm 2) (.ix (.lst (.cons (.int 2147483647) (.cons (.int 2147483629) (.cons (.int 2147483587) (.cons (.int 2147483579) (.cons (.int 2147483563) .nil)))))) (.bin .Mod (.bi .int (.cons (.ix (.var 0) (.int 2)) .nil)) (.int 5)))) (.cons (.set (.nm 3) (.bin .Mod (.bi .int (.cons (.bin .Pow (.bi .int (.cons (.bin .Add (.bin .Add (.ix (.var 0) (.int 1)) (.bin .Mult (.bin .Mult (.int 96803) (.ix (.var 0) (.int 2))) (.ix (.var 0) (.int 2)))) (.int 638)) .nil)) (.int 3)) .nil)) (.var 2))) (.cons (.set (.nm 3) (.bin .Mod (.bi .int (.cons (.bin .Mult (.var 3) (.bin .Add (.bin .Mod (.bi .int (.cons (.var 3) .nil)) (.int 10259)) (.bin .Mult (.int 122) (.ix (.var 0) (.int 2))))) .nil)) (.int 2305843009213693907))) (.cons (.ret (.bin .Mod (.bi .int (.cons (.bin .FloorDiv (.var 3) (.int 152)) .nil)) (.var 1))) .nil)))))) }

/-- _law_of(pot, some); names: 0 pot, 1 some -/
def d42 : Fn := { ps := 2, ns := 2, body := (.cons (.ret (.ix (.var 1) (.call 41 (.cons (.var 0) (.cons (.bi .len (.cons (.var 1) .nil)) .nil))))) .nil) }

/-- _law_places(script, most); names: 0 script, 1 most -/
def d43 : Fn := { ps := 2, ns := 2, body := (.cons (.ret (.lrange (.bi .max (.cons (.int 1) (.cons (.bi .min (.cons (.var 1) (.cons (.bi .len (.cons (.var 0) .nil)) .nil))) .nil))))) .nil) }

/-- _law_sum(pot); names: 0 pot, 1 factors -/
def d44 : Fn := { ps := 1, ns := 2, body := (.cons (.set (.nm 1) (.tup (.cons (.bin .Sub (.bi .int (.cons (.call 41 (.cons (.var 0) (.cons (.int 5) .nil))) .nil)) (.int 2)) (.cons (.call 42 (.cons (.var 0) (.cons (.lst (.cons (.int 1) (.cons (.neg (.int 1)) (.cons (.int 2) (.cons (.neg (.int 2)) (.cons (.int 3) (.cons (.neg (.int 1)) .nil))))))) .nil))) .nil)))) (.cons (.cnd (.cmp .Eq (.call 41 (.cons (.var 0) (.cons (.int 2) .nil))) (.int 0)) (.cons (.ret (.tup (.cons (.str "less") (.cons (.tup (.cons (.ix (.var 1) (.int 0)) (.cons (.bin .Mult (.ix (.var 1) (.int 1)) (.call 42 (.cons (.var 0) (.cons (.lst (.cons (.int 0) (.cons (.int 1) (.cons (.int 1) (.cons (.int 1) .nil))))) .nil)))) .nil))) (.cons (.bin .Sub (.bi .int (.cons (.call 41 (.cons (.var 0) (.cons (.int 20) .nil))) .nil)) (.int 9)) .nil))))) .nil) .nil) (.cons (.ret (.tup (.cons (.str "rest") (.cons (.var 1) (.cons (.call 41 (.cons (.var 0) (.cons (.int 9) .nil))) (.cons (.bin .Add (.int 2) (.call 41 (.cons (.var 0) (.cons (.int 11) .nil)))) .nil)))))) .nil))) }

/-- _law_divisor(one, other); names: 0 one, 1 other, 2 lap -/
def d45 : Fn := { ps := 2, ns := 3, body := (.cons (.rep (.nm 2) (.r1 (.int 60)) (.cons (.cnd (.cmp .Gt (.var 1) (.int 0)) (.cons (.par 0 1 (.var 1) (.bin .Mod (.var 0) (.var 1))) .nil) .nil) .nil)) (.cons (.ret (.var 0)) .nil)) }

/-- _law_multiple(some); names: 0 some, 1 found, 2 one -/
def d46 : Fn := { ps := 1, ns := 3, body := (.cons (.set (.nm 1) (.int 1)) (.cons (.rep (.nm 2) (.seq (.var 0)) (.cons (.set (.nm 1) (.bin .FloorDiv (.bin .Mult (.var 1) (.var 2)) (.call 45 (.cons (.var 1) (.cons (.var 2) .nil))))) .nil)) (.cons (.ret (.var 1)) .nil))) }

/-- _law_terms(sums); names: 0 sums, 1 span, 2 one, 3 lows, 4 divisors, 5 times -/
def d47 : Fn := { ps := 1, ns := 6, body := (.cons (.set (.nm 1) (.call 46 (.cons (.lc (.bi .abs (.cons (.ix (.ix (.var 2) (.int 1)) (.int 1)) .nil)) (.nm 2) [2] (.seq (.var 0)) (.yes (.cmp .NotEq (.ix (.ix (.var 2) (.int 1)) (.int 1)) (.int 0)))) .nil))) (.cons (.par 3 4 (.lst (.cons (.tup (.cons (.tup (.cons (.int 0) .nil)) (.cons (.int 0) .nil))) .nil)) (.lst (.cons (.var 1) .nil))) (.cons (.rep (.nm 2) (.seq (.var 0)) (.cons (.set (.nm 5) (.ife (.cmp .NotEq (.ix (.ix (.var 2) (.int 1)) (.int 1)) (.int 0)) (.bin .FloorDiv (.var 1) (.bi .abs (.cons (.ix (.ix (.var 2) (.int 1)) (.int 1)) .nil))) (.int 1))) (.cons (.cnd (.cmp .Eq (.ix (.var 2) (.int 0)) (.str "rest")) (.cons (.ex (.mth (.var 4) .append (.cons (.bin .Mult (.ix (.var 2) (.int 3)) (.var 5)) .nil))) .nil) (.cons (.cnd (.cmp .Lt (.ix (.ix (.var 2) (.int 1)) (.int 1)) (.int 0)) (.cons (.ex (.mth (.var 3) .append (.cons (.tup (.cons (.tup (.cons (.bin .Mult (.ix (.ix (.var 2) (.int 1)) (.int 0)) (.var 5)) .nil)) (.cons (.bin .Mult (.neg (.ix (.var 2) (.int 2))) (.var 5)) .nil))) .nil))) .nil) .nil) .nil)) .nil))) (.cons (.ret (.tup (.cons (.bi .tuple (.cons (.ssort (.var 3)) .nil)) (.cons (.call 46 (.cons (.var 4) .nil)) (.cons (.var 1) .nil))))) .nil)))) }

/-- _law_holds(said, numbers); names: 0 said, 1 numbers, 2 left, 3 factor, 4 number -/
def d48 : Fn := { ps := 2, ns := 5, body := (.cons (.cnd (.cmp .Eq (.ix (.var 0) (.int 0)) (.str "and")) (.cons (.ret (.con (.call 48 (.cons (.ix (.var 0) (.int 1)) (.cons (.var 1) .nil))) (.call 48 (.cons (.ix (.var 0) (.int 2)) (.cons (.var 1) .nil))))) .nil) .nil) (.cons (.cnd (.cmp .Eq (.ix (.var 0) (.int 0)) (.str "or")) (.cons (.ret (.dis (.call 48 (.cons (.ix (.var 0) (.int 1)) (.cons (.var 1) .nil))) (.call 48 (.cons (.ix (.var 0) (.int 2)) (.cons (.var 1) .nil))))) .nil) .nil) (.cons (.set (.nm 2) (.bin .Sub (.bi .sum (.cons (.lc (.bin .Mult (.var 3) (.var 4)) (.tp [(.nm 3), (.nm 4)]) [3, 4] (.zip (.ix (.var 0) (.int 1)) (.var 1)) .no) .nil)) (.ix (.var 0) (.int 2)))) (.cons (.ret (.ife (.cmp .Eq (.ix (.var 0) (.int 0)) (.str "less")) (.cmp .LtE (.var 2) (.int 0)) (.cmp .Eq (.bin .Mod (.var 2) (.ix (.var 0) (.int 3))) (.int 0)))) .nil)))) }

/-- _law_least(said, number, told); names: 0 said, 1 number, 2 told, 3 found, 4 lows, 5 step, 6 span, 7 factors, 8 more, 9 begin, 10 last -/
def d49 : Fn := { ps := 3, ns := 11, body := (.cons (.set (.tp [(.nm 4), (.nm 5), (.nm 6)]) (.var 2)) (.cons (.set (.nm 3) (.lst .nil)) (.cons (.rep (.tp [(.nm 7), (.nm 8)]) (.seq (.var 4)) (.cons (.set (.nm 9) (.bin .Add (.bin .Mult (.ix (.var 7) (.int 0)) (.var 1)) (.var 8))) (.cons (.rep (.nm 10) (.r2 (.bi .max (.cons (.var 9) (.cons (.int 0) .nil))) (.bi .max (.cons (.bin .Add (.var 9) (.var 5)) (.cons (.int 0) .nil)))) (.cons (.cnd (.con (.cmp .Eq (.bin .Mod (.var 10) (.var 6)) (.int 0)) (.call 48 (.cons (.var 0) (.cons (.tup (.cons (.var 1) (.cons (.bin .FloorDiv (.var 10) (.var 6)) .nil))) .nil)))) (.cons (.ex (.mth (.var 3) .append (.cons (.bin .FloorDiv (.var 10) (.var 6)) .nil))) (.cons .brk .nil)) .nil) .nil)) .nil))) (.cons (.ret (.ife (.cmp .NotEq (.var 3) (.lst .nil)) (.bi .min (.cons (.var 3) .nil)) .non)) .nil)))) }

/-- _law_right(pot); names: 0 pot, 1 many, 2 sums, 3 said, 4 one, 5 due, 6 is_many, 7 number, 8 lows, 9 step, 10 span, 11 caught, 12 told, 13 lap, 14 last -/
def d50 : Fn := { ps := 1, ns := 15, body := (.cons (.set (.nm 1) (.bin .Add (.int 1) (.call 41 (.cons (.var 0) (.cons (.int 5) .nil))))) (.cons (.set (.nm 2) (.lc (.call 44 (.cons (.var 0) .nil)) (.nm 13) [13] (.r1 (.var 1)) .no)) (.cons (.set (.nm 3) (.ix (.var 2) (.int 0))) (.cons (.rep (.nm 4) (.seq (.sl (.var 2) (.yes (.int 1)) .no)) (.cons (.set (.nm 3) (.tup (.cons (.call 42 (.cons (.var 0) (.cons (.lst (.cons (.str "and") (.cons (.str "and") (.cons (.str "or") .nil)))) .nil))) (.cons (.var 3) (.cons (.var 4) .nil))))) .nil)) (.cons (.set (.nm 5) (.call 47 (.cons (.var 2) .nil))) (.cons (.cnd (.cmp .NotEq (.bi .repr (.cons (.call 32 (.cons (.int 1) (.cons (.tup (.cons (.str "some") (.cons (.var 3) .nil))) .nil))) .nil)) (.bi .repr (.cons (.var 5) .nil))) (.cons (.ret (.bl false)) .nil) .nil) (.cons (.set (.tp [(.nm 8), (.nm 9), (.nm 10)]) (.var 5)) (.cons (.set (.tp [(.nm 11), (.nm 12)]) (.heard (.call 36 (.cons (.int 1) (.cons (.tup (.cons (.str "some") (.cons (.var 3) .nil))) .nil))))) (.cons (.set (.nm 6) (.isN (.var 11) true)) (.cons (.cnd (.con (.var 6) (.cmp .LtE (.bin .Mult (.bin .Mult (.var 9) (.bi .len (.cons (.var 8) .nil))) (.bin .Add (.bin .Mult (.int 2) (.var 1)) (.int 1))) (.int 3000))) (.cons (.ret (.bl false)) .nil) .nil) (.cons (.cnd (.con (.nt (.var 6)) (.cmp .Gt (.bin .Mult (.bin .Mult (.var 9) (.bi .len (.cons (.var 8) .nil))) (.bin .Add (.bin .Sub (.bin .Mult (.int 2) (.var 1)) (.bin .Mult (.bi .int (.cons (.cmp .Eq (.var 10) (.int 1)) .nil)) (.int 2))) (.int 1))) (.int 3000))) (.cons (.ret (.bl false)) .nil) .nil) (.cons (.cnd (.con (.var 6) (.dis (.nt (.isx (.var 11) 4)) (.cmp .NotEq (.bi .repr (.cons (.fld (.var 11)) .nil)) (.str "3000")))) (.cons (.ret (.bl false)) .nil) .nil) (.cons (.cnd (.con (.nt (.var 6)) (.isB (.call 20 (.cons (.int 1) (.cons (.var 12) .nil))) true true)) (.cons (.ret (.bl false)) .nil) .nil) (.cons (.rep (.nm 7) (.seq (.tup (.cons (.call 41 (.cons (.var 0) (.cons (.int 9) .nil))) (.cons (.call 41 (.cons (.var 0) (.cons (.bin .Pow (.int 10) (.int 12)) .nil))) .nil)))) (.cons (.set (.tp [(.nm 11), (.nm 14)]) (.heard (.call 39 (.cons (.int 1) (.cons (.tup (.cons (.str "some") (.cons (.var 3) .nil))) (.cons (.tup (.cons (.var 7) .nil)) .nil)))))) (.cons (.cnd (.cmp .Gt (.bin .Mult (.var 9) (.bi .len (.cons (.var 8) .nil))) (.int 5000)) (.cons (.cnd (.dis (.nt (.isx (.var 11) 4)) (.cmp .NotEq (.bi .repr (.cons (.fld (.var 11)) .nil)) (.str "5000"))) (.cons (.ret (.bl false)) .nil) .nil) .nil) (.cons (.cnd (.dis (.isN (.var 11) true) (.cmp .NotEq (.bi .repr (.cons (.var 14) .nil)) (.bi .repr (.cons (.call 49 (.cons (.var 3) (.cons (.var 7) (.cons (.var 5) .nil)))) .nil)))) (.cons (.ret (.bl false)) .nil) .nil) .nil)) (.cons (.cnd (.con (.nt (.var 6)) (.cmp .LtE (.bin .Mult (.var 9) (.bi .len (.cons (.var 8) .nil))) (.int 5000))) (.cons (.cnd (.cmp .NotEq (.bi .repr (.cons (.call 22 (.cons (.int 1) (.cons (.var 12) (.cons (.tup (.cons (.var 7) .nil)) .nil)))) .nil)) (.bi .repr (.cons (.isN (.var 14) true) .nil))) (.cons (.ret (.bl false)) .nil) .nil) .nil) .nil) .nil)))) (.cons (.ret (.bl true)) .nil))))))))))))))) }

/-- law(script); names: 0 script, 1 place -/
def d51 : Fn := { ps := 1, ns := 2, body := (.cons (.ret (.bi .all (.cons (.lc (.call 50 (.cons (.call 40 (.cons (.var 0) (.cons (.var 1) .nil))) .nil)) (.nm 1) [1] (.seq (.call 43 (.cons (.var 0) (.cons (.int 3) .nil)))) .no) .nil))) .nil) }

def defs : Nat → Fn
  | 0 => d0
  | 1 => d1
  | 2 => d2
  | 3 => d3
  | 4 => d4
  | 5 => d5
  | 6 => d6
  | 7 => d7
  | 8 => d8
  | 9 => d9
  | 10 => d10
  | 11 => d11
  | 12 => d12
  | 13 => d13
  | 14 => d14
  | 15 => d15
  | 16 => d16
  | 17 => d17
  | 18 => d18
  | 19 => d19
  | 20 => d20
  | 21 => d21
  | 22 => d22
  | 23 => d23
  | 24 => d24
  | 25 => d25
  | 26 => d26
  | 27 => d27
  | 28 => d28
  | 29 => d29
  | 30 => d30
  | 31 => d31
  | 32 => d32
  | 33 => d33
  | 34 => d34
  | 35 => d35
  | 36 => d36
  | 37 => d37
  | 38 => d38
  | 39 => d39
  | 40 => d40
  | 41 => d41
  | 42 => d42
  | 43 => d43
  | 44 => d44
  | 45 => d45
  | 46 => d46
  | 47 => d47
  | 48 => d48
  | 49 => d49
  | 50 => d50
  | 51 => d51
  | _ => { ps := 0, ns := 0, body := .nil }

def n0 : List Str := ["value", "least", "most"]

def n1 : List Str := ["value"]

def n2 : List Str := ["value", "low", "high"]

def n3 : List Str := ["value"]

def n4 : List Str := ["value"]

def n5 : List Str := ["names", "value", "factor"]

def n6 : List Str := ["names", "value"]

def n7 : List Str := ["names", "value", "waiting", "many", "known", "part"]

def n8 : List Str := ["names", "value"]

def n9 : List Str := ["names", "value"]

def n10 : List Str := ["statement", "part"]

def n11 : List Str := ["names", "value", "number"]

def n12 : List Str := ["names", "value"]

def n13 : List Str := ["factors", "numbers", "factor", "number"]

def n14 : List Str := ["statement", "is_not", "word", "part"]

def n15 : List Str := ["one", "other"]

def n16 : List Str := ["some", "found", "one"]

def n17 : List Str := ["names", "value", "one"]

def n18 : List Str := ["names", "value"]

def n19 : List Str := ["names", "value", "deep", "waiting", "many", "one", "left", "part"]

def n20 : List Str := ["n", "value"]

def n21 : List Str := ["statement", "numbers", "word", "left"]

def n22 : List Str := ["n", "statement", "numbers"]

def n23 : List Str := ["statement", "inner", "minus", "factor"]

def n24 : List Str := ["statement"]

def n25 : List Str := ["statement", "found", "part"]

def n26 : List Str := ["statement", "span", "last", "times", "factors", "rest", "factor", "part"]

def n27 : List Str := ["n", "statement", "body", "span", "whole", "one"]

def n28 : List Str := ["n", "body", "found", "one"]

def n29 : List Str := ["body", "one"]

def n30 : List Str := ["n", "statement"]

def n31 : List Str := ["statement"]

def n32 : List Str := ["n", "statement", "body", "span"]

def n33 : List Str := ["statement", "factors", "number", "last", "added", "one", "other", "part"]

def n34 : List Str := ["statement", "part"]

def n35 : List Str := ["some", "middle"]

def n36 : List Str := ["n", "statement", "some", "found", "body", "span", "lows", "step", "factors", "number", "minus", "more", "fits", "factor"]

def n37 : List Str := ["n", "inner", "numbers", "good", "body", "span", "lows", "step", "factors", "number", "begin", "last"]

def n38 : List Str := ["n", "statement", "word"]

def n39 : List Str := ["n", "statement", "numbers"]

def n40 : List Str := ["script", "place", "cell", "own", "small"]

def n41 : List Str := ["pot", "upto", "prime", "blend", "digit"]

def n42 : List Str := ["pot", "some"]

def n43 : List Str := ["script", "most"]

def n44 : List Str := ["pot", "factors"]

def n45 : List Str := ["one", "other", "lap"]

def n46 : List Str := ["some", "found", "one"]

def n47 : List Str := ["sums", "span", "one", "lows", "divisors", "times"]

def n48 : List Str := ["said", "numbers", "left", "factor", "number"]

def n49 : List Str := ["said", "number", "told", "found", "lows", "step", "span", "factors", "more", "begin", "last"]

def n50 : List Str := ["pot", "many", "sums", "said", "one", "due", "is_many", "number", "lows", "step", "span", "caught", "told", "lap", "last"]

def n51 : List Str := ["script", "place"]

def fnL : List Str := (["is_tuple", "is_whole", "is_integer", "is_count", "check_count", "is_sum", "is_head", "is_shape", "is_statement", "check_statement", "plain", "is_numbers", "check_numbers", "sum_of", "pushed_in", "common", "least_multiple", "is_free_sum", "is_free_part", "is_free_deep", "is_free", "free_at", "free_holds", "turned_sum", "straight", "sums_in", "scaled", "bound_body", "lower_terms", "step_of", "check_bound", "inner_of", "terms", "put_term", "size_of", "joined_or", "eliminated", "least_in", "check_word", "least_last", "_law_pot", "_law_take", "_law_of", "_law_places", "_law_sum", "_law_divisor", "_law_multiple", "_law_terms", "_law_holds", "_law_least", "_law_right", "law"] : List String).map Str.ofString
def conL : List Str := (["MOST_NAMES", "MOST_BOUND", "MOST_PARTS_statements", "MOST_FACTOR", "MOST_NUMBER", "LEAST_DIVISOR", "MOST_DIVISOR", "PAIR", "TRIPLE", "FOUR_statements", "LESS", "SAME", "REST", "NOT", "AND", "OR", "SOME", "ALL", "MOST_VALUE", "MOST_MADE", "MOST_SPAN", "MOST_DEEP", "MOST_PARTS_cooper", "FOUR_cooper"] : List String).map Str.ofString
def dicL : List Str := (["TURNED"] : List String).map Str.ofString
def clsL : List Str := (["SumError", "BadCount", "BadStatement", "BadNumbers", "TooMany", "BadFree", "NotBound"] : List String).map Str.ofString

def gdB : Nat → Bool
  | 50 => true
  | 51 => true
  | _ => false

def nm : Nm := { conN := fun i => conL.getD i "", dicN := fun i => dicL.getD i "", fnN := fun i => fnL.getD i "", clsN := fun i => clsL.getD i "", hearN := "_law_heard", nCon := 24, nDic := 1, nFn := 52, nC := 7, gd := gdB }

def con : Nat → D
  | 0 => .int 3
  | 1 => .int 5
  | 2 => .int 15
  | 3 => .int 9
  | 4 => .int 1000000
  | 5 => .int 2
  | 6 => .int 12
  | 7 => .int 2
  | 8 => .int 3
  | 9 => .int 4
  | 10 => .str "less"
  | 11 => .str "same"
  | 12 => .str "rest"
  | 13 => .str "not"
  | 14 => .str "and"
  | 15 => .str "or"
  | 16 => .str "some"
  | 17 => .str "all"
  | 18 => .int 1000000000000000000000000000000
  | 19 => .int 3000
  | 20 => .int 5000
  | 21 => .int 40
  | 22 => .int 100000
  | 23 => .int 4
  | _ => .non

def dic : Nat → List (Str × D)
  | 0 => [("and", .str "or"), ("or", .str "and"), ("some", .str "all"), ("all", .str "some")]
  | _ => []

def sub : Nat → Nat → Bool
  | 0, 0 => true
  | 1, 0 => true
  | 1, 1 => true
  | 2, 0 => true
  | 2, 2 => true
  | 3, 0 => true
  | 3, 3 => true
  | 4, 0 => true
  | 4, 4 => true
  | 5, 0 => true
  | 5, 5 => true
  | 6, 0 => true
  | 6, 6 => true
  | _, _ => false

def top : Nat := 0

def lamB : Nat → Bool
  | 50 => true
  | _ => false

end K89
set_option Elab.async false
set_option linter.all false
set_option maxRecDepth 100000
namespace K89
open PySem PySem.Spec PyProof.Rows L2 Py
/-- the module of the law -/
def p : Pg := { nm := nm, defs := defs, con := con, dic := dic, sub := sub, top := top, lam := lamB }
end K89
set_option Elab.async false
set_option linter.all false
set_option maxRecDepth 100000
namespace K89
open PySem PySem.Spec PyProof.Rows L2 Py
def nL : List (List Str) := [n0, n1, n2, n3, n4, n5, n6, n7, n8, n9, n10, n11, n12, n13, n14, n15, n16, n17, n18, n19, n20, n21, n22, n23, n24, n25, n26, n27, n28, n29, n30, n31, n32, n33, n34, n35, n36, n37, n38, n39, n40, n41, n42, n43, n44, n45, n46, n47, n48, n49, n50, n51]
def src : Src := { prog := PySem.Challenge.pw_howevergreat_k89_limits_of_parts_of_term, p := p, N := fun i => nL.getD i [], ps := fun i => (nL.getD i []).take (defs i).ps, ini := "SumError" }
end K89
set_option Elab.async false
set_option linter.all false
set_option maxRecDepth 100000
set_option maxHeartbeats 0
namespace K89
open PySem PySem.Spec PyProof.Rows L2 Py
abbrev Rw : PySem.W.OpenRow := PySem.W.OpenLaw.row PySem.Challenge.rw_howevergreat_k89_limits_of_parts_of_term
def looseA : List Str := fnL.take 30
def looseB : List Str := (fnL.drop 30).filter fun x => x != ("law" : Str)
def loose : List Str := looseA ++ looseB ++ conL ++ dicL ++ clsL ++ ([("_law_heard" : Str)] : List Str)
abbrev hk : PySem.W.Hook := He.hookX 6 [] src.fn src.ts src.lams src.modB
def ob (s : PySem.W.SharedT) : He.AlX := He.obsX 6 [] src.fn src.ts src.lams src.modB (HandSHeadRun.getT s)
theorem ob_eq (s : PySem.W.SharedT) : ob s = hk.obs s.abs := He.obsX_eq (HandSHeadRun.getT_eq s)
theorem run_f (w : World) : HandSHeadRun.RunEq Rw (PySem.W.view Rw.prog [91]) hk ob 6000 loose (w.withFollow "special-get-raises" false) := by
  intro os
  kernel_rfl
theorem run_t (w : World) : HandSHeadRun.RunEq Rw (PySem.W.view Rw.prog [91]) hk ob 6000 loose (w.withFollow "special-get-raises" true) := by
  intro os
  kernel_rfl
theorem run (w : World) : HandSHeadRun.RunEq Rw (PySem.W.view Rw.prog [91]) hk ob 6000 loose w := PySem.W.byRow2 "special-get-raises" run_f run_t w
end K89
set_option Elab.async false
set_option linter.all false
set_option maxRecDepth 100000
/-! What our small language's programs do, said by what holds behind them: rules for each construct. -/
namespace Py
open PySem PySem.Spec PyProof.Rows L2

/-! ### stores -/
/-- all of S stands in S' -/
def Sub (S S' : Sto) : Prop := ∀ (k : Nat) (o : O), S[k]? = some o → S'[k]? = some o
theorem Sub.refl (S : Sto) : Sub S S := fun _ _ h => h
theorem Sub.trans {S S1 S2 : Sto} (a : Sub S S1) (b : Sub S1 S2) : Sub S S2 := fun k o h => b k o (a k o h)
theorem Sub.app (S β : Sto) : Sub S (S ++ β) := fun k o h => by
  obtain ⟨h1, h2⟩ := List.getElem?_eq_some_iff.mp h
  rw [List.getElem?_append_left h1, h]
theorem Sub.set {S S' : Sto} (a : Sub S S') {k : Nat} (hk : S[k]? = none) (o : O) : Sub S (S'.set k o) := fun j u h => by
  have ne : k ≠ j := fun z => by subst z; rw [hk] at h; cases h
  rw [List.getElem?_set_ne ne]
  exact a j u h
theorem get_set {S : Sto} {k : Nat} {o u : O} (h : S[k]? = some o) : (S.set k u)[k]? = some u := by
  obtain ⟨h1, _⟩ := List.getElem?_eq_some_iff.mp h
  rw [List.getElem?_set_self h1]
theorem get_set_ne {S : Sto} {k j : Nat} {o u : O} (h : S[k]? = some o) (ne : j ≠ k) : (S.set j u)[k]? = some o := by
  rw [List.getElem?_set_ne ne, h]
theorem Sub.none {S S' : Sto} (a : Sub S S') {k : Nat} (h : S'[k]? = none) : S[k]? = none := by
  cases q : S[k]? with
  | none => rfl
  | some o => rw [a k o q] at h; cases h
theorem ne_of_some {S : Sto} {k j : Nat} {o : O} (h : S[k]? = some o) (hj : S[j]? = Option.none) : k ≠ j := fun z => by
  subst z; rw [h] at hj; cases hj
/-- a list anew -/
theorem new_any {S : Sto} {o : O} {Q : D → Sto → Prop} (h : ∀ (k : Nat) (S' : Sto), Sub S S' → S[k]? = none → S'[k]? = some o → Q (.ref k) S') : Q (.ref S.length) (S ++ [o]) :=
  h _ _ (Sub.app _ _) (List.getElem?_eq_none (Nat.le_refl _)) (by rw [List.getElem?_append_right (Nat.le_refl _)]; simp)

/-! ### ends -/
abbrev XP := Xc → Sto → Prop
def noX : XP := fun _ _ => False
/-- a part ends well, Q holds behind it; or it raises, X holds -/
def wp {β : Type} (r : Res β) (Q : β → Sto → Prop) (X : XP) : Prop := match r with
  | .ok b S => Q b S
  | .exc x S => X x S
  | .bad => False
structure FK where
  N : Env → Sto → Prop
  R : D → Sto → Prop
  X : XP
  B : Env → Sto → Prop
def wf (f : Fl) (K : FK) : Prop := match f with
  | .next E S => K.N E S
  | .ret d S => K.R d S
  | .brk E S => K.B E S
  | .exc x S => K.X x S
  | .bad => False
section
variable {β γ : Type} {r r' : Res β} {Q Q' : β → Sto → Prop} {X X' : XP} {S : Sto} {f f' : Fl} {K K' : FK}
theorem wp_congr (h : r = r') : wp r Q X = wp r' Q X := by rw [h]
theorem wf_congr (h : f = f') : wf f K = wf f' K := by rw [h]
theorem bind_congr {g : β → Sto → Res γ} (h : r = r') : r.bind g = r'.bind g := by rw [h]
theorem flow_congr {g : β → Sto → Fl} (h : r = r') : flow r g = flow r' g := by rw [h]
theorem then_congr {g : Env → Sto → Fl} (h : f = f') : f.then g = f'.then g := by rw [h]
theorem wp_ok {b : β} : wp (.ok b S) Q X = Q b S := rfl
theorem wp_exc {x : Xc} : wp (.exc x S : Res β) Q X = X x S := rfl
theorem wp_bind {g : β → Sto → Res γ} {Q : γ → Sto → Prop} : wp (r.bind g) Q X = wp r (fun b S => wp (g b S) Q X) X := by cases r <;> rfl
theorem wf_flow {g : β → Sto → Fl} : wf (flow r g) K = wp r (fun b S => wf (g b S) K) K.X := by cases r <;> rfl
theorem wf_then {g : Env → Sto → Fl} : wf (f.then g) K = wf f { N := fun E S => wf (g E S) K, R := K.R, X := K.X, B := K.B } := by cases f <;> rfl
theorem wf_next {E : Env} : wf (.next E S) K = K.N E S := rfl
theorem wf_ret {d : D} : wf (.ret d S) K = K.R d S := rfl
theorem wf_brk {E : Env} : wf (.brk E S) K = K.B E S := rfl
theorem wf_exc {x : Xc} : wf (.exc x S) K = K.X x S := rfl
theorem bind_ok {b : β} {g : β → Sto → Res γ} : (Res.ok b S).bind g = g b S := rfl
theorem wp_out {Q : D → Sto → Prop} : wp f.out Q X = wf f { N := fun _ S => Q .non S, R := Q, X := X, B := fun _ _ => False } := by cases f <;> rfl
theorem wp_mono (h : wp r Q X) (i : ∀ b S, Q b S → Q' b S) (j : ∀ x S, X x S → X' x S) : wp r Q' X' := by
  cases r with
  | ok b S => exact i _ _ h
  | exc x S => exact j _ _ h
  | bad => exact h
theorem wp_then (h : wp r Q noX) (i : ∀ b S, Q b S → Q' b S) : wp r Q' X := wp_mono h i fun _ _ z => z.elim
theorem wf_mono (h : wf f K) (n : ∀ E S, K.N E S → K'.N E S) (r : ∀ d S, K.R d S → K'.R d S) (x : ∀ d S, K.X d S → K'.X d S) (b : ∀ E S, K.B E S → K'.B E S) : wf f K' := by
  cases f with
  | next E S => exact n _ _ h
  | ret d S => exact r _ _ h
  | brk E S => exact b _ _ h
  | exc y S => exact x _ _ h
  | bad => exact h
theorem wp_tst {p : Prop} (hp : p) (h : wp r Q X) : wp (tst p r .bad) Q X := by rw [tst_pos hp]; exact h
theorem ofO_some {b : β} : ofO (some b) S = .ok b S := rfl
end
/-! ### calls -/
theorem wp_call {p : Pg} {n i : Nat} {ds : List D} {S : Sto} {Q : D → Sto → Prop} {X : XP} (hn : 0 < n)
    (h : ∀ m, n = m + 1 → wp ((p.defs i).run (p.G m) ds S) Q X) : wp (p.call n i ds S) Q X := by
  cases n with
  | zero => omega
  | succ m => rw [p.call_succ]; exact h m rfl
theorem wp_run {G : Glob} {f : Fn} {ds : List D} {S : Sto} {Q : D → Sto → Prop} {X : XP} (hl : ds.length = f.ps)
    (h : wf (f.body.ev G (ds.map some ++ List.replicate (f.ns - ds.length) none) S) { N := fun _ S => Q .non S, R := Q, X := X, B := fun _ _ => False }) : wp (f.run G ds S) Q X := by
  unfold Fn.run
  rw [if_pos hl, wp_out]
  exact h
/-! ### loops -/
/-- a comprehension: c the test, v the element -/
theorem wp_lc {g : List (Nat × List D)} {put : D → Option Env} {f : Env → Sto → Res Bool} {h : Env → Sto → Res D} {S : Sto} {Q : D → Sto → Prop} {X : XP} (c : D → Bool) (v : D → D) {xs : List D}
    (hg : Stands g S) (hs : xs.length ≤ sizeLine)
    (hx : ∀ x ∈ xs, ∀ S1, Sub S S1 → ∃ E1, put x = some E1 ∧ wp (f E1 S1) (fun b S2 => b = c x ∧ Sub S1 S2 ∧ (c x = true → wp (h E1 S2) (fun d S3 => d = v x ∧ Sub S2 S3) noX)) noX)
    (q : ∀ (k : Nat) (S' : Sto), Sub S S' → S[k]? = none → S'[k]? = some (.lst ((xs.filter c).map v)) → Q (.ref k) S') :
    wp (lcGo S.length g put f h xs (S ++ [.lst []])) Q X := by
  have gen : ∀ (xs : List D) (acc : List D) (S1 : Sto), acc.length + xs.length ≤ sizeLine → (∀ x ∈ xs, ∀ S1, Sub S S1 → ∃ E1, put x = some E1 ∧ wp (f E1 S1) (fun b S2 => b = c x ∧ Sub S1 S2 ∧ (c x = true → wp (h E1 S2) (fun d S3 => d = v x ∧ Sub S2 S3) noX)) noX) →
      Sub S S1 → S1[S.length]? = some (.lst acc) → wp (lcGo S.length g put f h xs S1) (fun d S' => d = .ref S.length ∧ Sub S S' ∧ S'[S.length]? = some (.lst (acc ++ (xs.filter c).map v))) noX := by
    intro xs
    induction xs with
    | nil =>
      intro acc S1 _ _ s1 a1
      unfold lcGo
      rw [tst_pos (show Stands g S1 from fun p hp => s1 _ _ (hg p hp))]
      exact ⟨rfl, s1, by simpa using a1⟩
    | cons x xs ih =>
      intro acc S1 hl hx s1 a1
      unfold lcGo
      rw [tst_pos (show Stands g S1 from fun p hp => s1 _ _ (hg p hp))]
      obtain ⟨E1, e1, w1⟩ := hx x List.mem_cons_self S1 s1
      rw [e1]
      dsimp only
      cases hf : f E1 S1 with
      | bad => rw [hf] at w1; exact w1.elim
      | exc y S2 => rw [hf] at w1; exact w1.elim
      | ok b S2 =>
        rw [hf] at w1
        obtain ⟨rfl, s2, w2⟩ := w1
        cases hc : c x with
        | false =>
          dsimp only
          rw [List.filter_cons, hc]
          exact ih acc S2 (by simp at hl; omega) (fun y hy => hx y (List.mem_cons_of_mem _ hy)) (s1.trans s2) (s2 _ _ a1)
        | true =>
          dsimp only
          have w2 := w2 hc
          cases hh : h E1 S2 with
          | bad => rw [hh] at w2; exact w2.elim
          | exc y S3 => rw [hh] at w2; exact w2.elim
          | ok d S3 =>
            rw [hh] at w2
            obtain ⟨rfl, s3⟩ := w2
            dsimp only
            have a3 := s3 _ _ (s2 _ _ a1)
            rw [a3]
            dsimp only
            rw [tst_pos (by simp at hl; omega)]
            rw [List.filter_cons, hc]
            have z := ih (acc ++ [v x]) (S3.set S.length (.lst (acc ++ [v x]))) (by simp at hl ⊢; omega) (fun y hy => hx y (List.mem_cons_of_mem _ hy)) (((s1.trans s2).trans s3).set (List.getElem?_eq_none (Nat.le_refl _)) _) (get_set a3)
            simpa using z
  refine wp_then (gen xs [] _ (by simpa using hs) hx (Sub.app _ _) (by rw [List.getElem?_append_right (Nat.le_refl _)]; simp)) ?_
  rintro d S' ⟨rfl, s, a⟩
  exact q _ _ s (List.getElem?_eq_none (Nat.le_refl _)) (by simpa using a)
/-- a comprehension by an invariant: of what is done, of the list so far -/
theorem wp_lcI {g : List (Nat × List D)} {put : D → Option Env} {f : Env → Sto → Res Bool} {h : Env → Sto → Res D} {S : Sto} {Q : D → Sto → Prop} {X : XP} {xs : List D} (I : List D → List D → Sto → Prop)
    (hs : xs.length ≤ sizeLine)
    (h0 : ∀ S1, Sub S S1 → I [] [] S1)
    (hx : ∀ done x rest, xs = done ++ x :: rest → ∀ acc S1, I done acc S1 → S1[S.length]? = some (.lst acc) → Stands g S1 ∧ ∃ E1, put x = some E1 ∧ wp (f E1 S1) (fun b S2 => if b = true then wp (h E1 S2) (fun d S3 => S3[S.length]? = some (.lst acc) ∧ I (done ++ [x]) (acc ++ [d]) (S3.set S.length (.lst (acc ++ [d])))) noX else S2[S.length]? = some (.lst acc) ∧ I (done ++ [x]) acc S2) noX)
    (q : ∀ acc (S' : Sto), S'[S.length]? = some (.lst acc) → I xs acc S' → Stands g S' ∧ Q (.ref S.length) S') :
    wp (lcGo S.length g put f h xs (S ++ [.lst []])) Q X := by
  have gen : ∀ (rest : List D) (done acc : List D) (S1 : Sto), xs = done ++ rest → acc.length + rest.length ≤ sizeLine → I done acc S1 → S1[S.length]? = some (.lst acc) → wp (lcGo S.length g put f h rest S1) Q X := by
    intro rest
    induction rest with
    | nil =>
      intro done acc S1 e _ i a1
      unfold lcGo
      rw [List.append_nil] at e
      subst e
      obtain ⟨z1, z2⟩ := q acc S1 a1 i
      rw [tst_pos z1]
      exact z2
    | cons x rest ih =>
      intro done acc S1 e hl i a1
      unfold lcGo
      obtain ⟨z1, E1, e1, w1⟩ := hx done x rest e acc S1 i a1
      rw [tst_pos z1, e1]
      dsimp only
      cases hf : f E1 S1 with
      | bad => rw [hf] at w1; exact w1.elim
      | exc y S2 => rw [hf] at w1; exact w1.elim
      | ok b S2 =>
        rw [hf] at w1
        cases b with
        | false =>
          dsimp only
          have w1 := (show _ ∧ _ from by simpa [wp] using w1)
          exact ih (done ++ [x]) acc S2 (by rw [e]; simp) (by simp at hl; omega) w1.2 w1.1
        | true =>
          dsimp only
          have w2 : wp (h E1 S2) (fun d S3 => S3[S.length]? = some (.lst acc) ∧ I (done ++ [x]) (acc ++ [d]) (S3.set S.length (.lst (acc ++ [d])))) noX := by simpa [wp] using w1
          cases hh : h E1 S2 with
          | bad => rw [hh] at w2; exact w2.elim
          | exc y S3 => rw [hh] at w2; exact w2.elim
          | ok d S3 =>
            rw [hh] at w2
            obtain ⟨a3, i3⟩ := w2
            dsimp only
            rw [a3]
            dsimp only
            rw [tst_pos (by simp at hl; omega)]
            exact ih (done ++ [x]) (acc ++ [d]) _ (by rw [e]; simp) (by simp at hl ⊢; omega) i3 (get_set a3)
  exact gen xs [] [] _ rfl (by simpa using hs) (h0 _ (Sub.app _ _)) (by rw [List.getElem?_append_right (Nat.le_refl _)]; simp)
/-- a for by an invariant of what is done -/
theorem wf_for {g : List (Nat × List D)} {put : D → Env → Option Env} {b : Env → Sto → Fl} {xs : List D} {E : Env} {S : Sto} {K : FK} (I : List D → Env → Sto → Prop)
    (h0 : I [] E S)
    (hx : ∀ done x rest, xs = done ++ x :: rest → ∀ E1 S1, I done E1 S1 → Stands g S1 ∧ ∃ E2, put x E1 = some E2 ∧ wf (b E2 S1) { N := fun E S => I (done ++ [x]) E S, R := K.R, X := K.X, B := K.N })
    (q : ∀ E1 S1, I xs E1 S1 → Stands g S1 ∧ K.N E1 S1) : wf (forGo g put b xs E S) K := by
  have gen : ∀ (rest done : List D) (E1 : Env) (S1 : Sto), xs = done ++ rest → I done E1 S1 → wf (forGo g put b rest E1 S1) K := by
    intro rest
    induction rest with
    | nil =>
      intro done E1 S1 e i
      unfold forGo
      rw [List.append_nil] at e
      subst e
      obtain ⟨z1, z2⟩ := q E1 S1 i
      rw [tst_pos z1]
      exact z2
    | cons x rest ih =>
      intro done E1 S1 e i
      unfold forGo
      obtain ⟨z1, E2, e2, w⟩ := hx done x rest e E1 S1 i
      rw [tst_pos z1, e2]
      dsimp only
      cases hb : b E2 S1 with
      | next E3 S3 => rw [hb] at w; exact ih (done ++ [x]) E3 S3 (by rw [e]; simp) w
      | ret d S3 => rw [hb] at w; exact w
      | brk E3 S3 => rw [hb] at w; exact w
      | exc y S3 => rw [hb] at w; exact w
      | bad => rw [hb] at w; exact w
  exact gen xs [] E S rfl h0
theorem whGo_more {c : Env → Sto → Res Bool} {b : Env → Sto → Fl} : ∀ {n m : Nat} {E : Env} {S : Sto} {f : Fl}, whGo c b n E S = some f → n ≤ m → whGo c b m E S = some f
  | 0, _, _, _, _, h, _ => by unfold whGo at h; cases h
  | n + 1, 0, _, _, _, _, h => by omega
  | n + 1, m + 1, E, S, f, h, hm => by
    unfold whGo at h ⊢
    split
    · rename_i S1 hc; rw [hc] at h; exact h
    · rename_i S1 hc
      rw [hc] at h
      dsimp only at h
      split
      · rename_i E2 S2 hb; rw [hb] at h; exact whGo_more h (by omega)
      · rename_i E2 S2 hb; rw [hb] at h; exact h
      · rename_i E2 S2 hb; rw [hb] at h; exact h
      · rename_i E2 S2 hb; rw [hb] at h; exact h
      · rename_i hb; rw [hb] at h; exact h
    · rename_i S1 hc; rw [hc] at h; exact h
    · rename_i hc; rw [hc] at h; exact h
theorem whAll_eq {c : Env → Sto → Res Bool} {b : Env → Sto → Fl} {n : Nat} {E : Env} {S : Sto} {f : Fl} (h : whGo c b n E S = some f) : whAll c b E S = f := by
  have ex : ∃ n f, whGo c b n E S = some f := ⟨n, f, h⟩
  unfold whAll
  rw [dif_pos ex]
  have z := ex.choose_spec.choose_spec
  have z1 := whGo_more z (Nat.le_max_left _ n)
  have z2 := whGo_more h (Nat.le_max_right ex.choose n)
  rw [z1] at z2
  exact Option.some.inj z2
/-- a while by a measure -/
theorem wf_while {c : Env → Sto → Res Bool} {b : Env → Sto → Fl} {K : FK} (I : Nat → Env → Sto → Prop)
    (hx : ∀ m E S, I m E S → wp (c E S) (fun k S1 => (k = true → wf (b E S1) { N := fun E' S' => ∃ m', m' < m ∧ I m' E' S', R := K.R, X := K.X, B := K.N }) ∧ (k = false → K.N E S1)) K.X)
    {m : Nat} {E : Env} {S : Sto} (h0 : I m E S) : wf (whAll c b E S) K := by
  have gen : ∀ (m : Nat) (E : Env) (S : Sto), I m E S → ∃ n f, whGo c b n E S = some f ∧ wf f K := by
    intro m
    induction m using Nat.strongRecOn with
    | _ m ih =>
      intro E S i
      have w := hx m E S i
      cases hc : c E S with
      | bad => rw [hc] at w; exact w.elim
      | exc y S1 => rw [hc] at w; exact ⟨1, .exc y S1, by unfold whGo; rw [hc], w⟩
      | ok k S1 =>
        rw [hc] at w
        cases k with
        | false => exact ⟨1, .next E S1, by unfold whGo; rw [hc], w.2 rfl⟩
        | true =>
          have w : wf (b E S1) { N := fun E' S' => ∃ m', m' < m ∧ I m' E' S', R := K.R, X := K.X, B := K.N } := w.1 rfl
          cases hb : b E S1 with
          | bad => rw [hb] at w; exact w.elim
          | next E2 S2 =>
            rw [hb] at w
            obtain ⟨m', lt, i'⟩ := w
            obtain ⟨n, f, e, wf'⟩ := ih m' lt E2 S2 i'
            exact ⟨n + 1, f, by unfold whGo; rw [hc]; dsimp only; rw [hb]; exact e, wf'⟩
          | ret d S2 => rw [hb] at w; exact ⟨1, .ret d S2, by unfold whGo; rw [hc]; dsimp only; rw [hb], w⟩
          | brk E2 S2 => rw [hb] at w; exact ⟨1, .next E2 S2, by unfold whGo; rw [hc]; dsimp only; rw [hb], w⟩
          | exc y S2 => rw [hb] at w; exact ⟨1, .exc y S2, by unfold whGo; rw [hc]; dsimp only; rw [hb], w⟩
  obtain ⟨n, f, e, w⟩ := gen m E S h0
  rw [whAll_eq e]
  exact w
end Py
set_option Elab.async false
set_option linter.all false
set_option maxRecDepth 100000
/-! One step at a time: a rule for each construct, of what must hold ahead of it. -/
namespace Py
open PySem PySem.Spec PyProof.Rows L2
section
variable {G : Glob} {E : Env} {S : Sto} {X : XP} {Q : D → Sto → Prop} {T : Bool → Sto → Prop} {K : FK} {A : List D → Sto → Prop}
/-! ### expressions -/
theorem w_var {i : Nat} (h : ∃ d, E[i]? = some (some d) ∧ Q d S) : wp ((Ex.var i).ev G E S) Q X := by
  obtain ⟨d, e, h⟩ := h; simp only [Ex.ev, e]; exact h
theorem w_int {i : Int} (h : Q (.int i) S) : wp ((Ex.int i).ev G E S) Q X := by simp only [Ex.ev]; exact h
theorem w_bl {i : Bool} (h : Q (.bl i) S) : wp ((Ex.bl i).ev G E S) Q X := by simp only [Ex.ev]; exact h
theorem w_non (h : Q .non S) : wp (Ex.non.ev G E S) Q X := by simp only [Ex.ev]; exact h
theorem w_str {x : Str} (h : Q (.str x) S) : wp ((Ex.str x).ev G E S) Q X := by simp only [Ex.ev]; exact h
theorem w_glb {i : Nat} {d : D} (e : G.con i = d) (h : Q d S) : wp ((Ex.glb i).ev G E S) Q X := by simp only [Ex.ev, e]; exact h
theorem w_tup {es : Exs} (h : wp (es.ev G E S) (fun ds S => ds.length ≤ sizeLine ∧ Q (.tup ds) S) X) : wp ((Ex.tup es).ev G E S) Q X := by
  simp only [Ex.ev, wp_bind]; exact wp_mono h (fun b S h => by rw [tst_pos h.1]; exact h.2) fun _ _ h => h
theorem w_lst {es : Exs} (h : wp (es.ev G E S) (fun ds S => ds.length ≤ sizeLine ∧ ∀ k S', Sub S S' → S[k]? = none → S'[k]? = some (.lst ds) → Q (.ref k) S') X) : wp ((Ex.lst es).ev G E S) Q X := by
  simp only [Ex.ev, wp_bind]; exact wp_mono h (fun b S h => by rw [tst_pos h.1]; exact new_any h.2) fun _ _ h => h
theorem w_bin {op : Operator} {a b : Ex} (h : wp (a.ev G E S) (fun x S => wp (b.ev G E S) (fun y S => wp (binop op x y S) Q X) X) X) : wp ((Ex.bin op a b).ev G E S) Q X := by
  simp only [Ex.ev, wp_bind]; exact h
theorem w_neg {a : Ex} (h : wp (a.ev G E S) (fun x S => ∃ i, x = .int i ∧ Q (.int (-i)) S) X) : wp ((Ex.neg a).ev G E S) Q X := by
  simp only [Ex.ev, wp_bind]; exact wp_mono h (fun b S h => by obtain ⟨i, rfl, h⟩ := h; exact h) fun _ _ h => h
theorem w_nt {a : Ex} (h : wp (a.ev G E S) (fun x S => ∃ k, truth x S = some k ∧ Q (.bl (!k)) S) X) : wp ((Ex.nt a).ev G E S) Q X := by
  simp only [Ex.ev, wp_bind]; exact wp_mono h (fun b S h => by obtain ⟨i, e, h⟩ := h; rw [e]; exact h) fun _ _ h => h
theorem w_cmp {op : CmpOp} {a b : Ex} (h : wp (a.ev G E S) (fun x S => wp (b.ev G E S) (fun y S => ∃ k, cmpop op x y S = some k ∧ Q (.bl k) S) X) X) : wp ((Ex.cmp op a b).ev G E S) Q X := by
  simp only [Ex.ev, wp_bind]; exact wp_mono h (fun b S h => wp_mono h (fun b S h => by obtain ⟨i, e, h⟩ := h; rw [e]; exact h) fun _ _ h => h) fun _ _ h => h
theorem w_chn {op op' : CmpOp} {a b c : Ex} (h : wp (a.ev G E S) (fun x S => wp (b.ev G E S) (fun y S => ∃ k, cmpop op x y S = some k ∧ (k = false → Q (.bl false) S) ∧ (k = true → wp (c.ev G E S) (fun z S => ∃ k, cmpop op' y z S = some k ∧ Q (.bl k) S) X)) X) X) : wp ((Ex.chn op op' a b c).ev G E S) Q X := by
  simp only [Ex.ev, wp_bind]
  refine wp_mono h (fun b S h => wp_mono h (fun b S h => ?_) fun _ _ h => h) fun _ _ h => h
  obtain ⟨i, e, h1, h2⟩ := h
  rw [e]
  cases i with
  | false => exact h1 rfl
  | true =>
    simp only [ofO, wp_ok, if_true, wp_bind]
    exact wp_mono (h2 rfl) (fun b S h => by obtain ⟨i, e, h⟩ := h; rw [e]; exact h) fun _ _ h => h
theorem w_isN {a : Ex} {no : Bool} (h : wp (a.ev G E S) (fun x S => Q (.bl (if no then !x.isNon else x.isNon)) S) X) : wp ((Ex.isN a no).ev G E S) Q X := by
  simp only [Ex.ev, wp_bind]; exact h
theorem w_isB {a : Ex} {b no : Bool} (h : wp (a.ev G E S) (fun x S => ∃ c, x = .bl c ∧ Q (.bl (if no then !(c == b) else (c == b))) S) X) : wp ((Ex.isB a b no).ev G E S) Q X := by
  simp only [Ex.ev, wp_bind]; exact wp_mono h (fun b S h => by obtain ⟨i, rfl, h⟩ := h; exact h) fun _ _ h => h
theorem w_con {a b : Ex} (h : wp (a.ev G E S) (fun x S => ∃ k, x = .bl k ∧ (k = true → wp (b.ev G E S) Q X) ∧ (k = false → Q (.bl false) S)) X) : wp ((Ex.con a b).ev G E S) Q X := by
  simp only [Ex.ev, wp_bind]
  refine wp_mono h (fun b S h => ?_) fun _ _ h => h
  obtain ⟨k, rfl, h1, h2⟩ := h
  cases k with
  | false => exact h2 rfl
  | true => exact h1 rfl
theorem w_dis {a b : Ex} (h : wp (a.ev G E S) (fun x S => ∃ k, x = .bl k ∧ (k = false → wp (b.ev G E S) Q X) ∧ (k = true → Q (.bl true) S)) X) : wp ((Ex.dis a b).ev G E S) Q X := by
  simp only [Ex.ev, wp_bind]
  refine wp_mono h (fun b S h => ?_) fun _ _ h => h
  obtain ⟨k, rfl, h1, h2⟩ := h
  cases k with
  | false => exact h1 rfl
  | true => exact h2 rfl
theorem w_ife {t a b : Ex} (h : wp (t.tv G E S) (fun k S => (k = true → wp (a.ev G E S) Q X) ∧ (k = false → wp (b.ev G E S) Q X)) X) : wp ((Ex.ife t a b).ev G E S) Q X := by
  simp only [Ex.ev, wp_bind]
  refine wp_mono h (fun k S h => ?_) fun _ _ h => h
  cases k with
  | false => exact h.2 rfl
  | true => exact h.1 rfl
theorem w_ix {a b : Ex} (h : wp (a.ev G E S) (fun x S => wp (b.ev G E S) (fun y S => ∃ d, ixop x y S = some d ∧ Q d S) X) X) : wp ((Ex.ix a b).ev G E S) Q X := by
  simp only [Ex.ev, wp_bind]; exact wp_mono h (fun b S h => wp_mono h (fun b S h => by obtain ⟨i, e, h⟩ := h; rw [e]; exact h) fun _ _ h => h) fun _ _ h => h
theorem w_sl {a : Ex} {lo hi : Eo} (h : wp (a.ev G E S) (fun x S => wp (lo.ev G E S) (fun l S => wp (hi.ev G E S) (fun h S => wp (slop x l h S) Q X) X) X) X) : wp ((Ex.sl a lo hi).ev G E S) Q X := by
  simp only [Ex.ev, wp_bind]; exact h
theorem w_call {f : Nat} {es : Exs} (h : wp (es.ev G E S) (fun ds S => wp (G.call f ds S) Q X) X) : wp ((Ex.call f es).ev G E S) Q X := by
  simp only [Ex.ev, wp_bind]; exact h
theorem w_bi {b : Bi} {es : Exs} (h : wp (es.ev G E S) (fun ds S => wp (biop b ds S) Q X) X) : wp ((Ex.bi b es).ev G E S) Q X := by
  simp only [Ex.ev, wp_bind]; exact h
theorem w_isi {a : Ex} {t : Ty} (h : wp (a.ev G E S) (fun x S => ∃ k, t.of x = some k ∧ Q (.bl k) S) X) : wp ((Ex.isi a t).ev G E S) Q X := by
  simp only [Ex.ev, wp_bind]; exact wp_mono h (fun b S h => by obtain ⟨i, e, h⟩ := h; rw [e]; exact h) fun _ _ h => h
theorem w_isx {a : Ex} {c : Nat} (h : wp (a.ev G E S) (fun x S => ∃ c' d, x = .xv c' d ∧ c' < G.nC ∧ Q (.bl (G.sub c' c)) S) X) : wp ((Ex.isx a c).ev G E S) Q X := by
  simp only [Ex.ev, wp_bind]; exact wp_mono h (fun b S h => by obtain ⟨i, d, rfl, hc, h⟩ := h; dsimp only; rw [if_pos hc]; exact h) fun _ _ h => h
theorem w_ssort {a : Ex} (h : wp (a.ev G E S) (fun x S => ∃ ds, (lstOf S x).bind G.srt = some ds ∧ ∀ k S', Sub S S' → S[k]? = none → S'[k]? = some (.lst ds) → Q (.ref k) S') X) : wp ((Ex.ssort a).ev G E S) Q X := by
  simp only [Ex.ev, wp_bind]; exact wp_mono h (fun b S h => by obtain ⟨i, e, h⟩ := h; rw [e]; exact new_any h) fun _ _ h => h
theorem w_lrange {a : Ex} (h : wp (a.ev G E S) (fun x S => ∃ j, x = .int j ∧ (-(2 ^ 62) ≤ j ∧ j ≤ 1000) ∧ ∀ k S', Sub S S' → S[k]? = none → S'[k]? = some (.lst (rgD 0 j)) → Q (.ref k) S') X) : wp ((Ex.lrange a).ev G E S) Q X := by
  simp only [Ex.ev, wp_bind]; exact wp_mono h (fun b S h => by obtain ⟨i, rfl, hj, h⟩ := h; dsimp only; rw [tst_pos hj]; exact new_any h) fun _ _ h => h
theorem w_mth {o : Ex} {m : Mt} {es : Exs} (h : wp (o.ev G E S) (fun x S => ∃ n, x = .ref n ∧ wp (es.ev G E S) (fun ds S => wp (mtop m (.ref n) ds S) Q X) X) X) : wp ((Ex.mth o m es).ev G E S) Q X := by
  simp only [Ex.ev, wp_bind]; exact wp_mono h (fun b S h => by obtain ⟨i, rfl, h⟩ := h; rw [show D.isRef (.ref i) = true from rfl, if_pos rfl, wp_bind]; exact h) fun _ _ h => h
theorem w_lc {e : Ex} {tg : Tg} {own : List Nat} {it : It} {ifs : Eo} (h : wp (it.ev G E S) (fun w S => wp (lcGo S.length w.2 (fun x => tg.put x (wipeE E own)) (fun E S => ifs.tv G E S) (fun E S => e.ev G E S) w.1 (S ++ [.lst []])) Q X) X) : wp ((Ex.lc e tg own it ifs).ev G E S) Q X := by
  simp only [Ex.ev, wp_bind]; exact h
theorem w_fld {o : Ex} (h : wp (o.ev G E S) (fun x S => ∃ c d, x = .xv c d ∧ c < G.nC ∧ Q d S) X) : wp ((Ex.fld o).ev G E S) Q X := by
  simp only [Ex.ev, wp_bind]; exact wp_mono h (fun b S h => by obtain ⟨i, d, rfl, hc, h⟩ := h; dsimp only; rw [if_pos hc]; exact h) fun _ _ h => h
theorem w_dget {i : Nat} {a : Ex} (h : wp (a.ev G E S) (fun x S => ∃ y d, x = .str y ∧ (G.dic i).lookup y = some d ∧ Q d S) X) : wp ((Ex.dget i a).ev G E S) Q X := by
  simp only [Ex.ev, wp_bind]; exact wp_mono h (fun b S h => by obtain ⟨y, d, rfl, e, h⟩ := h; dsimp only; rw [e]; exact h) fun _ _ h => h
theorem w_heard {b : Ex} (h : wp (b.ev G E S) (fun d S => Q (.tup [.non, d]) S) (fun x S => x.1 < G.nC ∧ G.sub x.1 G.top = true ∧ Q (.tup [.xv x.1 x.2, .non]) S)) : wp ((Ex.heard b).ev G E S) Q X := by
  simp only [Ex.ev]
  cases hb : b.ev G E S with
  | ok d S1 => rw [hb] at h; exact h
  | exc x S1 => rw [hb] at h; unfold hearD; dsimp only; rw [if_pos ⟨h.1, h.2.1⟩]; exact h.2.2
  | bad => rw [hb] at h; exact h.elim
/-! ### tests -/
theorem t_con {a b : Ex} (h : wp (a.tv G E S) (fun k S => (k = true → wp (b.tv G E S) T X) ∧ (k = false → T false S)) X) : wp ((Ex.con a b).tv G E S) T X := by
  simp only [Ex.tv, wp_bind]
  refine wp_mono h (fun k S h => ?_) fun _ _ h => h
  cases k with
  | false => exact h.2 rfl
  | true => exact h.1 rfl
theorem t_dis {a b : Ex} (h : wp (a.tv G E S) (fun k S => (k = false → wp (b.tv G E S) T X) ∧ (k = true → T true S)) X) : wp ((Ex.dis a b).tv G E S) T X := by
  simp only [Ex.tv, wp_bind]
  refine wp_mono h (fun k S h => ?_) fun _ _ h => h
  cases k with
  | false => exact h.1 rfl
  | true => exact h.2 rfl
theorem t_nt {a : Ex} (h : wp (a.tv G E S) (fun k S => T (!k) S) X) : wp ((Ex.nt a).tv G E S) T X := by
  simp only [Ex.tv, wp_bind]; exact h
theorem t_var {i : Nat} (h : ∃ d k, E[i]? = some (some d) ∧ truth d S = some k ∧ T k S) : wp ((Ex.var i).tv G E S) T X := by
  obtain ⟨d, k, e, e2, h⟩ := h; simp only [Ex.tv, e, e2]; exact h
theorem t_cmp {op : CmpOp} {a b : Ex} (h : wp (a.ev G E S) (fun x S => wp (b.ev G E S) (fun y S => ∃ k, cmpop op x y S = some k ∧ T k S) X) X) : wp ((Ex.cmp op a b).tv G E S) T X := by
  simp only [Ex.tv, wp_bind]; exact wp_mono h (fun b S h => wp_mono h (fun b S h => by obtain ⟨i, e, h⟩ := h; rw [e]; exact h) fun _ _ h => h) fun _ _ h => h
theorem t_isN {a : Ex} {no : Bool} (h : wp (a.ev G E S) (fun x S => T (if no then !x.isNon else x.isNon) S) X) : wp ((Ex.isN a no).tv G E S) T X := by
  simp only [Ex.tv, wp_bind]; exact h
theorem t_isB {a : Ex} {b no : Bool} (h : wp (a.ev G E S) (fun x S => ∃ c, x = .bl c ∧ T (if no then !(c == b) else (c == b)) S) X) : wp ((Ex.isB a b no).tv G E S) T X := by
  simp only [Ex.tv, wp_bind]; exact wp_mono h (fun b S h => by obtain ⟨i, rfl, h⟩ := h; exact h) fun _ _ h => h
theorem t_ix {a b : Ex} (h : wp (a.ev G E S) (fun x S => wp (b.ev G E S) (fun y S => ∃ d k, ixop x y S = some d ∧ truth d S = some k ∧ T k S) X) X) : wp ((Ex.ix a b).tv G E S) T X := by
  simp only [Ex.tv, wp_bind]; exact wp_mono h (fun b S h => wp_mono h (fun b S h => by obtain ⟨i, k, e, e2, h⟩ := h; rw [e]; dsimp only [ofO, wp_ok]; simp only [wp_ok, e2]; exact h) fun _ _ h => h) fun _ _ h => h
theorem t_call {f : Nat} {es : Exs} (h : wp (es.ev G E S) (fun ds S => wp (G.call f ds S) (fun d S => ∃ k, truth d S = some k ∧ T k S) X) X) : wp ((Ex.call f es).tv G E S) T X := by
  simp only [Ex.tv, wp_bind]; exact wp_mono h (fun b S h => wp_mono h (fun b S h => by obtain ⟨i, e, h⟩ := h; rw [e]; exact h) fun _ _ h => h) fun _ _ h => h
theorem t_bi {b : Bi} {es : Exs} (h : wp (es.ev G E S) (fun ds S => wp (biop b ds S) (fun d S => ∃ k, truth d S = some k ∧ T k S) X) X) : wp ((Ex.bi b es).tv G E S) T X := by
  simp only [Ex.tv, wp_bind]; exact wp_mono h (fun b S h => wp_mono h (fun b S h => by obtain ⟨i, e, h⟩ := h; rw [e]; exact h) fun _ _ h => h) fun _ _ h => h
theorem t_isi {a : Ex} {t : Ty} (h : wp (a.ev G E S) (fun x S => ∃ k, t.of x = some k ∧ T k S) X) : wp ((Ex.isi a t).tv G E S) T X := by
  simp only [Ex.tv, wp_bind]; exact wp_mono h (fun b S h => by obtain ⟨i, e, h⟩ := h; rw [e]; exact h) fun _ _ h => h
theorem t_isx {a : Ex} {c : Nat} (h : wp (a.ev G E S) (fun x S => ∃ c' d, x = .xv c' d ∧ c' < G.nC ∧ T (G.sub c' c) S) X) : wp ((Ex.isx a c).tv G E S) T X := by
  simp only [Ex.tv, wp_bind]; exact wp_mono h (fun b S h => by obtain ⟨i, d, rfl, hc, h⟩ := h; dsimp only; rw [if_pos hc]; exact h) fun _ _ h => h
/-! ### several -/
theorem a_nil (h : A [] S) : wp (Exs.nil.ev G E S) A X := by simp only [Exs.ev]; exact h
theorem a_cons {e : Ex} {es : Exs} (h : wp (e.ev G E S) (fun d S => wp (es.ev G E S) (fun ds S => A (d :: ds) S) X) X) : wp ((Exs.cons e es).ev G E S) A X := by
  simp only [Exs.ev, wp_bind]; exact h
theorem a_star {e : Ex} {es : Exs} (h : wp (e.ev G E S) (fun d S => ∃ xs, itemsOf S d = some xs ∧ wp (es.ev G E S) (fun ds S => A (xs ++ ds) S) X) X) : wp ((Exs.star e es).ev G E S) A X := by
  simp only [Exs.ev, wp_bind]; exact wp_mono h (fun b S h => by obtain ⟨i, e, h⟩ := h; rw [e]; dsimp only; rw [wp_bind]; exact h) fun _ _ h => h
theorem o_no {P : Option Int → Sto → Prop} (h : P none S) : wp (Eo.no.ev G E S) P X := by simp only [Eo.ev]; exact h
theorem o_yes {e : Ex} {P : Option Int → Sto → Prop} (h : wp (e.ev G E S) (fun d S => ∃ i, d = .int i ∧ P (some i) S) X) : wp ((Eo.yes e).ev G E S) P X := by
  simp only [Eo.ev, wp_bind]; exact wp_mono h (fun b S h => by obtain ⟨i, rfl, h⟩ := h; exact h) fun _ _ h => h
theorem ot_no (h : T true S) : wp (Eo.no.tv G E S) T X := by simp only [Eo.tv]; exact h
theorem ot_yes {e : Ex} (h : wp (e.tv G E S) T X) : wp ((Eo.yes e).tv G E S) T X := by simp only [Eo.tv]; exact h
theorem i_seq {e : Ex} {P : Walk → Sto → Prop} (h : wp (e.ev G E S) (fun d S => ∃ w, seqW d S = some w ∧ P w S) X) : wp ((It.seq e).ev G E S) P X := by
  simp only [It.ev, wp_bind]; exact wp_mono h (fun b S h => by obtain ⟨i, e, h⟩ := h; rw [e]; exact h) fun _ _ h => h
theorem i_r1 {e : Ex} {P : Walk → Sto → Prop} (h : wp (e.ev G E S) (fun d S => ∃ j, d = .int j ∧ (-(2 ^ 62) ≤ j ∧ j < 2 ^ 62) ∧ P (rgD 0 j, []) S) X) : wp ((It.r1 e).ev G E S) P X := by
  simp only [It.ev, wp_bind]; exact wp_mono h (fun b S h => by obtain ⟨i, rfl, hj, h⟩ := h; dsimp only; rw [tst_pos hj]; exact h) fun _ _ h => h
theorem i_r2 {a b : Ex} {P : Walk → Sto → Prop} (h : wp (a.ev G E S) (fun x S => wp (b.ev G E S) (fun y S => ∃ i j, x = .int i ∧ y = .int j ∧ (-(2 ^ 62) ≤ i ∧ i < 2 ^ 62 ∧ -(2 ^ 62) ≤ j ∧ j < 2 ^ 62) ∧ P (rgD i j, []) S) X) X) : wp ((It.r2 a b).ev G E S) P X := by
  simp only [It.ev, wp_bind]; exact wp_mono h (fun b S h => wp_mono h (fun b S h => by obtain ⟨i, j, rfl, rfl, hj, h⟩ := h; dsimp only; rw [tst_pos hj]; exact h) fun _ _ h => h) fun _ _ h => h
theorem i_enum {e : Ex} {P : Walk → Sto → Prop} (h : wp (e.ev G E S) (fun d S => ∃ w, enumW S d = some w ∧ P w S) X) : wp ((It.enum e).ev G E S) P X := by
  simp only [It.ev, wp_bind]; exact wp_mono h (fun b S h => by obtain ⟨i, e, h⟩ := h; rw [e]; exact h) fun _ _ h => h
theorem i_zip {a b : Ex} {P : Walk → Sto → Prop} (h : wp (a.ev G E S) (fun x S => wp (b.ev G E S) (fun y S => ∃ w, zipW S x y = some w ∧ P w S) X) X) : wp ((It.zip a b).ev G E S) P X := by
  simp only [It.ev, wp_bind]; exact wp_mono h (fun b S h => wp_mono h (fun b S h => by obtain ⟨i, e, h⟩ := h; rw [e]; exact h) fun _ _ h => h) fun _ _ h => h
/-! ### statements -/
theorem s_nil (h : K.N E S) : wf (Stms.nil.ev G E S) K := by simp only [Stms.ev]; exact h
theorem s_cons {s : Stm} {ss : Stms} (h : wf (s.ev G E S) { N := fun E S => wf (ss.ev G E S) K, R := K.R, X := K.X, B := K.B }) : wf ((Stms.cons s ss).ev G E S) K := by
  simp only [Stms.ev, wf_then]; exact h
theorem s_set {tg : Tg} {e : Ex} (h : wp (e.ev G E S) (fun d S => ∃ E', tg.put d E = some E' ∧ K.N E' S) K.X) : wf ((Stm.set tg e).ev G E S) K := by
  simp only [Stm.ev, wf_flow]; exact wp_mono h (fun b S h => by obtain ⟨i, e, h⟩ := h; rw [e]; exact h) fun _ _ h => h
theorem s_par {i j : Nat} {a b : Ex} (h : wp (a.ev G E S) (fun x S => wp (b.ev G E S) (fun y S => K.N ((E.set i (some x)).set j (some y)) S) K.X) K.X) : wf ((Stm.par i j a b).ev G E S) K := by
  simp only [Stm.ev, wf_flow]; exact h
theorem s_sub {o i e : Ex} (h : wp (e.ev G E S) (fun d S => wp (o.ev G E S) (fun x S => wp (i.ev G E S) (fun y S => ∃ S', subop x y d S = some S' ∧ K.N E S') K.X) K.X) K.X) : wf ((Stm.sub o i e).ev G E S) K := by
  simp only [Stm.ev, wf_flow]
  exact wp_mono h (fun b S h => wp_mono h (fun b S h => wp_mono h (fun b S h => by obtain ⟨i, e, h⟩ := h; rw [e]; exact h) fun _ _ h => h) fun _ _ h => h) fun _ _ h => h
theorem s_ex {e : Ex} (h : wp (e.ev G E S) (fun _ S => K.N E S) K.X) : wf ((Stm.ex e).ev G E S) K := by simp only [Stm.ev, wf_flow]; exact h
theorem s_ret {e : Ex} (h : wp (e.ev G E S) K.R K.X) : wf ((Stm.ret e).ev G E S) K := by simp only [Stm.ev, wf_flow]; exact h
theorem s_cnd {c : Ex} {a b : Stms} (h : wp (c.tv G E S) (fun k S => (k = true → wf (a.ev G E S) K) ∧ (k = false → wf (b.ev G E S) K)) K.X) : wf ((Stm.cnd c a b).ev G E S) K := by
  simp only [Stm.ev, wf_flow]
  refine wp_mono h (fun k S h => ?_) fun _ _ h => h
  cases k with
  | false => exact h.2 rfl
  | true => exact h.1 rfl
theorem s_rep {tg : Tg} {it : It} {b : Stms} (h : wp (it.ev G E S) (fun w S => wf (forGo w.2 (fun x E => tg.put x E) (fun E S => b.ev G E S) w.1 E S) K) K.X) : wf ((Stm.rep tg it b).ev G E S) K := by
  simp only [Stm.ev, wf_flow]; exact h
theorem s_whl {c : Ex} {b : Stms} (h : wf (whAll (fun E S => c.tv G E S) (fun E S => b.ev G E S) E S) K) : wf ((Stm.whl c b).ev G E S) K := by
  simp only [Stm.ev]; exact h
theorem s_brk (h : K.B E S) : wf (Stm.brk.ev G E S) K := by simp only [Stm.ev]; exact h
theorem s_rse {c : Nat} {e : Ex} (h : wp (e.ev G E S) (fun d S => K.X (c, d) S) K.X) : wf ((Stm.rse c e).ev G E S) K := by simp only [Stm.ev, wf_flow]; exact h
/-! ### operators -/
section
variable {i j : Int} {xs ys : List D} {m n : Nat}
theorem b_add (h : Q (.int (i + j)) S) : wp (binop .Add (.int i) (.int j) S) Q X := h
theorem b_sub (h : Q (.int (i - j)) S) : wp (binop .Sub (.int i) (.int j) S) Q X := h
theorem b_mul (hm : IntMulOk i j) (h : Q (.int (i * j)) S) : wp (binop .Mult (.int i) (.int j) S) Q X := by simp only [binop]; exact wp_tst hm h
theorem b_mulR (hm : -(2 ^ 64) < j ∧ j < 2 ^ 64) (h : Q (.int (i * j)) S) : wp (binop .Mult (.int i) (.int j) S) Q X := b_mul (IntMulOk.of_right (intBits_le_64 hm.1 hm.2)) h
theorem b_mulL (hm : -(2 ^ 64) < i ∧ i < 2 ^ 64) (h : Q (.int (i * j)) S) : wp (binop .Mult (.int i) (.int j) S) Q X := b_mul (IntMulOk.of_left (intBits_le_64 hm.1 hm.2)) h
theorem b_div (hm : CDivW i j) (h : Q (.int (i / j)) S) : wp (binop .FloorDiv (.int i) (.int j) S) Q X := by simp only [binop]; exact wp_tst hm h
theorem b_div64 (hm : 0 < j ∧ j < 2 ^ 64) (h : Q (.int (i / j)) S) : wp (binop .FloorDiv (.int i) (.int j) S) Q X := b_div (wide_div (b := 64) hm.1 (by omega) (by omega) (by omega)) h
theorem b_mod (hm : 0 < j) (h : Q (.int (i % j)) S) : wp (binop .Mod (.int i) (.int j) S) Q X := by
  simp only [binop]; refine wp_tst (by omega) ?_; rw [Int.fmod_eq_emod_of_nonneg i (by omega)]; exact h
theorem b_modN (hm : j ≠ 0) (h : Q (.int (i.fmod j)) S) : wp (binop .Mod (.int i) (.int j) S) Q X := by simp only [binop]; exact wp_tst hm h
theorem b_pow (hm : 0 ≤ j ∧ (Builtin.Int.intBits i : Int) * j ≤ 2 ^ 27) (h : Q (.int (i ^ j.toNat)) S) : wp (binop .Pow (.int i) (.int j) S) Q X := by simp only [binop]; exact wp_tst hm h
theorem b_addT (hm : xs.length + ys.length ≤ sizeLine) (h : Q (.tup (xs ++ ys)) S) : wp (binop .Add (.tup xs) (.tup ys) S) Q X := by simp only [binop]; exact wp_tst hm h
end
end
/-- a call gives d, all that stood stands -/
def Gv (r : Res D) (S : Sto) (d : D) : Prop := wp r (fun d' S' => d' = d ∧ Sub S S') noX
theorem Gv.use {r : Res D} {S : Sto} {d : D} {Q : D → Sto → Prop} {X : XP} (h : Gv r S d) (q : ∀ S', Sub S S' → Q d S') : wp r Q X :=
  wp_then h fun b S' z => by obtain ⟨rfl, z⟩ := z; exact q S' z
end Py
set_option Elab.async false
set_option linter.all false
set_option maxRecDepth 100000
namespace K89
open PySem PySem.Spec PyProof.Rows L2 Py
section
variable {n : Nat}
theorem con_0 : (p.G n).con 0 = .int 3 := rfl
theorem con_1 : (p.G n).con 1 = .int 5 := rfl
theorem con_2 : (p.G n).con 2 = .int 15 := rfl
theorem con_3 : (p.G n).con 3 = .int 9 := rfl
theorem con_4 : (p.G n).con 4 = .int 1000000 := rfl
theorem con_5 : (p.G n).con 5 = .int 2 := rfl
theorem con_6 : (p.G n).con 6 = .int 12 := rfl
theorem con_7 : (p.G n).con 7 = .int 2 := rfl
theorem con_8 : (p.G n).con 8 = .int 3 := rfl
theorem con_9 : (p.G n).con 9 = .int 4 := rfl
theorem con_10 : (p.G n).con 10 = .str "less" := rfl
theorem con_11 : (p.G n).con 11 = .str "same" := rfl
theorem con_12 : (p.G n).con 12 = .str "rest" := rfl
theorem con_13 : (p.G n).con 13 = .str "not" := rfl
theorem con_14 : (p.G n).con 14 = .str "and" := rfl
theorem con_15 : (p.G n).con 15 = .str "or" := rfl
theorem con_16 : (p.G n).con 16 = .str "some" := rfl
theorem con_17 : (p.G n).con 17 = .str "all" := rfl
theorem con_18 : (p.G n).con 18 = .int 1000000000000000000000000000000 := rfl
theorem con_19 : (p.G n).con 19 = .int 3000 := rfl
theorem con_20 : (p.G n).con 20 = .int 5000 := rfl
theorem con_21 : (p.G n).con 21 = .int 40 := rfl
theorem con_22 : (p.G n).con 22 = .int 100000 := rfl
theorem con_23 : (p.G n).con 23 = .int 4 := rfl
end
/-- the call of a def -/
theorem c_of {n i : Nat} {ds : List D} {S : Sto} {Q : D → Sto → Prop} {X : XP} (f : Fn) (hf : defs i = f) (hn : 0 < n) (hl : ds.length = f.ps)
    (h : ∀ m, n = m + 1 → wf (f.body.ev (p.G m) (ds.map some ++ List.replicate (f.ns - ds.length) none) S) { N := fun _ S => Q .non S, R := Q, X := X, B := fun _ _ => False }) : wp ((p.G n).call i ds S) Q X := by
  refine wp_call hn fun m e => ?_
  have e2 : p.defs i = f := hf
  rw [e2]
  exact wp_run hl (h m e)
/-! ### the statements of the law -/
inductive T where
  | less (a b c : Int)
  | rest (a b c d : Int)
  | an (x y : T)
  | orr (x y : T)
def T.e : T → D
  | .less a b c => .tup [.str "less", .tup [.int a, .int b], .int c]
  | .rest a b c d => .tup [.str "rest", .tup [.int a, .int b], .int c, .int d]
  | .an x y => .tup [.str "and", x.e, y.e]
  | .orr x y => .tup [.str "or", x.e, y.e]
def T.h : T → Nat
  | .less _ _ _ => 1
  | .rest _ _ _ _ => 1
  | .an x y => max x.h y.h + 1
  | .orr x y => max x.h y.h + 1
def T.sz : T → Nat
  | .less _ _ _ => 1
  | .rest _ _ _ _ => 1
  | .an x y => x.sz + y.sz + 1
  | .orr x y => x.sz + y.sz + 1
def T.lv : T → List T
  | .an x y => x.lv ++ y.lv
  | .orr x y => x.lv ++ y.lv
  | t => [t]
def T.leaf : T → Bool
  | .an _ _ => false
  | .orr _ _ => false
  | _ => true
/-- within the bounds of statements -/
def T.fit : T → Prop
  | .less a b c => (-9 ≤ a ∧ a ≤ 9) ∧ (-9 ≤ b ∧ b ≤ 9) ∧ -1000000 ≤ c ∧ c ≤ 1000000
  | .rest a b c d => (-9 ≤ a ∧ a ≤ 9) ∧ (-9 ≤ b ∧ b ≤ 9) ∧ (-1000000 ≤ c ∧ c ≤ 1000000) ∧ 2 ≤ d ∧ d ≤ 12
  | .an x y => x.fit ∧ y.fit
  | .orr x y => x.fit ∧ y.fit
def someD (t : T) : D := .tup [.str "some", t.e]
theorem T.h_pos : ∀ t : T, 0 < t.h
  | .less _ _ _ => Nat.one_pos
  | .rest _ _ _ _ => Nat.one_pos
  | .an _ _ => Nat.succ_pos _
  | .orr _ _ => Nat.succ_pos _
theorem T.sz_pos : ∀ t : T, 0 < t.sz
  | .less _ _ _ => Nat.one_pos
  | .rest _ _ _ _ => Nat.one_pos
  | .an _ _ => Nat.succ_pos _
  | .orr _ _ => Nat.succ_pos _
/-! ### helps -/
theorem wp_all {k : Nat} {ds : List D} {bs : List Bool} {S : Sto} {Q : D → Sto → Prop} {X : XP} (e : S[k]? = some (.lst ds)) (eb : boolsD ds = some bs) (h : Q (.bl (bs.all id)) S) : wp (biop .all [.ref k] S) Q X := by
  have e2 : (lstOf S (.ref k)).bind boolsD = some bs := by simp only [lstOf, e, Option.bind_some, eb]
  simp only [biop, bbools, e2]; exact h
theorem wp_sum {k : Nat} {ds : List D} {bs : List Int} {S : Sto} {Q : D → Sto → Prop} {X : XP} (e : S[k]? = some (.lst ds)) (eb : intsD ds = some bs) (h : Q (.int bs.sum) S) : wp (biop .sum [.ref k] S) Q X := by
  have e2 : (lstOf S (.ref k)).bind intsD = some bs := by simp only [lstOf, e, Option.bind_some, eb]
  simp only [biop, bints, e2]; exact h
theorem wp_tupl {k : Nat} {ds : List D} {S : Sto} {Q : D → Sto → Prop} {X : XP} (e : S[k]? = some (.lst ds)) (h : Q (.tup ds) S) : wp (biop .tuple [.ref k] S) Q X := by
  have e2 : itemsOf S (.ref k) = some ds := by simp only [itemsOf, e]
  simp only [biop, bitems, e2]; exact h
theorem wp_len {k : Nat} {ds : List D} {S : Sto} {Q : D → Sto → Prop} {X : XP} (e : S[k]? = some (.lst ds)) (h : Q (.int ds.length) S) : wp (biop .len [.ref k] S) Q X := by
  have e2 : itemsOf S (.ref k) = some ds := by simp only [itemsOf, e]
  simp only [biop, bitems, e2]; exact h
theorem boolsD_map {α : Type} {l : List α} {v : α → D} {b : α → Bool} (h : ∀ x ∈ l, v x = .bl (b x)) : boolsD (l.map v) = some (l.map b) := by
  induction l with
  | nil => rfl
  | cons x l ih =>
    rw [List.map_cons, h x List.mem_cons_self, boolsD, ih fun y hy => h y (List.mem_cons_of_mem _ hy)]
    rfl
theorem intsD_map {α : Type} {l : List α} {v : α → D} {b : α → Int} (h : ∀ x ∈ l, v x = .int (b x)) : intsD (l.map v) = some (l.map b) := by
  induction l with
  | nil => rfl
  | cons x l ih =>
    rw [List.map_cons, h x List.mem_cons_self, intsD, ih fun y hy => h y (List.mem_cons_of_mem _ hy)]
    rfl
theorem at0 {x : D} {r : List D} : atI (x :: r) 0 = some x := by
  unfold atI ixN
  rw [if_pos (Int.le_refl _), if_pos (by simp)]; rfl
theorem at1 {x y : D} {r : List D} : atI (x :: y :: r) 1 = some y := by
  unfold atI ixN
  rw [if_pos (by omega), if_pos (by simp; omega)]; rfl
theorem at2 {x y z : D} {r : List D} : atI (x :: y :: z :: r) 2 = some z := by
  unfold atI ixN
  rw [if_pos (by omega), if_pos (by simp; omega)]; rfl
theorem at3 {x y z u : D} {r : List D} : atI (x :: y :: z :: u :: r) 3 = some u := by
  unfold atI ixN
  rw [if_pos (by omega), if_pos (by simp; omega)]; rfl
theorem ix0 {x : D} {r : List D} {S : Sto} : ixop (.tup (x :: r)) (.int 0) S = some x := by simp only [ixop, itemsOf, at0]
theorem ix1 {x y : D} {r : List D} {S : Sto} : ixop (.tup (x :: y :: r)) (.int 1) S = some y := by simp only [ixop, itemsOf, at1]
theorem ix2 {x y z : D} {r : List D} {S : Sto} : ixop (.tup (x :: y :: z :: r)) (.int 2) S = some z := by simp only [ixop, itemsOf, at2]
theorem ix3 {x y z u : D} {r : List D} {S : Sto} : ixop (.tup (x :: y :: z :: u :: r)) (.int 3) S = some u := by simp only [ixop, itemsOf, at3]
theorem ixL {x y : D} {S : Sto} : ixop (.tup [x, y]) (.int (-1)) S = some y := rfl
theorem b_tup1 {xs : List D} {S : Sto} {Q : D → Sto → Prop} {X : XP} (h : Q (.tup xs) S) : wp (binop .Mult (.tup xs) (.int 1) S) Q X := by simp only [binop, if_pos]; exact h
theorem b_lst1 {k : Nat} {xs : List D} {S : Sto} {Q : D → Sto → Prop} {X : XP} (e : S[k]? = some (.lst xs)) (hl : xs.length ≤ 1000) (h : ∀ j S', Sub S S' → S[j]? = none → S'[j]? = some (.lst xs) → Q (.ref j) S') : wp (binop .Mult (.ref k) (.int 1) S) Q X := by
  simp only [binop, e]
  refine wp_tst ⟨by omega, by omega, ?_⟩ ?_
  · have : sizeLine = 16777216 := rfl
    have e1 : Int.toNat 1 = 1 := rfl
    rw [e1]; omega
  · refine new_any fun j S' s hj a => h j S' s hj ?_
    rw [a]
    simp
theorem seqW_ref0 {k : Nat} {xs : List D} {S : Sto} (e : S[k]? = some (.lst xs)) {P : Walk → Prop} (h : P (xs, [(k, xs)])) : ∃ w, seqW (.ref k) S = some w ∧ P w := ⟨_, by simp only [seqW, e], h⟩
theorem stands_one {k : Nat} {xs : List D} {S : Sto} (e : S[k]? = some (.lst xs)) : Stands [(k, xs)] S := fun q hq => by rw [List.mem_singleton.mp hq]; exact e
section
variable {S : Sto} {Q : D → Sto → Prop} {X : XP} {i j : Int} {b : Bool} {vs : List D}
theorem r_abs (h : Q (.int (i.natAbs : Int)) S) : wp (biop .abs [.int i] S) Q X := by
  have e : (if i < 0 then -i else i) = (i.natAbs : Int) := by split <;> omega
  simp only [biop, e]; exact h
theorem r_max (h : Q (.int (if j > i then j else i)) S) : wp (biop .max [.int i, .int j] S) Q X := h
theorem r_min (h : Q (.int (if j < i then j else i)) S) : wp (biop .min [.int i, .int j] S) Q X := h
theorem r_intI (h : Q (.int i) S) : wp (biop .int [.int i] S) Q X := h
theorem r_intB (h : Q (.int (if b then 1 else 0)) S) : wp (biop .int [.bl b] S) Q X := h
theorem r_lenT (h : Q (.int vs.length) S) : wp (biop .len [.tup vs] S) Q X := h
end
theorem stands_nil {S : Sto} : Stands [] S := fun p hp => by cases hp
/-- a comprehension without a test -/
theorem wp_lcN {G : Glob} {e : Ex} {tg : Tg} {own : List Nat} {E : Py.Env} {g : List (Nat × List D)} {S : Sto} {Q : D → Sto → Prop} {X : XP} (v : D → D) {xs : List D}
    (hg : Stands g S) (hs : xs.length ≤ sizeLine)
    (hx : ∀ x ∈ xs, ∀ S1, Sub S S1 → ∃ E1, tg.put x (wipeE E own) = some E1 ∧ wp (e.ev G E1 S1) (fun d S2 => d = v x ∧ Sub S1 S2) noX)
    (q : ∀ (k : Nat) (S' : Sto), Sub S S' → S[k]? = none → S'[k]? = some (.lst (xs.map v)) → Q (.ref k) S') :
    wp (lcGo S.length g (fun x => tg.put x (wipeE E own)) (fun E S => Eo.no.tv G E S) (fun E S => e.ev G E S) xs (S ++ [.lst []])) Q X := by
  refine wp_lc (fun _ => true) v hg hs (fun x hx' S1 s => ?_) fun k S' s hk a => q k S' s hk (by rw [List.filter_eq_self.mpr (fun _ _ => rfl)] at a; exact a)
  obtain ⟨E1, e1, w⟩ := hx x hx' S1 s
  exact ⟨E1, e1, by simp only [Eo.tv]; exact ⟨rfl, Sub.refl _, fun _ => w⟩⟩
/-! ### lists -/
section
variable {S : Sto} {Q : D → Sto → Prop} {X : XP} {n k : Nat} {xs ys : List D} {d x : D}
theorem m_pop (e : S[n]? = some (.lst xs)) (h : xs = ys ++ [d]) (q : Q d (S.set n (.lst ys))) : wp (mtop .pop (.ref n) [] S) Q X := by
  subst h
  simp only [mtop, e, List.getLast?_append, List.getLast?_singleton, Option.some_or, List.dropLast_concat]; exact q
theorem m_app (e : S[n]? = some (.lst xs)) (hl : xs.length < sizeLine) (q : Q .non (S.set n (.lst (xs ++ [d])))) : wp (mtop .append (.ref n) [d] S) Q X := by
  simp only [mtop, e]; exact wp_tst hl q
theorem m_ext (e : S[n]? = some (.lst xs)) (e2 : S[k]? = some (.lst ys)) (ne : k ≠ n) (hl : xs.length + ys.length ≤ sizeLine) (q : Q .non (S.set n (.lst (xs ++ ys)))) : wp (mtop .extend (.ref n) [.ref k] S) Q X := by
  simp only [mtop, e, e2]; exact wp_tst ⟨ne, hl⟩ q
theorem eq_nil (e : S[n]? = some (.lst xs)) (e2 : S[k]? = some (.lst [])) : cmpop .NotEq (.ref n) (.ref k) S = some (!xs.isEmpty) := by
  cases xs <;> simp [cmpop, eqOf, lstOf, e, e2]
theorem r_cut1 (h : Q (.tup xs) S) : wp (slop (.tup (x :: xs)) (some 1) none S) Q X := by
  have e : Py.cutD (x :: xs) (some 1) none = xs := by
    unfold Py.cutD HT.sIx
    simp
  simp only [slop, e, wp_ok]; exact h
theorem r_cut3 {y z : D} (h : Q (.tup xs) S) : wp (slop (.tup (x :: y :: z :: xs)) (some 3) none S) Q X := by
  have e : Py.cutD (x :: y :: z :: xs) (some 3) none = xs := by
    unfold Py.cutD HT.sIx
    simp
  simp only [slop, e, wp_ok]; exact h
theorem r_cutL {y : D} (h : Q (.tup [x]) S) : wp (slop (.tup [x, y]) none (some (-1)) S) Q X := by
  simp only [slop]; exact h
theorem r_cutL1 (h : Q (.tup []) S) : wp (slop (.tup [x]) none (some (-1)) S) Q X := by
  simp only [slop]; exact h
theorem itemsOf_ref (e : S[n]? = some (.lst xs)) : itemsOf S (.ref n) = some xs := by simp only [itemsOf, e]
theorem seqW_ref (e : S[n]? = some (.lst xs)) : seqW (.ref n) S = some (xs, [(n, xs)]) := by simp only [seqW, e]
end
local macro_rules | `(tactic| array_get_dec) => `(tactic| first
  | with_reducible refine s_cons ?_
  | with_reducible refine s_nil ?_
  | with_reducible refine s_cnd ?_
  | with_reducible refine s_ret ?_
  | (with_reducible refine w_var ?_; refine ⟨_, rfl, ?_⟩)
  | with_reducible refine w_int ?_
  | with_reducible refine w_str ?_
  | with_reducible refine w_bl ?_
  | with_reducible refine w_non ?_
  | with_reducible refine a_cons ?_
  | with_reducible refine a_nil ?_
  | with_reducible refine w_call ?_
  | with_reducible refine t_call ?_
  | with_reducible refine w_tup ?_
  | with_reducible refine w_cmp ?_
  | with_reducible refine t_cmp ?_
  | with_reducible refine w_ix ?_
  | with_reducible refine w_bin ?_
  | with_reducible refine w_isi ?_
  | with_reducible refine t_isi ?_
  | with_reducible refine w_nt ?_
  | with_reducible refine t_nt ?_
  | with_reducible refine w_con ?_
  | with_reducible refine t_con ?_
  | with_reducible refine w_dis ?_
  | with_reducible refine t_dis ?_
  | with_reducible refine w_chn ?_
  | with_reducible refine w_ife ?_
  | with_reducible refine w_bi ?_
  | with_reducible refine t_bi ?_
  | with_reducible refine w_neg ?_
  | with_reducible refine w_sl ?_
  | with_reducible refine o_no ?_
  | with_reducible refine o_yes ?_
  | with_reducible refine s_set ?_
  | with_reducible refine s_par ?_
  | with_reducible refine s_ex ?_
  | with_reducible refine s_rse ?_
  | with_reducible refine s_rep ?_
  | with_reducible refine s_whl ?_
  | with_reducible refine s_brk ?_
  | with_reducible refine s_sub ?_
  | with_reducible refine w_lst ?_
  | with_reducible refine w_lc ?_
  | with_reducible refine w_mth ?_
  | with_reducible refine i_seq ?_
  | with_reducible refine i_r1 ?_
  | with_reducible refine i_r2 ?_
  | with_reducible refine i_zip ?_
  | with_reducible refine ot_no ?_
  | with_reducible refine ot_yes ?_
  | (with_reducible refine t_var ?_; refine ⟨_, _, rfl, rfl, ?_⟩)
  | with_reducible refine w_isN ?_
  | with_reducible refine t_isN ?_
  | with_reducible refine t_isB ?_
  | with_reducible refine t_isx ?_
  | with_reducible refine t_ix ?_
  | with_reducible refine w_fld ?_
  | with_reducible refine w_heard ?_
  | with_reducible refine w_lrange ?_
  | with_reducible refine a_star ?_
  | with_reducible refine w_glb con_0 ?_
  | with_reducible refine w_glb con_1 ?_
  | with_reducible refine w_glb con_2 ?_
  | with_reducible refine w_glb con_3 ?_
  | with_reducible refine w_glb con_4 ?_
  | with_reducible refine w_glb con_5 ?_
  | with_reducible refine w_glb con_6 ?_
  | with_reducible refine w_glb con_7 ?_
  | with_reducible refine w_glb con_8 ?_
  | with_reducible refine w_glb con_9 ?_
  | with_reducible refine w_glb con_10 ?_
  | with_reducible refine w_glb con_11 ?_
  | with_reducible refine w_glb con_12 ?_
  | with_reducible refine w_glb con_13 ?_
  | with_reducible refine w_glb con_14 ?_
  | with_reducible refine w_glb con_15 ?_
  | with_reducible refine w_glb con_16 ?_
  | with_reducible refine w_glb con_17 ?_
  | with_reducible refine w_glb con_18 ?_
  | with_reducible refine w_glb con_19 ?_
  | with_reducible refine w_glb con_20 ?_
  | with_reducible refine w_glb con_21 ?_
  | with_reducible refine w_glb con_22 ?_
  | with_reducible refine w_glb con_23 ?_
  | with_reducible refine r_cut1 ?_
  | with_reducible refine r_cut3 ?_
  | with_reducible refine r_cutL ?_
  | with_reducible refine r_cutL1 ?_
  | with_reducible refine b_tup1 ?_
  | with_reducible refine r_abs ?_
  | with_reducible refine r_max ?_
  | with_reducible refine r_min ?_
  | with_reducible refine r_intI ?_
  | with_reducible refine r_intB ?_
  | with_reducible refine r_lenT ?_
  | with_reducible refine b_add ?_
  | with_reducible refine b_sub ?_
  | with_reducible refine b_mulR (by omega) ?_
  | with_reducible refine b_mulL (by omega) ?_
  | with_reducible refine b_div64 (by omega) ?_
  | with_reducible refine b_mod (by omega) ?_
  | with_reducible refine ⟨_, ix0, ?_⟩
  | with_reducible refine ⟨_, ix1, ?_⟩
  | with_reducible refine ⟨_, ix2, ?_⟩
  | with_reducible refine ⟨_, ix3, ?_⟩
  | with_reducible refine ⟨_, ixL, ?_⟩
  | refine ⟨Nat.le_of_ble_eq_true rfl, ?_⟩
  | refine ⟨fun _ => ?_, fun z => absurd z (by decide +kernel)⟩
  | refine ⟨fun z => absurd z (by decide +kernel), fun _ => ?_⟩
  | refine ⟨fun _ => ?_, fun z => Bool.noConfusion (show true = false from z)⟩
  | refine ⟨fun _ => ?_, fun z => Bool.noConfusion (show false = true from z)⟩
  | refine ⟨fun z => Bool.noConfusion (show true = false from z), fun _ => ?_⟩
  | refine ⟨fun z => Bool.noConfusion (show false = true from z), fun _ => ?_⟩
  | refine ⟨fun _ => ?_, fun z => absurd z (by simp only [Bool.not_eq_true', Bool.not_eq_false', decide_eq_true_eq, decide_eq_false_iff_not]; omega)⟩
  | refine ⟨fun z => absurd z (by simp only [Bool.not_eq_true', Bool.not_eq_false', decide_eq_true_eq, decide_eq_false_iff_not]; omega), fun _ => ?_⟩
  | refine ⟨_, rfl, ?_⟩)

/-! ### checks -/
section
variable {n : Nat} {S : Sto}
theorem c0 {vs : List D} {a b : Int} (hn : 1 ≤ n) : Gv ((p.G n).call 0 [.tup vs, .int a, .int b] S) S (.bl (decide (a ≤ vs.length ∧ vs.length ≤ b))) := by
  refine c_of d0 rfl (by omega) rfl fun m e => ?_
  unfold d0
  repeat array_get_dec
  refine ⟨fun z => ⟨?_, Sub.refl _⟩, fun z => ?_⟩
  · rw [decide_eq_false_iff_not] at z
    rw [decide_eq_false (by omega)]
  · rw [decide_eq_true_eq] at z
    repeat array_get_dec
    refine ⟨?_, Sub.refl _⟩
    congr 1
    exact decide_eq_decide.mpr ⟨fun y => ⟨z, y⟩, fun y => y.2⟩
theorem c1 {i : Int} (hn : 1 ≤ n) : Gv ((p.G n).call 1 [.int i] S) S (.bl true) := by
  refine c_of d1 rfl (by omega) rfl fun m e => ?_
  unfold d1
  repeat array_get_dec
  exact ⟨rfl, Sub.refl _⟩
theorem c2 {i lo hi : Int} (hn : 2 ≤ n) : Gv ((p.G n).call 2 [.int i, .int lo, .int hi] S) S (.bl (decide (lo ≤ i ∧ i ≤ hi))) := by
  refine c_of d2 rfl (by omega) rfl fun m e => ?_
  unfold d2
  repeat array_get_dec
  refine (c1 (by omega)).use fun S1 s1 => ?_
  repeat array_get_dec
  refine ⟨fun z => ⟨?_, s1⟩, fun z => ?_⟩
  · rw [decide_eq_false_iff_not] at z
    rw [decide_eq_false (by omega)]
  · rw [decide_eq_true_eq] at z
    repeat array_get_dec
    refine ⟨?_, s1⟩
    congr 1
    exact decide_eq_decide.mpr ⟨fun y => ⟨z, y⟩, fun y => y.2⟩
theorem c3 (hn : 3 ≤ n) : Gv ((p.G n).call 3 [.int 1] S) S (.bl true) := by
  refine c_of d3 rfl (by omega) rfl fun m e => ?_
  unfold d3
  repeat array_get_dec
  exact (c2 (by omega)).use fun S1 s1 => ⟨rfl, s1⟩
theorem c4 (hn : 4 ≤ n) : Gv ((p.G n).call 4 [.int 1] S) S .non := by
  refine c_of d4 rfl (by omega) rfl fun m e => ?_
  unfold d4
  repeat array_get_dec
  refine (c3 (by omega)).use fun S1 s1 => ?_
  repeat array_get_dec
  exact ⟨rfl, s1⟩
theorem c5 {t : T} (hn : 3 ≤ n) (hl : t.leaf = true) (hf : t.fit) : Gv ((p.G n).call 5 [.int 2, t.e] S) S (.bl true) := by
  refine c_of d5 rfl (by omega) rfl fun m e => ?_
  have key : ∀ (w : Str) (a b c : Int) (r : List D), (-9 ≤ a ∧ a ≤ 9) → (-9 ≤ b ∧ b ≤ 9) → (-1000000 ≤ c ∧ c ≤ 1000000) →
      wf (d5.body.ev (p.G m) ([.int 2, .tup (.str w :: .tup [.int a, .int b] :: .int c :: r)].map some ++ List.replicate (3 - 2) none) S) { N := fun _ S' => D.non = .bl true ∧ Sub S S', R := fun d S' => d = .bl true ∧ Sub S S', X := noX, B := fun _ _ => False } := by
    intro w a b c r ha hb hc
    unfold d5
    repeat array_get_dec
    refine (c0 (by omega)).use fun S1 s1 => ?_
    repeat array_get_dec
    refine (c2 (by omega)).use fun S2 s2 => ?_
    repeat array_get_dec
    refine wp_lcN (fun d => match d with | .int i => .bl (decide (-9 ≤ i ∧ i ≤ 9)) | _ => .non) stands_nil ?_ (fun x hx S3 s3 => ?_) fun k S3 s3 hk a3 => ?_
    · exact Nat.le_of_ble_eq_true rfl
    · have hx : x = .int a ∨ x = .int b := by simpa using hx
      rcases hx with rfl | rfl
      · refine ⟨_, rfl, ?_⟩
        repeat array_get_dec
        exact (c2 (by omega)).use fun S4 s4 => ⟨rfl, s4⟩
      · refine ⟨_, rfl, ?_⟩
        repeat array_get_dec
        exact (c2 (by omega)).use fun S4 s4 => ⟨rfl, s4⟩
    · repeat array_get_dec
      refine wp_all a3 rfl ⟨?_, (s1.trans s2).trans s3⟩
      simp only [List.all_cons, List.all_nil, decide_eq_true ha, decide_eq_true hb, id]
      rfl
  cases t with
  | less a b c => exact key _ a b c [] hf.1 hf.2.1 hf.2.2
  | rest a b c d => exact key _ a b c [.int d] hf.1 hf.2.1 hf.2.2.1
  | an x y => cases hl
  | orr x y => cases hl
end
end K89
set_option Elab.async false
set_option linter.all false
set_option maxRecDepth 100000
namespace K89
open PySem PySem.Spec PyProof.Rows L2 Py
local macro_rules | `(tactic| array_get_dec) => `(tactic| first
  | with_reducible refine s_cons ?_
  | with_reducible refine s_nil ?_
  | with_reducible refine s_cnd ?_
  | with_reducible refine s_ret ?_
  | (with_reducible refine w_var ?_; refine ⟨_, rfl, ?_⟩)
  | with_reducible refine w_int ?_
  | with_reducible refine w_str ?_
  | with_reducible refine w_bl ?_
  | with_reducible refine w_non ?_
  | with_reducible refine a_cons ?_
  | with_reducible refine a_nil ?_
  | with_reducible refine w_call ?_
  | with_reducible refine t_call ?_
  | with_reducible refine w_tup ?_
  | with_reducible refine w_cmp ?_
  | with_reducible refine t_cmp ?_
  | with_reducible refine w_ix ?_
  | with_reducible refine w_bin ?_
  | with_reducible refine w_isi ?_
  | with_reducible refine t_isi ?_
  | with_reducible refine w_nt ?_
  | with_reducible refine t_nt ?_
  | with_reducible refine w_con ?_
  | with_reducible refine t_con ?_
  | with_reducible refine w_dis ?_
  | with_reducible refine t_dis ?_
  | with_reducible refine w_chn ?_
  | with_reducible refine w_ife ?_
  | with_reducible refine w_bi ?_
  | with_reducible refine t_bi ?_
  | with_reducible refine w_neg ?_
  | with_reducible refine w_sl ?_
  | with_reducible refine o_no ?_
  | with_reducible refine o_yes ?_
  | with_reducible refine s_set ?_
  | with_reducible refine s_par ?_
  | with_reducible refine s_ex ?_
  | with_reducible refine s_rse ?_
  | with_reducible refine s_rep ?_
  | with_reducible refine s_whl ?_
  | with_reducible refine s_brk ?_
  | with_reducible refine s_sub ?_
  | with_reducible refine w_lst ?_
  | with_reducible refine w_lc ?_
  | with_reducible refine w_mth ?_
  | with_reducible refine i_seq ?_
  | with_reducible refine i_r1 ?_
  | with_reducible refine i_r2 ?_
  | with_reducible refine i_zip ?_
  | with_reducible refine ot_no ?_
  | with_reducible refine ot_yes ?_
  | (with_reducible refine t_var ?_; refine ⟨_, _, rfl, rfl, ?_⟩)
  | with_reducible refine w_isN ?_
  | with_reducible refine t_isN ?_
  | with_reducible refine t_isB ?_
  | with_reducible refine t_isx ?_
  | with_reducible refine t_ix ?_
  | with_reducible refine w_fld ?_
  | with_reducible refine w_heard ?_
  | with_reducible refine w_lrange ?_
  | with_reducible refine a_star ?_
  | with_reducible refine w_glb con_0 ?_
  | with_reducible refine w_glb con_1 ?_
  | with_reducible refine w_glb con_2 ?_
  | with_reducible refine w_glb con_3 ?_
  | with_reducible refine w_glb con_4 ?_
  | with_reducible refine w_glb con_5 ?_
  | with_reducible refine w_glb con_6 ?_
  | with_reducible refine w_glb con_7 ?_
  | with_reducible refine w_glb con_8 ?_
  | with_reducible refine w_glb con_9 ?_
  | with_reducible refine w_glb con_10 ?_
  | with_reducible refine w_glb con_11 ?_
  | with_reducible refine w_glb con_12 ?_
  | with_reducible refine w_glb con_13 ?_
  | with_reducible refine w_glb con_14 ?_
  | with_reducible refine w_glb con_15 ?_
  | with_reducible refine w_glb con_16 ?_
  | with_reducible refine w_glb con_17 ?_
  | with_reducible refine w_glb con_18 ?_
  | with_reducible refine w_glb con_19 ?_
  | with_reducible refine w_glb con_20 ?_
  | with_reducible refine w_glb con_21 ?_
  | with_reducible refine w_glb con_22 ?_
  | with_reducible refine w_glb con_23 ?_
  | with_reducible refine r_cut1 ?_
  | with_reducible refine r_cut3 ?_
  | with_reducible refine r_cutL ?_
  | with_reducible refine r_cutL1 ?_
  | with_reducible refine b_tup1 ?_
  | with_reducible refine r_abs ?_
  | with_reducible refine r_max ?_
  | with_reducible refine r_min ?_
  | with_reducible refine r_intI ?_
  | with_reducible refine r_intB ?_
  | with_reducible refine r_lenT ?_
  | with_reducible refine b_add ?_
  | with_reducible refine b_sub ?_
  | with_reducible refine b_mulR (by omega) ?_
  | with_reducible refine b_mulL (by omega) ?_
  | with_reducible refine b_div64 (by omega) ?_
  | with_reducible refine b_mod (by omega) ?_
  | with_reducible refine ⟨_, ix0, ?_⟩
  | with_reducible refine ⟨_, ix1, ?_⟩
  | with_reducible refine ⟨_, ix2, ?_⟩
  | with_reducible refine ⟨_, ix3, ?_⟩
  | with_reducible refine ⟨_, ixL, ?_⟩
  | refine ⟨Nat.le_of_ble_eq_true rfl, ?_⟩
  | refine ⟨fun _ => ?_, fun z => absurd z (by decide +kernel)⟩
  | refine ⟨fun z => absurd z (by decide +kernel), fun _ => ?_⟩
  | refine ⟨fun _ => ?_, fun z => Bool.noConfusion (show true = false from z)⟩
  | refine ⟨fun _ => ?_, fun z => Bool.noConfusion (show false = true from z)⟩
  | refine ⟨fun z => Bool.noConfusion (show true = false from z), fun _ => ?_⟩
  | refine ⟨fun z => Bool.noConfusion (show false = true from z), fun _ => ?_⟩
  | refine ⟨fun _ => ?_, fun z => absurd z (by simp only [Bool.not_eq_true', Bool.not_eq_false', decide_eq_true_eq, decide_eq_false_iff_not]; omega)⟩
  | refine ⟨fun z => absurd z (by simp only [Bool.not_eq_true', Bool.not_eq_false', decide_eq_true_eq, decide_eq_false_iff_not]; omega), fun _ => ?_⟩
  | refine ⟨_, rfl, ?_⟩)

section
variable {n : Nat} {S : Sto}
theorem c6 {t : T} (hn : 4 ≤ n) (hf : t.fit) : Gv ((p.G n).call 6 [.int 2, t.e] S) S (.bl true) := by
  cases t with
  | less a b c =>
    refine c_of d6 rfl (by omega) rfl fun m e => ?_
    simp only [T.e]
    unfold d6
    repeat array_get_dec
    refine (c0 (by omega)).use fun S1 s1 => ?_
    repeat array_get_dec
    exact (c5 (t := .less a b c) (by omega) rfl hf).use fun S2 s2 => ⟨rfl, s1.trans s2⟩
  | rest a b c d =>
    refine c_of d6 rfl (by omega) rfl fun m e => ?_
    simp only [T.e]
    unfold d6
    repeat array_get_dec
    refine (c0 (by omega)).use fun S1 s1 => ?_
    repeat array_get_dec
    refine (c5 (t := .rest a b c d) (by omega) rfl hf).use fun S2 s2 => ?_
    repeat array_get_dec
    refine (c2 (by omega)).use fun S3 s3 => ⟨?_, (s1.trans s2).trans s3⟩
    rw [decide_eq_true hf.2.2.2]
  | an x y =>
    refine c_of d6 rfl (by omega) rfl fun m e => ?_
    simp only [T.e]
    unfold d6
    repeat array_get_dec
    refine (c0 (by omega)).use fun S1 s1 => ?_
    repeat array_get_dec
    exact ⟨rfl, s1⟩
  | orr x y =>
    refine c_of d6 rfl (by omega) rfl fun m e => ?_
    simp only [T.e]
    unfold d6
    repeat array_get_dec
    refine (c0 (by omega)).use fun S1 s1 => ?_
    repeat array_get_dec
    exact ⟨rfl, s1⟩
theorem c6s {t : T} (hn : 4 ≤ n) : Gv ((p.G n).call 6 [.int 1, someD t] S) S (.bl true) := by
  refine c_of d6 rfl (by omega) rfl fun m e => ?_
  unfold someD
  unfold d6
  repeat array_get_dec
  refine (c0 (by omega)).use fun S1 s1 => ?_
  repeat array_get_dec
  exact ⟨congrArg D.bl (by decide +kernel), s1⟩
/-! #### the shape of a statement -/
/-- what waits: the whole, or a part of it -/
inductive W where
  | top (t : T)
  | sub (t : T)
def W.e : W → D
  | .top t => .tup [.int 1, someD t]
  | .sub t => .tup [.int 2, t.e]
def W.sz : W → Nat
  | .top t => t.sz + 1
  | .sub t => t.sz
def W.fit : W → Prop
  | .top t => t.fit
  | .sub t => t.fit
def szW (ws : List W) : Nat := (ws.map W.sz).sum
theorem szW_app (u v : List W) : szW (u ++ v) = szW u + szW v := by unfold szW; simp
theorem szW_len : ∀ ws : List W, ws.length ≤ szW ws
  | [] => Nat.le_refl _
  | w :: ws => by
    have h := szW_len ws
    have h2 : 0 < w.sz := by cases w with
      | top t => exact Nat.succ_pos _
      | sub t => exact t.sz_pos
    unfold szW at *
    simp
    omega
theorem small_len {k : Nat} (h : k ≤ 1000) : k ≤ sizeLine := Nat.le_trans h (Nat.le_of_ble_eq_true rfl)
theorem c7 {t : T} (hn : 5 ≤ n) (hf : t.fit) (hs : t.sz ≤ 14) : Gv ((p.G n).call 7 [.int 1, someD t] S) S (.bl true) := by
  refine c_of d7 rfl (by omega) rfl fun m e => ?_
  unfold d7
  repeat array_get_dec
  intro k S1 s1 hk a1
  repeat array_get_dec
  refine wf_while (fun w E S2 => ∃ (ws : List W) (i : Nat) (x4 x5 : Option D), E = [some (.int 1), some (someD t), some (.ref k), some (.int i), x4, x5] ∧ S2[k]? = some (.lst (ws.map W.e)) ∧ Sub S S2 ∧ w = szW ws ∧ i + szW ws ≤ 15 ∧ ∀ w ∈ ws, w.fit) ?_ (m := szW [W.top t]) ⟨[.top t], 0, none, none, rfl, a1, s1, rfl, ?_, ?_⟩
  · rintro w E S2 ⟨ws, i, x4, x5, rfl, a2, s2, rfl, hi, hfs⟩
    repeat array_get_dec
    intro k3 S3 s3 hk3 a3
    refine ⟨_, eq_nil (s3 _ _ a2) a3, ?_⟩
    rcases List.eq_nil_or_concat ws with rfl | ⟨us, u, rfl⟩
    · refine ⟨fun z => absurd z (by simp), fun _ => ?_⟩
      repeat array_get_dec
      exact ⟨rfl, s2.trans s3⟩
    · rw [List.concat_eq_append] at *
      refine ⟨fun _ => ?_, fun z => absurd z (by simp)⟩
      have a4 := s3 _ _ a2
      have hl := szW_len (us ++ [u])
      rw [szW_app] at hi hl
      have hu : szW [u] = u.sz := by unfold szW; simp
      rw [hu] at hi hl
      have nk : S[k]? = none := hk
      have hfu : u.fit := hfs u (by simp)
      have hfr : ∀ w ∈ us, w.fit := fun w hw => hfs w (by simp [hw])
      simp only [List.length_append, List.length_cons, List.length_nil] at hl
      repeat array_get_dec
      refine m_pop (ys := us.map W.e) (d := u.e) a4 (by rw [List.map_append]; rfl) ?_
      have a5 := get_set (u := O.lst (us.map W.e)) a4
      have s5 : Sub S (S3.set k (.lst (us.map W.e))) := (s2.trans s3).set nk _
      generalize S3.set k (.lst (us.map W.e)) = S5 at a5 s5
      cases u with
      | top y =>
        have hy : y.sz + 1 = (W.top y).sz := rfl
        unfold W.e
        repeat array_get_dec
        refine (c6s (by omega)).use fun S6 s6 => ?_
        repeat array_get_dec
        unfold someD
        repeat array_get_dec
        refine m_app (s6 _ _ a5) (by simp; exact Nat.lt_of_lt_of_le (by omega : us.length < 100) (Nat.le_of_ble_eq_true rfl)) ?_
        repeat array_get_dec
        refine ⟨szW us + y.sz, by rw [szW_app, hu]; omega, us ++ [.sub y], i + 1, _, _, rfl, ?_, (s5.trans s6).set nk _, ?_, ?_, ?_⟩
        · rw [get_set (s6 _ _ a5)]
          rw [List.map_append]
          rfl
        · rw [szW_app]; rfl
        · rw [szW_app, show szW [W.sub y] = y.sz from rfl]; omega
        · intro w hw
          rcases List.mem_append.mp hw with h | h
          · exact hfr w h
          · rw [List.mem_singleton.mp h]; exact hfu
      | sub y =>
        unfold W.e
        repeat array_get_dec
        refine (c6 (by omega) hfu).use fun S6 s6 => ?_
        have a6 := s6 _ _ a5
        have s6 := s5.trans s6
        have leafs : ∀ {b : Bool}, y.leaf = true → ∃ m', m' < szW (us ++ [W.sub y]) ∧ ∃ (ws : List W) (i' : Nat) (x4 x5 : Option D), [some (.int 1), some (someD t), some (.ref k), some (.int (i + 1)), some (.int 2), some y.e] = [some (.int 1), some (someD t), some (.ref k), some (.int i'), x4, x5] ∧ S6[k]? = some (.lst (ws.map W.e)) ∧ Sub S S6 ∧ m' = szW ws ∧ i' + szW ws ≤ 15 ∧ ∀ w ∈ ws, w.fit := by
          intro _ _
          refine ⟨szW us, by rw [szW_app, hu]; exact Nat.lt_add_of_pos_right y.sz_pos, us, i + 1, _, _, rfl, a6, s6, rfl, ?_, hfr⟩
          have := y.sz_pos
          simp only [W.sz] at hi
          omega
        have twos : ∀ (y1 y2 : T), y.sz = y1.sz + y2.sz + 1 → y1.fit → y2.fit → ∀ S7, S7[k]? = some (.lst (us.map W.e ++ [.tup [.int 2, y1.e], .tup [.int 2, y2.e]])) → Sub S S7 → ∃ m', m' < szW (us ++ [W.sub y]) ∧ ∃ (ws : List W) (i' : Nat) (x4 x5 : Option D), [some (.int 1), some (someD t), some (.ref k), some (.int (i + 1)), some (.int 2), some y.e] = [some (.int 1), some (someD t), some (.ref k), some (.int i'), x4, x5] ∧ S7[k]? = some (.lst (ws.map W.e)) ∧ Sub S S7 ∧ m' = szW ws ∧ i' + szW ws ≤ 15 ∧ ∀ w ∈ ws, w.fit := by
          intro y1 y2 hy f1 f2 S7 a7 s7'
          have hz : szW (us ++ [.sub y1, .sub y2]) = szW us + (y1.sz + y2.sz) := by rw [szW_app]; rfl
          simp only [W.sz] at hi
          refine ⟨szW (us ++ [.sub y1, .sub y2]), by rw [hz, szW_app, hu]; simp only [W.sz]; omega, us ++ [.sub y1, .sub y2], i + 1, _, _, rfl, ?_, s7', rfl, by rw [hz]; omega, ?_⟩
          · rw [a7, List.map_append]; rfl
          · intro w hw
            rcases List.mem_append.mp hw with h | h
            · exact hfr w h
            · rcases List.mem_cons.mp h with h | h
              · rw [h]; exact f1
              · rw [List.mem_singleton.mp h]; exact f2
        cases y with
        | less a b c =>
          simp only [T.e] at *
          repeat array_get_dec
          exact leafs (b := true) rfl
        | rest a b c d =>
          simp only [T.e] at *
          repeat array_get_dec
          exact leafs (b := true) rfl
        | an y1 y2 =>
          simp only [T.e] at *
          repeat array_get_dec
          intro k7 S7 s7 h7 a7
          repeat array_get_dec
          refine m_ext (s7 _ _ a6) a7 (fun z => (ne_of_some a6 h7) z.symm) (small_len (by simp; omega)) ?_
          repeat array_get_dec
          exact twos y1 y2 rfl hfu.1 hfu.2 _ (get_set (s7 _ _ a6)) ((s6.trans s7).set nk _)
        | orr y1 y2 =>
          simp only [T.e] at *
          repeat array_get_dec
          intro k7 S7 s7 h7 a7
          repeat array_get_dec
          refine m_ext (s7 _ _ a6) a7 (fun z => (ne_of_some a6 h7) z.symm) (small_len (by simp; omega)) ?_
          repeat array_get_dec
          exact twos y1 y2 rfl hfu.1 hfu.2 _ (get_set (s7 _ _ a6)) ((s6.trans s7).set nk _)
  · rw [show szW [W.top t] = t.sz + 1 from rfl]; omega
  · intro w hw
    rw [List.mem_singleton.mp hw]
    exact hf
theorem c8 {t : T} (hn : 6 ≤ n) (hf : t.fit) (hs : t.sz ≤ 14) : Gv ((p.G n).call 8 [.int 1, someD t] S) S (.bl true) := by
  refine c_of d8 rfl (by omega) rfl fun m e => ?_
  unfold d8
  repeat array_get_dec
  refine (c4 (by omega)).use fun S1 s1 => ?_
  repeat array_get_dec
  exact (c7 (by omega) hf hs).use fun S2 s2 => ⟨rfl, s1.trans s2⟩
theorem c9 {t : T} (hn : 7 ≤ n) (hf : t.fit) (hs : t.sz ≤ 14) : Gv ((p.G n).call 9 [.int 1, someD t] S) S .non := by
  refine c_of d9 rfl (by omega) rfl fun m e => ?_
  unfold d9
  repeat array_get_dec
  refine (c8 (by omega) hf hs).use fun S1 s1 => ?_
  repeat array_get_dec
  exact ⟨rfl, s1⟩
theorem c10 : ∀ (t : T) (n : Nat) (S : Sto), t.h ≤ n → Gv ((p.G n).call 10 [t.e] S) S (.bl true) := by
  intro t
  induction t with
  | less a b c =>
    intro n S hn
    simp only [T.h, T.e] at *
    refine c_of d10 rfl (by omega) rfl fun m e => ?_
    unfold d10
    repeat array_get_dec
    exact ⟨rfl, Sub.refl _⟩
  | rest a b c d =>
    intro n S hn
    simp only [T.h, T.e] at *
    refine c_of d10 rfl (by omega) rfl fun m e => ?_
    unfold d10
    repeat array_get_dec
    exact ⟨rfl, Sub.refl _⟩
  | an x y ihx ihy =>
    intro n S hn
    simp only [T.h, T.e] at *
    refine c_of d10 rfl (by omega) rfl fun m e => ?_
    unfold d10
    repeat array_get_dec
    refine wp_lcN (fun _ => .bl true) stands_nil ?_ (fun z hz S3 s3 => ?_) fun k S3 s3 hk a3 => ?_
    · exact Nat.le_of_ble_eq_true rfl
    · have hz : z = x.e ∨ z = y.e := by simpa using hz
      rcases hz with rfl | rfl
      · refine ⟨_, rfl, ?_⟩
        repeat array_get_dec
        exact (ihx m _ (by omega)).use fun S4 s4 => ⟨rfl, s4⟩
      · refine ⟨_, rfl, ?_⟩
        repeat array_get_dec
        exact (ihy m _ (by omega)).use fun S4 s4 => ⟨rfl, s4⟩
    · repeat array_get_dec
      exact wp_all a3 rfl ⟨rfl, s3⟩
  | orr x y ihx ihy =>
    intro n S hn
    simp only [T.h, T.e] at *
    refine c_of d10 rfl (by omega) rfl fun m e => ?_
    unfold d10
    repeat array_get_dec
    refine wp_lcN (fun _ => .bl true) stands_nil ?_ (fun z hz S3 s3 => ?_) fun k S3 s3 hk a3 => ?_
    · exact Nat.le_of_ble_eq_true rfl
    · have hz : z = x.e ∨ z = y.e := by simpa using hz
      rcases hz with rfl | rfl
      · refine ⟨_, rfl, ?_⟩
        repeat array_get_dec
        exact (ihx m _ (by omega)).use fun S4 s4 => ⟨rfl, s4⟩
      · refine ⟨_, rfl, ?_⟩
        repeat array_get_dec
        exact (ihy m _ (by omega)).use fun S4 s4 => ⟨rfl, s4⟩
    · repeat array_get_dec
      exact wp_all a3 rfl ⟨rfl, s3⟩
theorem c11 {x : Int} (hn : 3 ≤ n) (hx : 0 ≤ x ∧ x ≤ 1000000000000000000000000000000) : Gv ((p.G n).call 11 [.int 1, .tup [.int x]] S) S (.bl true) := by
  refine c_of d11 rfl (by omega) rfl fun m e => ?_
  unfold d11
  repeat array_get_dec
  refine (c0 (by omega)).use fun S1 s1 => ?_
  repeat array_get_dec
  refine wp_lcN (fun _ => .bl true) stands_nil ?_ (fun z hz S3 s3 => ?_) fun k S3 s3 hk a3 => ?_
  · exact Nat.le_of_ble_eq_true rfl
  · obtain rfl : z = .int x := by simpa using hz
    refine ⟨_, rfl, ?_⟩
    repeat array_get_dec
    exact (c2 (by omega)).use fun S4 s4 => ⟨by rw [decide_eq_true hx], s4⟩
  · repeat array_get_dec
    exact wp_all a3 rfl ⟨rfl, s1.trans s3⟩
theorem c12 {x : Int} (hn : 4 ≤ n) (hx : 0 ≤ x ∧ x ≤ 1000000000000000000000000000000) : Gv ((p.G n).call 12 [.int 1, .tup [.int x]] S) S .non := by
  refine c_of d12 rfl (by omega) rfl fun m e => ?_
  unfold d12
  repeat array_get_dec
  refine (c11 (by omega) hx).use fun S1 s1 => ?_
  repeat array_get_dec
  exact ⟨rfl, s1⟩
theorem c13_1 {a x : Int} (hn : 1 ≤ n) (ha : -(2 ^ 64) < a ∧ a < 2 ^ 64) : Gv ((p.G n).call 13 [.tup [.int a], .tup [.int x]] S) S (.int (a * x)) := by
  refine c_of d13 rfl (by omega) rfl fun m e => ?_
  unfold d13
  repeat array_get_dec
  refine wp_lcN (fun _ => .int (a * x)) stands_nil ?_ (fun z hz S3 s3 => ?_) fun k S3 s3 hk a3 => ?_
  · exact Nat.le_of_ble_eq_true rfl
  · obtain rfl : z = .tup [.int a, .int x] := by simpa using hz
    refine ⟨_, rfl, ?_⟩
    repeat array_get_dec
    exact ⟨rfl, Sub.refl _⟩
  · repeat array_get_dec
    refine wp_sum a3 rfl ⟨?_, s3⟩
    congr 1
    simp
theorem c13_2 {a b x y : Int} (hn : 1 ≤ n) (ha : -(2 ^ 64) < a ∧ a < 2 ^ 64) (hb : -(2 ^ 64) < b ∧ b < 2 ^ 64) : Gv ((p.G n).call 13 [.tup [.int a, .int b], .tup [.int x, .int y]] S) S (.int (a * x + b * y)) := by
  refine c_of d13 rfl (by omega) rfl fun m e => ?_
  unfold d13
  repeat array_get_dec
  refine wp_lcN (fun d => match d with | .tup [.int i, .int j] => .int (i * j) | _ => .non) stands_nil ?_ (fun z hz S3 s3 => ?_) fun k S3 s3 hk a3 => ?_
  · exact Nat.le_of_ble_eq_true rfl
  · have hz : z = .tup [.int a, .int x] ∨ z = .tup [.int b, .int y] := by simpa using hz
    rcases hz with rfl | rfl
    · refine ⟨_, rfl, ?_⟩
      repeat array_get_dec
      exact ⟨rfl, Sub.refl _⟩
    · refine ⟨_, rfl, ?_⟩
      repeat array_get_dec
      exact ⟨rfl, Sub.refl _⟩
  · repeat array_get_dec
    refine wp_sum a3 rfl ⟨?_, s3⟩
    congr 1
    simp
theorem c14 : ∀ (t : T) (n : Nat) (S : Sto), t.h ≤ n → Gv ((p.G n).call 14 [t.e, .bl false] S) S t.e := by
  intro t
  induction t with
  | less a b c =>
    intro n S hn
    simp only [T.h, T.e] at *
    refine c_of d14 rfl (by omega) rfl fun m e => ?_
    unfold d14
    repeat array_get_dec
    exact ⟨rfl, Sub.refl _⟩
  | rest a b c d =>
    intro n S hn
    simp only [T.h, T.e] at *
    refine c_of d14 rfl (by omega) rfl fun m e => ?_
    unfold d14
    repeat array_get_dec
    exact ⟨rfl, Sub.refl _⟩
  | an x y ihx ihy =>
    intro n S hn
    simp only [T.h, T.e] at *
    refine c_of d14 rfl (by omega) rfl fun m e => ?_
    unfold d14
    repeat array_get_dec
    refine wp_lcN (fun d => d) stands_nil ?_ (fun z hz S3 s3 => ?_) fun k S3 s3 hk a3 => ?_
    · exact Nat.le_of_ble_eq_true rfl
    · have hz : z = x.e ∨ z = y.e := by simpa using hz
      rcases hz with rfl | rfl
      · refine ⟨_, rfl, ?_⟩
        repeat array_get_dec
        exact (ihx m _ (by omega)).use fun S4 s4 => ⟨rfl, s4⟩
      · refine ⟨_, rfl, ?_⟩
        repeat array_get_dec
        exact (ihy m _ (by omega)).use fun S4 s4 => ⟨rfl, s4⟩
    · refine ⟨_, itemsOf_ref a3, ?_⟩
      repeat array_get_dec
      exact ⟨rfl, s3⟩
  | orr x y ihx ihy =>
    intro n S hn
    simp only [T.h, T.e] at *
    refine c_of d14 rfl (by omega) rfl fun m e => ?_
    unfold d14
    repeat array_get_dec
    refine wp_lcN (fun d => d) stands_nil ?_ (fun z hz S3 s3 => ?_) fun k S3 s3 hk a3 => ?_
    · exact Nat.le_of_ble_eq_true rfl
    · have hz : z = x.e ∨ z = y.e := by simpa using hz
      rcases hz with rfl | rfl
      · refine ⟨_, rfl, ?_⟩
        repeat array_get_dec
        exact (ihx m _ (by omega)).use fun S4 s4 => ⟨rfl, s4⟩
      · refine ⟨_, rfl, ?_⟩
        repeat array_get_dec
        exact (ihy m _ (by omega)).use fun S4 s4 => ⟨rfl, s4⟩
    · refine ⟨_, itemsOf_ref a3, ?_⟩
      repeat array_get_dec
      exact ⟨rfl, s3⟩
end
end K89
set_option Elab.async false
set_option linter.all false
set_option maxRecDepth 100000
set_option maxHeartbeats 1000000
namespace K89
open PySem PySem.Spec PyProof.Rows L2 Py
/-- a call gives a list anew, all that stood stands -/
def GvL (r : Res D) (S : Sto) (ds : List D) : Prop := wp r (fun d S' => ∃ k, d = .ref k ∧ Sub S S' ∧ S[k]? = none ∧ S'[k]? = some (.lst ds)) noX
theorem GvL.use {r : Res D} {S : Sto} {ds : List D} {Q : D → Sto → Prop} {X : XP} (h : GvL r S ds) (q : ∀ k S', Sub S S' → S[k]? = none → S'[k]? = some (.lst ds) → Q (.ref k) S') : wp r Q X :=
  wp_then h fun b S' z => by obtain ⟨k, rfl, z1, z2, z3⟩ := z; exact q k S' z1 z2 z3
/-- the least number that all of some divide -/
def lcmL (is : List Int) : Nat := is.foldl (fun f i => Nat.lcm f i.natAbs) 1
/-- the last factor -/
def T.b : T → Int
  | .less _ b _ => b
  | .rest _ b _ _ => b
  | _ => 0
def T.is_rest : T → Bool
  | .rest _ _ _ _ => true
  | _ => false
def T.dv : T → Int
  | .rest _ _ _ d => d
  | _ => 0
def lastD : D → Int
  | .tup (_ :: .tup [_, .int b] :: _) => b
  | _ => 0
def dvD : D → Int
  | .tup [_, _, _, .int d] => d
  | _ => 0
def isRestD : D → Bool
  | .tup [_, _, _, _] => true
  | _ => false
def times (span b : Int) : Int := if b = 0 then 1 else span / (b.natAbs : Int)
def sgn (span b : Int) : Int := if b = 0 then 0 else if b * times span b > 0 then 1 else -1
def T.scale (span : Int) : T → T
  | .less a b c => .less (a * times span b) (sgn span b) (c * times span b)
  | .rest a b c d => .rest (a * times span b) (sgn span b) (c * times span b) (d * times span b)
  | .an x y => .an (x.scale span) (y.scale span)
  | .orr x y => .orr (x.scale span) (y.scale span)
theorem T.lv_leaf : ∀ (t l : T), l ∈ t.lv → l.leaf = true
  | .less _ _ _, l, h => by rw [List.mem_singleton.mp h]; rfl
  | .rest _ _ _ _, l, h => by rw [List.mem_singleton.mp h]; rfl
  | .an x y, l, h => by
    rcases List.mem_append.mp h with h | h
    · exact T.lv_leaf x l h
    · exact T.lv_leaf y l h
  | .orr x y, l, h => by
    rcases List.mem_append.mp h with h | h
    · exact T.lv_leaf x l h
    · exact T.lv_leaf y l h
theorem gcd_fmod (i j : Int) : Int.gcd j (i.fmod j) = Int.gcd i j := by
  rw [Int.fmod_def, Int.gcd_comm i j, show i - j * i.fdiv j = i + j * (-(i.fdiv j)) by rw [Int.mul_neg]; omega]
  simp
theorem fmod_lt (i : Int) {j : Int} (h : j ≠ 0) : (i.fmod j).natAbs < j.natAbs := by
  rw [Int.fmod_eq_emod]
  have h1 := Int.emod_nonneg i h
  have h2 := Int.emod_lt i h
  split
  · omega
  · rename_i hx
    have : i % j ≠ 0 := fun z => hx (.inr (Int.dvd_of_emod_eq_zero z))
    omega
theorem lcm_step (f : Nat) (i : Int) : (f : Int) * (i.natAbs : Int) / (Int.gcd f i : Int) = (Nat.lcm f i.natAbs : Nat) := by
  rw [Int.gcd_eq_natAbs_gcd_natAbs, Nat.lcm]
  simp
theorem lcmL_snoc (l : List Int) (i : Int) : lcmL (l ++ [i]) = Nat.lcm (lcmL l) i.natAbs := by unfold lcmL; simp
/-- a comprehension without a test: what each item gives -/
theorem wp_lcR {G : Glob} {e : Ex} {tg : Tg} {own : List Nat} {E : Py.Env} {g : List (Nat × List D)} {S : Sto} {Q : D → Sto → Prop} {X : XP} (ps : List (D × D)) {xs : List D} (hp : xs = ps.map (·.1))
    (hg : Stands g S) (hs : ps.length ≤ sizeLine)
    (hx : ∀ q ∈ ps, ∀ S1, Sub S S1 → ∃ E1, tg.put q.1 (wipeE E own) = some E1 ∧ wp (e.ev G E1 S1) (fun d S2 => d = q.2 ∧ Sub S1 S2) noX)
    (q : ∀ (k : Nat) (S' : Sto), Sub S S' → S[k]? = none → S'[k]? = some (.lst (ps.map (·.2))) → Q (.ref k) S') :
    wp (lcGo S.length g (fun x => tg.put x (wipeE E own)) (fun E S => Eo.no.tv G E S) (fun E S => e.ev G E S) xs (S ++ [.lst []])) Q X := by
  subst hp
  have nk : S[S.length]? = none := List.getElem?_eq_none (Nat.le_refl _)
  refine wp_lcI (fun done acc S1 => ∃ l1 l2, ps = l1 ++ l2 ∧ done = l1.map (·.1) ∧ acc = l1.map (·.2) ∧ Sub S S1) (by simpa using hs) (fun S1 s1 => ⟨[], ps, rfl, rfl, rfl, s1⟩) ?_ ?_
  · rintro done x rest hd acc S1 ⟨l1, l2, hl, rfl, rfl, s1⟩ a1
    refine ⟨fun z hz => s1 _ _ (hg z hz), ?_⟩
    have e2 : l2.map (·.1) = x :: rest := by
      rw [hl, List.map_append] at hd
      exact List.append_cancel_left hd
    obtain ⟨y, l3, rfl, rfl, _⟩ := List.map_eq_cons_iff.mp e2
    obtain ⟨E1, h1, h2⟩ := hx y (by rw [hl]; simp) S1 s1
    refine ⟨E1, h1, ?_⟩
    simp only [Eo.tv, wp_ok, if_true]
    refine wp_then h2 fun d S2 z => ?_
    obtain ⟨rfl, s2⟩ := z
    exact ⟨s2 _ _ a1, l1 ++ [y], l3, by rw [hl]; simp, by simp, by simp, (s1.trans s2).set nk _⟩
  · rintro acc S1 a1 ⟨l1, l2, hl, h1, rfl, s1⟩
    refine ⟨fun z hz => s1 _ _ (hg z hz), q _ _ s1 nk ?_⟩
    have : l2 = [] := by
      have := congrArg List.length h1
      rw [hl] at this
      simp at this
      exact this
    subst this
    rw [List.append_nil] at hl
    rw [a1, hl]
local macro_rules | `(tactic| array_get_dec) => `(tactic| first
  | with_reducible refine s_cons ?_
  | with_reducible refine s_nil ?_
  | with_reducible refine s_cnd ?_
  | with_reducible refine s_ret ?_
  | (with_reducible refine w_var ?_; refine ⟨_, rfl, ?_⟩)
  | with_reducible refine w_int ?_
  | with_reducible refine w_str ?_
  | with_reducible refine w_bl ?_
  | with_reducible refine w_non ?_
  | with_reducible refine a_cons ?_
  | with_reducible refine a_nil ?_
  | with_reducible refine w_call ?_
  | with_reducible refine t_call ?_
  | with_reducible refine w_tup ?_
  | with_reducible refine w_cmp ?_
  | with_reducible refine t_cmp ?_
  | with_reducible refine w_ix ?_
  | with_reducible refine w_bin ?_
  | with_reducible refine w_isi ?_
  | with_reducible refine t_isi ?_
  | with_reducible refine w_nt ?_
  | with_reducible refine t_nt ?_
  | with_reducible refine w_con ?_
  | with_reducible refine t_con ?_
  | with_reducible refine w_dis ?_
  | with_reducible refine t_dis ?_
  | with_reducible refine w_chn ?_
  | with_reducible refine w_ife ?_
  | with_reducible refine w_bi ?_
  | with_reducible refine t_bi ?_
  | with_reducible refine w_neg ?_
  | with_reducible refine w_sl ?_
  | with_reducible refine o_no ?_
  | with_reducible refine o_yes ?_
  | with_reducible refine s_set ?_
  | with_reducible refine s_par ?_
  | with_reducible refine s_ex ?_
  | with_reducible refine s_rse ?_
  | with_reducible refine s_rep ?_
  | with_reducible refine s_whl ?_
  | with_reducible refine s_brk ?_
  | with_reducible refine s_sub ?_
  | with_reducible refine w_lst ?_
  | with_reducible refine w_lc ?_
  | with_reducible refine w_mth ?_
  | with_reducible refine i_seq ?_
  | with_reducible refine i_r1 ?_
  | with_reducible refine i_r2 ?_
  | with_reducible refine i_zip ?_
  | with_reducible refine ot_no ?_
  | with_reducible refine ot_yes ?_
  | (with_reducible refine t_var ?_; refine ⟨_, _, rfl, rfl, ?_⟩)
  | with_reducible refine w_isN ?_
  | with_reducible refine t_isN ?_
  | with_reducible refine t_isB ?_
  | with_reducible refine t_isx ?_
  | with_reducible refine t_ix ?_
  | with_reducible refine w_fld ?_
  | with_reducible refine w_heard ?_
  | with_reducible refine w_lrange ?_
  | with_reducible refine a_star ?_
  | with_reducible refine w_glb con_0 ?_
  | with_reducible refine w_glb con_1 ?_
  | with_reducible refine w_glb con_2 ?_
  | with_reducible refine w_glb con_3 ?_
  | with_reducible refine w_glb con_4 ?_
  | with_reducible refine w_glb con_5 ?_
  | with_reducible refine w_glb con_6 ?_
  | with_reducible refine w_glb con_7 ?_
  | with_reducible refine w_glb con_8 ?_
  | with_reducible refine w_glb con_9 ?_
  | with_reducible refine w_glb con_10 ?_
  | with_reducible refine w_glb con_11 ?_
  | with_reducible refine w_glb con_12 ?_
  | with_reducible refine w_glb con_13 ?_
  | with_reducible refine w_glb con_14 ?_
  | with_reducible refine w_glb con_15 ?_
  | with_reducible refine w_glb con_16 ?_
  | with_reducible refine w_glb con_17 ?_
  | with_reducible refine w_glb con_18 ?_
  | with_reducible refine w_glb con_19 ?_
  | with_reducible refine w_glb con_20 ?_
  | with_reducible refine w_glb con_21 ?_
  | with_reducible refine w_glb con_22 ?_
  | with_reducible refine w_glb con_23 ?_
  | with_reducible refine r_cut1 ?_
  | with_reducible refine r_cut3 ?_
  | with_reducible refine r_cutL ?_
  | with_reducible refine r_cutL1 ?_
  | with_reducible refine b_tup1 ?_
  | with_reducible refine r_abs ?_
  | with_reducible refine r_max ?_
  | with_reducible refine r_min ?_
  | with_reducible refine r_intI ?_
  | with_reducible refine r_intB ?_
  | with_reducible refine r_lenT ?_
  | with_reducible refine b_add ?_
  | with_reducible refine b_sub ?_
  | with_reducible refine b_mulR (by omega) ?_
  | with_reducible refine b_mulL (by omega) ?_
  | with_reducible refine b_div64 (by omega) ?_
  | with_reducible refine b_mod (by omega) ?_
  | with_reducible refine ⟨_, ix0, ?_⟩
  | with_reducible refine ⟨_, ix1, ?_⟩
  | with_reducible refine ⟨_, ix2, ?_⟩
  | with_reducible refine ⟨_, ix3, ?_⟩
  | with_reducible refine ⟨_, ixL, ?_⟩
  | refine ⟨Nat.le_of_ble_eq_true rfl, ?_⟩
  | refine ⟨fun _ => ?_, fun z => absurd z (by decide +kernel)⟩
  | refine ⟨fun z => absurd z (by decide +kernel), fun _ => ?_⟩
  | refine ⟨fun _ => ?_, fun z => Bool.noConfusion (show true = false from z)⟩
  | refine ⟨fun _ => ?_, fun z => Bool.noConfusion (show false = true from z)⟩
  | refine ⟨fun z => Bool.noConfusion (show true = false from z), fun _ => ?_⟩
  | refine ⟨fun z => Bool.noConfusion (show false = true from z), fun _ => ?_⟩
  | refine ⟨fun _ => ?_, fun z => absurd z (by simp only [Bool.not_eq_true', Bool.not_eq_false', decide_eq_true_eq, decide_eq_false_iff_not]; omega)⟩
  | refine ⟨fun z => absurd z (by simp only [Bool.not_eq_true', Bool.not_eq_false', decide_eq_true_eq, decide_eq_false_iff_not]; omega), fun _ => ?_⟩
  | refine ⟨_, rfl, ?_⟩)

section
variable {n : Nat} {S : Sto}
theorem c15 {i j : Int} (hn : 1 ≤ n) : Gv ((p.G n).call 15 [.int i, .int j] S) S (.int (Int.gcd i j)) := by
  refine c_of d15 rfl (by omega) rfl fun m e => ?_
  unfold d15
  repeat array_get_dec
  refine wf_while (fun w E S2 => ∃ a b : Int, E = [some (.int a), some (.int b)] ∧ Sub S S2 ∧ w = b.natAbs ∧ Int.gcd a b = Int.gcd i j) ?_ (m := j.natAbs) ⟨i, j, rfl, Sub.refl _, rfl, rfl⟩
  rintro w E S2 ⟨a, b, rfl, s2, rfl, g⟩
  repeat array_get_dec
  refine ⟨fun z => ?_, fun z => ?_⟩
  · have hb : b ≠ 0 := by simpa using z
    repeat array_get_dec
    refine b_modN hb ?_
    exact ⟨_, fmod_lt a hb, b, a.fmod b, rfl, s2, rfl, by rw [gcd_fmod, g]⟩
  · have hb : b = 0 := by simpa using z
    subst hb
    repeat array_get_dec
    refine ⟨?_, s2⟩
    congr 1
    rw [← g]
    simp
theorem c16 {k : Nat} {is : List Int} (hn : 2 ≤ n) (a0 : S[k]? = some (.lst (is.map D.int))) (hi : ∀ i ∈ is, i ≠ 0 ∧ i.natAbs < 2 ^ 63) : Gv ((p.G n).call 16 [.ref k] S) S (.int (lcmL is)) := by
  refine c_of d16 rfl (by omega) rfl fun m e => ?_
  unfold d16
  repeat array_get_dec
  refine seqW_ref0 a0 ?_
  refine wf_for (fun done E S2 => ∃ (ds : List Int) (x : Option D), done = ds.map D.int ∧ E = [some (.ref k), some (.int (lcmL ds)), x] ∧ Sub S S2) ⟨[], none, rfl, rfl, Sub.refl _⟩ ?_ ?_
  · rintro done x rest hd E1 S1 ⟨ds, y, rfl, rfl, s1⟩
    refine ⟨stands_one (s1 _ _ a0), ?_⟩
    obtain ⟨l1, l2, rfl, h1, h2⟩ := List.map_eq_append_iff.mp hd
    obtain ⟨i, l3, rfl, rfl, h3⟩ := List.map_eq_cons_iff.mp h2
    have hii := hi i (by simp)
    have e1 : l1 = ds := by
      have := congrArg (List.map (fun d => match d with | D.int i => i | _ => 0)) h1
      simpa [List.map_map, Function.comp_def] using this
    subst e1
    refine ⟨_, rfl, ?_⟩
    repeat array_get_dec
    refine (c15 (by omega)).use fun S2 s2 => ?_
    have hg : 0 < Int.gcd (lcmL l1) i := Nat.pos_of_ne_zero fun z => hii.1 (Int.gcd_eq_zero_iff.mp z).2
    have hg2 : Int.gcd (lcmL l1) i ≤ i.natAbs := Int.gcd_le_natAbs_right _ hii.1
    refine b_div64 (by omega) ?_
    repeat array_get_dec
    refine ⟨l1 ++ [i], some (.int i), by simp, ?_, s1.trans s2⟩
    rw [lcmL_snoc, lcm_step]
    rfl
  · rintro E1 S1 ⟨ds, y, hd, rfl, s1⟩
    refine ⟨stands_one (s1 _ _ a0), ?_⟩
    have e1 : is = ds := by
      have := congrArg (List.map (fun d => match d with | D.int i => i | _ => 0)) hd
      simpa [List.map_map, Function.comp_def] using this
    subst e1
    repeat array_get_dec
    exact ⟨rfl, s1⟩
theorem c23 {t : T} (hn : 1 ≤ n) (hl : t.leaf = true) : Gv ((p.G n).call 23 [t.e] S) S t.e := by
  cases t with
  | less a b c =>
    refine c_of d23 rfl (by omega) rfl fun m e => ?_
    simp only [T.e]
    unfold d23
    repeat array_get_dec
    exact ⟨rfl, Sub.refl _⟩
  | rest a b c d =>
    refine c_of d23 rfl (by omega) rfl fun m e => ?_
    simp only [T.e]
    unfold d23
    repeat array_get_dec
    exact ⟨rfl, Sub.refl _⟩
  | an x y => cases hl
  | orr x y => cases hl
theorem c24 : ∀ (t : T) (n : Nat) (S : Sto), t.h + 1 ≤ n → Gv ((p.G n).call 24 [t.e] S) S t.e := by
  intro t
  induction t with
  | less a b c =>
    intro n S hn
    simp only [T.h, T.e] at *
    refine c_of d24 rfl (by omega) rfl fun m e => ?_
    unfold d24
    repeat array_get_dec
    exact (c23 (t := .less a b c) (by omega) rfl).use fun S4 s4 => ⟨rfl, s4⟩
  | rest a b c d =>
    intro n S hn
    simp only [T.h, T.e] at *
    refine c_of d24 rfl (by omega) rfl fun m e => ?_
    unfold d24
    repeat array_get_dec
    exact (c23 (t := .rest a b c d) (by omega) rfl).use fun S4 s4 => ⟨rfl, s4⟩
  | an x y ihx ihy =>
    intro n S hn
    simp only [T.h, T.e] at *
    refine c_of d24 rfl (by omega) rfl fun m e => ?_
    unfold d24
    repeat array_get_dec
    refine (ihx m _ (by omega)).use fun S1 s1 => ?_
    repeat array_get_dec
    refine (ihy m _ (by omega)).use fun S2 s2 => ?_
    repeat array_get_dec
    exact ⟨rfl, s1.trans s2⟩
  | orr x y ihx ihy =>
    intro n S hn
    simp only [T.h, T.e] at *
    refine c_of d24 rfl (by omega) rfl fun m e => ?_
    unfold d24
    repeat array_get_dec
    refine (ihx m _ (by omega)).use fun S1 s1 => ?_
    repeat array_get_dec
    refine (ihy m _ (by omega)).use fun S2 s2 => ?_
    repeat array_get_dec
    exact ⟨rfl, s1.trans s2⟩
theorem lv_len : ∀ t : T, t.lv.length ≤ t.sz
  | .less _ _ _ => Nat.le_refl _
  | .rest _ _ _ _ => Nat.le_refl _
  | .an x y => by have := lv_len x; have := lv_len y; simp only [T.lv, T.sz, List.length_append]; omega
  | .orr x y => by have := lv_len x; have := lv_len y; simp only [T.lv, T.sz, List.length_append]; omega
theorem c25 : ∀ (t : T) (n : Nat) (S : Sto), t.h ≤ n → t.sz ≤ 1000 → GvL ((p.G n).call 25 [t.e] S) S (t.lv.map T.e) := by
  intro t
  induction t with
  | less a b c =>
    intro n S hn hz
    simp only [T.h, T.e] at *
    refine c_of d25 rfl (by omega) rfl fun m e => ?_
    unfold d25
    repeat array_get_dec
    intro k S1 s1 hk a1
    exact ⟨k, rfl, s1, hk, a1⟩
  | rest a b c d =>
    intro n S hn hz
    simp only [T.h, T.e] at *
    refine c_of d25 rfl (by omega) rfl fun m e => ?_
    unfold d25
    repeat array_get_dec
    intro k S1 s1 hk a1
    exact ⟨k, rfl, s1, hk, a1⟩
  | an x y ihx ihy =>
    intro n S hn hz
    simp only [T.h, T.sz, T.e] at *
    refine c_of d25 rfl (by omega) rfl fun m e => ?_
    unfold d25
    repeat array_get_dec
    intro k S1 s1 hk a1
    repeat array_get_dec
    have hlx := lv_len x
    have hly := lv_len y
    refine wf_for (fun done E S2 => ∃ (u : Option D) (acc : List D), E = [some (.tup [.str "and", x.e, y.e]), some (.ref k), u] ∧ S2[k]? = some (.lst acc) ∧ Sub S S2 ∧ (done = [] ∧ acc = [] ∨ done = [x.e] ∧ acc = x.lv.map T.e ∨ done = [x.e, y.e] ∧ acc = x.lv.map T.e ++ y.lv.map T.e)) ⟨none, [], rfl, a1, s1, .inl ⟨rfl, rfl⟩⟩ ?_ ?_
    · rintro done z rest hd E1 S2 ⟨u, acc, rfl, a2, s2, hc⟩
      refine ⟨stands_nil, ?_⟩
      rcases hc with ⟨rfl, rfl⟩ | ⟨rfl, rfl⟩ | ⟨rfl, rfl⟩
      · obtain rfl : x.e = z := (List.cons.inj hd).1
        refine ⟨_, rfl, ?_⟩
        repeat array_get_dec
        refine (ihx m _ (by omega) (by omega)).use fun k3 S3 s3 hk3 a3 => ?_
        repeat array_get_dec
        refine m_ext (s3 _ _ a2) a3 (fun z => (ne_of_some a2 hk3) z.symm) (small_len (by simp; omega)) ?_
        repeat array_get_dec
        exact ⟨_, _, rfl, get_set (s3 _ _ a2), (s2.trans s3).set hk _, .inr (.inl ⟨rfl, rfl⟩)⟩
      · obtain rfl : y.e = z := (List.cons.inj (List.cons.inj hd).2).1
        refine ⟨_, rfl, ?_⟩
        repeat array_get_dec
        refine (ihy m _ (by omega) (by omega)).use fun k3 S3 s3 hk3 a3 => ?_
        repeat array_get_dec
        refine m_ext (s3 _ _ a2) a3 (fun z => (ne_of_some a2 hk3) z.symm) (small_len (by simp; omega)) ?_
        repeat array_get_dec
        exact ⟨_, _, rfl, get_set (s3 _ _ a2), (s2.trans s3).set hk _, .inr (.inr ⟨rfl, rfl⟩)⟩
      · exfalso
        have := congrArg List.length hd
        simp at this
    · rintro E1 S2 ⟨u, acc, rfl, a2, s2, hc⟩
      refine ⟨stands_nil, ?_⟩
      rcases hc with ⟨h, _⟩ | ⟨h, _⟩ | ⟨_, rfl⟩
      · have := congrArg List.length h; simp at this
      · have := congrArg List.length h; simp at this
      · repeat array_get_dec
        exact ⟨s2, hk, by rw [a2, T.lv, List.map_append]⟩
  | orr x y ihx ihy =>
    intro n S hn hz
    simp only [T.h, T.sz, T.e] at *
    refine c_of d25 rfl (by omega) rfl fun m e => ?_
    unfold d25
    repeat array_get_dec
    intro k S1 s1 hk a1
    repeat array_get_dec
    have hlx := lv_len x
    have hly := lv_len y
    refine wf_for (fun done E S2 => ∃ (u : Option D) (acc : List D), E = [some (.tup [.str "or", x.e, y.e]), some (.ref k), u] ∧ S2[k]? = some (.lst acc) ∧ Sub S S2 ∧ (done = [] ∧ acc = [] ∨ done = [x.e] ∧ acc = x.lv.map T.e ∨ done = [x.e, y.e] ∧ acc = x.lv.map T.e ++ y.lv.map T.e)) ⟨none, [], rfl, a1, s1, .inl ⟨rfl, rfl⟩⟩ ?_ ?_
    · rintro done z rest hd E1 S2 ⟨u, acc, rfl, a2, s2, hc⟩
      refine ⟨stands_nil, ?_⟩
      rcases hc with ⟨rfl, rfl⟩ | ⟨rfl, rfl⟩ | ⟨rfl, rfl⟩
      · obtain rfl : x.e = z := (List.cons.inj hd).1
        refine ⟨_, rfl, ?_⟩
        repeat array_get_dec
        refine (ihx m _ (by omega) (by omega)).use fun k3 S3 s3 hk3 a3 => ?_
        repeat array_get_dec
        refine m_ext (s3 _ _ a2) a3 (fun z => (ne_of_some a2 hk3) z.symm) (small_len (by simp; omega)) ?_
        repeat array_get_dec
        exact ⟨_, _, rfl, get_set (s3 _ _ a2), (s2.trans s3).set hk _, .inr (.inl ⟨rfl, rfl⟩)⟩
      · obtain rfl : y.e = z := (List.cons.inj (List.cons.inj hd).2).1
        refine ⟨_, rfl, ?_⟩
        repeat array_get_dec
        refine (ihy m _ (by omega) (by omega)).use fun k3 S3 s3 hk3 a3 => ?_
        repeat array_get_dec
        refine m_ext (s3 _ _ a2) a3 (fun z => (ne_of_some a2 hk3) z.symm) (small_len (by simp; omega)) ?_
        repeat array_get_dec
        exact ⟨_, _, rfl, get_set (s3 _ _ a2), (s2.trans s3).set hk _, .inr (.inr ⟨rfl, rfl⟩)⟩
      · exfalso
        have := congrArg List.length hd
        simp at this
    · rintro E1 S2 ⟨u, acc, rfl, a2, s2, hc⟩
      refine ⟨stands_nil, ?_⟩
      rcases hc with ⟨h, _⟩ | ⟨h, _⟩ | ⟨_, rfl⟩
      · have := congrArg List.length h; simp at this
      · have := congrArg List.length h; simp at this
      · repeat array_get_dec
        exact ⟨s2, hk, by rw [a2, T.lv, List.map_append]⟩
theorem c26 {span : Int} (hsp : 0 < span ∧ span ≤ 1000) : ∀ (t : T) (n : Nat) (S : Sto), t.h ≤ n → t.fit → Gv ((p.G n).call 26 [t.e, .int span] S) S (t.scale span).e := by
  intro t
  induction t with
  | less a b c =>
    intro n S hn hf
    simp only [T.h, T.fit] at hn hf
    refine c_of d26 rfl (by omega) rfl fun m e => ?_
    rw [T.e]
    unfold d26
    by_cases hb : b = 0
    · subst hb
      repeat array_get_dec
      refine wp_lcN (fun d => match d with | .int i => .int (i * 1) | _ => .non) stands_nil ?_ (fun z hz S3 s3 => ?_) fun k S3 s3 hk a3 => ?_
      · exact Nat.le_of_ble_eq_true rfl
      · have hz : z = .int a ∨ z = .int 0 := by simpa using hz
        rcases hz with rfl | rfl
        · refine ⟨_, rfl, ?_⟩
          repeat array_get_dec
          exact ⟨rfl, Sub.refl _⟩
        · refine ⟨_, rfl, ?_⟩
          repeat array_get_dec
          exact ⟨rfl, Sub.refl _⟩
      · repeat array_get_dec
        refine wp_tupl a3 ?_
        dsimp only [List.map]
        repeat array_get_dec
        exact ⟨rfl, s3⟩
    · have h1 : 0 < (b.natAbs : Int) := by omega
      have t1 : times span b = span / (b.natAbs : Int) := by unfold times; rw [if_neg hb]
      have t2 : 0 ≤ span / (b.natAbs : Int) := Int.ediv_nonneg (by omega) (by omega)
      have t3 : span / (b.natAbs : Int) ≤ 1000 := Int.le_trans (Int.ediv_le_self _ (by omega)) (by omega)
      repeat array_get_dec
      generalize span / (b.natAbs : Int) = tm at t1 t2 t3
      refine wp_lcN (fun d => match d with | .int i => .int (i * tm) | _ => .non) stands_nil ?_ (fun z hz S3 s3 => ?_) fun k S3 s3 hk a3 => ?_
      · exact Nat.le_of_ble_eq_true rfl
      · have hz : z = .int a ∨ z = .int b := by simpa using hz
        rcases hz with rfl | rfl
        · refine ⟨_, rfl, ?_⟩
          repeat array_get_dec
          exact ⟨rfl, Sub.refl _⟩
        · refine ⟨_, rfl, ?_⟩
          repeat array_get_dec
          exact ⟨rfl, Sub.refl _⟩
      · repeat array_get_dec
        refine wp_tupl a3 ?_
        dsimp only [List.map]
        repeat array_get_dec
        refine ⟨fun z => ?_, fun z => ?_⟩
        · have z := of_decide_eq_true z
          repeat array_get_dec
          refine ⟨?_, s3⟩
          simp only [T.scale, T.e, sgn, if_neg hb, t1, if_pos z]
          rfl
        · have z := of_decide_eq_false z
          repeat array_get_dec
          refine ⟨?_, s3⟩
          simp only [T.scale, T.e, sgn, if_neg hb, t1, if_neg z]
          rfl
  | rest a b c d =>
    intro n S hn hf
    simp only [T.h, T.fit] at hn hf
    refine c_of d26 rfl (by omega) rfl fun m e => ?_
    rw [T.e]
    unfold d26
    by_cases hb : b = 0
    · subst hb
      repeat array_get_dec
      refine wp_lcN (fun d => match d with | .int i => .int (i * 1) | _ => .non) stands_nil ?_ (fun z hz S3 s3 => ?_) fun k S3 s3 hk a3 => ?_
      · exact Nat.le_of_ble_eq_true rfl
      · have hz : z = .int a ∨ z = .int 0 := by simpa using hz
        rcases hz with rfl | rfl
        · refine ⟨_, rfl, ?_⟩
          repeat array_get_dec
          exact ⟨rfl, Sub.refl _⟩
        · refine ⟨_, rfl, ?_⟩
          repeat array_get_dec
          exact ⟨rfl, Sub.refl _⟩
      · repeat array_get_dec
        refine wp_tupl a3 ?_
        dsimp only [List.map]
        repeat array_get_dec
        exact ⟨rfl, s3⟩
    · have h1 : 0 < (b.natAbs : Int) := by omega
      have t1 : times span b = span / (b.natAbs : Int) := by unfold times; rw [if_neg hb]
      have t2 : 0 ≤ span / (b.natAbs : Int) := Int.ediv_nonneg (by omega) (by omega)
      have t3 : span / (b.natAbs : Int) ≤ 1000 := Int.le_trans (Int.ediv_le_self _ (by omega)) (by omega)
      repeat array_get_dec
      generalize span / (b.natAbs : Int) = tm at t1 t2 t3
      refine wp_lcN (fun d => match d with | .int i => .int (i * tm) | _ => .non) stands_nil ?_ (fun z hz S3 s3 => ?_) fun k S3 s3 hk a3 => ?_
      · exact Nat.le_of_ble_eq_true rfl
      · have hz : z = .int a ∨ z = .int b := by simpa using hz
        rcases hz with rfl | rfl
        · refine ⟨_, rfl, ?_⟩
          repeat array_get_dec
          exact ⟨rfl, Sub.refl _⟩
        · refine ⟨_, rfl, ?_⟩
          repeat array_get_dec
          exact ⟨rfl, Sub.refl _⟩
      · repeat array_get_dec
        refine wp_tupl a3 ?_
        dsimp only [List.map]
        repeat array_get_dec
        refine ⟨fun z => ?_, fun z => ?_⟩
        · have z := of_decide_eq_true z
          repeat array_get_dec
          refine ⟨?_, s3⟩
          simp only [T.scale, T.e, sgn, if_neg hb, t1, if_pos z]
          rfl
        · have z := of_decide_eq_false z
          repeat array_get_dec
          refine ⟨?_, s3⟩
          simp only [T.scale, T.e, sgn, if_neg hb, t1, if_neg z]
          rfl
  | an x y ihx ihy =>
    intro n S hn hf
    simp only [T.h, T.fit] at hn hf
    refine c_of d26 rfl (by omega) rfl fun m e => ?_
    rw [T.e]
    unfold d26
    repeat array_get_dec
    refine wp_lcR [(x.e, (x.scale span).e), (y.e, (y.scale span).e)] rfl stands_nil ?_ (fun z hz S3 s3 => ?_) fun k S3 s3 hk a3 => ?_
    · exact Nat.le_of_ble_eq_true rfl
    · have hz : z = (x.e, (x.scale span).e) ∨ z = (y.e, (y.scale span).e) := by simpa using hz
      rcases hz with rfl | rfl
      · refine ⟨_, rfl, ?_⟩
        repeat array_get_dec
        exact (ihx m _ (by omega) hf.1).use fun S4 s4 => ⟨rfl, s4⟩
      · refine ⟨_, rfl, ?_⟩
        repeat array_get_dec
        exact (ihy m _ (by omega) hf.2).use fun S4 s4 => ⟨rfl, s4⟩
    · refine ⟨_, itemsOf_ref a3, ?_⟩
      repeat array_get_dec
      exact ⟨rfl, s3⟩
  | orr x y ihx ihy =>
    intro n S hn hf
    simp only [T.h, T.fit] at hn hf
    refine c_of d26 rfl (by omega) rfl fun m e => ?_
    rw [T.e]
    unfold d26
    repeat array_get_dec
    refine wp_lcR [(x.e, (x.scale span).e), (y.e, (y.scale span).e)] rfl stands_nil ?_ (fun z hz S3 s3 => ?_) fun k S3 s3 hk a3 => ?_
    · exact Nat.le_of_ble_eq_true rfl
    · have hz : z = (x.e, (x.scale span).e) ∨ z = (y.e, (y.scale span).e) := by simpa using hz
      rcases hz with rfl | rfl
      · refine ⟨_, rfl, ?_⟩
        repeat array_get_dec
        exact (ihx m _ (by omega) hf.1).use fun S4 s4 => ⟨rfl, s4⟩
      · refine ⟨_, rfl, ?_⟩
        repeat array_get_dec
        exact (ihy m _ (by omega) hf.2).use fun S4 s4 => ⟨rfl, s4⟩
    · refine ⟨_, itemsOf_ref a3, ?_⟩
      repeat array_get_dec
      exact ⟨rfl, s3⟩
end
end K89
set_option Elab.async false
set_option linter.all false
set_option maxRecDepth 100000
set_option maxHeartbeats 1000000
namespace K89
open PySem PySem.Spec PyProof.Rows L2 Py
/-- a comprehension over a list of leaves -/
theorem lastD_e {l : T} (h : l.leaf = true) : lastD l.e = l.b := by
  cases l <;> first | rfl | cases h
theorem dvD_e {l : T} (h : l.is_rest = true) : dvD l.e = l.dv := by
  cases l <;> first | rfl | cases h
theorem isRestD_e {l : T} (h : l.leaf = true) : isRestD l.e = l.is_rest := by
  cases l <;> first | rfl | cases h
/-- the last factors that aren't nought -/
def T.bs (t : T) : List Int := (t.lv.map T.b).filter (fun i => decide (i ≠ 0))
def T.span (t : T) : Nat := lcmL t.bs
def T.whole (span : Int) : T := .rest 0 1 0 span
/-- the body: scaled, a multiple of the span -/
def T.body (t : T) (span : Int) : T := .an (t.scale span) (.whole span)
theorem map_bs : ∀ {l : List T}, (∀ x ∈ l, x.leaf = true) → ((l.map T.e).filter (fun d => decide (lastD d ≠ 0))).map (fun d => D.int (lastD d)) = ((l.map T.b).filter (fun i => decide (i ≠ 0))).map D.int
  | [], _ => rfl
  | x :: l, h => by
    have hx := lastD_e (h x List.mem_cons_self)
    have ih := map_bs (l := l) fun y hy => h y (List.mem_cons_of_mem _ hy)
    simp only [List.map_cons, List.filter_cons, hx]
    split
    · simp only [List.map_cons, hx, ih]
    · exact ih
theorem lcmL_pos {l : List Int} (h : ∀ i ∈ l, i ≠ 0) : 0 < lcmL l := by
  have gen : ∀ (l : List Int) (f : Nat), (∀ i ∈ l, i ≠ 0) → 0 < f → 0 < l.foldl (fun f i => Nat.lcm f i.natAbs) f := by
    intro l
    induction l with
    | nil => intro f _ hf; exact hf
    | cons i l ih =>
      intro f h hf
      refine ih _ (fun j hj => h j (List.mem_cons_of_mem _ hj)) ?_
      have := h i List.mem_cons_self
      exact Nat.lcm_pos hf (by omega)
  exact gen l 1 h (by omega)
theorem T.scale_sz (span : Int) : ∀ t : T, (t.scale span).sz = t.sz
  | .less _ _ _ => rfl
  | .rest _ _ _ _ => rfl
  | .an x y => by simp only [T.scale, T.sz, T.scale_sz span x, T.scale_sz span y]
  | .orr x y => by simp only [T.scale, T.sz, T.scale_sz span x, T.scale_sz span y]
theorem T.scale_h (span : Int) : ∀ t : T, (t.scale span).h = t.h
  | .less _ _ _ => rfl
  | .rest _ _ _ _ => rfl
  | .an x y => by simp only [T.scale, T.h, T.scale_h span x, T.scale_h span y]
  | .orr x y => by simp only [T.scale, T.h, T.scale_h span x, T.scale_h span y]
theorem T.fit_lv : ∀ (t : T), t.fit → ∀ l ∈ t.lv, l.fit
  | .less _ _ _, h, l, hl => by rw [List.mem_singleton.mp hl]; exact h
  | .rest _ _ _ _, h, l, hl => by rw [List.mem_singleton.mp hl]; exact h
  | .an x y, h, l, hl => by
    rcases List.mem_append.mp hl with z | z
    · exact T.fit_lv x h.1 l z
    · exact T.fit_lv y h.2 l z
  | .orr x y, h, l, hl => by
    rcases List.mem_append.mp hl with z | z
    · exact T.fit_lv x h.1 l z
    · exact T.fit_lv y h.2 l z
theorem T.fit_b {l : T} (h : l.fit) : l.b.natAbs ≤ 9 := by
  cases l with
  | less a b c => have := h.2.1; simp only [T.b]; omega
  | rest a b c d => have := h.2.1; simp only [T.b]; omega
  | an x y => exact Nat.zero_le _
  | orr x y => exact Nat.zero_le _
/-- the terms that the last name must not be below -/
def lowOf : T → Option (Int × Int)
  | .less a b c => if b < 0 then some (a, -c) else none
  | _ => none
def lowsL (l : List T) : List (Int × Int) := (0, 0) :: l.filterMap lowOf
def T.lows (t : T) : List (Int × Int) := srtP (lowsL t.lv)
def T.step (t : T) : Nat := lcmL ((t.lv.filter T.is_rest).map T.dv)
theorem map_dvs : ∀ {l : List T}, (∀ x ∈ l, x.leaf = true) → ((l.map T.e).filter isRestD).map (fun d => D.int (dvD d)) = ((l.filter T.is_rest).map T.dv).map D.int
  | [], _ => rfl
  | x :: l, h => by
    have hx := isRestD_e (h x List.mem_cons_self)
    have ih := map_dvs (l := l) fun y hy => h y (List.mem_cons_of_mem _ hy)
    simp only [List.map_cons, List.filter_cons, hx]
    split
    · rename_i hr
      simp only [List.map_cons, dvD_e hr, ih]
    · exact ih
theorem srtD_pairs {ps : List (Int × Int)} (h : ps.length < 64) : Ns.srtD (ps.map Ns.pairD) = some ((srtP ps).map Ns.pairD) := by
  unfold Ns.srtD
  rw [if_pos (by simpa using h)]
  have e : ∀ l : List (Int × Int), (l.map Ns.pairD).mapM Ns.unD = some l := by
    intro l
    induction l with
    | nil => rfl
    | cons q l ih =>
      rw [List.map_cons, List.mapM_cons, ih]
      rfl
  rw [e]
  rfl
local macro_rules | `(tactic| array_get_dec) => `(tactic| first
  | with_reducible refine s_cons ?_
  | with_reducible refine s_nil ?_
  | with_reducible refine s_cnd ?_
  | with_reducible refine s_ret ?_
  | (with_reducible refine w_var ?_; refine ⟨_, rfl, ?_⟩)
  | with_reducible refine w_int ?_
  | with_reducible refine w_str ?_
  | with_reducible refine w_bl ?_
  | with_reducible refine w_non ?_
  | with_reducible refine a_cons ?_
  | with_reducible refine a_nil ?_
  | with_reducible refine w_call ?_
  | with_reducible refine t_call ?_
  | with_reducible refine w_tup ?_
  | with_reducible refine w_cmp ?_
  | with_reducible refine t_cmp ?_
  | with_reducible refine w_ix ?_
  | with_reducible refine w_bin ?_
  | with_reducible refine w_isi ?_
  | with_reducible refine t_isi ?_
  | with_reducible refine w_nt ?_
  | with_reducible refine t_nt ?_
  | with_reducible refine w_con ?_
  | with_reducible refine t_con ?_
  | with_reducible refine w_dis ?_
  | with_reducible refine t_dis ?_
  | with_reducible refine w_chn ?_
  | with_reducible refine w_ife ?_
  | with_reducible refine w_bi ?_
  | with_reducible refine t_bi ?_
  | with_reducible refine w_neg ?_
  | with_reducible refine w_sl ?_
  | with_reducible refine o_no ?_
  | with_reducible refine o_yes ?_
  | with_reducible refine s_set ?_
  | with_reducible refine s_par ?_
  | with_reducible refine s_ex ?_
  | with_reducible refine s_rse ?_
  | with_reducible refine s_rep ?_
  | with_reducible refine s_whl ?_
  | with_reducible refine s_brk ?_
  | with_reducible refine s_sub ?_
  | with_reducible refine w_lst ?_
  | with_reducible refine w_lc ?_
  | with_reducible refine w_mth ?_
  | with_reducible refine i_seq ?_
  | with_reducible refine i_r1 ?_
  | with_reducible refine i_r2 ?_
  | with_reducible refine i_zip ?_
  | with_reducible refine ot_no ?_
  | with_reducible refine ot_yes ?_
  | (with_reducible refine t_var ?_; refine ⟨_, _, rfl, rfl, ?_⟩)
  | with_reducible refine w_isN ?_
  | with_reducible refine t_isN ?_
  | with_reducible refine t_isB ?_
  | with_reducible refine t_isx ?_
  | with_reducible refine t_ix ?_
  | with_reducible refine w_fld ?_
  | with_reducible refine w_heard ?_
  | with_reducible refine w_lrange ?_
  | with_reducible refine a_star ?_
  | with_reducible refine w_glb con_0 ?_
  | with_reducible refine w_glb con_1 ?_
  | with_reducible refine w_glb con_2 ?_
  | with_reducible refine w_glb con_3 ?_
  | with_reducible refine w_glb con_4 ?_
  | with_reducible refine w_glb con_5 ?_
  | with_reducible refine w_glb con_6 ?_
  | with_reducible refine w_glb con_7 ?_
  | with_reducible refine w_glb con_8 ?_
  | with_reducible refine w_glb con_9 ?_
  | with_reducible refine w_glb con_10 ?_
  | with_reducible refine w_glb con_11 ?_
  | with_reducible refine w_glb con_12 ?_
  | with_reducible refine w_glb con_13 ?_
  | with_reducible refine w_glb con_14 ?_
  | with_reducible refine w_glb con_15 ?_
  | with_reducible refine w_glb con_16 ?_
  | with_reducible refine w_glb con_17 ?_
  | with_reducible refine w_glb con_18 ?_
  | with_reducible refine w_glb con_19 ?_
  | with_reducible refine w_glb con_20 ?_
  | with_reducible refine w_glb con_21 ?_
  | with_reducible refine w_glb con_22 ?_
  | with_reducible refine w_glb con_23 ?_
  | with_reducible refine r_cut1 ?_
  | with_reducible refine r_cut3 ?_
  | with_reducible refine r_cutL ?_
  | with_reducible refine r_cutL1 ?_
  | with_reducible refine b_tup1 ?_
  | with_reducible refine r_abs ?_
  | with_reducible refine r_max ?_
  | with_reducible refine r_min ?_
  | with_reducible refine r_intI ?_
  | with_reducible refine r_intB ?_
  | with_reducible refine r_lenT ?_
  | with_reducible refine b_add ?_
  | with_reducible refine b_sub ?_
  | with_reducible refine b_mulR (by omega) ?_
  | with_reducible refine b_mulL (by omega) ?_
  | with_reducible refine b_div64 (by omega) ?_
  | with_reducible refine b_mod (by omega) ?_
  | with_reducible refine ⟨_, ix0, ?_⟩
  | with_reducible refine ⟨_, ix1, ?_⟩
  | with_reducible refine ⟨_, ix2, ?_⟩
  | with_reducible refine ⟨_, ix3, ?_⟩
  | with_reducible refine ⟨_, ixL, ?_⟩
  | refine ⟨Nat.le_of_ble_eq_true rfl, ?_⟩
  | refine ⟨fun _ => ?_, fun z => absurd z (by decide +kernel)⟩
  | refine ⟨fun z => absurd z (by decide +kernel), fun _ => ?_⟩
  | refine ⟨fun _ => ?_, fun z => Bool.noConfusion (show true = false from z)⟩
  | refine ⟨fun _ => ?_, fun z => Bool.noConfusion (show false = true from z)⟩
  | refine ⟨fun z => Bool.noConfusion (show true = false from z), fun _ => ?_⟩
  | refine ⟨fun z => Bool.noConfusion (show false = true from z), fun _ => ?_⟩
  | refine ⟨fun _ => ?_, fun z => absurd z (by simp only [Bool.not_eq_true', Bool.not_eq_false', decide_eq_true_eq, decide_eq_false_iff_not]; omega)⟩
  | refine ⟨fun z => absurd z (by simp only [Bool.not_eq_true', Bool.not_eq_false', decide_eq_true_eq, decide_eq_false_iff_not]; omega), fun _ => ?_⟩
  | refine ⟨_, rfl, ?_⟩)

section
variable {n : Nat} {S : Sto}
theorem c27 {t : T} (hn : t.h + 3 ≤ n) (hf : t.fit) (hs : t.sz ≤ 14) (hsp : t.span ≤ 1000) : Gv ((p.G n).call 27 [.int 1, t.e] S) S (.tup [(t.body t.span).e, .int t.span]) := by
  refine c_of d27 rfl (by omega) rfl fun m e => ?_
  unfold d27
  repeat array_get_dec
  refine (c14 t m _ (by omega)).use fun S1 s1 => ?_
  repeat array_get_dec
  refine (c24 t m _ (by omega)).use fun S2 s2 => ?_
  repeat array_get_dec
  refine (c25 t m _ (by omega) (by omega)).use fun k3 S3 s3 h3 a3 => ?_
  repeat array_get_dec
  refine seqW_ref0 a3 ?_
  refine wp_lc (fun d => decide (lastD d ≠ 0)) (fun d => .int (lastD d)) (stands_one a3) ?_ (fun z hz S4 s4 => ?_) fun k5 S5 s5 h5 a5 => ?_
  · have := lv_len t
    exact small_len (by simp; omega)
  · obtain ⟨l, hl, rfl⟩ := List.mem_map.mp hz
    have lf := t.lv_leaf l hl
    refine ⟨_, rfl, ?_⟩
    cases l with
    | less a b c =>
      rw [T.e]
      repeat array_get_dec
      refine ⟨by by_cases h0 : b = 0 <;> simp [lastD, h0], Sub.refl _, fun _ => ?_⟩
      repeat array_get_dec
      exact ⟨rfl, Sub.refl _⟩
    | rest a b c d =>
      rw [T.e]
      repeat array_get_dec
      refine ⟨by by_cases h0 : b = 0 <;> simp [lastD, h0], Sub.refl _, fun _ => ?_⟩
      repeat array_get_dec
      exact ⟨rfl, Sub.refl _⟩
    | an x y => cases lf
    | orr x y => cases lf
  · rw [map_bs (T.lv_leaf t)] at a5
    have hb : ∀ i ∈ t.bs, i ≠ 0 ∧ i.natAbs < 2 ^ 63 := fun i hi => by
      obtain ⟨h1, h2⟩ := List.mem_filter.mp hi
      obtain ⟨l, hl, rfl⟩ := List.mem_map.mp h1
      have := T.fit_b (t.fit_lv hf l hl)
      exact ⟨by simpa using h2, by omega⟩
    repeat array_get_dec
    refine (c16 (by omega) a5 hb).use fun S6 s6 => ?_
    have hpos : (0 : Int) < (t.span : Int) := by
      have := lcmL_pos (l := t.bs) fun i hi => (hb i hi).1
      unfold T.span
      omega
    repeat array_get_dec
    intro k7 S7 s7 h7 a7
    repeat array_get_dec
    refine b_lst1 a7 (by simp) fun k8 S8 s8 h8 a8 => ?_
    refine ⟨_, itemsOf_ref a8, ?_⟩
    repeat array_get_dec
    refine (c26 (span := t.span) ⟨hpos, by omega⟩ t m _ (by omega) hf).use fun S9 s9 => ?_
    repeat array_get_dec
    exact ⟨rfl, ((((((s1.trans s2).trans s3).trans s5).trans s6).trans s7).trans s8).trans s9⟩
theorem c28 {t : T} (hn : t.h + 1 ≤ n) (hs : t.sz ≤ 20) : GvL ((p.G n).call 28 [.int 1, t.e] S) S (t.lows.map Ns.pairD) := by
  refine c_of d28 rfl (by omega) rfl fun m e => ?_
  unfold d28
  repeat array_get_dec
  intro k1 S1 s1 h1 a1
  repeat array_get_dec
  refine (c25 t m _ (by omega) (by omega)).use fun k2 S2 s2 h2 a2 => ?_
  repeat array_get_dec
  refine seqW_ref0 a2 ?_
  have ne : k1 ≠ k2 := ne_of_some a1 h2
  have hlen := lv_len t
  refine wf_for (fun done E S3 => ∃ (l1 l2 : List T) (u : Option D), t.lv = l1 ++ l2 ∧ done = l1.map T.e ∧ E = [some (.int 1), some t.e, some (.ref k1), u] ∧ Sub S S3 ∧ S3[k2]? = some (.lst (t.lv.map T.e)) ∧ S3[k1]? = some (.lst ((lowsL l1).map Ns.pairD))) ⟨[], t.lv, none, rfl, rfl, rfl, s1.trans s2, a2, s2 _ _ a1⟩ ?_ ?_
  · rintro done z rest hd E1 S3 ⟨l1, l2, u, hl, rfl, rfl, s3, a3, b3⟩
    refine ⟨stands_one a3, ?_⟩
    have e2 : l2.map T.e = z :: rest := by
      rw [hl, List.map_append] at hd
      exact List.append_cancel_left hd
    obtain ⟨y, l3, rfl, rfl, _⟩ := List.map_eq_cons_iff.mp e2
    refine ⟨_, rfl, ?_⟩
    have hll : l1.length ≤ 20 := by rw [hl] at hlen; simp at hlen; omega
    have hfm : (l1.filterMap lowOf).length ≤ 20 := Nat.le_trans (List.length_filterMap_le _ _) hll
    have lf := t.lv_leaf y (by rw [hl]; simp)
    have skip : lowOf y = none → ∃ (l1' l2' : List T) (u : Option D), t.lv = l1' ++ l2' ∧ l1.map T.e ++ [y.e] = l1'.map T.e ∧ [some (.int 1), some t.e, some (.ref k1), some y.e] = [some (.int 1), some t.e, some (.ref k1), u] ∧ Sub S S3 ∧ S3[k2]? = some (.lst (t.lv.map T.e)) ∧ S3[k1]? = some (.lst ((lowsL l1').map Ns.pairD)) := fun hno =>
      ⟨l1 ++ [y], l3, _, by rw [hl]; simp, by simp, rfl, s3, a3, by rw [b3]; simp [lowsL, List.filterMap_append, hno]⟩
    cases y with
    | less a b c =>
      rw [T.e]
      repeat array_get_dec
      refine ⟨fun z => ?_, fun z => ?_⟩
      · have z := of_decide_eq_true z
        repeat array_get_dec
        refine m_app b3 (Nat.lt_of_le_of_lt (show _ ≤ 21 by simp [lowsL]; omega) (Nat.le_of_ble_eq_true rfl)) ?_
        repeat array_get_dec
        refine ⟨l1 ++ [.less a b c], l3, _, by rw [hl]; simp, by simp [T.e], rfl, s3.set h1 _, ?_, ?_⟩
        · exact get_set_ne a3 ne
        · rw [get_set b3]
          simp [lowsL, List.filterMap_append, lowOf, z, Ns.pairD]
      · have z := of_decide_eq_false z
        repeat array_get_dec
        exact skip (by simp [lowOf, z])
    | rest a b c d =>
      rw [T.e]
      repeat array_get_dec
      exact skip rfl
    | an x y => cases lf
    | orr x y => cases lf
  · rintro E1 S3 ⟨l1, l2, u, hl, hd, rfl, s3, a3, b3⟩
    refine ⟨stands_one a3, ?_⟩
    have hl0 : l2 = [] := by
      have := congrArg List.length hd
      rw [hl] at this
      simp at this
      exact this
    subst hl0
    rw [List.append_nil] at hl
    subst hl
    repeat array_get_dec
    refine w_ssort ?_
    repeat array_get_dec
    have hfm : (t.lv.filterMap lowOf).length ≤ 20 := Nat.le_trans (List.length_filterMap_le _ _) (by omega)
    refine ⟨_, ?_, fun k4 S4 s4 h4 a4 => ⟨k4, rfl, s3.trans s4, s3.none h4, a4⟩⟩
    rw [show lstOf S3 (.ref k1) = some ((lowsL t.lv).map Ns.pairD) by simp only [lstOf, b3]]
    exact srtD_pairs (by simp [lowsL]; omega)
theorem c29 {t : T} (hn : t.h + 3 ≤ n) (hs : t.sz ≤ 20) (hd : ∀ l ∈ t.lv, l.is_rest = true → l.dv ≠ 0 ∧ l.dv.natAbs < 2 ^ 63) : Gv ((p.G n).call 29 [t.e] S) S (.int t.step) := by
  refine c_of d29 rfl (by omega) rfl fun m e => ?_
  unfold d29
  repeat array_get_dec
  refine (c25 t m _ (by omega) (by omega)).use fun k3 S3 s3 h3 a3 => ?_
  repeat array_get_dec
  refine seqW_ref0 a3 ?_
  refine wp_lc isRestD (fun d => .int (dvD d)) (stands_one a3) ?_ (fun z hz S4 s4 => ?_) fun k5 S5 s5 h5 a5 => ?_
  · have := lv_len t
    exact small_len (by simp; omega)
  · obtain ⟨l, hl, rfl⟩ := List.mem_map.mp hz
    have lf := t.lv_leaf l hl
    refine ⟨_, rfl, ?_⟩
    cases l with
    | less a b c =>
      rw [T.e]
      repeat array_get_dec
      exact ⟨(show decide (("less" : Str) = "rest") = false by decide +kernel), Sub.refl _, fun z => by cases z⟩
    | rest a b c d =>
      rw [T.e]
      repeat array_get_dec
      refine ⟨(show decide (("rest" : Str) = "rest") = true by decide +kernel), Sub.refl _, fun _ => ?_⟩
      repeat array_get_dec
      exact ⟨rfl, Sub.refl _⟩
    | an x y => cases lf
    | orr x y => cases lf
  · rw [map_dvs (T.lv_leaf t)] at a5
    repeat array_get_dec
    refine (c16 (by omega) a5 fun i hi => ?_).use fun S6 s6 => ⟨rfl, (s3.trans s5).trans s6⟩
    obtain ⟨l, hl, rfl⟩ := List.mem_map.mp hi
    obtain ⟨h1, h2⟩ := List.mem_filter.mp hl
    exact hd l h1 h2
end
end K89
set_option Elab.async false
set_option linter.all false
set_option maxRecDepth 100000
set_option maxHeartbeats 1000000
namespace K89
open PySem PySem.Spec PyProof.Rows L2 Py
/-! ### statements of one name -/
inductive U where
  | less (a c : Int)
  | rest (a c d : Int)
  | an (x y : U)
  | orr (x y : U)
def U.e : U → D
  | .less a c => .tup [.str "less", .tup [.int a], .int c]
  | .rest a c d => .tup [.str "rest", .tup [.int a], .int c, .int d]
  | .an x y => .tup [.str "and", x.e, y.e]
  | .orr x y => .tup [.str "or", x.e, y.e]
def U.h : U → Nat
  | .less _ _ => 1
  | .rest _ _ _ => 1
  | .an x y => max x.h y.h + 1
  | .orr x y => max x.h y.h + 1
def U.sz : U → Nat
  | .less _ _ => 1
  | .rest _ _ _ => 1
  | .an x y => x.sz + y.sz + 1
  | .orr x y => x.sz + y.sz + 1
/-- factors that are not too great, divisors above nought -/
def U.fit : U → Prop
  | .less a _ => -(2 ^ 63) < a ∧ a < 2 ^ 63
  | .rest a _ d => (-(2 ^ 63) < a ∧ a < 2 ^ 63) ∧ 0 < d
  | .an x y => x.fit ∧ y.fit
  | .orr x y => x.fit ∧ y.fit
def U.holds : U → Int → Bool
  | .less a c, x => decide (a * x - c ≤ 0)
  | .rest a c d, x => decide ((a * x - c) % d = 0)
  | .an p q, x => p.holds x && q.holds x
  | .orr p q, x => p.holds x || q.holds x
def T.holds : T → Int → Int → Bool
  | .less a b c, x, y => decide (a * x + b * y - c ≤ 0)
  | .rest a b c d, x, y => decide ((a * x + b * y - c) % d = 0)
  | .an p q, x, y => p.holds x y && q.holds x y
  | .orr p q, x, y => p.holds x y || q.holds x y
/-- factors that are not too great, divisors above nought -/
def T.mid : T → Prop
  | .less a b _ => (-(2 ^ 62) < a ∧ a < 2 ^ 62) ∧ -(2 ^ 62) < b ∧ b < 2 ^ 62
  | .rest a b _ d => (-(2 ^ 62) < a ∧ a < 2 ^ 62) ∧ (-(2 ^ 62) < b ∧ b < 2 ^ 62) ∧ 0 < d
  | .an x y => x.mid ∧ y.mid
  | .orr x y => x.mid ∧ y.mid
theorem U.h_pos : ∀ t : U, 0 < t.h
  | .less _ _ => Nat.one_pos
  | .rest _ _ _ => Nat.one_pos
  | .an _ _ => Nat.succ_pos _
  | .orr _ _ => Nat.succ_pos _
theorem U.sz_pos : ∀ t : U, 0 < t.sz
  | .less _ _ => Nat.one_pos
  | .rest _ _ _ => Nat.one_pos
  | .an _ _ => Nat.succ_pos _
  | .orr _ _ => Nat.succ_pos _
local macro_rules | `(tactic| array_get_dec) => `(tactic| first
  | with_reducible refine s_cons ?_
  | with_reducible refine s_nil ?_
  | with_reducible refine s_cnd ?_
  | with_reducible refine s_ret ?_
  | (with_reducible refine w_var ?_; refine ⟨_, rfl, ?_⟩)
  | with_reducible refine w_int ?_
  | with_reducible refine w_str ?_
  | with_reducible refine w_bl ?_
  | with_reducible refine w_non ?_
  | with_reducible refine a_cons ?_
  | with_reducible refine a_nil ?_
  | with_reducible refine w_call ?_
  | with_reducible refine t_call ?_
  | with_reducible refine w_tup ?_
  | with_reducible refine w_cmp ?_
  | with_reducible refine t_cmp ?_
  | with_reducible refine w_ix ?_
  | with_reducible refine w_bin ?_
  | with_reducible refine w_isi ?_
  | with_reducible refine t_isi ?_
  | with_reducible refine w_nt ?_
  | with_reducible refine t_nt ?_
  | with_reducible refine w_con ?_
  | with_reducible refine t_con ?_
  | with_reducible refine w_dis ?_
  | with_reducible refine t_dis ?_
  | with_reducible refine w_chn ?_
  | with_reducible refine w_ife ?_
  | with_reducible refine w_bi ?_
  | with_reducible refine t_bi ?_
  | with_reducible refine w_neg ?_
  | with_reducible refine w_sl ?_
  | with_reducible refine o_no ?_
  | with_reducible refine o_yes ?_
  | with_reducible refine s_set ?_
  | with_reducible refine s_par ?_
  | with_reducible refine s_ex ?_
  | with_reducible refine s_rse ?_
  | with_reducible refine s_rep ?_
  | with_reducible refine s_whl ?_
  | with_reducible refine s_brk ?_
  | with_reducible refine s_sub ?_
  | with_reducible refine w_lst ?_
  | with_reducible refine w_lc ?_
  | with_reducible refine w_mth ?_
  | with_reducible refine i_seq ?_
  | with_reducible refine i_r1 ?_
  | with_reducible refine i_r2 ?_
  | with_reducible refine i_zip ?_
  | with_reducible refine ot_no ?_
  | with_reducible refine ot_yes ?_
  | (with_reducible refine t_var ?_; refine ⟨_, _, rfl, rfl, ?_⟩)
  | with_reducible refine w_isN ?_
  | with_reducible refine t_isN ?_
  | with_reducible refine t_isB ?_
  | with_reducible refine t_isx ?_
  | with_reducible refine t_ix ?_
  | with_reducible refine w_fld ?_
  | with_reducible refine w_heard ?_
  | with_reducible refine w_lrange ?_
  | with_reducible refine a_star ?_
  | with_reducible refine w_glb con_0 ?_
  | with_reducible refine w_glb con_1 ?_
  | with_reducible refine w_glb con_2 ?_
  | with_reducible refine w_glb con_3 ?_
  | with_reducible refine w_glb con_4 ?_
  | with_reducible refine w_glb con_5 ?_
  | with_reducible refine w_glb con_6 ?_
  | with_reducible refine w_glb con_7 ?_
  | with_reducible refine w_glb con_8 ?_
  | with_reducible refine w_glb con_9 ?_
  | with_reducible refine w_glb con_10 ?_
  | with_reducible refine w_glb con_11 ?_
  | with_reducible refine w_glb con_12 ?_
  | with_reducible refine w_glb con_13 ?_
  | with_reducible refine w_glb con_14 ?_
  | with_reducible refine w_glb con_15 ?_
  | with_reducible refine w_glb con_16 ?_
  | with_reducible refine w_glb con_17 ?_
  | with_reducible refine w_glb con_18 ?_
  | with_reducible refine w_glb con_19 ?_
  | with_reducible refine w_glb con_20 ?_
  | with_reducible refine w_glb con_21 ?_
  | with_reducible refine w_glb con_22 ?_
  | with_reducible refine w_glb con_23 ?_
  | with_reducible refine r_cut1 ?_
  | with_reducible refine r_cut3 ?_
  | with_reducible refine r_cutL ?_
  | with_reducible refine r_cutL1 ?_
  | with_reducible refine b_tup1 ?_
  | with_reducible refine r_abs ?_
  | with_reducible refine r_max ?_
  | with_reducible refine r_min ?_
  | with_reducible refine r_intI ?_
  | with_reducible refine r_intB ?_
  | with_reducible refine r_lenT ?_
  | with_reducible refine b_add ?_
  | with_reducible refine b_sub ?_
  | with_reducible refine b_mulR (by omega) ?_
  | with_reducible refine b_mulL (by omega) ?_
  | with_reducible refine b_div64 (by omega) ?_
  | with_reducible refine b_mod (by omega) ?_
  | with_reducible refine ⟨_, ix0, ?_⟩
  | with_reducible refine ⟨_, ix1, ?_⟩
  | with_reducible refine ⟨_, ix2, ?_⟩
  | with_reducible refine ⟨_, ix3, ?_⟩
  | with_reducible refine ⟨_, ixL, ?_⟩
  | refine ⟨Nat.le_of_ble_eq_true rfl, ?_⟩
  | refine ⟨fun _ => ?_, fun z => absurd z (by decide +kernel)⟩
  | refine ⟨fun z => absurd z (by decide +kernel), fun _ => ?_⟩
  | refine ⟨fun _ => ?_, fun z => Bool.noConfusion (show true = false from z)⟩
  | refine ⟨fun _ => ?_, fun z => Bool.noConfusion (show false = true from z)⟩
  | refine ⟨fun z => Bool.noConfusion (show true = false from z), fun _ => ?_⟩
  | refine ⟨fun z => Bool.noConfusion (show false = true from z), fun _ => ?_⟩
  | refine ⟨fun _ => ?_, fun z => absurd z (by simp only [Bool.not_eq_true', Bool.not_eq_false', decide_eq_true_eq, decide_eq_false_iff_not]; omega)⟩
  | refine ⟨fun z => absurd z (by simp only [Bool.not_eq_true', Bool.not_eq_false', decide_eq_true_eq, decide_eq_false_iff_not]; omega), fun _ => ?_⟩
  | refine ⟨_, rfl, ?_⟩)

section
variable {n : Nat} {S : Sto}
theorem c30 {t : T} (hn : 8 ≤ n) (hh : t.h + 1 ≤ n) (hf : t.fit) (hs : t.sz ≤ 14) : Gv ((p.G n).call 30 [.int 1, someD t] S) S .non := by
  refine c_of d30 rfl (by omega) rfl fun m e => ?_
  unfold d30
  repeat array_get_dec
  refine (c9 (by omega) hf hs).use fun S1 s1 => ?_
  unfold someD
  repeat array_get_dec
  refine (c10 t m _ (by omega)).use fun S2 s2 => ?_
  repeat array_get_dec
  exact ⟨rfl, s1.trans s2⟩
theorem c31 {t : T} (hn : 1 ≤ n) : Gv ((p.G n).call 31 [someD t] S) S t.e := by
  refine c_of d31 rfl (by omega) rfl fun m e => ?_
  unfold d31
  unfold someD
  repeat array_get_dec
  exact ⟨rfl, Sub.refl _⟩
theorem c21 {x y : Int} : ∀ (t : T) (n : Nat) (S : Sto), t.h + 1 ≤ n → t.mid → Gv ((p.G n).call 21 [t.e, .tup [.int x, .int y]] S) S (.bl (t.holds x y)) := by
  intro t
  induction t with
  | less a b c =>
    intro n S hn hf
    simp only [T.h, T.mid] at hn hf
    refine c_of d21 rfl (by omega) rfl fun m e => ?_
    rw [T.e]
    unfold d21
    repeat array_get_dec
    refine (c13_2 (by omega) (by omega) (by omega)).use fun S1 s1 => ?_
    repeat array_get_dec
    exact ⟨by rw [T.holds], s1⟩
  | rest a b c d =>
    intro n S hn hf
    simp only [T.h, T.mid] at hn hf
    refine c_of d21 rfl (by omega) rfl fun m e => ?_
    rw [T.e]
    unfold d21
    repeat array_get_dec
    refine (c13_2 (by omega) (by omega) (by omega)).use fun S1 s1 => ?_
    repeat array_get_dec
    exact ⟨by rw [T.holds], s1⟩
  | an u v ihu ihv =>
    intro n S hn hf
    simp only [T.h, T.mid] at hn hf
    refine c_of d21 rfl (by omega) rfl fun m e => ?_
    rw [T.e]
    unfold d21
    repeat array_get_dec
    refine (ihu m _ (by omega) hf.1).use fun S1 s1 => ?_
    repeat array_get_dec
    refine ⟨fun z => ?_, fun z => ?_⟩
    · repeat array_get_dec
      refine (ihv m _ (by omega) hf.2).use fun S2 s2 => ⟨?_, s1.trans s2⟩
      rw [T.holds, z]
      simp
    · exact ⟨by rw [T.holds, z]; simp, s1⟩
  | orr u v ihu ihv =>
    intro n S hn hf
    simp only [T.h, T.mid] at hn hf
    refine c_of d21 rfl (by omega) rfl fun m e => ?_
    rw [T.e]
    unfold d21
    repeat array_get_dec
    refine (ihu m _ (by omega) hf.1).use fun S1 s1 => ?_
    repeat array_get_dec
    refine ⟨fun z => ?_, fun z => ?_⟩
    · repeat array_get_dec
      refine (ihv m _ (by omega) hf.2).use fun S2 s2 => ⟨?_, s1.trans s2⟩
      rw [T.holds, z]
      simp
    · exact ⟨by rw [T.holds, z]; simp, s1⟩
theorem c21u {x : Int} : ∀ (t : U) (n : Nat) (S : Sto), t.h + 1 ≤ n → t.fit → Gv ((p.G n).call 21 [t.e, .tup [.int x]] S) S (.bl (t.holds x)) := by
  intro t
  induction t with
  | less a c =>
    intro n S hn hf
    simp only [U.h, U.fit] at hn hf
    refine c_of d21 rfl (by omega) rfl fun m e => ?_
    rw [U.e]
    unfold d21
    repeat array_get_dec
    refine (c13_1 (by omega) (by omega)).use fun S1 s1 => ?_
    repeat array_get_dec
    exact ⟨by rw [U.holds], s1⟩
  | rest a c d =>
    intro n S hn hf
    simp only [U.h, U.fit] at hn hf
    refine c_of d21 rfl (by omega) rfl fun m e => ?_
    rw [U.e]
    unfold d21
    repeat array_get_dec
    refine (c13_1 (by omega) (by omega)).use fun S1 s1 => ?_
    repeat array_get_dec
    exact ⟨by rw [U.holds], s1⟩
  | an u v ihu ihv =>
    intro n S hn hf
    simp only [U.h, U.fit] at hn hf
    refine c_of d21 rfl (by omega) rfl fun m e => ?_
    rw [U.e]
    unfold d21
    repeat array_get_dec
    refine (ihu m _ (by omega) hf.1).use fun S1 s1 => ?_
    repeat array_get_dec
    refine ⟨fun z => ?_, fun z => ?_⟩
    · repeat array_get_dec
      refine (ihv m _ (by omega) hf.2).use fun S2 s2 => ⟨?_, s1.trans s2⟩
      rw [U.holds, z]
      simp
    · exact ⟨by rw [U.holds, z]; simp, s1⟩
  | orr u v ihu ihv =>
    intro n S hn hf
    simp only [U.h, U.fit] at hn hf
    refine c_of d21 rfl (by omega) rfl fun m e => ?_
    rw [U.e]
    unfold d21
    repeat array_get_dec
    refine (ihu m _ (by omega) hf.1).use fun S1 s1 => ?_
    repeat array_get_dec
    refine ⟨fun z => ?_, fun z => ?_⟩
    · repeat array_get_dec
      refine (ihv m _ (by omega) hf.2).use fun S2 s2 => ⟨?_, s1.trans s2⟩
      rw [U.holds, z]
      simp
    · exact ⟨by rw [U.holds, z]; simp, s1⟩
end
end K89
set_option Elab.async false
set_option linter.all false
set_option maxRecDepth 100000
set_option maxHeartbeats 1000000
namespace K89
open PySem PySem.Spec PyProof.Rows L2 Py
def T.put (f m : Int) : T → U
  | .less a b c => .less (a + b * f) (c - b * m)
  | .rest a b c d => .rest (a + b * f) (c - b * m) d
  | .an x y => .an (x.put f m) (y.put f m)
  | .orr x y => .orr (x.put f m) (y.put f m)
theorem T.put_sz (f m : Int) : ∀ t : T, (t.put f m).sz = t.sz
  | .less _ _ _ => rfl
  | .rest _ _ _ _ => rfl
  | .an x y => by simp only [T.put, T.sz, U.sz, T.put_sz f m x, T.put_sz f m y]
  | .orr x y => by simp only [T.put, T.sz, U.sz, T.put_sz f m x, T.put_sz f m y]
theorem T.put_h (f m : Int) : ∀ t : T, (t.put f m).h = t.h
  | .less _ _ _ => rfl
  | .rest _ _ _ _ => rfl
  | .an x y => by simp only [T.put, T.h, U.h, T.put_h f m x, T.put_h f m y]
  | .orr x y => by simp only [T.put, T.h, U.h, T.put_h f m x, T.put_h f m y]
theorem T.put_holds (f m x : Int) : ∀ t : T, (t.put f m).holds x = t.holds x (f * x + m)
  | .less a b c => by
    simp only [T.put, U.holds, T.holds]
    rw [show (a + b * f) * x - (c - b * m) = a * x + b * (f * x + m) - c by
      rw [Int.add_mul, Int.mul_add, Int.mul_assoc]; omega]
  | .rest a b c d => by
    simp only [T.put, U.holds, T.holds]
    rw [show (a + b * f) * x - (c - b * m) = a * x + b * (f * x + m) - c by
      rw [Int.add_mul, Int.mul_add, Int.mul_assoc]; omega]
  | .an p q => by simp only [T.put, U.holds, T.holds, T.put_holds f m x p, T.put_holds f m x q]
  | .orr p q => by simp only [T.put, U.holds, T.holds, T.put_holds f m x p, T.put_holds f m x q]
section
variable {S : Sto} {Q : D → Sto → Prop} {X : XP} {n : Nat} {ds : List D}
theorem r_cutA {m : Nat} (e : S[n]? = some (.lst ds)) (hm : m ≤ ds.length) (h : ∀ k S', Sub S S' → S[k]? = none → S'[k]? = some (.lst (ds.take m)) → Q (.ref k) S') : wp (slop (.ref n) none (some (m : Int)) S) Q X := by
  have e2 : Py.cutD ds none (some (m : Int)) = ds.take m := by
    unfold Py.cutD
    rw [HT.sIx_none, HT.sIx_nat, Nat.min_eq_left hm, List.drop_zero, Nat.sub_zero]
  simp only [slop, e, e2]
  exact new_any h
theorem r_cutB {m : Nat} (e : S[n]? = some (.lst ds)) (hm : m ≤ ds.length) (h : ∀ k S', Sub S S' → S[k]? = none → S'[k]? = some (.lst (ds.drop m)) → Q (.ref k) S') : wp (slop (.ref n) (some (m : Int)) none S) Q X := by
  have e2 : Py.cutD ds (some (m : Int)) none = ds.drop m := by
    unfold Py.cutD
    rw [HT.sIx_none, HT.sIx_nat, Nat.min_eq_left hm, List.take_of_length_le (by simp)]
  simp only [slop, e, e2]
  exact new_any h
end
local macro_rules | `(tactic| array_get_dec) => `(tactic| first
  | with_reducible refine s_cons ?_
  | with_reducible refine s_nil ?_
  | with_reducible refine s_cnd ?_
  | with_reducible refine s_ret ?_
  | (with_reducible refine w_var ?_; refine ⟨_, rfl, ?_⟩)
  | with_reducible refine w_int ?_
  | with_reducible refine w_str ?_
  | with_reducible refine w_bl ?_
  | with_reducible refine w_non ?_
  | with_reducible refine a_cons ?_
  | with_reducible refine a_nil ?_
  | with_reducible refine w_call ?_
  | with_reducible refine t_call ?_
  | with_reducible refine w_tup ?_
  | with_reducible refine w_cmp ?_
  | with_reducible refine t_cmp ?_
  | with_reducible refine w_ix ?_
  | with_reducible refine w_bin ?_
  | with_reducible refine w_isi ?_
  | with_reducible refine t_isi ?_
  | with_reducible refine w_nt ?_
  | with_reducible refine t_nt ?_
  | with_reducible refine w_con ?_
  | with_reducible refine t_con ?_
  | with_reducible refine w_dis ?_
  | with_reducible refine t_dis ?_
  | with_reducible refine w_chn ?_
  | with_reducible refine w_ife ?_
  | with_reducible refine w_bi ?_
  | with_reducible refine t_bi ?_
  | with_reducible refine w_neg ?_
  | with_reducible refine w_sl ?_
  | with_reducible refine o_no ?_
  | with_reducible refine o_yes ?_
  | with_reducible refine s_set ?_
  | with_reducible refine s_par ?_
  | with_reducible refine s_ex ?_
  | with_reducible refine s_rse ?_
  | with_reducible refine s_rep ?_
  | with_reducible refine s_whl ?_
  | with_reducible refine s_brk ?_
  | with_reducible refine s_sub ?_
  | with_reducible refine w_lst ?_
  | with_reducible refine w_lc ?_
  | with_reducible refine w_mth ?_
  | with_reducible refine i_seq ?_
  | with_reducible refine i_r1 ?_
  | with_reducible refine i_r2 ?_
  | with_reducible refine i_zip ?_
  | with_reducible refine ot_no ?_
  | with_reducible refine ot_yes ?_
  | (with_reducible refine t_var ?_; refine ⟨_, _, rfl, rfl, ?_⟩)
  | with_reducible refine w_isN ?_
  | with_reducible refine t_isN ?_
  | with_reducible refine t_isB ?_
  | with_reducible refine t_isx ?_
  | with_reducible refine t_ix ?_
  | with_reducible refine w_fld ?_
  | with_reducible refine w_heard ?_
  | with_reducible refine w_lrange ?_
  | with_reducible refine a_star ?_
  | with_reducible refine w_glb con_0 ?_
  | with_reducible refine w_glb con_1 ?_
  | with_reducible refine w_glb con_2 ?_
  | with_reducible refine w_glb con_3 ?_
  | with_reducible refine w_glb con_4 ?_
  | with_reducible refine w_glb con_5 ?_
  | with_reducible refine w_glb con_6 ?_
  | with_reducible refine w_glb con_7 ?_
  | with_reducible refine w_glb con_8 ?_
  | with_reducible refine w_glb con_9 ?_
  | with_reducible refine w_glb con_10 ?_
  | with_reducible refine w_glb con_11 ?_
  | with_reducible refine w_glb con_12 ?_
  | with_reducible refine w_glb con_13 ?_
  | with_reducible refine w_glb con_14 ?_
  | with_reducible refine w_glb con_15 ?_
  | with_reducible refine w_glb con_16 ?_
  | with_reducible refine w_glb con_17 ?_
  | with_reducible refine w_glb con_18 ?_
  | with_reducible refine w_glb con_19 ?_
  | with_reducible refine w_glb con_20 ?_
  | with_reducible refine w_glb con_21 ?_
  | with_reducible refine w_glb con_22 ?_
  | with_reducible refine w_glb con_23 ?_
  | with_reducible refine r_cut1 ?_
  | with_reducible refine r_cut3 ?_
  | with_reducible refine r_cutL ?_
  | with_reducible refine r_cutL1 ?_
  | with_reducible refine b_tup1 ?_
  | with_reducible refine r_abs ?_
  | with_reducible refine r_max ?_
  | with_reducible refine r_min ?_
  | with_reducible refine r_intI ?_
  | with_reducible refine r_intB ?_
  | with_reducible refine r_lenT ?_
  | with_reducible refine b_add ?_
  | with_reducible refine b_sub ?_
  | with_reducible refine b_mulR (by omega) ?_
  | with_reducible refine b_mulL (by omega) ?_
  | with_reducible refine b_div64 (by omega) ?_
  | with_reducible refine b_mod (by omega) ?_
  | with_reducible refine ⟨_, ix0, ?_⟩
  | with_reducible refine ⟨_, ix1, ?_⟩
  | with_reducible refine ⟨_, ix2, ?_⟩
  | with_reducible refine ⟨_, ix3, ?_⟩
  | with_reducible refine ⟨_, ixL, ?_⟩
  | refine ⟨Nat.le_of_ble_eq_true rfl, ?_⟩
  | refine ⟨fun _ => ?_, fun z => absurd z (by decide +kernel)⟩
  | refine ⟨fun z => absurd z (by decide +kernel), fun _ => ?_⟩
  | refine ⟨fun _ => ?_, fun z => Bool.noConfusion (show true = false from z)⟩
  | refine ⟨fun _ => ?_, fun z => Bool.noConfusion (show false = true from z)⟩
  | refine ⟨fun z => Bool.noConfusion (show true = false from z), fun _ => ?_⟩
  | refine ⟨fun z => Bool.noConfusion (show false = true from z), fun _ => ?_⟩
  | refine ⟨fun _ => ?_, fun z => absurd z (by simp only [Bool.not_eq_true', Bool.not_eq_false', decide_eq_true_eq, decide_eq_false_iff_not]; omega)⟩
  | refine ⟨fun z => absurd z (by simp only [Bool.not_eq_true', Bool.not_eq_false', decide_eq_true_eq, decide_eq_false_iff_not]; omega), fun _ => ?_⟩
  | refine ⟨_, rfl, ?_⟩)

section
variable {n : Nat} {S : Sto}
theorem c33 {f m : Int} : ∀ (t : T) (n : Nat) (S : Sto), t.h ≤ n → t.mid → Gv ((p.G n).call 33 [t.e, .tup [.int f], .int m] S) S (t.put f m).e := by
  intro t
  induction t with
  | less a b c =>
    intro n S hn hf
    simp only [T.h, T.mid] at hn hf
    refine c_of d33 rfl (by omega) rfl fun m' e => ?_
    rw [T.e]
    unfold d33
    repeat array_get_dec
    refine wp_lcR [(.tup [.int a, .int f], .int (a + b * f))] rfl stands_nil ?_ (fun z hz S3 s3 => ?_) fun k S3 s3 hk a3 => ?_
    · exact Nat.le_of_ble_eq_true rfl
    · obtain rfl : z = (.tup [.int a, .int f], .int (a + b * f)) := by simpa using hz
      refine ⟨_, rfl, ?_⟩
      repeat array_get_dec
      exact ⟨rfl, Sub.refl _⟩
    · repeat array_get_dec
      refine wp_tupl a3 ?_
      dsimp only [List.map]
      repeat array_get_dec
      exact ⟨rfl, s3⟩
  | rest a b c d =>
    intro n S hn hf
    simp only [T.h, T.mid] at hn hf
    refine c_of d33 rfl (by omega) rfl fun m' e => ?_
    rw [T.e]
    unfold d33
    repeat array_get_dec
    refine wp_lcR [(.tup [.int a, .int f], .int (a + b * f))] rfl stands_nil ?_ (fun z hz S3 s3 => ?_) fun k S3 s3 hk a3 => ?_
    · exact Nat.le_of_ble_eq_true rfl
    · obtain rfl : z = (.tup [.int a, .int f], .int (a + b * f)) := by simpa using hz
      refine ⟨_, rfl, ?_⟩
      repeat array_get_dec
      exact ⟨rfl, Sub.refl _⟩
    · repeat array_get_dec
      refine wp_tupl a3 ?_
      dsimp only [List.map]
      repeat array_get_dec
      exact ⟨rfl, s3⟩
  | an x y ihx ihy =>
    intro n S hn hf
    simp only [T.h, T.mid] at hn hf
    refine c_of d33 rfl (by omega) rfl fun m' e => ?_
    rw [T.e]
    unfold d33
    repeat array_get_dec
    refine wp_lcR [(x.e, (x.put f m).e), (y.e, (y.put f m).e)] rfl stands_nil ?_ (fun z hz S3 s3 => ?_) fun k S3 s3 hk a3 => ?_
    · exact Nat.le_of_ble_eq_true rfl
    · have hz : z = (x.e, (x.put f m).e) ∨ z = (y.e, (y.put f m).e) := by simpa using hz
      rcases hz with rfl | rfl
      · refine ⟨_, rfl, ?_⟩
        repeat array_get_dec
        exact (ihx m' _ (by omega) hf.1).use fun S4 s4 => ⟨rfl, s4⟩
      · refine ⟨_, rfl, ?_⟩
        repeat array_get_dec
        exact (ihy m' _ (by omega) hf.2).use fun S4 s4 => ⟨rfl, s4⟩
    · refine ⟨_, itemsOf_ref a3, ?_⟩
      repeat array_get_dec
      exact ⟨rfl, s3⟩
  | orr x y ihx ihy =>
    intro n S hn hf
    simp only [T.h, T.mid] at hn hf
    refine c_of d33 rfl (by omega) rfl fun m' e => ?_
    rw [T.e]
    unfold d33
    repeat array_get_dec
    refine wp_lcR [(x.e, (x.put f m).e), (y.e, (y.put f m).e)] rfl stands_nil ?_ (fun z hz S3 s3 => ?_) fun k S3 s3 hk a3 => ?_
    · exact Nat.le_of_ble_eq_true rfl
    · have hz : z = (x.e, (x.put f m).e) ∨ z = (y.e, (y.put f m).e) := by simpa using hz
      rcases hz with rfl | rfl
      · refine ⟨_, rfl, ?_⟩
        repeat array_get_dec
        exact (ihx m' _ (by omega) hf.1).use fun S4 s4 => ⟨rfl, s4⟩
      · refine ⟨_, rfl, ?_⟩
        repeat array_get_dec
        exact (ihy m' _ (by omega) hf.2).use fun S4 s4 => ⟨rfl, s4⟩
    · refine ⟨_, itemsOf_ref a3, ?_⟩
      repeat array_get_dec
      exact ⟨rfl, s3⟩
theorem c34 : ∀ (t : T) (n : Nat) (S : Sto), t.h ≤ n → Gv ((p.G n).call 34 [t.e] S) S (.int t.sz) := by
  intro t
  induction t with
  | less a b c =>
    intro n S hn
    simp only [T.h] at hn
    refine c_of d34 rfl (by omega) rfl fun m' e => ?_
    rw [T.e]
    unfold d34
    repeat array_get_dec
    exact ⟨rfl, Sub.refl _⟩
  | rest a b c d =>
    intro n S hn
    simp only [T.h] at hn
    refine c_of d34 rfl (by omega) rfl fun m' e => ?_
    rw [T.e]
    unfold d34
    repeat array_get_dec
    exact ⟨rfl, Sub.refl _⟩
  | an x y ihx ihy =>
    intro n S hn
    simp only [T.h] at hn
    refine c_of d34 rfl (by omega) rfl fun m' e => ?_
    rw [T.e]
    unfold d34
    repeat array_get_dec
    refine wp_lcR [(x.e, .int x.sz), (y.e, .int y.sz)] rfl stands_nil ?_ (fun z hz S3 s3 => ?_) fun k S3 s3 hk a3 => ?_
    · exact Nat.le_of_ble_eq_true rfl
    · have hz : z = (x.e, .int x.sz) ∨ z = (y.e, .int y.sz) := by simpa using hz
      rcases hz with rfl | rfl
      · refine ⟨_, rfl, ?_⟩
        repeat array_get_dec
        exact (ihx m' _ (by omega)).use fun S4 s4 => ⟨rfl, s4⟩
      · refine ⟨_, rfl, ?_⟩
        repeat array_get_dec
        exact (ihy m' _ (by omega)).use fun S4 s4 => ⟨rfl, s4⟩
    · repeat array_get_dec
      refine wp_sum a3 rfl ?_
      repeat array_get_dec
      refine ⟨?_, s3⟩
      congr 1
      simp [T.sz]
      omega
  | orr x y ihx ihy =>
    intro n S hn
    simp only [T.h] at hn
    refine c_of d34 rfl (by omega) rfl fun m' e => ?_
    rw [T.e]
    unfold d34
    repeat array_get_dec
    refine wp_lcR [(x.e, .int x.sz), (y.e, .int y.sz)] rfl stands_nil ?_ (fun z hz S3 s3 => ?_) fun k S3 s3 hk a3 => ?_
    · exact Nat.le_of_ble_eq_true rfl
    · have hz : z = (x.e, .int x.sz) ∨ z = (y.e, .int y.sz) := by simpa using hz
      rcases hz with rfl | rfl
      · refine ⟨_, rfl, ?_⟩
        repeat array_get_dec
        exact (ihx m' _ (by omega)).use fun S4 s4 => ⟨rfl, s4⟩
      · refine ⟨_, rfl, ?_⟩
        repeat array_get_dec
        exact (ihy m' _ (by omega)).use fun S4 s4 => ⟨rfl, s4⟩
    · repeat array_get_dec
      refine wp_sum a3 rfl ?_
      repeat array_get_dec
      refine ⟨?_, s3⟩
      congr 1
      simp [T.sz]
      omega
/-- statements joined by or, halves by halves -/
def joinU : Nat → List U → U
  | 0, us => us.headD (.less 0 0)
  | d + 1, us => if us.length = 1 then us.headD (.less 0 0) else .orr (joinU d (us.take (us.length / 2))) (joinU d (us.drop (us.length / 2)))
theorem joinU_ok : ∀ (d : Nat) (us : List U), us ≠ [] → us.length ≤ 2 ^ d → (∀ u ∈ us, u.fit) →
    (joinU d us).fit ∧ (∀ x, (joinU d us).holds x = us.any fun v => v.holds x) ∧ (joinU d us).sz + 1 = (us.map U.sz).sum + us.length ∧ ∀ H, (∀ v ∈ us, v.h ≤ H) → (joinU d us).h ≤ H + d := by
  intro d
  have one : ∀ (u : U) (d : Nat), u.fit → u.fit ∧ (∀ x, u.holds x = [u].any fun v => v.holds x) ∧ u.sz + 1 = ([u].map U.sz).sum + [u].length ∧ ∀ H, (∀ v ∈ [u], v.h ≤ H) → u.h ≤ H + d := fun u d h =>
    ⟨h, fun x => by simp, by simp, fun H h => Nat.le_trans (h u (by simp)) (by omega)⟩
  induction d with
  | zero =>
    intro us hne hl hf
    match us, hne, hl with
    | [u], _, _ => exact one u 0 (hf u (by simp))
  | succ d ih =>
    intro us hne hl hf
    by_cases h1 : us.length = 1
    · match us, h1 with
      | [u], _ => exact one u (d + 1) (hf u (by simp))
    · have h0 : 0 < us.length := List.length_pos_iff.mpr hne
      have hp : 2 ^ (d + 1) = 2 * 2 ^ d := by rw [Nat.pow_succ]; omega
      simp only [joinU, if_neg h1]
      generalize hmid : us.length / 2 = mid
      have hm1 : 0 < mid := by omega
      have hm2 : mid < us.length := by omega
      have l1 : (us.take mid).length = mid := by simp; omega
      have l2 : (us.drop mid).length = us.length - mid := by simp
      obtain ⟨a1, a2, a3, a4⟩ := ih (us.take mid) (by intro z; rw [z] at l1; simp at l1; omega) (by omega) (fun u hu => hf u (List.mem_of_mem_take hu))
      obtain ⟨b1, b2, b3, b4⟩ := ih (us.drop mid) (by intro z; rw [z] at l2; simp at l2; omega) (by omega) (fun u hu => hf u (List.mem_of_mem_drop hu))
      have e : us = us.take mid ++ us.drop mid := (List.take_append_drop mid us).symm
      refine ⟨⟨a1, b1⟩, fun x => ?_, ?_, fun H h => ?_⟩
      · rw [U.holds, a2, b2, ← List.any_append, ← e]
      · have e3 : (us.map U.sz).sum = ((us.take mid).map U.sz).sum + ((us.drop mid).map U.sz).sum := by
          rw [← List.sum_append_nat, ← List.map_append, ← e]
        rw [U.sz, e3]
        omega
      · have := a4 H fun v hv => h v (List.mem_of_mem_take hv)
        have := b4 H fun v hv => h v (List.mem_of_mem_drop hv)
        rw [U.h]
        omega
theorem c35 : ∀ (d : Nat) (us : List U) (n k : Nat) (S : Sto), us ≠ [] → us.length ≤ 2 ^ d → d + 1 ≤ n → us.length ≤ 100000 → S[k]? = some (.lst (us.map U.e)) →
    Gv ((p.G n).call 35 [.ref k] S) S (joinU d us).e := by
  intro d
  have one : ∀ (u : U) (n k : Nat) (S : Sto), 1 ≤ n → S[k]? = some (.lst ([u].map U.e)) → Gv ((p.G n).call 35 [.ref k] S) S u.e := by
    intro u n k S hn a
    refine c_of d35 rfl (by omega) rfl fun m' e => ?_
    unfold d35
    repeat array_get_dec
    refine wp_len a ?_
    repeat array_get_dec
    refine ⟨u.e, ?_, rfl, Sub.refl _⟩
    simp only [ixop, itemsOf, a]
    exact at0
  induction d with
  | zero =>
    intro us n k S hne hl hn hlim a
    match us, hne, hl with
    | [u], _, _ => exact one u n k S (by omega) a
  | succ d ih =>
    intro us n k S hne hl hn hlim a
    by_cases h1 : us.length = 1
    · match us, h1 with
      | [u], _ => exact one u n k S (by omega) a
    · have h0 : 0 < us.length := List.length_pos_iff.mpr hne
      have hp : 2 ^ (d + 1) = 2 * 2 ^ d := by rw [Nat.pow_succ]; omega
      simp only [joinU, if_neg h1]
      generalize hmid : us.length / 2 = mid
      have hm1 : 0 < mid := by omega
      have hm2 : mid < us.length := by omega
      have l1 : (us.take mid).length = mid := by simp; omega
      have l2 : (us.drop mid).length = us.length - mid := by simp
      refine c_of d35 rfl (by omega) rfl fun m' e => ?_
      unfold d35
      repeat array_get_dec
      refine wp_len a ?_
      repeat array_get_dec
      refine ⟨fun z => ?_, fun z => ?_⟩
      · exfalso
        have z := of_decide_eq_true z
        simp at z
        omega
      repeat array_get_dec
      refine wp_len a ?_
      repeat array_get_dec
      have em : ((us.map U.e).length : Int) / 2 = (mid : Int) := by simp; omega
      rw [em]
      repeat array_get_dec
      refine r_cutA a (by simp; omega) fun k1 S1 s1 h1 a1 => ?_
      repeat array_get_dec
      rw [← List.map_take] at a1
      refine (ih (us.take mid) m' k1 S1 (by intro z; rw [z] at l1; simp at l1; omega) (by omega) (by omega) (by omega) a1).use fun S2 s2 => ?_
      repeat array_get_dec
      refine r_cutB ((s1.trans s2) _ _ a) (by simp; omega) fun k3 S3 s3 h3 a3 => ?_
      rw [← List.map_drop] at a3
      repeat array_get_dec
      refine (ih (us.drop mid) m' k3 S3 (by intro z; rw [z] at l2; simp at l2; omega) (by omega) (by omega) (by omega) a3).use fun S4 s4 => ?_
      repeat array_get_dec
      exact ⟨rfl, ((s1.trans s2).trans s3).trans s4⟩
end
end K89
set_option Elab.async false
set_option linter.all false
set_option maxRecDepth 100000
set_option maxHeartbeats 1000000
namespace K89
open PySem PySem.Spec PyProof.Rows L2 Py
def U.leaf : U → Bool
  | .an _ _ => false
  | .orr _ _ => false
  | _ => true
/-- what waits: a statement, how deep it may be -/
def Wu.e (w : U × Int) : D := .tup [w.1.e, .int w.2]
def szU (ws : List (U × Int)) : Nat := (ws.map fun w => w.1.sz).sum
theorem szU_app (u v : List (U × Int)) : szU (u ++ v) = szU u + szU v := by unfold szU; simp
theorem szU_len : ∀ ws : List (U × Int), ws.length ≤ szU ws
  | [] => Nat.le_refl _
  | w :: ws => by
    have h := szU_len ws
    have h2 := w.1.sz_pos
    unfold szU at *
    simp
    omega
theorem big_len {k : Nat} (h : k ≤ 1000000) : k ≤ sizeLine := Nat.le_trans h (Nat.le_of_ble_eq_true rfl)
local macro_rules | `(tactic| array_get_dec) => `(tactic| first
  | with_reducible refine s_cons ?_
  | with_reducible refine s_nil ?_
  | with_reducible refine s_cnd ?_
  | with_reducible refine s_ret ?_
  | (with_reducible refine w_var ?_; refine ⟨_, rfl, ?_⟩)
  | with_reducible refine w_int ?_
  | with_reducible refine w_str ?_
  | with_reducible refine w_bl ?_
  | with_reducible refine w_non ?_
  | with_reducible refine a_cons ?_
  | with_reducible refine a_nil ?_
  | with_reducible refine w_call ?_
  | with_reducible refine t_call ?_
  | with_reducible refine w_tup ?_
  | with_reducible refine w_cmp ?_
  | with_reducible refine t_cmp ?_
  | with_reducible refine w_ix ?_
  | with_reducible refine w_bin ?_
  | with_reducible refine w_isi ?_
  | with_reducible refine t_isi ?_
  | with_reducible refine w_nt ?_
  | with_reducible refine t_nt ?_
  | with_reducible refine w_con ?_
  | with_reducible refine t_con ?_
  | with_reducible refine w_dis ?_
  | with_reducible refine t_dis ?_
  | with_reducible refine w_chn ?_
  | with_reducible refine w_ife ?_
  | with_reducible refine w_bi ?_
  | with_reducible refine t_bi ?_
  | with_reducible refine w_neg ?_
  | with_reducible refine w_sl ?_
  | with_reducible refine o_no ?_
  | with_reducible refine o_yes ?_
  | with_reducible refine s_set ?_
  | with_reducible refine s_par ?_
  | with_reducible refine s_ex ?_
  | with_reducible refine s_rse ?_
  | with_reducible refine s_rep ?_
  | with_reducible refine s_whl ?_
  | with_reducible refine s_brk ?_
  | with_reducible refine s_sub ?_
  | with_reducible refine w_lst ?_
  | with_reducible refine w_lc ?_
  | with_reducible refine w_mth ?_
  | with_reducible refine i_seq ?_
  | with_reducible refine i_r1 ?_
  | with_reducible refine i_r2 ?_
  | with_reducible refine i_zip ?_
  | with_reducible refine ot_no ?_
  | with_reducible refine ot_yes ?_
  | (with_reducible refine t_var ?_; refine ⟨_, _, rfl, rfl, ?_⟩)
  | with_reducible refine w_isN ?_
  | with_reducible refine t_isN ?_
  | with_reducible refine t_isB ?_
  | with_reducible refine t_isx ?_
  | with_reducible refine t_ix ?_
  | with_reducible refine w_fld ?_
  | with_reducible refine w_heard ?_
  | with_reducible refine w_lrange ?_
  | with_reducible refine a_star ?_
  | with_reducible refine w_glb con_0 ?_
  | with_reducible refine w_glb con_1 ?_
  | with_reducible refine w_glb con_2 ?_
  | with_reducible refine w_glb con_3 ?_
  | with_reducible refine w_glb con_4 ?_
  | with_reducible refine w_glb con_5 ?_
  | with_reducible refine w_glb con_6 ?_
  | with_reducible refine w_glb con_7 ?_
  | with_reducible refine w_glb con_8 ?_
  | with_reducible refine w_glb con_9 ?_
  | with_reducible refine w_glb con_10 ?_
  | with_reducible refine w_glb con_11 ?_
  | with_reducible refine w_glb con_12 ?_
  | with_reducible refine w_glb con_13 ?_
  | with_reducible refine w_glb con_14 ?_
  | with_reducible refine w_glb con_15 ?_
  | with_reducible refine w_glb con_16 ?_
  | with_reducible refine w_glb con_17 ?_
  | with_reducible refine w_glb con_18 ?_
  | with_reducible refine w_glb con_19 ?_
  | with_reducible refine w_glb con_20 ?_
  | with_reducible refine w_glb con_21 ?_
  | with_reducible refine w_glb con_22 ?_
  | with_reducible refine w_glb con_23 ?_
  | with_reducible refine r_cut1 ?_
  | with_reducible refine r_cut3 ?_
  | with_reducible refine r_cutL ?_
  | with_reducible refine r_cutL1 ?_
  | with_reducible refine b_tup1 ?_
  | with_reducible refine r_abs ?_
  | with_reducible refine r_max ?_
  | with_reducible refine r_min ?_
  | with_reducible refine r_intI ?_
  | with_reducible refine r_intB ?_
  | with_reducible refine r_lenT ?_
  | with_reducible refine b_add ?_
  | with_reducible refine b_sub ?_
  | with_reducible refine b_mulR (by omega) ?_
  | with_reducible refine b_mulL (by omega) ?_
  | with_reducible refine b_div64 (by omega) ?_
  | with_reducible refine b_mod (by omega) ?_
  | with_reducible refine ⟨_, ix0, ?_⟩
  | with_reducible refine ⟨_, ix1, ?_⟩
  | with_reducible refine ⟨_, ix2, ?_⟩
  | with_reducible refine ⟨_, ix3, ?_⟩
  | with_reducible refine ⟨_, ixL, ?_⟩
  | refine ⟨Nat.le_of_ble_eq_true rfl, ?_⟩
  | refine ⟨fun _ => ?_, fun z => absurd z (by decide +kernel)⟩
  | refine ⟨fun z => absurd z (by decide +kernel), fun _ => ?_⟩
  | refine ⟨fun _ => ?_, fun z => Bool.noConfusion (show true = false from z)⟩
  | refine ⟨fun _ => ?_, fun z => Bool.noConfusion (show false = true from z)⟩
  | refine ⟨fun z => Bool.noConfusion (show true = false from z), fun _ => ?_⟩
  | refine ⟨fun z => Bool.noConfusion (show false = true from z), fun _ => ?_⟩
  | refine ⟨fun _ => ?_, fun z => absurd z (by simp only [Bool.not_eq_true', Bool.not_eq_false', decide_eq_true_eq, decide_eq_false_iff_not]; omega)⟩
  | refine ⟨fun z => absurd z (by simp only [Bool.not_eq_true', Bool.not_eq_false', decide_eq_true_eq, decide_eq_false_iff_not]; omega), fun _ => ?_⟩
  | refine ⟨_, rfl, ?_⟩)

section
variable {n : Nat} {S : Sto}
theorem c17 {u : U} (hn : 2 ≤ n) (hl : u.leaf = true) : Gv ((p.G n).call 17 [.int 1, u.e] S) S (.bl true) := by
  refine c_of d17 rfl (by omega) rfl fun m e => ?_
  have key : ∀ (w : Str) (a c : Int) (r : List D),
      wf (d17.body.ev (p.G m) ([.int 1, .tup (.str w :: .tup [.int a] :: .int c :: r)].map some ++ List.replicate (3 - 2) none) S) { N := fun _ S' => D.non = .bl true ∧ Sub S S', R := fun d S' => d = .bl true ∧ Sub S S', X := noX, B := fun _ _ => False } := by
    intro w a c r
    unfold d17
    repeat array_get_dec
    refine (c0 (by omega)).use fun S1 s1 => ?_
    repeat array_get_dec
    refine wp_lcR [(.int a, .bl true), (.int c, .bl true)] rfl stands_nil ?_ (fun z hz S3 s3 => ?_) fun k S3 s3 hk a3 => ?_
    · exact Nat.le_of_ble_eq_true rfl
    · have hz : z = (.int a, .bl true) ∨ z = (.int c, .bl true) := by simpa using hz
      rcases hz with rfl | rfl
      · refine ⟨_, rfl, ?_⟩
        repeat array_get_dec
        exact (c1 (by omega)).use fun S4 s4 => ⟨rfl, s4⟩
      · refine ⟨_, rfl, ?_⟩
        repeat array_get_dec
        exact (c1 (by omega)).use fun S4 s4 => ⟨rfl, s4⟩
    · repeat array_get_dec
      exact wp_all a3 rfl ⟨rfl, s1.trans s3⟩
  cases u with
  | less a c => exact key _ a c []
  | rest a c d => exact key _ a c [.int d]
  | an x y => cases hl
  | orr x y => cases hl
theorem c18 {u : U} (hn : 3 ≤ n) (hf : u.fit) : Gv ((p.G n).call 18 [.int 1, u.e] S) S (.bl true) := by
  cases u with
  | less a c =>
    refine c_of d18 rfl (by omega) rfl fun m e => ?_
    rw [U.e]
    unfold d18
    repeat array_get_dec
    refine (c0 (by omega)).use fun S1 s1 => ?_
    repeat array_get_dec
    exact (c17 (u := .less a c) (by omega) rfl).use fun S2 s2 => ⟨rfl, s1.trans s2⟩
  | rest a c d =>
    refine c_of d18 rfl (by omega) rfl fun m e => ?_
    rw [U.e]
    unfold d18
    repeat array_get_dec
    refine (c0 (by omega)).use fun S1 s1 => ?_
    repeat array_get_dec
    refine (c17 (u := .rest a c d) (by omega) rfl).use fun S2 s2 => ?_
    repeat array_get_dec
    refine (c1 (by omega)).use fun S3 s3 => ?_
    repeat array_get_dec
    refine ⟨?_, (s1.trans s2).trans s3⟩
    rw [decide_eq_true hf.2]
  | an x y =>
    refine c_of d18 rfl (by omega) rfl fun m e => ?_
    rw [U.e]
    unfold d18
    repeat array_get_dec
    refine (c0 (by omega)).use fun S1 s1 => ?_
    repeat array_get_dec
    exact ⟨rfl, s1⟩
  | orr x y =>
    refine c_of d18 rfl (by omega) rfl fun m e => ?_
    rw [U.e]
    unfold d18
    repeat array_get_dec
    refine (c0 (by omega)).use fun S1 s1 => ?_
    repeat array_get_dec
    exact ⟨rfl, s1⟩
theorem c19 {t : U} (hn : 4 ≤ n) (hf : t.fit) (hs : t.sz ≤ 100000) (hh : t.h ≤ 41) : Gv ((p.G n).call 19 [.int 1, t.e, .int 40] S) S (.bl true) := by
  refine c_of d19 rfl (by omega) rfl fun m e => ?_
  unfold d19
  repeat array_get_dec
  intro k S1 s1 hk a1
  repeat array_get_dec
  refine wf_while (fun w E S2 => ∃ (ws : List (U × Int)) (i : Nat) (x5 x6 x7 : Option D), E = [some (.int 1), some t.e, some (.int 40), some (.ref k), some (.int i), x5, x6, x7] ∧ S2[k]? = some (.lst (ws.map Wu.e)) ∧ Sub S S2 ∧ w = szU ws ∧ i + szU ws ≤ 100000 ∧ ∀ w ∈ ws, w.1.fit ∧ (w.1.h : Int) ≤ w.2 + 1) ?_ (m := szU [(t, 40)]) ⟨[(t, 40)], 0, none, none, none, rfl, a1, s1, rfl, ?_, ?_⟩
  · rintro w E S2 ⟨ws, i, x5, x6, x7, rfl, a2, s2, rfl, hi, hfs⟩
    repeat array_get_dec
    intro k3 S3 s3 hk3 a3
    refine ⟨_, eq_nil (s3 _ _ a2) a3, ?_⟩
    rcases List.eq_nil_or_concat ws with rfl | ⟨us, u, rfl⟩
    · refine ⟨fun z => absurd z (by simp), fun _ => ?_⟩
      repeat array_get_dec
      exact ⟨rfl, s2.trans s3⟩
    · rw [List.concat_eq_append] at *
      refine ⟨fun _ => ?_, fun z => absurd z (by simp)⟩
      have a4 := s3 _ _ a2
      have hl := szU_len (us ++ [u])
      obtain ⟨u, left⟩ := u
      rw [szU_app] at hi hl
      have hu : szU [(u, left)] = u.sz := by unfold szU; simp
      rw [hu] at hi hl
      have nk : S[k]? = none := hk
      obtain ⟨hfu, hlu⟩ := hfs (u, left) (by simp)
      have hfu : u.fit := hfu
      have hlu : (u.h : Int) ≤ left + 1 := hlu
      have hfr : ∀ w ∈ us, w.1.fit ∧ (w.1.h : Int) ≤ w.2 + 1 := fun w hw => hfs w (by simp [hw])
      simp only [List.length_append, List.length_cons, List.length_nil] at hl
      have hhp := u.h_pos
      have hsp := u.sz_pos
      repeat array_get_dec
      refine m_pop (ys := us.map Wu.e) (d := Wu.e (u, left)) a4 (by rw [List.map_append]; rfl) ?_
      have a5 := get_set (u := O.lst (us.map Wu.e)) a4
      have s5 : Sub S (S3.set k (.lst (us.map Wu.e))) := (s2.trans s3).set nk _
      generalize S3.set k (.lst (us.map Wu.e)) = S5 at a5 s5
      unfold Wu.e
      repeat array_get_dec
      refine (c18 (by omega) hfu).use fun S6 s6 => ?_
      have a6 := s6 _ _ a5
      have s6 := s5.trans s6
      have leafs : ∀ x7 : Option D, ∃ m', m' < szU (us ++ [(u, left)]) ∧ ∃ (ws : List (U × Int)) (i' : Nat) (x5 x6 x7' : Option D), [some (.int 1), some t.e, some (.int 40), some (.ref k), some (.int (i + 1)), some u.e, some (.int left), x7] = [some (.int 1), some t.e, some (.int 40), some (.ref k), some (.int i'), x5, x6, x7'] ∧ S6[k]? = some (.lst (ws.map Wu.e)) ∧ Sub S S6 ∧ m' = szU ws ∧ i' + szU ws ≤ 100000 ∧ ∀ w ∈ ws, w.1.fit ∧ (w.1.h : Int) ≤ w.2 + 1 := by
        intro x7
        exact ⟨szU us, by rw [szU_app, hu]; omega, us, i + 1, _, _, _, rfl, a6, s6, rfl, by omega, hfr⟩
      have twos : ∀ (y1 y2 : U) (x7 : Option D), u.sz = y1.sz + y2.sz + 1 → y1.fit → y2.fit → (y1.h : Int) ≤ left → (y2.h : Int) ≤ left → ∀ S7, S7[k]? = some (.lst (us.map Wu.e ++ [.tup [y1.e, .int (left - 1)], .tup [y2.e, .int (left - 1)]])) → Sub S S7 → ∃ m', m' < szU (us ++ [(u, left)]) ∧ ∃ (ws : List (U × Int)) (i' : Nat) (x5 x6 x7' : Option D), [some (.int 1), some t.e, some (.int 40), some (.ref k), some (.int (i + 1)), some u.e, some (.int left), x7] = [some (.int 1), some t.e, some (.int 40), some (.ref k), some (.int i'), x5, x6, x7'] ∧ S7[k]? = some (.lst (ws.map Wu.e)) ∧ Sub S S7 ∧ m' = szU ws ∧ i' + szU ws ≤ 100000 ∧ ∀ w ∈ ws, w.1.fit ∧ (w.1.h : Int) ≤ w.2 + 1 := by
        intro y1 y2 x7 hy f1 f2 g1 g2 S7 a7 s7'
        have hz : szU (us ++ [(y1, left - 1), (y2, left - 1)]) = szU us + (y1.sz + y2.sz) := by rw [szU_app]; rfl
        refine ⟨szU (us ++ [(y1, left - 1), (y2, left - 1)]), by rw [hz, szU_app, hu]; omega, us ++ [(y1, left - 1), (y2, left - 1)], i + 1, _, _, _, rfl, ?_, s7', rfl, by rw [hz]; omega, ?_⟩
        · rw [a7, List.map_append]; rfl
        · intro w hw
          rcases List.mem_append.mp hw with h | h
          · exact hfr w h
          · rcases List.mem_cons.mp h with h | h
            · rw [h]; exact ⟨f1, by show (y1.h : Int) ≤ left - 1 + 1; omega⟩
            · rw [List.mem_singleton.mp h]; exact ⟨f2, by show (y2.h : Int) ≤ left - 1 + 1; omega⟩
      cases u with
      | less a c =>
        rw [U.e] at *
        repeat array_get_dec
        exact leafs _
      | rest a c d =>
        rw [U.e] at *
        repeat array_get_dec
        exact leafs _
      | an y1 y2 =>
        rw [U.e] at *
        simp only [U.h] at hlu
        repeat array_get_dec
        refine wp_lcR [(y1.e, .tup [y1.e, .int (left - 1)]), (y2.e, .tup [y2.e, .int (left - 1)])] rfl stands_nil ?_ (fun z hz S3 s3 => ?_) fun k7 S7 s7 h7 a7 => ?_
        · exact Nat.le_of_ble_eq_true rfl
        · have hz : z = (y1.e, .tup [y1.e, .int (left - 1)]) ∨ z = (y2.e, .tup [y2.e, .int (left - 1)]) := by simpa using hz
          rcases hz with rfl | rfl
          · refine ⟨_, rfl, ?_⟩
            repeat array_get_dec
            exact ⟨rfl, Sub.refl _⟩
          · refine ⟨_, rfl, ?_⟩
            repeat array_get_dec
            exact ⟨rfl, Sub.refl _⟩
        repeat array_get_dec
        refine m_ext (s7 _ _ a6) a7 (fun z => (ne_of_some a6 h7) z.symm) (big_len (by simp; omega)) ?_
        repeat array_get_dec
        exact twos y1 y2 _ rfl hfu.1 hfu.2 (by omega) (by omega) _ (get_set (s7 _ _ a6)) ((s6.trans s7).set nk _)
      | orr y1 y2 =>
        rw [U.e] at *
        simp only [U.h] at hlu
        repeat array_get_dec
        refine wp_lcR [(y1.e, .tup [y1.e, .int (left - 1)]), (y2.e, .tup [y2.e, .int (left - 1)])] rfl stands_nil ?_ (fun z hz S3 s3 => ?_) fun k7 S7 s7 h7 a7 => ?_
        · exact Nat.le_of_ble_eq_true rfl
        · have hz : z = (y1.e, .tup [y1.e, .int (left - 1)]) ∨ z = (y2.e, .tup [y2.e, .int (left - 1)]) := by simpa using hz
          rcases hz with rfl | rfl
          · refine ⟨_, rfl, ?_⟩
            repeat array_get_dec
            exact ⟨rfl, Sub.refl _⟩
          · refine ⟨_, rfl, ?_⟩
            repeat array_get_dec
            exact ⟨rfl, Sub.refl _⟩
        repeat array_get_dec
        refine m_ext (s7 _ _ a6) a7 (fun z => (ne_of_some a6 h7) z.symm) (big_len (by simp; omega)) ?_
        repeat array_get_dec
        exact twos y1 y2 _ rfl hfu.1 hfu.2 (by omega) (by omega) _ (get_set (s7 _ _ a6)) ((s6.trans s7).set nk _)
  · rw [show szU [(t, (40 : Int))] = t.sz by unfold szU; simp]; omega
  · intro w hw
    rw [List.mem_singleton.mp hw]
    exact ⟨hf, by show (t.h : Int) ≤ 40 + 1; omega⟩
theorem c20 {t : U} (hn : 5 ≤ n) (hf : t.fit) (hs : t.sz ≤ 100000) (hh : t.h ≤ 41) : Gv ((p.G n).call 20 [.int 1, t.e] S) S (.bl true) := by
  refine c_of d20 rfl (by omega) rfl fun m e => ?_
  unfold d20
  repeat array_get_dec
  refine (c4 (by omega)).use fun S1 s1 => ?_
  repeat array_get_dec
  exact (c19 (by omega) hf hs hh).use fun S2 s2 => ⟨rfl, s1.trans s2⟩
theorem c22 {t : U} {x : Int} (hn : 6 ≤ n) (hn2 : t.h + 2 ≤ n) (hf : t.fit) (hs : t.sz ≤ 100000) (hh : t.h ≤ 41) (hx : 0 ≤ x ∧ x ≤ 1000000000000000000000000000000) : Gv ((p.G n).call 22 [.int 1, t.e, .tup [.int x]] S) S (.bl (t.holds x)) := by
  refine c_of d22 rfl (by omega) rfl fun m e => ?_
  unfold d22
  repeat array_get_dec
  refine (c20 (by omega) hf hs hh).use fun S1 s1 => ?_
  repeat array_get_dec
  refine (c12 (by omega) hx).use fun S2 s2 => ?_
  repeat array_get_dec
  exact (c21u t m _ (by omega) hf).use fun S3 s3 => ⟨rfl, (s1.trans s2).trans s3⟩
end
end K89
set_option Elab.async false
set_option linter.all false
set_option maxRecDepth 100000
set_option maxHeartbeats 1000000
namespace K89
open PySem PySem.Spec PyProof.Rows L2 Py
/-! ### facts of the body -/
theorem foldl_lcm_dvd : ∀ (l : List Int) (f : Nat), f ∣ l.foldl (fun f i => Nat.lcm f i.natAbs) f
  | [], f => Nat.dvd_refl f
  | i :: l, f => Nat.dvd_trans (Nat.dvd_lcm_left f i.natAbs) (foldl_lcm_dvd l _)
theorem dvd_lcmL {l : List Int} {i : Int} (h : i ∈ l) : i.natAbs ∣ lcmL l := by
  have gen : ∀ (l : List Int) (f : Nat), i ∈ l → i.natAbs ∣ l.foldl (fun f i => Nat.lcm f i.natAbs) f := by
    intro l
    induction l with
    | nil => intro f h; cases h
    | cons j l ih =>
      intro f h
      rcases List.mem_cons.mp h with rfl | h
      · exact Nat.dvd_trans (Nat.dvd_lcm_right f i.natAbs) (foldl_lcm_dvd l _)
      · exact ih _ h
  exact gen l 1 h
/-- the least one: it divides whatever all divide -/
theorem lcmL_dvd {l : List Int} {k : Nat} (h : ∀ i ∈ l, i.natAbs ∣ k) : lcmL l ∣ k := by
  have gen : ∀ (l : List Int) (f : Nat), (∀ i ∈ l, i.natAbs ∣ k) → f ∣ k → l.foldl (fun f i => Nat.lcm f i.natAbs) f ∣ k := by
    intro l
    induction l with
    | nil => intro f _ hf; exact hf
    | cons j l ih =>
      intro f h hf
      exact ih _ (fun i hi => h i (List.mem_cons_of_mem _ hi)) (Nat.lcm_dvd hf (h j List.mem_cons_self))
  exact gen l 1 h (Nat.one_dvd _)
theorem T.span_pos (t : T) : 0 < t.span := lcmL_pos fun i hi => by
  have := (List.mem_filter.mp hi).2
  simpa using this
theorem T.b_dvd (t : T) {l : T} (hl : l ∈ t.lv) (hb : l.b ≠ 0) : l.b.natAbs ∣ t.span :=
  dvd_lcmL (List.mem_filter.mpr ⟨List.mem_map.mpr ⟨l, hl, rfl⟩, by simpa using hb⟩)
theorem T.scale_lv (span : Int) : ∀ t : T, (t.scale span).lv = t.lv.map (T.scale span)
  | .less _ _ _ => rfl
  | .rest _ _ _ _ => rfl
  | .an x y => by simp only [T.scale, T.lv, T.scale_lv span x, T.scale_lv span y, List.map_append]
  | .orr x y => by simp only [T.scale, T.lv, T.scale_lv span x, T.scale_lv span y, List.map_append]
theorem times_ok {span b : Int} (h0 : 0 < span) (h1 : span ≤ 1000) (hb : b ≠ 0 → (b.natAbs : Int) ≤ span) : 0 < times span b ∧ times span b ≤ 1000 := by
  unfold times
  split
  · omega
  · rename_i h
    have hb := hb h
    have h2 : 0 < (b.natAbs : Int) := by omega
    have h3 : 1 ≤ span / (b.natAbs : Int) := Int.le_ediv_of_mul_le h2 (by omega)
    exact ⟨by omega, Int.le_trans (Int.ediv_le_self _ (by omega)) h1⟩
theorem sgn_ok {span b : Int} : -1 ≤ sgn span b ∧ sgn span b ≤ 1 := by
  unfold sgn
  split
  · omega
  · split <;> omega
theorem mul_bnd {a m A M : Int} (ha : -A ≤ a ∧ a ≤ A) (hm : 0 ≤ m ∧ m ≤ M) (hA : 0 ≤ A) : -(A * M) ≤ a * m ∧ a * m ≤ A * M := by
  have h1 : a * m ≤ A * m := Int.mul_le_mul_of_nonneg_right ha.2 hm.1
  have h2 : A * m ≤ A * M := Int.mul_le_mul_of_nonneg_left hm.2 hA
  have h3 : -A * m ≤ a * m := Int.mul_le_mul_of_nonneg_right ha.1 hm.1
  have h4 : -A * m = -(A * m) := Int.neg_mul _ _
  omega
/-- what is asked of the law's statements -/
structure Tok (t : T) : Prop where
  fit : t.fit
  h : t.h ≤ 5
  sz : t.sz ≤ 9
  span : t.span ≤ 1000
theorem Tok.b {t : T} (k : Tok t) {l : T} (hl : l ∈ t.lv) : l.b ≠ 0 → (l.b.natAbs : Int) ≤ (t.span : Int) := fun hb => by
  have := Nat.le_of_dvd t.span_pos (t.b_dvd hl hb)
  omega
theorem Tok.times {t : T} (k : Tok t) {l : T} (hl : l ∈ t.lv) : 0 < times t.span l.b ∧ times t.span l.b ≤ 1000 :=
  times_ok (by have := t.span_pos; omega) (by have := k.span; omega) (k.b hl)
theorem mid_scale {span : Int} : ∀ t : T, t.fit → (∀ l ∈ t.lv, 0 < times span l.b ∧ times span l.b ≤ 1000) → (t.scale span).mid
  | .less a b c, hf, ht => by
    have h1 := ht _ (List.mem_singleton.mpr rfl)
    simp only [T.b] at h1
    have h2 := sgn_ok (span := span) (b := b)
    have h3 := mul_bnd (A := 9) (M := 1000) (a := a) (m := times span b) (by have := hf.1; omega) (by omega) (by omega)
    simp only [T.scale, T.mid]
    exact ⟨by omega, by omega⟩
  | .rest a b c d, hf, ht => by
    have h1 := ht _ (List.mem_singleton.mpr rfl)
    simp only [T.b] at h1
    have h2 := sgn_ok (span := span) (b := b)
    have h3 := mul_bnd (A := 9) (M := 1000) (a := a) (m := times span b) (by have := hf.1; omega) (by omega) (by omega)
    simp only [T.scale, T.mid]
    exact ⟨by omega, by omega, Int.mul_pos (by have := hf.2.2.2; omega) h1.1⟩
  | .an x y, hf, ht => ⟨mid_scale x hf.1 fun l hl => ht l (List.mem_append_left _ hl), mid_scale y hf.2 fun l hl => ht l (List.mem_append_right _ hl)⟩
  | .orr x y, hf, ht => ⟨mid_scale x hf.1 fun l hl => ht l (List.mem_append_left _ hl), mid_scale y hf.2 fun l hl => ht l (List.mem_append_right _ hl)⟩
/-- the body of the law's statements -/
def T.bd (t : T) : T := t.body t.span
theorem Tok.mid {t : T} (k : Tok t) : t.bd.mid := by
  have := t.span_pos
  refine ⟨mid_scale t k.fit fun l hl => k.times hl, ?_⟩
  unfold T.whole T.mid
  omega
theorem bd_sz (t : T) : t.bd.sz = t.sz + 2 := by unfold T.bd T.body; rw [T.sz, T.scale_sz]; rfl
theorem bd_h (t : T) : t.bd.h = t.h + 1 := by
  unfold T.bd T.body
  rw [T.h, T.scale_h]
  have := t.h_pos
  simp only [T.whole, T.h]
  omega
theorem bd_lv (t : T) : t.bd.lv = t.lv.map (T.scale t.span) ++ [.whole t.span] := by
  unfold T.bd T.body
  rw [T.lv, T.scale_lv]
  rfl
theorem Tok.dv {t : T} (k : Tok t) : ∀ l ∈ t.bd.lv, l.is_rest = true → l.dv ≠ 0 ∧ l.dv.natAbs < 2 ^ 63 := by
  intro l hl hr
  have hsp := t.span_pos
  have hs2 := k.span
  rw [bd_lv] at hl
  rcases List.mem_append.mp hl with h | h
  · obtain ⟨y, hy, rfl⟩ := List.mem_map.mp h
    have hf := t.fit_lv k.fit y hy
    have ht := k.times hy
    cases y with
    | less a b c => cases hr
    | rest a b c d =>
      simp only [T.b] at ht
      have h3 := mul_bnd (A := 12) (M := 1000) (a := d) (m := K89.times t.span b) (by have := hf.2.2.2; omega) (by omega) (by omega)
      have h4 : 0 < d * K89.times t.span b := Int.mul_pos (by have := hf.2.2.2; omega) ht.1
      simp only [T.scale, T.dv]
      omega
    | an x y => cases hr
    | orr x y => cases hr
  · rw [List.mem_singleton.mp h]
    simp only [T.whole, T.dv]
    omega
theorem Tok.step_pos {t : T} (k : Tok t) : 0 < t.bd.step := lcmL_pos fun i hi => by
  obtain ⟨l, hl, rfl⟩ := List.mem_map.mp hi
  obtain ⟨h1, h2⟩ := List.mem_filter.mp hl
  exact (k.dv l h1 h2).1
theorem lows_len (t : T) : t.lows.length ≤ t.sz + 1 := by
  have h1 := len_srtP (lowsL t.lv)
  have h2 := List.length_filterMap_le lowOf t.lv
  have h3 := lv_len t
  have h4 : (lowsL t.lv).length = (t.lv.filterMap lowOf).length + 1 := rfl
  unfold T.lows
  omega
theorem lows_ne (t : T) : (0, 0) ∈ t.lows := mem_srtP.mpr (by simp [lowsL])
/-- bounds of the terms -/
theorem Tok.low {t : T} (k : Tok t) : ∀ q ∈ t.bd.lows, (-9000 ≤ q.1 ∧ q.1 ≤ 9000) ∧ -1000000000 ≤ q.2 ∧ q.2 ≤ 1000000000 := by
  intro q hq
  rcases List.mem_cons.mp (mem_srtP.mp hq) with rfl | h
  · omega
  · obtain ⟨l, hl, e⟩ := List.mem_filterMap.mp h
    rw [bd_lv] at hl
    rcases List.mem_append.mp hl with h | h
    · obtain ⟨y, hy, rfl⟩ := List.mem_map.mp h
      have hf := t.fit_lv k.fit y hy
      have ht := k.times hy
      cases y with
      | less a b c =>
        simp only [T.b] at ht
        have h3 := mul_bnd (A := 9) (M := 1000) (a := a) (m := K89.times t.span b) (by have := hf.1; omega) (by omega) (by omega)
        have h4 := mul_bnd (A := 1000000) (M := 1000) (a := c) (m := K89.times t.span b) (by have := hf.2.2; omega) (by omega) (by omega)
        simp only [T.scale, lowOf] at e
        split at e
        · cases e
          dsimp only
          omega
        · cases e
      | rest a b c d => cases e
      | an x y => cases e
      | orr x y => cases e
    · rw [List.mem_singleton.mp h] at e
      cases e
local macro_rules | `(tactic| array_get_dec) => `(tactic| first
  | with_reducible refine s_cons ?_
  | with_reducible refine s_nil ?_
  | with_reducible refine s_cnd ?_
  | with_reducible refine s_ret ?_
  | (with_reducible refine w_var ?_; refine ⟨_, rfl, ?_⟩)
  | with_reducible refine w_int ?_
  | with_reducible refine w_str ?_
  | with_reducible refine w_bl ?_
  | with_reducible refine w_non ?_
  | with_reducible refine a_cons ?_
  | with_reducible refine a_nil ?_
  | with_reducible refine w_call ?_
  | with_reducible refine t_call ?_
  | with_reducible refine w_tup ?_
  | with_reducible refine w_cmp ?_
  | with_reducible refine t_cmp ?_
  | with_reducible refine w_ix ?_
  | with_reducible refine w_bin ?_
  | with_reducible refine w_isi ?_
  | with_reducible refine t_isi ?_
  | with_reducible refine w_nt ?_
  | with_reducible refine t_nt ?_
  | with_reducible refine w_con ?_
  | with_reducible refine t_con ?_
  | with_reducible refine w_dis ?_
  | with_reducible refine t_dis ?_
  | with_reducible refine w_chn ?_
  | with_reducible refine w_ife ?_
  | with_reducible refine w_bi ?_
  | with_reducible refine t_bi ?_
  | with_reducible refine w_neg ?_
  | with_reducible refine w_sl ?_
  | with_reducible refine o_no ?_
  | with_reducible refine o_yes ?_
  | with_reducible refine s_set ?_
  | with_reducible refine s_par ?_
  | with_reducible refine s_ex ?_
  | with_reducible refine s_rse ?_
  | with_reducible refine s_rep ?_
  | with_reducible refine s_whl ?_
  | with_reducible refine s_brk ?_
  | with_reducible refine s_sub ?_
  | with_reducible refine w_lst ?_
  | with_reducible refine w_lc ?_
  | with_reducible refine w_mth ?_
  | with_reducible refine i_seq ?_
  | with_reducible refine i_r1 ?_
  | with_reducible refine i_r2 ?_
  | with_reducible refine i_zip ?_
  | with_reducible refine ot_no ?_
  | with_reducible refine ot_yes ?_
  | (with_reducible refine t_var ?_; refine ⟨_, _, rfl, rfl, ?_⟩)
  | with_reducible refine w_isN ?_
  | with_reducible refine t_isN ?_
  | with_reducible refine t_isB ?_
  | with_reducible refine t_isx ?_
  | with_reducible refine t_ix ?_
  | with_reducible refine w_fld ?_
  | with_reducible refine w_heard ?_
  | with_reducible refine w_lrange ?_
  | with_reducible refine a_star ?_
  | with_reducible refine w_glb con_0 ?_
  | with_reducible refine w_glb con_1 ?_
  | with_reducible refine w_glb con_2 ?_
  | with_reducible refine w_glb con_3 ?_
  | with_reducible refine w_glb con_4 ?_
  | with_reducible refine w_glb con_5 ?_
  | with_reducible refine w_glb con_6 ?_
  | with_reducible refine w_glb con_7 ?_
  | with_reducible refine w_glb con_8 ?_
  | with_reducible refine w_glb con_9 ?_
  | with_reducible refine w_glb con_10 ?_
  | with_reducible refine w_glb con_11 ?_
  | with_reducible refine w_glb con_12 ?_
  | with_reducible refine w_glb con_13 ?_
  | with_reducible refine w_glb con_14 ?_
  | with_reducible refine w_glb con_15 ?_
  | with_reducible refine w_glb con_16 ?_
  | with_reducible refine w_glb con_17 ?_
  | with_reducible refine w_glb con_18 ?_
  | with_reducible refine w_glb con_19 ?_
  | with_reducible refine w_glb con_20 ?_
  | with_reducible refine w_glb con_21 ?_
  | with_reducible refine w_glb con_22 ?_
  | with_reducible refine w_glb con_23 ?_
  | with_reducible refine r_cut1 ?_
  | with_reducible refine r_cut3 ?_
  | with_reducible refine r_cutL ?_
  | with_reducible refine r_cutL1 ?_
  | with_reducible refine b_tup1 ?_
  | with_reducible refine r_abs ?_
  | with_reducible refine r_max ?_
  | with_reducible refine r_min ?_
  | with_reducible refine r_intI ?_
  | with_reducible refine r_intB ?_
  | with_reducible refine r_lenT ?_
  | with_reducible refine b_add ?_
  | with_reducible refine b_sub ?_
  | with_reducible refine b_mulR (by omega) ?_
  | with_reducible refine b_mulL (by omega) ?_
  | with_reducible refine b_div64 (by omega) ?_
  | with_reducible refine b_mod (by omega) ?_
  | with_reducible refine ⟨_, ix0, ?_⟩
  | with_reducible refine ⟨_, ix1, ?_⟩
  | with_reducible refine ⟨_, ix2, ?_⟩
  | with_reducible refine ⟨_, ix3, ?_⟩
  | with_reducible refine ⟨_, ixL, ?_⟩
  | refine ⟨Nat.le_of_ble_eq_true rfl, ?_⟩
  | refine ⟨fun _ => ?_, fun z => absurd z (by decide +kernel)⟩
  | refine ⟨fun z => absurd z (by decide +kernel), fun _ => ?_⟩
  | refine ⟨fun _ => ?_, fun z => Bool.noConfusion (show true = false from z)⟩
  | refine ⟨fun _ => ?_, fun z => Bool.noConfusion (show false = true from z)⟩
  | refine ⟨fun z => Bool.noConfusion (show true = false from z), fun _ => ?_⟩
  | refine ⟨fun z => Bool.noConfusion (show false = true from z), fun _ => ?_⟩
  | refine ⟨fun _ => ?_, fun z => absurd z (by simp only [Bool.not_eq_true', Bool.not_eq_false', decide_eq_true_eq, decide_eq_false_iff_not]; omega)⟩
  | refine ⟨fun z => absurd z (by simp only [Bool.not_eq_true', Bool.not_eq_false', decide_eq_true_eq, decide_eq_false_iff_not]; omega), fun _ => ?_⟩
  | refine ⟨_, rfl, ?_⟩)

section
variable {n : Nat} {S : Sto}
theorem c27b {t : T} (k : Tok t) (hn : 30 ≤ n) : Gv ((p.G n).call 27 [.int 1, t.e] S) S (.tup [t.bd.e, .int t.span]) :=
  c27 (by have := k.h; omega) k.fit (by have := k.sz; omega) k.span
theorem c28b {t : T} (k : Tok t) (hn : 30 ≤ n) : GvL ((p.G n).call 28 [.int 1, t.bd.e] S) S (t.bd.lows.map Ns.pairD) :=
  c28 (by have := k.h; rw [bd_h]; omega) (by have := k.sz; rw [bd_sz]; omega)
theorem c29b {t : T} (k : Tok t) (hn : 30 ≤ n) : Gv ((p.G n).call 29 [t.bd.e] S) S (.int t.bd.step) :=
  c29 (by have := k.h; rw [bd_h]; omega) (by have := k.sz; rw [bd_sz]; omega) k.dv
theorem c30b {t : T} (k : Tok t) (hn : 30 ≤ n) : Gv ((p.G n).call 30 [.int 1, someD t] S) S .non :=
  c30 (by omega) (by have := k.h; omega) k.fit (by have := k.sz; omega)
/-- what terms tells -/
def dueD (t : T) : D := .tup [.tup (t.bd.lows.map Ns.pairD), .int t.bd.step, .int t.span]
theorem c32 {t : T} (k : Tok t) (hn : 40 ≤ n) : Gv ((p.G n).call 32 [.int 1, someD t] S) S (dueD t) := by
  refine c_of d32 rfl (by omega) rfl fun m e => ?_
  unfold d32
  repeat array_get_dec
  refine (c30b k (by omega)).use fun S1 s1 => ?_
  repeat array_get_dec
  refine (c31 (by omega)).use fun S2 s2 => ?_
  repeat array_get_dec
  refine (c27b k (by omega)).use fun S3 s3 => ?_
  repeat array_get_dec
  refine (c28b k (by omega)).use fun k4 S4 s4 h4 a4 => ?_
  repeat array_get_dec
  refine wp_tupl a4 ?_
  repeat array_get_dec
  refine (c29b k (by omega)).use fun S5 s5 => ?_
  repeat array_get_dec
  exact ⟨rfl, (((s1.trans s2).trans s3).trans s4).trans s5⟩
theorem c38 {t : T} (k : Tok t) (hn : 40 ≤ n) : Gv ((p.G n).call 38 [.int 1, someD t, .str "some"] S) S .non := by
  refine c_of d38 rfl (by omega) rfl fun m e => ?_
  unfold d38
  repeat array_get_dec
  refine (c30b k (by omega)).use fun S1 s1 => ?_
  unfold someD
  repeat array_get_dec
  exact ⟨rfl, s1⟩
end
end K89
set_option Elab.async false
set_option linter.all false
set_option maxRecDepth 100000
set_option maxHeartbeats 1000000
namespace K89
open PySem PySem.Spec PyProof.Rows L2 Py
theorem rgD0 (n : Nat) : rgD 0 (n : Int) = (List.range n).map fun i : Nat => D.int (i : Int) := by
  unfold rgD
  simp
theorem rgDb (b : Int) (n : Nat) : rgD b (b + (n : Int)) = (List.range n).map fun i : Nat => D.int (b + (i : Int)) := by
  unfold rgD
  rw [show (b + (n : Int) - b).toNat = n by omega]
/-- what is done of a walk over a list that is told one for one -/
theorem split_map {α : Type} {f : α → D} {l : List α} {done rest : List D} {x : D} (h : l.map f = done ++ x :: rest) : ∃ l1 y l2, l = l1 ++ y :: l2 ∧ done = l1.map f ∧ x = f y := by
  obtain ⟨l1, l2, rfl, h1, h2⟩ := List.map_eq_append_iff.mp h
  obtain ⟨y, l3, rfl, h3, _⟩ := List.map_eq_cons_iff.mp h2
  exact ⟨l1, y, l3, rfl, h1.symm, h3.symm⟩
theorem range_split {n : Nat} {l1 l2 : List Nat} {y : Nat} (h : List.range n = l1 ++ y :: l2) : l1 = List.range y ∧ y < n := by
  have h1 : l1.length < n := by
    have := congrArg List.length h
    simp at this
    omega
  have e1 : (List.range n)[l1.length]? = some y := by rw [h]; simp
  rw [List.getElem?_range h1] at e1
  cases e1
  refine ⟨?_, h1⟩
  have e2 : (List.range n).take l1.length = l1 := by rw [h]; simp
  rw [List.take_range] at e2
  rw [Nat.min_eq_left (by omega)] at e2
  exact e2.symm
/-- one part of what stands without the some -/
def T.part (t : T) (q : Int × Int) (j : Nat) : U := .an (.less (-q.1) (q.2 + j)) (t.put q.1 (q.2 + j))
def T.parts (t : T) (st : Nat) (l : List (Int × Int)) : List U := l.flatMap fun q => (List.range st).map (t.part q)
theorem parts_len (t : T) (st : Nat) (l : List (Int × Int)) : (t.parts st l).length = l.length * st := by
  unfold T.parts
  induction l with
  | nil => simp
  | cons q l ih => rw [List.flatMap_cons, List.length_append, ih, List.length_map, List.length_range, List.length_cons, Nat.succ_mul]; omega
theorem parts_snoc (t : T) (st : Nat) (l : List (Int × Int)) (q : Int × Int) : t.parts st (l ++ [q]) = t.parts st l ++ (List.range st).map (t.part q) := by
  unfold T.parts
  simp
def T.all (t : T) : List U := t.bd.parts t.bd.step t.bd.lows
def T.elim (t : T) : U := joinU 10 t.all
theorem wp_minL {k : Nat} {S : Sto} {Q : D → Sto → Prop} {X : XP} {i : Int} {is : List Int} (e : S[k]? = some (.lst ((i :: is).map D.int))) (h : Q (.int (is.foldl min i)) S) : wp (biop .min [.ref k] S) Q X := by
  have e2 : (lstOf S (.ref k)).bind intsD = some (i :: is) := by
    have := intsD_map (l := i :: is) (v := D.int) (b := id) fun _ _ => rfl
    rw [List.map_id] at this
    simp only [lstOf, e, Option.bind_some, this]
  simp only [biop, bints, e2]; exact h
local macro_rules | `(tactic| array_get_dec) => `(tactic| first
  | with_reducible refine s_cons ?_
  | with_reducible refine s_nil ?_
  | with_reducible refine s_cnd ?_
  | with_reducible refine s_ret ?_
  | (with_reducible refine w_var ?_; refine ⟨_, rfl, ?_⟩)
  | with_reducible refine w_int ?_
  | with_reducible refine w_str ?_
  | with_reducible refine w_bl ?_
  | with_reducible refine w_non ?_
  | with_reducible refine a_cons ?_
  | with_reducible refine a_nil ?_
  | with_reducible refine w_call ?_
  | with_reducible refine t_call ?_
  | with_reducible refine w_tup ?_
  | with_reducible refine w_cmp ?_
  | with_reducible refine t_cmp ?_
  | with_reducible refine w_ix ?_
  | with_reducible refine w_bin ?_
  | with_reducible refine w_isi ?_
  | with_reducible refine t_isi ?_
  | with_reducible refine w_nt ?_
  | with_reducible refine t_nt ?_
  | with_reducible refine w_con ?_
  | with_reducible refine t_con ?_
  | with_reducible refine w_dis ?_
  | with_reducible refine t_dis ?_
  | with_reducible refine w_chn ?_
  | with_reducible refine w_ife ?_
  | with_reducible refine w_bi ?_
  | with_reducible refine t_bi ?_
  | with_reducible refine w_neg ?_
  | with_reducible refine w_sl ?_
  | with_reducible refine o_no ?_
  | with_reducible refine o_yes ?_
  | with_reducible refine s_set ?_
  | with_reducible refine s_par ?_
  | with_reducible refine s_ex ?_
  | with_reducible refine s_rse ?_
  | with_reducible refine s_rep ?_
  | with_reducible refine s_whl ?_
  | with_reducible refine s_brk ?_
  | with_reducible refine s_sub ?_
  | with_reducible refine w_lst ?_
  | with_reducible refine w_lc ?_
  | with_reducible refine w_mth ?_
  | with_reducible refine i_seq ?_
  | with_reducible refine i_r1 ?_
  | with_reducible refine i_r2 ?_
  | with_reducible refine i_zip ?_
  | with_reducible refine ot_no ?_
  | with_reducible refine ot_yes ?_
  | (with_reducible refine t_var ?_; refine ⟨_, _, rfl, rfl, ?_⟩)
  | with_reducible refine w_isN ?_
  | with_reducible refine t_isN ?_
  | with_reducible refine t_isB ?_
  | with_reducible refine t_isx ?_
  | with_reducible refine t_ix ?_
  | with_reducible refine w_fld ?_
  | with_reducible refine w_heard ?_
  | with_reducible refine w_lrange ?_
  | with_reducible refine a_star ?_
  | with_reducible refine w_glb con_0 ?_
  | with_reducible refine w_glb con_1 ?_
  | with_reducible refine w_glb con_2 ?_
  | with_reducible refine w_glb con_3 ?_
  | with_reducible refine w_glb con_4 ?_
  | with_reducible refine w_glb con_5 ?_
  | with_reducible refine w_glb con_6 ?_
  | with_reducible refine w_glb con_7 ?_
  | with_reducible refine w_glb con_8 ?_
  | with_reducible refine w_glb con_9 ?_
  | with_reducible refine w_glb con_10 ?_
  | with_reducible refine w_glb con_11 ?_
  | with_reducible refine w_glb con_12 ?_
  | with_reducible refine w_glb con_13 ?_
  | with_reducible refine w_glb con_14 ?_
  | with_reducible refine w_glb con_15 ?_
  | with_reducible refine w_glb con_16 ?_
  | with_reducible refine w_glb con_17 ?_
  | with_reducible refine w_glb con_18 ?_
  | with_reducible refine w_glb con_19 ?_
  | with_reducible refine w_glb con_20 ?_
  | with_reducible refine w_glb con_21 ?_
  | with_reducible refine w_glb con_22 ?_
  | with_reducible refine w_glb con_23 ?_
  | with_reducible refine r_cut1 ?_
  | with_reducible refine r_cut3 ?_
  | with_reducible refine r_cutL ?_
  | with_reducible refine r_cutL1 ?_
  | with_reducible refine b_tup1 ?_
  | with_reducible refine r_abs ?_
  | with_reducible refine r_max ?_
  | with_reducible refine r_min ?_
  | with_reducible refine r_intI ?_
  | with_reducible refine r_intB ?_
  | with_reducible refine r_lenT ?_
  | with_reducible refine b_add ?_
  | with_reducible refine b_sub ?_
  | with_reducible refine b_mulR (by omega) ?_
  | with_reducible refine b_mulL (by omega) ?_
  | with_reducible refine b_div64 (by omega) ?_
  | with_reducible refine b_mod (by omega) ?_
  | with_reducible refine ⟨_, ix0, ?_⟩
  | with_reducible refine ⟨_, ix1, ?_⟩
  | with_reducible refine ⟨_, ix2, ?_⟩
  | with_reducible refine ⟨_, ix3, ?_⟩
  | with_reducible refine ⟨_, ixL, ?_⟩
  | refine ⟨Nat.le_of_ble_eq_true rfl, ?_⟩
  | refine ⟨fun _ => ?_, fun z => absurd z (by decide +kernel)⟩
  | refine ⟨fun z => absurd z (by decide +kernel), fun _ => ?_⟩
  | refine ⟨fun _ => ?_, fun z => Bool.noConfusion (show true = false from z)⟩
  | refine ⟨fun _ => ?_, fun z => Bool.noConfusion (show false = true from z)⟩
  | refine ⟨fun z => Bool.noConfusion (show true = false from z), fun _ => ?_⟩
  | refine ⟨fun z => Bool.noConfusion (show false = true from z), fun _ => ?_⟩
  | refine ⟨fun _ => ?_, fun z => absurd z (by simp only [Bool.not_eq_true', Bool.not_eq_false', decide_eq_true_eq, decide_eq_false_iff_not]; omega)⟩
  | refine ⟨fun z => absurd z (by simp only [Bool.not_eq_true', Bool.not_eq_false', decide_eq_true_eq, decide_eq_false_iff_not]; omega), fun _ => ?_⟩
  | refine ⟨_, rfl, ?_⟩)

section
variable {n : Nat} {S : Sto}
/-- without the some: too many parts -/
theorem c36x {t : T} (k : Tok t) (hn : 40 ≤ n) (hm : 3000 < t.bd.step * t.bd.lows.length * t.bd.sz) (hst : t.bd.step < 2 ^ 60) : wp ((p.G n).call 36 [.int 1, someD t] S) (fun _ _ => False) (fun x S' => x = (4, .int 3000) ∧ Sub S S') := by
  refine c_of d36 rfl (by omega) rfl fun m e => ?_
  unfold d36
  repeat array_get_dec
  refine (c30b k (by omega)).use fun S1 s1 => ?_
  repeat array_get_dec
  refine (c31 (by omega)).use fun S2 s2 => ?_
  repeat array_get_dec
  refine (c27b k (by omega)).use fun S3 s3 => ?_
  repeat array_get_dec
  refine (c28b k (by omega)).use fun k4 S4 s4 h4 a4 => ?_
  repeat array_get_dec
  refine (c29b k (by omega)).use fun S5 s5 => ?_
  repeat array_get_dec
  refine wp_len (s5 _ _ a4) ?_
  have hll := lows_len t.bd
  have hsz := bd_sz t
  have htz := k.sz
  rw [List.length_map]
  repeat array_get_dec
  refine (c34 t.bd m _ (by have := k.h; rw [bd_h]; omega)).use fun S6 s6 => ?_
  repeat array_get_dec
  have hm' : (3000 : Int) < (t.bd.step : Int) * (t.bd.lows.length : Int) * (t.bd.sz : Int) := by exact_mod_cast hm
  refine ⟨fun _ => ?_, fun z => absurd z (by simp only [decide_eq_false_iff_not]; omega)⟩
  repeat array_get_dec
  exact ⟨rfl, ((((s1.trans s2).trans s3).trans s4).trans s5).trans s6⟩
theorem c36 {t : T} (k : Tok t) (hn : 40 ≤ n) (hm : t.bd.step * t.bd.lows.length * t.bd.sz ≤ 3000) : Gv ((p.G n).call 36 [.int 1, someD t] S) S t.elim.e := by
  have hll := lows_len t.bd
  have hsz := bd_sz t
  have htz := k.sz
  have hlp : 0 < t.bd.lows.length := List.length_pos_of_mem (lows_ne t.bd)
  have hsp := k.step_pos
  have hm2 : t.bd.step * t.bd.lows.length ≤ 1000 := by
    have h3 : 3 ≤ t.bd.sz := by have := t.sz_pos; omega
    have h5 : t.bd.step * t.bd.lows.length * 3 ≤ t.bd.step * t.bd.lows.length * t.bd.sz := Nat.mul_le_mul_left _ h3
    omega
  have hst : t.bd.step ≤ 1000 := Nat.le_trans (Nat.le_mul_of_pos_right _ hlp) hm2
  refine c_of d36 rfl (by omega) rfl fun m e => ?_
  unfold d36
  repeat array_get_dec
  refine (c30b k (by omega)).use fun S1 s1 => ?_
  repeat array_get_dec
  refine (c31 (by omega)).use fun S2 s2 => ?_
  repeat array_get_dec
  refine (c27b k (by omega)).use fun S3 s3 => ?_
  repeat array_get_dec
  refine (c28b k (by omega)).use fun k4 S4 s4 h4 a4 => ?_
  repeat array_get_dec
  refine (c29b k (by omega)).use fun S5 s5 => ?_
  repeat array_get_dec
  refine wp_len (s5 _ _ a4) ?_
  rw [List.length_map]
  repeat array_get_dec
  refine (c34 t.bd m _ (by have := k.h; rw [bd_h]; omega)).use fun S6 s6 => ?_
  repeat array_get_dec
  have hm' : (t.bd.step : Int) * (t.bd.lows.length : Int) * (t.bd.sz : Int) ≤ 3000 := by exact_mod_cast hm
  refine ⟨fun z => absurd z (by simp only [decide_eq_true_eq]; omega), fun _ => ?_⟩
  repeat array_get_dec
  intro k7 S7 s7 h7 a7
  have a47 := s7 _ _ (s6 _ _ (s5 _ _ a4))
  have s70 := (((((s1.trans s2).trans s3).trans s4).trans s5).trans s6).trans s7
  have nk7 : S[k7]? = none := ((((((s1.trans s2).trans s3).trans s4).trans s5).trans s6)).none h7
  have ne : k7 ≠ k4 := (ne_of_some (s6 _ _ (s5 _ _ a4)) h7).symm
  repeat array_get_dec
  refine seqW_ref0 a47 ?_
  refine wf_for (fun done E S8 => ∃ (l1 : List (Int × Int)) (x3 x8 x9 x10 x11 x12 x13 : Option D), done = l1.map Ns.pairD ∧ E = [some (.int 1), some (someD t), some (.ref k7), x3, some t.bd.e, some (.int t.span), some (.ref k4), some (.int t.bd.step), x8, x9, x10, x11, x12, x13] ∧ Sub S S8 ∧ S8[k4]? = some (.lst (t.bd.lows.map Ns.pairD)) ∧ S8[k7]? = some (.lst ((t.bd.parts t.bd.step l1).map U.e))) ⟨[], none, none, none, none, none, none, none, rfl, rfl, s70, a47, a7⟩ ?_ ?_
  · rintro done x rest hd E1 S8 ⟨l1', x3, x8, x9, x10, x11, x12, x13, rfl, rfl, s8, a8, b8⟩
    refine ⟨stands_one a8, ?_⟩
    obtain ⟨l1, q, l2, hl, hd1, rfl⟩ := split_map hd
    have e1 : l1 = l1' := by
      have := congrArg (List.map Ns.unD) hd1
      simp only [List.map_map, show Ns.unD ∘ Ns.pairD = some from rfl] at this
      exact (List.map_inj_right (fun _ _ z => Option.some.inj z)).mp this.symm
    subst e1
    have hlen : l1.length + 1 ≤ t.bd.lows.length := by rw [hl, List.length_append, List.length_cons]; omega
    have hparts : (t.bd.parts t.bd.step l1).length + t.bd.step ≤ 1000 := by
      rw [parts_len]
      have : (l1.length + 1) * t.bd.step ≤ t.bd.lows.length * t.bd.step := Nat.mul_le_mul_right _ hlen
      rw [Nat.succ_mul] at this
      rw [Nat.mul_comm t.bd.step] at hm2
      omega
    refine ⟨_, rfl, ?_⟩
    unfold Ns.pairD
    repeat array_get_dec
    refine wp_lcR [(.int q.1, .int (-q.1))] rfl stands_nil ?_ (fun z hz S3 s3 => ?_) fun k9 S9 s9 h9 a9 => ?_
    · exact Nat.le_of_ble_eq_true rfl
    · obtain rfl : z = (.int q.1, .int (-q.1)) := by simpa using hz
      refine ⟨_, rfl, ?_⟩
      repeat array_get_dec
      exact ⟨rfl, Sub.refl _⟩
    repeat array_get_dec
    refine wp_tupl a9 ?_
    dsimp only [List.map]
    repeat array_get_dec
    refine ⟨by omega, ?_⟩
    rw [rgD0]
    refine wf_for (fun done E S10 => ∃ (j : Nat) (x3 x11 x12 x13 : Option D), done = (List.range j).map (fun i : Nat => D.int (i : Int)) ∧ E = [some (.int 1), some (someD t), some (.ref k7), x3, some t.bd.e, some (.int t.span), some (.ref k4), some (.int t.bd.step), some (.tup [.int q.1]), some (.int q.2), some (.tup [.int (-q.1)]), x11, x12, x13] ∧ Sub S S10 ∧ S10[k4]? = some (.lst (t.bd.lows.map Ns.pairD)) ∧ S10[k7]? = some (.lst ((t.bd.parts t.bd.step l1 ++ (List.range j).map (t.bd.part q)).map U.e))) ⟨0, x3, x11, x12, x13, rfl, rfl, s8.trans s9, s9 _ _ a8, ?_⟩ ?_ ?_
    · rw [s9 _ _ b8]; simp
    · rintro done2 x2 rest2 hd2 E2 S10 ⟨j, y3, y11, y12, y13, rfl, rfl, s10, a10, b10⟩
      refine ⟨stands_nil, ?_⟩
      obtain ⟨r1, j', r2, hr, hr1, rfl⟩ := split_map hd2
      obtain ⟨rfl, hj⟩ := range_split hr
      have ej : j = j' := by
        have := congrArg List.length hr1
        simpa using this
      subst ej
      refine ⟨_, rfl, ?_⟩
      repeat array_get_dec
      refine (c33 t.bd m _ (by have := k.h; rw [bd_h]; omega) k.mid).use fun S11 s11 => ?_
      repeat array_get_dec
      refine m_app (s11 _ _ b10) (Nat.lt_of_le_of_lt (show _ ≤ 1000 by simp; omega) (Nat.le_of_ble_eq_true rfl)) ?_
      repeat array_get_dec
      refine ⟨j + 1, _, _, _, _, ?_, rfl, (s10.trans s11).set nk7 _, get_set_ne (s11 _ _ a10) ne, ?_⟩
      · rw [List.range_succ, List.map_append]; rfl
      · rw [get_set (s11 _ _ b10)]
        simp only [List.range_succ, List.map_append, List.append_assoc, List.map_cons, List.map_nil]
        rfl
    · rintro E2 S10 ⟨j, y3, y11, y12, y13, hd2, rfl, s10, a10, b10⟩
      refine ⟨stands_nil, ?_⟩
      have ej : t.bd.step = j := by
        have := congrArg List.length hd2
        simpa using this
      subst ej
      repeat array_get_dec
      refine ⟨l1 ++ [q], _, _, _, _, _, _, _, ?_, rfl, s10, a10, ?_⟩
      · rw [List.map_append]; rfl
      · rw [b10, parts_snoc]
  · rintro E1 S8 ⟨l1, x3, x8, x9, x10, x11, x12, x13, hd, rfl, s8, a8, b8⟩
    refine ⟨stands_one a8, ?_⟩
    have e1 : t.bd.lows = l1 := by
      have := congrArg (List.map Ns.unD) hd
      simp only [List.map_map, show Ns.unD ∘ Ns.pairD = some from rfl] at this
      exact (List.map_inj_right (fun _ _ z => Option.some.inj z)).mp this
    subst e1
    have hal : t.all.length = t.bd.lows.length * t.bd.step := parts_len _ _ _
    rw [Nat.mul_comm t.bd.step] at hm2
    have hal0 : 0 < t.bd.lows.length * t.bd.step := Nat.mul_pos hlp hsp
    repeat array_get_dec
    refine (c35 10 t.all m k7 _ (by intro z; rw [z] at hal; simp at hal; omega) (by omega) (by omega) (by omega) b8).use fun S9 s9 => ?_
    unfold someD
    repeat array_get_dec
    exact ⟨rfl, s8.trans s9⟩
/-! #### the least last number -/
def T.goodOf (t : T) (x : Int) (st : Nat) (q : Int × Int) : List Int := ((List.range st).map fun i : Nat => q.1 * x + q.2 + (i : Int)).filter fun l => decide (0 ≤ l) && t.holds x l
def T.good (t : T) (x : Int) : List Int := t.bd.lows.flatMap (t.bd.goodOf x t.bd.step)
def leastD (good : List Int) (span : Int) : D := match good with
  | [] => .non
  | i :: is => .int (is.foldl min i / span)
theorem goodOf_len (t : T) (x : Int) (st : Nat) (q : Int × Int) : (t.goodOf x st q).length ≤ st := by
  unfold T.goodOf
  refine Nat.le_trans (List.length_filter_le _ _) (by simp)
theorem good_len (t : T) (x : Int) (st : Nat) : ∀ l : List (Int × Int), (l.flatMap (t.goodOf x st)).length ≤ l.length * st
  | [] => by simp
  | q :: l => by
    rw [List.flatMap_cons, List.length_append, List.length_cons, Nat.succ_mul]
    have := good_len t x st l
    have := goodOf_len t x st q
    omega
theorem c37x {t : T} {x : Int} (k : Tok t) (hn : 40 ≤ n) (hm : 5000 < t.bd.step * t.bd.lows.length) (hst : t.bd.step < 2 ^ 60) : wp ((p.G n).call 37 [.int 1, t.e, .tup [.int x]] S) (fun _ _ => False) (fun x S' => x = (4, .int 5000) ∧ Sub S S') := by
  refine c_of d37 rfl (by omega) rfl fun m e => ?_
  unfold d37
  repeat array_get_dec
  refine (c27b k (by omega)).use fun S3 s3 => ?_
  repeat array_get_dec
  refine (c28b k (by omega)).use fun k4 S4 s4 h4 a4 => ?_
  repeat array_get_dec
  refine (c29b k (by omega)).use fun S5 s5 => ?_
  repeat array_get_dec
  refine wp_len (s5 _ _ a4) ?_
  have hll := lows_len t.bd
  have hsz := bd_sz t
  have htz := k.sz
  rw [List.length_map]
  have hm' : (5000 : Int) < (t.bd.step : Int) * (t.bd.lows.length : Int) := by exact_mod_cast hm
  repeat array_get_dec
  exact ⟨rfl, (s3.trans s4).trans s5⟩
theorem c37 {t : T} {x : Int} (k : Tok t) (hn : 40 ≤ n) (hm : t.bd.step * t.bd.lows.length ≤ 5000) (hx : 0 ≤ x ∧ x ≤ 1000000000000) : Gv ((p.G n).call 37 [.int 1, t.e, .tup [.int x]] S) S (leastD (t.good x) t.span) := by
  have hll := lows_len t.bd
  have hsz := bd_sz t
  have htz := k.sz
  have hsp0 := t.span_pos
  have hsp1 := k.span
  have hlp : 0 < t.bd.lows.length := List.length_pos_of_mem (lows_ne t.bd)
  have hst : t.bd.step ≤ 5000 := Nat.le_trans (Nat.le_mul_of_pos_right _ hlp) hm
  refine c_of d37 rfl (by omega) rfl fun m e => ?_
  unfold d37
  repeat array_get_dec
  refine (c27b k (by omega)).use fun S3 s3 => ?_
  repeat array_get_dec
  refine (c28b k (by omega)).use fun k4 S4 s4 h4 a4 => ?_
  repeat array_get_dec
  refine (c29b k (by omega)).use fun S5 s5 => ?_
  repeat array_get_dec
  refine wp_len (s5 _ _ a4) ?_
  rw [List.length_map]
  have hm' : (t.bd.step : Int) * (t.bd.lows.length : Int) ≤ 5000 := by exact_mod_cast hm
  repeat array_get_dec
  intro k7 S7 s7 h7 a7
  have a47 := s7 _ _ (s5 _ _ a4)
  have s70 := ((s3.trans s4).trans s5).trans s7
  have nk7 : S[k7]? = none := ((s3.trans s4).trans s5).none h7
  have ne : k7 ≠ k4 := (ne_of_some (s5 _ _ a4) h7).symm
  repeat array_get_dec
  refine seqW_ref0 a47 ?_
  refine wf_for (fun done E S8 => ∃ (l1 : List (Int × Int)) (x8 x9 x10 x11 : Option D), done = l1.map Ns.pairD ∧ E = [some (.int 1), some t.e, some (.tup [.int x]), some (.ref k7), some t.bd.e, some (.int t.span), some (.ref k4), some (.int t.bd.step), x8, x9, x10, x11] ∧ Sub S S8 ∧ S8[k4]? = some (.lst (t.bd.lows.map Ns.pairD)) ∧ S8[k7]? = some (.lst ((l1.flatMap (t.bd.goodOf x t.bd.step)).map D.int))) ⟨[], none, none, none, none, rfl, rfl, s70, a47, a7⟩ ?_ ?_
  · rintro done z rest hd E1 S8 ⟨l1', x8, x9, x10, x11, rfl, rfl, s8, a8, b8⟩
    refine ⟨stands_one a8, ?_⟩
    obtain ⟨l1, q, l2, hl, hd1, rfl⟩ := split_map hd
    have e1 : l1 = l1' := by
      have := congrArg (List.map Ns.unD) hd1
      simp only [List.map_map, show Ns.unD ∘ Ns.pairD = some from rfl] at this
      exact (List.map_inj_right (fun _ _ z => Option.some.inj z)).mp this.symm
    subst e1
    have hlen : l1.length + 1 ≤ t.bd.lows.length := by rw [hl, List.length_append, List.length_cons]; omega
    have hparts : (l1.flatMap (t.bd.goodOf x t.bd.step)).length + t.bd.step ≤ 5000 := by
      have h1 := good_len t.bd x t.bd.step l1
      have : (l1.length + 1) * t.bd.step ≤ t.bd.lows.length * t.bd.step := Nat.mul_le_mul_right _ hlen
      rw [Nat.succ_mul] at this
      have hm := hm
      rw [Nat.mul_comm t.bd.step] at hm
      omega
    have hq := k.low q (by rw [hl]; simp)
    have hfx := mul_bnd (A := 9000) (M := 1000000000000) hq.1 hx (by omega)
    refine ⟨_, rfl, ?_⟩
    unfold Ns.pairD
    repeat array_get_dec
    refine (c13_1 (by omega) (by omega)).use fun S9 s9 => ?_
    repeat array_get_dec
    refine ⟨_, _, rfl, rfl, by omega, ?_⟩
    rw [rgDb]
    refine wp_lc (fun d => match d with | .int l => decide (0 ≤ l) && t.bd.holds x l | _ => false) (fun d => d) stands_nil ?_ (fun z hz S3 s3 => ?_) fun k10 S10 s10 h10 a10 => ?_
    · exact big_len (by simp; omega)
    · obtain ⟨i, hi, rfl⟩ := List.mem_map.mp hz
      refine ⟨_, rfl, ?_⟩
      repeat array_get_dec
      refine ⟨fun z => ?_, fun z => ?_⟩
      · repeat array_get_dec
        refine (c21 t.bd m _ (by have := k.h; rw [bd_h]; omega) k.mid).use fun S4 s4 => ?_
        repeat array_get_dec
        refine ⟨by dsimp only; rw [z, Bool.true_and], s4, fun _ => ?_⟩
        repeat array_get_dec
        exact ⟨rfl, Sub.refl _⟩
      · refine ⟨by dsimp only; rw [z, Bool.false_and], Sub.refl _, fun _ => ?_⟩
        repeat array_get_dec
        exact ⟨rfl, Sub.refl _⟩
    · have e10 : List.map (fun d => d) (List.filter (fun d => match d with | D.int l => decide (0 ≤ l) && t.bd.holds x l | _ => false) (List.map (fun i : Nat => D.int (q.1 * x + q.2 + (i : Int))) (List.range t.bd.step))) = (t.bd.goodOf x t.bd.step q).map D.int := by
        unfold T.goodOf
        rw [List.map_id', List.filter_map, List.filter_map, List.map_map]
        rfl
      rw [e10] at a10
      have b9 := s10 _ _ (s9 _ _ b8)
      have hgl := goodOf_len t.bd x t.bd.step q
      repeat array_get_dec
      refine m_ext b9 a10 (fun z => by subst z; rw [s9 _ _ b8] at h10; cases h10) (big_len (by simp only [List.length_map]; omega)) ?_
      repeat array_get_dec
      refine ⟨l1 ++ [q], _, _, _, _, ?_, rfl, ((s8.trans s9).trans s10).set nk7 _, get_set_ne (s10 _ _ (s9 _ _ a8)) ne, ?_⟩
      · rw [List.map_append]; rfl
      · rw [get_set b9, List.flatMap_append, List.map_append]
        simp
  · rintro E1 S8 ⟨l1, x8, x9, x10, x11, hd, rfl, s8, a8, b8⟩
    refine ⟨stands_one a8, ?_⟩
    have e1 : t.bd.lows = l1 := by
      have := congrArg (List.map Ns.unD) hd
      simp only [List.map_map, show Ns.unD ∘ Ns.pairD = some from rfl] at this
      exact (List.map_inj_right (fun _ _ z => Option.some.inj z)).mp this
    subst e1
    change S8[k7]? = some (.lst ((t.good x).map D.int)) at b8
    repeat array_get_dec
    intro k9 S9 s9 h9 a9
    refine ⟨_, eq_nil (s9 _ _ b8) a9, ?_⟩
    have b9 := s9 _ _ b8
    cases hg : t.good x with
    | nil =>
      refine ⟨fun z => absurd z (by simp), fun _ => ?_⟩
      repeat array_get_dec
      exact ⟨rfl, s8.trans s9⟩
    | cons i is =>
      refine ⟨fun _ => ?_, fun z => absurd z (by simp)⟩
      rw [hg] at b9
      repeat array_get_dec
      refine wp_minL b9 ?_
      repeat array_get_dec
      exact ⟨rfl, s8.trans s9⟩
theorem c39x {t : T} {x : Int} (k : Tok t) (hn : 50 ≤ n) (hm : 5000 < t.bd.step * t.bd.lows.length) (hst : t.bd.step < 2 ^ 60) (hx : 0 ≤ x ∧ x ≤ 1000000000000) : wp ((p.G n).call 39 [.int 1, someD t, .tup [.int x]] S) (fun _ _ => False) (fun x S' => x = (4, .int 5000) ∧ Sub S S') := by
  refine c_of d39 rfl (by omega) rfl fun m e => ?_
  unfold d39
  repeat array_get_dec
  refine (c38 k (by omega)).use fun S1 s1 => ?_
  repeat array_get_dec
  refine (c12 (by omega) (by omega)).use fun S2 s2 => ?_
  unfold someD
  repeat array_get_dec
  refine wp_mono (c37x k (by omega) hm hst) (fun _ _ z => z.elim) fun y S3 z => ⟨z.1, (s1.trans s2).trans z.2⟩
theorem c39 {t : T} {x : Int} (k : Tok t) (hn : 50 ≤ n) (hm : t.bd.step * t.bd.lows.length ≤ 5000) (hx : 0 ≤ x ∧ x ≤ 1000000000000) : Gv ((p.G n).call 39 [.int 1, someD t, .tup [.int x]] S) S (leastD (t.good x) t.span) := by
  refine c_of d39 rfl (by omega) rfl fun m e => ?_
  unfold d39
  repeat array_get_dec
  refine (c38 k (by omega)).use fun S1 s1 => ?_
  repeat array_get_dec
  refine (c12 (by omega) (by omega)).use fun S2 s2 => ?_
  unfold someD
  repeat array_get_dec
  exact (c37 k (by omega) hm hx).use fun S3 s3 => ⟨rfl, (s1.trans s2).trans s3⟩
end
end K89
set_option Elab.async false
set_option linter.all false
set_option maxRecDepth 100000
set_option maxHeartbeats 1000000
namespace K89
open PySem PySem.Spec PyProof.Rows L2 Py
/-! ### the law's draws -/
/-- all of S but the list at q stands in S' -/
def SubX (q : Nat) (S S' : Sto) : Prop := ∀ (k : Nat) (o : O), k ≠ q → S[k]? = some o → S'[k]? = some o
theorem SubX.refl (q : Nat) (S : Sto) : SubX q S S := fun _ _ _ h => h
theorem SubX.trans {q : Nat} {S S1 S2 : Sto} (a : SubX q S S1) (b : SubX q S1 S2) : SubX q S S2 := fun k o h e => b k o h (a k o h e)
theorem SubX.of {q : Nat} {S S' : Sto} (a : Sub S S') : SubX q S S' := fun k o _ e => a k o e
theorem SubX.set (q : Nat) (S : Sto) (o : O) : SubX q S (S.set q o) := fun k u h e => by rw [List.getElem?_set_ne (fun z => h z.symm)]; exact e
theorem SubX.set' {q k : Nat} {S S' : Sto} (a : SubX q S S') (hk : S[k]? = none) (o : O) : SubX q S (S'.set k o) := fun j u h e => by
  have ne : k ≠ j := fun z => by subst z; rw [hk] at e; cases e
  rw [List.getElem?_set_ne ne]
  exact a j u h e
/-- the draws of a cell: their list at q, at most N numbers mixed so far -/
def Pot (q N : Nat) (S : Sto) : Prop := ∃ a b c : Int, S[q]? = some (.lst [.int a, .int b, .int c]) ∧ 0 ≤ a ∧ (0 ≤ b ∧ b < 2 ^ 62) ∧ 0 ≤ c ∧ c ≤ N
theorem Pot.sub {q N : Nat} {S S' : Sto} (h : Pot q N S) (s : Sub S S') : Pot q N S' := by
  obtain ⟨a, b, c, e, r⟩ := h
  exact ⟨a, b, c, s _ _ e, r⟩
theorem Pot.more {q N M : Nat} {S : Sto} (h : Pot q N S) (hm : N ≤ M) : Pot q M S := by
  obtain ⟨a, b, c, e, h1, h2, h3, h4⟩ := h
  exact ⟨a, b, c, e, h1, h2, h3, by omega⟩
/-- a call that draws: P what it gives -/
def Dr (r : Res D) (q N : Nat) (S : Sto) (P : D → Sto → Prop) : Prop := wp r (fun d S' => P d S' ∧ Pot q N S' ∧ SubX q S S') noX
theorem Dr.use {r : Res D} {q N : Nat} {S : Sto} {P : D → Sto → Prop} {Q : D → Sto → Prop} {X : XP} (h : Dr r q N S P) (i : ∀ d S', P d S' → Pot q N S' → SubX q S S' → Q d S') : wp r Q X :=
  wp_then h fun b S' z => i b S' z.1 z.2.1 z.2.2
theorem at_of {ds : List D} {i : Int} (h0 : 0 ≤ i) (h1 : i < ds.length) : ∃ d, atI ds i = some d ∧ d ∈ ds := by
  unfold atI ixN
  rw [if_pos h0, if_pos h1]
  have : i.toNat < ds.length := by omega
  exact ⟨ds[i.toNat], by simp [this], List.getElem_mem _⟩
theorem ix_ref {S : Sto} {k : Nat} {ds : List D} {i : Int} {d : D} (e : S[k]? = some (.lst ds)) (h : atI ds i = some d) : ixop (.ref k) (.int i) S = some d := by simp only [ixop, itemsOf, e, h]
theorem bits_le {i : Int} {k : Nat} (h : i.natAbs < 2 ^ k) : Builtin.Int.intBits i ≤ k := by
  unfold Builtin.Int.intBits
  split
  · exact Nat.zero_le _
  · rename_i h0
    have h0 : i.natAbs ≠ 0 := by simpa using h0
    have := (Nat.log2_lt h0).mpr h
    omega
theorem r_cutC {ds : List D} {lo hi : Option Int} {S : Sto} {Q : D → Sto → Prop} {X : XP} (h : ∀ k S', Sub S S' → S[k]? = none → S'[k]? = some (.lst (Py.cutD ds lo hi)) → Q (.ref k) S') : wp (slop (.con ds) lo hi S) Q X := by
  simp only [slop]
  exact new_any h
local macro_rules | `(tactic| array_get_dec) => `(tactic| first
  | with_reducible refine s_cons ?_
  | with_reducible refine s_nil ?_
  | with_reducible refine s_cnd ?_
  | with_reducible refine s_ret ?_
  | (with_reducible refine w_var ?_; refine ⟨_, rfl, ?_⟩)
  | with_reducible refine w_int ?_
  | with_reducible refine w_str ?_
  | with_reducible refine w_bl ?_
  | with_reducible refine w_non ?_
  | with_reducible refine a_cons ?_
  | with_reducible refine a_nil ?_
  | with_reducible refine w_call ?_
  | with_reducible refine t_call ?_
  | with_reducible refine w_tup ?_
  | with_reducible refine w_cmp ?_
  | with_reducible refine t_cmp ?_
  | with_reducible refine w_ix ?_
  | with_reducible refine w_bin ?_
  | with_reducible refine w_isi ?_
  | with_reducible refine t_isi ?_
  | with_reducible refine w_nt ?_
  | with_reducible refine t_nt ?_
  | with_reducible refine w_con ?_
  | with_reducible refine t_con ?_
  | with_reducible refine w_dis ?_
  | with_reducible refine t_dis ?_
  | with_reducible refine w_chn ?_
  | with_reducible refine w_ife ?_
  | with_reducible refine w_bi ?_
  | with_reducible refine t_bi ?_
  | with_reducible refine w_neg ?_
  | with_reducible refine w_sl ?_
  | with_reducible refine o_no ?_
  | with_reducible refine o_yes ?_
  | with_reducible refine s_set ?_
  | with_reducible refine s_par ?_
  | with_reducible refine s_ex ?_
  | with_reducible refine s_rse ?_
  | with_reducible refine s_rep ?_
  | with_reducible refine s_whl ?_
  | with_reducible refine s_brk ?_
  | with_reducible refine s_sub ?_
  | with_reducible refine w_lst ?_
  | with_reducible refine w_lc ?_
  | with_reducible refine w_mth ?_
  | with_reducible refine i_seq ?_
  | with_reducible refine i_r1 ?_
  | with_reducible refine i_r2 ?_
  | with_reducible refine i_zip ?_
  | with_reducible refine ot_no ?_
  | with_reducible refine ot_yes ?_
  | (with_reducible refine t_var ?_; refine ⟨_, _, rfl, rfl, ?_⟩)
  | with_reducible refine w_isN ?_
  | with_reducible refine t_isN ?_
  | with_reducible refine t_isB ?_
  | with_reducible refine t_isx ?_
  | with_reducible refine t_ix ?_
  | with_reducible refine w_fld ?_
  | with_reducible refine w_heard ?_
  | with_reducible refine w_lrange ?_
  | with_reducible refine a_star ?_
  | with_reducible refine w_glb con_0 ?_
  | with_reducible refine w_glb con_1 ?_
  | with_reducible refine w_glb con_2 ?_
  | with_reducible refine w_glb con_3 ?_
  | with_reducible refine w_glb con_4 ?_
  | with_reducible refine w_glb con_5 ?_
  | with_reducible refine w_glb con_6 ?_
  | with_reducible refine w_glb con_7 ?_
  | with_reducible refine w_glb con_8 ?_
  | with_reducible refine w_glb con_9 ?_
  | with_reducible refine w_glb con_10 ?_
  | with_reducible refine w_glb con_11 ?_
  | with_reducible refine w_glb con_12 ?_
  | with_reducible refine w_glb con_13 ?_
  | with_reducible refine w_glb con_14 ?_
  | with_reducible refine w_glb con_15 ?_
  | with_reducible refine w_glb con_16 ?_
  | with_reducible refine w_glb con_17 ?_
  | with_reducible refine w_glb con_18 ?_
  | with_reducible refine w_glb con_19 ?_
  | with_reducible refine w_glb con_20 ?_
  | with_reducible refine w_glb con_21 ?_
  | with_reducible refine w_glb con_22 ?_
  | with_reducible refine w_glb con_23 ?_
  | with_reducible refine r_cut1 ?_
  | with_reducible refine r_cut3 ?_
  | with_reducible refine r_cutL ?_
  | with_reducible refine r_cutL1 ?_
  | with_reducible refine b_tup1 ?_
  | with_reducible refine r_abs ?_
  | with_reducible refine r_max ?_
  | with_reducible refine r_min ?_
  | with_reducible refine r_intI ?_
  | with_reducible refine r_intB ?_
  | with_reducible refine r_lenT ?_
  | with_reducible refine b_add ?_
  | with_reducible refine b_sub ?_
  | with_reducible refine b_mulR (by omega) ?_
  | with_reducible refine b_mulL (by omega) ?_
  | with_reducible refine b_div64 (by omega) ?_
  | with_reducible refine b_mod (by omega) ?_
  | with_reducible refine ⟨_, ix0, ?_⟩
  | with_reducible refine ⟨_, ix1, ?_⟩
  | with_reducible refine ⟨_, ix2, ?_⟩
  | with_reducible refine ⟨_, ix3, ?_⟩
  | with_reducible refine ⟨_, ixL, ?_⟩
  | refine ⟨Nat.le_of_ble_eq_true rfl, ?_⟩
  | refine ⟨fun _ => ?_, fun z => absurd z (by decide +kernel)⟩
  | refine ⟨fun z => absurd z (by decide +kernel), fun _ => ?_⟩
  | refine ⟨fun _ => ?_, fun z => Bool.noConfusion (show true = false from z)⟩
  | refine ⟨fun _ => ?_, fun z => Bool.noConfusion (show false = true from z)⟩
  | refine ⟨fun z => Bool.noConfusion (show true = false from z), fun _ => ?_⟩
  | refine ⟨fun z => Bool.noConfusion (show false = true from z), fun _ => ?_⟩
  | refine ⟨fun _ => ?_, fun z => absurd z (by simp only [Bool.not_eq_true', Bool.not_eq_false', decide_eq_true_eq, decide_eq_false_iff_not]; omega)⟩
  | refine ⟨fun z => absurd z (by simp only [Bool.not_eq_true', Bool.not_eq_false', decide_eq_true_eq, decide_eq_false_iff_not]; omega), fun _ => ?_⟩
  | refine ⟨_, rfl, ?_⟩)

section
variable {n : Nat} {S : Sto}
theorem c41 {q N : Nat} {upto : Int} (hn : 1 ≤ n) (hp : Pot q N S) (hN : N ≤ 100000) (hu : 0 < upto ∧ upto ≤ 1000000000000) : Dr ((p.G n).call 41 [.ref q, .int upto] S) q (N + 1) S fun d _ => ∃ i : Int, d = .int i ∧ 0 ≤ i ∧ i < upto := by
  obtain ⟨a, b, c, e0, ha, hb, hc0, hcN⟩ := hp
  refine c_of d41 rfl (by omega) rfl fun m e => ?_
  unfold d41
  repeat array_get_dec
  refine ⟨.int a, ix_ref e0 at0, ?_⟩
  repeat array_get_dec
  refine ⟨fun z => ?_, fun z => ?_⟩
  · repeat array_get_dec
    refine ⟨.int a, ix_ref e0 at0, ?_⟩
    repeat array_get_dec
    refine ⟨.int a, ix_ref e0 at0, ?_⟩
    repeat array_get_dec
    refine ⟨S.set q (.lst [.int (a / upto), .int b, .int c]), by simp [subop, e0, ixN], ?_⟩
    repeat array_get_dec
    refine ⟨⟨_, rfl, Int.emod_nonneg _ (by omega), Int.emod_lt_of_pos _ hu.1⟩, ⟨a / upto, b, c, get_set e0, Int.ediv_nonneg ha (by omega), hb, hc0, by omega⟩, SubX.set _ _ _⟩
  · repeat array_get_dec
    refine ⟨.int c, ix_ref e0 at2, ?_⟩
    repeat array_get_dec
    refine ⟨S.set q (.lst [.int a, .int b, .int (c + 1)]), by simp [subop, e0, ixN], ?_⟩
    have e1 := get_set (u := O.lst [.int a, .int b, .int (c + 1)]) e0
    have s1 := SubX.set q S (O.lst [.int a, .int b, .int (c + 1)])
    generalize S.set q (.lst [.int a, .int b, .int (c + 1)]) = S1 at e1 s1
    repeat array_get_dec
    intro k2 S2 s2 h2 a2
    have e2 := s2 _ _ e1
    repeat array_get_dec
    refine ⟨.int (c + 1), ix_ref e2 at2, ?_⟩
    repeat array_get_dec
    obtain ⟨d, hd1, hd2⟩ := at_of (ds := [.int 2147483647, .int 2147483629, .int 2147483587, .int 2147483579, .int 2147483563]) (i := (c + 1) % 5) (Int.emod_nonneg _ (by omega)) (by have := Int.emod_lt_of_pos (c + 1) (show (0 : Int) < 5 by omega); simpa using this)
    refine ⟨d, ix_ref a2 hd1, ?_⟩
    have hd : ∃ pr : Int, d = .int pr ∧ 0 < pr ∧ pr < 2 ^ 31 := by
      simp only [List.mem_cons, List.mem_nil_iff, or_false] at hd2
      rcases hd2 with rfl | rfl | rfl | rfl | rfl <;> exact ⟨_, rfl, by omega, by omega⟩
    obtain ⟨pr, rfl, hpr0, hpr1⟩ := hd
    repeat array_get_dec
    refine ⟨.int b, ix_ref e2 at1, ?_⟩
    repeat array_get_dec
    refine ⟨.int (c + 1), ix_ref e2 at2, ?_⟩
    repeat array_get_dec
    refine ⟨.int (c + 1), ix_ref e2 at2, ?_⟩
    repeat array_get_dec
    have hA := mul_bnd (a := 96803 * (c + 1)) (m := c + 1) (A := 9680396803) (M := 100001) (by omega) (by omega) (by omega)
    have hA0 : 0 ≤ 96803 * (c + 1) * (c + 1) := Int.mul_nonneg (by omega) (by omega)
    generalize 96803 * (c + 1) * (c + 1) = w at hA hA0
    refine b_pow ⟨by omega, ?_⟩ ?_
    · have := bits_le (i := b + w + 638) (k := 63) (by omega)
      omega
    generalize (b + w + 638) ^ Int.toNat 3 = w3
    repeat array_get_dec
    have hm0 := Int.emod_nonneg w3 (show pr ≠ 0 by omega)
    have hm1 := Int.emod_lt_of_pos w3 hpr0
    generalize w3 % pr = bl at hm0 hm1
    repeat array_get_dec
    refine ⟨.int (c + 1), ix_ref e2 at2, ?_⟩
    repeat array_get_dec
    have hl0 := Int.emod_nonneg (bl * (bl % 10259 + 122 * (c + 1))) (show (2305843009213693907 : Int) ≠ 0 by omega)
    refine ⟨⟨_, rfl, Int.emod_nonneg _ (by omega), Int.emod_lt_of_pos _ hu.1⟩, ⟨a, b, c + 1, e2, ha, hb, by omega, by omega⟩, s1.trans (SubX.of s2)⟩
theorem c42 {q N k : Nat} {ds : List D} (hn : 2 ≤ n) (hp : Pot q N S) (hN : N ≤ 100000) (ne : k ≠ q) (a : S[k]? = some (.lst ds)) (hd : ds ≠ []) (hl : ds.length ≤ 1000) : Dr ((p.G n).call 42 [.ref q, .ref k] S) q (N + 1) S fun d _ => d ∈ ds := by
  refine c_of d42 rfl (by omega) rfl fun m e => ?_
  unfold d42
  repeat array_get_dec
  refine wp_len a ?_
  have h0 : 0 < ds.length := List.length_pos_iff.mpr hd
  repeat array_get_dec
  refine (c41 (by omega) hp hN (by omega)).use fun d S1 ⟨i, hi, i0, i1⟩ p1 s1 => ?_
  subst hi
  obtain ⟨y, hy1, hy2⟩ := at_of i0 i1
  refine ⟨y, ix_ref (s1 _ _ ne a) hy1, hy2, p1, s1⟩
theorem c40 {ns : List Int} {pl : Int} (hn : 1 ≤ n) (hpl : 0 ≤ pl ∧ pl ≤ 3) (hns : ns = [] ∨ pl < ns.length) : wp ((p.G n).call 40 [.con (ns.map D.int), .int pl] S) (fun d S' => ∃ k, d = .ref k ∧ Sub S S' ∧ S[k]? = none ∧ Pot k 0 S') noX := by
  refine c_of d40 rfl (by omega) rfl fun m e => ?_
  -- behind the cell
  have key : ∀ (cell : Int) (S1 : Sto) (x4 x5 : Option D), Sub S S1 → wf ((Stms.cons (.set (.nm 3) (.bin .Mult (.bin .Mod (.bi .int (.cons (.bi .abs (.cons (.var 2) .nil)) .nil)) (.bin .Pow (.bin .Pow (.int 10) (.int 60)) (.int 5))) (.bi .int (.cons (.cmp .GtE (.bi .abs (.cons (.var 2) .nil)) (.bin .Pow (.int 10) (.int 18))) .nil)))) (.cons (.set (.nm 4) (.bin .Mod (.bi .int (.cons (.var 2) .nil)) (.int 2305843009213693951))) (.cons (.ret (.lst (.cons (.var 3) (.cons (.bin .Mod (.bi .int (.cons (.bin .Add (.bin .Add (.bin .Mult (.var 4) (.int 100443)) (.bin .Mult (.bin .Mult (.int 11404) (.var 1)) (.var 1))) (.int 838)) .nil)) (.int 2305843009213693921)) (.cons (.int 0) .nil))))) .nil))).ev (p.G m) [some (.con (ns.map D.int)), some (.int pl), some (.int cell), x4, x5] S1) { N := fun _ S' => ∃ k, D.non = .ref k ∧ Sub S S' ∧ S[k]? = none ∧ Pot k 0 S', R := fun d S' => ∃ k, d = .ref k ∧ Sub S S' ∧ S[k]? = none ∧ Pot k 0 S', X := noX, B := fun _ _ => False } := by
    intro cell S1 x4 x5 s1
    repeat array_get_dec
    refine b_pow ⟨by omega, by decide +kernel⟩ ?_
    repeat array_get_dec
    refine b_pow ⟨by omega, by decide +kernel⟩ ?_
    refine b_mod (by decide +kernel) ?_
    repeat array_get_dec
    refine b_pow ⟨by omega, by decide +kernel⟩ ?_
    repeat array_get_dec
    intro k S2 s2 h2 a2
    have h0 : 0 ≤ (cell.natAbs : Int) % ((10 ^ Int.toNat 60) ^ Int.toNat 5) * (if decide (10 ^ Int.toNat 18 ≤ (cell.natAbs : Int)) = true then 1 else 0) := Int.mul_nonneg (Int.emod_nonneg _ (by decide +kernel)) (by split <;> omega)
    have h3 := Int.emod_nonneg (cell % 2305843009213693951 * 100443 + 11404 * pl * pl + 838) (show (2305843009213693921 : Int) ≠ 0 by omega)
    have h4 := Int.emod_lt_of_pos (cell % 2305843009213693951 * 100443 + 11404 * pl * pl + 838) (show (0 : Int) < 2305843009213693921 by omega)
    exact ⟨k, rfl, s1.trans s2, s1.none h2, _, _, 0, a2, h0, ⟨h3, by omega⟩, by omega, by omega⟩
  unfold d40
  refine s_cons (wf_mono (K := { N := fun E S' => ∃ cell : Int, E = [some (.con (ns.map D.int)), some (.int pl), some (.int cell), none, none] ∧ Sub S S', R := fun _ _ => False, X := noX, B := fun _ _ => False }) ?_ (fun E S1 z => by obtain ⟨cell, rfl, s1⟩ := z; exact key cell S1 none none s1) (fun _ _ z => z.elim) (fun _ _ z => z) (fun _ _ z => z))
  repeat array_get_dec
  by_cases hlt : pl < ns.length
  · have hlt2 : pl < ((ns.map D.int).length : Int) := by rw [List.length_map]; exact hlt
    refine ⟨fun _ => ?_, fun z => absurd z (by rw [decide_eq_true hlt2]; simp)⟩
    obtain ⟨d, hd1, hd2⟩ := at_of (ds := ns.map D.int) hpl.1 hlt2
    obtain ⟨cell, _, rfl⟩ := List.mem_map.mp hd2
    repeat array_get_dec
    refine ⟨.int cell, by simp only [ixop, itemsOf, hd1], ?_⟩
    repeat array_get_dec
    exact Sub.refl _
  · have h0 : ns = [] := by
      rcases hns with h | h
      · exact h
      · exact absurd h hlt
    subst h0
    refine ⟨fun z => absurd z (by rw [decide_eq_false (by simp; omega)]; simp), fun _ => ?_⟩
    repeat array_get_dec
    refine r_cutC fun k1 S1 s1 h1 a1 => ?_
    repeat array_get_dec
    refine wp_sum (bs := []) a1 rfl ?_
    repeat array_get_dec
    exact s1
theorem c43 {ns : List Int} (hn : 1 ≤ n) : wp ((p.G n).call 43 [.con (ns.map D.int), .int 3] S) (fun d S' => ∃ (k j : Nat), d = .ref k ∧ Sub S S' ∧ S[k]? = none ∧ S'[k]? = some (.lst ((List.range j).map fun i : Nat => D.int (i : Int))) ∧ j ≤ 3 ∧ (ns = [] ∨ j ≤ ns.length)) noX := by
  refine c_of d43 rfl (by omega) rfl fun m e => ?_
  unfold d43
  repeat array_get_dec
  have hJ : ∃ J : Nat, (if (if ((ns.map D.int).length : Int) < 3 then ((ns.map D.int).length : Int) else 3) > 1 then (if ((ns.map D.int).length : Int) < 3 then ((ns.map D.int).length : Int) else 3) else 1) = (J : Int) ∧ J ≤ 3 ∧ (ns = [] ∨ J ≤ ns.length) := by
    rw [List.length_map]
    rcases Nat.eq_zero_or_pos ns.length with h | h
    · have : ns = [] := List.length_eq_zero_iff.mp h
      subst this
      exact ⟨1, by simp, by omega, .inl rfl⟩
    · refine ⟨min 3 ns.length, ?_, by omega, .inr (by omega)⟩
      split <;> split <;> omega
  obtain ⟨J, eJ, hJ3, hJn⟩ := hJ
  rw [eJ]
  refine ⟨⟨by omega, by omega⟩, fun k S1 s1 h1 a1 => ⟨k, J, rfl, s1, h1, ?_, hJ3, hJn⟩⟩
  rw [a1, rgD0]
end
end K89
set_option Elab.async false
set_option linter.all false
set_option maxRecDepth 100000
set_option maxHeartbeats 1000000
namespace K89
open PySem PySem.Spec PyProof.Rows L2 Py
/-- what a drawn sum is -/
def T.drawn : T → Prop
  | .less a b c => (-2 ≤ a ∧ a ≤ 2) ∧ b.natAbs ≤ 3 ∧ -9 ≤ c ∧ c ≤ 10
  | .rest a b c d => (-2 ≤ a ∧ a ≤ 2) ∧ (0 < b.natAbs ∧ b.natAbs ≤ 3) ∧ (0 ≤ c ∧ c ≤ 8) ∧ 2 ≤ d ∧ d ≤ 12
  | .an x y => x.drawn ∧ y.drawn
  | .orr x y => x.drawn ∧ y.drawn
theorem T.drawn_fit : ∀ t : T, t.drawn → t.fit
  | .less a b c, h => by simp only [T.drawn, T.fit] at *; omega
  | .rest a b c d, h => by simp only [T.drawn, T.fit] at *; omega
  | .an x y, h => ⟨T.drawn_fit x h.1, T.drawn_fit y h.2⟩
  | .orr x y, h => ⟨T.drawn_fit x h.1, T.drawn_fit y h.2⟩
/-! the greatest common divisor by so many laps -/
def eu : Nat → Nat → Nat → Nat × Nat
  | 0, a, b => (a, b)
  | k + 1, a, b => if 0 < b then eu k b (a % b) else eu k a b
theorem eu_snoc : ∀ (k a b : Nat), eu (k + 1) a b = if 0 < (eu k a b).2 then ((eu k a b).2, (eu k a b).1 % (eu k a b).2) else eu k a b := by
  intro k
  induction k with
  | zero => intro a b; simp only [eu]; rfl
  | succ k ih =>
    intro a b
    rw [eu]
    split
    · rw [ih b (a % b)]; rename_i h; simp only [eu, if_pos h]
    · rename_i h
      have hb : b = 0 := by omega
      subst hb
      have e0 : ∀ j, eu j a 0 = (a, 0) := by
        intro j
        induction j with
        | zero => rfl
        | succ j ih => rw [eu, if_neg (by omega), ih]
      rw [e0]
      simp
theorem eu_prod : ∀ (k a b : Nat), b < a → a * b < 2 ^ k → (eu k a b).1 = Nat.gcd a b
  | 0, a, b, h, hp => by
    have : a * b = 0 := by simpa using hp
    rcases Nat.mul_eq_zero.mp this with h0 | h0
    · omega
    · subst h0; simp [eu]
  | k + 1, a, b, h, hp => by
    rw [eu]
    split
    · rename_i hb
      have h1 : a % b < b := Nat.mod_lt _ hb
      have h2 : a % b + b ≤ a := by
        have := Nat.div_add_mod a b
        have h3 : 1 ≤ a / b := (Nat.one_le_div_iff hb).mpr (by omega)
        have h4 : b * 1 ≤ b * (a / b) := Nat.mul_le_mul_left b h3
        omega
      have h5 : 2 * (a % b) ≤ a := by omega
      have h6 : b * (2 * (a % b)) ≤ b * a := Nat.mul_le_mul_left b h5
      have h7 : b * (2 * (a % b)) = 2 * (b * (a % b)) := by rw [Nat.mul_left_comm]
      rw [eu_prod k b (a % b) h1 (by rw [Nat.pow_succ] at hp; rw [Nat.mul_comm a b] at hp; omega), Nat.gcd_comm a b, Nat.gcd_rec b a, Nat.gcd_comm]
    · have hb : b = 0 := by omega
      subst hb
      rw [eu_prod k a 0 h (by simp; exact Nat.two_pow_pos k)]
theorem eu_gcd {a b : Nat} (ha : 0 < a) (hb : b ≤ 1000) : (eu 60 a b).1 = Nat.gcd a b := by
  rw [eu]
  split
  · rename_i h
    have h1 : a % b < b := Nat.mod_lt _ h
    have h2 : b * (a % b) ≤ 1000 * 1000 := Nat.mul_le_mul hb (by omega)
    rw [eu_prod 59 b (a % b) h1 (Nat.lt_of_le_of_lt h2 (by decide +kernel)), Nat.gcd_comm a b, Nat.gcd_rec b a, Nat.gcd_comm]
  · have h0 : b = 0 := by omega
    subst h0
    rw [eu_prod 59 a 0 ha (by simp)]
local macro_rules | `(tactic| array_get_dec) => `(tactic| first
  | with_reducible refine s_cons ?_
  | with_reducible refine s_nil ?_
  | with_reducible refine s_cnd ?_
  | with_reducible refine s_ret ?_
  | (with_reducible refine w_var ?_; refine ⟨_, rfl, ?_⟩)
  | with_reducible refine w_int ?_
  | with_reducible refine w_str ?_
  | with_reducible refine w_bl ?_
  | with_reducible refine w_non ?_
  | with_reducible refine a_cons ?_
  | with_reducible refine a_nil ?_
  | with_reducible refine w_call ?_
  | with_reducible refine t_call ?_
  | with_reducible refine w_tup ?_
  | with_reducible refine w_cmp ?_
  | with_reducible refine t_cmp ?_
  | with_reducible refine w_ix ?_
  | with_reducible refine w_bin ?_
  | with_reducible refine w_isi ?_
  | with_reducible refine t_isi ?_
  | with_reducible refine w_nt ?_
  | with_reducible refine t_nt ?_
  | with_reducible refine w_con ?_
  | with_reducible refine t_con ?_
  | with_reducible refine w_dis ?_
  | with_reducible refine t_dis ?_
  | with_reducible refine w_chn ?_
  | with_reducible refine w_ife ?_
  | with_reducible refine w_bi ?_
  | with_reducible refine t_bi ?_
  | with_reducible refine w_neg ?_
  | with_reducible refine w_sl ?_
  | with_reducible refine o_no ?_
  | with_reducible refine o_yes ?_
  | with_reducible refine s_set ?_
  | with_reducible refine s_par ?_
  | with_reducible refine s_ex ?_
  | with_reducible refine s_rse ?_
  | with_reducible refine s_rep ?_
  | with_reducible refine s_whl ?_
  | with_reducible refine s_brk ?_
  | with_reducible refine s_sub ?_
  | with_reducible refine w_lst ?_
  | with_reducible refine w_lc ?_
  | with_reducible refine w_mth ?_
  | with_reducible refine i_seq ?_
  | with_reducible refine i_r1 ?_
  | with_reducible refine i_r2 ?_
  | with_reducible refine i_zip ?_
  | with_reducible refine ot_no ?_
  | with_reducible refine ot_yes ?_
  | (with_reducible refine t_var ?_; refine ⟨_, _, rfl, rfl, ?_⟩)
  | with_reducible refine w_isN ?_
  | with_reducible refine t_isN ?_
  | with_reducible refine t_isB ?_
  | with_reducible refine t_isx ?_
  | with_reducible refine t_ix ?_
  | with_reducible refine w_fld ?_
  | with_reducible refine w_heard ?_
  | with_reducible refine w_lrange ?_
  | with_reducible refine a_star ?_
  | with_reducible refine w_glb con_0 ?_
  | with_reducible refine w_glb con_1 ?_
  | with_reducible refine w_glb con_2 ?_
  | with_reducible refine w_glb con_3 ?_
  | with_reducible refine w_glb con_4 ?_
  | with_reducible refine w_glb con_5 ?_
  | with_reducible refine w_glb con_6 ?_
  | with_reducible refine w_glb con_7 ?_
  | with_reducible refine w_glb con_8 ?_
  | with_reducible refine w_glb con_9 ?_
  | with_reducible refine w_glb con_10 ?_
  | with_reducible refine w_glb con_11 ?_
  | with_reducible refine w_glb con_12 ?_
  | with_reducible refine w_glb con_13 ?_
  | with_reducible refine w_glb con_14 ?_
  | with_reducible refine w_glb con_15 ?_
  | with_reducible refine w_glb con_16 ?_
  | with_reducible refine w_glb con_17 ?_
  | with_reducible refine w_glb con_18 ?_
  | with_reducible refine w_glb con_19 ?_
  | with_reducible refine w_glb con_20 ?_
  | with_reducible refine w_glb con_21 ?_
  | with_reducible refine w_glb con_22 ?_
  | with_reducible refine w_glb con_23 ?_
  | with_reducible refine r_cut1 ?_
  | with_reducible refine r_cut3 ?_
  | with_reducible refine r_cutL ?_
  | with_reducible refine r_cutL1 ?_
  | with_reducible refine b_tup1 ?_
  | with_reducible refine r_abs ?_
  | with_reducible refine r_max ?_
  | with_reducible refine r_min ?_
  | with_reducible refine r_intI ?_
  | with_reducible refine r_intB ?_
  | with_reducible refine r_lenT ?_
  | with_reducible refine b_add ?_
  | with_reducible refine b_sub ?_
  | with_reducible refine b_mulR (by omega) ?_
  | with_reducible refine b_mulL (by omega) ?_
  | with_reducible refine b_div64 (by omega) ?_
  | with_reducible refine b_mod (by omega) ?_
  | with_reducible refine ⟨_, ix0, ?_⟩
  | with_reducible refine ⟨_, ix1, ?_⟩
  | with_reducible refine ⟨_, ix2, ?_⟩
  | with_reducible refine ⟨_, ix3, ?_⟩
  | with_reducible refine ⟨_, ixL, ?_⟩
  | refine ⟨Nat.le_of_ble_eq_true rfl, ?_⟩
  | refine ⟨fun _ => ?_, fun z => absurd z (by decide +kernel)⟩
  | refine ⟨fun z => absurd z (by decide +kernel), fun _ => ?_⟩
  | refine ⟨fun _ => ?_, fun z => Bool.noConfusion (show true = false from z)⟩
  | refine ⟨fun _ => ?_, fun z => Bool.noConfusion (show false = true from z)⟩
  | refine ⟨fun z => Bool.noConfusion (show true = false from z), fun _ => ?_⟩
  | refine ⟨fun z => Bool.noConfusion (show false = true from z), fun _ => ?_⟩
  | refine ⟨fun _ => ?_, fun z => absurd z (by simp only [Bool.not_eq_true', Bool.not_eq_false', decide_eq_true_eq, decide_eq_false_iff_not]; omega)⟩
  | refine ⟨fun z => absurd z (by simp only [Bool.not_eq_true', Bool.not_eq_false', decide_eq_true_eq, decide_eq_false_iff_not]; omega), fun _ => ?_⟩
  | refine ⟨_, rfl, ?_⟩)

section
variable {n : Nat} {S : Sto}
theorem c44 {q N : Nat} (hn : 3 ≤ n) (hp : Pot q N S) (hN : N ≤ 10000) : Dr ((p.G n).call 44 [.ref q] S) q (N + 5) S fun d _ => ∃ t : T, d = t.e ∧ t.leaf = true ∧ t.drawn := by
  refine c_of d44 rfl (by omega) rfl fun m e => ?_
  unfold d44
  repeat array_get_dec
  refine (c41 (by omega) hp (by omega) (by omega)).use fun d1 S1 ⟨a, h1, a0, a1⟩ p1 s1 => ?_
  subst h1
  repeat array_get_dec
  intro k2 S2 s2 k2n e2
  have p2 := p1.sub s2
  have ne2 : k2 ≠ q := fun z => by subst z; obtain ⟨_, _, _, z, _⟩ := p1; rw [z] at k2n; cases k2n
  repeat array_get_dec
  refine (c42 (by omega) p2 (by omega) ne2 e2 (by simp) (by simp)).use fun d3 S3 hd3 p3 s3 => ?_
  have hb : ∃ b : Int, d3 = .int b ∧ 0 < b.natAbs ∧ b.natAbs ≤ 3 := by
    simp only [List.mem_cons, List.mem_nil_iff, or_false] at hd3
    rcases hd3 with rfl | rfl | rfl | rfl | rfl | rfl <;> exact ⟨_, rfl, by omega, by omega⟩
  obtain ⟨b, rfl, b0, b1⟩ := hb
  repeat array_get_dec
  refine (c41 (by omega) p3 (by omega) (by omega)).use fun d4 S4 ⟨w, h4, w0, w1⟩ p4 s4 => ?_
  subst h4
  have s04 : SubX q S S4 := ((s1.trans (SubX.of s2)).trans s3).trans s4
  repeat array_get_dec
  refine ⟨fun z => ?_, fun z => ?_⟩
  · repeat array_get_dec
    intro k5 S5 s5 k5n e5
    have p5 := p4.sub s5
    have ne5 : k5 ≠ q := fun z => by subst z; obtain ⟨_, _, _, z, _⟩ := p4; rw [z] at k5n; cases k5n
    repeat array_get_dec
    refine (c42 (by omega) p5 (by omega) ne5 e5 (by simp) (by simp)).use fun d6 S6 hd6 p6 s6 => ?_
    have hf : ∃ f : Int, d6 = .int f ∧ (f = 0 ∨ f = 1) := by
      simp only [List.mem_cons, List.mem_nil_iff, or_false] at hd6
      rcases hd6 with rfl | rfl | rfl | rfl
      · exact ⟨0, rfl, .inl rfl⟩
      · exact ⟨1, rfl, .inr rfl⟩
      · exact ⟨1, rfl, .inr rfl⟩
      · exact ⟨1, rfl, .inr rfl⟩
    obtain ⟨f, rfl, hf⟩ := hf
    repeat array_get_dec
    refine (c41 (by omega) p6 (by omega) (by omega)).use fun d7 S7 ⟨c, h7, c0, c1⟩ p7 s7 => ?_
    subst h7
    repeat array_get_dec
    refine ⟨⟨.less (a - 2) (b * f) (c - 9), rfl, rfl, ?_⟩, p7.more (by omega), ((s04.trans (SubX.of s5)).trans s6).trans s7⟩
    simp only [T.drawn]
    rcases hf with rfl | rfl
    · rw [Int.mul_zero]; omega
    · rw [Int.mul_one]; omega
  · repeat array_get_dec
    refine (c41 (by omega) p4 (by omega) (by omega)).use fun d5 S5 ⟨c, h5, c0, c1⟩ p5 s5 => ?_
    subst h5
    repeat array_get_dec
    refine (c41 (by omega) p5 (by omega) (by omega)).use fun d6 S6 ⟨d, h6, d0, d1⟩ p6 s6 => ?_
    subst h6
    repeat array_get_dec
    refine ⟨⟨.rest (a - 2) b c (2 + d), rfl, rfl, ?_⟩, p6.more (by omega), (s04.trans s5).trans s6⟩
    simp only [T.drawn]
    omega
theorem c45 {a b : Nat} (hn : 1 ≤ n) (ha : 0 < a) (hb : b ≤ 1000) : Gv ((p.G n).call 45 [.int a, .int b] S) S (.int (Nat.gcd a b : Nat)) := by
  refine c_of d45 rfl (by omega) rfl fun m e => ?_
  unfold d45
  repeat array_get_dec
  refine ⟨by omega, ?_⟩
  rw [show (60 : Int) = ((60 : Nat) : Int) from rfl, rgD0]
  refine wf_for (fun done E S2 => ∃ (x : Option D), E = [some (.int (eu done.length a b).1), some (.int (eu done.length a b).2), x] ∧ Sub S S2) ⟨none, rfl, Sub.refl _⟩ ?_ ?_
  · rintro done x rest hd E1 S1 ⟨y, rfl, s1⟩
    refine ⟨stands_nil, _, rfl, ?_⟩
    repeat array_get_dec
    refine ⟨fun z => ?_, fun z => ?_⟩
    · have z := of_decide_eq_true z
      repeat array_get_dec
      refine ⟨some x, ?_, s1⟩
      rw [List.length_append, List.length_singleton, eu_snoc, if_pos (by omega)]
      rfl
    · have z := of_decide_eq_false z
      repeat array_get_dec
      refine ⟨some x, ?_, s1⟩
      rw [List.length_append, List.length_singleton, eu_snoc, if_neg (by omega)]
      rfl
  · rintro E1 S1 ⟨y, rfl, s1⟩
    refine ⟨stands_nil, ?_⟩
    repeat array_get_dec
    refine ⟨?_, s1⟩
    rw [List.length_map, List.length_range, eu_gcd ha hb]
theorem c46 {k : Nat} {is : List Int} (hn : 2 ≤ n) (a0 : S[k]? = some (.lst (is.map D.int))) (hi : ∀ i ∈ is, 0 < i ∧ i ≤ 1000) : Gv ((p.G n).call 46 [.ref k] S) S (.int (lcmL is)) := by
  refine c_of d46 rfl (by omega) rfl fun m e => ?_
  unfold d46
  repeat array_get_dec
  refine seqW_ref0 a0 ?_
  refine wf_for (fun done E S2 => ∃ (ds : List Int) (x : Option D), done = ds.map D.int ∧ (∀ i ∈ ds, 0 < i ∧ i ≤ 1000) ∧ E = [some (.ref k), some (.int (lcmL ds)), x] ∧ Sub S S2) ⟨[], none, rfl, by simp, rfl, Sub.refl _⟩ ?_ ?_
  · rintro done x rest hd E1 S1 ⟨ds, y, rfl, hds, rfl, s1⟩
    refine ⟨stands_one (s1 _ _ a0), ?_⟩
    obtain ⟨l1, i, l2, rfl, h1, rfl⟩ := split_map hd
    have hii := hi i (by simp)
    have e1 : l1 = ds := by
      have := congrArg (List.map (fun d => match d with | D.int i => i | _ => 0)) h1
      simpa [List.map_map, Function.comp_def] using this.symm
    subst e1
    have hpos : 0 < lcmL l1 := lcmL_pos fun i hi => by have := hds i hi; omega
    refine ⟨_, rfl, ?_⟩
    repeat array_get_dec
    have ei : (i : Int) = (i.natAbs : Int) := by omega
    rw [ei]
    refine (c45 (by omega) hpos (by omega)).use fun S2 s2 => ?_
    have hg : 0 < Nat.gcd (lcmL l1) i.natAbs := Nat.gcd_pos_of_pos_left _ hpos
    have hg2 : Nat.gcd (lcmL l1) i.natAbs ≤ i.natAbs := Nat.gcd_le_right _ (by omega)
    refine b_div64 (by omega) ?_
    repeat array_get_dec
    refine ⟨l1 ++ [i], some (.int (i.natAbs : Int)), by rw [← ei]; simp, ?_, ?_, s1.trans s2⟩
    · intro j hj
      rcases List.mem_append.mp hj with h | h
      · exact hds j h
      · rw [List.mem_singleton.mp h]; exact hii
    · rw [lcmL_snoc, ← lcm_step, Int.gcd_eq_natAbs_gcd_natAbs, Int.natAbs_natCast]
      rfl
  · rintro E1 S1 ⟨ds, y, hd, hds, rfl, s1⟩
    refine ⟨stands_one (s1 _ _ a0), ?_⟩
    have e1 : is = ds := by
      have := congrArg (List.map (fun d => match d with | D.int i => i | _ => 0)) hd
      simpa [List.map_map, Function.comp_def] using this
    subst e1
    repeat array_get_dec
    exact ⟨rfl, s1⟩
theorem c48 {x y : Int} : ∀ (t : T) (n : Nat) (S : Sto), t.h ≤ n → t.fit → Gv ((p.G n).call 48 [t.e, .tup [.int x, .int y]] S) S (.bl (t.holds x y)) := by
  intro t
  induction t with
  | less a b c =>
    intro n S hn hf
    simp only [T.h, T.fit] at hn hf
    refine c_of d48 rfl (by omega) rfl fun m e => ?_
    rw [T.e]
    unfold d48
    repeat array_get_dec
    refine wp_lcR [(.tup [.int a, .int x], .int (a * x)), (.tup [.int b, .int y], .int (b * y))] rfl stands_nil ?_ (fun z hz S3 s3 => ?_) fun k S3 s3 hk a3 => ?_
    · exact Nat.le_of_ble_eq_true rfl
    · have hz : z = (.tup [.int a, .int x], .int (a * x)) ∨ z = (.tup [.int b, .int y], .int (b * y)) := by simpa using hz
      rcases hz with rfl | rfl
      · refine ⟨_, rfl, ?_⟩
        repeat array_get_dec
        exact ⟨rfl, Sub.refl _⟩
      · refine ⟨_, rfl, ?_⟩
        repeat array_get_dec
        exact ⟨rfl, Sub.refl _⟩
    · repeat array_get_dec
      refine wp_sum a3 rfl ?_
      have es : [a * x, b * y].sum = a * x + b * y := by simp
      rw [es]
      repeat array_get_dec
      exact ⟨by rw [T.holds], s3⟩
  | rest a b c d =>
    intro n S hn hf
    simp only [T.h, T.fit] at hn hf
    refine c_of d48 rfl (by omega) rfl fun m e => ?_
    rw [T.e]
    unfold d48
    repeat array_get_dec
    refine wp_lcR [(.tup [.int a, .int x], .int (a * x)), (.tup [.int b, .int y], .int (b * y))] rfl stands_nil ?_ (fun z hz S3 s3 => ?_) fun k S3 s3 hk a3 => ?_
    · exact Nat.le_of_ble_eq_true rfl
    · have hz : z = (.tup [.int a, .int x], .int (a * x)) ∨ z = (.tup [.int b, .int y], .int (b * y)) := by simpa using hz
      rcases hz with rfl | rfl
      · refine ⟨_, rfl, ?_⟩
        repeat array_get_dec
        exact ⟨rfl, Sub.refl _⟩
      · refine ⟨_, rfl, ?_⟩
        repeat array_get_dec
        exact ⟨rfl, Sub.refl _⟩
    · repeat array_get_dec
      refine wp_sum a3 rfl ?_
      have es : [a * x, b * y].sum = a * x + b * y := by simp
      rw [es]
      repeat array_get_dec
      exact ⟨by rw [T.holds], s3⟩
  | an u v ihu ihv =>
    intro n S hn hf
    simp only [T.h, T.fit] at hn hf
    refine c_of d48 rfl (by omega) rfl fun m e => ?_
    rw [T.e]
    unfold d48
    repeat array_get_dec
    refine (ihu m _ (by omega) hf.1).use fun S1 s1 => ?_
    repeat array_get_dec
    refine ⟨fun z => ?_, fun z => ?_⟩
    · repeat array_get_dec
      refine (ihv m _ (by omega) hf.2).use fun S2 s2 => ⟨?_, s1.trans s2⟩
      rw [T.holds, z]
      simp
    · exact ⟨by rw [T.holds, z]; simp, s1⟩
  | orr u v ihu ihv =>
    intro n S hn hf
    simp only [T.h, T.fit] at hn hf
    refine c_of d48 rfl (by omega) rfl fun m e => ?_
    rw [T.e]
    unfold d48
    repeat array_get_dec
    refine (ihu m _ (by omega) hf.1).use fun S1 s1 => ?_
    repeat array_get_dec
    refine ⟨fun z => ?_, fun z => ?_⟩
    · repeat array_get_dec
      refine (ihv m _ (by omega) hf.2).use fun S2 s2 => ⟨?_, s1.trans s2⟩
      rw [T.holds, z]
      simp
    · exact ⟨by rw [T.holds, z]; simp, s1⟩
end
end K89
set_option Elab.async false
set_option linter.all false
set_option maxRecDepth 100000
set_option maxHeartbeats 1000000
namespace K89
open PySem PySem.Spec PyProof.Rows L2 Py
/-! ### plain facts: spans, terms, steps -/
/-- the law's statement, drawn -/
structure Dn (t : T) : Prop where
  dr : t.drawn
  h : t.h ≤ 5
  sz : t.sz ≤ 9
theorem T.drawn_lv : ∀ (t : T), t.drawn → ∀ l ∈ t.lv, l.drawn
  | .less _ _ _, h, l, hl => by rw [List.mem_singleton.mp hl]; exact h
  | .rest _ _ _ _, h, l, hl => by rw [List.mem_singleton.mp hl]; exact h
  | .an x y, h, l, hl => by
    rcases List.mem_append.mp hl with z | z
    · exact T.drawn_lv x h.1 l z
    · exact T.drawn_lv y h.2 l z
  | .orr x y, h, l, hl => by
    rcases List.mem_append.mp hl with z | z
    · exact T.drawn_lv x h.1 l z
    · exact T.drawn_lv y h.2 l z
theorem drawn_b {l : T} (h : l.drawn) (hl : l.leaf = true) : l.b.natAbs ≤ 3 := by
  cases l with
  | less a b c => exact h.2.1
  | rest a b c d => exact h.2.1.2
  | an x y => cases hl
  | orr x y => cases hl
theorem Dn.span6 {t : T} (d : Dn t) : t.span ∣ 6 := lcmL_dvd fun i hi => by
  obtain ⟨h1, h2⟩ := List.mem_filter.mp hi
  obtain ⟨l, hl, rfl⟩ := List.mem_map.mp h1
  have hb := drawn_b (t.drawn_lv d.dr l hl) (t.lv_leaf l hl)
  have h0 : l.b ≠ 0 := by simpa using h2
  have : l.b.natAbs = 1 ∨ l.b.natAbs = 2 ∨ l.b.natAbs = 3 := by omega
  rcases this with h | h | h <;> rw [h] <;> decide
theorem Dn.span {t : T} (d : Dn t) : t.span ≤ 6 := Nat.le_of_dvd (by omega) d.span6
theorem Dn.tok {t : T} (d : Dn t) : Tok t := ⟨t.drawn_fit d.dr, d.h, d.sz, by have := d.span; omega⟩
/-- so many times: a number that divides the span -/
theorem Dn.times {t : T} (d : Dn t) {l : T} (hl : l ∈ t.lv) : ∃ k : Nat, K89.times t.span l.b = k ∧ 0 < k ∧ k ∣ t.span ∧ k ≤ 6 ∧ (l.b ≠ 0 → (t.span : Int) = k * l.b.natAbs) := by
  have hs := t.span_pos
  have h6 := d.span
  unfold K89.times
  by_cases hb : l.b = 0
  · exact ⟨1, by rw [if_pos hb]; rfl, by omega, Nat.one_dvd _, by omega, fun z => absurd hb z⟩
  · obtain ⟨k, hk⟩ := t.b_dvd hl hb
    have hb0 : 0 < l.b.natAbs := by omega
    have hk0 : 0 < k := Nat.pos_of_ne_zero fun z => by subst z; simp at hk; omega
    refine ⟨k, ?_, hk0, ⟨l.b.natAbs, by rw [hk, Nat.mul_comm]⟩, ?_, fun _ => by rw [hk]; push_cast; rw [Int.mul_comm]⟩
    · rw [if_neg hb, hk]
      push_cast
      rw [Int.mul_comm]
      exact Int.mul_ediv_cancel _ (by omega)
    · have : k * 1 ≤ k * l.b.natAbs := Nat.mul_le_mul_left k hb0
      rw [Nat.mul_comm k l.b.natAbs, ← hk] at this
      omega
theorem sgn_neg {span b : Int} (h : 0 < times span b) : (sgn span b < 0 ↔ b < 0) := by
  unfold sgn
  split
  · omega
  · rename_i hb
    split
    · rename_i hp
      have : 0 < b := by
        rcases Int.lt_trichotomy b 0 with z | z | z
        · have := Int.mul_neg_of_neg_of_pos z h; omega
        · exact absurd z hb
        · exact z
      omega
    · rename_i hp
      have : b < 0 := by
        rcases Int.lt_trichotomy b 0 with z | z | z
        · exact z
        · exact absurd z hb
        · have := Int.mul_pos z h; omega
      omega
/-- the law's own terms -/
def lawLow (span : Int) : T → Option (Int × Int)
  | .less a b c => if b < 0 then some (a * times span b, -c * times span b) else none
  | _ => none
theorem low_scale {span : Int} {l : T} (hl : l.leaf = true) (h : 0 < times span l.b) : lowOf (l.scale span) = lawLow span l := by
  cases l with
  | less a b c =>
    simp only [T.b] at h
    simp only [T.scale, lowOf, lawLow]
    by_cases hb : b < 0
    · rw [if_pos ((sgn_neg h).mpr hb), if_pos hb, Int.neg_mul]
    · rw [if_neg (fun z => hb ((sgn_neg h).mp z)), if_neg hb]
  | rest a b c d => rfl
  | an x y => cases hl
  | orr x y => cases hl
theorem filterMap_same {α β : Type} {f g : α → Option β} : ∀ {l : List α}, (∀ x ∈ l, f x = g x) → l.filterMap f = l.filterMap g
  | [], _ => rfl
  | x :: l, h => by
    have e := h x List.mem_cons_self
    rw [List.filterMap_cons, List.filterMap_cons, e, filterMap_same fun y hy => h y (List.mem_cons_of_mem _ hy)]
theorem Dn.lows {t : T} (d : Dn t) : t.bd.lows = srtP ((0, 0) :: t.lv.filterMap (lawLow t.span)) := by
  unfold T.lows lowsL
  rw [bd_lv, List.filterMap_append, List.filterMap_map]
  congr 2
  have : List.filterMap lowOf [T.whole t.span] = [] := rfl
  rw [this, List.append_nil]
  refine filterMap_same fun l hl => ?_
  obtain ⟨k, hk, hk0, _⟩ := d.times hl
  exact low_scale (t.lv_leaf l hl) (by rw [hk]; omega)
/-- the law's own divisors -/
def lawDv (span : Int) : T → Option Int
  | .rest _ b _ d => some (d * times span b)
  | _ => none
theorem dv_scale {span : Int} : ∀ l : List T, ((l.map (T.scale span)).filter T.is_rest).map T.dv = l.filterMap (lawDv span)
  | [] => rfl
  | x :: l => by
    have ih := dv_scale (span := span) l
    cases x <;> simp [T.scale, T.is_rest, lawDv, T.dv, ih, List.filter_cons, List.filterMap_cons]
theorem lcmL_rot (x : Int) (l : List Int) : lcmL (x :: l) = lcmL (l ++ [x]) :=
  Nat.dvd_antisymm (lcmL_dvd fun i hi => dvd_lcmL (by simp at hi ⊢; exact hi.symm)) (lcmL_dvd fun i hi => dvd_lcmL (by simp at hi ⊢; exact hi.symm))
theorem bd_step (t : T) : t.bd.step = lcmL ((t.span : Int) :: t.lv.filterMap (lawDv t.span)) := by
  unfold T.step
  rw [bd_lv, List.filter_append, List.map_append, dv_scale, lcmL_rot]
  rfl
theorem Dn.step {t : T} (d : Dn t) : t.bd.step ≤ 166320 := by
  rw [bd_step]
  refine Nat.le_of_dvd (by omega) (lcmL_dvd fun i hi => ?_)
  have e6 : (166320 : Nat) = 27720 * 6 := by decide
  rcases List.mem_cons.mp hi with rfl | hi
  · rw [e6]
    exact Nat.dvd_trans d.span6 (Nat.dvd_mul_left _ _)
  · obtain ⟨l, hl, e⟩ := List.mem_filterMap.mp hi
    obtain ⟨k, hk, hk0, hk1, _⟩ := d.times hl
    have hdr := t.drawn_lv d.dr l hl
    cases l with
    | rest a b c dd =>
      simp only [lawDv] at e
      simp only [T.b] at hk
      cases e
      rw [hk, Int.natAbs_mul, Int.natAbs_natCast, e6]
      refine Nat.mul_dvd_mul ?_ (Nat.dvd_trans hk1 d.span6)
      have := hdr.2.2.2
      have : dd.natAbs = 2 ∨ dd.natAbs = 3 ∨ dd.natAbs = 4 ∨ dd.natAbs = 5 ∨ dd.natAbs = 6 ∨ dd.natAbs = 7 ∨ dd.natAbs = 8 ∨ dd.natAbs = 9 ∨ dd.natAbs = 10 ∨ dd.natAbs = 11 ∨ dd.natAbs = 12 := by omega
      rcases this with h | h | h | h | h | h | h | h | h | h | h <;> rw [h] <;> decide
    | less a b c => cases e
    | an x y => cases e
    | orr x y => cases e
/-! ### plain facts: what the body says -/
theorem leaf_holds {span x last y : Int} {l : T} {k : Nat} (hl : l.leaf = true) (hk : times span l.b = k) (k0 : 0 < k) (hs : l.b ≠ 0 → span = k * l.b.natAbs) (hy : last = span * y) (hd : l.drawn) : (l.scale span).holds x last = l.holds x y := by
  have sg : sgn span l.b * last = l.b * k * y := by
    by_cases hb : l.b = 0
    · unfold sgn; rw [if_pos hb, hb]; simp
    · have this : sgn span l.b * (l.b.natAbs : Int) = l.b := by
        have h1 := sgn_neg (span := span) (b := l.b) (by rw [hk]; omega)
        have h2 : sgn span l.b = 1 ∨ sgn span l.b = -1 := by
          unfold sgn
          rw [if_neg hb]
          split
          · exact .inl rfl
          · exact .inr rfl
        rcases h2 with h | h <;> rw [h] at h1 ⊢ <;> omega
      have h4 : sgn span l.b * (k * l.b.natAbs : Int) = k * (sgn span l.b * l.b.natAbs) := Int.mul_left_comm _ _ _
      rw [this, ← hs hb] at h4
      rw [hy, ← Int.mul_assoc, h4, Int.mul_comm (k : Int)]
  cases l with
  | less a b c =>
    simp only [T.b] at *
    simp only [T.scale, T.holds, hk, sg]
    have e : a * k * x + b * k * y - c * k = k * (a * x + b * y - c) := by
      rw [Int.mul_sub, Int.mul_add, Int.mul_comm c, Int.mul_left_comm, Int.mul_assoc a, Int.mul_left_comm a, Int.mul_assoc b, Int.mul_left_comm b]
    rw [e]
    apply decide_eq_decide.mpr
    have hk0 : (0 : Int) < k := by omega
    constructor
    · intro z
      rcases Int.lt_or_le 0 (a * x + b * y - c) with h | h
      · have := Int.mul_pos hk0 h; omega
      · exact h
    · intro z
      have := Int.mul_nonpos_of_nonneg_of_nonpos (Int.le_of_lt hk0) z
      exact this
  | rest a b c d =>
    simp only [T.b] at *
    simp only [T.scale, T.holds, hk, sg]
    have hk0 : (0 : Int) < k := by omega
    have e : a * k * x + b * k * y - c * k = k * (a * x + b * y - c) := by
      rw [Int.mul_sub, Int.mul_add, Int.mul_comm c, Int.mul_left_comm, Int.mul_assoc a, Int.mul_left_comm a, Int.mul_assoc b, Int.mul_left_comm b]
    rw [e, Int.mul_comm d, Int.mul_emod_mul_of_pos _ _ hk0]
    apply decide_eq_decide.mpr
    constructor
    · intro z
      rcases Int.mul_eq_zero.mp z with h | h
      · omega
      · exact h
    · intro z
      rw [z, Int.mul_zero]
  | an p q => cases hl
  | orr p q => cases hl
theorem scale_holds {span x last y : Int} : ∀ t : T, (∀ l ∈ t.lv, ∃ k : Nat, times span l.b = k ∧ 0 < k ∧ (l.b ≠ 0 → span = k * l.b.natAbs)) → t.drawn → last = span * y → (t.scale span).holds x last = t.holds x y
  | .less a b c, h, hd, hy => by
    obtain ⟨k, h1, h2, h3⟩ := h _ (List.mem_singleton.mpr rfl)
    exact leaf_holds (l := .less a b c) rfl h1 h2 h3 hy hd
  | .rest a b c d, h, hd, hy => by
    obtain ⟨k, h1, h2, h3⟩ := h _ (List.mem_singleton.mpr rfl)
    exact leaf_holds (l := .rest a b c d) rfl h1 h2 h3 hy hd
  | .an p q, h, hd, hy => by
    simp only [T.scale, T.holds]
    rw [scale_holds p (fun l hl => h l (List.mem_append_left _ hl)) hd.1 hy, scale_holds q (fun l hl => h l (List.mem_append_right _ hl)) hd.2 hy]
  | .orr p q, h, hd, hy => by
    simp only [T.scale, T.holds]
    rw [scale_holds p (fun l hl => h l (List.mem_append_left _ hl)) hd.1 hy, scale_holds q (fun l hl => h l (List.mem_append_right _ hl)) hd.2 hy]
/-- the body holds at the multiples of the span where the statement does -/
theorem Dn.holds {t : T} (d : Dn t) (x last : Int) : t.bd.holds x last = (decide (last % (t.span : Int) = 0) && t.holds x (last / (t.span : Int))) := by
  have hs := t.span_pos
  unfold T.bd T.body T.whole
  simp only [T.holds, Int.zero_mul, Int.one_mul, Int.zero_add, Int.sub_zero]
  by_cases h : last % (t.span : Int) = 0
  · have e := Int.mul_ediv_add_emod last (t.span : Int)
    rw [h, Int.add_zero] at e
    rw [decide_eq_true h, Bool.and_true, Bool.true_and]
    refine scale_holds t (fun l hl => ?_) d.dr e.symm
    obtain ⟨k, h1, h2, _, _, h3⟩ := d.times hl
    exact ⟨k, h1, h2, h3⟩
  · rw [decide_eq_false h, Bool.and_false, Bool.false_and]
end K89
set_option Elab.async false
set_option linter.all false
set_option maxRecDepth 100000
set_option maxHeartbeats 1000000
namespace K89
open PySem PySem.Spec PyProof.Rows L2 Py
theorem lcmL_abs (l : List Int) : lcmL (l.map fun b => (b.natAbs : Int)) = lcmL l := by
  have gen : ∀ (l : List Int) (f : Nat), (l.map fun b => (b.natAbs : Int)).foldl (fun f i => Nat.lcm f i.natAbs) f = l.foldl (fun f i => Nat.lcm f i.natAbs) f := by
    intro l
    induction l with
    | nil => intro f; rfl
    | cons b l ih =>
      intro f
      rw [List.map_cons, List.foldl_cons, List.foldl_cons, Int.natAbs_natCast, ih]
  exact gen l 1
theorem map_abs : ∀ {l : List T}, (∀ x ∈ l, x.leaf = true) → ((l.map T.e).filter (fun d => decide (lastD d ≠ 0))).map (fun d => D.int ((lastD d).natAbs : Int)) = (((l.map T.b).filter (fun i => decide (i ≠ 0))).map fun b => (b.natAbs : Int)).map D.int
  | [], _ => rfl
  | x :: l, h => by
    have hx := lastD_e (h x List.mem_cons_self)
    have ih := map_abs (l := l) fun y hy => h y (List.mem_cons_of_mem _ hy)
    simp only [List.map_cons, List.filter_cons, hx]
    split
    · simp only [List.map_cons, hx, ih]
    · exact ih
theorem pair_inj {l1 l2 : List (Int × Int)} (h : l1.map Ns.pairD = l2.map Ns.pairD) : l1 = l2 := by
  have := congrArg (List.map Ns.unD) h
  simp only [List.map_map, show Ns.unD ∘ Ns.pairD = some from rfl] at this
  exact (List.map_inj_right (fun _ _ z => Option.some.inj z)).mp this
theorem enc_inj_len {α : Type} {f : α → D} {l1 l2 l3 : List α} (h : l1.map f = l2.map f) (h1 : l3 = l1 ++ []) : l1.length = l2.length := by
  simpa using congrArg List.length h
local macro_rules | `(tactic| array_get_dec) => `(tactic| first
  | with_reducible refine s_cons ?_
  | with_reducible refine s_nil ?_
  | with_reducible refine s_cnd ?_
  | with_reducible refine s_ret ?_
  | (with_reducible refine w_var ?_; refine ⟨_, rfl, ?_⟩)
  | with_reducible refine w_int ?_
  | with_reducible refine w_str ?_
  | with_reducible refine w_bl ?_
  | with_reducible refine w_non ?_
  | with_reducible refine a_cons ?_
  | with_reducible refine a_nil ?_
  | with_reducible refine w_call ?_
  | with_reducible refine t_call ?_
  | with_reducible refine w_tup ?_
  | with_reducible refine w_cmp ?_
  | with_reducible refine t_cmp ?_
  | with_reducible refine w_ix ?_
  | with_reducible refine w_bin ?_
  | with_reducible refine w_isi ?_
  | with_reducible refine t_isi ?_
  | with_reducible refine w_nt ?_
  | with_reducible refine t_nt ?_
  | with_reducible refine w_con ?_
  | with_reducible refine t_con ?_
  | with_reducible refine w_dis ?_
  | with_reducible refine t_dis ?_
  | with_reducible refine w_chn ?_
  | with_reducible refine w_ife ?_
  | with_reducible refine w_bi ?_
  | with_reducible refine t_bi ?_
  | with_reducible refine w_neg ?_
  | with_reducible refine w_sl ?_
  | with_reducible refine o_no ?_
  | with_reducible refine o_yes ?_
  | with_reducible refine s_set ?_
  | with_reducible refine s_par ?_
  | with_reducible refine s_ex ?_
  | with_reducible refine s_rse ?_
  | with_reducible refine s_rep ?_
  | with_reducible refine s_whl ?_
  | with_reducible refine s_brk ?_
  | with_reducible refine s_sub ?_
  | with_reducible refine w_lst ?_
  | with_reducible refine w_lc ?_
  | with_reducible refine w_mth ?_
  | with_reducible refine i_seq ?_
  | with_reducible refine i_r1 ?_
  | with_reducible refine i_r2 ?_
  | with_reducible refine i_zip ?_
  | with_reducible refine ot_no ?_
  | with_reducible refine ot_yes ?_
  | (with_reducible refine t_var ?_; refine ⟨_, _, rfl, rfl, ?_⟩)
  | with_reducible refine w_isN ?_
  | with_reducible refine t_isN ?_
  | with_reducible refine t_isB ?_
  | with_reducible refine t_isx ?_
  | with_reducible refine t_ix ?_
  | with_reducible refine w_fld ?_
  | with_reducible refine w_heard ?_
  | with_reducible refine w_lrange ?_
  | with_reducible refine a_star ?_
  | with_reducible refine w_glb con_0 ?_
  | with_reducible refine w_glb con_1 ?_
  | with_reducible refine w_glb con_2 ?_
  | with_reducible refine w_glb con_3 ?_
  | with_reducible refine w_glb con_4 ?_
  | with_reducible refine w_glb con_5 ?_
  | with_reducible refine w_glb con_6 ?_
  | with_reducible refine w_glb con_7 ?_
  | with_reducible refine w_glb con_8 ?_
  | with_reducible refine w_glb con_9 ?_
  | with_reducible refine w_glb con_10 ?_
  | with_reducible refine w_glb con_11 ?_
  | with_reducible refine w_glb con_12 ?_
  | with_reducible refine w_glb con_13 ?_
  | with_reducible refine w_glb con_14 ?_
  | with_reducible refine w_glb con_15 ?_
  | with_reducible refine w_glb con_16 ?_
  | with_reducible refine w_glb con_17 ?_
  | with_reducible refine w_glb con_18 ?_
  | with_reducible refine w_glb con_19 ?_
  | with_reducible refine w_glb con_20 ?_
  | with_reducible refine w_glb con_21 ?_
  | with_reducible refine w_glb con_22 ?_
  | with_reducible refine w_glb con_23 ?_
  | with_reducible refine r_cut1 ?_
  | with_reducible refine r_cut3 ?_
  | with_reducible refine r_cutL ?_
  | with_reducible refine r_cutL1 ?_
  | with_reducible refine b_tup1 ?_
  | with_reducible refine r_abs ?_
  | with_reducible refine r_max ?_
  | with_reducible refine r_min ?_
  | with_reducible refine r_intI ?_
  | with_reducible refine r_intB ?_
  | with_reducible refine r_lenT ?_
  | with_reducible refine b_add ?_
  | with_reducible refine b_sub ?_
  | with_reducible refine b_mulR (by omega) ?_
  | with_reducible refine b_mulL (by omega) ?_
  | with_reducible refine b_div64 (by omega) ?_
  | with_reducible refine b_mod (by omega) ?_
  | with_reducible refine ⟨_, ix0, ?_⟩
  | with_reducible refine ⟨_, ix1, ?_⟩
  | with_reducible refine ⟨_, ix2, ?_⟩
  | with_reducible refine ⟨_, ix3, ?_⟩
  | with_reducible refine ⟨_, ixL, ?_⟩
  | refine ⟨Nat.le_of_ble_eq_true rfl, ?_⟩
  | refine ⟨fun _ => ?_, fun z => absurd z (by decide +kernel)⟩
  | refine ⟨fun z => absurd z (by decide +kernel), fun _ => ?_⟩
  | refine ⟨fun _ => ?_, fun z => Bool.noConfusion (show true = false from z)⟩
  | refine ⟨fun _ => ?_, fun z => Bool.noConfusion (show false = true from z)⟩
  | refine ⟨fun z => Bool.noConfusion (show true = false from z), fun _ => ?_⟩
  | refine ⟨fun z => Bool.noConfusion (show false = true from z), fun _ => ?_⟩
  | refine ⟨fun _ => ?_, fun z => absurd z (by simp only [Bool.not_eq_true', Bool.not_eq_false', decide_eq_true_eq, decide_eq_false_iff_not]; omega)⟩
  | refine ⟨fun z => absurd z (by simp only [Bool.not_eq_true', Bool.not_eq_false', decide_eq_true_eq, decide_eq_false_iff_not]; omega), fun _ => ?_⟩
  | refine ⟨_, rfl, ?_⟩)

section
variable {n : Nat} {S : Sto}
theorem c47 {t : T} {k : Nat} (d : Dn t) (hn : 40 ≤ n) (a : S[k]? = some (.lst (t.lv.map T.e))) : Gv ((p.G n).call 47 [.ref k] S) S (dueD t) := by
  have hlen := lv_len t
  have hz := d.sz
  have hsp := t.span_pos
  have hs6 := d.span
  refine c_of d47 rfl (by omega) rfl fun m e => ?_
  unfold d47
  repeat array_get_dec
  refine seqW_ref0 a ?_
  refine wp_lc (fun d => decide (lastD d ≠ 0)) (fun d => .int ((lastD d).natAbs : Int)) (stands_one a) ?_ (fun z hz S4 s4 => ?_) fun k5 S5 s5 h5 a5 => ?_
  · exact small_len (by simp; omega)
  · obtain ⟨l, hl, rfl⟩ := List.mem_map.mp hz
    have lf := t.lv_leaf l hl
    refine ⟨_, rfl, ?_⟩
    cases l with
    | less a b c =>
      rw [T.e]
      repeat array_get_dec
      refine ⟨by by_cases h0 : b = 0 <;> simp [lastD, h0], Sub.refl _, fun _ => ?_⟩
      repeat array_get_dec
      exact ⟨rfl, Sub.refl _⟩
    | rest a b c d =>
      rw [T.e]
      repeat array_get_dec
      refine ⟨by by_cases h0 : b = 0 <;> simp [lastD, h0], Sub.refl _, fun _ => ?_⟩
      repeat array_get_dec
      exact ⟨rfl, Sub.refl _⟩
    | an x y => cases lf
    | orr x y => cases lf
  rw [map_abs (T.lv_leaf t)] at a5
  repeat array_get_dec
  refine (c46 (by omega) a5 fun i hi => ?_).use fun S6 s6 => ?_
  · obtain ⟨b, hb, rfl⟩ := List.mem_map.mp hi
    obtain ⟨h1, h2⟩ := List.mem_filter.mp hb
    obtain ⟨l, hl, rfl⟩ := List.mem_map.mp h1
    have := drawn_b (t.drawn_lv d.dr l hl) (t.lv_leaf l hl)
    have h0 : l.b ≠ 0 := by simpa using h2
    omega
  rw [show lcmL (((t.lv.map T.b).filter (fun i => decide (i ≠ 0))).map fun b => (b.natAbs : Int)) = t.span from lcmL_abs _]
  repeat array_get_dec
  intro k7 S7 s7 h7 a7
  repeat array_get_dec
  intro k8 S8 s8 h8 a8
  have s08 := ((s5.trans s6).trans s7).trans s8
  have n7 : S[k7]? = none := (s5.trans s6).none h7
  have n8 : S[k8]? = none := ((s5.trans s6).trans s7).none h8
  have ne : k7 ≠ k8 := ne_of_some a7 h8
  have a78 := s8 _ _ a7
  have hk8 := s08 _ _ a
  repeat array_get_dec
  refine seqW_ref0 hk8 ?_
  refine wf_for (fun done E S9 => ∃ (l1 : List T) (x2 x5 : Option D), done = l1.map T.e ∧ E = [some (.ref k), some (.int t.span), x2, some (.ref k7), some (.ref k8), x5] ∧ Sub S S9 ∧ S9[k7]? = some (.lst (((0, 0) :: l1.filterMap (lawLow t.span)).map Ns.pairD)) ∧ S9[k8]? = some (.lst (((t.span : Int) :: l1.filterMap (lawDv t.span)).map D.int)) ∧ ∃ l2, t.lv = l1 ++ l2) ⟨[], _, none, rfl, rfl, s08, a78, a8, t.lv, rfl⟩ ?_ ?_
  · rintro done z rest hd E1 S9 ⟨l1, x2, x5, rfl, rfl, s9, a9, b9, l2, hl⟩
    refine ⟨stands_one (s9 _ _ a), ?_⟩
    have e2 : l2.map T.e = z :: rest := by
      rw [hl, List.map_append] at hd
      exact List.append_cancel_left hd
    obtain ⟨y, l3, rfl, rfl, _⟩ := List.map_eq_cons_iff.mp e2
    have hy : y ∈ t.lv := by rw [hl]; simp
    have lf := t.lv_leaf y hy
    have hdr := t.drawn_lv d.dr y hy
    obtain ⟨tm, ht1, ht2, ht3, ht4, ht5⟩ := d.times hy
    have hfm1 : (l1.filterMap (lawLow t.span)).length ≤ 9 := Nat.le_trans (List.length_filterMap_le _ _) (by rw [hl] at hlen; simp at hlen; omega)
    have hfm2 : (l1.filterMap (lawDv t.span)).length ≤ 9 := Nat.le_trans (List.length_filterMap_le _ _) (by rw [hl] at hlen; simp at hlen; omega)
    refine ⟨_, rfl, ?_⟩
    cases y with
    | less av b c =>
      rw [T.e]
      simp only [T.b] at ht1 ht5
      simp only [T.drawn] at hdr
      have tail : ∀ S10, Sub S S10 → S10[k7]? = some (.lst (((0, 0) :: l1.filterMap (lawLow t.span)).map Ns.pairD)) → S10[k8]? = some (.lst (((t.span : Int) :: l1.filterMap (lawDv t.span)).map D.int)) →
          wf ((Stms.cons (.cnd (.cmp .Eq (.ix (.var 2) (.int 0)) (.str "rest")) (.cons (.ex (.mth (.var 4) .append (.cons (.bin .Mult (.ix (.var 2) (.int 3)) (.var 5)) .nil))) .nil) (.cons (.cnd (.cmp .Lt (.ix (.ix (.var 2) (.int 1)) (.int 1)) (.int 0)) (.cons (.ex (.mth (.var 3) .append (.cons (.tup (.cons (.tup (.cons (.bin .Mult (.ix (.ix (.var 2) (.int 1)) (.int 0)) (.var 5)) .nil)) (.cons (.bin .Mult (.neg (.ix (.var 2) (.int 2))) (.var 5)) .nil))) .nil))) .nil) .nil) .nil)) .nil).ev (p.G m) [some (.ref k), some (.int t.span), some (D.tup [.str "less", .tup [.int av, .int b], .int c]), some (.ref k7), some (.ref k8), some (.int tm)] S10)
          { N := fun E S9 => ∃ (l1' : List T) (x2 x5 : Option D), l1.map T.e ++ [(D.tup [.str "less", .tup [.int av, .int b], .int c])] = l1'.map T.e ∧ E = [some (.ref k), some (.int t.span), x2, some (.ref k7), some (.ref k8), x5] ∧ Sub S S9 ∧ S9[k7]? = some (.lst (((0, 0) :: l1'.filterMap (lawLow t.span)).map Ns.pairD)) ∧ S9[k8]? = some (.lst (((t.span : Int) :: l1'.filterMap (lawDv t.span)).map D.int)) ∧ ∃ l2, t.lv = l1' ++ l2, R := fun _ _ => False, X := noX, B := fun _ _ => False } := by
        intro S10 s10 a10 b10
        repeat array_get_dec
        refine ⟨fun z => ?_, fun z => ?_⟩
        · have z := of_decide_eq_true z
          repeat array_get_dec
          refine m_app a10 (Nat.lt_of_le_of_lt (show _ ≤ 10 by simp; omega) (Nat.le_of_ble_eq_true rfl)) ?_
          repeat array_get_dec
          refine ⟨l1 ++ [.less av b c], _, _, by rw [List.map_append]; rfl, rfl, s10.set n7 _, ?_, ?_, l3, by rw [hl]; simp⟩
          · rw [get_set a10, List.filterMap_append]
            simp [lawLow, z, ht1, Ns.pairD]
          · rw [get_set_ne b10 ne, List.filterMap_append]
            simp [lawDv]
        · have z := of_decide_eq_false z
          repeat array_get_dec
          refine ⟨l1 ++ [.less av b c], _, _, by rw [List.map_append]; rfl, rfl, s10, ?_, ?_, l3, by rw [hl]; simp⟩
          · rw [a10, List.filterMap_append]; simp [lawLow, z]
          · rw [b10, List.filterMap_append]; simp [lawDv]
      refine s_cons (wf_mono (K := { N := fun E S' => E = [some (.ref k), some (.int t.span), some (D.tup [.str "less", .tup [.int av, .int b], .int c]), some (.ref k7), some (.ref k8), some (.int tm)] ∧ S' = S9, R := fun _ _ => False, X := noX, B := fun _ _ => False }) ?_ (fun E S1 z => by
        obtain ⟨rfl, rfl⟩ := z
        exact wf_mono (tail S1 s9 a9 b9) (fun E S z => z) (fun _ _ z => z.elim) (fun _ _ z => z.elim) (fun _ _ z => z.elim)) (fun _ _ z => z.elim) (fun _ _ z => z.elim) (fun _ _ z => z.elim))
      by_cases hb : b = 0
      · subst hb
        have e1 : (tm : Int) = 1 := by rw [← ht1]; simp [K89.times]
        repeat array_get_dec
        rw [e1]
        exact ⟨rfl, rfl⟩
      · have e1 : (t.span : Int) / (b.natAbs : Int) = tm := by rw [← ht1]; simp [K89.times, hb]
        repeat array_get_dec
        rw [e1]
        exact ⟨rfl, rfl⟩
    | rest av b c dv =>
      rw [T.e]
      simp only [T.b] at ht1 ht5
      simp only [T.drawn] at hdr
      have tail : ∀ S10, Sub S S10 → S10[k7]? = some (.lst (((0, 0) :: l1.filterMap (lawLow t.span)).map Ns.pairD)) → S10[k8]? = some (.lst (((t.span : Int) :: l1.filterMap (lawDv t.span)).map D.int)) →
          wf ((Stms.cons (.cnd (.cmp .Eq (.ix (.var 2) (.int 0)) (.str "rest")) (.cons (.ex (.mth (.var 4) .append (.cons (.bin .Mult (.ix (.var 2) (.int 3)) (.var 5)) .nil))) .nil) (.cons (.cnd (.cmp .Lt (.ix (.ix (.var 2) (.int 1)) (.int 1)) (.int 0)) (.cons (.ex (.mth (.var 3) .append (.cons (.tup (.cons (.tup (.cons (.bin .Mult (.ix (.ix (.var 2) (.int 1)) (.int 0)) (.var 5)) .nil)) (.cons (.bin .Mult (.neg (.ix (.var 2) (.int 2))) (.var 5)) .nil))) .nil))) .nil) .nil) .nil)) .nil).ev (p.G m) [some (.ref k), some (.int t.span), some (D.tup [.str "rest", .tup [.int av, .int b], .int c, .int dv]), some (.ref k7), some (.ref k8), some (.int tm)] S10)
          { N := fun E S9 => ∃ (l1' : List T) (x2 x5 : Option D), l1.map T.e ++ [(D.tup [.str "rest", .tup [.int av, .int b], .int c, .int dv])] = l1'.map T.e ∧ E = [some (.ref k), some (.int t.span), x2, some (.ref k7), some (.ref k8), x5] ∧ Sub S S9 ∧ S9[k7]? = some (.lst (((0, 0) :: l1'.filterMap (lawLow t.span)).map Ns.pairD)) ∧ S9[k8]? = some (.lst (((t.span : Int) :: l1'.filterMap (lawDv t.span)).map D.int)) ∧ ∃ l2, t.lv = l1' ++ l2, R := fun _ _ => False, X := noX, B := fun _ _ => False } := by
        intro S10 s10 a10 b10
        repeat array_get_dec
        refine m_app b10 (Nat.lt_of_le_of_lt (show _ ≤ 10 by simp; omega) (Nat.le_of_ble_eq_true rfl)) ?_
        repeat array_get_dec
        refine ⟨l1 ++ [.rest av b c dv], _, _, by rw [List.map_append]; rfl, rfl, s10.set n8 _, ?_, ?_, l3, by rw [hl]; simp⟩
        · rw [get_set_ne a10 ne.symm, List.filterMap_append]
          simp [lawLow]
        · rw [get_set b10, List.filterMap_append]
          simp [lawDv, ht1]
      refine s_cons (wf_mono (K := { N := fun E S' => E = [some (.ref k), some (.int t.span), some (D.tup [.str "rest", .tup [.int av, .int b], .int c, .int dv]), some (.ref k7), some (.ref k8), some (.int tm)] ∧ S' = S9, R := fun _ _ => False, X := noX, B := fun _ _ => False }) ?_ (fun E S1 z => by
        obtain ⟨rfl, rfl⟩ := z
        exact wf_mono (tail S1 s9 a9 b9) (fun E S z => z) (fun _ _ z => z.elim) (fun _ _ z => z.elim) (fun _ _ z => z.elim)) (fun _ _ z => z.elim) (fun _ _ z => z.elim) (fun _ _ z => z.elim))
      by_cases hb : b = 0
      · subst hb
        have e1 : (tm : Int) = 1 := by rw [← ht1]; simp [K89.times]
        repeat array_get_dec
        rw [e1]
        exact ⟨rfl, rfl⟩
      · have e1 : (t.span : Int) / (b.natAbs : Int) = tm := by rw [← ht1]; simp [K89.times, hb]
        repeat array_get_dec
        rw [e1]
        exact ⟨rfl, rfl⟩
    | an x y => cases lf
    | orr x y => cases lf
  · rintro E1 S9 ⟨l1, x2, x5, hd, rfl, s9, a9, b9, l2, hl⟩
    refine ⟨stands_one (s9 _ _ a), ?_⟩
    have hl0 : l2 = [] := by
      have := congrArg List.length hd
      rw [hl] at this
      simp at this
      exact this
    subst hl0
    rw [List.append_nil] at hl
    subst hl
    have hfm1 : (t.lv.filterMap (lawLow t.span)).length ≤ 9 := Nat.le_trans (List.length_filterMap_le _ _) (by omega)
    repeat array_get_dec
    refine w_ssort ?_
    repeat array_get_dec
    refine ⟨(srtP ((0, 0) :: t.lv.filterMap (lawLow t.span))).map Ns.pairD, ?_, fun k10 S10 s10 h10 a10 => ?_⟩
    · rw [show lstOf S9 (.ref k7) = some (((0, 0) :: t.lv.filterMap (lawLow t.span)).map Ns.pairD) by simp only [lstOf, a9]]
      exact srtD_pairs (by simp; omega)
    repeat array_get_dec
    refine wp_tupl a10 ?_
    repeat array_get_dec
    refine (c46 (by omega) (s10 _ _ b9) fun i hi => ?_).use fun S11 s11 => ?_
    · rcases List.mem_cons.mp hi with rfl | hi
      · omega
      · obtain ⟨l, hl, e⟩ := List.mem_filterMap.mp hi
        obtain ⟨tm, ht1, ht2, ht3, ht4, ht5⟩ := d.times hl
        have hdr := t.drawn_lv d.dr l hl
        cases l with
        | rest av b c dv =>
          simp only [lawDv] at e
          simp only [T.b] at ht1
          cases e
          rw [ht1]
          have := hdr.2.2.2
          have h1 := mul_bnd (a := dv) (m := tm) (A := 12) (M := 6) (by omega) (by omega) (by omega)
          have h2 : 0 < dv * (tm : Int) := Int.mul_pos (by omega) (by omega)
          omega
        | less av b c => cases e
        | an x y => cases e
        | orr x y => cases e
    repeat array_get_dec
    refine ⟨?_, (s9.trans s10).trans s11⟩
    unfold dueD
    rw [d.lows, bd_step]
end
end K89
set_option Elab.async false
set_option linter.all false
set_option maxRecDepth 100000
set_option maxHeartbeats 1000000
namespace K89
open PySem PySem.Spec PyProof.Rows L2 Py
/-! ### the least last number, by the law -/
def loOf (x : Int) (q : Int × Int) : Int := if 0 > q.1 * x + q.2 then 0 else q.1 * x + q.2
def hiOf (x : Int) (st : Nat) (q : Int × Int) : Int := if 0 > q.1 * x + q.2 + st then 0 else q.1 * x + q.2 + st
def T.okL (t : T) (x l : Int) : Bool := decide (l % (t.span : Int) = 0) && t.holds x (l / (t.span : Int))
def T.lasts (t : T) (x : Int) (q : Int × Int) : List Int := (List.range (hiOf x t.bd.step q - loOf x q).toNat).map fun i : Nat => loOf x q + (i : Int)
def T.firstG (t : T) (x : Int) (q : Int × Int) : Option Int := (t.lasts x q).find? (t.okL x)
def T.lawGood (t : T) (x : Int) (l : List (Int × Int)) : List Int := l.filterMap fun q => (t.firstG x q).map (· / (t.span : Int))
def lawLeast (good : List Int) : D := match good with
  | [] => .non
  | i :: is => .int (is.foldl min i)
local macro_rules | `(tactic| array_get_dec) => `(tactic| first
  | with_reducible refine s_cons ?_
  | with_reducible refine s_nil ?_
  | with_reducible refine s_cnd ?_
  | with_reducible refine s_ret ?_
  | (with_reducible refine w_var ?_; refine ⟨_, rfl, ?_⟩)
  | with_reducible refine w_int ?_
  | with_reducible refine w_str ?_
  | with_reducible refine w_bl ?_
  | with_reducible refine w_non ?_
  | with_reducible refine a_cons ?_
  | with_reducible refine a_nil ?_
  | with_reducible refine w_call ?_
  | with_reducible refine t_call ?_
  | with_reducible refine w_tup ?_
  | with_reducible refine w_cmp ?_
  | with_reducible refine t_cmp ?_
  | with_reducible refine w_ix ?_
  | with_reducible refine w_bin ?_
  | with_reducible refine w_isi ?_
  | with_reducible refine t_isi ?_
  | with_reducible refine w_nt ?_
  | with_reducible refine t_nt ?_
  | with_reducible refine w_con ?_
  | with_reducible refine t_con ?_
  | with_reducible refine w_dis ?_
  | with_reducible refine t_dis ?_
  | with_reducible refine w_chn ?_
  | with_reducible refine w_ife ?_
  | with_reducible refine w_bi ?_
  | with_reducible refine t_bi ?_
  | with_reducible refine w_neg ?_
  | with_reducible refine w_sl ?_
  | with_reducible refine o_no ?_
  | with_reducible refine o_yes ?_
  | with_reducible refine s_set ?_
  | with_reducible refine s_par ?_
  | with_reducible refine s_ex ?_
  | with_reducible refine s_rse ?_
  | with_reducible refine s_rep ?_
  | with_reducible refine s_whl ?_
  | with_reducible refine s_brk ?_
  | with_reducible refine s_sub ?_
  | with_reducible refine w_lst ?_
  | with_reducible refine w_lc ?_
  | with_reducible refine w_mth ?_
  | with_reducible refine i_seq ?_
  | with_reducible refine i_r1 ?_
  | with_reducible refine i_r2 ?_
  | with_reducible refine i_zip ?_
  | with_reducible refine ot_no ?_
  | with_reducible refine ot_yes ?_
  | (with_reducible refine t_var ?_; refine ⟨_, _, rfl, rfl, ?_⟩)
  | with_reducible refine w_isN ?_
  | with_reducible refine t_isN ?_
  | with_reducible refine t_isB ?_
  | with_reducible refine t_isx ?_
  | with_reducible refine t_ix ?_
  | with_reducible refine w_fld ?_
  | with_reducible refine w_heard ?_
  | with_reducible refine w_lrange ?_
  | with_reducible refine a_star ?_
  | with_reducible refine w_glb con_0 ?_
  | with_reducible refine w_glb con_1 ?_
  | with_reducible refine w_glb con_2 ?_
  | with_reducible refine w_glb con_3 ?_
  | with_reducible refine w_glb con_4 ?_
  | with_reducible refine w_glb con_5 ?_
  | with_reducible refine w_glb con_6 ?_
  | with_reducible refine w_glb con_7 ?_
  | with_reducible refine w_glb con_8 ?_
  | with_reducible refine w_glb con_9 ?_
  | with_reducible refine w_glb con_10 ?_
  | with_reducible refine w_glb con_11 ?_
  | with_reducible refine w_glb con_12 ?_
  | with_reducible refine w_glb con_13 ?_
  | with_reducible refine w_glb con_14 ?_
  | with_reducible refine w_glb con_15 ?_
  | with_reducible refine w_glb con_16 ?_
  | with_reducible refine w_glb con_17 ?_
  | with_reducible refine w_glb con_18 ?_
  | with_reducible refine w_glb con_19 ?_
  | with_reducible refine w_glb con_20 ?_
  | with_reducible refine w_glb con_21 ?_
  | with_reducible refine w_glb con_22 ?_
  | with_reducible refine w_glb con_23 ?_
  | with_reducible refine r_cut1 ?_
  | with_reducible refine r_cut3 ?_
  | with_reducible refine r_cutL ?_
  | with_reducible refine r_cutL1 ?_
  | with_reducible refine b_tup1 ?_
  | with_reducible refine r_abs ?_
  | with_reducible refine r_max ?_
  | with_reducible refine r_min ?_
  | with_reducible refine r_intI ?_
  | with_reducible refine r_intB ?_
  | with_reducible refine r_lenT ?_
  | with_reducible refine b_add ?_
  | with_reducible refine b_sub ?_
  | with_reducible refine b_mulR (by omega) ?_
  | with_reducible refine b_mulL (by omega) ?_
  | with_reducible refine b_div64 (by omega) ?_
  | with_reducible refine b_mod (by omega) ?_
  | with_reducible refine ⟨_, ix0, ?_⟩
  | with_reducible refine ⟨_, ix1, ?_⟩
  | with_reducible refine ⟨_, ix2, ?_⟩
  | with_reducible refine ⟨_, ix3, ?_⟩
  | with_reducible refine ⟨_, ixL, ?_⟩
  | refine ⟨Nat.le_of_ble_eq_true rfl, ?_⟩
  | refine ⟨fun _ => ?_, fun z => absurd z (by decide +kernel)⟩
  | refine ⟨fun z => absurd z (by decide +kernel), fun _ => ?_⟩
  | refine ⟨fun _ => ?_, fun z => Bool.noConfusion (show true = false from z)⟩
  | refine ⟨fun _ => ?_, fun z => Bool.noConfusion (show false = true from z)⟩
  | refine ⟨fun z => Bool.noConfusion (show true = false from z), fun _ => ?_⟩
  | refine ⟨fun z => Bool.noConfusion (show false = true from z), fun _ => ?_⟩
  | refine ⟨fun _ => ?_, fun z => absurd z (by simp only [Bool.not_eq_true', Bool.not_eq_false', decide_eq_true_eq, decide_eq_false_iff_not]; omega)⟩
  | refine ⟨fun z => absurd z (by simp only [Bool.not_eq_true', Bool.not_eq_false', decide_eq_true_eq, decide_eq_false_iff_not]; omega), fun _ => ?_⟩
  | refine ⟨_, rfl, ?_⟩)

section
variable {n : Nat} {S : Sto}
theorem c49 {t : T} {x : Int} (d : Dn t) (hn : 40 ≤ n) (hm : t.bd.step * t.bd.lows.length ≤ 5000) (hx : 0 ≤ x ∧ x ≤ 1000000000000) : Gv ((p.G n).call 49 [t.e, .int x, dueD t] S) S (lawLeast (t.lawGood x t.bd.lows)) := by
  have k := d.tok
  have hsp0 := t.span_pos
  have hsp1 := d.span
  have hll := lows_len t.bd
  have hsz := bd_sz t
  have htz := k.sz
  have hlp : 0 < t.bd.lows.length := List.length_pos_of_mem (lows_ne t.bd)
  have hst : t.bd.step ≤ 5000 := Nat.le_trans (Nat.le_mul_of_pos_right _ hlp) hm
  refine c_of d49 rfl (by omega) rfl fun m e => ?_
  unfold d49
  unfold dueD
  repeat array_get_dec
  intro k1 S1 s1 h1 a1
  repeat array_get_dec
  refine wf_for (fun done E S2 => ∃ (l1 : List (Int × Int)) (x7 x8 x9 x10 : Option D), done = l1.map Ns.pairD ∧ E = [some t.e, some (.int x), some (.tup [.tup (t.bd.lows.map Ns.pairD), .int t.bd.step, .int t.span]), some (.ref k1), some (.tup (t.bd.lows.map Ns.pairD)), some (.int t.bd.step), some (.int t.span), x7, x8, x9, x10] ∧ Sub S S2 ∧ S2[k1]? = some (.lst ((t.lawGood x l1).map D.int))) ⟨[], none, none, none, none, rfl, rfl, s1, a1⟩ ?_ ?_
  · rintro done z rest hd E1 S2 ⟨l1', x7, x8, x9, x10, rfl, rfl, s2, a2⟩
    refine ⟨stands_nil, ?_⟩
    obtain ⟨l1, q, l2, hl, hd1, rfl⟩ := split_map hd
    obtain rfl := pair_inj hd1
    have hlen : l1'.length + 1 ≤ t.bd.lows.length := by rw [hl, List.length_append, List.length_cons]; omega
    have hgl : (t.lawGood x l1').length ≤ 11 := Nat.le_trans (List.length_filterMap_le _ _) (by omega)
    have hq := k.low q (by rw [hl]; simp)
    have hfx := mul_bnd (A := 9000) (M := 1000000000000) hq.1 hx (by omega)
    refine ⟨_, rfl, ?_⟩
    unfold Ns.pairD
    repeat array_get_dec
    refine ⟨_, _, rfl, rfl, ⟨by split <;> omega, by split <;> omega, by split <;> omega, by split <;> omega⟩, ?_⟩
    change wf (forGo _ _ _ (rgD (loOf x q) (hiOf x t.bd.step q)) _ _) _
    have elast : rgD (loOf x q) (hiOf x t.bd.step q) = (t.lasts x q).map D.int := by
      unfold rgD T.lasts
      rw [List.map_map]
      rfl
    rw [elast]
    have lastB : ∀ l ∈ t.lasts x q, 0 ≤ l := by
      intro l hl
      obtain ⟨i, hi, rfl⟩ := List.mem_map.mp hl
      have : 0 ≤ loOf x q := by unfold loOf; split <;> omega
      omega
    refine wf_for (fun done E S3 => ∃ (r1 : List Int) (x10 : Option D), done = r1.map D.int ∧ (∀ l ∈ r1, t.okL x l = false) ∧ E = [some t.e, some (.int x), some (.tup [.tup (t.bd.lows.map Ns.pairD), .int t.bd.step, .int t.span]), some (.ref k1), some (.tup (t.bd.lows.map Ns.pairD)), some (.int t.bd.step), some (.int t.span), some (.tup [.int q.1]), some (.int q.2), some (.int (q.1 * x + q.2)), x10] ∧ Sub S S3 ∧ S3[k1]? = some (.lst ((t.lawGood x l1').map D.int))) ⟨[], x10, rfl, by simp, rfl, s2, a2⟩ ?_ ?_
    · rintro done2 z2 rest2 hd2 E2 S3 ⟨r1, y10, rfl, hr1, rfl, s3, a3⟩
      refine ⟨stands_nil, ?_⟩
      obtain ⟨u1, l, u2, hu, hu1, rfl⟩ := split_map hd2
      obtain rfl : r1 = u1 := by
        have := congrArg (List.map (fun d => match d with | D.int i => i | _ => 0)) hu1
        simpa [List.map_map, Function.comp_def] using this
      have hl0 := lastB l (by rw [hu]; simp)
      refine ⟨_, rfl, ?_⟩
      repeat array_get_dec
      have bad : t.okL x l = false → ∀ S4, Sub S S4 → S4[k1]? = some (.lst ((t.lawGood x l1').map D.int)) → ∃ (r1' : List Int) (x10 : Option D), r1.map D.int ++ [.int l] = r1'.map D.int ∧ (∀ l ∈ r1', t.okL x l = false) ∧ [some t.e, some (.int x), some (.tup [.tup (t.bd.lows.map Ns.pairD), .int t.bd.step, .int t.span]), some (.ref k1), some (.tup (t.bd.lows.map Ns.pairD)), some (.int t.bd.step), some (.int t.span), some (.tup [.int q.1]), some (.int q.2), some (.int (q.1 * x + q.2)), some (.int l)] = [some t.e, some (.int x), some (.tup [.tup (t.bd.lows.map Ns.pairD), .int t.bd.step, .int t.span]), some (.ref k1), some (.tup (t.bd.lows.map Ns.pairD)), some (.int t.bd.step), some (.int t.span), some (.tup [.int q.1]), some (.int q.2), some (.int (q.1 * x + q.2)), x10] ∧ Sub S S4 ∧ S4[k1]? = some (.lst ((t.lawGood x l1').map D.int)) := fun hb S4 s4 a4 =>
        ⟨r1 ++ [l], _, by simp, fun y hy => by
          rcases List.mem_append.mp hy with h | h
          · exact hr1 y h
          · rw [List.mem_singleton.mp h]; exact hb, rfl, s4, a4⟩
      refine ⟨fun z => ?_, fun z => ?_⟩
      · repeat array_get_dec
        refine (c48 t m _ (by have := k.h; omega) k.fit).use fun S4 s4 => ?_
        repeat array_get_dec
        refine ⟨fun z2 => ?_, fun z2 => ?_⟩
        · repeat array_get_dec
          refine m_app (s4 _ _ a3) (Nat.lt_of_le_of_lt (show _ ≤ 11 by simp; omega) (Nat.le_of_ble_eq_true rfl)) ?_
          repeat array_get_dec
          refine ⟨l1' ++ [q], _, _, _, _, by rw [List.map_append]; rfl, rfl, (s3.trans s4).set h1 _, ?_⟩
          have hf : t.firstG x q = some l := by
            unfold T.firstG
            rw [hu, List.find?_append, List.find?_eq_none.mpr (fun y hy => by rw [hr1 y hy]; simp)]
            simp [T.okL, z, z2]
          rw [get_set (s4 _ _ a3)]
          unfold T.lawGood
          rw [List.filterMap_append]
          simp [hf]
        · repeat array_get_dec
          exact bad (by unfold T.okL; rw [z2, Bool.and_false]) _ (s3.trans s4) (s4 _ _ a3)
      · repeat array_get_dec
        exact bad (by unfold T.okL; rw [z, Bool.false_and]) _ s3 a3
    · rintro E2 S3 ⟨r1, y10, hd2, hr1, rfl, s3, a3⟩
      refine ⟨stands_nil, ?_⟩
      obtain rfl : t.lasts x q = r1 := by
        have := congrArg (List.map (fun d => match d with | D.int i => i | _ => 0)) hd2
        simpa [List.map_map, Function.comp_def] using this
      repeat array_get_dec
      refine ⟨l1' ++ [q], _, _, _, _, by rw [List.map_append]; rfl, rfl, s3, ?_⟩
      have hf : t.firstG x q = none := List.find?_eq_none.mpr (fun y hy => by rw [hr1 y hy]; simp)
      rw [a3]
      unfold T.lawGood
      rw [List.filterMap_append]
      simp [hf]
  · rintro E1 S2 ⟨l1, x7, x8, x9, x10, hd, rfl, s2, a2⟩
    refine ⟨stands_nil, ?_⟩
    obtain rfl := pair_inj hd
    repeat array_get_dec
    intro k9 S9 s9 h9 a9
    refine ⟨_, eq_nil (s9 _ _ a2) a9, ?_⟩
    have b9 := s9 _ _ a2
    cases hg : t.lawGood x t.bd.lows with
    | nil =>
      refine ⟨fun z => absurd z (by simp), fun _ => ?_⟩
      repeat array_get_dec
      exact ⟨rfl, s2.trans s9⟩
    | cons i is =>
      refine ⟨fun _ => ?_, fun z => absurd z (by simp)⟩
      rw [hg] at b9
      repeat array_get_dec
      refine wp_minL b9 ?_
      exact ⟨rfl, s2.trans s9⟩
end
end K89
set_option Elab.async false
set_option linter.all false
set_option maxRecDepth 100000
set_option maxHeartbeats 1000000
namespace K89
open PySem PySem.Spec PyProof.Rows L2 Py
/-! ### both leasts are one -/
theorem min_le {i v : Int} {is : List Int} (h : v ∈ i :: is) : is.foldl min i ≤ v := by
  have a := foldl_min_le is i
  rcases List.mem_cons.mp h with rfl | h
  · exact a.1
  · exact a.2 v h
theorem min_is {i v : Int} {is : List Int} (h1 : v ∈ i :: is) (h2 : ∀ y ∈ i :: is, v ≤ y) : is.foldl min i = v := by
  have a := min_le h1
  have b := foldl_min_mem is i
  have c := h2 _ b
  omega
theorem mem_lasts {t : T} {x l : Int} {q : Int × Int} : l ∈ t.lasts x q ↔ 0 ≤ l ∧ q.1 * x + q.2 ≤ l ∧ l < q.1 * x + q.2 + t.bd.step := by
  have hlo : loOf x q = max (q.1 * x + q.2) 0 := by unfold loOf; split <;> omega
  have hhi : hiOf x t.bd.step q = max (q.1 * x + q.2 + t.bd.step) 0 := by unfold hiOf; split <;> omega
  unfold T.lasts
  rw [hlo, hhi, List.mem_map]
  generalize q.1 * x + q.2 = b
  constructor
  · rintro ⟨i, hi, rfl⟩
    rw [List.mem_range] at hi
    omega
  · rintro ⟨h0, h1, h2⟩
    exact ⟨(l - max b 0).toNat, List.mem_range.mpr (by omega), by omega⟩
theorem Dn.mem_goodOf {t : T} (d : Dn t) {x l : Int} {q : Int × Int} : l ∈ t.bd.goodOf x t.bd.step q ↔ l ∈ t.lasts x q ∧ t.okL x l = true := by
  rw [mem_lasts]
  unfold T.goodOf
  rw [List.mem_filter, List.mem_map, d.holds]
  change _ ∧ (decide (0 ≤ l) && t.okL x l) = true ↔ _
  rw [Bool.and_eq_true, decide_eq_true_eq]
  constructor
  · rintro ⟨⟨i, hi, rfl⟩, h0, h1⟩
    rw [List.mem_range] at hi
    exact ⟨⟨h0, by omega, by omega⟩, h1⟩
  · rintro ⟨⟨h0, h1, h2⟩, h3⟩
    exact ⟨⟨(l - (q.1 * x + q.2)).toNat, List.mem_range.mpr (by omega), by omega⟩, h0, h3⟩
theorem lasts_up (t : T) (x : Int) (q : Int × Int) : (t.lasts x q).Pairwise (· < ·) := by
  unfold T.lasts
  refine List.pairwise_map.mpr ?_
  refine List.Pairwise.imp ?_ List.pairwise_lt_range
  intro a b h
  omega
/-- the first one of what goes up is the least one -/
theorem first_least {l : List Int} {P : Int → Bool} (up : l.Pairwise (· < ·)) {f : Int} (h : l.find? P = some f) : f ∈ l ∧ P f = true ∧ ∀ y ∈ l, P y = true → f ≤ y := by
  refine ⟨List.mem_of_find?_eq_some h, List.find?_some h, ?_⟩
  induction l with
  | nil => cases h
  | cons z l ih =>
    rw [List.pairwise_cons] at up
    rw [List.find?_cons] at h
    intro y hy hp
    split at h
    · cases h
      rcases List.mem_cons.mp hy with rfl | hy
      · exact Int.le_refl _
      · exact Int.le_of_lt (up.1 y hy)
    · rename_i hz
      rcases List.mem_cons.mp hy with rfl | hy
      · rw [hp] at hz; cases hz
      · exact ih up.2 h y hy hp
theorem Dn.least {t : T} (d : Dn t) (x : Int) : leastD (t.good x) t.span = lawLeast (t.lawGood x t.bd.lows) := by
  have hs := t.span_pos
  have mg : ∀ l, l ∈ t.good x ↔ ∃ q ∈ t.bd.lows, l ∈ t.lasts x q ∧ t.okL x l = true := fun l => by
    unfold T.good
    rw [List.mem_flatMap]
    constructor
    · rintro ⟨q, hq, h⟩; exact ⟨q, hq, d.mem_goodOf.mp h⟩
    · rintro ⟨q, hq, h⟩; exact ⟨q, hq, d.mem_goodOf.mpr h⟩
  have ml : ∀ v, v ∈ t.lawGood x t.bd.lows ↔ ∃ q ∈ t.bd.lows, ∃ f, t.firstG x q = some f ∧ v = f / (t.span : Int) := fun v => by
    unfold T.lawGood
    rw [List.mem_filterMap]
    constructor
    · rintro ⟨q, hq, h⟩
      obtain ⟨f, hf, rfl⟩ := Option.map_eq_some_iff.mp h
      exact ⟨q, hq, f, hf, rfl⟩
    · rintro ⟨q, hq, f, hf, rfl⟩
      exact ⟨q, hq, by rw [hf]; rfl⟩
  -- each good one has a first one of its kind
  have ff : ∀ q ∈ t.bd.lows, ∀ l, l ∈ t.lasts x q → t.okL x l = true → ∃ f, t.firstG x q = some f ∧ f ≤ l ∧ f ∈ t.good x := fun q hq l h1 h2 => by
    cases hf : t.firstG x q with
    | none =>
      have := List.find?_eq_none.mp hf l h1
      rw [h2] at this
      exact absurd rfl this
    | some f =>
      obtain ⟨f1, f2, f3⟩ := first_least (lasts_up t x q) hf
      exact ⟨f, rfl, f3 l h1 h2, (mg f).mpr ⟨q, hq, f1, f2⟩⟩
  cases hg : t.good x with
  | nil =>
    cases hl : t.lawGood x t.bd.lows with
    | nil => rfl
    | cons v vs =>
      obtain ⟨q, hq, f, hf, _⟩ := (ml v).mp (by rw [hl]; simp)
      obtain ⟨f1, f2, _⟩ := first_least (lasts_up t x q) hf
      have := (mg f).mpr ⟨q, hq, f1, f2⟩
      rw [hg] at this
      cases this
  | cons g gs =>
    have hm := foldl_min_mem gs g
    have hle : ∀ y ∈ g :: gs, gs.foldl min g ≤ y := fun y hy => min_le hy
    rw [← hg] at hm
    obtain ⟨q, hq, h1, h2⟩ := (mg _).mp hm
    obtain ⟨f, hf, f1, f2⟩ := ff q hq _ h1 h2
    have f3 := hle f (by rw [← hg]; exact f2)
    have e : f = gs.foldl min g := by omega
    have hv : (gs.foldl min g) / (t.span : Int) ∈ t.lawGood x t.bd.lows := (ml _).mpr ⟨q, hq, f, hf, by rw [e]⟩
    cases hl : t.lawGood x t.bd.lows with
    | nil => rw [hl] at hv; cases hv
    | cons v vs =>
      show D.int _ = D.int _
      have e9 : vs.foldl min v = gs.foldl min g / (t.span : Int) := min_is (by rw [← hl]; exact hv) fun y hy => ?_
      · rw [e9]
      obtain ⟨q', hq', f', hf', rfl⟩ := (ml y).mp (by rw [hl]; exact hy)
      obtain ⟨g1, g2, _⟩ := first_least (lasts_up t x q') hf'
      have := hle f' (by rw [← hg]; exact (mg f').mpr ⟨q', hq', g1, g2⟩)
      exact Int.ediv_le_ediv (by omega) this
/-! ### without the some it holds just where there is a last number -/
def T.sm : T → Prop
  | .less a b _ => (-9000 ≤ a ∧ a ≤ 9000) ∧ -1 ≤ b ∧ b ≤ 1
  | .rest a b _ d => (-9000 ≤ a ∧ a ≤ 9000) ∧ (-1 ≤ b ∧ b ≤ 1) ∧ 0 < d
  | .an x y => x.sm ∧ y.sm
  | .orr x y => x.sm ∧ y.sm
theorem sm_scale {span : Int} : ∀ t : T, t.fit → (∀ l ∈ t.lv, 0 < times span l.b ∧ times span l.b ≤ 1000) → (t.scale span).sm
  | .less a b c, hf, ht => by
    have h1 := ht _ (List.mem_singleton.mpr rfl)
    simp only [T.b] at h1
    have h3 := mul_bnd (A := 9) (M := 1000) (a := a) (m := times span b) (by have := hf.1; omega) (by omega) (by omega)
    simp only [T.scale, T.sm]
    exact ⟨by omega, sgn_ok⟩
  | .rest a b c d, hf, ht => by
    have h1 := ht _ (List.mem_singleton.mpr rfl)
    simp only [T.b] at h1
    have h3 := mul_bnd (A := 9) (M := 1000) (a := a) (m := times span b) (by have := hf.1; omega) (by omega) (by omega)
    simp only [T.scale, T.sm]
    exact ⟨by omega, sgn_ok, Int.mul_pos (by have := hf.2.2.2; omega) h1.1⟩
  | .an x y, hf, ht => ⟨sm_scale x hf.1 fun l hl => ht l (List.mem_append_left _ hl), sm_scale y hf.2 fun l hl => ht l (List.mem_append_right _ hl)⟩
  | .orr x y, hf, ht => ⟨sm_scale x hf.1 fun l hl => ht l (List.mem_append_left _ hl), sm_scale y hf.2 fun l hl => ht l (List.mem_append_right _ hl)⟩
theorem Tok.sm {t : T} (k : Tok t) : t.bd.sm := by
  have := t.span_pos
  refine ⟨sm_scale t k.fit fun l hl => k.times hl, ?_⟩
  unfold T.whole T.sm
  omega
theorem put_fit {f m : Int} (hf : -9000 ≤ f ∧ f ≤ 9000) : ∀ t : T, t.sm → (t.put f m).fit
  | .less a b c, h => by
    have hb : b = -1 ∨ b = 0 ∨ b = 1 := by have := h.2; omega
    have := h.1
    simp only [T.put, U.fit]
    rcases hb with rfl | rfl | rfl <;> omega
  | .rest a b c d, h => by
    have hb : b = -1 ∨ b = 0 ∨ b = 1 := by have := h.2; omega
    have := h.1
    have := h.2.2
    simp only [T.put, U.fit]
    rcases hb with rfl | rfl | rfl <;> omega
  | .an x y, h => ⟨put_fit hf x h.1, put_fit hf y h.2⟩
  | .orr x y, h => ⟨put_fit hf x h.1, put_fit hf y h.2⟩
theorem sum_le {l : List Nat} {b : Nat} (h : ∀ x ∈ l, x ≤ b) : l.sum ≤ l.length * b := by
  induction l with
  | nil => simp
  | cons x l ih =>
    rw [List.sum_cons, List.length_cons, Nat.succ_mul]
    have := h x List.mem_cons_self
    have := ih fun y hy => h y (List.mem_cons_of_mem _ hy)
    omega
theorem Dn.elim {t : T} (d : Dn t) (hm : t.bd.step * t.bd.lows.length ≤ 1000) : t.elim.fit ∧ (∀ x, t.elim.holds x = !(t.good x).isEmpty) ∧ t.elim.sz ≤ 100000 ∧ t.elim.h ≤ 41 := by
  have k := d.tok
  have hlp : 0 < t.bd.lows.length := List.length_pos_of_mem (lows_ne t.bd)
  have hal : t.all.length = t.bd.lows.length * t.bd.step := parts_len _ _ _
  have hst := k.step_pos
  have hal0 : 0 < t.bd.lows.length * t.bd.step := Nat.mul_pos hlp hst
  rw [Nat.mul_comm t.bd.step] at hm
  have mem : ∀ u, u ∈ t.all ↔ ∃ q ∈ t.bd.lows, ∃ j < t.bd.step, u = t.bd.part q j := fun u => by
    unfold T.all T.parts
    rw [List.mem_flatMap]
    constructor
    · rintro ⟨q, hq, h⟩
      obtain ⟨j, hj, rfl⟩ := List.mem_map.mp h
      exact ⟨q, hq, j, List.mem_range.mp hj, rfl⟩
    · rintro ⟨q, hq, j, hj, rfl⟩
      exact ⟨q, hq, List.mem_map.mpr ⟨j, List.mem_range.mpr hj, rfl⟩⟩
  have hfit : ∀ u ∈ t.all, u.fit := fun u hu => by
    obtain ⟨q, hq, j, hj, rfl⟩ := (mem u).mp hu
    have hb := k.low q hq
    exact ⟨by show -(2 ^ 63) < -q.1 ∧ -q.1 < 2 ^ 63; omega, put_fit hb.1 _ k.sm⟩
  obtain ⟨a1, a2, a3, a4⟩ := joinU_ok 10 t.all (by intro z; rw [z] at hal; simp at hal; omega) (by omega) hfit
  refine ⟨a1, fun x => ?_, ?_, ?_⟩
  · show (joinU 10 t.all).holds x = _
    rw [a2]
    have ph : ∀ (q : Int × Int) (j : Nat), (t.bd.part q j).holds x = (decide (0 ≤ q.1 * x + q.2 + j) && t.bd.holds x (q.1 * x + q.2 + j)) := fun q j => by
      unfold T.part
      rw [U.holds, U.holds, T.put_holds, ← Int.add_assoc]
      congr 1
      apply decide_eq_decide.mpr
      rw [Int.neg_mul]
      omega
    rw [Bool.eq_iff_iff, List.any_eq_true, Bool.not_eq_true', List.isEmpty_eq_false_iff_exists_mem]
    constructor
    · rintro ⟨u, hu, h⟩
      obtain ⟨q, hq, j, hj, rfl⟩ := (mem u).mp hu
      rw [ph] at h
      refine ⟨q.1 * x + q.2 + j, List.mem_flatMap.mpr ⟨q, hq, ?_⟩⟩
      exact List.mem_filter.mpr ⟨List.mem_map.mpr ⟨j, List.mem_range.mpr hj, rfl⟩, h⟩
    · rintro ⟨l, hl⟩
      obtain ⟨q, hq, h⟩ := List.mem_flatMap.mp hl
      obtain ⟨h1, h2⟩ := List.mem_filter.mp h
      obtain ⟨j, hj, rfl⟩ := List.mem_map.mp h1
      exact ⟨_, (mem _).mpr ⟨q, hq, j, List.mem_range.mp hj, rfl⟩, by rw [ph]; exact h2⟩
  · have hs : ∀ s ∈ t.all.map U.sz, s ≤ 13 := fun s hs => by
      obtain ⟨u, hu, rfl⟩ := List.mem_map.mp hs
      obtain ⟨q, hq, j, hj, rfl⟩ := (mem u).mp hu
      have := bd_sz t
      have := d.sz
      unfold T.part
      rw [U.sz, U.sz, T.put_sz]
      omega
    have := sum_le hs
    rw [List.length_map] at this
    show (joinU 10 t.all).sz ≤ _
    omega
  · have := a4 7 fun u hu => by
      obtain ⟨q, hq, j, hj, rfl⟩ := (mem u).mp hu
      have := bd_h t
      have := d.h
      unfold T.part
      rw [U.h, U.h, T.put_h]
      omega
    show (joinU 10 t.all).h ≤ _
    omega
/-! ### what is shown -/
def Sh (x : PyData) (L dp : Nat) : Prop := x.showable = true ∧ x.hasDict = false ∧ x.depth ≤ dp ∧ x.shown.length ≤ L
theorem sh_int {i : Int} (h : i.natAbs < 2 ^ 100) : Sh (.int i) 101 0 := by
  have hl : i.natAbs.log2 < 100 := by
    rcases Nat.eq_zero_or_pos i.natAbs with h0 | h0
    · rw [h0]; decide
    · exact (Nat.log2_lt (by omega)).mpr h
  refine ⟨?_, rfl, Nat.le_refl _, ?_⟩
  · simp only [PyData.showable, decide_eq_true_eq]; omega
  · simp only [PyData.shown]
    rw [PySem.ofString_length]
    exact int_text_length_le (by omega) hl
theorem sh_tup {xs : List PyData} {L dp : Nat} (h : ∀ x ∈ xs, Sh x L dp) : Sh (.tuple xs) (xs.length * (L + 2) + 3) (dp + 1) := by
  have h1 : PyData.showableAll xs = true ∧ PyData.hasDictAll xs = false ∧ PyData.depthAll xs ≤ dp ∧ piled (PyData.shownAll xs) ≤ xs.length * (L + 2) := by
    induction xs with
    | nil => exact ⟨rfl, rfl, Nat.zero_le _, by simp [PyData.shownAll, piled]⟩
    | cons x xs ih =>
      obtain ⟨a1, a2, a3, a4⟩ := h x List.mem_cons_self
      obtain ⟨b1, b2, b3, b4⟩ := ih fun y hy => h y (List.mem_cons_of_mem _ hy)
      refine ⟨?_, ?_, ?_, ?_⟩
      · simp only [PyData.showableAll, a1, b1, Bool.and_self]
      · simp only [PyData.hasDictAll, a2, b2, Bool.or_self]
      · simp only [PyData.depthAll]; omega
      · simp only [PyData.shownAll]
        rw [piled_cons, List.length_cons, Nat.succ_mul]
        omega
  obtain ⟨h1, h2, h3, h4⟩ := h1
  refine ⟨h1, h2, ?_, ?_⟩
  · simp only [PyData.depth]; omega
  · simp only [PyData.shown]
    unfold tupleText
    rw [strLen_append, strLen_append]
    have e1 : ((("(" : String) : Str)).length = 1 := rfl
    have e3 : (((if (PyData.shownAll xs).length == 1 then ",)" else ")" : String) : Str)).length ≤ 2 := by split <;> decide
    by_cases hn : PyData.shownAll xs = []
    · rw [hn] at e3 ⊢
      have e4 : (Str.join ", " []).length = 0 := rfl
      rw [e4]
      omega
    · have := join_length_add _ hn
      omega
theorem wp_repr {d : D} {x : PyData} {L dp : Nat} {S : Sto} {Q : D → Sto → Prop} {X : XP} (e : d.py = some x) (hr : d.isRef = false) (s : Sh x L dp) (hL : L ≤ 1000000) (hd : dp ≤ 60) (h : Q (.str x.shown) S) : wp (biop .repr [d] S) Q X := by
  have e2 : pyOf S d = some x := by
    cases d <;> first | exact e | cases hr
  simp only [biop, e2]
  exact wp_tst ⟨s.1, s.2.1, Nat.le_trans s.2.2.1 hd, big_len (Nat.le_trans s.2.2.2 hL)⟩ h
theorem pys_map {α : Type} {f : α → D} {g : α → PyData} (h : ∀ x, (f x).py = some (g x)) : ∀ l : List α, D.pys (l.map f) = some (l.map g)
  | [] => rfl
  | x :: l => by simp only [List.map_cons, D.pys, h x, pys_map h l]
def pairP (q : Int × Int) : PyData := .tuple [.tuple [.int q.1], .int q.2]
theorem pair_py (q : Int × Int) : (Ns.pairD q).py = some (pairP q) := by
  simp [Ns.pairD, D.py, D.pys, pairP]
def dueP (t : T) : PyData := .tuple [.tuple (t.bd.lows.map pairP), .int t.bd.step, .int t.span]
theorem due_py (t : T) : (dueD t).py = some (dueP t) := by
  simp [dueD, D.py, D.pys, dueP, pys_map pair_py]
theorem Dn.due {t : T} (d : Dn t) : Sh (dueP t) 8000 4 := by
  have k := d.tok
  have hll := lows_len t.bd
  have hsz := bd_sz t
  have htz := k.sz
  have hst := d.step
  have hsp := d.span
  have hp : ∀ y ∈ t.bd.lows.map pairP, Sh y 219 2 := fun y hy => by
    obtain ⟨q, hq, rfl⟩ := List.mem_map.mp hy
    have hb := k.low q hq
    have h1 : Sh (.tuple [.int q.1]) 106 1 := sh_tup (xs := [.int q.1]) (L := 101) (dp := 0) fun z hz => by rw [List.mem_singleton.mp hz]; exact sh_int (by omega)
    have h2 : Sh (.int q.2) 106 1 := by
      obtain ⟨a, b, c, e⟩ := sh_int (i := q.2) (by omega)
      exact ⟨a, b, by omega, by omega⟩
    refine sh_tup (xs := [.tuple [.int q.1], .int q.2]) (L := 106) (dp := 1) fun z hz => ?_
    rcases List.mem_cons.mp hz with rfl | hz
    · exact h1
    · rw [List.mem_singleton.mp hz]; exact h2
  have h1 := sh_tup hp
  have h1' : Sh (.tuple (t.bd.lows.map pairP)) 2655 3 := by
    obtain ⟨a, b, c, e⟩ := h1
    refine ⟨a, b, c, Nat.le_trans e ?_⟩
    rw [List.length_map]
    omega
  have hi : ∀ i : Int, i.natAbs < 2 ^ 100 → Sh (.int i) 2655 3 := fun i h => by
    obtain ⟨a, b, c, e⟩ := sh_int h
    exact ⟨a, b, by omega, by omega⟩
  have h2 := sh_tup (xs := [.tuple (t.bd.lows.map pairP), .int t.bd.step, .int t.span]) (L := 2655) (dp := 3) fun z hz => by
    rcases List.mem_cons.mp hz with rfl | hz
    · exact h1'
    · rcases List.mem_cons.mp hz with rfl | hz
      · exact hi _ (by omega)
      · rw [List.mem_singleton.mp hz]; exact hi _ (by omega)
  obtain ⟨a, b, c, e⟩ := h2
  exact ⟨a, b, c, Nat.le_trans e (by simp)⟩
end K89
set_option Elab.async false
set_option linter.all false
set_option maxRecDepth 100000
set_option maxHeartbeats 2000000
namespace K89
open PySem PySem.Spec PyProof.Rows L2 Py
theorem Pot.set {q N k : Nat} {S : Sto} (h : Pot q N S) (ne : k ≠ q) (o : O) : Pot q N (S.set k o) := by
  obtain ⟨a, b, c, e, r⟩ := h
  exact ⟨a, b, c, get_set_ne e ne, r⟩
theorem Pot.ne {q N k : Nat} {S : Sto} (h : Pot q N S) (hk : S[k]? = none) : k ≠ q := fun z => by
  subst z
  obtain ⟨_, _, _, e, _⟩ := h
  rw [e] at hk
  cases hk
def dropS : Nat → Stms → Stms
  | n + 1, .cons _ ss => dropS n ss
  | _, ss => ss
theorem T.lv_ne : ∀ t : T, 0 < t.lv.length
  | .less _ _ _ => Nat.one_pos
  | .rest _ _ _ _ => Nat.one_pos
  | .an x y => by have := T.lv_ne x; simp only [T.lv, List.length_append]; omega
  | .orr x y => by have := T.lv_ne x; simp only [T.lv, List.length_append]; omega
theorem wp_reprS {d : D} {x : PyData} {L dp : Nat} {s : Str} {S : Sto} {Q : D → Sto → Prop} {X : XP} (e : d.py = some x) (hr : d.isRef = false) (sh : Sh x L dp) (hL : L ≤ 1000000) (hd : dp ≤ 60) (hs : x.shown = s) (h : Q (.str s) S) : wp (biop .repr [d] S) Q X :=
  wp_repr e hr sh hL hd (by rw [hs]; exact h)
theorem s_consN {G : Glob} {s : Stm} {ss : Stms} {E : Py.Env} {S : Sto} {K : FK} (N1 : Py.Env → Sto → Prop) (h1 : wf (s.ev G E S) { N := N1, R := K.R, X := K.X, B := K.B }) (h2 : ∀ E' S', N1 E' S' → wf (ss.ev G E' S') K) : wf ((Stms.cons s ss).ev G E S) K :=
  s_cons (wf_mono h1 h2 (fun _ _ z => z) (fun _ _ z => z) (fun _ _ z => z))
def headS : Stms → Stm
  | .cons s _ => s
  | .nil => .brk
def repB : Stm → Stms
  | .rep _ _ b => b
  | _ => .nil
/-- the turns of the law's loop -/
def loopB : Stms := repB (headS (dropS 13 d50.body))
theorem sh_small {x : PyData} (h : Sh x 8000 4) : Sh x 8000 4 := h
theorem sh_bool (b : Bool) : Sh (.bool b) 8000 4 := ⟨rfl, rfl, Nat.zero_le _, by cases b <;> simp [PyData.shown] <;> decide⟩
theorem sh_none : Sh .none 8000 4 := ⟨rfl, rfl, Nat.zero_le _, by simp [PyData.shown]; decide⟩
theorem sh_intB {i : Int} (h : i.natAbs < 2 ^ 100) : Sh (.int i) 8000 4 := by
  obtain ⟨a, b, c, e⟩ := sh_int h
  exact ⟨a, b, by omega, by omega⟩
/-- what the least last number is, as data -/
theorem Dn.least_py {t : T} (d : Dn t) {x : Int} (hx : 0 ≤ x ∧ x ≤ 1000000000000) : ∃ y, (leastD (t.good x) t.span).py = some y ∧ (leastD (t.good x) t.span).isRef = false ∧ Sh y 8000 4 := by
  have hs := t.span_pos
  cases hg : t.good x with
  | nil => exact ⟨.none, rfl, rfl, sh_none⟩
  | cons g gs =>
    refine ⟨.int _, rfl, rfl, sh_intB ?_⟩
    have hm := foldl_min_mem gs g
    rw [← hg] at hm
    obtain ⟨q, hq, h⟩ := List.mem_flatMap.mp hm
    obtain ⟨h1, h2⟩ := d.mem_goodOf.mp h
    obtain ⟨h3, h4, h5⟩ := mem_lasts.mp h1
    have hb := d.tok.low q hq
    have hf := mul_bnd (A := 9000) (M := 1000000000000) hb.1 hx (by omega)
    have hst := d.step
    have h6 : gs.foldl min g / (t.span : Int) ≤ gs.foldl min g := Int.ediv_le_self _ h3
    have h7 : 0 ≤ gs.foldl min g / (t.span : Int) := Int.ediv_nonneg h3 (by omega)
    omega
theorem least_non (good : List Int) (sp : Int) : (leastD good sp).isNon = good.isEmpty := by
  cases good <;> rfl
local macro_rules | `(tactic| array_get_dec) => `(tactic| first
  | with_reducible refine s_cons ?_
  | with_reducible refine s_nil ?_
  | with_reducible refine s_cnd ?_
  | with_reducible refine s_ret ?_
  | (with_reducible refine w_var ?_; refine ⟨_, rfl, ?_⟩)
  | with_reducible refine w_int ?_
  | with_reducible refine w_str ?_
  | with_reducible refine w_bl ?_
  | with_reducible refine w_non ?_
  | with_reducible refine a_cons ?_
  | with_reducible refine a_nil ?_
  | with_reducible refine w_call ?_
  | with_reducible refine t_call ?_
  | with_reducible refine w_tup ?_
  | with_reducible refine w_cmp ?_
  | with_reducible refine t_cmp ?_
  | with_reducible refine w_ix ?_
  | with_reducible refine w_bin ?_
  | with_reducible refine w_isi ?_
  | with_reducible refine t_isi ?_
  | with_reducible refine w_nt ?_
  | with_reducible refine t_nt ?_
  | with_reducible refine w_con ?_
  | with_reducible refine t_con ?_
  | with_reducible refine w_dis ?_
  | with_reducible refine t_dis ?_
  | with_reducible refine w_chn ?_
  | with_reducible refine w_ife ?_
  | with_reducible refine w_bi ?_
  | with_reducible refine t_bi ?_
  | with_reducible refine w_neg ?_
  | with_reducible refine w_sl ?_
  | with_reducible refine o_no ?_
  | with_reducible refine o_yes ?_
  | with_reducible refine s_set ?_
  | with_reducible refine s_par ?_
  | with_reducible refine s_ex ?_
  | with_reducible refine s_rse ?_
  | with_reducible refine s_rep ?_
  | with_reducible refine s_whl ?_
  | with_reducible refine s_brk ?_
  | with_reducible refine s_sub ?_
  | with_reducible refine w_lst ?_
  | with_reducible refine w_lc ?_
  | with_reducible refine w_mth ?_
  | with_reducible refine i_seq ?_
  | with_reducible refine i_r1 ?_
  | with_reducible refine i_r2 ?_
  | with_reducible refine i_zip ?_
  | with_reducible refine ot_no ?_
  | with_reducible refine ot_yes ?_
  | (with_reducible refine t_var ?_; refine ⟨_, _, rfl, rfl, ?_⟩)
  | with_reducible refine w_isN ?_
  | with_reducible refine t_isN ?_
  | with_reducible refine t_isB ?_
  | with_reducible refine t_isx ?_
  | with_reducible refine t_ix ?_
  | with_reducible refine w_fld ?_
  | with_reducible refine w_heard ?_
  | with_reducible refine w_lrange ?_
  | with_reducible refine a_star ?_
  | with_reducible refine w_glb con_0 ?_
  | with_reducible refine w_glb con_1 ?_
  | with_reducible refine w_glb con_2 ?_
  | with_reducible refine w_glb con_3 ?_
  | with_reducible refine w_glb con_4 ?_
  | with_reducible refine w_glb con_5 ?_
  | with_reducible refine w_glb con_6 ?_
  | with_reducible refine w_glb con_7 ?_
  | with_reducible refine w_glb con_8 ?_
  | with_reducible refine w_glb con_9 ?_
  | with_reducible refine w_glb con_10 ?_
  | with_reducible refine w_glb con_11 ?_
  | with_reducible refine w_glb con_12 ?_
  | with_reducible refine w_glb con_13 ?_
  | with_reducible refine w_glb con_14 ?_
  | with_reducible refine w_glb con_15 ?_
  | with_reducible refine w_glb con_16 ?_
  | with_reducible refine w_glb con_17 ?_
  | with_reducible refine w_glb con_18 ?_
  | with_reducible refine w_glb con_19 ?_
  | with_reducible refine w_glb con_20 ?_
  | with_reducible refine w_glb con_21 ?_
  | with_reducible refine w_glb con_22 ?_
  | with_reducible refine w_glb con_23 ?_
  | with_reducible refine r_cut1 ?_
  | with_reducible refine r_cut3 ?_
  | with_reducible refine r_cutL ?_
  | with_reducible refine r_cutL1 ?_
  | with_reducible refine b_tup1 ?_
  | with_reducible refine r_abs ?_
  | with_reducible refine r_max ?_
  | with_reducible refine r_min ?_
  | with_reducible refine r_intI ?_
  | with_reducible refine r_intB ?_
  | with_reducible refine r_lenT ?_
  | with_reducible refine b_add ?_
  | with_reducible refine b_sub ?_
  | with_reducible refine b_mulR (by omega) ?_
  | with_reducible refine b_mulL (by omega) ?_
  | with_reducible refine b_div64 (by omega) ?_
  | with_reducible refine b_mod (by omega) ?_
  | with_reducible refine ⟨_, ix0, ?_⟩
  | with_reducible refine ⟨_, ix1, ?_⟩
  | with_reducible refine ⟨_, ix2, ?_⟩
  | with_reducible refine ⟨_, ix3, ?_⟩
  | with_reducible refine ⟨_, ixL, ?_⟩
  | refine ⟨Nat.le_of_ble_eq_true rfl, ?_⟩
  | refine ⟨fun _ => ?_, fun z => absurd z (by decide +kernel)⟩
  | refine ⟨fun z => absurd z (by decide +kernel), fun _ => ?_⟩
  | refine ⟨fun _ => ?_, fun z => Bool.noConfusion (show true = false from z)⟩
  | refine ⟨fun _ => ?_, fun z => Bool.noConfusion (show false = true from z)⟩
  | refine ⟨fun z => Bool.noConfusion (show true = false from z), fun _ => ?_⟩
  | refine ⟨fun z => Bool.noConfusion (show false = true from z), fun _ => ?_⟩
  | refine ⟨fun _ => ?_, fun z => absurd z (by simp only [Bool.not_eq_true', Bool.not_eq_false', decide_eq_true_eq, decide_eq_false_iff_not]; omega)⟩
  | refine ⟨fun z => absurd z (by simp only [Bool.not_eq_true', Bool.not_eq_false', decide_eq_true_eq, decide_eq_false_iff_not]; omega), fun _ => ?_⟩
  | refine ⟨_, rfl, ?_⟩)

section
variable {n : Nat} {S : Sto}
/-- the draws of a statement -/
theorem draw_sums {q : Nat} {many : Nat} {m : Nat} (hm : 20 ≤ m) (hp : Pot q 1 S) (hmany : many ≤ 5) {x3 x4 x5 x6 x7 x8 x9 x10 x11 x12 x13 x14 x2 : Option D} {Q : D → Sto → Prop}
    (h : ∀ (k : Nat) (ts : List T) (S' : Sto), ts.length = many → (∀ y ∈ ts, y.leaf = true ∧ y.drawn) → S'[k]? = some (.lst (ts.map T.e)) → k ≠ q → Pot q 26 S' → SubX q S S' → Q (.ref k) S') :
    wp ((Ex.lc (.call 44 (.cons (.var 0) .nil)) (.nm 13) [13] (.r1 (.var 1)) .no).ev (p.G m) [some (.ref q), some (.int many), x2, x3, x4, x5, x6, x7, x8, x9, x10, x11, x12, x13, x14] S) Q noX := by
  repeat array_get_dec
  refine ⟨by omega, ?_⟩
  rw [rgD0]
  have nk : S[S.length]? = none := List.getElem?_eq_none (Nat.le_refl _)
  have ne := hp.ne nk
  refine wp_lcI (fun done acc S1 => ∃ ts : List T, ts.length = done.length ∧ (∀ y ∈ ts, y.leaf = true ∧ y.drawn) ∧ acc = ts.map T.e ∧ Pot q (1 + 5 * done.length) S1 ∧ SubX q S S1) ?_ ?_ ?_ ?_
  · exact small_len (by simp; omega)
  · intro S1 s1
    exact ⟨[], rfl, by simp, rfl, hp.sub s1, SubX.of s1⟩
  · rintro done x rest hd acc S1 ⟨ts, h1, h2, rfl, h4, h5⟩ a1
    have hlen : done.length < many := by
      have := congrArg List.length hd
      simp at this
      omega
    refine ⟨stands_nil, _, rfl, ?_⟩
    simp only [Eo.tv, wp_ok, if_true]
    repeat array_get_dec
    refine (c44 (by omega) h4 (by omega)).use fun d S2 ⟨y, hy1, hy2, hy3⟩ p2 s2 => ?_
    subst hy1
    refine ⟨s2 _ _ ne a1, ts ++ [y], by simp [h1], ?_, by simp, ?_, (h5.trans s2).set' nk _⟩
    · intro z hz
      rcases List.mem_append.mp hz with hz | hz
      · exact h2 z hz
      · rw [List.mem_singleton.mp hz]; exact ⟨hy2, hy3⟩
    · refine (Pot.more p2 ?_).set ne _
      rw [List.length_append, List.length_singleton]
      omega
  · rintro acc S1 a1 ⟨ts, h1, h2, rfl, h4, h5⟩
    refine ⟨stands_nil, h _ ts S1 (by simpa using h1) h2 a1 ne (h4.more ?_) h5⟩
    simp
    omega
/-- a turn where there are too many parts -/
theorem turnA {q k many m : Nat} {t : T} (d : Dn t) (hm : 55 ≤ m) {z : Int} (hz : 0 ≤ z ∧ z ≤ 1000000000000) {x4 x11 x13 x14 : Option D} :
    wf (loopB.ev (p.G m) [some (.ref q), some (.int many), some (.ref k), some t.e, x4, some (dueD t), some (.bl true), some (.int z), some (.tup (t.bd.lows.map Ns.pairD)), some (.int t.bd.step), some (.int t.span), x11, some .non, x13, x14] S)
      { N := fun E S' => ∃ y11 y14, E = [some (.ref q), some (.int many), some (.ref k), some t.e, x4, some (dueD t), some (.bl true), some (.int z), some (.tup (t.bd.lows.map Ns.pairD)), some (.int t.bd.step), some (.int t.span), y11, some .non, x13, y14] ∧ Sub S S', R := fun _ _ => False, X := noX, B := fun _ _ => False } := by
  have k' := d.tok
  have hll := lows_len t.bd
  have hbsz := bd_sz t
  have htz := k'.sz
  have hst := d.step
  have hfit := k'.fit
  have hh := k'.h
  simp only [loopB, d50, dropS, headS, repB]
  by_cases hM : t.bd.step * t.bd.lows.length ≤ 5000
  · have hM' : (t.bd.step : Int) * (t.bd.lows.length : Int) ≤ 5000 := by exact_mod_cast hM
    repeat array_get_dec
    refine (c39 (t := t) k' (by omega) hM hz).use fun S1 s1 => ?_
    repeat array_get_dec
    rw [List.length_map]
    repeat array_get_dec
    obtain ⟨y, hy1, hy2, hy3⟩ := d.least_py hz
    obtain ⟨s, hs⟩ : ∃ s, y.shown = s := ⟨_, rfl⟩
    refine wp_reprS hy1 hy2 hy3 (by omega) (by omega) hs ?_
    repeat array_get_dec
    refine (c49 d (by omega) hM hz).use fun S2 s2 => ?_
    rw [← d.least z]
    repeat array_get_dec
    refine wp_reprS hy1 hy2 hy3 (by omega) (by omega) hs ?_
    repeat array_get_dec
    refine ⟨fun z => absurd z (by simp), fun _ => ?_⟩
    repeat array_get_dec
    exact ⟨_, _, rfl, s1.trans s2⟩
  · have hM' : (5000 : Int) < (t.bd.step : Int) * (t.bd.lows.length : Int) := by exact_mod_cast (show 5000 < t.bd.step * t.bd.lows.length by omega)
    repeat array_get_dec
    refine wp_mono (c39x (t := t) k' (by omega) (by omega) (by omega) hz) (fun _ _ z => z.elim) fun x S1 z => ?_
    obtain ⟨rfl, s1⟩ := z
    refine ⟨show (4 : Nat) < 7 by omega, rfl, ?_⟩
    repeat array_get_dec
    rw [List.length_map]
    repeat array_get_dec
    refine ⟨4, .int 5000, rfl, show (4 : Nat) < 7 by omega, ?_⟩
    repeat array_get_dec
    refine ⟨4, .int 5000, rfl, show (4 : Nat) < 7 by omega, ?_⟩
    repeat array_get_dec
    refine wp_reprS (x := .int 5000) rfl rfl (sh_intB (by omega)) (by omega) (by omega) (s := "5000") (by decide +kernel) ?_
    repeat array_get_dec
    exact ⟨_, _, rfl, s1⟩
/-- a turn where the some is taken out -/
theorem turnB {q k many m : Nat} {t : T} (d : Dn t) (hm : 55 ≤ m) {z : Int} (hz : 0 ≤ z ∧ z ≤ 1000000000000) (hM : t.bd.step * t.bd.lows.length ≤ 1000) {x4 x11 x13 x14 : Option D} :
    wf (loopB.ev (p.G m) [some (.ref q), some (.int many), some (.ref k), some t.e, x4, some (dueD t), some (.bl false), some (.int z), some (.tup (t.bd.lows.map Ns.pairD)), some (.int t.bd.step), some (.int t.span), x11, some t.elim.e, x13, x14] S)
      { N := fun E S' => ∃ y11 y14, E = [some (.ref q), some (.int many), some (.ref k), some t.e, x4, some (dueD t), some (.bl false), some (.int z), some (.tup (t.bd.lows.map Ns.pairD)), some (.int t.bd.step), some (.int t.span), y11, some t.elim.e, x13, y14] ∧ Sub S S', R := fun _ _ => False, X := noX, B := fun _ _ => False } := by
  have k' := d.tok
  have hll := lows_len t.bd
  have hbsz := bd_sz t
  have htz := k'.sz
  have hst := d.step
  have hfit := k'.fit
  have hh := k'.h
  obtain ⟨f1, f2, f3, f4⟩ := d.elim hM
  simp only [loopB, d50, dropS, headS, repB]
  have hM' : (t.bd.step : Int) * (t.bd.lows.length : Int) ≤ 1000 := by exact_mod_cast hM
  repeat array_get_dec
  refine (c39 (t := t) k' (by omega) (by omega) hz).use fun S1 s1 => ?_
  repeat array_get_dec
  rw [List.length_map]
  repeat array_get_dec
  obtain ⟨y, hy1, hy2, hy3⟩ := d.least_py hz
  obtain ⟨s, hs⟩ : ∃ s, y.shown = s := ⟨_, rfl⟩
  refine wp_reprS hy1 hy2 hy3 (by omega) (by omega) hs ?_
  repeat array_get_dec
  refine (c49 d (by omega) (by omega) hz).use fun S2 s2 => ?_
  rw [← d.least z]
  repeat array_get_dec
  refine wp_reprS hy1 hy2 hy3 (by omega) (by omega) hs ?_
  repeat array_get_dec
  refine ⟨fun z => absurd z (by simp), fun _ => ?_⟩
  repeat array_get_dec
  rw [List.length_map]
  repeat array_get_dec
  refine (c22 (t := t.elim) (by omega) (by omega) f1 f3 f4 (by omega)).use fun S3 s3 => ?_
  rw [f2]
  repeat array_get_dec
  obtain ⟨s2', hs2⟩ : ∃ s, (PyData.bool (!(t.good z).isEmpty)).shown = s := ⟨_, rfl⟩
  refine wp_reprS (x := .bool (!(t.good z).isEmpty)) rfl rfl (sh_bool _) (by omega) (by omega) hs2 ?_
  repeat array_get_dec
  rw [if_pos rfl, least_non]
  refine wp_reprS (x := .bool (!(t.good z).isEmpty)) rfl rfl (sh_bool _) (by omega) (by omega) hs2 ?_
  repeat array_get_dec
  refine ⟨fun z => absurd z (by simp), fun _ => ?_⟩
  repeat array_get_dec
  exact ⟨_, _, rfl, (s1.trans s2).trans s3⟩
/-- behind what eliminated tells -/
theorem tail_of {q k many m : Nat} {t : T} (d : Dn t) (hm : 55 ≤ m) (hp : Pot q 31 S) (hmany : 1 ≤ many ∧ many ≤ 5) {told c : D} {b : Bool} {x4 x13 x7 x14 : Option D}
    (turn : ∀ (z : Int) (S1 : Sto) (y11 y14 : Option D), 0 ≤ z ∧ z ≤ 1000000000000 → wf (loopB.ev (p.G m) [some (.ref q), some (.int many), some (.ref k), some t.e, x4, some (dueD t), some (.bl b), some (.int z), some (.tup (t.bd.lows.map Ns.pairD)), some (.int t.bd.step), some (.int t.span), y11, some told, x13, y14] S1)
      { N := fun E S' => ∃ y11 y14, E = [some (.ref q), some (.int many), some (.ref k), some t.e, x4, some (dueD t), some (.bl b), some (.int z), some (.tup (t.bd.lows.map Ns.pairD)), some (.int t.bd.step), some (.int t.span), y11, some told, x13, y14] ∧ Sub S1 S', R := fun _ _ => False, X := noX, B := fun _ _ => False }) :
    wf ((dropS 13 d50.body).ev (p.G m) [some (.ref q), some (.int many), some (.ref k), some t.e, x4, some (dueD t), some (.bl b), x7, some (.tup (t.bd.lows.map Ns.pairD)), some (.int t.bd.step), some (.int t.span), some c, some told, x13, x14] S) { N := fun _ _ => False, R := fun d S' => d = .bl true ∧ SubX q S S', X := noX, B := fun _ _ => False } := by
  simp only [d50, dropS]
  repeat array_get_dec
  refine (c41 (by omega) hp (by omega) (by omega)).use fun d1 S1 ⟨z1, h1, i0, i1⟩ p1 s1 => ?_
  subst h1
  repeat array_get_dec
  refine b_pow ⟨by omega, by decide +kernel⟩ ?_
  repeat array_get_dec
  refine (c41 (by omega) p1 (by omega) (by decide +kernel)).use fun d2 S2 ⟨z2, h2, j0, j1⟩ p2 s2 => ?_
  subst h2
  have j1 : z2 < 1000000000000 := j1
  repeat array_get_dec
  refine wf_for (fun done E S3 => ∃ x7 y11 y14, E = [some (.ref q), some (.int many), some (.ref k), some t.e, x4, some (dueD t), some (.bl b), x7, some (.tup (t.bd.lows.map Ns.pairD)), some (.int t.bd.step), some (.int t.span), y11, some told, x13, y14] ∧ SubX q S S3) ⟨_, _, _, rfl, s1.trans s2⟩ ?_ ?_
  · rintro done x rest hd E1 S3 ⟨y7, y11, y14, rfl, s3⟩
    have hx : x = .int z1 ∨ x = .int z2 := by
      have : x ∈ [D.int z1, D.int z2] := by
        have hd : [D.int z1, D.int z2] = done ++ x :: rest := hd
        rw [hd]; simp
      simpa using this
    have hz : ∃ z, x = .int z ∧ 0 ≤ z ∧ z ≤ 1000000000000 := by
      rcases hx with rfl | rfl
      · exact ⟨z1, rfl, by omega, by omega⟩
      · exact ⟨z2, rfl, by omega, by omega⟩
    obtain ⟨z, rfl, hz⟩ := hz
    refine ⟨stands_nil, _, rfl, ?_⟩
    exact wf_mono (turn z S3 y11 y14 hz) (fun E S4 ⟨w11, w14, hE, s4⟩ => ⟨_, w11, w14, hE, s3.trans (SubX.of s4)⟩) (fun _ _ z => z.elim) (fun _ _ z => z.elim) (fun _ _ z => z.elim)
  · rintro E1 S3 ⟨y7, y11, y14, rfl, s3⟩
    refine ⟨stands_nil, ?_⟩
    repeat array_get_dec
    exact ⟨rfl, s3⟩
theorem segA {q k many m : Nat} {t : T} (d : Dn t) (hm : 55 ≤ m) (hp : Pot q 31 S) (hmany : 1 ≤ many ∧ many ≤ 5) (hsz : t.sz + 1 = 2 * many) (hM : 3000 < t.bd.step * t.bd.lows.length * t.bd.sz) {x4 x13 : Option D} :
    wf ((dropS 8 d50.body).ev (p.G m) [some (.ref q), some (.int many), some (.ref k), some t.e, x4, some (dueD t), none, none, some (.tup (t.bd.lows.map Ns.pairD)), some (.int t.bd.step), some (.int t.span), some (.xv 4 (.int 3000)), some .non, x13, none] S) { N := fun _ _ => False, R := fun d S' => d = .bl true ∧ SubX q S S', X := noX, B := fun _ _ => False } := by
  have k' := d.tok
  have hll := lows_len t.bd
  have hbsz := bd_sz t
  have htz := k'.sz
  have hsp0 := t.span_pos
  have hsp1 := d.span
  have hst := d.step
  have hP : (3000 : Int) < (t.bd.step : Int) * (t.bd.lows.length : Int) * (2 * (many : Int) + 1) := by
    have e : (2 * (many : Int) + 1) = (t.bd.sz : Int) := by omega
    rw [e]
    exact_mod_cast hM
  have step : ∀ i : Nat, True := fun _ => trivial
  simp only [d50, dropS]
  refine s_consN (fun E' S' => E' = [some (.ref q), some (.int many), some (.ref k), some t.e, x4, some (dueD t), some (.bl true), none, some (.tup (t.bd.lows.map Ns.pairD)), some (.int t.bd.step), some (.int t.span), some (.xv 4 (.int 3000)), some .non, x13, none] ∧ Sub S S') ?_ ?_
  · repeat array_get_dec
    exact ⟨rfl, Sub.refl _⟩
  rintro E1 S1 ⟨rfl, s1⟩
  refine s_consN (fun E' S' => E' = [some (.ref q), some (.int many), some (.ref k), some t.e, x4, some (dueD t), some (.bl true), none, some (.tup (t.bd.lows.map Ns.pairD)), some (.int t.bd.step), some (.int t.span), some (.xv 4 (.int 3000)), some .non, x13, none] ∧ Sub S S') ?_ ?_
  · repeat array_get_dec
    rw [List.length_map]
    repeat array_get_dec
    exact ⟨rfl, s1⟩
  rintro E1 S2 ⟨rfl, s2⟩
  refine s_consN (fun E' S' => E' = [some (.ref q), some (.int many), some (.ref k), some t.e, x4, some (dueD t), some (.bl true), none, some (.tup (t.bd.lows.map Ns.pairD)), some (.int t.bd.step), some (.int t.span), some (.xv 4 (.int 3000)), some .non, x13, none] ∧ Sub S S') ?_ ?_
  · repeat array_get_dec
    exact ⟨rfl, s2⟩
  rintro E1 S3 ⟨rfl, s3⟩
  refine s_consN (fun E' S' => E' = [some (.ref q), some (.int many), some (.ref k), some t.e, x4, some (dueD t), some (.bl true), none, some (.tup (t.bd.lows.map Ns.pairD)), some (.int t.bd.step), some (.int t.span), some (.xv 4 (.int 3000)), some .non, x13, none] ∧ Sub S S') ?_ ?_
  · repeat array_get_dec
    refine ⟨4, .int 3000, rfl, show (4 : Nat) < 7 by omega, ?_⟩
    repeat array_get_dec
    refine ⟨4, .int 3000, rfl, show (4 : Nat) < 7 by omega, ?_⟩
    repeat array_get_dec
    refine wp_reprS (x := .int 3000) rfl rfl (sh_intB (by omega)) (by omega) (by omega) (s := "3000") (by decide +kernel) ?_
    repeat array_get_dec
    exact ⟨rfl, s3⟩
  rintro E1 S4 ⟨rfl, s4⟩
  refine s_consN (fun E' S' => E' = [some (.ref q), some (.int many), some (.ref k), some t.e, x4, some (dueD t), some (.bl true), none, some (.tup (t.bd.lows.map Ns.pairD)), some (.int t.bd.step), some (.int t.span), some (.xv 4 (.int 3000)), some .non, x13, none] ∧ Sub S S') ?_ ?_
  · repeat array_get_dec
    exact ⟨rfl, s4⟩
  rintro E1 S5 ⟨rfl, s5⟩
  exact wf_mono (tail_of (c := (.xv 4 (.int 3000))) (told := .non) (b := true) d hm (hp.sub s5) hmany (fun z S1 y11 y14 hz => turnA d hm hz)) (fun _ _ z => z.elim) (fun d S' z => ⟨z.1, (SubX.of s5).trans z.2⟩) (fun _ _ z => z) (fun _ _ z => z.elim)
theorem segB {q k many m : Nat} {t : T} (d : Dn t) (hm : 55 ≤ m) (hp : Pot q 31 S) (hmany : 1 ≤ many ∧ many ≤ 5) (hsz : t.sz + 1 = 2 * many) (hM : t.bd.step * t.bd.lows.length * t.bd.sz ≤ 3000) {x4 x13 : Option D} :
    wf ((dropS 8 d50.body).ev (p.G m) [some (.ref q), some (.int many), some (.ref k), some t.e, x4, some (dueD t), none, none, some (.tup (t.bd.lows.map Ns.pairD)), some (.int t.bd.step), some (.int t.span), some .non, some t.elim.e, x13, none] S) { N := fun _ _ => False, R := fun d S' => d = .bl true ∧ SubX q S S', X := noX, B := fun _ _ => False } := by
  have k' := d.tok
  have hll := lows_len t.bd
  have hbsz := bd_sz t
  have htz := k'.sz
  have hsp0 := t.span_pos
  have hsp1 := d.span
  have hst := d.step
  have h3 : 3 ≤ t.bd.sz := by have := t.sz_pos; omega
  have h5 : t.bd.step * t.bd.lows.length * 3 ≤ t.bd.step * t.bd.lows.length * t.bd.sz := Nat.mul_le_mul_left _ h3
  have hM2 : t.bd.step * t.bd.lows.length ≤ 1000 := by omega
  obtain ⟨f1, f2, f3, f4⟩ := d.elim hM2
  have hP : (t.bd.step : Int) * (t.bd.lows.length : Int) * (2 * (many : Int) - (if decide ((t.span : Int) = 1) = true then 1 else 0) * 2 + 1) ≤ 3000 := by
    have e : 2 * (many : Int) - (if decide ((t.span : Int) = 1) = true then 1 else 0) * 2 + 1 ≤ (t.bd.sz : Int) := by split <;> omega
    have h0 : (0 : Int) ≤ (t.bd.step : Int) * (t.bd.lows.length : Int) := Int.mul_nonneg (by omega) (by omega)
    refine Int.le_trans (Int.mul_le_mul_of_nonneg_left e h0) ?_
    exact_mod_cast hM
  have step : ∀ i : Nat, True := fun _ => trivial
  simp only [d50, dropS]
  refine s_consN (fun E' S' => E' = [some (.ref q), some (.int many), some (.ref k), some t.e, x4, some (dueD t), some (.bl false), none, some (.tup (t.bd.lows.map Ns.pairD)), some (.int t.bd.step), some (.int t.span), some .non, some t.elim.e, x13, none] ∧ Sub S S') ?_ ?_
  · repeat array_get_dec
    exact ⟨rfl, Sub.refl _⟩
  rintro E1 S1 ⟨rfl, s1⟩
  refine s_consN (fun E' S' => E' = [some (.ref q), some (.int many), some (.ref k), some t.e, x4, some (dueD t), some (.bl false), none, some (.tup (t.bd.lows.map Ns.pairD)), some (.int t.bd.step), some (.int t.span), some .non, some t.elim.e, x13, none] ∧ Sub S S') ?_ ?_
  · repeat array_get_dec
    exact ⟨rfl, s1⟩
  rintro E1 S2 ⟨rfl, s2⟩
  refine s_consN (fun E' S' => E' = [some (.ref q), some (.int many), some (.ref k), some t.e, x4, some (dueD t), some (.bl false), none, some (.tup (t.bd.lows.map Ns.pairD)), some (.int t.bd.step), some (.int t.span), some .non, some t.elim.e, x13, none] ∧ Sub S S') ?_ ?_
  · repeat array_get_dec
    rw [List.length_map]
    repeat array_get_dec
    refine ⟨fun z => absurd z (by rw [decide_eq_false (by omega)]; simp), fun _ => ?_⟩
    repeat array_get_dec
    exact ⟨rfl, s2⟩
  rintro E1 S3 ⟨rfl, s3⟩
  refine s_consN (fun E' S' => E' = [some (.ref q), some (.int many), some (.ref k), some t.e, x4, some (dueD t), some (.bl false), none, some (.tup (t.bd.lows.map Ns.pairD)), some (.int t.bd.step), some (.int t.span), some .non, some t.elim.e, x13, none] ∧ Sub S S') ?_ ?_
  · repeat array_get_dec
    exact ⟨rfl, s3⟩
  rintro E1 S4 ⟨rfl, s4⟩
  refine s_consN (fun E' S' => E' = [some (.ref q), some (.int many), some (.ref k), some t.e, x4, some (dueD t), some (.bl false), none, some (.tup (t.bd.lows.map Ns.pairD)), some (.int t.bd.step), some (.int t.span), some .non, some t.elim.e, x13, none] ∧ Sub S S') ?_ ?_
  · repeat array_get_dec
    refine (c20 (t := t.elim) (by omega) f1 f3 f4).use fun S6 s6 => ?_
    repeat array_get_dec
    exact ⟨rfl, s4.trans s6⟩
  rintro E1 S5 ⟨rfl, s5⟩
  exact wf_mono (tail_of (c := .non) (told := t.elim.e) (b := false) d hm (hp.sub s5) hmany (fun z S1 y11 y14 hz => turnB d hm hz hM2)) (fun _ _ z => z.elim) (fun d S' z => ⟨z.1, (SubX.of s5).trans z.2⟩) (fun _ _ z => z) (fun _ _ z => z.elim)
theorem right_tail {q k many m : Nat} {t : T} (d : Dn t) (hm : 55 ≤ m) (hp : Pot q 31 S) (ne : k ≠ q) (a : S[k]? = some (.lst (t.lv.map T.e))) (hmany : 1 ≤ many ∧ many ≤ 5) (hsz : t.sz + 1 = 2 * many) {x4 x13 : Option D} :
    wf ((dropS 4 d50.body).ev (p.G m) [some (.ref q), some (.int many), some (.ref k), some t.e, x4, none, none, none, none, none, none, none, none, x13, none] S) { N := fun _ _ => False, R := fun d S' => d = .bl true ∧ SubX q S S', X := noX, B := fun _ _ => False } := by
  have k' := d.tok
  have hst := d.step
  simp only [d50, dropS]
  repeat array_get_dec
  refine (c47 d (by omega) a).use fun S1 s1 => ?_
  repeat array_get_dec
  refine (c32 (t := t) k' (by omega)).use fun S2 s2 => ?_
  repeat array_get_dec
  obtain ⟨s, hs⟩ : ∃ s, (dueP t).shown = s := ⟨_, rfl⟩
  refine wp_reprS (due_py t) rfl d.due (by omega) (by omega) hs ?_
  repeat array_get_dec
  refine wp_reprS (due_py t) rfl d.due (by omega) (by omega) hs ?_
  repeat array_get_dec
  refine ⟨fun z => absurd z (by simp), fun _ => ?_⟩
  unfold dueD
  have s12 := s1.trans s2
  repeat array_get_dec
  by_cases hM : t.bd.step * t.bd.lows.length * t.bd.sz ≤ 3000
  · refine (c36 (t := t) k' (by omega) hM).use fun S3 s3 => ?_
    refine ⟨_, rfl, ?_⟩
    have s13 := s12.trans s3
    exact wf_mono (segB (k := k) (x4 := x4) (x13 := x13) d hm (hp.sub s13) hmany hsz hM) (fun _ _ z => z.elim) (fun d S' z => ⟨z.1, (SubX.of s13).trans z.2⟩) (fun _ _ z => z) (fun _ _ z => z.elim)
  · refine wp_mono (c36x (t := t) k' (by omega) (by omega) (by omega)) (fun _ _ z => z.elim) fun x S3 z => ?_
    obtain ⟨rfl, s3⟩ := z
    refine ⟨show (4 : Nat) < 7 by omega, rfl, ?_⟩
    refine ⟨_, rfl, ?_⟩
    have s13 := s12.trans s3
    exact wf_mono (segA (k := k) (x4 := x4) (x13 := x13) d hm (hp.sub s13) hmany hsz (by omega)) (fun _ _ z => z.elim) (fun d S' z => ⟨z.1, (SubX.of s13).trans z.2⟩) (fun _ _ z => z) (fun _ _ z => z.elim)
end
end K89
set_option Elab.async false
set_option linter.all false
set_option maxRecDepth 100000
set_option maxHeartbeats 2000000
namespace K89
open PySem PySem.Spec PyProof.Rows L2 Py
theorem SubX.pot {q N : Nat} {S S' : Sto} (h : Pot q N S) (s : Sub S S') : Pot q N S' := h.sub s
local macro_rules | `(tactic| array_get_dec) => `(tactic| first
  | with_reducible refine s_cons ?_
  | with_reducible refine s_nil ?_
  | with_reducible refine s_cnd ?_
  | with_reducible refine s_ret ?_
  | (with_reducible refine w_var ?_; refine ⟨_, rfl, ?_⟩)
  | with_reducible refine w_int ?_
  | with_reducible refine w_str ?_
  | with_reducible refine w_bl ?_
  | with_reducible refine w_non ?_
  | with_reducible refine a_cons ?_
  | with_reducible refine a_nil ?_
  | with_reducible refine w_call ?_
  | with_reducible refine t_call ?_
  | with_reducible refine w_tup ?_
  | with_reducible refine w_cmp ?_
  | with_reducible refine t_cmp ?_
  | with_reducible refine w_ix ?_
  | with_reducible refine w_bin ?_
  | with_reducible refine w_isi ?_
  | with_reducible refine t_isi ?_
  | with_reducible refine w_nt ?_
  | with_reducible refine t_nt ?_
  | with_reducible refine w_con ?_
  | with_reducible refine t_con ?_
  | with_reducible refine w_dis ?_
  | with_reducible refine t_dis ?_
  | with_reducible refine w_chn ?_
  | with_reducible refine w_ife ?_
  | with_reducible refine w_bi ?_
  | with_reducible refine t_bi ?_
  | with_reducible refine w_neg ?_
  | with_reducible refine w_sl ?_
  | with_reducible refine o_no ?_
  | with_reducible refine o_yes ?_
  | with_reducible refine s_set ?_
  | with_reducible refine s_par ?_
  | with_reducible refine s_ex ?_
  | with_reducible refine s_rse ?_
  | with_reducible refine s_rep ?_
  | with_reducible refine s_whl ?_
  | with_reducible refine s_brk ?_
  | with_reducible refine s_sub ?_
  | with_reducible refine w_lst ?_
  | with_reducible refine w_lc ?_
  | with_reducible refine w_mth ?_
  | with_reducible refine i_seq ?_
  | with_reducible refine i_r1 ?_
  | with_reducible refine i_r2 ?_
  | with_reducible refine i_zip ?_
  | with_reducible refine ot_no ?_
  | with_reducible refine ot_yes ?_
  | (with_reducible refine t_var ?_; refine ⟨_, _, rfl, rfl, ?_⟩)
  | with_reducible refine w_isN ?_
  | with_reducible refine t_isN ?_
  | with_reducible refine t_isB ?_
  | with_reducible refine t_isx ?_
  | with_reducible refine t_ix ?_
  | with_reducible refine w_fld ?_
  | with_reducible refine w_heard ?_
  | with_reducible refine w_lrange ?_
  | with_reducible refine a_star ?_
  | with_reducible refine w_glb con_0 ?_
  | with_reducible refine w_glb con_1 ?_
  | with_reducible refine w_glb con_2 ?_
  | with_reducible refine w_glb con_3 ?_
  | with_reducible refine w_glb con_4 ?_
  | with_reducible refine w_glb con_5 ?_
  | with_reducible refine w_glb con_6 ?_
  | with_reducible refine w_glb con_7 ?_
  | with_reducible refine w_glb con_8 ?_
  | with_reducible refine w_glb con_9 ?_
  | with_reducible refine w_glb con_10 ?_
  | with_reducible refine w_glb con_11 ?_
  | with_reducible refine w_glb con_12 ?_
  | with_reducible refine w_glb con_13 ?_
  | with_reducible refine w_glb con_14 ?_
  | with_reducible refine w_glb con_15 ?_
  | with_reducible refine w_glb con_16 ?_
  | with_reducible refine w_glb con_17 ?_
  | with_reducible refine w_glb con_18 ?_
  | with_reducible refine w_glb con_19 ?_
  | with_reducible refine w_glb con_20 ?_
  | with_reducible refine w_glb con_21 ?_
  | with_reducible refine w_glb con_22 ?_
  | with_reducible refine w_glb con_23 ?_
  | with_reducible refine r_cut1 ?_
  | with_reducible refine r_cut3 ?_
  | with_reducible refine r_cutL ?_
  | with_reducible refine r_cutL1 ?_
  | with_reducible refine b_tup1 ?_
  | with_reducible refine r_abs ?_
  | with_reducible refine r_max ?_
  | with_reducible refine r_min ?_
  | with_reducible refine r_intI ?_
  | with_reducible refine r_intB ?_
  | with_reducible refine r_lenT ?_
  | with_reducible refine b_add ?_
  | with_reducible refine b_sub ?_
  | with_reducible refine b_mulR (by omega) ?_
  | with_reducible refine b_mulL (by omega) ?_
  | with_reducible refine b_div64 (by omega) ?_
  | with_reducible refine b_mod (by omega) ?_
  | with_reducible refine ⟨_, ix0, ?_⟩
  | with_reducible refine ⟨_, ix1, ?_⟩
  | with_reducible refine ⟨_, ix2, ?_⟩
  | with_reducible refine ⟨_, ix3, ?_⟩
  | with_reducible refine ⟨_, ixL, ?_⟩
  | refine ⟨Nat.le_of_ble_eq_true rfl, ?_⟩
  | refine ⟨fun _ => ?_, fun z => absurd z (by decide +kernel)⟩
  | refine ⟨fun z => absurd z (by decide +kernel), fun _ => ?_⟩
  | refine ⟨fun _ => ?_, fun z => Bool.noConfusion (show true = false from z)⟩
  | refine ⟨fun _ => ?_, fun z => Bool.noConfusion (show false = true from z)⟩
  | refine ⟨fun z => Bool.noConfusion (show true = false from z), fun _ => ?_⟩
  | refine ⟨fun z => Bool.noConfusion (show false = true from z), fun _ => ?_⟩
  | refine ⟨fun _ => ?_, fun z => absurd z (by simp only [Bool.not_eq_true', Bool.not_eq_false', decide_eq_true_eq, decide_eq_false_iff_not]; omega)⟩
  | refine ⟨fun z => absurd z (by simp only [Bool.not_eq_true', Bool.not_eq_false', decide_eq_true_eq, decide_eq_false_iff_not]; omega), fun _ => ?_⟩
  | refine ⟨_, rfl, ?_⟩)

section
variable {n : Nat} {S : Sto}
theorem c50 {q : Nat} (hn : 60 ≤ n) (hp : Pot q 0 S) : wp ((p.G n).call 50 [.ref q] S) (fun d S' => d = .bl true ∧ SubX q S S') noX := by
  refine c_of d50 rfl (by omega) rfl fun m e => ?_
  have e50 : d50.body = .cons (headS d50.body) (.cons (headS (dropS 1 d50.body)) (.cons (headS (dropS 2 d50.body)) (.cons (headS (dropS 3 d50.body)) (dropS 4 d50.body)))) := rfl
  rw [e50]
  refine s_consN (fun E' S' => ∃ many : Nat, (1 ≤ many ∧ many ≤ 5) ∧ E' = [some (.ref q), some (.int many), none, none, none, none, none, none, none, none, none, none, none, none, none] ∧ Pot q 1 S' ∧ SubX q S S') ?_ ?_
  · simp only [d50, dropS, headS]
    repeat array_get_dec
    refine (c41 (by omega) hp (by omega) (by omega)).use fun d1 S1 ⟨i, h1, i0, i1⟩ p1 s1 => ?_
    subst h1
    obtain ⟨many, hmany⟩ : ∃ many : Nat, 1 + i = (many : Int) := ⟨(1 + i).toNat, by omega⟩
    refine b_add ?_
    rw [hmany]
    refine ⟨_, rfl, ?_⟩
    exact ⟨many, by omega, rfl, p1, s1⟩
  rintro E1 S1 ⟨many, hmany, rfl, p1, s1⟩
  refine s_consN (fun E' S' => ∃ (k : Nat) (ts : List T), ts.length = many ∧ (∀ y ∈ ts, y.leaf = true ∧ y.drawn) ∧ S'[k]? = some (.lst (ts.map T.e)) ∧ k ≠ q ∧ Pot q 26 S' ∧ SubX q S S' ∧ E' = [some (.ref q), some (.int many), some (.ref k), none, none, none, none, none, none, none, none, none, none, none, none]) ?_ ?_
  · simp only [d50, dropS, headS]
    refine s_set ?_
    refine draw_sums (by omega) p1 hmany.2 fun k ts S2 h1 h2 a2 ne2 p2 s2 => ?_
    refine ⟨_, rfl, ?_⟩
    exact ⟨k, ts, h1, h2, a2, ne2, p2, s1.trans s2, rfl⟩
  rintro E1 S2 ⟨k, ts, hts, hlf, a2, ne, p2, s2, rfl⟩
  obtain ⟨y0, ts', rfl⟩ : ∃ y0 ts', ts = y0 :: ts' := by
    cases ts with
    | nil => simp at hts; omega
    | cons y0 ts' => exact ⟨y0, ts', rfl⟩
  refine s_consN (fun E' S' => E' = [some (.ref q), some (.int many), some (.ref k), some y0.e, none, none, none, none, none, none, none, none, none, none, none] ∧ S' = S2) ?_ ?_
  · simp only [d50, dropS, headS]
    repeat array_get_dec
    refine ⟨y0.e, ix_ref a2 at0, ?_⟩
    repeat array_get_dec
    exact ⟨rfl, rfl⟩
  rintro E1 S3 ⟨rfl, rfl⟩
  refine s_consN (fun E' S' => ∃ (t : T) (x4 : Option D), Dn t ∧ t.lv = y0 :: ts' ∧ t.sz + 1 = 2 * many ∧ E' = [some (.ref q), some (.int many), some (.ref k), some t.e, x4, none, none, none, none, none, none, none, none, none, none] ∧ Pot q 31 S' ∧ SubX q S3 S') ?_ ?_
  · simp only [d50, dropS, headS]
    repeat array_get_dec
    refine r_cutB (m := 1) a2 (by simp) fun k4 S4 s4 h4 a4 => ?_
    have ne4 : k4 ≠ q := p2.ne h4
    have a4 : S4[k4]? = some (.lst (ts'.map T.e)) := a4
    refine seqW_ref0 a4 ?_
    have hlen : ts'.length + 1 = many := by simpa using hts
    refine wf_for (fun done E S5 => ∃ (t : T) (l1 l2 : List T) (x4 : Option D), ts' = l1 ++ l2 ∧ done = l1.map T.e ∧ t.lv = y0 :: l1 ∧ t.drawn ∧ t.h ≤ l1.length + 1 ∧ t.sz = 2 * l1.length + 1 ∧ E = [some (.ref q), some (.int many), some (.ref k), some t.e, x4, none, none, none, none, none, none, none, none, none, none] ∧ Pot q (26 + l1.length) S5 ∧ SubX q S3 S5 ∧ S5[k4]? = some (.lst (ts'.map T.e))) ⟨y0, [], ts', none, rfl, rfl, ?_, (hlf y0 (by simp)).2, ?_, ?_, rfl, p2.sub s4, SubX.of s4, a4⟩ ?_ ?_
    · have := (hlf y0 (by simp)).1
      cases y0 <;> first | rfl | cases this
    · have := (hlf y0 (by simp)).1
      cases y0 <;> first | exact Nat.le_refl _ | cases this
    · have := (hlf y0 (by simp)).1
      cases y0 <;> first | rfl | cases this
    · rintro done x rest hd E1 S5 ⟨t, l1, l2, x4, hl, rfl, h1, h2, h3, h4', rfl, p5, s5, a5⟩
      refine ⟨stands_one a5, ?_⟩
      have e2 : l2.map T.e = x :: rest := by
        have hd : ts'.map T.e = l1.map T.e ++ x :: rest := hd
        rw [hl, List.map_append] at hd
        exact List.append_cancel_left hd
      obtain ⟨y, l3, rfl, rfl, _⟩ := List.map_eq_cons_iff.mp e2
      have hy := hlf y (by rw [hl]; simp)
      have hl1 : l1.length ≤ 4 := by
        have := congrArg List.length hl
        simp at this
        omega
      refine ⟨_, rfl, ?_⟩
      repeat array_get_dec
      intro k6 S6 s6 h6 a6
      have p6 := p5.sub s6
      have ne6 : k6 ≠ q := p5.ne h6
      repeat array_get_dec
      refine (c42 (by omega) p6 (by omega) ne6 a6 (by simp) (by simp)).use fun d7 S7 hd7 p7 s7 => ?_
      have a7 := s7 _ _ ne4 (s6 _ _ a5)
      have s57 := (s5.trans (SubX.of s6)).trans s7
      have hyl : y.lv = [y] := by
        have := hy.1
        cases y <;> first | rfl | cases this
      have hyh : y.h = 1 := by
        have := hy.1
        cases y <;> first | rfl | cases this
      have hysz : y.sz = 1 := by
        have := hy.1
        cases y <;> first | rfl | cases this
      have hd : ∃ t' : T, d7 = (match t' with | .orr _ _ => .str "or" | _ => .str "and") ∧ t'.e = .tup [d7, t.e, y.e] ∧ t'.lv = t.lv ++ y.lv ∧ (t'.drawn ↔ t.drawn ∧ y.drawn) ∧ t'.h = max t.h y.h + 1 ∧ t'.sz = t.sz + y.sz + 1 := by
        simp only [List.mem_cons, List.mem_nil_iff, or_false] at hd7
        rcases hd7 with rfl | rfl | rfl
        · exact ⟨.an t y, rfl, rfl, rfl, Iff.rfl, rfl, rfl⟩
        · exact ⟨.an t y, rfl, rfl, rfl, Iff.rfl, rfl, rfl⟩
        · exact ⟨.orr t y, rfl, rfl, rfl, Iff.rfl, rfl, rfl⟩
      obtain ⟨t', _, g1, g2, g3, g4, g5⟩ := hd
      repeat array_get_dec
      refine ⟨t', l1 ++ [y], l3, _, by rw [hl]; simp, by simp, by rw [g2, h1, hyl]; simp, g3.mpr ⟨h2, hy.2⟩, ?_, ?_, by rw [g1]; rfl, p7.more ?_, s57, a7⟩
      · rw [g4, hyh, List.length_append, List.length_singleton]; have := t.h_pos; omega
      · rw [g5, h4', hysz, List.length_append, List.length_singleton]; omega
      · rw [List.length_append, List.length_singleton]; omega
    · rintro E1 S5 ⟨t, l1, l2, x4, hl, hd, h1, h2, h3, h4', rfl, p5, s5, a5⟩
      refine ⟨stands_one a5, ?_⟩
      have hl2 : l2 = [] := by
        have hd : ts'.map T.e = l1.map T.e := hd
        have := congrArg List.length hd
        rw [hl] at this
        simp at this
        exact this
      subst hl2
      rw [List.append_nil] at hl
      subst hl
      exact ⟨t, x4, ⟨h2, by omega, by omega⟩, h1, by omega, rfl, p5.more (by omega), s5⟩
  rintro E1 S4 ⟨t, x4, d, hlv, hsz, rfl, p4, s4⟩
  have a4 : S4[k]? = some (.lst (t.lv.map T.e)) := by rw [hlv]; exact s4 _ _ ne a2
  exact wf_mono (right_tail (k := k) (x4 := x4) (x13 := none) d (by omega) p4 ne a4 hmany hsz) (fun _ _ z => z.elim) (fun d S' z => ⟨z.1, (s2.trans s4).trans z.2⟩) (fun _ _ z => z) (fun _ _ z => z.elim)
/-- the law is kept -/
theorem c51 {ns : List Int} (hn : 70 ≤ n) : wp ((p.G n).call 51 [.con (ns.map D.int)] S) (fun d _ => d = .bl true) noX := by
  refine c_of d51 rfl (by omega) rfl fun m e => ?_
  unfold d51
  repeat array_get_dec
  refine wp_then (c43 (by omega)) fun d0 S1 z => ?_
  obtain ⟨k1, j, rfl, s1, h1, a1, hj3, hjn⟩ := z
  refine seqW_ref0 a1 ?_
  refine wp_lcN (fun _ => .bl true) (stands_one a1) ?_ (fun z hz S2 s2 => ?_) fun k3 S3 s3 h3 a3 => ?_
  · exact small_len (by simp; omega)
  · obtain ⟨i, hi, rfl⟩ := List.mem_map.mp hz
    rw [List.mem_range] at hi
    refine ⟨_, rfl, ?_⟩
    repeat array_get_dec
    refine wp_then (c40 (by omega) (by omega) (by rcases hjn with h | h; exact .inl h; exact .inr (by omega))) fun d4 S4 z => ?_
    obtain ⟨k4, rfl, s4, h4, p4⟩ := z
    repeat array_get_dec
    refine wp_then (c50 (by omega) p4) fun d5 S5 z => ?_
    obtain ⟨rfl, s5⟩ := z
    refine ⟨rfl, fun u o hu => ?_⟩
    have ne : u ≠ k4 := ne_of_some hu h4
    exact s5 _ _ ne (s4 _ _ hu)
  · repeat array_get_dec
    refine wp_all a3 (bs := (List.range j).map fun _ => true) ?_ ?_
    · rw [List.map_map]
      exact boolsD_map fun _ _ => rfl
    · show D.bl _ = D.bl true
      congr 1
      simp
end
end K89
set_option Elab.async false
set_option linter.all false
set_option maxRecDepth 100000
set_option maxHeartbeats 4000000
namespace K89
open PySem PySem.Spec PyProof.Rows L2 Py
/-- parameters told by place, no defaults -/
def parB (a : Arguments) (ps : List Str) : Bool := match a with
  | ⟨[], as, none, [], [], none, []⟩ => decide (as.map (·.arg) = ps) && decide ps.Nodup
  | _ => false
section
variable (n q : Str) (a b c : Arg) (body : List Stmt) (scope : Scope) (kV doc pm : Value) (an : Option Addr) (cdv ct u v w : Value)
theorem bind0 : bindArgs (PySem.W.fnOf n q ⟨[], [], none, [], [], none, []⟩ body scope .none kV doc pm an cdv ct) ⟨[], []⟩ = pure [] := by rfl
theorem bind1 : bindArgs (PySem.W.fnOf n q ⟨[], [a], none, [], [], none, []⟩ body scope .none kV doc pm an cdv ct) ⟨[u], []⟩ = pure [(a.arg, u)] := by
  simp [bindArgs, PySem.W.fnOf, seqItems?, List.lookup, List.zip, List.filterMap, List.filter]
  rfl
theorem bind2 (h1 : (b.arg == a.arg) = false) : bindArgs (PySem.W.fnOf n q ⟨[], [a, b], none, [], [], none, []⟩ body scope .none kV doc pm an cdv ct) ⟨[u, v], []⟩ = pure [(a.arg, u), (b.arg, v)] := by
  simp [bindArgs, PySem.W.fnOf, seqItems?, List.lookup, List.zip, List.filterMap, List.filter, h1]
  rfl
theorem bind3 (h1 : (b.arg == a.arg) = false) (h2 : (c.arg == a.arg) = false) (h3 : (c.arg == b.arg) = false) : bindArgs (PySem.W.fnOf n q ⟨[], [a, b, c], none, [], [], none, []⟩ body scope .none kV doc pm an cdv ct) ⟨[u, v, w], []⟩ = pure [(a.arg, u), (b.arg, v), (c.arg, w)] := by
  simp [bindArgs, PySem.W.fnOf, seqItems?, List.lookup, List.zip, List.filterMap, List.filter, h1, h2, h3]
  rfl
end
theorem parB_ok {d : He.DefD} {ps : List Str} (h : parB d.params ps = true) (hl : ps.length ≤ 3) : ParOk d ps := by
  intro kV doc pm an cdv ct us hu
  obtain ⟨at_, name, qual, params, body, scope, dfl, kwd⟩ := d
  unfold parB at h
  dsimp only at h
  split at h
  rotate_left
  · cases h
  rename_i as
  rw [Bool.and_eq_true] at h
  have nd := of_decide_eq_true h.2
  have h := of_decide_eq_true h.1
  subst h
  have bf : ∀ {x y : Str}, x ≠ y → (x == y) = false := fun h => by simpa using h
  match as, us, hu, hl, nd with
  | [], [], _, _, _ => exact bind0 _ _ _ _ _ _ _ _ _ _
  | [a], [u], _, _, _ => exact bind1 _ _ _ _ _ _ _ _ _ _ _ _
  | [a, b], [u, v], _, _, nd =>
    simp at nd
    exact bind2 _ _ _ _ _ _ _ _ _ _ _ _ _ _ (bf fun z => nd z.symm)
  | [a, b, c], [u, v, x], _, _, nd =>
    simp at nd
    exact bind3 _ _ _ _ _ _ _ _ _ _ _ _ _ _ _ _ (bf fun z => nd.1.1 z.symm) (bf fun z => nd.1.2 z.symm) (bf fun z => nd.2 z.symm)
  | _ :: _ :: _ :: _ :: _, _, _, hl, _ => simp at hl
def atB (d : He.DefD) (x : Str) : Bool := decide (d.at_ = (x, none)) && decide (d.name = x) && decide (d.qual = x) && d.dfl.isEmpty && d.kwd.isEmpty
theorem atB_ok {d : He.DefD} {x : Str} (h : atB d x = true) : AtN d x := by
  unfold atB at h
  simp only [Bool.and_eq_true, decide_eq_true_eq, List.isEmpty_iff] at h
  obtain ⟨⟨⟨⟨h1, h2⟩, h3⟩, h4⟩, h5⟩ := h
  exact ⟨h1, h2, h3, h4, h5⟩
def defB (S : Src) (i : Nat) : Bool := let d := defD S.prog (S.p.nm.fnN i)
  scB (S.N i) (S.ps i) d.scope && decide ((S.p.defs i).ps = (S.ps i).length) && decide ((S.p.defs i).ns = (S.N i).length) && decide ((S.ps i).length ≤ (S.N i).length) &&
    chkSs S.p.nm (S.N i) ⟨S.p.nm.gd i, S.p.lam i⟩ (S.p.defs i).body d.scope d.body && parB d.params (S.ps i) && decide ((S.ps i).length ≤ 3) && atB d (S.p.nm.fnN i)
theorem all_defs : (List.range 52).all (defB src) = true := by decide +kernel
theorem def_facts {i : Nat} (hi : i < 52) : (scB (src.N i) (src.ps i) (defD src.prog (src.p.nm.fnN i)).scope = true ∧ (src.p.defs i).ps = (src.ps i).length ∧ (src.p.defs i).ns = (src.N i).length ∧ (src.ps i).length ≤ (src.N i).length ∧
    chkSs src.p.nm (src.N i) ⟨src.p.nm.gd i, src.p.lam i⟩ (src.p.defs i).body (defD src.prog (src.p.nm.fnN i)).scope (defD src.prog (src.p.nm.fnN i)).body = true) ∧ ParOk (defD src.prog (src.p.nm.fnN i)) (src.ps i) ∧ AtN (defD src.prog (src.p.nm.fnN i)) (src.p.nm.fnN i) := by
  have h := List.all_eq_true.mp all_defs i (List.mem_range.mpr hi)
  unfold defB at h
  simp only [Bool.and_eq_true, decide_eq_true_eq] at h
  obtain ⟨⟨⟨⟨⟨⟨⟨h1, h2⟩, h3⟩, h4⟩, h5⟩, h6⟩, h7⟩, h8⟩ := h
  exact ⟨⟨h1, h2, h3, h4, h5⟩, parB_ok h6 h7, atB_ok h8⟩
def hearB (S : Src) : Bool := let d := defD S.prog S.p.nm.hearN
  atB d S.p.nm.hearN && scB hearN4 ["call"] d.scope && hearN4.all (fun y => decide (d.scope.names.lookup y = some .local)) && parB d.params ["call"]
theorem hear_all : hearB src = true := by decide +kernel
def hearTB (S : Src) : Bool := match vHear (defD S.prog S.p.nm.hearN).body with
  | some (_, _, _, c) => decide (c = S.p.nm.clsN S.p.top) && decide ((defD S.prog S.p.nm.hearN).scope.names.lookup (S.p.nm.clsN S.p.top) = some .globalImplicit) && (S.p.nm.clsN S.p.top != ("__debug__" : Str))
  | none => false
theorem hearT_all : hearTB src = true := by decide +kernel
theorem src_ok : src.Ok := by
  refine ⟨fun i hi => (def_facts hi).1, fun i hi => (def_facts hi).2.1, fun i hi => (def_facts hi).2.2, ?_, ?_, by decide⟩
  · have h := hear_all
    unfold hearB at h
    simp only [Bool.and_eq_true, List.all_eq_true, decide_eq_true_eq] at h
    obtain ⟨⟨⟨h1, h2⟩, h3⟩, h4⟩ := h
    exact ⟨atB_ok h1, h2, h3, parB_ok h4 (by simp)⟩
  · have h := hearT_all
    unfold hearTB at h
    split at h
    · rename_i v1 v2 v3 c hv
      simp only [Bool.and_eq_true, decide_eq_true_eq, bne_iff_ne] at h
      obtain ⟨⟨h1, h2⟩, h3⟩ := h
      subst h1
      exact ⟨v1, v2, v3, hv, h2, by simpa using h3⟩
    · cases h
def iniB (S : Src) : Bool := let d := iniD S.prog S.ini
  decide (d.at_ = (S.ini, some ("__init__" : Str))) && d.dfl.isEmpty && d.kwd.isEmpty && scB ["self", "value"] ["self", "value"] d.scope && vIni d.body && decide (d.scope.names.lookup ("ValueError" : Str) = some .globalImplicit) && parB d.params ["self", "value"]
theorem ini_all : iniB src = true := by decide +kernel
theorem src_okI : src.OkI := by
  have h := ini_all
  unfold iniB at h
  simp only [Bool.and_eq_true, decide_eq_true_eq, List.isEmpty_iff] at h
  obtain ⟨⟨⟨⟨⟨⟨h1, h2⟩, h3⟩, h4⟩, h5⟩, h6⟩, h7⟩ := h
  exact ⟨h1, h2, h3, h4, h5, h6, parB_ok h7 (by simp)⟩
end K89
set_option Elab.async false
set_option linter.all false
set_option maxRecDepth 100000
set_option maxHeartbeats 4000000
namespace K89
open PySem PySem.Spec PyProof.Rows L2 LamX Py
theorem repL_ints {κ : Kt} {α : List Addr} {H : Hp} : ∀ ns : List Int, RepL κ α H (ns.map D.int) (ns.map V.int)
  | [] => RepL.nil
  | _ :: ns => RepL.cons mk_int (repL_ints ns)
/-- the call of the law -/
theorem law_run {w : World} {mg mb : Str → Option Value} {s1 : Shared} {K : PySem.W.Frag} {fa a : Addr} {vs : List Value} {ns : List Int}
    (c : He.SaysX [] src.fn src.ts src.lams src.modB w s1.heap K) (T : TopOk K mg mb (src.lams.map (He.cT K)) s1 a vs) (hmg : mg ("law" : Str) = some (.ref fa)) (hi : IntsAre vs ns) (hl : ns.length ≤ 63) :
    codeAny (model src.prog w) callerA (.call (.ref fa) ⟨[.ref a], []⟩) (fun r s' => r = .ok (.ret (.bool true)) ∧ OldK s1.heap s'.heap ∧ s'.os = s1.os ∧ AllBare s'.gens) s1 := by
  have m := c.more
  unfold Src.modB at m
  simp only [Bool.and_eq_true, decide_eq_true_eq] at m
  obtain ⟨⟨⟨⟨⟨⟨⟨⟨m1, m2⟩, m3⟩, m4⟩, m5⟩, m6⟩, m7⟩, m8⟩, m9⟩ := m
  have hlaw : src.p.nm.fnN 51 = ("law" : Str) := by decide +kernel
  have glo : mg ("law" : Str) = some (.ref (He.ga K "law")) := by
    have := He.glo_ok T.kin T.glob (List.all_eq_true.mp m7 _ (List.mem_map.mpr ⟨51, List.mem_range.mpr (by decide), rfl⟩))
    rw [hlaw] at this
    exact this
  have efa : fa = He.ga K "law" := by
    rw [hmg] at glo
    exact Value.ref.inj (Option.some.inj glo)
  subst efa
  obtain ⟨⟨d1, d2, d3, d4, d5⟩, hpar, A⟩ := def_facts (i := 51) (by omega)
  obtain ⟨fd, F⟩ := def_at c (d := defD src.prog (src.p.nm.fnN 51)) (List.mem_append_left _ (List.mem_map.mpr ⟨_, List.mem_map.mpr ⟨51, List.mem_range.mpr (by decide), rfl⟩, rfl⟩)) A.dfl A.kwd
  have hbd := FunD.bindsA (ps := src.ps 51) F hpar
  obtain ⟨oc, od, dV, kV, doc, pm, an, cdv, ct, osl, rfl, lk, hcd, _, _⟩ := F.ex
  rw [A.at_, hlaw] at lk
  have eps : src.ps 51 = [("script" : Str)] := by decide +kernel
  have d2' : (src.p.defs 51).ps = 1 := rfl
  rw [eps] at hbd d1 d2 d4
  refine T.call (ns := ns) (k := 3 * 70 + 2 + 3) (x := "script") (sp := spOf ⟨K, src.cls K, src.T K⟩ 1 ((src.p.defs 51).run (src.p.G 70))) (gd := true) (CX := L2.CX src.prog w) hi (Nat.le_trans hl (by decide)) ⟨rfl, by decide, by decide⟩ (fun base M TB => ?_) (fun s u => hbd s [u] rfl) ?_ (fun H e s' z => ?_)
  · have mk := modK_of (P := src.prog) (base := base) src_ok src_okI T.kin T.glob c (fun p hp => TB _ (List.mem_map.mpr ⟨p, hp, rfl⟩))
    exact fn_ok (ModK.all mk 70 ⟨true, false⟩) (ModK.all mk 70 ⟨false, false⟩) (F := src.p.defs 51) lk hcd (scB_ok d1) d2 d3 d4 d5 fun z => by cases z
  · refine ⟨[], [], [.con (ns.map D.int)], rfl, ⟨rfl, List.nodup_nil, fun n a o h _ => by simp at h, fun p hp => ?_⟩, RepL.cons ?_ RepL.nil, ?_⟩
    · obtain ⟨q, hq, rfl⟩ := List.mem_map.mp hp
      refine ⟨#[], ?_, ?_, fun pos cv h => ?_⟩
      · have hm : (He.cT K q).2 ∈ (src.lams.map (He.cT K)).map (·.2) := List.mem_map.mpr ⟨_, List.mem_map.mpr ⟨q, hq, rfl⟩, rfl⟩
        rcases top0_cases (K := K) (cs := src.lams.map (He.cT K)) (a := a) (vs := vs) (ns := ns) (He.cT K q).2 with ⟨h, _, _⟩ | ⟨_, _, h⟩ | ⟨_, h, _⟩
        · exact absurd (h ▸ hm) T.argNoTab
        · exact h
        · exact absurd hm h
      · first
          | trivial
          | exact True.intro
          | (unfold TriplesOk; trivial)
          | (intro x hx; cases hx)
          | simp [TriplesOk]
      · have h : codeAmong pos [] = some cv := h
        unfold codeAmong at h
        first
          | cases h
          | simp at h
    · simp only [Rep]
      exact ⟨a, ns.map V.int, rfl, T.sq hi (Nat.le_trans hl (by decide)), repL_ints ns⟩
    · have z := c51 (n := 71) (ns := ns) (S := []) (by omega)
      change wp (p.call 71 51 [.con (ns.map D.int)] []) _ _ at z
      rw [p.call_succ] at z
      change EndG _ _ _ _ ((p.defs 51).run (p.G 70) [.con (ns.map D.int)] []) _
      cases h : (p.defs 51).run (p.G 70) [.con (ns.map D.int)] [] with
      | ok d S =>
        rw [h] at z
        have z : d = .bl true := z
        subst z
        intro α' H' _ _ v hv
        exact rep_bl hv
      | exc x S => rw [h] at z; exact z.elim
      | bad => rw [h] at z; exact z.elim
  · obtain ⟨_, _, _, _, _, _, _, _, _, _, _, _, h⟩ := z
    exact h
/-- what is known at the call -/
theorem top_ok {w : World} {s₀ s1 : Shared} {mg mb : Str → Option Value} {K : PySem.W.Frag} {a : Addr} {vs : List Value} (KX : K.In s1.heap) (c : He.SaysX [] src.fn src.ts src.lams src.modB w s1.heap K)
    (G : PySem.W.Ground (PySem.W.view Rw.prog [91]) loose [] (PySem.W.XL (PySem.W.view Rw.prog [91]) []) w s₀ mg mb s1.heap) (hobj : s1.heap.get? a = some { cls := .type "list", data := .seq vs.toArray }) (hg : s1.gens = #[]) : TopOk K mg mb (src.lams.map (He.cT K)) s1 a vs := by
  refine ⟨KX, G.T.g, G.T.b, G.T.builtins, G.T.nolimit, hg, fun p hp => ?_, fun p hp => ?_, fun p hp => ?_, G.T.bmain, hobj⟩
  · obtain ⟨q, hq, rfl⟩ := List.mem_map.mp hp
    exact c.empty q hq
  · obtain ⟨q, hq, rfl⟩ := List.mem_map.mp hp
    exact c.out q hq
  · obtain ⟨q, hq, rfl⟩ := List.mem_map.mp hp
    exact PySem.W.codeHd_of_K KX (c.hd q hq)
end K89
open PySem PySem.W PySem.Calls PyProof.Rows
theorem PySem.Challenge.cw_howevergreat_k89_limits_of_parts_of_term_holds : PySem.Challenge.rw_howevergreat_k89_limits_of_parts_of_term.Holds := by
  w_on; o_law
  refine HandSHeadRun.head_any (r := OpenLaw.row PySem.Challenge.rw_howevergreat_k89_limits_of_parts_of_term) (q := view (OpenLaw.row PySem.Challenge.rw_howevergreat_k89_limits_of_parts_of_term).prog [91]) (H := K89.hk) (ob := K89.ob) (M := 6000) (loose := K89.loose) (d := HandSHeadRun.topDef (OpenLaw.row PySem.Challenge.rw_howevergreat_k89_limits_of_parts_of_term).prog 91) (kwd := []) K89.ob_eq
    (by kernel_rfl) (fun s => by kernel_rfl) K89.run (by kernel_rfl) (by kernel_rfl) (by kernel_rfl) (by rfl) (by first | assumption | decide +kernel) (by decide +kernel) ⟨rfl, rfl, rfl, rfl, rfl, by decide +kernel⟩ ?hw ?hc
  case hw => w_witness2
  case hc =>
    refine Att.attach_callB (l := PySem.Challenge.rw_howevergreat_k89_limits_of_parts_of_term) (n := 63) rfl (by kernel_rfl) fun w s₀ s₁ mg mb fa o pm cd doc a vs ns G Y ho hd hcd hmg hobj hints hlen hbits hg => ?_
    obtain ⟨K, KX, c⟩ := Y
    have e : (HandSHeadRun.topDef (OpenLaw.row PySem.Challenge.rw_howevergreat_k89_limits_of_parts_of_term).prog 91).name = ("law" : PySem.Str) := by kernel_rfl
    rw [e] at hmg
    exact K89.law_run c (K89.top_ok KX c G hobj hg) hmg hints hlen
