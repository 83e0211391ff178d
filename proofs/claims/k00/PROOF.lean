import PyProof.Rows.All
import Wide.All
import OpenK.AllK
import Wide.FinOn
import HandS.ForMost
import HandS.Exc
import HandS.ExcOwn
import HandS.TryOnly
import HandS.WordsExc
import HandS.Gcd
import HandS.Wide
import HandS.WideBits
import HandS.TupMul
import HandS.TupAny
import HandS.IsInst
import HandS.Style
import HandS.Deep
import HandS.Zip
import HandS.Lambda
import KE.GoesNew
import KE.GoesMore
import HandS.Text
import HandS.Dict
import HandS.Small
import KE.KExcSuper
import HandS.ExcInit
import HandS.RaiseMore
import HandS.ExcField
import HandS.ExcIs
import KE.KExcIs
import HandS.HeadHook2
import HandS.HeadHook4
import HandS.HeadWalk
import HandS.Head2
import KE.KStateDown
import HandS.Head0
import HandS.Head1
import PySem.Challenge.RW_taughtloss_k00_ratios_and_vectors
set_option Elab.async false
set_option linter.all false
set_option maxRecDepth 100000
set_option maxHeartbeats 0
set_option autoImplicit false
section
/-! The data layer: Python's values as trees, their representation in the abstract heap, judgements. -/
namespace TL
open PySem PySem.Spec PyProof.Rows L2
open LamX (Tabs TabS CodeO codeO_ne)

/-- data: trees; scr: the script; ref n: a mutable object of ours, by its number; drw: the dict of the draws; fn, cls: a def, a class of the module, by name; ty: a built-in type; clo i: the i-th lambda of the running def; exn: an exception, its class by name and its fields -/
inductive Tn where
  | non | bool | int | str | tuple | list | dict
  deriving DecidableEq
def Tn.name : Tn → String
  | .non => "NoneType" | .bool => "bool" | .int => "int" | .str => "str" | .tuple => "tuple" | .list => "list" | .dict => "dict"
inductive D where
  | non | bl (b : Bool) | int (i : Int) | str (x : Str) | tup (xs : List D) | lst (xs : List D)
  | dct (kvs : List (Key × D))
  | scr (ns : List Int) | ref (n : Nat) | drw | drg | fn (x : Str) | ty (t : Tn) | clo (i : Nat) | exn (c : Str) (fs : List (Str × D))

/-- what a mutable object holds -/
inductive MO where
  | lst (xs : List D) | dct (kvs : List (Key × D)) | ins (c : Str) (fs : List (Str × D))

/-- the draws' state -/
structure Dr where
  great : List Int
  cells : List Int
  rest : Int
  turn : Int

structure MS where
  objs : List MO
  dr : Option Dr

inductive Res (α : Type) where
  | ok (a : α) (m : MS)
  | raise (c : Str) (fs : List (Str × D)) (m : MS)
  | stuck

abbrev M (α : Type) := MS → Res α
@[reducible] def M.pure {α : Type} (a : α) : M α := fun m => .ok a m
@[reducible] def M.bind {α β : Type} (x : M α) (f : α → M β) : M β := fun m => match x m with
  | .ok a m' => f a m'
  | .raise c fs m' => .raise c fs m'
  | .stuck => .stuck
def M.fail {α : Type} : M α := fun _ => .stuck
instance : Monad M where
  pure := M.pure
  bind := M.bind
theorem bind_ok {α β : Type} {x : M α} {f : α → M β} {m m' : MS} {a : α} (h : x m = .ok a m') : (x >>= f) m = f a m' := by
  show M.bind x f m = _
  unfold M.bind
  rw [h]
theorem pure_def {α : Type} (a : α) (m : MS) : (pure a : M α) m = .ok a m := rfl
@[simp] theorem bind_pure' {α β : Type} (a : α) (f : α → M β) : ((pure a : M α) >>= f) = f a := rfl
theorem bind_assoc' {α β γ : Type} (x : M α) (f : α → M β) (g : β → M γ) : ((x >>= f) >>= g) = (x >>= fun a => f a >>= g) := by
  funext m
  show M.bind (M.bind x f) g m = M.bind x (fun a => M.bind (f a) g) m
  unfold M.bind
  cases x m <;> rfl

/-! ### representation -/
/-- where the mutable objects stand -/
structure Sto where
  refs : List Addr
  drw : Option (Addr × Addr × Addr)
  tmp : List Addr
def Sto.drs (S : Sto) : List Addr := match S.drw with | some (a, g, _) => [a, g] | none => []
def Sto.rest (S : Sto) : List Addr := S.drs ++ S.tmp
def Sto.mut (S : Sto) : List Addr := S.refs ++ S.rest

/-- what is fixed: the written part, the module's names, the running def's lambdas, how an exception's object is tracked -/
structure RC where
  K : PySem.W.Frag
  mg : Str → Option Value
  clo : Nat → Addr → Addr → Option HO
  cq : Str
  exo : Addr → Option Addr → Addr → HO
  T : List (Addr × Str)

def LstAt (S : Sto) (H : Hp) (a : Addr) (vs : List V) : Prop := H a = some (.lst vs) ∧ a ∉ S.mut
def TupAt (R : RC) (S : Sto) (H : Hp) (a : Addr) (vs : List V) : Prop := (H a = some (.tup vs) ∧ a ∉ S.mut) ∨
  ∃ (o : Obj) (its : Array Value) (n : Nat), R.K.lookup a = some o ∧ o.cls = .type "tuple" ∧ o.data = .seq its n ∧ its.size ≤ sizeLine ∧ Vals vs its.toList
theorem TupAt.sq {R : RC} {S : Sto} {H : Hp} {a : Addr} {vs : List V} (h : TupAt R S H a vs) : SqT R.K H a vs := h.imp (fun z => .inl z.1) id
theorem LstAt.sq {R : RC} {S : Sto} {H : Hp} {a : Addr} {vs : List V} (h : LstAt S H a vs) : SqL R.K H a vs := .inl (.inl h.1)

mutual
inductive Rep (R : RC) (S : Sto) (H : Hp) : V → D → Prop
  | non : Rep R S H .non .non
  | bl (b : Bool) : Rep R S H (.bl b) (.bl b)
  | int (i : Int) : Rep R S H (.int i) (.int i)
  | str (x : Str) : Rep R S H (.str x) (.str x)
  | tup {a : Addr} {vs : List V} {ds : List D} : TupAt R S H a vs → RepAll R S H vs ds → Rep R S H (.ref a) (.tup ds)
  | lst {a : Addr} {vs : List V} {ds : List D} : LstAt S H a vs → RepAll R S H vs ds → Rep R S H (.ref a) (.lst ds)
  | dct {a : Addr} {ks : List Key} {vs : List V} {ds : List D} : Rd H a (.dK (ks.zip vs)) → a ∉ S.mut → ks.length = vs.length → RepAll R S H vs ds → Rep R S H (.ref a) (.dct (ks.zip ds))
  | scr {a : Addr} {ns : List Int} {o : Obj} : H a = some (.frz o (.lst (ns.map V.int))) → a ∉ S.mut → Rep R S H (.ref a) (.scr ns)
  | ref {n : Nat} {a : Addr} : S.refs[n]? = some a → Rep R S H (.ref a) (.ref n)
  | drw {a g c : Addr} : S.drw = some (a, g, c) → Rep R S H (.ref a) .drw
  | drg {a g c : Addr} : S.drw = some (a, g, c) → Rep R S H (.ref g) .drg
  | fn {x : Str} {a : Addr} : R.mg x = some (.ref a) → Rep R S H (.ref a) (.fn x)
  | ty (t : Tn) : Rep R S H (.ty t.name) (.ty t)
  | clo {i : Nat} {a c : Addr} {o : HO} : R.clo i a c = some o → H a = some o → a ∉ S.mut → H c = some (CodeO c R.cq) → c ∉ S.mut → Rep R S H (.ref a) (.clo i)
  | exn {a C : Addr} {c : Str} : R.mg c = some (.ref C) → H a = some (R.exo C none a) → a ∉ S.mut → Rep R S H (.ref a) (.exn c [])
  | exnd {a C dx : Addr} {c f : Str} {v : V} {d : D} : R.mg c = some (.ref C) → H a = some (R.exo C (some dx) a) → a ∉ S.mut → H dx = some (.xd [(f, v)]) → dx ∉ S.mut → Rep R S H v d → Rep R S H (.ref a) (.exn c [(f, d)])
inductive RepAll (R : RC) (S : Sto) (H : Hp) : List V → List D → Prop
  | nil : RepAll R S H [] []
  | cons {v : V} {d : D} {vs : List V} {ds : List D} : Rep R S H v d → RepAll R S H vs ds → RepAll R S H (v :: vs) (d :: ds)
end

def MRep (R : RC) (S : Sto) (H : Hp) (a : Addr) : MO → Prop
  | .lst xs => ∃ vs, H a = some (.lst vs) ∧ RepAll R S H vs xs
  | .dct kvs => ∃ vs : List V, H a = some (.dK ((kvs.map (·.1)).zip vs)) ∧ RepAll R S H vs (kvs.map (·.2))
  | .ins c fs => ∃ (C dx : Addr) (vs : List V), R.mg c = some (.ref C) ∧ H a = some (.ins C dx ((fs.map (·.1)).zip vs)) ∧ RepAll R S H vs (fs.map (·.2))

def DrRep (S : Sto) (H : Hp) : Option Dr → Prop
  | none => S.drw = none
  | some d => ∃ a g c, S.drw = some (a, g, c) ∧
      H a = some (.dK [(.inr "great", .ref g), (.inr "cells", .ref c), (.inr "rest", .int d.rest), (.inr "turn", .int d.turn)]) ∧
      H g = some (.lst (d.great.map V.int)) ∧ LstAt S H c (d.cells.map V.int)

structure HR (R : RC) (S : Sto) (H : Hp) (m : MS) : Prop where
  nd : S.mut.Nodup
  len : S.refs.length = m.objs.length
  obj : ∀ (n : Nat) (a : Addr) (o : MO), S.refs[n]? = some a → m.objs[n]? = some o → MRep R S H a o
  dr : DrRep S H m.dr
  tm : ∀ a ∈ S.tmp, ∃ vs, H a = some (.lst vs)
  tb : Tabs R.T H

/-- what may have changed -/
structure Ext0 (S : Sto) (H : Hp) (S' : Sto) (H' : Hp) : Prop where
  refs : ∃ more, S'.refs = S.refs ++ more
  drw : ∀ p, S.drw = some p → S'.drw = some p
  new : ∀ a, a ∈ S'.mut → a ∈ S.mut ∨ H a = none
  keep : ∀ b o, H b = some o → b ∉ S.mut → (∀ ps, o ≠ .tbl ps) → H' b = some o
  there : ∀ b o, H b = some o → ∃ o', H' b = some o'
/-- .. the lists that comprehensions are making are as they were -/
structure Ext (S : Sto) (H : Hp) (S' : Sto) (H' : Hp) : Prop extends Ext0 S H S' H' where
  tmp : S'.tmp = S.tmp
  tk : ∀ a ∈ S.tmp, H' a = H a

section
variable {R : RC} {S S' S2 : Sto} {H H' H2 : Hp}
theorem Ext0.refl (S : Sto) (H : Hp) : Ext0 S H S H := ⟨⟨[], by simp⟩, fun _ h => h, fun _ h => .inl h, fun _ _ h _ _ => h, fun _ o h => ⟨o, h⟩⟩
theorem Ext.refl (S : Sto) (H : Hp) : Ext S H S H := ⟨Ext0.refl S H, rfl, fun _ _ => rfl⟩
theorem Ext0.nmut {b : Addr} {o : HO} (e : Ext0 S H S' H') (h : H b = some o) (n : b ∉ S.mut) : b ∉ S'.mut := fun z => by
  rcases e.new b z with z | z
  · exact n z
  · rw [h] at z; cases z
theorem Ext0.trans (e : Ext0 S H S' H') (f : Ext0 S' H' S2 H2) : Ext0 S H S2 H2 := by
  refine ⟨?_, fun p h => f.drw p (e.drw p h), fun a h => ?_, fun b o h n t => f.keep b o (e.keep b o h n t) (e.nmut h n) t, fun b o h => ?_⟩
  · obtain ⟨m1, e1⟩ := e.refs
    obtain ⟨m2, e2⟩ := f.refs
    exact ⟨m1 ++ m2, by rw [e2, e1, List.append_assoc]⟩
  · rcases f.new a h with z | z
    · exact e.new a z
    · right
      cases q : H a with
      | none => rfl
      | some o =>
        obtain ⟨o', h'⟩ := e.there a o q
        rw [h'] at z; cases z
  · obtain ⟨o', h'⟩ := e.there b o h
    exact f.there b o' h'
theorem Ext.trans (e : Ext S H S' H') (f : Ext S' H' S2 H2) : Ext S H S2 H2 := ⟨e.toExt0.trans f.toExt0, f.tmp.trans e.tmp, fun a h => (f.tk a (by rw [e.tmp]; exact h)).trans (e.tk a h)⟩
theorem Ext0.rd {b : Addr} {u : HO} (e : Ext0 S H S' H') (h : Rd H b u) (n : b ∉ S.mut) (t : ∀ ps, u ≠ .tbl ps) : Rd H' b u ∧ b ∉ S'.mut := by
  rcases h with h | ⟨o, h⟩
  · exact ⟨.inl (e.keep b u h n t), e.nmut h n⟩
  · exact ⟨.inr ⟨o, e.keep b _ h n (fun ps z => by cases z)⟩, e.nmut h n⟩
theorem LstAt.ext {a : Addr} {vs : List V} (e : Ext0 S H S' H') (h : LstAt S H a vs) : LstAt S' H' a vs := ⟨e.keep _ _ h.1 h.2 (fun _ z => by cases z), e.nmut h.1 h.2⟩
theorem TupAt.ext {a : Addr} {vs : List V} (e : Ext0 S H S' H') (h : TupAt R S H a vs) : TupAt R S' H' a vs := by
  rcases h with h | h
  · exact .inl ⟨e.keep _ _ h.1 h.2 (fun _ z => by cases z), e.nmut h.1 h.2⟩
  · exact .inr h
theorem ref_ext {n : Nat} {a : Addr} (e : Ext0 S H S' H') (h : S.refs[n]? = some a) : S'.refs[n]? = some a := by
  obtain ⟨m, q⟩ := e.refs
  rw [q, List.getElem?_append_left (List.getElem?_eq_some_iff.mp h).1]
  exact h
end

/-- a lambda's object is no table; nor an exception's -/
structure RC.Ok (R : RC) : Prop where
  clo : ∀ i a c o, R.clo i a c = some o → ∀ ps, o ≠ .tbl ps
  exo : ∀ C d a ps, R.exo C d a ≠ .tbl ps

section
variable {R : RC} {S S' : Sto} {H H' : Hp}
mutual
theorem Rep.ext0 (ro : R.Ok) (e : Ext0 S H S' H') : ∀ {v : V} {d : D}, Rep R S H v d → Rep R S' H' v d
  | _, _, .non => .non
  | _, _, .bl b => .bl b
  | _, _, .int i => .int i
  | _, _, .str x => .str x
  | _, _, .tup h r => .tup (h.ext e) (RepAll.ext0 ro e r)
  | _, _, .lst h r => .lst (h.ext e) (RepAll.ext0 ro e r)
  | _, _, .dct h n l r => .dct (e.rd h n (fun _ z => by cases z)).1 (e.rd h n (fun _ z => by cases z)).2 l (RepAll.ext0 ro e r)
  | _, _, .scr h n => .scr (e.keep _ _ h n (fun _ z => by cases z)) (e.nmut h n)
  | _, _, .ref h => .ref (ref_ext e h)
  | _, _, .drw h => .drw (e.drw _ h)
  | _, _, .drg h => .drg (e.drw _ h)
  | _, _, .fn h => .fn h
  | _, _, .ty n => .ty n
  | _, _, .clo h k n q m => .clo h (e.keep _ _ k n (ro.clo _ _ _ _ h)) (e.nmut k n) (e.keep _ _ q m codeO_ne) (e.nmut q m)
  | _, _, .exn h k n => .exn h (e.keep _ _ k n (ro.exo _ _ _)) (e.nmut k n)
  | _, _, .exnd h k n q m r => .exnd h (e.keep _ _ k n (ro.exo _ _ _)) (e.nmut k n) (e.keep _ _ q m (fun _ z => by cases z)) (e.nmut q m) (Rep.ext0 ro e r)
theorem RepAll.ext0 (ro : R.Ok) (e : Ext0 S H S' H') : ∀ {vs : List V} {ds : List D}, RepAll R S H vs ds → RepAll R S' H' vs ds
  | _, _, .nil => .nil
  | _, _, .cons h r => .cons (Rep.ext0 ro e h) (RepAll.ext0 ro e r)
end
theorem Rep.ext (ro : R.Ok) (e : Ext S H S' H') {v : V} {d : D} (h : Rep R S H v d) : Rep R S' H' v d := h.ext0 ro e.toExt0
theorem RepAll.ext (ro : R.Ok) (e : Ext S H S' H') {vs : List V} {ds : List D} (h : RepAll R S H vs ds) : RepAll R S' H' vs ds := h.ext0 ro e.toExt0
theorem RepAll.length : ∀ {vs : List V} {ds : List D}, RepAll R S H vs ds → vs.length = ds.length
  | _, _, .nil => rfl
  | _, _, .cons _ r => by rw [List.length_cons, List.length_cons, RepAll.length r]
theorem RepAll.get : ∀ {vs : List V} {ds : List D} {i : Nat} {d : D}, RepAll R S H vs ds → ds[i]? = some d → ∃ v, vs[i]? = some v ∧ Rep R S H v d
  | _, _, _, _, .nil, e => by simp at e
  | _, _, 0, _, .cons h _, e => by simp at e; subst e; exact ⟨_, rfl, h⟩
  | _, _, i + 1, d, .cons _ t, e => by
    obtain ⟨v, h1, h2⟩ := RepAll.get (i := i) (d := d) t (by simpa using e)
    exact ⟨v, by simpa using h1, h2⟩
theorem RepAll.getV : ∀ {vs : List V} {ds : List D} {i : Nat} {v : V}, RepAll R S H vs ds → vs[i]? = some v → ∃ d, ds[i]? = some d ∧ Rep R S H v d
  | _, _, _, _, .nil, e => by simp at e
  | _, _, 0, _, .cons h _, e => by simp at e; subst e; exact ⟨_, rfl, h⟩
  | _, _, i + 1, d, .cons _ t, e => by
    obtain ⟨v, h1, h2⟩ := RepAll.getV (i := i) (v := d) t (by simpa using e)
    exact ⟨v, by simpa using h1, h2⟩
theorem RepAll.app : ∀ {vs ws : List V} {ds es : List D}, RepAll R S H vs ds → RepAll R S H ws es → RepAll R S H (vs ++ ws) (ds ++ es)
  | _, _, _, _, .nil, s => s
  | _, _, _, _, .cons h t, s => .cons h (t.app s)
theorem RepAll.set {v : V} {d : D} (h : Rep R S H v d) : ∀ {vs : List V} {ds : List D} (i : Nat), RepAll R S H vs ds → RepAll R S H (vs.set i v) (ds.set i d)
  | _, _, _, .nil => .nil
  | _, _, 0, .cons _ t => .cons h t
  | _, _, i + 1, .cons q t => .cons q (RepAll.set h i t)
theorem RepAll.take : ∀ {vs : List V} {ds : List D} (n : Nat), RepAll R S H vs ds → RepAll R S H (vs.take n) (ds.take n)
  | _, _, 0, _ => .nil
  | _, _, _ + 1, .nil => .nil
  | _, _, n + 1, .cons r t => .cons r (RepAll.take n t)
theorem RepAll.drop : ∀ {vs : List V} {ds : List D} (n : Nat), RepAll R S H vs ds → RepAll R S H (vs.drop n) (ds.drop n)
  | _, _, 0, r => r
  | _, _, _ + 1, .nil => .nil
  | _, _, n + 1, .cons _ t => RepAll.drop n t
theorem RepAll.ints : ∀ ns : List Int, RepAll R S H (ns.map V.int) (ns.map D.int)
  | [] => .nil
  | n :: ns => .cons (.int n) (RepAll.ints ns)
end

/-! ### the frame's slots -/
abbrev Env' := List (Option D)
structure ER (R : RC) (S : Sto) (H : Hp) (σ : L2.St) (ρ : Env') : Prop where
  len : σ.length = ρ.length
  at_ : ∀ (i : Nat) (d : D), ρ[i]? = some (some d) → ∃ v, σ[i]? = some (some v) ∧ Rep R S H v d
section
variable {R : RC} {S S' : Sto} {H H' : Hp} {σ : L2.St} {ρ : Env'}
theorem ER.ext0 (ro : R.Ok) (e : Ext0 S H S' H') (h : ER R S H σ ρ) : ER R S' H' σ ρ := ⟨h.len, fun i d q => by
  obtain ⟨v, h1, h2⟩ := h.at_ i d q
  exact ⟨v, h1, h2.ext0 ro e⟩⟩
theorem ER.ext (ro : R.Ok) (e : Ext S H S' H') (h : ER R S H σ ρ) : ER R S' H' σ ρ := h.ext0 ro e.toExt0
theorem ER.set {i : Nat} {v : V} {d : D} (h : ER R S H σ ρ) (r : Rep R S H v d) : ER R S H (σ.set i (some v)) (ρ.set i (some d)) := ⟨by simp [h.len], fun j e q => by
  by_cases hj : i = j
  · subst hj
    have hl : i < ρ.length := by
      have := (List.getElem?_eq_some_iff.mp q).1
      simpa using this
    rw [List.getElem?_set_self hl] at q
    cases q
    rw [List.getElem?_set_self (by rw [h.len]; exact hl)]
    exact ⟨v, rfl, r⟩
  · rw [List.getElem?_set_ne hj] at q ⊢
    exact h.at_ j e q⟩
theorem ER.unset {i : Nat} (h : ER R S H σ ρ) : ER R S H (σ.set i none) (ρ.set i none) := ⟨by simp [h.len], fun j e q => by
  by_cases hj : i = j
  · subst hj
    have hl : i < ρ.length := by
      have := (List.getElem?_eq_some_iff.mp q).1
      simpa using this
    rw [List.getElem?_set_self hl] at q
    cases q
  · rw [List.getElem?_set_ne hj] at q ⊢
    exact h.at_ j e q⟩
def wipeD (ρ : Env') : List Nat → Env'
  | [] => ρ
  | v :: vs => (wipeD ρ vs).set v none
theorem ER.wipe (h : ER R S H σ ρ) : ∀ vs, ER R S H (wipe σ vs) (wipeD ρ vs)
  | [] => h
  | v :: vs => (ER.wipe h vs).unset
end

/-! ### judgements -/
/-- what an exception is to a wish -/
def RoutX (R : RC) (S : Sto) (H : Hp) (E : XK) (c : Str) (fs : List (Str × D)) (m' : MS) : Prop :=
  ∀ H' S' C, Ext S H S' H' → HR R S' H' m' → R.mg c = some (.ref C) →
    (fs = [] → E (.ref C) none H') ∧ (∀ f d, fs = [(f, d)] → ∀ dx v, H' dx = some (.xd [(f, v)]) → dx ∉ S'.mut → Rep R S' H' v d → E (.ref C) (some dx) H')
/-- what an outcome must give: P of the value, the data's state, the heap and the store -/
def RoutG (R : RC) (S : Sto) (H : Hp) (E : XK) {α : Type} (P : α → MS → Hp → Sto → Prop) : Res α → Prop
  | .ok a m' => ∀ H' S', Ext S H S' H' → HR R S' H' m' → P a m' H' S'
  | .raise c fs m' => RoutX R S H E c fs m'
  | .stuck => False
def PV (R : RC) (Q : VK) : D → MS → Hp → Sto → Prop := fun d _ H' S' => ∀ v, Rep R S' H' v d → Q v H'
def PB (Q : Bool → Hp → Prop) : Bool → MS → Hp → Sto → Prop := fun b _ H' _ => Q b H'
def PVs (R : RC) (Q : List V → Hp → Prop) : List D → MS → Hp → Sto → Prop := fun ds _ H' S' => ∀ vs, RepAll R S' H' vs ds → Q vs H'
/-- a statement's end -/
inductive Fl where
  | next (ρ : Env')
  | ret (d : D)
  | brk (ρ : Env')
  | cont (ρ : Env')
def PF (R : RC) (Z : Ends) : Fl → MS → Hp → Sto → Prop := fun fl _ H' S' => match fl with
  | .next ρ' => ∀ σ', ER R S' H' σ' ρ' → Z.nx σ' H'
  | .ret d => ∀ v, Rep R S' H' v d → Z.rt v H'
  | .brk ρ' => ∀ σ', ER R S' H' σ' ρ' → Z.bk σ' H'
  | .cont ρ' => ∀ σ', ER R S' H' σ' ρ' → Z.ct σ' H'

abbrev FE := Env' → M D
abbrev FB := Env' → M Bool
abbrev FA := Env' → M (List D)
abbrev FS := Env' → M Fl

/-- the context's side: it fits R, takes E -/
structure CxR (X : Cx) (R : RC) (E : XK) : Prop where
  K : X.K = R.K
  mg : X.mg = R.mg
  ok : R.Ok
  tk : Takes X (fun c d _ H => E c d H)
  po : PassesOwn (model X.prog X.w) X.A X.env X.xe
  pyl : ∀ s : Shared, X.A.frames = some X.stack → s.heap.NoLimit → (∀ b o, X.base.get? b = some o → s.heap.get? b = some o) → PylongRoom (model X.prog X.w) X.A s
  un : X.A.units + 65 < cLine
  calm : X.calm = true
  nd : X.N.Nodup
/-- no exception at all -/
abbrev EF : XK := fun _ _ _ => False

structure DE (X : Cx) (R : RC) (E : XK) (e : Expr) (f : FE) : Prop where
  ex : ∃ t, PE X e t ∧ ∀ S σ H ρ m Q, HR R S H m → ER R S H σ ρ → RoutG R S H E (PV R Q) (f ρ m) → t σ H Q
structure DT (X : Cx) (R : RC) (E : XK) (e : Expr) (f : FB) : Prop where
  ex : ∃ t, PT X e t ∧ ∀ S σ H ρ m Q, HR R S H m → ER R S H σ ρ → RoutG R S H E (PB Q) (f ρ m) → t σ H Q
structure DA (X : Cx) (R : RC) (E : XK) (es : List Expr) (f : FA) : Prop where
  ex : ∃ t, PA X es t ∧ ∀ S σ H ρ m Q, HR R S H m → ER R S H σ ρ → RoutG R S H E (PVs R Q) (f ρ m) → t σ H Q
structure DS (X : Cx) (R : RC) (E : XK) (st : Stmt) (f : FS) : Prop where
  ex : ∃ t, PS X st t ∧ ∀ S σ H ρ m Z, HR R S H m → ER R S H σ ρ → RoutG R S H E (PF R Z) (f ρ m) → t Z σ H
structure DSs (X : Cx) (R : RC) (E : XK) (st : List Stmt) (f : FS) : Prop where
  ex : ∃ t, PSs X st t ∧ ∀ S σ H ρ m Z, HR R S H m → ER R S H σ ρ → RoutG R S H E (PF R Z) (f ρ m) → t Z σ H

section
variable {R : RC} {S S' : Sto} {H H' : Hp} {E : XK} {α β : Type} {P : α → MS → Hp → Sto → Prop} {PP : β → MS → Hp → Sto → Prop} {m m' : MS}
theorem RoutX.ext {c : Str} {fs : List (Str × D)} (e : Ext S H S' H') (h : RoutX R S H E c fs m') : RoutX R S' H' E c fs m' :=
  fun H2 S2 C e2 r g => h H2 S2 C (e.trans e2) r g
theorem RoutG.ext {r : Res α} (e : Ext S H S' H') (h : RoutG R S H E P r) : RoutG R S' H' E P r := by
  cases r with
  | ok a m1 => exact fun H2 S2 e2 r => h H2 S2 (e.trans e2) r
  | raise c fs m1 => exact RoutX.ext (m' := m1) e h
  | stuck => exact h
/-- here and now -/
theorem RoutG.now {a : α} (h : RoutG R S H E P (.ok a m)) (hr : HR R S H m) : P a m H S := h H S (Ext.refl S H) hr
/-- the first part of a bind -/
theorem RoutG.step {x : M α} {k : α → M β} (h : RoutG R S H E PP (M.bind x k m)) (f : ∀ a m1 H1 S1, Ext S H S1 H1 → HR R S1 H1 m1 → RoutG R S1 H1 E PP (k a m1) → P a m1 H1 S1) : RoutG R S H E P (x m) := by
  unfold M.bind at h
  revert h
  cases x m with
  | ok a m1 => exact fun h H1 S1 e1 r1 => f a m1 H1 S1 e1 r1 (RoutG.ext e1 h)
  | raise c fs m1 => exact fun h => h
  | stuck => exact fun h => h
theorem RoutG.mono {P' : α → MS → Hp → Sto → Prop} {r : Res α} (h : RoutG R S H E P r) (f : ∀ a m1 H1 S1, Ext S H S1 H1 → HR R S1 H1 m1 → P a m1 H1 S1 → P' a m1 H1 S1) : RoutG R S H E P' r := by
  cases r with
  | ok a m1 => exact fun H1 S1 e1 r1 => f a m1 H1 S1 e1 r1 (h H1 S1 e1 r1)
  | raise c fs m1 => exact h
  | stuck => exact h
end

/-! ### new objects -/
/-- tables and code objects stay: the tables of code objects too -/
theorem tabs_stay {T : List (Addr × Str)} {H H' : Hp} (t : Tabs T H) (e : ∀ b o, H b = some o → ((∃ ps, o = .tbl ps) ∨ ∃ c q, o = CodeO c q) → H' b = some o) : Tabs T H' := fun p hp => by
  obtain ⟨ps, h1, h2, h3⟩ := t p hp
  refine ⟨ps, e _ _ h1 (.inl ⟨ps, rfl⟩), h2, fun pos cv hc => ?_⟩
  obtain ⟨c, e1, e2⟩ := h3 pos cv hc
  exact ⟨c, e1, e _ _ e2 (.inr ⟨_, _, rfl⟩)⟩
theorem tabs_new {T : List (Addr × Str)} {H : Hp} {p : Addr} {o : HO} (t : Tabs T H) (hp : H p = none) : Tabs T (upd H p o) := t.ext fun b u h => by rw [upd_ne (ne_of_none h hp)]; exact h
/-- another kind of object is written -/
theorem tabs_put {T : List (Addr × Str)} {H : Hp} {a : Addr} {o u : HO} (t : Tabs T H) (h : H a = some o) (nt : (∀ ps, o ≠ .tbl ps) ∧ ∀ c q, o ≠ CodeO c q) : Tabs T (upd H a u) := tabs_stay t fun b v hb hk => by
  rw [upd_ne (a := a) (b := b) fun z => ?_]
  · exact hb
  · rw [z, h] at hb
    cases hb
    rcases hk with ⟨ps, e⟩ | ⟨c, q, e⟩
    · exact nt.1 ps e
    · exact nt.2 c q e
section
variable {R : RC} {S : Sto} {H : Hp} {m : MS} {p : Addr} {o : HO}
/-- no table, no code object -/
def NT (o : HO) : Prop := (∀ ps, o ≠ .tbl ps) ∧ ∀ c q, o ≠ CodeO c q
theorem nt_lst (xs : List V) : NT (.lst xs) := ⟨(fun _ z => by cases z), (fun _ _ z => by unfold CodeO at z; cases z)⟩
theorem nt_dK (xs : List (Key × V)) : NT (.dK xs) := ⟨(fun _ z => by cases z), (fun _ _ z => by unfold CodeO at z; cases z)⟩
theorem nt_ins (a b : Addr) (xs : List (Str × V)) : NT (.ins a b xs) := ⟨(fun _ z => by cases z), (fun _ _ z => by unfold CodeO at z; cases z)⟩
theorem HR.tracked (hr : HR R S H m) {a : Addr} (h : a ∈ S.mut) : ∃ o, H a = some o ∧ NT o := by
  unfold Sto.mut Sto.rest at h
  rcases List.mem_append.mp h with h | h
  · obtain ⟨n, hn⟩ := List.mem_iff_getElem?.mp h
    have hlt : n < m.objs.length := by rw [← hr.len]; exact (List.getElem?_eq_some_iff.mp hn).1
    have q := hr.obj n a _ hn (List.getElem?_eq_getElem hlt)
    revert q
    cases m.objs[n] with
    | lst xs => exact fun ⟨vs, h, _⟩ => ⟨_, h, nt_lst _⟩
    | dct kvs => exact fun ⟨vs, h, _⟩ => ⟨_, h, nt_dK _⟩
    | ins c fs => exact fun ⟨_, _, _, _, h, _⟩ => ⟨_, h, nt_ins _ _ _⟩
  rcases List.mem_append.mp h with h | h
  · have q := hr.dr
    unfold Sto.drs at h
    cases hd : m.dr with
    | none =>
      rw [hd] at q
      have q : S.drw = none := q
      rw [q] at h
      cases h
    | some d =>
      rw [hd] at q
      obtain ⟨a', g, c, e, h1, h2, _⟩ := q
      rw [e] at h
      rcases List.mem_cons.mp h with z | z
      · rw [z]; exact ⟨_, h1, nt_dK _⟩
      · rcases List.mem_cons.mp z with z | z
        · rw [z]; exact ⟨_, h2, nt_lst _⟩
        · cases z
  · obtain ⟨vs, q⟩ := hr.tm a h
    exact ⟨_, q, nt_lst _⟩
theorem HR.fresh (hr : HR R S H m) (hp : H p = none) : p ∉ S.mut := fun z => by
  obtain ⟨o, e, _⟩ := hr.tracked z
  rw [hp] at e
  cases e
theorem tmp_mut {a : Addr} (h : a ∈ S.tmp) : a ∈ S.mut := List.mem_append_right _ (List.mem_append_right _ h)
theorem drs_mut {a : Addr} (h : a ∈ S.drs) : a ∈ S.mut := List.mem_append_right _ (List.mem_append_left _ h)
theorem ref_mut {n : Nat} {a : Addr} (h : S.refs[n]? = some a) : a ∈ S.mut := List.mem_append_left _ (List.mem_of_getElem? h)
theorem Ext.newObj (hr : HR R S H m) (hp : H p = none) : Ext S H S (upd H p o) := ⟨⟨⟨[], by simp⟩, fun _ h => h, fun _ h => .inl h, fun b u h _ _ => by rw [upd_ne (ne_of_none h hp)]; exact h,
  fun b u h => ⟨u, by rw [upd_ne (ne_of_none h hp)]; exact h⟩⟩, rfl, fun a h => upd_ne fun z => hr.fresh hp (z ▸ tmp_mut h)⟩
theorem MRep.ext0 {S' : Sto} {H' : Hp} {a : Addr} {u : MO} (ro : R.Ok) (e : Ext0 S H S' H') (k : H' a = H a) (h : MRep R S H a u) : MRep R S' H' a u := by
  cases u with
  | lst xs => obtain ⟨vs, h1, h2⟩ := h; exact ⟨vs, by rw [k]; exact h1, h2.ext0 ro e⟩
  | dct kvs => obtain ⟨vs, h1, h2⟩ := h; exact ⟨vs, by rw [k]; exact h1, h2.ext0 ro e⟩
  | ins c fs => obtain ⟨C, dx, vs, h0, h1, h2⟩ := h; exact ⟨C, dx, vs, h0, by rw [k]; exact h1, h2.ext0 ro e⟩
theorem DrRep.ext0 {S' : Sto} {H' : Hp} {d : Option Dr} (e : Ext0 S H S' H') (hs : S'.drw = S.drw) (k : ∀ a ∈ S.drs, H' a = H a) (h : DrRep S H d) : DrRep S' H' d := by
  cases d with
  | none => exact hs.trans h
  | some d =>
    obtain ⟨a, g, c, e0, h1, h2, h3⟩ := h
    have hm : S.drs = [a, g] := by unfold Sto.drs; rw [e0]
    exact ⟨a, g, c, hs.trans e0, (k a (by rw [hm]; simp)).trans h1, (k g (by rw [hm]; simp)).trans h2, h3.ext e⟩
/-- a new object that isn't ours to change -/
theorem HR.newObj (ro : R.Ok) (hr : HR R S H m) (hp : H p = none) : HR R S (upd H p o) m := by
  have k : ∀ a ∈ S.mut, upd H p o a = H a := fun a h => upd_ne fun z => hr.fresh hp (z ▸ h)
  have ex := (Ext.newObj (o := o) hr hp).toExt0
  exact ⟨hr.nd, hr.len, fun n a u h1 h2 => (hr.obj n a u h1 h2).ext0 ro ex (k a (ref_mut h1)), hr.dr.ext0 ex rfl fun a h => k a (drs_mut h), fun a h => by rw [k a (tmp_mut h)]; exact hr.tm a h, tabs_new hr.tb hp⟩
/-- a new object of ours -/
def Sto.add (S : Sto) (p : Addr) : Sto := { S with refs := S.refs ++ [p] }
theorem mem_add {a : Addr} : a ∈ (S.add p).mut ↔ a ∈ S.mut ∨ a = p := by
  unfold Sto.mut Sto.add Sto.rest Sto.drs
  simp only [List.mem_append, List.mem_singleton]
  constructor
  · rintro ((h | h) | h)
    · exact .inl (.inl h)
    · exact .inr h
    · exact .inl (.inr h)
  · rintro ((h | h) | h)
    · exact .inl (.inl h)
    · exact .inr h
    · exact .inl (.inr h)
theorem Ext.newRef (hr : HR R S H m) (hp : H p = none) : Ext S H (S.add p) (upd H p o) := by
  have e := Ext.newObj (o := o) hr hp
  refine ⟨⟨⟨[p], rfl⟩, fun _ h => h, fun a h => ?_, e.keep, e.there⟩, rfl, e.tk⟩
  rcases mem_add.mp h with h | h
  · exact .inl h
  · exact .inr (h ▸ hp)
theorem HR.newRef {u : MO} (ro : R.Ok) (hr : HR R S H m) (hp : H p = none) (hu : MRep R (S.add p) (upd H p o) p u) : HR R (S.add p) (upd H p o) { m with objs := m.objs ++ [u] } := by
  have hn := hr.fresh hp
  have k : ∀ a ∈ S.mut, upd H p o a = H a := fun a h => upd_ne fun z => hn (z ▸ h)
  have ex := (Ext.newRef (o := o) hr hp).toExt0
  refine ⟨?_, by simp [Sto.add, hr.len], fun n a u' h1 h2 => ?_, hr.dr.ext0 ex rfl fun a h => k a (drs_mut h), fun a h => by rw [k a (tmp_mut h)]; exact hr.tm a h, tabs_new hr.tb hp⟩
  · have h1 : (S.add p).mut = S.refs ++ ([p] ++ S.rest) := by unfold Sto.mut Sto.add Sto.rest Sto.drs; simp
    have h0 := hr.nd
    unfold Sto.mut at h0 hn
    rw [h1, List.nodup_append] at *
    simp only [List.mem_append, not_or] at hn
    refine ⟨h0.1, List.nodup_append.mpr ⟨List.nodup_cons.mpr ⟨by simp, List.nodup_nil⟩, h0.2.1, fun a ha b hb => ?_⟩, fun a ha b hb => ?_⟩
    · rw [List.mem_singleton.mp ha]
      exact fun z => hn.2 (z ▸ hb)
    · rcases List.mem_append.mp hb with hb | hb
      · rw [List.mem_singleton.mp hb]
        exact fun z => hn.1 (z ▸ ha)
      · exact h0.2.2 a ha b hb
  · by_cases hlt : n < S.refs.length
    · have h1' : S.refs[n]? = some a := by
        have : (S.refs ++ [p])[n]? = some a := h1
        rwa [List.getElem?_append_left hlt] at this
      have h2' : m.objs[n]? = some u' := by
        have : (m.objs ++ [u])[n]? = some u' := h2
        rwa [List.getElem?_append_left (by rw [← hr.len]; exact hlt)] at this
      exact (hr.obj n a u' h1' h2').ext0 ro ex (k a (ref_mut h1'))
    · have hl : n = S.refs.length := by
        have h1l := (List.getElem?_eq_some_iff.mp h1).1
        have : n < (S.refs ++ [p]).length := h1l
        simp at this
        omega
      have h1' : (S.refs ++ [p])[n]? = some a := h1
      have h2' : (m.objs ++ [u])[n]? = some u' := h2
      rw [hl, List.getElem?_concat_length] at h1'
      rw [hl, hr.len, List.getElem?_concat_length] at h2'
      cases h1'
      cases h2'
      exact hu
/-- an object of ours is written -/
theorem nd_split {n : Nat} {a : Addr} (hr : HR R S H m) (h : S.refs[n]? = some a) : a ∉ S.rest ∧ ∀ k b, S.refs[k]? = some b → b = a → k = n := by
  have nd := hr.nd
  unfold Sto.mut at nd
  rw [List.nodup_append] at nd
  refine ⟨fun z => nd.2.2 a (List.mem_of_getElem? h) a z rfl, fun k b hk e => ?_⟩
  subst e
  obtain ⟨h1, e1⟩ := List.getElem?_eq_some_iff.mp hk
  obtain ⟨h2, e2⟩ := List.getElem?_eq_some_iff.mp h
  exact (List.getElem_inj nd.1).mp (e1.trans e2.symm)
theorem Ext.put {n : Nat} {a : Addr} (hr : HR R S H m) (h : S.refs[n]? = some a) : Ext S H S (upd H a o) := by
  have hm := ref_mut h
  refine ⟨⟨⟨[], by simp⟩, fun _ h => h, fun _ h => .inl h, fun b u h n _ => by rw [upd_ne (a := a) (b := b) (fun z => n (by rw [z]; exact hm))]; exact h, fun b u h => ?_⟩, rfl, fun b hb => upd_ne fun z => (nd_split hr h).1 (z ▸ List.mem_append_right _ hb)⟩
  by_cases hb : b = a
  · rw [hb, upd_same]; exact ⟨o, rfl⟩
  · rw [upd_ne hb]; exact ⟨u, h⟩
theorem HR.put {n : Nat} {a : Addr} {u : MO} (ro : R.Ok) (hr : HR R S H m) (h : S.refs[n]? = some a) (hu : MRep R S (upd H a o) a u) : HR R S (upd H a o) { m with objs := m.objs.set n u } := by
  have ex := (Ext.put (o := o) hr h).toExt0
  obtain ⟨s1, s2⟩ := nd_split hr h
  have hlt : n < m.objs.length := by rw [← hr.len]; exact (List.getElem?_eq_some_iff.mp h).1
  refine ⟨hr.nd, by simp [hr.len], fun k b u' h1 h2 => ?_, hr.dr.ext0 ex rfl fun b hb => upd_ne fun z => s1 (z ▸ List.mem_append_left _ hb), fun b hb => by rw [upd_ne (a := a) (b := b) (fun z => s1 (by rw [← z]; exact List.mem_append_right _ hb))]; exact hr.tm b hb, (fun ⟨o', h1, h2⟩ => tabs_put hr.tb h1 h2) (hr.tracked (ref_mut h))⟩
  by_cases hk : k = n
  · subst hk
    have h2' : (m.objs.set k u)[k]? = some u' := h2
    rw [List.getElem?_set_self hlt] at h2'
    cases h2'
    rw [h] at h1
    cases h1
    exact hu
  · have h2' : (m.objs.set n u)[k]? = some u' := h2
    rw [List.getElem?_set_ne (Ne.symm hk)] at h2'
    exact (hr.obj k b u' h1 h2').ext0 ro ex (upd_ne fun z => hk (s2 k b h1 z))
end
end TL
end
section
/-! The data layer: expressions. -/
namespace TL
open PySem PySem.Spec PyProof.Rows L2

def look : Env' → Nat → Option D
  | [], _ => none
  | d :: _, 0 => d
  | _ :: r, n + 1 => look r n
theorem look_some : ∀ {ρ : Env'} {i : Nat} {d : D}, look ρ i = some d → ρ[i]? = some (some d)
  | [], _, _, h => by cases h
  | d :: _, 0, _, h => by simpa [look] using h
  | _ :: r, n + 1, _, h => by simpa using look_some (ρ := r) (i := n) h

section
variable {X : Cx} {R : RC} {E : XK}

/-! ### names, constants -/
def dVar (i : Nat) : FE := fun ρ m => match look ρ i with | some d => .ok d m | none => .stuck
def dC (d : D) : FE := fun _ m => .ok d m
theorem de_var {i : Nat} {x : Str} {pos : Pos} (hN : X.N[i]? = some x := by rfl) (hv : Vis X.env.scope x := by first | exact Or.inl rfl | exact Or.inr (Or.inl rfl) | exact Or.inr (Or.inr rfl)) (hd : (x == ("__debug__" : Str)) = false := by decide)
    (hcd : (x == ("__classdict__" : Str)) = false := by decide) : DE X R E (.Name x pos) (dVar i) := ⟨⟨tVar i, pe_var hN hv hd hcd, fun S σ H ρ m Q hr he h => by
  unfold dVar at h
  cases e : look ρ i with
  | none => rw [e] at h; exact h.elim
  | some d =>
    rw [e] at h
    obtain ⟨v, e1, r⟩ := he.at_ i d (look_some e)
    exact ⟨v, e1, h.now hr v r⟩⟩⟩
theorem de_int {i : Int} {j : Nat} {pos : Pos} : DE X R E (.Constant (.int i) j pos) (dC (.int i)) := ⟨⟨_, pe_int, fun _ _ _ _ _ _ hr _ h => h.now hr _ (.int i)⟩⟩
theorem de_bl {b : Bool} {j : Nat} {pos : Pos} : DE X R E (.Constant (.bool b) j pos) (dC (.bl b)) := ⟨⟨_, pe_bl, fun _ _ _ _ _ _ hr _ h => h.now hr _ (.bl b)⟩⟩
theorem de_non {j : Nat} {pos : Pos} : DE X R E (.Constant .none j pos) (dC .non) := ⟨⟨_, pe_non, fun _ _ _ _ _ _ hr _ h => h.now hr _ .non⟩⟩
theorem de_str {x : Str} {j : Nat} {pos : Pos} : DE X R E (.Constant (.str x) j pos) (dC (.str x)) := ⟨⟨_, pe_str, fun _ _ _ _ _ _ hr _ h => h.now hr _ (.str x)⟩⟩
/-- what a module's name holds, once for all -/
def Glo (R : RC) (x : Str) (d : D) : Prop := ∃ u v, R.mg x = some u ∧ RelV v u ∧ ∀ S H, Rep R S H v d
theorem de_gl {x : Str} {d : D} {pos : Pos} (c : CxR X R E) (hg : Gl X x) (h : Glo R x d) (hdb : (x == ("__debug__" : Str)) = false := by decide) : DE X R E (.Name x pos) (dC d) := by
  obtain ⟨u, v, h1, h2, h3⟩ := h
  exact ⟨⟨tC v, pe_glob hg (by rw [c.mg]; exact h1) h2 hdb, fun _ _ _ _ _ _ hr _ h => h.now hr _ (h3 _ _)⟩⟩
/-- a built-in type as a value -/
theorem de_ty {x : Str} {n : Tn} {pos : Pos} (hg : Gl X x) (hm : X.mg x = none) (hv : bootBuiltins x = some (.type n.name)) (hn : x ≠ "__name__" := by decide) (hdb : (x == ("__debug__" : Str)) = false := by decide) : DE X R E (.Name x pos) (dC (.ty n)) :=
  ⟨⟨tC (.ty n.name), pe_bltn hg hm hv rfl hn hdb, fun _ _ _ _ _ _ hr _ h => h.now hr _ (.ty n)⟩⟩

/-! ### operations on values -/
/-- a two-place operation does g -/
def OpD (X : Cx) (R : RC) (E : XK) (f : Value → Value → Sem Value) (g : D → D → M D) : Prop :=
  ∃ r : R2, OpR X f r ∧ ∀ S H m x y a b Q, HR R S H m → Rep R S H x a → Rep R S H y b → RoutG R S H E (PV R Q) (g a b m) → r x y H Q
def dBin (g : D → D → M D) (fa fb : FE) : FE := fun ρ => M.bind (fa ρ) fun a => M.bind (fb ρ) fun b => g a b
def asB : D → M Bool
  | .bl b => fun m => .ok b m
  | _ => fun _ => .stuck
theorem asB_out {S : Sto} {H : Hp} {P : Bool → MS → Hp → Sto → Prop} {d : D} {m : MS} (h : RoutG R S H E P (asB d m)) : ∃ b, d = .bl b ∧ RoutG R S H E P (.ok b m) := by
  cases d with
  | bl b => exact ⟨b, rfl, h⟩
  | _ => exact h.elim
theorem rep_bl {S : Sto} {H : Hp} {v : V} {b : Bool} (r : Rep R S H v (.bl b)) : v = .bl b := by cases r; rfl
theorem rep_int {S : Sto} {H : Hp} {v : V} {b : Int} (r : Rep R S H v (.int b)) : v = .int b := by cases r; rfl
theorem rep_str {S : Sto} {H : Hp} {v : V} {b : Str} (r : Rep R S H v (.str b)) : v = .str b := by cases r; rfl
theorem rep_non {S : Sto} {H : Hp} {v : V} (r : Rep R S H v .non) : v = .non := by cases r; rfl
theorem rep_ty {S : Sto} {H : Hp} {v : V} {n : Tn} (r : Rep R S H v (.ty n)) : v = .ty n.name := by cases r; rfl
theorem rep_fn {S : Sto} {H : Hp} {v : V} {x : Str} (r : Rep R S H v (.fn x)) : ∃ a, v = .ref a ∧ R.mg x = some (.ref a) := by cases r with | fn h => exact ⟨_, rfl, h⟩

variable {a b c : Expr} {fa fb fc : FE} {pos : Pos}
theorem bin_out {r : R2} {ta tb : TE} {g : D → D → M D} (ro : R.Ok)
    (ha : ∀ S σ H ρ m Q, HR R S H m → ER R S H σ ρ → RoutG R S H E (PV R Q) (fa ρ m) → ta σ H Q) (hb : ∀ S σ H ρ m Q, HR R S H m → ER R S H σ ρ → RoutG R S H E (PV R Q) (fb ρ m) → tb σ H Q)
    (hg : ∀ S H m x y a b Q, HR R S H m → Rep R S H x a → Rep R S H y b → RoutG R S H E (PV R Q) (g a b m) → r x y H Q)
    {S : Sto} {σ : L2.St} {H : Hp} {ρ : Env'} {m : MS} {Q : VK} (hr : HR R S H m) (he : ER R S H σ ρ) (h : RoutG R S H E (PV R Q) (dBin g fa fb ρ m)) : tOp r ta tb σ H Q := by
  refine ha S σ H ρ m _ hr he (h.step fun x m1 H1 S1 e1 r1 q v rv => ?_)
  refine hb S1 σ H1 ρ m1 _ r1 (he.ext ro e1) (q.step fun y m2 H2 S2 e2 r2 q2 w rw' => ?_)
  exact hg S2 H2 m2 v w x y Q r2 (rv.ext ro e2) rw' q2
theorem de_op {op : Operator} {g : D → D → M D} (cx : CxR X R E) (ho : OpD X R E (binaryOp op) g) (ha : DE X R E a fa) (hb : DE X R E b fb) : DE X R E (.BinOp a op b pos) (dBin g fa fb) := by
  obtain ⟨r, h1, h2⟩ := ho
  obtain ⟨ta, a1, a2⟩ := ha.ex
  obtain ⟨tb, b1, b2⟩ := hb.ex
  exact ⟨⟨_, pe_op h1 a1 b1, fun S σ H ρ m Q hr he h => bin_out cx.ok a2 b2 h2 hr he h⟩⟩
theorem de_cmp {op : CmpOp} {g : D → D → M D} (cx : CxR X R E) (ho : OpD X R E (compareOp op) g) (ha : DE X R E a fa) (hb : DE X R E b fb) (hm : behindInMarks op b = false) : DE X R E (.Compare a [op] [b] pos) (dBin g fa fb) := by
  obtain ⟨r, h1, h2⟩ := ho
  obtain ⟨ta, a1, a2⟩ := ha.ex
  obtain ⟨tb, b1, b2⟩ := hb.ex
  exact ⟨⟨_, pe_cmpR h1 a1 b1 hm, fun S σ H ρ m Q hr he h => bin_out cx.ok a2 b2 h2 hr he h⟩⟩
def toB (f : FE) : FB := fun ρ => M.bind (f ρ) asB
/-- a bool's value wanted as a test -/
theorem pv_toB {S : Sto} {H : Hp} {r : Res D} {Q : Bool → Hp → Prop} (h : RoutG R S H E (PB Q) (M.bind (fun _ => r) asB ⟨[], none⟩)) : RoutG R S H E (PV R fun x H' => ∃ k, x = .bl k ∧ Q k H') r := by
  refine RoutG.step (x := fun _ => r) (m := ⟨[], none⟩) h fun d m1 H1 S1 e1 r1 q v rv => ?_
  obtain ⟨b, rfl, q'⟩ := asB_out q
  exact ⟨b, rep_bl rv, q'.now r1⟩
theorem toB_out {S : Sto} {H : Hp} {f : FE} {ρ : Env'} {m : MS} {Q : Bool → Hp → Prop} (h : RoutG R S H E (PB Q) (toB f ρ m)) : RoutG R S H E (PV R fun x H' => ∃ k, x = .bl k ∧ Q k H') (f ρ m) := by
  refine RoutG.step (x := f ρ) h fun d m1 H1 S1 e1 r1 q v rv => ?_
  obtain ⟨b, rfl, q'⟩ := asB_out q
  exact ⟨b, rep_bl rv, q'.now r1⟩
theorem dt_cmp {op : CmpOp} {g : D → D → M D} (cx : CxR X R E) (ho : OpD X R E (compareOp op) g) (ha : DE X R E a fa) (hb : DE X R E b fb) (hm : behindInMarks op b = false) : DT X R E (.Compare a [op] [b] pos) (toB (dBin g fa fb)) := by
  obtain ⟨r, h1, h2⟩ := ho
  obtain ⟨ta, a1, a2⟩ := ha.ex
  obtain ⟨tb, b1, b2⟩ := hb.ex
  exact ⟨⟨_, pt_cmpR h1 a1 b1 hm, fun S σ H ρ m Q hr he h => bin_out cx.ok a2 b2 h2 hr he (toB_out h)⟩⟩
/-- any expression whose value is a bool, as a test -/
theorem dt_val (ha : DE X R E a fa) (he : ∀ whole, isTrue a X.env whole = (do let v ← whole; standAt a.pos; holding [v] (truthy v)) := by intro _; rfl) : DT X R E a (toB fa) := by
  obtain ⟨ta, a1, a2⟩ := ha.ex
  exact ⟨⟨_, pt_val a1 he, fun S σ H ρ m Q hr he h => a2 S σ H ρ m _ hr he (toB_out h)⟩⟩
def dChain (g g' : D → D → M D) (fa fb fc : FE) : FE := fun ρ => M.bind (fa ρ) fun a => M.bind (fb ρ) fun b => M.bind (g a b) fun z => M.bind (asB z) fun k => if k then M.bind (fc ρ) fun c => g' b c else fun m => .ok (.bl false) m
theorem chain_out {r r' : R2} {ta tb tc : TE} {g g' : D → D → M D} (ro : R.Ok)
    (ha : ∀ S σ H ρ m Q, HR R S H m → ER R S H σ ρ → RoutG R S H E (PV R Q) (fa ρ m) → ta σ H Q) (hb : ∀ S σ H ρ m Q, HR R S H m → ER R S H σ ρ → RoutG R S H E (PV R Q) (fb ρ m) → tb σ H Q) (hc : ∀ S σ H ρ m Q, HR R S H m → ER R S H σ ρ → RoutG R S H E (PV R Q) (fc ρ m) → tc σ H Q)
    (hg : ∀ S H m x y a b Q, HR R S H m → Rep R S H x a → Rep R S H y b → RoutG R S H E (PV R Q) (g a b m) → r x y H Q) (hg' : ∀ S H m x y a b Q, HR R S H m → Rep R S H x a → Rep R S H y b → RoutG R S H E (PV R Q) (g' a b m) → r' x y H Q)
    {S : Sto} {σ : L2.St} {H : Hp} {ρ : Env'} {m : MS} {Q : VK} (hr : HR R S H m) (he : ER R S H σ ρ) (h : RoutG R S H E (PV R Q) (dChain g g' fa fb fc ρ m)) : tChain r r' ta tb tc σ H Q := by
  refine ha S σ H ρ m _ hr he (h.step fun x m1 H1 S1 e1 r1 q v rv => ?_)
  refine hb S1 σ H1 ρ m1 _ r1 (he.ext ro e1) (q.step fun y m2 H2 S2 e2 r2 q2 w rw' => ?_)
  refine hg S2 H2 m2 v w x y _ r2 (rv.ext ro e2) rw' (q2.step fun z m3 H3 S3 e3 r3 q3 u ru => ?_)
  have q4 := q3
  unfold M.bind at q4
  obtain ⟨k, rfl, _⟩ : ∃ k, z = .bl k ∧ True := by
    cases z with
    | bl k => exact ⟨k, rfl, trivial⟩
    | _ => exact q4.elim
  refine ⟨k, rep_bl ru, ?_⟩
  have q5 : RoutG R S3 H3 E (PV R Q) ((if k then M.bind (fc ρ) fun c => g' y c else fun m => .ok (.bl false) m) m3) := q4
  cases k with
  | false =>
    rw [if_neg Bool.false_ne_true] at q5 ⊢
    exact q5.now r3 _ (.bl false)
  | true =>
    rw [if_pos rfl] at q5 ⊢
    refine hc S3 σ H3 ρ m3 _ r3 (he.ext ro ((e1.trans e2).trans e3)) (q5.step fun z m4 H4 S4 e4 r4 q6 t rt => ?_)
    exact hg' S4 H4 m4 w t y z Q r4 ((rw'.ext ro e3).ext ro e4) rt q6
theorem de_chain {op op' : CmpOp} {g g' : D → D → M D} (cx : CxR X R E) (ho : OpD X R E (compareOp op) g) (ho' : OpD X R E (compareOp op') g') (ha : DE X R E a fa) (hb : DE X R E b fb) (hc : DE X R E c fc)
    (hm : lastMarks [op, op'] [b, c] = false := by with_unfolding_all rfl) : DE X R E (.Compare a [op, op'] [b, c] pos) (dChain g g' fa fb fc) := by
  obtain ⟨r, h1, h2⟩ := ho
  obtain ⟨r', h1', h2'⟩ := ho'
  obtain ⟨ta, a1, a2⟩ := ha.ex
  obtain ⟨tb, b1, b2⟩ := hb.ex
  obtain ⟨tc, c1, c2⟩ := hc.ex
  exact ⟨⟨_, pe_chain h1 h1' a1 b1 c1 hm, fun S σ H ρ m Q hr he h => chain_out cx.ok a2 b2 c2 h2 h2' hr he h⟩⟩
theorem dt_chain {op op' : CmpOp} {g g' : D → D → M D} (cx : CxR X R E) (ho : OpD X R E (compareOp op) g) (ho' : OpD X R E (compareOp op') g') (ha : DE X R E a fa) (hb : DE X R E b fb) (hc : DE X R E c fc)
    (hm : lastMarks [op, op'] [b, c] = false := by with_unfolding_all rfl) : DT X R E (.Compare a [op, op'] [b, c] pos) (toB (dChain g g' fa fb fc)) := by
  obtain ⟨r, h1, h2⟩ := ho
  obtain ⟨r', h1', h2'⟩ := ho'
  obtain ⟨ta, a1, a2⟩ := ha.ex
  obtain ⟨tb, b1, b2⟩ := hb.ex
  obtain ⟨tc, c1, c2⟩ := hc.ex
  exact ⟨⟨_, pt_chain h1 h1' a1 b1 c1 hm, fun S σ H ρ m Q hr he h => chain_out cx.ok a2 b2 c2 h2 h2' hr he (toB_out h)⟩⟩

/-! ### and, or, not, if -/
structure DW (X : Cx) (R : RC) (E : XK) (e : Expr) (f : FB) : Prop where
  ex : ∃ t, PW X e t ∧ ∀ S σ H ρ m Q, HR R S H m → ER R S H σ ρ → RoutG R S H E (PB Q) (f ρ m) → t σ H Q
theorem DW.dt {e : Expr} {f : FB} (h : DW X R E e f) : DT X R E e f := by
  obtain ⟨t, h1, h2⟩ := h.ex
  exact ⟨⟨t, h1.pt, h2⟩⟩
def bAnd (f g : FB) : FB := fun ρ => M.bind (f ρ) fun k => if k then g ρ else fun m => .ok false m
def bOr (f g : FB) : FB := fun ρ => M.bind (f ρ) fun k => if k then fun m => .ok true m else g ρ
def bNot (f : FB) : FB := fun ρ => M.bind (f ρ) fun k m => .ok (!k) m
variable {ga gb : FB} {rest : List Expr}
theorem dw_and1 (ha : DT X R E a ga) : DW X R E (.BoolOp .And [a] pos) ga := by
  obtain ⟨t, h1, h2⟩ := ha.ex
  exact ⟨⟨t, pw_and1 h1, h2⟩⟩
theorem dw_or1 (ha : DT X R E a ga) : DW X R E (.BoolOp .Or [a] pos) ga := by
  obtain ⟨t, h1, h2⟩ := ha.ex
  exact ⟨⟨t, pw_or1 h1, h2⟩⟩
theorem dw_and (cx : CxR X R E) (ha : DT X R E a ga) (hb : DW X R E (.BoolOp .And (b :: rest) pos) gb) : DW X R E (.BoolOp .And (a :: b :: rest) pos) (bAnd ga gb) := by
  obtain ⟨t, h1, h2⟩ := ha.ex
  obtain ⟨u, k1, k2⟩ := hb.ex
  refine ⟨⟨_, pw_and h1 k1, fun S σ H ρ m Q hr he h => h2 S σ H ρ m _ hr he (h.step fun k m1 H1 S1 e1 r1 q => ?_)⟩⟩
  cases k with
  | true => exact k2 S1 σ H1 ρ m1 Q r1 (he.ext cx.ok e1) q
  | false => exact (show PB Q false m1 H1 S1 from RoutG.now (R := R) (E := E) q r1)
theorem dw_or (cx : CxR X R E) (ha : DT X R E a ga) (hb : DW X R E (.BoolOp .Or (b :: rest) pos) gb) : DW X R E (.BoolOp .Or (a :: b :: rest) pos) (bOr ga gb) := by
  obtain ⟨t, h1, h2⟩ := ha.ex
  obtain ⟨u, k1, k2⟩ := hb.ex
  refine ⟨⟨_, pw_or h1 k1, fun S σ H ρ m Q hr he h => h2 S σ H ρ m _ hr he (h.step fun k m1 H1 S1 e1 r1 q => ?_)⟩⟩
  cases k with
  | false => exact k2 S1 σ H1 ρ m1 Q r1 (he.ext cx.ok e1) q
  | true => exact (show PB Q true m1 H1 S1 from RoutG.now (R := R) (E := E) q r1)
theorem dt_not (ha : DT X R E a ga) : DT X R E (.UnaryOp .Not a pos) (bNot ga) := by
  obtain ⟨t, h1, h2⟩ := ha.ex
  exact ⟨⟨_, pt_not h1, fun S σ H ρ m Q hr he h => h2 S σ H ρ m _ hr he (h.step fun k m1 H1 S1 e1 r1 q => (show PB Q (!k) m1 H1 S1 from RoutG.now (R := R) (E := E) q r1))⟩⟩
def dAnd (f g : FE) : FE := fun ρ => M.bind (toB f ρ) fun k => if k then g ρ else fun m => .ok (.bl false) m
def dOr (f g : FE) : FE := fun ρ => M.bind (toB f ρ) fun k => if k then fun m => .ok (.bl true) m else g ρ
def dNot (f : FE) : FE := fun ρ => M.bind (toB f ρ) fun k m => .ok (.bl (!k)) m
theorem de_one {op : BoolOp} (h : DE X R E a fa) : DE X R E (.BoolOp op [a] pos) fa := by
  obtain ⟨t, h1, h2⟩ := h.ex
  exact ⟨⟨t, pe_one h1, h2⟩⟩
theorem de_and (cx : CxR X R E) (ha : DE X R E a fa) (hb : DE X R E (.BoolOp .And (b :: rest) pos) fb) : DE X R E (.BoolOp .And (a :: b :: rest) pos) (dAnd fa fb) := by
  obtain ⟨t, h1, h2⟩ := ha.ex
  obtain ⟨u, k1, k2⟩ := hb.ex
  refine ⟨⟨_, pe_and h1 k1, fun S σ H ρ m Q hr he h => ?_⟩⟩
  have h' : RoutG R S H E (PB fun k H1 => if k = true then u σ H1 Q else Q (.bl false) H1) (toB fa ρ m) := h.step fun k m1 H1 S1 e1 r1 q => by
    cases k with
    | true => exact k2 S1 σ H1 ρ m1 Q r1 (he.ext cx.ok e1) q
    | false => exact RoutG.now (show RoutG R S1 H1 E (PV R Q) (.ok (.bl false) m1) from q) r1 _ (.bl false)
  exact h2 S σ H ρ m _ hr he (toB_out h')
theorem de_or (cx : CxR X R E) (ha : DE X R E a fa) (hb : DE X R E (.BoolOp .Or (b :: rest) pos) fb) : DE X R E (.BoolOp .Or (a :: b :: rest) pos) (dOr fa fb) := by
  obtain ⟨t, h1, h2⟩ := ha.ex
  obtain ⟨u, k1, k2⟩ := hb.ex
  refine ⟨⟨_, pe_or h1 k1, fun S σ H ρ m Q hr he h => ?_⟩⟩
  have h' : RoutG R S H E (PB fun k H1 => if k = true then Q (.bl true) H1 else u σ H1 Q) (toB fa ρ m) := h.step fun k m1 H1 S1 e1 r1 q => by
    cases k with
    | false => exact k2 S1 σ H1 ρ m1 Q r1 (he.ext cx.ok e1) q
    | true => exact RoutG.now (show RoutG R S1 H1 E (PV R Q) (.ok (.bl true) m1) from q) r1 _ (.bl true)
  exact h2 S σ H ρ m _ hr he (toB_out h')
theorem de_not (ha : DE X R E a fa) : DE X R E (.UnaryOp .Not a pos) (dNot fa) := by
  obtain ⟨t, h1, h2⟩ := ha.ex
  refine ⟨⟨_, pe_not h1, fun S σ H ρ m Q hr he h => ?_⟩⟩
  have h' : RoutG R S H E (PB fun k H1 => Q (.bl (!k)) H1) (toB fa ρ m) := h.step fun k m1 H1 S1 e1 r1 q => RoutG.now (show RoutG R S1 H1 E (PV R Q) (.ok (.bl (!k)) m1) from q) r1 _ (.bl _)
  exact h2 S σ H ρ m _ hr he (toB_out h')
def dIf (g : FB) (fa fb : FE) : FE := fun ρ => M.bind (g ρ) fun k => if k then fa ρ else fb ρ
theorem de_if (cx : CxR X R E) (hc : DT X R E c ga) (ha : DE X R E a fa) (hb : DE X R E b fb) : DE X R E (.IfExp c a b pos) (dIf ga fa fb) := by
  obtain ⟨tc, c1, c2⟩ := hc.ex
  obtain ⟨ta, a1, a2⟩ := ha.ex
  obtain ⟨tb, b1, b2⟩ := hb.ex
  refine ⟨⟨_, pe_ifExp c1 a1 b1, fun S σ H ρ m Q hr he h => c2 S σ H ρ m _ hr he (h.step fun k m1 H1 S1 e1 r1 q => ?_)⟩⟩
  cases k with
  | true => exact a2 S1 σ H1 ρ m1 Q r1 (he.ext cx.ok e1) q
  | false => exact b2 S1 σ H1 ρ m1 Q r1 (he.ext cx.ok e1) q

/-! ### argument lists, displays -/
def aNil : FA := fun _ m => .ok [] m
def aCons (f : FE) (g : FA) : FA := fun ρ => M.bind (f ρ) fun d => M.bind (g ρ) fun ds m => .ok (d :: ds) m
variable {e : Expr} {es : List Expr} {f : FE} {g : FA}
theorem da_nil : DA X R E [] aNil := ⟨⟨_, pa_nil, fun S σ H ρ m Q hr he h => h.now hr _ .nil⟩⟩
theorem da_cons (cx : CxR X R E) (h1 : DE X R E e f) (h2 : DA X R E es g) (hs : starEach (e :: es) X.env = (false, eval e X.env) :: starEach es X.env := by rfl) : DA X R E (e :: es) (aCons f g) := by
  obtain ⟨t, a1, a2⟩ := h1.ex
  obtain ⟨u, b1, b2⟩ := h2.ex
  refine ⟨⟨_, pa_cons a1 b1 hs, fun S σ H ρ m Q hr he h => a2 S σ H ρ m _ hr he (h.step fun d m1 H1 S1 e1 r1 q v rv => ?_)⟩⟩
  refine b2 S1 σ H1 ρ m1 _ r1 (he.ext cx.ok e1) (q.step fun ds m2 H2 S2 e2 r2 q2 vs rvs => ?_)
  exact q2.now r2 _ (.cons (rv.ext cx.ok e2) rvs)
def short (ds : List D) : Bool := decide (ds.length ≤ 1000000)
theorem short_line {ds : List D} (h : short ds = true) : ds.length ≤ sizeLine := Nat.le_trans (of_decide_eq_true h) (by decide)
theorem short_lt {ds : List D} (h : short ds = true) : ds.length < sizeLine := Nat.lt_of_le_of_lt (of_decide_eq_true h) (by decide)
def newT (ds : List D) : M D := fun m => if short ds then .ok (.tup ds) m else .stuck
def newL (fr : Bool) (ds : List D) : M D := fun m => if short ds then (if fr then .ok (.ref m.objs.length) { m with objs := m.objs ++ [.lst ds] } else .ok (.lst ds) m) else .stuck
section
variable {S : Sto} {H : Hp} {m : MS} {ds : List D} {vs : List V} {Q : VK}
theorem newT_out (ro : R.Ok) (hr : HR R S H m) (r : RepAll R S H vs ds) (h : RoutG R S H E (PV R Q) (newT ds m)) : vs.length ≤ sizeLine ∧ ∀ p, H p = none → Q (.ref p) (upd H p (.tup vs)) := by
  unfold newT at h
  by_cases hs : short ds = true
  · rw [if_pos hs] at h
    refine ⟨by rw [r.length]; exact short_line hs, fun p hp => ?_⟩
    refine h _ S (Ext.newObj hr hp) (hr.newObj ro hp) _ (.tup (.inl ⟨upd_same, hr.fresh hp⟩) (r.ext ro (Ext.newObj hr hp)))
  · rw [if_neg hs] at h
    exact h.elim
theorem newL_out (ro : R.Ok) {fr : Bool} (hr : HR R S H m) (r : RepAll R S H vs ds) (h : RoutG R S H E (PV R Q) (newL fr ds m)) : vs.length ≤ sizeLine ∧ ∀ p, H p = none → Q (.ref p) (upd H p (.lst vs)) := by
  unfold newL at h
  by_cases hs : short ds = true
  · rw [if_pos hs] at h
    refine ⟨by rw [r.length]; exact short_line hs, fun p hp => ?_⟩
    cases fr with
    | false =>
      rw [if_neg Bool.false_ne_true] at h
      exact h _ S (Ext.newObj hr hp) (hr.newObj ro hp) _ (.lst ⟨upd_same, hr.fresh hp⟩ (r.ext ro (Ext.newObj hr hp)))
    | true =>
      rw [if_pos rfl] at h
      refine h _ (S.add p) (Ext.newRef hr hp) (hr.newRef ro hp ⟨vs, upd_same, r.ext ro (Ext.newRef hr hp)⟩) _ (.ref ?_)
      show (S.refs ++ [p])[m.objs.length]? = some p
      rw [← hr.len, List.getElem?_concat_length]
  · rw [if_neg hs] at h
    exact h.elim
end
def dTup (g : FA) : FE := fun ρ => M.bind (g ρ) newT
def dLst (fr : Bool) (g : FA) : FE := fun ρ => M.bind (g ρ) (newL fr)
theorem de_tup {k : Nat} (cx : CxR X R E) (h : DA X R E es g) : DE X R E (.Tuple es k pos) (dTup g) := by
  obtain ⟨t, a1, a2⟩ := h.ex
  exact ⟨⟨_, pe_tup a1, fun S σ H ρ m Q hr he h => a2 S σ H ρ m _ hr he (h.step fun ds m1 H1 S1 e1 r1 q vs rv => newT_out cx.ok r1 rv q)⟩⟩
theorem de_lst (fr : Bool) (cx : CxR X R E) (h : DA X R E es g) : DE X R E (.List es pos) (dLst fr g) := by
  obtain ⟨t, a1, a2⟩ := h.ex
  exact ⟨⟨_, pe_lst a1, fun S σ H ρ m Q hr he h => a2 S σ H ρ m _ hr he (h.step fun ds m1 H1 S1 e1 r1 q vs rv => newL_out cx.ok r1 rv q)⟩⟩

/-! ### sequences read -/
/-- the items of a list, a tuple -/
def seqD (m : MS) : D → Option (List D)
  | .tup xs => some xs
  | .scr ns => some (ns.map D.int)
  | .lst xs => some xs
  | .ref n => match m.objs[n]? with | some (.lst xs) => some xs | _ => none
  | _ => none
def lstD (m : MS) : D → Option (List D)
  | .lst xs => some xs
  | .ref n => match m.objs[n]? with | some (.lst xs) => some xs | _ => none
  | _ => none
def scrD : D → Option (List D)
  | .scr ns => some (ns.map D.int)
  | _ => none
def tupD : D → Option (List D)
  | .tup xs => some xs
  | _ => none
section
variable {S : Sto} {H : Hp} {m : MS} {v : V} {d : D} {ds : List D}
theorem lstD_out (hr : HR R S H m) (r : Rep R S H v d) (h : lstD m d = some ds) : ∃ a vs, v = .ref a ∧ SqL R.K H a vs ∧ RepAll R S H vs ds ∧ H a = some (.lst vs) := by
  cases r with
  | lst hl ha => cases h; exact ⟨_, _, rfl, hl.sq, ha, hl.1⟩
  | @ref n a hn =>
    unfold lstD at h
    dsimp only at h
    cases e : m.objs[n]? with
    | none => rw [e] at h; cases h
    | some o =>
      rw [e] at h
      cases o with
      | lst xs =>
        cases h
        obtain ⟨vs, h1, h2⟩ := hr.obj n a _ hn e
        exact ⟨a, vs, rfl, SqL.of h1, h2, h1⟩
      | _ => cases h
  | _ => cases h
theorem tupD_out (r : Rep R S H v d) (h : tupD d = some ds) : ∃ a vs, v = .ref a ∧ SqT R.K H a vs ∧ RepAll R S H vs ds ∧ TupAt R S H a vs := by
  cases r with
  | tup hl ha => cases h; exact ⟨_, _, rfl, hl.sq, ha, hl⟩
  | _ => cases h
theorem scrD_out (r : Rep R S H v d) (h : scrD d = some ds) : ∃ a vs, v = .ref a ∧ SqL R.K H a vs ∧ RepAll R S H vs ds := by
  cases r with
  | scr hl n => cases h; exact ⟨_, _, rfl, .inl (.inr ⟨_, hl⟩), RepAll.ints _⟩
  | _ => cases h
theorem seqD_cases (h : seqD m d = some ds) : lstD m d = some ds ∨ tupD d = some ds ∨ scrD d = some ds := by
  cases d with
  | tup xs => exact .inr (.inl h)
  | scr ns => exact .inr (.inr h)
  | lst xs => exact .inl h
  | ref n => exact .inl h
  | _ => cases h
theorem seqD_out (hr : HR R S H m) (r : Rep R S H v d) (h : seqD m d = some ds) : ∃ a vs, v = .ref a ∧ (SqL R.K H a vs ∨ SqT R.K H a vs) ∧ RepAll R S H vs ds := by
  rcases seqD_cases h with h | h | h
  · obtain ⟨a, vs, h1, h2, h3, _⟩ := lstD_out hr r h
    exact ⟨a, vs, h1, .inl h2, h3⟩
  · obtain ⟨a, vs, h1, h2, h3, _⟩ := tupD_out r h
    exact ⟨a, vs, h1, .inr h2, h3⟩
  · obtain ⟨a, vs, h1, h2, h3⟩ := scrD_out r h
    exact ⟨a, vs, h1, .inl h2, h3⟩
end
theorem RepAll.atI {S : Sto} {H : Hp} {vs : List V} {ds : List D} {i : Int} {d : D} (r : RepAll R S H vs ds) (h : atI ds i = some d) : ∃ v, L2.atI vs i = some v ∧ Rep R S H v d := by
  unfold L2.atI at h ⊢
  rw [r.length]
  cases e : ixN ds.length i with
  | none => rw [e] at h; cases h
  | some j =>
    rw [e] at h
    obtain ⟨v, h1, h2⟩ := r.get (i := j) (d := d) h
    exact ⟨v, h1, h2⟩
def ixD (a b : D) : M D := fun m => match b with
  | .int i => match a with
    | .str s => if s.length ≤ 1000000 then (match atI s.cps.toList i with | some c => .ok (.str ⟨#[c]⟩) m | none => .stuck) else .stuck
    | a => match seqD m a with
      | some xs => (match atI xs i with | some d => .ok d m | none => .stuck)
      | none => .stuck
  | _ => .stuck
theorem ix_out (cx : CxR X R E) {S : Sto} {H : Hp} {m : MS} {x y : V} {a b : D} {Q : VK} (hr : HR R S H m) (ra : Rep R S H x a) (rb : Rep R S H y b) (h : RoutG R S H E (PV R Q) (ixD a b m)) : rIx X.K x y H Q := by
  rw [cx.K]
  unfold ixD at h
  cases b with
  | int i =>
    have ey := rep_int rb
    have main : ∀ xs, seqD m a = some xs → RoutG R S H E (PV R Q) (match atI xs i with | some d => Res.ok d m | none => .stuck) → rIx R.K x y H Q := fun xs hs h => by
      obtain ⟨p, vs, rfl, hq, rv⟩ := seqD_out hr ra hs
      cases e : atI xs i with
      | none => rw [e] at h; exact h.elim
      | some d =>
        rw [e] at h
        obtain ⟨v, h1, h2⟩ := rv.atI e
        have q := h.now hr v h2
        rcases hq with hq | hq
        · exact .inl ⟨p, vs, i, v, rfl, ey, hq, h1, q⟩
        · exact .inr (.inl ⟨p, vs, i, v, rfl, ey, hq, h1, q⟩)
    cases a with
    | str s =>
      dsimp only at h
      by_cases hs : s.length ≤ 1000000
      · rw [if_pos hs] at h
        cases e : atI s.cps.toList i with
        | none => rw [e] at h; exact h.elim
        | some c =>
          rw [e] at h
          exact .inr (.inr ⟨s, i, c, rep_str ra, ey, Nat.le_trans hs (by decide), e, h.now hr _ (.str _)⟩)
      · rw [if_neg hs] at h
        exact h.elim
    | tup xs => exact main xs rfl h
    | scr xs => exact main _ rfl h
    | lst xs => exact main xs rfl h
    | ref n =>
      dsimp only at h
      cases e : seqD m (.ref n) with
      | none => rw [e] at h; exact h.elim
      | some xs => rw [e] at h; exact main xs e h
    | _ => exact h.elim
  | _ => exact h.elim
theorem de_ix (cx : CxR X R E) (ha : DE X R E a fa) (hb : DE X R E b fb) (hs : PlainIx b := by intro _ _; rfl) : DE X R E (.Subscript a b pos) (dBin ixD fa fb) := by
  obtain ⟨ta, a1, a2⟩ := ha.ex
  obtain ⟨tb, b1, b2⟩ := hb.ex
  exact ⟨⟨_, pe_ix ix_seq a1 b1 hs, fun S σ H ρ m Q hr he h => bin_out cx.ok a2 b2 (fun S H m x y a b Q hr ra rb h => ix_out cx hr ra rb h) hr he h⟩⟩

/-! ### slices -/
structure DO (X : Cx) (R : RC) (E : XK) (e : Option Expr) (f : Env' → M (Option Int)) : Prop where
  ex : ∃ t, PO X e t ∧ ∀ S σ H ρ m Q, HR R S H m → ER R S H σ ρ → RoutG R S H E (fun i _ H' _ => Q i H') (f ρ m) → t σ H Q
def oNone : Env' → M (Option Int) := fun _ m => .ok none m
def asI : D → M (Option Int)
  | .int i => fun m => .ok (some i) m
  | _ => fun _ => .stuck
def oSome (f : FE) : Env' → M (Option Int) := fun ρ => M.bind (f ρ) asI
theorem do_none : DO X R E none oNone := ⟨⟨_, po_none, fun S σ H ρ m Q hr he h => h.now hr⟩⟩
theorem do_some (h : DE X R E e f) : DO X R E (some e) (oSome f) := by
  obtain ⟨t, a1, a2⟩ := h.ex
  refine ⟨⟨_, po_some a1, fun S σ H ρ m Q hr he h => a2 S σ H ρ m _ hr he (h.step fun d m1 H1 S1 e1 r1 q v rv => ?_)⟩⟩
  cases d with
  | int i => exact ⟨i, rep_int rv, q.now r1⟩
  | _ => exact q.elim
def cutD (xs : List D) (lo hi : Option Int) : List D := (xs.drop (HT.sIx xs.length 0 lo)).take (HT.sIx xs.length xs.length hi - HT.sIx xs.length 0 lo)
theorem cut_rep {S : Sto} {H : Hp} {vs : List V} {ds : List D} (r : RepAll R S H vs ds) (lo hi : Option Int) : RepAll R S H (cutV vs lo hi) (cutD ds lo hi) := by
  unfold cutV cutD
  rw [r.length]
  exact (r.drop _).take _
def slD (fr : Bool) (a : D) (lo hi : Option Int) : M D := fun m => match a with
  | .tup xs => if short xs then .ok (.tup (cutD xs lo hi)) m else .stuck
  | .str s => if s.length ≤ 1000000 then .ok (.str (cutS s lo hi)) m else .stuck
  | a => match lstD m a with | some xs => if short xs then newL fr (cutD xs lo hi) m else .stuck | none => .stuck
def dSl (fr : Bool) (fa : FE) (lo hi : Env' → M (Option Int)) : FE := fun ρ => M.bind (fa ρ) fun a => M.bind (lo ρ) fun l => M.bind (hi ρ) fun u => slD fr a l u
theorem short_cut {xs : List D} {lo hi : Option Int} (h : short xs = true) : short (cutD xs lo hi) = true := by
  unfold short at *
  have := of_decide_eq_true h
  refine decide_eq_true ?_
  unfold cutD
  rw [List.length_take, List.length_drop]
  omega
theorem sl_out (cx : CxR X R E) (fr : Bool) {S : Sto} {H : Hp} {m : MS} {x : V} {a : D} {lo hi : Option Int} {Q : VK} (hr : HR R S H m) (ra : Rep R S H x a) (h : RoutG R S H E (PV R Q) (slD fr a lo hi m)) :
    rSlA X.K x lo hi H Q ∨ rSlL X.K x lo hi H Q ∨ (∃ z, x = .str z ∧ z.length ≤ sizeLine ∧ Q (.str (cutS z lo hi)) H) := by
  rw [cx.K]
  unfold slD at h
  have main : ∀ xs, lstD m a = some xs → RoutG R S H E (PV R Q) (if short xs then newL fr (cutD xs lo hi) m else .stuck) → rSlL R.K x lo hi H Q := fun xs hs h => by
    obtain ⟨p, vs, rfl, hq, rv, _⟩ := lstD_out hr ra hs
    by_cases hz : short xs = true
    · rw [if_pos hz] at h
      exact ⟨p, vs, rfl, hq, (newL_out cx.ok hr (cut_rep rv lo hi) h).2⟩
    · rw [if_neg hz] at h
      exact h.elim
  cases a with
  | tup xs =>
    dsimp only at h
    by_cases hs : short xs = true
    · rw [if_pos hs] at h
      left
      obtain ⟨p, vs, rfl, hq, rv, ht⟩ := tupD_out ra rfl
      refine ⟨p, vs, rfl, hq, fun hw => ?_, fun hw q hp => ?_⟩
      · refine h.now hr _ (.tup ht ?_)
        have e := cut_rep rv lo hi
        have e2 : cutV vs lo hi = vs := by
          unfold cutV
          rw [hw.1, hw.2, List.drop_zero, Nat.sub_zero, List.take_length]
        rw [e2] at e
        exact e
      · have h' : RoutG R S H E (PV R Q) (newT (cutD xs lo hi) m) := by
          unfold newT
          rw [if_pos (short_cut hs)]
          exact h
        exact (newT_out cx.ok hr (cut_rep rv lo hi) h').2 q hp
    · rw [if_neg hs] at h
      exact h.elim
  | str s =>
    dsimp only at h
    by_cases hs : s.length ≤ 1000000
    · rw [if_pos hs] at h
      exact .inr (.inr ⟨s, rep_str ra, Nat.le_trans hs (by decide), h.now hr _ (.str _)⟩)
    · rw [if_neg hs] at h
      exact h.elim
  | lst xs => exact .inr (.inl (main xs rfl h))
  | ref n =>
    dsimp only at h
    cases e : lstD m (.ref n) with
    | none => rw [e] at h; exact h.elim
    | some xs => rw [e] at h; exact .inr (.inl (main xs e h))
  | _ => exact h.elim
theorem de_sl (fr : Bool) {lo hi : Option Expr} {p2 : Pos} {fl fh : Env' → M (Option Int)} (cx : CxR X R E) (he : DE X R E e f) (hl : DO X R E lo fl) (hh : DO X R E hi fh) : DE X R E (.Subscript e (.Slice lo hi none p2) pos) (dSl fr f fl fh) := by
  obtain ⟨t, a1, a2⟩ := he.ex
  obtain ⟨tl, b1, b2⟩ := hl.ex
  obtain ⟨th, c1, c2⟩ := hh.ex
  refine ⟨⟨_, pe_slice (sl_tupA.or (sl_list.or sl_str)) a1 b1 c1, fun S σ H ρ m Q hr he h => a2 S σ H ρ m _ hr he (h.step fun d m1 H1 S1 e1 r1 q v rv => ?_)⟩⟩
  refine b2 S1 σ H1 ρ m1 _ r1 (he.ext cx.ok e1) (q.step fun l m2 H2 S2 e2 r2 q2 => ?_)
  refine c2 S2 σ H2 ρ m2 _ r2 (he.ext cx.ok (e1.trans e2)) (q2.step fun u m3 H3 S3 e3 r3 q3 => ?_)
  exact sl_out cx fr r3 (rv.ext cx.ok (e2.trans e3)) q3
end
end TL
end
section
/-! The data layer: operators, built-in functions. -/
namespace TL
open PySem PySem.Spec PyProof.Rows L2

/-! ### == at any depth -/
mutual
/-- data that == and in are asked of: no reference, so deep -/
def okD : Nat → D → Bool
  | _, .non => true
  | _, .bl _ => true
  | _, .int _ => true
  | _, .str x => PyData.canLay0 (.str x)
  | k + 1, .tup xs => okAll k xs
  | k + 1, .lst xs => okAll k xs
  | _, _ => false
def okAll : Nat → List D → Bool
  | _, [] => true
  | k, x :: xs => okD k x && okAll k xs
end
mutual
def toP : D → PyData
  | .non => .none
  | .bl b => .bool b
  | .int i => .int i
  | .str x => .str x
  | .tup xs => .tuple (toPs xs)
  | .lst xs => .list (toPs xs)
  | _ => .none
def toPs : List D → List PyData
  | [] => []
  | x :: xs => toP x :: toPs xs
end
mutual
/-- == of data -/
def eqvD : D → D → Bool
  | .non, .non => true
  | .bl a, .bl b => a == b
  | .bl a, .int j => (if a then 1 else 0) == j
  | .int i, .bl b => i == (if b then 1 else 0)
  | .int i, .int j => i == j
  | .str x, .str y => x == y
  | .lst xs, .lst ys => eqvAll xs ys
  | .tup xs, .tup ys => eqvAll xs ys
  | _, _ => false
def eqvAll : List D → List D → Bool
  | [], [] => true
  | x :: xs, y :: ys => eqvD x y && eqvAll xs ys
  | _, _ => false
end
mutual
theorem okD_can : ∀ (k : Nat) (d : D), okD k d = true → (toP d).canLay0 = true ∧ (toP d).depth ≤ k
  | _, .non, _ => ⟨rfl, Nat.zero_le _⟩
  | _, .bl _, _ => ⟨rfl, Nat.zero_le _⟩
  | _, .int _, _ => ⟨rfl, Nat.zero_le _⟩
  | _, .str x, h => ⟨by simpa [okD, toP] using h, by simp [toP, PyData.depth]⟩
  | k + 1, .tup xs, h => by
    have q := okAll_can k xs (by simpa [okD] using h)
    exact ⟨by simpa [toP, PyData.canLay0] using q.1, by simpa [toP, PyData.depth] using q.2⟩
  | k + 1, .lst xs, h => by
    have q := okAll_can k xs (by simpa [okD] using h)
    exact ⟨by simpa [toP, PyData.canLay0] using q.1, by simpa [toP, PyData.depth] using q.2⟩
  | 0, .tup xs, h => by simp [okD] at h
  | 0, .lst xs, h => by simp [okD] at h
  | 0, .dct _, h => by simp [okD] at h
  | k + 1, .dct _, h => by simp [okD] at h
  | 0, .scr _, h => by simp [okD] at h
  | k + 1, .scr _, h => by simp [okD] at h
  | 0, .ref _, h => by simp [okD] at h
  | k + 1, .ref _, h => by simp [okD] at h
  | 0, .drw, h => by simp [okD] at h
  | k + 1, .drw, h => by simp [okD] at h
  | 0, .fn _, h => by simp [okD] at h
  | k + 1, .fn _, h => by simp [okD] at h
  | 0, .ty _, h => by simp [okD] at h
  | k + 1, .ty _, h => by simp [okD] at h
  | 0, .clo _, h => by simp [okD] at h
  | k + 1, .clo _, h => by simp [okD] at h
  | 0, .exn _ _, h => by simp [okD] at h
  | k + 1, .exn _ _, h => by simp [okD] at h
theorem okAll_can : ∀ (k : Nat) (ds : List D), okAll k ds = true → PyData.canLayAll0 (toPs ds) = true ∧ PyData.depthAll (toPs ds) ≤ k
  | _, [], _ => ⟨rfl, Nat.zero_le _⟩
  | k, x :: xs, h => by
    simp only [okAll, Bool.and_eq_true] at h
    have h1 := okD_can k x h.1
    have h2 := okAll_can k xs h.2
    refine ⟨?_, ?_⟩
    · simp only [toPs, PyData.canLayAll0, h1.1, h2.1, Bool.and_self]
    · simp only [toPs, PyData.depthAll]
      exact Nat.max_le.mpr ⟨h1.2, h2.2⟩
end
theorem ok_shaped {d : D} (h : okD 64 d = true) : SeqAt.shaped (toP d) = true := by
  obtain ⟨h1, h2⟩ := okD_can 64 d h
  unfold SeqAt.shaped
  rw [h1, decide_eq_true h2]
  rfl
section
variable {R : RC} {S : Sto} {H : Hp} {m : MS}
mutual
theorem rep_dp : ∀ (k : Nat) {v : V} {d : D}, Rep R S H v d → okD k d = true → Dp R.K H v (toP d)
  | _, _, _, .non, _ => .non
  | _, _, _, .bl b, _ => .bl b
  | _, _, _, .int i, _ => .int i
  | _, _, _, .str x, _ => .str x
  | k + 1, _, _, .tup h r, e => by
    simp only [toP]
    exact .tup h.sq (rep_dps k r (by simpa [okD] using e))
  | k + 1, _, _, .lst h r, e => by
    simp only [toP]
    exact .lst h.sq (rep_dps k r (by simpa [okD] using e))
  | 0, _, _, .tup _ _, e => by simp [okD] at e
  | 0, _, _, .lst _ _, e => by simp [okD] at e
  | 0, _, _, .dct .., e => by simp [okD] at e
  | k + 1, _, _, .dct .., e => by simp [okD] at e
  | 0, _, _, .scr .., e => by simp [okD] at e
  | k + 1, _, _, .scr .., e => by simp [okD] at e
  | 0, _, _, .ref _, e => by simp [okD] at e
  | k + 1, _, _, .ref _, e => by simp [okD] at e
  | 0, _, _, .drw _, e => by simp [okD] at e
  | k + 1, _, _, .drw _, e => by simp [okD] at e
  | 0, _, _, .fn _, e => by simp [okD] at e
  | k + 1, _, _, .fn _, e => by simp [okD] at e
  | 0, _, _, .ty _, e => by simp [okD] at e
  | k + 1, _, _, .ty _, e => by simp [okD] at e
  | 0, _, _, .clo .., e => by simp [okD] at e
  | k + 1, _, _, .clo .., e => by simp [okD] at e
  | 0, _, _, .exn .., e => by simp [okD] at e
  | k + 1, _, _, .exn .., e => by simp [okD] at e
  | 0, _, _, .exnd .., e => by simp [okD] at e
  | k + 1, _, _, .exnd .., e => by simp [okD] at e
theorem rep_dps : ∀ (k : Nat) {vs : List V} {ds : List D}, RepAll R S H vs ds → okAll k ds = true → DpAll R.K H vs (toPs ds)
  | _, _, _, .nil, _ => .nil
  | k, _, _, .cons h r, e => by
    simp only [okAll, Bool.and_eq_true] at e
    exact .cons (rep_dp k h e.1) (rep_dps k r e.2)
end
mutual
theorem eqv_toP : ∀ (k : Nat) (a b : D), okD k a = true → okD k b = true → PyData.eqv (toP a) (toP b) = eqvD a b
  | k, a, b, ha, hb => by
    cases a <;> cases b <;> first
      | rfl
      | (cases k <;> simp [okD] at ha; done)
      | (cases k <;> simp [okD] at hb; done)
      | (cases k with
         | zero => simp [okD] at ha
         | succ k =>
           simp only [okD] at ha hb
           simp only [toP, PyData.eqv, eqvD]
           exact eqv_toPs k _ _ ha hb)
theorem eqv_toPs : ∀ (k : Nat) (as bs : List D), okAll k as = true → okAll k bs = true → PyData.eqvAll (toPs as) (toPs bs) = eqvAll as bs
  | _, [], [], _, _ => rfl
  | _, [], _ :: _, _, _ => rfl
  | _, _ :: _, [], _, _ => rfl
  | k, a :: as, b :: bs, ha, hb => by
    simp only [okAll, Bool.and_eq_true] at ha hb
    simp only [toPs, PyData.eqvAll, eqvAll]
    rw [eqv_toP k a b ha.1 hb.1, eqv_toPs k as bs ha.2 hb.2]
end
theorem ok_mono : True := trivial
/-- a mutable list as what it holds -/
def flatR (m : MS) : D → D
  | .ref n => match m.objs[n]? with | some (.lst xs) => .lst xs | _ => .ref n
  | .drg => match m.dr with | some d => .lst (d.great.map D.int) | none => .drg
  | d => d
theorem flat_dp (hr : HR R S H m) {v : V} {d : D} (r : Rep R S H v d) (h : okD 64 (flatR m d) = true) : Dp R.K H v (toP (flatR m d)) := by
  cases d with
  | ref n =>
    unfold flatR at h ⊢
    dsimp only at h ⊢
    cases r with
    | ref hn =>
      cases e : m.objs[n]? with
      | none => rw [e] at h; simp [okD] at h
      | some o =>
        rw [e] at h
        cases o with
        | lst xs =>
          obtain ⟨vs, h1, h2⟩ := hr.obj n _ _ hn e
          simp only [toP]
          exact .lst (SqL.of h1) (rep_dps 63 h2 (by simpa [okD] using h))
        | _ => simp [okD] at h
  | drg =>
    unfold flatR at h ⊢
    dsimp only at h ⊢
    cases e : m.dr with
    | none => rw [e] at h; simp [okD] at h
    | some d =>
      rw [e] at h
      have q := hr.dr
      rw [e] at q
      obtain ⟨a, g, c, e0, h1, h2, h3⟩ := q
      cases r with
      | drg hd =>
        rw [hd] at e0
        cases e0
        simp only [toP]
        exact .lst (SqL.of h2) (rep_dps 63 (RepAll.ints (R := R) (S := S) (H := H) d.great) (by simpa [okD] using h))
  | _ => exact rep_dp 64 r h
end

section
variable {X : Cx} {R : RC} {E : XK}
/-! ### comparisons -/
def eqD (neg : Bool) (a b : D) : M D := fun m => if okD 64 (flatR m a) && okD 64 (flatR m b) then .ok (.bl (if neg then !eqvD (flatR m a) (flatR m b) else eqvD (flatR m a) (flatR m b))) m else .stuck
theorem opd_eq (cx : CxR X R E) (hu : X.A.units + 64 < cLine) : OpD X R E (compareOp .Eq) (eqD false) := ⟨_, op_eqD hu, fun S H m x y a b Q hr ra rb h => by
  unfold eqD at h
  by_cases hc : (okD 64 (flatR m a) && okD 64 (flatR m b)) = true
  · rw [if_pos hc] at h
    rw [Bool.and_eq_true] at hc
    rw [cx.K]
    refine ⟨_, _, flat_dp hr ra hc.1, flat_dp hr rb hc.2, ok_shaped hc.1, ok_shaped hc.2, ?_⟩
    rw [eqv_toP 64 _ _ hc.1 hc.2]
    exact h.now hr _ (.bl _)
  · rw [if_neg hc] at h
    exact h.elim⟩
theorem opd_ne (cx : CxR X R E) (hu : X.A.units + 64 < cLine) : OpD X R E (compareOp .NotEq) (eqD true) := ⟨_, op_neD hu, fun S H m x y a b Q hr ra rb h => by
  unfold eqD at h
  by_cases hc : (okD 64 (flatR m a) && okD 64 (flatR m b)) = true
  · rw [if_pos hc] at h
    rw [Bool.and_eq_true] at hc
    rw [cx.K]
    refine ⟨_, _, flat_dp hr ra hc.1, flat_dp hr rb hc.2, ok_shaped hc.1, ok_shaped hc.2, ?_⟩
    rw [eqv_toP 64 _ _ hc.1 hc.2]
    exact h.now hr _ (.bl _)
  · rw [if_neg hc] at h
    exact h.elim⟩
def intB (f : Int → Int → Bool) (a b : D) : M D := fun m => match a, b with
  | .int i, .int j => .ok (.bl (f i j)) m
  | _, _ => .stuck
def intI (f : Int → Int → Int) (c : Int → Int → Bool) (a b : D) : M D := fun m => match a, b with
  | .int i, .int j => if c i j then .ok (.int (f i j)) m else .stuck
  | _, _ => .stuck
theorem intB_out {f : Int → Int → Bool} {S : Sto} {H : Hp} {m : MS} {x y : V} {a b : D} {Q : VK} (hr : HR R S H m) (ra : Rep R S H x a) (rb : Rep R S H y b) (h : RoutG R S H E (PV R Q) (intB f a b m)) : ∃ i j, x = .int i ∧ y = .int j ∧ Q (.bl (f i j)) H := by
  cases a with
  | int i =>
    cases b with
    | int j => exact ⟨i, j, rep_int ra, rep_int rb, RoutG.now (E := E) (show RoutG R S H E (PV R Q) (.ok (.bl (f i j)) m) from h) hr _ (.bl _)⟩
    | _ => exact h.elim
  | _ => cases b <;> exact h.elim
theorem intI_out {f : Int → Int → Int} {c : Int → Int → Bool} {S : Sto} {H : Hp} {m : MS} {x y : V} {a b : D} {Q : VK} (hr : HR R S H m) (ra : Rep R S H x a) (rb : Rep R S H y b) (h : RoutG R S H E (PV R Q) (intI f c a b m)) :
    ∃ i j, x = .int i ∧ y = .int j ∧ c i j = true ∧ Q (.int (f i j)) H := by
  cases a with
  | int i =>
    cases b with
    | int j =>
      unfold intI at h
      dsimp only at h
      by_cases hc : c i j = true
      · rw [if_pos hc] at h
        exact ⟨i, j, rep_int ra, rep_int rb, hc, h.now hr _ (.int _)⟩
      · rw [if_neg hc] at h
        exact h.elim
    | _ => exact h.elim
  | _ => cases b <;> exact h.elim
theorem opd_lt : OpD X R E (compareOp .Lt) (intB fun i j => decide (i < j)) := ⟨_, op_lt, fun _ _ _ _ _ _ _ _ hr ra rb h => intB_out hr ra rb h⟩
theorem opd_le : OpD X R E (compareOp .LtE) (intB fun i j => decide (i ≤ j)) := ⟨_, op_le, fun _ _ _ _ _ _ _ _ hr ra rb h => intB_out hr ra rb h⟩
theorem opd_gt : OpD X R E (compareOp .Gt) (intB fun i j => decide (j < i)) := ⟨_, op_gt, fun _ _ _ _ _ _ _ _ hr ra rb h => intB_out hr ra rb h⟩
theorem opd_ge : OpD X R E (compareOp .GtE) (intB fun i j => decide (j ≤ i)) := ⟨_, op_ge, fun _ _ _ _ _ _ _ _ hr ra rb h => intB_out hr ra rb h⟩
/-- is None, is True, is False (of any value) -/
def isD (neg : Bool) (a b : D) : M D := fun m => match b with
  | .non => .ok (.bl (match a with | .non => !neg | _ => neg)) m
  | .bl k => match a with | .bl j => .ok (.bl (if neg then !decide (j = k) else decide (j = k))) m | _ => .stuck
  | _ => .stuck
theorem rep_is_non {S : Sto} {H : Hp} {x : V} {a : D} (r : Rep R S H x a) : decide (x = V.non) = (match a with | .non => true | _ => false) := by
  cases r <;> simp
theorem opd_is : OpD X R E (compareOp .Is) (isD false) := ⟨_, op_isN.or op_isBl, fun S H m x y a b Q hr ra rb h => by
  unfold isD at h
  cases b with
  | non =>
    refine .inl ⟨rep_non rb, ?_⟩
    have e := rep_is_non ra
    rw [e]
    have h2 := RoutG.now (E := E) h hr _ (.bl _)
    cases a <;> exact h2
  | bl k =>
    cases a with
    | bl j => exact .inr ⟨j, k, rep_bl ra, rep_bl rb, RoutG.now (E := E) h hr _ (.bl _)⟩
    | _ => exact h.elim
  | _ => exact h.elim⟩
theorem opd_isnot : OpD X R E (compareOp .IsNot) (isD true) := ⟨_, op_notN.or op_notBl, fun S H m x y a b Q hr ra rb h => by
  unfold isD at h
  cases b with
  | non =>
    refine .inl ⟨rep_non rb, ?_⟩
    have e := rep_is_non ra
    rw [e]
    have h2 := RoutG.now (E := E) h hr _ (.bl _)
    cases a <;> exact h2
  | bl k =>
    cases a with
    | bl j => exact .inr ⟨j, k, rep_bl ra, rep_bl rb, RoutG.now (E := E) h hr _ (.bl _)⟩
    | _ => exact h.elim
  | _ => exact h.elim⟩

/-! ### in -/
def occ (y x : Str) : Bool := !(Builtin.Str.occurrences y x 0 y.length 1).isEmpty
def inD (neg : Bool) (a b : D) : M D := fun m => match a, flatR m b with
  | .str x, .str y => .ok (.bl (if neg then !occ y x else occ y x)) m
  | a, .lst ys => if okD 63 a && okAll 63 ys then .ok (.bl (if neg then !ys.any (fun z => eqvD z a) else ys.any (fun z => eqvD z a))) m else .stuck
  | _, _ => .stuck
theorem toPs_any (k : Nat) (a : D) (ha : okD k a = true) : ∀ ys : List D, okAll k ys = true → ((toPs ys).any fun z => PyData.eqv z (toP a)) = ys.any fun z => eqvD z a
  | [], _ => rfl
  | y :: ys, h => by
    simp only [okAll, Bool.and_eq_true] at h
    simp only [toPs, List.any_cons]
    rw [eqv_toP k y a h.1 ha, toPs_any k a ha ys h.2]
mutual
theorem okD_succ : ∀ (k : Nat) (d : D), okD k d = true → okD (k + 1) d = true
  | k, d, h => by
    cases d with
    | tup xs =>
      cases k with
      | zero => simp [okD] at h
      | succ k => simp only [okD] at h ⊢; exact okAll_succ k xs h
    | lst xs =>
      cases k with
      | zero => simp [okD] at h
      | succ k => simp only [okD] at h ⊢; exact okAll_succ k xs h
    | str x => simpa [okD] using h
    | non => rfl
    | bl b => rfl
    | int i => rfl
    | _ => cases k <;> simp [okD] at h
theorem okAll_succ : ∀ (k : Nat) (ds : List D), okAll k ds = true → okAll (k + 1) ds = true
  | _, [], _ => rfl
  | k, d :: ds, h => by
    simp only [okAll, Bool.and_eq_true] at h ⊢
    exact ⟨okD_succ k d h.1, okAll_succ k ds h.2⟩
end
theorem inD_out (neg : Bool) (cx : CxR X R E) {S : Sto} {H : Hp} {m : MS} {x y : V} {a b : D} {Q : VK} (hr : HR R S H m) (ra : Rep R S H x a) (rb : Rep R S H y b) (h : RoutG R S H E (PV R Q) (inD neg a b m)) :
    (∃ i j, x = .str i ∧ y = .str j ∧ Q (.bl (if neg then !occ j i else occ j i)) H) ∨
    ∃ d ds, Dp X.K H x d ∧ Dp X.K H y (.list ds) ∧ SeqAt.shaped d = true ∧ SeqAt.shaped (.list ds) = true ∧ Q (.bl (if neg then !ds.any (fun z => PyData.eqv z d) else ds.any fun z => PyData.eqv z d)) H := by
  rw [cx.K]
  have main : ∀ ys, flatR m b = .lst ys → RoutG R S H E (PV R Q) (if okD 63 a && okAll 63 ys then .ok (.bl (if neg then !ys.any (fun z => eqvD z a) else ys.any (fun z => eqvD z a))) m else .stuck) →
      ∃ d ds, Dp R.K H x d ∧ Dp R.K H y (.list ds) ∧ SeqAt.shaped d = true ∧ SeqAt.shaped (.list ds) = true ∧ Q (.bl (if neg then !ds.any (fun z => PyData.eqv z d) else ds.any fun z => PyData.eqv z d)) H := fun ys e h => by
    by_cases hc : (okD 63 a && okAll 63 ys) = true
    · rw [if_pos hc] at h
      rw [Bool.and_eq_true] at hc
      have h64 : okD 64 (flatR m b) = true := by rw [e]; simpa [okD] using hc.2
      have hd := flat_dp hr rb h64
      have hs := ok_shaped h64
      rw [e] at hd hs
      simp only [toP] at hd hs
      refine ⟨toP a, toPs ys, rep_dp 63 ra hc.1, hd, ok_shaped (okD_succ 63 a hc.1), hs, ?_⟩
      rw [toPs_any 63 a hc.1 ys hc.2]
      exact h.now hr _ (.bl _)
    · rw [if_neg hc] at h
      exact h.elim
  unfold inD at h
  cases hb : flatR m b with
  | str yy =>
    rw [hb] at h
    have eb : b = .str yy := by
      cases b with
      | ref n =>
        unfold flatR at hb
        dsimp only at hb
        split at hb <;> cases hb
      | drg =>
        unfold flatR at hb
        dsimp only at hb
        split at hb <;> cases hb
      | _ => exact hb
    cases a with
    | str xx =>
      subst eb
      exact .inl ⟨xx, yy, rep_str ra, rep_str rb, RoutG.now (E := E) (show RoutG R S H E (PV R Q) (.ok (.bl (if neg then !occ yy xx else occ yy xx)) m) from h) hr _ (.bl _)⟩
    | _ => exact h.elim
  | lst ys =>
    rw [hb] at h
    right
    refine main ys hb ?_
    cases a <;> exact h
  | _ =>
    rw [hb] at h
    cases a <;> exact h.elim
theorem opd_in (cx : CxR X R E) (hu : X.A.units + 65 < cLine) : OpD X R E (compareOp .In) (inD false) := ⟨_, op_in_str.or (op_inD hu), fun S H m x y a b Q hr ra rb h => by
  rcases inD_out false cx hr ra rb h with ⟨i, j, h1, h2, h3⟩ | ⟨d, ds, h1, h2, h3, h4, h5⟩
  · exact .inl ⟨i, j, h1, h2, h3⟩
  · exact .inr ⟨d, ds, h1, h2, h3, h4, h5⟩⟩
theorem opd_notin (cx : CxR X R E) (hu : X.A.units + 65 < cLine) : OpD X R E (compareOp .NotIn) (inD true) := ⟨_, op_notIn_str.or (op_notInD hu), fun S H m x y a b Q hr ra rb h => by
  rcases inD_out true cx hr ra rb h with ⟨i, j, h1, h2, h3⟩ | ⟨d, ds, h1, h2, h3, h4, h5⟩
  · exact .inl ⟨i, j, h1, h2, h3⟩
  · exact .inr ⟨d, ds, h1, h2, h3, h4, h5⟩⟩

/-! ### arithmetic -/
def addD (fr : Bool) (a b : D) : M D := fun m => match a, b with
  | .int i, .int j => .ok (.int (i + j)) m
  | .str x, .str y => if x.length + y.length ≤ 1000000 then .ok (.str (x ++ y)) m else .stuck
  | .tup xs, .tup ys => if short (xs ++ ys) then .ok (.tup (xs ++ ys)) m else .stuck
  | a, b => match lstD m a, lstD m b with
    | some xs, some ys => newL fr (xs ++ ys) m
    | _, _ => .stuck
theorem repAll_nil_iff {S : Sto} {H : Hp} {vs : List V} {ds : List D} (r : RepAll R S H vs ds) : vs = [] ↔ ds = [] := by
  cases r <;> simp
theorem add_out (fr : Bool) (cx : CxR X R E) {S : Sto} {H : Hp} {m : MS} {x y : V} {a b : D} {Q : VK} (hr : HR R S H m) (ra : Rep R S H x a) (rb : Rep R S H y b) (h : RoutG R S H E (PV R Q) (addD fr a b m)) :
    (∃ i j, x = .int i ∧ y = .int j ∧ Q (.int (i + j)) H) ∨ (∃ i j, x = .str i ∧ y = .str j ∧ i.length + j.length ≤ sizeLine ∧ Q (.str (i ++ j)) H) ∨ rCatA X.K x y H Q ∨ rCat x y H Q := by
  rw [cx.K]
  have main : ∀ (o : Option (List D)) (o' : Option (List D)), lstD m a = o → lstD m b = o' → RoutG R S H E (PV R Q) (match o, o' with | some xs, some ys => newL fr (xs ++ ys) m | _, _ => .stuck) → rCat x y H Q := fun o o' e e' h => by
    cases o with
    | none => exact h.elim
    | some xs =>
      cases o' with
      | none => exact h.elim
      | some ys =>
        obtain ⟨p, vs, rfl, _, rv, h1⟩ := lstD_out hr ra e
        obtain ⟨q, ws, rfl, _, rw', h2⟩ := lstD_out hr rb e'
        obtain ⟨k1, k2⟩ := newL_out cx.ok hr (rv.app rw') h
        exact ⟨p, q, vs, ws, rfl, rfl, h1, h2, by rw [List.length_append] at k1; exact k1, k2⟩
  unfold addD at h
  cases a with
  | int i =>
    cases b with
    | int j => exact .inl ⟨i, j, rep_int ra, rep_int rb, RoutG.now (E := E) h hr _ (.int _)⟩
    | _ => exact h.elim
  | str i =>
    cases b with
    | str j =>
      dsimp only at h
      by_cases hs : i.length + j.length ≤ 1000000
      · rw [if_pos hs] at h
        exact .inr (.inl ⟨i, j, rep_str ra, rep_str rb, Nat.le_trans hs (by decide), h.now hr _ (.str _)⟩)
      · rw [if_neg hs] at h
        exact h.elim
    | _ => exact h.elim
  | tup xs =>
    cases b with
    | tup ys =>
      dsimp only at h
      by_cases hs : short (xs ++ ys) = true
      · rw [if_pos hs] at h
        refine .inr (.inr (.inl ?_))
        obtain ⟨p, vs, rfl, hq, rv, ht⟩ := tupD_out ra rfl
        obtain ⟨q, ws, rfl, hq', rw', ht'⟩ := tupD_out rb rfl
        have hl := short_line hs
        rw [List.length_append] at hl
        refine ⟨p, q, vs, ws, rfl, rfl, hq, hq', by rw [rv.length, rw'.length]; exact hl, fun e => ?_, fun _ e => ?_, fun _ _ z hz => ?_⟩
        · have : xs = [] := (repAll_nil_iff rv).mp e
          subst this
          exact h.now hr _ (.tup ht' rw')
        · have : ys = [] := (repAll_nil_iff rw').mp e
          subst this
          rw [List.append_nil] at h
          exact h.now hr _ (.tup ht rv)
        · have h' : RoutG R S H E (PV R Q) (newT (xs ++ ys) m) := by
            unfold newT
            rw [if_pos hs]
            exact h
          exact (newT_out cx.ok hr (rv.app rw') h').2 z hz
      · rw [if_neg hs] at h
        exact h.elim
    | _ => exact h.elim
  | lst xs => exact .inr (.inr (.inr (main _ _ rfl rfl (by cases b <;> exact h))))
  | ref n => exact .inr (.inr (.inr (main _ _ rfl rfl (by cases b <;> exact h))))
  | _ => cases b <;> exact h.elim
theorem opd_add (fr : Bool) (cx : CxR X R E) : OpD X R E (binaryOp .Add) (addD fr) := ⟨_, op_add.or (op_add_str.or (op_catA.or op_cat)), fun S H m x y a b Q hr ra rb h => add_out fr cx hr ra rb h⟩
def always : Int → Int → Bool := fun _ _ => true
theorem opd_sub : OpD X R E (binaryOp .Sub) (intI (fun i j => i - j) always) := ⟨_, op_sub, fun S H m x y a b Q hr ra rb h => by
  obtain ⟨i, j, h1, h2, _, h3⟩ := intI_out hr ra rb h
  exact ⟨i, j, h1, h2, h3⟩⟩
/-- may two ints be multiplied -/
def mulOk (i j : Int) : Bool := decide (Builtin.Int.intBits i ≤ 64) || decide (Builtin.Int.intBits j ≤ 64) || decide ((Builtin.Int.intBits i : Int) + (Builtin.Int.intBits j : Int) ≤ 134217728)
theorem op_mulA : OpR X (binaryOp .Mult) (rI (fun i j => mulOk i j = true) fun i j => .int (i * j)) := opI fun i j _ _ _ _ _ hc q => mul_int q (by
  unfold mulOk at hc
  rw [Bool.or_eq_true, Bool.or_eq_true] at hc
  rcases hc with (hc | hc) | hc
  · exact .of_left (of_decide_eq_true hc)
  · exact .of_right (of_decide_eq_true hc)
  · exact CMulX.ok (show CMulX i j from of_decide_eq_true (p := (Builtin.Int.intBits i : Int) + (Builtin.Int.intBits j : Int) ≤ 134217728) hc))
def rStrRep : R2 := fun x y H Q => ∃ z n, x = .str z ∧ y = .int n ∧ z.length ≤ 1000 ∧ n ≤ 1000 ∧ -1000 ≤ n ∧ Q (.str ⟨((List.replicate n.toNat z.cps.toList).flatten).toArray⟩) H
theorem foldl_cps (a : Array Nat) : ∀ (n : Nat) (b : Array Nat), (List.replicate n a).foldl (· ++ ·) b = b ++ ((List.replicate n a.toList).flatten).toArray
  | 0, b => by simp
  | n + 1, b => by
    rw [List.replicate_succ, List.foldl_cons, foldl_cps a n, List.replicate_succ, List.flatten_cons]
    apply Array.ext'
    simp
theorem op_strrep : OpR X (binaryOp .Mult) rStrRep := by
  intro pins s σ H x y v u Q I rx ry h
  obtain ⟨z, n, rfl, rfl, hz, hn, hn0, q⟩ := h
  obtain ⟨t, rfl⟩ := rx
  obtain ⟨t', rfl⟩ := ry
  have hlen : z.length = z.cps.size := rfl
  refine PySem.P.mul_str (by
    have h1 : ¬ n < -(2 ^ 63 : Int) := by omega
    have h2 : ¬ n ≥ 2 ^ 63 := by omega
    rw [decide_eq_false h1, decide_eq_false h2]; rfl) (fun h1 _ hgt => ?_) (fun h1 _ => ?_) ?_
  · have h3 : (2 ^ 63 - 1 : Int) / n ≥ 1000000 := by
      apply (Int.le_ediv_iff_mul_le (by omega)).mpr
      omega
    omega
  · show decide (z.length * n.toNat > sizeLine) = false
    refine decide_eq_false ?_
    have : z.length * n.toNat ≤ 1000 * 1000 := Nat.mul_le_mul hz (by omega)
    rw [sizeLine_eq]
    omega
  · by_cases h1 : n < 1
    · rw [if_pos h1]
      have e : n.toNat = 0 := by omega
      have e0 : (⟨((List.replicate n.toNat z.cps.toList).flatten).toArray⟩ : Str) = Str.empty := by rw [e]; rfl
      rw [e0] at q
      exact ⟨by decide, ⟨.str Str.empty, H, I.tok _, ⟨_, rfl⟩, q⟩⟩
    · rw [if_neg h1]
      by_cases h2 : (n == 1 || z.length == 0) = true
      · rw [if_pos h2]
        have e : (⟨((List.replicate n.toNat z.cps.toList).flatten).toArray⟩ : Str) = z := by
          rw [Bool.or_eq_true] at h2
          have : ((List.replicate n.toNat z.cps.toList).flatten).toArray = z.cps := by
            rcases h2 with h2 | h2
            · have : n = 1 := by simpa using h2
              subst this
              simp
            · have : z.cps.size = 0 := by simpa [hlen] using h2
              have e2 : z.cps = #[] := Array.eq_empty_of_size_eq_zero this
              rw [e2]
              simp
          rw [this]
        rw [e] at q
        exact ⟨.str z, H, I, ⟨_, rfl⟩, q⟩
      · rw [if_neg h2]
        have e := foldl_cps z.cps n.toNat #[]
        rw [Array.empty_append] at e
        show Made.post _ _ _
        rw [e]
        refine ⟨?_, ⟨.str _, H, I.tok _, ⟨_, rfl⟩, q⟩⟩
        show ((List.replicate n.toNat z.cps.toList).flatten).toArray.size ≤ _
        simp only [List.size_toArray, List.length_flatten, List.map_replicate, List.sum_replicate_nat, Array.length_toList]
        have : n.toNat * z.cps.size ≤ 1000 * 1000 := Nat.mul_le_mul (by omega) hz
        first
          | (rw [sizeLine_eq]; omega)
          | omega
end
end TL
end
section
/-! The data layer: more operators, built-in functions. -/
namespace L2
open PySem PySem.Spec PyProof.Rows
theorem tuple_mul1 (l : Addr) (items : Array Value) (n : Nat) (dd : Option Addr) (sl : Array (Option Value)) (x : Int) (u : Tok) (c0 : (decide (x < -(2 ^ 63)) || decide (x ≥ 2 ^ 63)) = false) (c1 : (items.isEmpty || x == 1) = true) :
    Meets (Builtin.«tuple.__mul__» ⟨[.ref l, .int x u], []⟩) (fun _ R s => s.heap.get? l = some { cls := .type "tuple", dict := dd, data := .seq items n, slots := sl } ∧
      R (.ok (.ret (Value.ref l))) s) :=
  .of_wp fun prog w A R s h => by
    obtain ⟨hp, g, d, tk, os⟩ := s
    obtain ⟨hl, h⟩ := h
    have f1 := AutoSeq1.idx_int
    wp_walk using wpAny_loadPart' hl
    repeat (first
      | (refine wpAny_ite_false (decide_eq_false (by rw [c0]; exact Bool.false_ne_true)) ?_; wp_walk using wpAny_loadPart' hl)
      | (refine wpAny_ite_true (decide_eq_true c1) ?_; wp_walk using wpAny_loadPart' hl))
    exact ⟨_, rfl, h⟩
theorem tuple_mul0 (l : Addr) (items : Array Value) (n : Nat) (dd : Option Addr) (sl : Array (Option Value)) (x : Int) (u : Tok) (c0 : (decide (x < -(2 ^ 63)) || decide (x ≥ 2 ^ 63)) = false) (c1 : (items.isEmpty || x == 1) = false) (c2 : (decide (x ≤ 0) || items.isEmpty) = true) :
    Meets (Builtin.«tuple.__mul__» ⟨[.ref l, .int x u], []⟩) (fun _ R s => s.heap.get? l = some { cls := .type "tuple", dict := dd, data := .seq items n, slots := sl } ∧
      R (.ok (.ret (Value.ref s.heap.objs.size))) { s with heap := s.heap.push { cls := Value.type "tuple", data := Data.seq #[] }, toks := s.toks }) :=
  .of_wp fun prog w A R s h => by
    obtain ⟨hp, g, d, tk, os⟩ := s
    obtain ⟨hl, h⟩ := h
    have f1 := AutoSeq1.idx_int
    wp_walk using wpAny_loadPart' hl
    repeat (first
      | (refine wpAny_ite_false (decide_eq_false (by rw [c0]; exact Bool.false_ne_true)) ?_; wp_walk using wpAny_loadPart' hl)
      | (refine wpAny_ite_false (decide_eq_false (by rw [c1]; exact Bool.false_ne_true)) ?_; wp_walk using wpAny_loadPart' hl)
      | (refine wpAny_ite_true (decide_eq_true c2) ?_; wp_walk using wpAny_loadPart' hl))
    exact ⟨_, rfl, h⟩
end L2
namespace L2
open PySem PySem.Spec PyProof.Rows
def rRepA (K : PySem.W.Frag) : R2 := fun x y H Q => ∃ l k xs, x = .ref l ∧ y = .int k ∧ SqT K H l xs ∧ -1000 ≤ k ∧ k ≤ 1000 ∧ xs.length ≤ 1000 ∧
  ((xs = [] ∨ k = 1) → Q (.ref l) H) ∧ (xs ≠ [] → k ≠ 1 → ∀ p, H p = none → Q (.ref p) (upd H p (.tup (List.replicate k.toNat xs).flatten)))
theorem op_repA {X : Cx} : OpR X (binaryOp .Mult) (rRepA X.K) := by
  intro pins s σ H x y v u Q I rx ry h
  obtain ⟨l, k, xs, rfl, rfl, hT, h0, h1, hz, q1, q2⟩ := h
  by_cases hbig : xs ≠ [] ∧ 2 ≤ k
  · exact op_repT pins s σ H _ _ v u Q I rx ry ⟨l, k, xs, rfl, rfl, hT, hbig.1, hbig.2, h1, hz, q2 hbig.1 (by omega)⟩
  · cases rx
    obtain ⟨t, rfl⟩ := ry
    obtain ⟨its, r, ⟨⟨cls, dd, data, sl⟩, ho, hc, n, hd⟩, hs⟩ := I.tuple hT
    simp only at hc hd
    subst hc hd
    have c0 : (decide (k < -(2 ^ 63)) || decide (k ≥ 2 ^ 63)) = false := by
      rw [decide_eq_false (by omega), decide_eq_false (by omega)] <;> rfl
    have hi : its.toArray.isEmpty = decide (xs = []) := by
      cases r <;> simp
    by_cases hsame : xs = [] ∨ k = 1
    · have c1 : (its.toArray.isEmpty || k == 1) = true := by
        rw [hi]
        rcases hsame with e | e
        · rw [decide_eq_true e]; rfl
        · rw [e]; simp
      exact wpAny_binaryOp_repeat_ref (T := "tuple") (U := "int") (by decide) ⟨_, ho, rfl⟩ (fun s' => typeIs_int s' k t) noFill_tuple_mul F.fills_int_mul F.slot_int_rmul repeat_tuple F.slot_int_index.lookup
        (call_meets F.slot_int_rmul (typeIs_int s k t) F.entry_int_rmul (F.args_int_rmul_2 _ _) (int_rmul_tuple k t l its.toArray n dd sl)
          ⟨ho, rfl, ⟨_, ho, rfl⟩, call_meets F.slot_tuple_mul ⟨_, ho, rfl⟩ F.entry_tuple_mul (F.args_tuple_mul_2 _ _) (tuple_mul1 l its.toArray n dd sl k t c0 c1) ⟨ho, .ref l, H, I, rfl, q1 hsame⟩⟩)
    · have hx : xs ≠ [] := fun e => hsame (.inl e)
      have hk1 : k ≠ 1 := fun e => hsame (.inr e)
      have hk : k ≤ 0 := by
        refine Int.not_lt.mp fun z => hbig ⟨hx, ?_⟩
        omega
      have c1 : (its.toArray.isEmpty || k == 1) = false := by
        rw [hi, decide_eq_false hx, Bool.false_or]
        exact beq_eq_false_iff_ne.mpr hk1
      have c2 : (decide (k ≤ 0) || its.toArray.isEmpty) = true := by rw [decide_eq_true hk]; rfl
      have e0 : (List.replicate k.toNat xs).flatten = [] := by
        have : k.toNat = 0 := by omega
        rw [this]; rfl
      have q := q2 hx hk1 s.heap.objs.size (I.hok.fresh (Nat.le_refl _))
      rw [e0] at q
      refine wpAny_binaryOp_repeat_ref (T := "tuple") (U := "int") (by decide) ⟨_, ho, rfl⟩ (fun s' => typeIs_int s' k t) noFill_tuple_mul F.fills_int_mul F.slot_int_rmul repeat_tuple F.slot_int_index.lookup
        (call_meets F.slot_int_rmul (typeIs_int s k t) F.entry_int_rmul (F.args_int_rmul_2 _ _) (int_rmul_tuple k t l its.toArray n dd sl)
          ⟨ho, rfl, ⟨_, ho, rfl⟩, call_meets F.slot_tuple_mul ⟨_, ho, rfl⟩ F.entry_tuple_mul (F.args_tuple_mul_2 _ _) (tuple_mul0 l its.toArray n dd sl k t c0 c1 c2) ⟨ho, ?_⟩⟩)
      refine ⟨.ref s.heap.objs.size, _, I.laid (t' := s.toks) (o := .tup []) (fun b ob q => Heap.get?_push_of_some _ q) (Nat.le_refl _) ?_, rfl, q⟩
      exact ⟨Nat.zero_le _, [], .nil, IsTup.new _ _⟩
end L2
namespace TL
open PySem PySem.Spec PyProof.Rows L2
section
variable {X : Cx} {R : RC} {E : XK}
theorem RepAll.rep {S : Sto} {H : Hp} {vs : List V} {ds : List D} (h : RepAll R S H vs ds) : ∀ k : Nat, RepAll R S H (List.replicate k vs).flatten (List.replicate k ds).flatten
  | 0 => .nil
  | k + 1 => by
    rw [List.replicate_succ, List.replicate_succ, List.flatten_cons, List.flatten_cons]
    exact h.app (RepAll.rep h k)
def mulD (fr : Bool) (a b : D) : M D := fun m => match b with
  | .int k => match a with
    | .int i => if mulOk i k then .ok (.int (i * k)) m else .stuck
    | .str z => if z.length ≤ 1000 ∧ -1000 ≤ k ∧ k ≤ 1000 then .ok (.str ⟨((List.replicate k.toNat z.cps.toList).flatten).toArray⟩) m else .stuck
    | .tup xs => if xs.length ≤ 1000 ∧ -1000 ≤ k ∧ k ≤ 1000 then .ok (.tup (List.replicate k.toNat xs).flatten) m else .stuck
    | a => match lstD m a with
      | some xs => if xs.length ≤ 1000 ∧ -1000 ≤ k ∧ k ≤ 1000 then newL fr (List.replicate k.toNat xs).flatten m else .stuck
      | none => .stuck
  | _ => .stuck
theorem flat_len {α : Type} {xs : List α} {k : Int} (h : xs.length ≤ 1000 ∧ -1000 ≤ k ∧ k ≤ 1000) : (List.replicate k.toNat xs).flatten.length ≤ 1000000 := by
  rw [PyProof.Rows.lm_len_rep_flat]
  exact Nat.mul_le_mul (show k.toNat ≤ 1000 by omega) h.1
theorem mul_out (fr : Bool) (cx : CxR X R E) {S : Sto} {H : Hp} {m : MS} {x y : V} {a b : D} {Q : VK} (hr : HR R S H m) (ra : Rep R S H x a) (rb : Rep R S H y b) (h : RoutG R S H E (PV R Q) (mulD fr a b m)) :
    (∃ i j, x = .int i ∧ y = .int j ∧ mulOk i j = true ∧ Q (.int (i * j)) H) ∨ rStrRep x y H Q ∨ rRepA X.K x y H Q ∨ rRep x y H Q := by
  rw [cx.K]
  unfold mulD at h
  cases b with
  | int k =>
    have ey := rep_int rb
    have main : ∀ (o : Option (List D)), lstD m a = o → RoutG R S H E (PV R Q) (match o with | some xs => (if xs.length ≤ 1000 ∧ -1000 ≤ k ∧ k ≤ 1000 then newL fr (List.replicate k.toNat xs).flatten m else .stuck) | none => .stuck) → rRep x y H Q := fun o e h => by
      cases o with
      | none => exact h.elim
      | some xs =>
        obtain ⟨p, vs, rfl, _, rv, h1⟩ := lstD_out hr ra e
        dsimp only at h
        by_cases hc : xs.length ≤ 1000 ∧ -1000 ≤ k ∧ k ≤ 1000
        · rw [if_pos hc] at h
          obtain ⟨k1, k2⟩ := newL_out cx.ok hr (rv.rep k.toNat) h
          refine ⟨p, k, vs, rfl, ey, h1, by omega, by omega, ?_, k2⟩
          rw [rv.length, sizeLine_eq]
          have := Nat.mul_le_mul hc.1 (show k.toNat ≤ 1000 by omega)
          omega
        · rw [if_neg hc] at h
          exact h.elim
    cases a with
    | int i =>
      dsimp only at h
      by_cases hc : mulOk i k = true
      · rw [if_pos hc] at h
        exact .inl ⟨i, k, rep_int ra, ey, hc, h.now hr _ (.int _)⟩
      · rw [if_neg hc] at h
        exact h.elim
    | str z =>
      dsimp only at h
      by_cases hc : z.length ≤ 1000 ∧ -1000 ≤ k ∧ k ≤ 1000
      · rw [if_pos hc] at h
        exact .inr (.inl ⟨z, k, rep_str ra, ey, hc.1, hc.2.2, hc.2.1, h.now hr _ (.str _)⟩)
      · rw [if_neg hc] at h
        exact h.elim
    | tup xs =>
      dsimp only at h
      by_cases hc : xs.length ≤ 1000 ∧ -1000 ≤ k ∧ k ≤ 1000
      · rw [if_pos hc] at h
        obtain ⟨p, vs, rfl, hq, rv, ht⟩ := tupD_out ra rfl
        refine .inr (.inr (.inl ⟨p, k, vs, rfl, ey, hq, hc.2.1, hc.2.2, by rw [rv.length]; exact hc.1, fun e => ?_, fun _ _ z hz => ?_⟩))
        · refine h.now hr _ ?_
          rcases e with e | e
          · have : xs = [] := (repAll_nil_iff rv).mp e
            subst this
            have e2 : (List.replicate k.toNat ([] : List D)).flatten = [] := by simp
            rw [e2]
            exact .tup ht rv
          · subst e
            have e2 : (List.replicate (1 : Int).toNat xs).flatten = xs := by simp
            rw [e2]
            exact .tup ht rv
        · have h' : RoutG R S H E (PV R Q) (newT (List.replicate k.toNat xs).flatten m) := by
            unfold newT
            rw [if_pos (show short _ = true from decide_eq_true (flat_len hc))]
            exact h
          exact (newT_out cx.ok hr (rv.rep _) h').2 z hz
      · rw [if_neg hc] at h
        exact h.elim
    | lst xs => exact .inr (.inr (.inr (main _ rfl h)))
    | ref n => exact .inr (.inr (.inr (main _ rfl h)))
    | _ => exact h.elim
  | _ => exact h.elim
theorem opd_mul (fr : Bool) (cx : CxR X R E) : OpD X R E (binaryOp .Mult) (mulD fr) := ⟨_, op_mulA.or (op_strrep.or (op_repA.or op_rep)), fun S H m x y a b Q hr ra rb h => mul_out fr cx hr ra rb h⟩
theorem op_fdivA (cx : CxR X R E) : OpR X (binaryOp .FloorDiv) (rI (fun _ j => j ≠ 0) fun i j => .int (i.fdiv j)) := by
  intro pins s σ H x y v u Q I rx ry h
  obtain ⟨i, j, rfl, rfl, hj, q⟩ := h
  obtain ⟨t, rfl⟩ := rx
  obtain ⟨t', rfl⟩ := ry
  exact floordiv_int hj ⟨.int (i.fdiv j), H, I.tok _, ⟨_, rfl⟩, q⟩ (.inr (cx.pyl s I.ok.frames I.nolimit I.bk))
def nz : Int → Int → Bool := fun _ j => j != 0
theorem opd_fdiv (cx : CxR X R E) : OpD X R E (binaryOp .FloorDiv) (intI Int.fdiv nz) := ⟨_, op_fdivA cx, fun S H m x y a b Q hr ra rb h => by
  obtain ⟨i, j, h1, h2, h3, h4⟩ := intI_out hr ra rb h
  exact ⟨i, j, h1, h2, by simpa [nz] using h3, h4⟩⟩
theorem opd_mod : OpD X R E (binaryOp .Mod) (intI Int.fmod nz) := ⟨_, op_modN, fun S H m x y a b Q hr ra rb h => by
  obtain ⟨i, j, h1, h2, h3, h4⟩ := intI_out hr ra rb h
  exact ⟨i, j, h1, h2, by simpa [nz] using h3, h4⟩⟩
def powOk (i j : Int) : Bool := decide (0 ≤ j) && decide (j ≤ 1000) && decide (i.natAbs < 2 ^ 64)
theorem opd_pow : OpD X R E (binaryOp .Pow) (intI (fun i j => i ^ j.toNat) powOk) := ⟨_, op_pow, fun S H m x y a b Q hr ra rb h => by
  obtain ⟨i, j, h1, h2, h3, h4⟩ := intI_out hr ra rb h
  unfold powOk at h3
  rw [Bool.and_eq_true, Bool.and_eq_true] at h3
  exact ⟨i, j, h1, h2, ⟨of_decide_eq_true h3.1.1, Int.le_trans (of_decide_eq_true h3.1.2) (by decide), of_decide_eq_true h3.2⟩, h4⟩⟩
def negD (a : D) : M D := fun m => match a with | .int i => .ok (.int (-i)) m | _ => .stuck
def dNeg (f : FE) : FE := fun ρ => M.bind (f ρ) negD
theorem de_neg {a : Expr} {f : FE} {pos : Pos} (ha : DE X R E a f) : DE X R E (.UnaryOp .USub a pos) (dNeg f) := by
  obtain ⟨t, h1, h2⟩ := ha.ex
  refine ⟨⟨_, pe_un un_neg h1, fun S σ H ρ m Q hr he h => h2 S σ H ρ m _ hr he (h.step fun d m1 H1 S1 e1 r1 q v rv => ?_)⟩⟩
  cases d with
  | int i => exact ⟨i, rep_int rv, RoutG.now (E := E) q r1 _ (.int _)⟩
  | _ => exact q.elim

/-! ### built-in functions -/
def CallD (X : Cx) (R : RC) (E : XK) (f : Value) (g : List D → M D) : Prop :=
  ∃ r, CallR X f r ∧ ∀ S H m xs ds Q, HR R S H m → RepAll R S H xs ds → RoutG R S H E (PV R Q) (g ds m) → r xs H Q
def dCallB (g : List D → M D) (fa : FA) : FE := fun ρ => M.bind (fa ρ) g
variable {x : Str} {p pos : Pos} {e : Expr} {es : List Expr} {fa : FA} {id T : String} {g : List D → M D}
theorem de_callB (hc : CallD X R E (.builtin id) g) (hg : Gl X x) (hm : X.mg x = none) (hv : bootBuiltins x = some (.builtin id)) (ha : DA X R E (e :: es) fa) (hn : x ≠ "__name__" := by decide) (hdb : (x == ("__debug__" : Str)) = false := by decide)
    (he : starEach (e :: es) X.env = (false, eval e X.env) :: starEach es X.env := by rfl) (hpl : (backTo pos (starEach es X.env)).any (·.1) = false := by rfl) : DE X R E (.Call (.Name x p) (e :: es) [] pos) (dCallB g fa) := by
  obtain ⟨r, h1, h2⟩ := hc
  obtain ⟨t, a1, a2⟩ := ha.ex
  exact ⟨⟨_, pe_callB h1 hg hm hv a1 hn hdb he hpl, fun S σ H ρ m Q hr hE h => a2 S σ H ρ m _ hr hE (h.step fun ds m1 H1 S1 e1 r1 q vs rv => h2 S1 H1 m1 vs ds Q r1 rv q)⟩⟩
theorem de_callTy (hc : CallD X R E (.type T) g) (hg : Gl X x) (hm : X.mg x = none) (hv : bootBuiltins x = some (.type T)) (ha : DA X R E (e :: es) fa) (hn : x ≠ "__name__" := by decide) (hdb : (x == ("__debug__" : Str)) = false := by decide)
    (he : starEach (e :: es) X.env = (false, eval e X.env) :: starEach es X.env := by rfl) (hpl : (backTo pos (starEach es X.env)).any (·.1) = false := by rfl) : DE X R E (.Call (.Name x p) (e :: es) [] pos) (dCallB g fa) := by
  obtain ⟨r, h1, h2⟩ := hc
  obtain ⟨t, a1, a2⟩ := ha.ex
  exact ⟨⟨_, pe_callTy h1 hg hm hv a1 hn hdb he hpl, fun S σ H ρ m Q hr hE h => a2 S σ H ρ m _ hr hE (h.step fun ds m1 H1 S1 e1 r1 q vs rv => h2 S1 H1 m1 vs ds Q r1 rv q)⟩⟩
theorem de_callBfun (hc : CallD X R E (.builtin id) g) (hg : Gl X x) (hm : X.mg x = some (.builtin id)) (ha : DA X R E (e :: es) fa) (hdb : (x == ("__debug__" : Str)) = false := by decide)
    (he : starEach (e :: es) X.env = (false, eval e X.env) :: starEach es X.env := by rfl) (hpl : (backTo pos (starEach es X.env)).any (·.1) = false := by rfl) : DE X R E (.Call (.Name x p) (e :: es) [] pos) (dCallB g fa) := by
  obtain ⟨r, h1, h2⟩ := hc
  obtain ⟨t, a1, a2⟩ := ha.ex
  exact ⟨⟨_, pe_callBfun h1 hg hm a1 hdb he hpl, fun S σ H ρ m Q hr hE h => a2 S σ H ρ m _ hr hE (h.step fun ds m1 H1 S1 e1 r1 q vs rv => h2 S1 H1 m1 vs ds Q r1 rv q)⟩⟩
theorem repAll1 {S : Sto} {H : Hp} {xs : List V} {d : D} (r : RepAll R S H xs [d]) : ∃ v, xs = [v] ∧ Rep R S H v d := by
  cases r with
  | cons h t => cases t; exact ⟨_, rfl, h⟩
theorem repAll2 {S : Sto} {H : Hp} {xs : List V} {d e : D} (r : RepAll R S H xs [d, e]) : ∃ v u, xs = [v, u] ∧ Rep R S H v d ∧ Rep R S H u e := by
  cases r with
  | cons h t =>
    cases t with
    | cons h' t' => cases t'; exact ⟨_, _, rfl, h, h'⟩
def arg1 (g : D → M D) (ds : List D) : M D := match ds with | [d] => g d | _ => fun _ => .stuck
def arg2 (g : D → D → M D) (ds : List D) : M D := match ds with | [d, e] => g d e | _ => fun _ => .stuck
theorem arg1_out {g : D → M D} {S : Sto} {H : Hp} {m : MS} {xs : List V} {ds : List D} {Q : VK} (r : RepAll R S H xs ds) (h : RoutG R S H E (PV R Q) (arg1 g ds m)) : ∃ v d, xs = [v] ∧ Rep R S H v d ∧ RoutG R S H E (PV R Q) (g d m) := by
  cases ds with
  | nil => exact h.elim
  | cons d t =>
    cases t with
    | nil => obtain ⟨v, e, rv⟩ := repAll1 r; exact ⟨v, d, e, rv, h⟩
    | cons _ _ => exact h.elim
theorem arg2_out {g : D → D → M D} {S : Sto} {H : Hp} {m : MS} {xs : List V} {ds : List D} {Q : VK} (r : RepAll R S H xs ds) (h : RoutG R S H E (PV R Q) (arg2 g ds m)) : ∃ v u d e, xs = [v, u] ∧ Rep R S H v d ∧ Rep R S H u e ∧ RoutG R S H E (PV R Q) (g d e m) := by
  cases ds with
  | nil => exact h.elim
  | cons d t =>
    cases t with
    | nil => exact h.elim
    | cons e t =>
      cases t with
      | nil => obtain ⟨v, u, e1, rv, ru⟩ := repAll2 r; exact ⟨v, u, d, e, e1, rv, ru, h⟩
      | cons _ _ => exact h.elim
/-- len -/
def lenD (d : D) : M D := fun m => match d with
  | .str s => if s.length ≤ 1000000 then .ok (.int s.length) m else .stuck
  | d => match seqD m d with | some xs => .ok (.int xs.length) m | none => .stuck
theorem call_len_d (cx : CxR X R E) : CallD X R E (.builtin "len") (arg1 lenD) := ⟨_, call_len, fun S H m xs ds Q hr r h => by
  obtain ⟨v, d, rfl, rv, h⟩ := arg1_out r h
  rw [cx.K]
  unfold lenD at h
  have main : ∀ o, seqD m d = o → RoutG R S H E (PV R Q) (match o with | some xs => .ok (.int xs.length) m | none => .stuck) → ∃ x n, [v] = [x] ∧ LenV R.K x H n ∧ Q (.int n) H := fun o e h => by
    cases o with
    | none => exact h.elim
    | some ys =>
      obtain ⟨a, vs, rfl, hq, rvs⟩ := seqD_out hr rv e
      have q := RoutG.now (E := E) h hr _ (.int _)
      refine ⟨_, ys.length, rfl, ?_, q⟩
      rcases hq with hq | hq
      · exact .inl ⟨vs, hq, rvs.length.symm⟩
      · exact .inr ⟨vs, hq, rvs.length.symm⟩
  cases d with
  | str s =>
    dsimp only at h
    by_cases hs : s.length ≤ 1000000
    · rw [if_pos hs] at h
      have e := rep_str rv
      subst e
      exact ⟨_, s.length, rfl, ⟨Nat.le_trans hs (by decide), rfl⟩, h.now hr _ (.int _)⟩
    · rw [if_neg hs] at h
      exact h.elim
  | tup xs => exact main _ rfl h
  | lst xs => exact main _ rfl h
  | scr xs => exact main _ rfl h
  | ref n => exact main _ rfl h
  | _ => exact h.elim⟩
/-- tuple(x) -/
def tupleD (d : D) : M D := fun m => match d with
  | .tup xs => .ok (.tup xs) m
  | d => match seqD m d with | some xs => newT xs m | none => .stuck
theorem call_tuple_d (cx : CxR X R E) : CallD X R E (.type "tuple") (arg1 tupleD) := ⟨_, call_tuple_of, fun S H m xs ds Q hr r h => by
  obtain ⟨v, d, rfl, rv, h⟩ := arg1_out r h
  rw [cx.K]
  unfold tupleD at h
  have main : ∀ o, seqD m d = o → RoutG R S H E (PV R Q) (match o with | some xs => newT xs m | none => .stuck) → (∀ ys, d ≠ .tup ys) → ∃ p ys, [v] = [V.ref p] ∧ ((SqL R.K H p ys ∧ ∀ l, H l = none → Q (.ref l) (upd H l (.tup ys))) ∨ (SqT R.K H p ys ∧ Q (.ref p) H)) := fun o e h hd => by
    cases o with
    | none => exact h.elim
    | some ys =>
      have e' := seqD_cases e
      rcases e' with e' | e' | e'
      · obtain ⟨a, vs, rfl, hq, rvs, _⟩ := lstD_out hr rv e'
        exact ⟨a, vs, rfl, .inl ⟨hq, (newT_out cx.ok hr rvs h).2⟩⟩
      · cases d with
        | tup zs => exact absurd rfl (hd zs)
        | _ => cases e'
      · obtain ⟨a, vs, rfl, hq, rvs⟩ := scrD_out rv e'
        exact ⟨a, vs, rfl, .inl ⟨hq, (newT_out cx.ok hr rvs h).2⟩⟩
  cases d with
  | tup xs =>
    obtain ⟨a, vs, rfl, hq, rvs, ht⟩ := tupD_out rv rfl
    exact ⟨a, vs, rfl, .inr ⟨hq, RoutG.now (E := E) h hr _ (.tup ht rvs)⟩⟩
  | lst xs => exact main _ rfl h (fun _ z => by cases z)
  | scr xs => exact main _ rfl h (fun _ z => by cases z)
  | ref n => exact main _ rfl h (fun _ z => by cases z)
  | _ => exact h.elim⟩
/-- list(x): of a list, a tuple, a text -/
theorem vals_signs : ∀ {vs : List Value} {cs : List Nat}, vs.length = cs.length → (∀ (j : Nat) (v : Value) (c : Nat), vs[j]? = some v → cs[j]? = some c → ∃ t, v = .str ⟨#[c]⟩ t) → Vals (cs.map fun c => V.str ⟨#[c]⟩) vs
  | [], [], _, _ => .nil
  | v :: vs, c :: cs, hl, h => by
    refine .cons (h 0 v c rfl rfl) (vals_signs (by simpa using hl) fun j u d h1 h2 => h (j + 1) u d (by simpa using h1) (by simpa using h2))
  | [], _ :: _, hl, _ => by simp at hl
  | _ :: _, [], hl, _ => by simp at hl
theorem call_list_text (hc : X.calm = true) : CallR X (.type "list") (fun xs H Q => ∃ z : Str, xs = [.str z] ∧ z.length ≤ sizeLine ∧ ∀ l, H l = none → Q (.ref l) (upd H l (.lst (z.cps.toList.map fun c => V.str ⟨#[c]⟩)))) := by
  intro pins s σ H xs us Q I r h
  obtain ⟨z, rfl, hz, q⟩ := h
  obtain ⟨u, rfl, rx⟩ := vals1 r
  obtain ⟨t, rfl⟩ := rx
  refine call_list_str (I.ok.hd hc) z t (fun h' tk acc' c' hk ho hi => ?_) hz
  have hV : Vals (z.cps.toList.map fun c => V.str ⟨#[c]⟩) acc'.toList := by
    refine vals_signs ?_ fun j v c h1 h2 => ?_
    · rw [Array.length_toList, Array.length_toList]
      exact hi.1
    · obtain ⟨c2, u, e1, e2⟩ := hi.2 j v (by simpa using h1)
      have h2' : z.cps[j]? = some c := by simpa using h2
      rw [h2'] at e1
      cases e1
      exact ⟨u, e2⟩
  refine ⟨.ref s.heap.objs.size, _, I.laid (t' := tk) (o := .lst (z.cps.toList.map fun c => V.str ⟨#[c]⟩)) hk (Nat.le_refl _) ?_, rfl, q _ (I.hok.fresh (Nat.le_refl _))⟩
  refine ⟨by rw [List.length_map, Array.length_toList]; exact hz, acc'.toList, c', hV, ?_⟩
  rw [ho]
def listD (fr : Bool) (d : D) : M D := fun m => match d with
  | .str z => newL fr (z.cps.toList.map fun c => D.str ⟨#[c]⟩) m
  | d => match seqD m d with | some xs => newL fr xs m | none => .stuck
theorem repAll_signs {S : Sto} {H : Hp} : ∀ cs : List Nat, RepAll R S H (cs.map fun c => V.str ⟨#[c]⟩) (cs.map fun c => D.str ⟨#[c]⟩)
  | [] => .nil
  | c :: cs => .cons (.str _) (repAll_signs cs)
theorem CallR.or {X : Cx} {f : Value} {r r' : List V → Hp → VK → Prop} (h : CallR X f r) (h' : CallR X f r') : CallR X f (fun xs H Q => r xs H Q ∨ r' xs H Q) := by
  intro pins s σ H xs us Q I rr q
  rcases q with q | q
  · exact h pins s σ H xs us Q I rr q
  · exact h' pins s σ H xs us Q I rr q
theorem call_list_d (fr : Bool) (cx : CxR X R E) : CallD X R E (.type "list") (arg1 (listD fr)) := ⟨_, CallR.or call_list_of (call_list_text cx.calm), fun S H m xs ds Q hr r h => by
  obtain ⟨v, d, rfl, rv, h⟩ := arg1_out r h
  rw [cx.K]
  unfold listD at h
  have main : ∀ o, seqD m d = o → RoutG R S H E (PV R Q) (match o with | some xs => newL fr xs m | none => .stuck) → ∃ p ys, [v] = [V.ref p] ∧ (SqL R.K H p ys ∨ SqT R.K H p ys) ∧ ∀ l, H l = none → Q (.ref l) (upd H l (.lst ys)) := fun o e h => by
    cases o with
    | none => exact h.elim
    | some ys =>
      obtain ⟨a, vs, rfl, hq, rvs⟩ := seqD_out hr rv e
      exact ⟨a, vs, rfl, hq, (newL_out cx.ok hr rvs h).2⟩
  cases d with
  | str z =>
    have e := rep_str rv
    subst e
    obtain ⟨k1, k2⟩ := newL_out cx.ok hr (repAll_signs z.cps.toList) h
    refine .inr ⟨z, rfl, ?_, k2⟩
    rw [List.length_map, Array.length_toList] at k1
    exact k1
  | tup xs => exact .inl (main _ rfl h)
  | lst xs => exact .inl (main _ rfl h)
  | scr xs => exact .inl (main _ rfl h)
  | ref n => exact .inl (main _ rfl h)
  | _ => exact h.elim⟩
def absD (d : D) : M D := fun m => match d with | .int i => .ok (.int (if i < 0 then -i else i)) m | _ => .stuck
theorem call_abs_d : CallD X R E (.builtin "abs") (arg1 absD) := ⟨_, call_abs, fun S H m xs ds Q hr r h => by
  obtain ⟨v, d, rfl, rv, h⟩ := arg1_out r h
  cases d with
  | int i => exact ⟨i, by rw [rep_int rv], RoutG.now (E := E) h hr _ (.int _)⟩
  | _ => exact h.elim⟩
def intD (d : D) : M D := fun m => match d with | .int i => .ok (.int i) m | _ => .stuck
theorem call_int_d : CallD X R E (.type "int") (arg1 intD) := ⟨_, call_int1, fun S H m xs ds Q hr r h => by
  obtain ⟨v, d, rfl, rv, h⟩ := arg1_out r h
  cases d with
  | int i => exact .inl ⟨i, by rw [rep_int rv], RoutG.now (E := E) h hr _ (.int _)⟩
  | _ => exact h.elim⟩
def min2D (a b : D) : M D := fun m => match a, b with | .int i, .int j => .ok (.int (if j < i then j else i)) m | _, _ => .stuck
def max2D (a b : D) : M D := fun m => match a, b with | .int i, .int j => .ok (.int (if j > i then j else i)) m | _, _ => .stuck
theorem call_min2_d (cx : CxR X R E) : CallD X R E (.builtin "min") (arg2 min2D) := ⟨_, call_min2 cx.calm, fun S H m xs ds Q hr r h => by
  obtain ⟨v, u, d, e, rfl, rv, ru, h⟩ := arg2_out r h
  cases d with
  | int i =>
    cases e with
    | int j => exact ⟨i, j, by rw [rep_int rv, rep_int ru], RoutG.now (E := E) (show RoutG R S H E (PV R Q) (.ok (.int (if j < i then j else i)) m) from h) hr _ (.int _)⟩
    | _ => exact h.elim
  | _ => cases e <;> exact h.elim⟩
theorem call_max2_d (cx : CxR X R E) : CallD X R E (.builtin "max") (arg2 max2D) := ⟨_, call_max2 cx.calm, fun S H m xs ds Q hr r h => by
  obtain ⟨v, u, d, e, rfl, rv, ru, h⟩ := arg2_out r h
  cases d with
  | int i =>
    cases e with
    | int j => exact ⟨i, j, by rw [rep_int rv, rep_int ru], RoutG.now (E := E) (show RoutG R S H E (PV R Q) (.ok (.int (if j > i then j else i)) m) from h) hr _ (.int _)⟩
    | _ => exact h.elim
  | _ => cases e <;> exact h.elim⟩
def gcdD (a b : D) : M D := fun m => match a, b with | .int i, .int j => .ok (.int ((Nat.gcd i.natAbs j.natAbs : Nat) : Int)) m | _, _ => .stuck
theorem call_gcd_d : CallD X R E (.builtin "math.gcd") (arg2 gcdD) := ⟨_, cr_gcd, fun S H m xs ds Q hr r h => by
  obtain ⟨v, u, d, e, rfl, rv, ru, h⟩ := arg2_out r h
  cases d with
  | int i =>
    cases e with
    | int j => exact ⟨i, j, by rw [rep_int rv, rep_int ru], RoutG.now (E := E) (show RoutG R S H E (PV R Q) (.ok (.int ((Nat.gcd i.natAbs j.natAbs : Nat) : Int)) m) from h) hr _ (.int _)⟩
    | _ => exact h.elim
  | _ => cases e <;> exact h.elim⟩
def strI (d : D) : M D := fun m => match d with | .int i => if i.natAbs.log2 < 1920 then .ok (.str (toString i : String)) m else .stuck | _ => .stuck
theorem call_str_d : CallD X R E (.type "str") (arg1 strI) := ⟨_, call_str_int, fun S H m xs ds Q hr r h => by
  obtain ⟨v, d, rfl, rv, h⟩ := arg1_out r h
  cases d with
  | int i =>
    unfold strI at h
    dsimp only at h
    by_cases hc : i.natAbs.log2 < 1920
    · rw [if_pos hc] at h
      exact ⟨i, by rw [rep_int rv], hc, h.now hr _ (.str _)⟩
    · rw [if_neg hc] at h
      exact h.elim
  | _ => exact h.elim⟩
/-- all bools, all ints of a list -/
def allB : List D → Option (List Bool)
  | [] => some []
  | .bl b :: r => (allB r).map (b :: ·)
  | _ => none
def allI : List D → Option (List Int)
  | [] => some []
  | .int b :: r => (allI r).map (b :: ·)
  | _ => none
theorem allB_out {S : Sto} {H : Hp} : ∀ {ds : List D} {vs : List V} {bs : List Bool}, RepAll R S H vs ds → allB ds = some bs → vs = bs.map V.bl
  | [], _, _, .nil, h => by cases h; rfl
  | .bl b :: r, _, _, .cons rv rt, h => by
    unfold allB at h
    cases e : allB r with
    | none => rw [e] at h; cases h
    | some cs =>
      rw [e] at h
      cases h
      rw [rep_bl rv, allB_out rt e]
      rfl
theorem allI_out {S : Sto} {H : Hp} : ∀ {ds : List D} {vs : List V} {bs : List Int}, RepAll R S H vs ds → allI ds = some bs → vs = bs.map V.int
  | [], _, _, .nil, h => by cases h; rfl
  | .int b :: r, _, _, .cons rv rt, h => by
    unfold allI at h
    cases e : allI r with
    | none => rw [e] at h; cases h
    | some cs =>
      rw [e] at h
      cases h
      rw [rep_int rv, allI_out rt e]
      rfl
def allD (d : D) : M D := fun m => match (lstD m d).bind allB with | some bs => .ok (.bl (bs.all _root_.id)) m | none => .stuck
def anyD (d : D) : M D := fun m => match (lstD m d).bind allB with | some bs => .ok (.bl (bs.any _root_.id)) m | none => .stuck
def sumD (d : D) : M D := fun m => match (lstD m d).bind allI with | some ns => .ok (.int ns.sum) m | none => .stuck
theorem lstB_out {S : Sto} {H : Hp} {m : MS} {v : V} {d : D} {bs : List Bool} (hr : HR R S H m) (r : Rep R S H v d) (h : (lstD m d).bind allB = some bs) : ∃ a, v = .ref a ∧ SqL R.K H a (bs.map V.bl) := by
  cases e : lstD m d with
  | none => rw [e] at h; cases h
  | some xs =>
    rw [e] at h
    obtain ⟨a, vs, h1, h2, h3, _⟩ := lstD_out hr r e
    have := allB_out h3 h
    subst this
    exact ⟨a, h1, h2⟩
theorem lstI_out {S : Sto} {H : Hp} {m : MS} {v : V} {d : D} {bs : List Int} (hr : HR R S H m) (r : Rep R S H v d) (h : (lstD m d).bind allI = some bs) : ∃ a, v = .ref a ∧ SqL R.K H a (bs.map V.int) := by
  cases e : lstD m d with
  | none => rw [e] at h; cases h
  | some xs =>
    rw [e] at h
    obtain ⟨a, vs, h1, h2, h3, _⟩ := lstD_out hr r e
    have := allI_out h3 h
    subst this
    exact ⟨a, h1, h2⟩
theorem call_all_d (cx : CxR X R E) : CallD X R E (.builtin "all") (arg1 allD) := ⟨_, cr_all cx.calm, fun S H m xs ds Q hr r h => by
  obtain ⟨v, d, rfl, rv, h⟩ := arg1_out r h
  rw [cx.K]
  unfold allD at h
  cases e : (lstD m d).bind allB with
  | none => rw [e] at h; exact h.elim
  | some bs =>
    rw [e] at h
    obtain ⟨a, rfl, hq⟩ := lstB_out hr rv e
    exact ⟨a, bs, rfl, hq, h.now hr _ (.bl _)⟩⟩
theorem call_any_d (cx : CxR X R E) : CallD X R E (.builtin "any") (arg1 anyD) := ⟨_, cr_any cx.calm, fun S H m xs ds Q hr r h => by
  obtain ⟨v, d, rfl, rv, h⟩ := arg1_out r h
  rw [cx.K]
  unfold anyD at h
  cases e : (lstD m d).bind allB with
  | none => rw [e] at h; exact h.elim
  | some bs =>
    rw [e] at h
    obtain ⟨a, rfl, hq⟩ := lstB_out hr rv e
    exact ⟨a, bs, rfl, hq, h.now hr _ (.bl _)⟩⟩
theorem call_sum_d (cx : CxR X R E) : CallD X R E (.builtin "sum") (arg1 sumD) := ⟨_, cr_sum cx.calm, fun S H m xs ds Q hr r h => by
  obtain ⟨v, d, rfl, rv, h⟩ := arg1_out r h
  rw [cx.K]
  unfold sumD at h
  cases e : (lstD m d).bind allI with
  | none => rw [e] at h; exact h.elim
  | some bs =>
    rw [e] at h
    obtain ⟨a, rfl, hq⟩ := lstI_out hr rv e
    exact ⟨a, bs, rfl, hq, h.now hr _ (.int _)⟩⟩
/-! ### isinstance with built-in types -/
def tyN (m : MS) : D → Option Tn
  | .non => some .non
  | .bl _ => some .bool
  | .int _ => some .int
  | .str _ => some .str
  | .tup _ => some .tuple
  | .lst _ => some .list
  | .scr _ => some .list
  | .dct _ => some .dict
  | .ref n => match m.objs[n]? with | some (.lst _) => some .list | some (.dct _) => some .dict | _ => none
  | _ => none
def isT (t T : Tn) : Bool := decide (t = T) || (decide (t = .bool) && decide (T = .int))
def isAny (t : Tn) : List D → Option Bool
  | [] => some false
  | .ty T :: r => (isAny t r).map (isT t T || ·)
  | _ => none
def isiD (d c : D) : M D := fun m => match tyN m d with
  | some t => match c with
    | .ty T => .ok (.bl (isT t T)) m
    | .tup cs => match isAny t cs with | some b => .ok (.bl b) m | none => .stuck
    | _ => .stuck
  | none => .stuck
theorem kit_isT (K : PySem.W.Frag) (t T : Tn) : PySem.W.kitOne K (.type t.name) (.type T.name) = some (isT t T) := by
  cases t <;> cases T <;> exact kit_ty (by decide +kernel)
theorem tyN_out {S : Sto} {H : Hp} {m : MS} {v : V} {d : D} {t : Tn} (hr : HR R S H m) (r : Rep R S H v d) (h : tyN m d = some t) : TyX R.K H v (.type t.name) := by
  cases r with
  | non => cases h; exact .base .non
  | bl b => cases h; exact .base (.bl b)
  | int i => cases h; exact .base (.int i)
  | str x => cases h; exact .base (.str x)
  | tup hl ha =>
    cases h
    rcases hl with hl | ⟨o, its, n, h1, h2, _⟩
    · exact .base (.tup hl.1)
    · exact .kTuple h1 h2
  | lst hl ha => cases h; exact .base (.lst hl.1)
  | dct h1 _ _ _ =>
    cases h
    rcases h1 with h1 | ⟨o, h1⟩
    · exact .base (.dK h1)
    · exact .fDict h1
  | scr h1 _ => cases h; exact .base (.frz h1)
  | @ref n a hn =>
    unfold tyN at h
    dsimp only at h
    cases e : m.objs[n]? with
    | none => rw [e] at h; cases h
    | some o =>
      rw [e] at h
      cases o with
      | lst xs => cases h; obtain ⟨vs, h1, _⟩ := hr.obj n a _ hn e; exact .base (.lst h1)
      | dct kvs => cases h; obtain ⟨vs, h1, _⟩ := hr.obj n a _ hn e; exact .base (.dK h1)
      | ins _ _ => cases h
  | _ => cases h
theorem isAny_out {S : Sto} {H : Hp} {t : Tn} : ∀ {cs : List D} {vs : List V} {b : Bool}, RepAll R S H vs cs → isAny t cs = some b → ∃ us, Paired ClsV vs us ∧ PySem.W.kitAny R.K (.type t.name) us = some b
  | [], _, b, .nil, h => by cases h; exact ⟨[], .nil, rfl⟩
  | .ty T :: r, _, b, .cons rv rt, h => by
    unfold isAny at h
    have e := rep_ty rv
    subst e
    cases e2 : isAny t r with
    | none => rw [e2] at h; cases h
    | some b' =>
      rw [e2] at h
      cases h
      obtain ⟨us, h1, h2⟩ := isAny_out rt e2
      refine ⟨.type T.name :: us, .cons (.ty _) h1, ?_⟩
      refine kitAny_cons (kit_isT _ t T) (fun z => ?_) (fun z => ?_)
      · rw [z]; exact h2
      · rw [z]; rfl
  | .non :: _, _, _, _, h => by cases h
  | .bl _ :: _, _, _, _, h => by cases h
  | .int _ :: _, _, _, _, h => by cases h
  | .str _ :: _, _, _, _, h => by cases h
  | .tup _ :: _, _, _, _, h => by cases h
  | .lst _ :: _, _, _, _, h => by cases h
  | .dct _ :: _, _, _, _, h => by cases h
  | .scr _ :: _, _, _, _, h => by cases h
  | .ref _ :: _, _, _, _, h => by cases h
  | .drw :: _, _, _, _, h => by cases h
  | .fn _ :: _, _, _, _, h => by cases h
  | .clo _ :: _, _, _, _, h => by cases h
  | .exn _ _ :: _, _, _, _, h => by cases h
theorem clsV_all : ∀ {vs : List V} {us ws : List Value}, Paired ClsV vs us → Vals vs ws → ws = us := ClsV.all
theorem call_isi_d (cx : CxR X R E) : CallD X R E (.builtin "isinstance") (arg2 isiD) := ⟨_, CallR.or call_isi (CallR.or call_isiT call_isiK), fun S H m xs ds Q hr r h => by
  obtain ⟨v, u, d, c, rfl, rv, ru, h⟩ := arg2_out r h
  rw [cx.K]
  unfold isiD at h
  cases e : tyN m d with
  | none => rw [e] at h; exact h.elim
  | some t =>
    rw [e] at h
    have ty := tyN_out hr rv e
    cases c with
    | ty T =>
      have e2 := rep_ty ru
      subst e2
      exact .inl ⟨v, _, _, _, isT t T, rfl, .ty _, ty, kit_isT _ t T, RoutG.now (E := E) h hr _ (.bl _)⟩
    | tup cs =>
      dsimp only at h
      cases e2 : isAny t cs with
      | none => rw [e2] at h; exact h.elim
      | some b =>
        rw [e2] at h
        have q := h.now hr _ (.bl b)
        obtain ⟨a, vs, rfl, hq, rvs, ht⟩ := tupD_out ru rfl
        obtain ⟨us, h1, h2⟩ := isAny_out rvs e2
        rcases ht with ht | ⟨o, its, n, k1, k2, k3, k4, k5⟩
        · exact .inr (.inl ⟨v, a, vs, _, us, b, rfl, ht.1, h1, ty, h2, q⟩)
        · have e3 := clsV_all h1 k5
          obtain ⟨oc, od, dt, sl⟩ := o
          simp only at k2 k3
          subst k2 k3
          exact .inr (.inr ⟨v, a, od, us, n, sl, _, b, rfl, by rw [← e3]; simpa using k1, ty, h2, q⟩)
    | _ => exact h.elim⟩
end
end TL
end
section
/-! The data layer: statements. -/
namespace TL
open PySem PySem.Spec PyProof.Rows L2

section
variable {X : Cx} {R : RC} {E : XK} {pos : Pos} {st : Stmt} {rest : List Stmt} {e a b c : Expr} {f fa fb fc : FE} {ga : FB} {u v w : FS}

/-! ### blocks -/
def sNext : FS := fun ρ m => .ok (.next ρ) m
def sSeq (u v : FS) : FS := fun ρ => M.bind (u ρ) fun fl => match fl with
  | .next ρ' => v ρ'
  | fl => fun m => .ok fl m
theorem dss_nil : DSs X R E [] sNext := ⟨⟨_, pss_nil, fun S σ H ρ m Z hr he h => h.now hr σ he⟩⟩
/-- the ends: next is what the rest wants -/
theorem PF_seq {S : Sto} {H : Hp} {m : MS} {Z : Ends} {fl : Fl} {v : FS} {t : TS} (h2 : ∀ S σ H ρ m Z, HR R S H m → ER R S H σ ρ → RoutG R S H E (PF R Z) (v ρ m) → t Z σ H) (hr : HR R S H m)
    (h : RoutG R S H E (PF R Z) ((match fl with | .next ρ' => v ρ' | fl => fun m => .ok fl m : M Fl) m)) : PF R { Z with nx := t Z } fl m H S := by
  cases fl with
  | next ρ' => exact fun σ' he => h2 S σ' H ρ' m Z hr he h
  | ret d => exact fun x r => h.now hr x r
  | brk ρ' => exact fun σ' r => h.now hr σ' r
  | cont ρ' => exact fun σ' r => h.now hr σ' r
theorem dss_cons (h1 : DS X R E st u) (h2 : DSs X R E rest v) : DSs X R E (st :: rest) (sSeq u v) := by
  obtain ⟨t, a1, a2⟩ := h1.ex
  obtain ⟨t', b1, b2⟩ := h2.ex
  exact ⟨⟨_, pss_cons a1 b1, fun S σ H ρ m Z hr he h => a2 S σ H ρ m _ hr he (h.step fun fl m1 H1 S1 e1 r1 q => PF_seq b2 r1 q)⟩⟩
theorem dss_one (h1 : DS X R E st u) : DSs X R E [st] u := by
  obtain ⟨t, a1, a2⟩ := h1.ex
  exact ⟨⟨_, pss_one a1, a2⟩⟩
theorem ds_pass : DS X R E (.Pass pos) sNext := ⟨⟨_, ps_pass, fun S σ H ρ m Z hr he h => h.now hr σ he⟩⟩
def sBrk : FS := fun ρ m => .ok (.brk ρ) m
def sCont : FS := fun ρ m => .ok (.cont ρ) m
theorem ds_brk : DS X R E (.Break pos) sBrk := ⟨⟨_, ps_break, fun S σ H ρ m Z hr he h => h.now hr σ he⟩⟩
theorem ds_cont : DS X R E (.Continue pos) sCont := ⟨⟨_, ps_continue, fun S σ H ρ m Z hr he h => h.now hr σ he⟩⟩
theorem ds_doc {x : Str} {j : Nat} {p : Pos} : DS X R E (.Expr (.Constant (.str x) j p) pos) sNext := ⟨⟨_, ps_doc, fun S σ H ρ m Z hr he h => h.now hr σ he⟩⟩
def sExpr (f : FE) : FS := fun ρ => M.bind (f ρ) fun _ m => .ok (.next ρ) m
theorem ds_expr (cx : CxR X R E) (he : DE X R E e f) (hs : swapsWith e none pos.line X.env = pure false := by rfl) : DS X R E (.Expr e pos) (sExpr f) := by
  obtain ⟨t, a1, a2⟩ := he.ex
  exact ⟨⟨_, ps_expr a1 hs, fun S σ H ρ m Z hr he h => a2 S σ H ρ m _ hr he (h.step fun d m1 H1 S1 e1 r1 q x rx => q.now r1 σ (he.ext cx.ok e1))⟩⟩
def sRet (f : FE) : FS := fun ρ => M.bind (f ρ) fun d m => .ok (.ret d) m
theorem ds_ret (he : DE X R E e f) : DS X R E (.Return (some e) pos) (sRet f) := by
  obtain ⟨t, a1, a2⟩ := he.ex
  exact ⟨⟨_, ps_ret a1, fun S σ H ρ m Z hr he h => a2 S σ H ρ m _ hr he (h.step fun d m1 H1 S1 e1 r1 q x rx => q.now r1 x rx)⟩⟩
def sRetN : FS := fun _ m => .ok (.ret .non) m
theorem ds_retN : DS X R E (.Return none pos) sRetN := ⟨⟨_, ps_retN, fun S σ H ρ m Z hr he h => h.now hr _ .non⟩⟩
def sIf (g : FB) (u v : FS) : FS := fun ρ => M.bind (g ρ) fun k => if k then u ρ else v ρ
theorem ds_if {p q : List Stmt} (cx : CxR X R E) (hc : DT X R E c ga) (ha : DSs X R E p u) (hb : DSs X R E q v) : DS X R E (.If c p q pos) (sIf ga u v) := by
  obtain ⟨tc, c1, c2⟩ := hc.ex
  obtain ⟨ta, a1, a2⟩ := ha.ex
  obtain ⟨tb, b1, b2⟩ := hb.ex
  refine ⟨⟨_, ps_if c1 a1 b1, fun S σ H ρ m Z hr he h => c2 S σ H ρ m _ hr he (h.step fun k m1 H1 S1 e1 r1 q => ?_)⟩⟩
  cases k with
  | true => exact a2 S1 σ H1 ρ m1 Z r1 (he.ext cx.ok e1) q
  | false => exact b2 S1 σ H1 ρ m1 Z r1 (he.ext cx.ok e1) q
/-- code that no run comes to -/
def sNever : FS := fun _ _ => .stuck
theorem ds_never : DS X R E st sNever := ⟨⟨_, ps_never, fun S σ H ρ m Z hr he h => h.elim⟩⟩

/-! ### targets -/
abbrev FG := D → Env' → M Env'
abbrev FGs := List D → Env' → M Env'
def PG' (R : RC) (Q : L2.St → Hp → Prop) : Env' → MS → Hp → Sto → Prop := fun ρ' _ H' S' => ∀ σ', ER R S' H' σ' ρ' → Q σ' H'
structure DG (X : Cx) (R : RC) (E : XK) (tg : Expr) (g : FG) : Prop where
  ex : ∃ t, PG X tg t ∧ ∀ S σ H ρ m v d Q, HR R S H m → ER R S H σ ρ → Rep R S H v d → RoutG R S H E (PG' R Q) (g d ρ m) → t v σ H Q
structure DGs (X : Cx) (R : RC) (E : XK) (tgs : List Expr) (g : FGs) : Prop where
  ex : ∃ t, PGs X tgs t ∧ ∀ S σ H ρ m vs ds Q, HR R S H m → ER R S H σ ρ → RepAll R S H vs ds → RoutG R S H E (PG' R Q) (g ds ρ m) → t vs σ H Q
def gN (i : Nat) : FG := fun d ρ m => .ok (ρ.set i (some d)) m
theorem dg_name {i : Nat} {x : Str} (cx : CxR X R E) (hi : X.N[i]? = some x := by rfl) (hx : Loc X.env.scope x := by first | exact .inl rfl | exact .inr rfl) (hf : X.fn x = true ∨ X.env.scope.names.lookup x = some .local := by first | exact .inl rfl | exact .inr rfl) : DG X R E (.Name x pos) (gN i) :=
  ⟨⟨_, pg_name cx.nd hi hx hf, fun S σ H ρ m v d Q hr he rv h => h.now hr _ (he.set rv)⟩⟩
def gsNil : FGs := fun ds ρ m => match ds with | [] => .ok ρ m | _ => .stuck
def gsCons (g : FG) (h : FGs) : FGs := fun ds ρ => match ds with | d :: ds => M.bind (g d ρ) fun ρ' => h ds ρ' | [] => fun _ => .stuck
theorem dgs_nil : DGs X R E [] gsNil := ⟨⟨_, pgs_nil, fun S σ H ρ m vs ds Q hr he rv h => by
  cases rv with
  | nil => exact ⟨rfl, h.now hr σ he⟩
  | cons _ _ => exact h.elim⟩⟩
theorem dgs_cons {tg : Expr} {tgs : List Expr} {g : FG} {gs : FGs} (cx : CxR X R E) (h1 : DG X R E tg g) (h2 : DGs X R E tgs gs)
    (hs : (assignEach (tg :: tgs) X.env).map (·.2) = assign tg X.env :: (assignEach tgs X.env).map (·.2) := by rfl) : DGs X R E (tg :: tgs) (gsCons g gs) := by
  obtain ⟨t, a1, a2⟩ := h1.ex
  obtain ⟨t', b1, b2⟩ := h2.ex
  refine ⟨⟨_, pgs_cons a1 b1 hs, fun S σ H ρ m vs ds Q hr he rv h => ?_⟩⟩
  cases rv with
  | nil => exact h.elim
  | cons r rr => exact ⟨_, _, rfl, a2 S σ H ρ m _ _ _ hr he r (h.step fun ρ' m1 H1 S1 e1 r1 q σ' he' => b2 S1 σ' H1 ρ' m1 _ _ Q r1 he' (rr.ext cx.ok e1) q)⟩
def gT (n : Nat) (gs : FGs) : FG := fun d ρ m => match tupD d with | some ds => if ds.length = n then gs ds ρ m else .stuck | none => .stuck
theorem dg_tup {es : List Expr} {k : Nat} {gs : FGs} (n : Nat) (cx : CxR X R E) (h : DGs X R E es gs) (hn : (assignEach es X.env).length = n := by rfl) (hst : (assignEach es X.env).findIdx? (·.1) = none := by rfl) : DG X R E (.Tuple es k pos) (gT n gs) := by
  obtain ⟨t, a1, a2⟩ := h.ex
  refine ⟨⟨_, pg_tup (n := n) cx.calm a1 hn hst, fun S σ H ρ m v d Q hr he rv h => ?_⟩⟩
  unfold gT at h
  cases e : tupD d with
  | none => rw [e] at h; exact h.elim
  | some ds =>
    rw [e] at h
    dsimp only at h
    by_cases hl : ds.length = n
    · rw [if_pos hl] at h
      obtain ⟨p, vs, rfl, hq, ra, _⟩ := tupD_out rv e
      rw [cx.K]
      exact ⟨p, vs, rfl, hq, by rw [ra.length]; exact hl, a2 S σ H ρ m _ _ _ hr he ra h⟩
    · rw [if_neg hl] at h
      exact h.elim
/-- l[i] = d, the list one of ours -/
def putD (o i d : D) : M Unit := fun m => match o, i with
  | .ref n, .int k => match m.objs[n]? with
    | some (.lst xs) => (match ixN xs.length k with | some j => .ok () { m with objs := m.objs.set n (.lst (xs.set j d)) } | none => .stuck)
    | _ => .stuck
  | _, _ => .stuck
def gSubD (fo fi : FE) : FG := fun d ρ => M.bind (fo ρ) fun o => M.bind (fi ρ) fun i => M.bind (putD o i d) fun _ m => .ok ρ m
theorem ref_out {S : Sto} {H : Hp} {m : MS} {v : V} {n : Nat} {xs : List D} (hr : HR R S H m) (rv : Rep R S H v (.ref n)) (h : m.objs[n]? = some (.lst xs)) : ∃ a vs, v = .ref a ∧ S.refs[n]? = some a ∧ H a = some (.lst vs) ∧ RepAll R S H vs xs := by
  cases rv with
  | ref hn =>
    obtain ⟨vs, h1, h2⟩ := hr.obj n _ _ hn h
    exact ⟨_, vs, rfl, hn, h1, h2⟩
theorem dg_sub {o i : Expr} {fo fi : FE} (cx : CxR X R E) (ho : DE X R E o fo) (hi : DE X R E i fi)
    (ha : ∀ v, assign (.Subscript o i pos) X.env v = (do
      let ov ← holding [v] (eval o X.env)
      let iv ← holding [v, ov] (eval i X.env)
      standAt pos
      holding [v, ov, iv] (setItem ov iv v)
      release [v, ov, iv] []) := by intro _; rfl) : DG X R E (.Subscript o i pos) (gSubD fo fi) := by
  obtain ⟨t, a1, a2⟩ := ho.ex
  obtain ⟨t', b1, b2⟩ := hi.ex
  refine ⟨⟨_, pg_sub a1 b1 set_list ha, fun S σ H ρ m v d Q hr he rv h => a2 S σ H ρ m _ hr he (h.step fun od m1 H1 S1 e1 r1 q x rx => ?_)⟩⟩
  refine b2 S1 σ H1 ρ m1 _ r1 (he.ext cx.ok e1) (q.step fun id m2 H2 S2 e2 r2 q2 y ry => ?_)
  have rx := rx.ext cx.ok e2
  have rv := rv.ext cx.ok (e1.trans e2)
  have he := he.ext cx.ok (e1.trans e2)
  unfold M.bind putD at q2
  cases od with
  | ref n =>
    cases id with
    | int k =>
      dsimp only at q2
      cases eo : m2.objs[n]? with
      | none => rw [eo] at q2; exact q2.elim
      | some u =>
        rw [eo] at q2
        cases u with
        | lst xs =>
          dsimp only at q2
          obtain ⟨p, vs, rfl, hn, hp, ra⟩ := ref_out r2 rx eo
          cases ej : ixN xs.length k with
          | none => rw [ej] at q2; exact q2.elim
          | some j =>
            rw [ej] at q2
            have ex := Ext.put (o := .lst (vs.set j v)) r2 hn
            refine ⟨p, vs, k, j, rfl, rep_int ry, hp, by rw [ra.length]; exact ej, ?_⟩
            exact q2 _ S2 ex (r2.put cx.ok hn ⟨_, upd_same, (ra.set rv j).ext cx.ok ex⟩) σ (he.ext cx.ok ex)
        | _ => exact q2.elim
    | _ => exact q2.elim
  | _ => exact q2.elim
/-- target = value -/
def sAsg (f : FE) (g : FG) : FS := fun ρ => M.bind (f ρ) fun d => M.bind (g d ρ) fun ρ' m => .ok (.next ρ') m
theorem asg_out {te : TE} {tg : TG} {g : FG} (cx : CxR X R E) (a2 : ∀ S σ H ρ m Q, HR R S H m → ER R S H σ ρ → RoutG R S H E (PV R Q) (f ρ m) → te σ H Q) (b2 : ∀ S σ H ρ m v d Q, HR R S H m → ER R S H σ ρ → Rep R S H v d → RoutG R S H E (PG' R Q) (g d ρ m) → tg v σ H Q)
    {S : Sto} {σ : L2.St} {H : Hp} {ρ : Env'} {m : MS} {Z : Ends} (hr : HR R S H m) (he : ER R S H σ ρ) (h : RoutG R S H E (PF R Z) (sAsg f g ρ m)) : tAsg te tg Z σ H :=
  a2 S σ H ρ m _ hr he (h.step fun d m1 H1 S1 e1 r1 q x rx => b2 S1 σ H1 ρ m1 _ _ _ r1 (he.ext cx.ok e1) rx (q.step fun ρ' m2 H2 S2 e2 r2 q2 σ' he' => q2.now r2 σ' he'))
theorem ds_asg {tg : Expr} {g : FG} (cx : CxR X R E) (he : DE X R E e f) (hg : DG X R E tg g) (hs : swapsWithSole [tg] e pos.line X.env = pure false := by rfl) (hw : swappedStores [tg] e X.env = pure none := by rfl)
    (h1 : (assignEach [tg] X.env).map (·.2) = [assign tg X.env] := by rfl) : DS X R E (.Assign [tg] e pos) (sAsg f g) := by
  obtain ⟨t, a1, a2⟩ := he.ex
  obtain ⟨t', b1, b2⟩ := hg.ex
  exact ⟨⟨_, ps_asg a1 b1 hs hw h1, fun S σ H ρ m Z hr he h => asg_out cx a2 b2 hr he h⟩⟩
theorem ds_set {i : Nat} {x : Str} {p : Pos} (cx : CxR X R E) (he : DE X R E e f) (hi : X.N[i]? = some x := by rfl) (hx : Loc X.env.scope x := by first | exact .inl rfl | exact .inr rfl) (hs : swapsWith e (some (.Name x p)) pos.line X.env = pure false := by rfl)
    (hf : X.fn x = true ∨ X.env.scope.names.lookup x = some .local := by first | exact .inl rfl | exact .inr rfl) : DS X R E (.Assign [.Name x p] e pos) (sAsg f (gN i)) := by
  obtain ⟨t, a1, a2⟩ := he.ex
  exact ⟨⟨_, ps_set cx.nd hi hx a1 hs hf, fun S σ H ρ m Z hr he h => asg_out cx a2 (fun S σ H ρ m v d Q hr he rv h => h.now hr _ (he.set rv)) hr he h⟩⟩
def sPar2 (i j : Nat) (g : FA) : FS := fun ρ => M.bind (g ρ) fun ds => match ds with
  | [d, d'] => fun m => .ok (.next ((ρ.set i (some d)).set j (some d'))) m
  | _ => fun _ => .stuck
theorem ds_par2 {i j : Nat} {x y : Str} {g : FA} {px py pt : Pos} {kt k2 : Nat} {pt2 : Pos} (cx : CxR X R E) (ha : DA X R E [a, b] g) (hi : X.N[i]? = some x := by rfl) (hj : X.N[j]? = some y := by rfl) (hij : i ≠ j := by decide)
    (hx : X.env.scope.names.lookup x = some .local := by rfl) (hy : X.env.scope.names.lookup y = some .local := by rfl)
    (hw : swappedStores [.Tuple [.Name x px, .Name y py] kt pt] (.Tuple [a, b] k2 pt2) X.env = pure (some [x, y]) := by rfl)
    (hs : swapsWithSole [.Tuple [.Name x px, .Name y py] kt pt] (.Tuple [a, b] k2 pt2) pos.line X.env = pure false := by rfl) :
    DS X R E (.Assign [.Tuple [.Name x px, .Name y py] kt pt] (.Tuple [a, b] k2 pt2) pos) (sPar2 i j g) := by
  obtain ⟨t, a1, a2⟩ := ha.ex
  refine ⟨⟨_, ps_par cx.calm cx.nd hi hj hij hx hy a1 hw hs, fun S σ H ρ m Z hr he h => a2 S σ H ρ m _ hr he (h.step fun ds m1 H1 S1 e1 r1 q vs rv => ?_)⟩⟩
  cases rv with
  | cons r rr =>
    cases rr with
    | cons r' rr =>
      cases rr with
      | nil => exact ⟨_, _, rfl, q.now r1 _ (((he.ext cx.ok e1).set r).set r')⟩
      | cons _ _ => exact q.elim
    | nil => exact q.elim
  | nil => exact q.elim
def sPar3 (i j l : Nat) (g : FA) : FS := fun ρ => M.bind (g ρ) fun ds => match ds with
  | [d, d', d2] => fun m => .ok (.next (((ρ.set i (some d)).set j (some d')).set l (some d2))) m
  | _ => fun _ => .stuck
theorem ds_par3 {i j l : Nat} {x y z : Str} {g : FA} {px py pz pt : Pos} {kt k2 : Nat} {pt2 : Pos} (cx : CxR X R E) (ha : DA X R E [a, b, c] g) (hi : X.N[i]? = some x := by rfl) (hj : X.N[j]? = some y := by rfl) (hl : X.N[l]? = some z := by rfl) (hij : i ≠ j := by decide) (hil : i ≠ l := by decide) (hjl : j ≠ l := by decide)
    (hx : X.env.scope.names.lookup x = some .local := by rfl) (hy : X.env.scope.names.lookup y = some .local := by rfl) (hz : X.env.scope.names.lookup z = some .local := by rfl)
    (hw : swappedStores [.Tuple [.Name x px, .Name y py, .Name z pz] kt pt] (.Tuple [a, b, c] k2 pt2) X.env = pure (some [x, y, z]) := by rfl)
    (hs : swapsWithSole [.Tuple [.Name x px, .Name y py, .Name z pz] kt pt] (.Tuple [a, b, c] k2 pt2) pos.line X.env = pure false := by rfl) :
    DS X R E (.Assign [.Tuple [.Name x px, .Name y py, .Name z pz] kt pt] (.Tuple [a, b, c] k2 pt2) pos) (sPar3 i j l g) := by
  obtain ⟨t, a1, a2⟩ := ha.ex
  refine ⟨⟨_, ps_par3 cx.calm cx.nd hi hj hl hij hil hjl hx hy hz a1 hw hs, fun S σ H ρ m Z hr he h => a2 S σ H ρ m _ hr he (h.step fun ds m1 H1 S1 e1 r1 q vs rv => ?_)⟩⟩
  cases rv with
  | cons r rr =>
    cases rr with
    | cons r' rr =>
      cases rr with
      | nil => exact q.elim
      | cons r2 rr =>
        cases rr with
        | nil => exact ⟨_, _, _, rfl, q.now r1 _ ((((he.ext cx.ok e1).set r).set r').set r2)⟩
        | cons _ _ => exact q.elim
    | nil => exact q.elim
  | nil => exact q.elim

/-! ### while -/
/-- turns with fuel n -/
def loopW (g : FB) (body : FS) : Nat → FS
  | 0, _, _ => .stuck
  | n + 1, ρ, m => M.bind (g ρ) (fun k => if k then M.bind (body ρ) (fun fl => match fl with
    | .next ρ' => loopW g body n ρ'
    | .cont ρ' => loopW g body n ρ'
    | .brk ρ' => fun m => .ok (.next ρ') m
    | .ret d => fun m => .ok (.ret d) m) else fun m => .ok (.next ρ) m) m
def isStuck {α : Type} : Res α → Bool
  | .stuck => true
  | _ => false
open Classical in
/-- a while: with the least fuel that is enough -/
noncomputable def sWhile (g : FB) (body : FS) : FS := fun ρ m => if h : ∃ n, loopW g body n ρ m ≠ .stuck then loopW g body (Classical.choose h) ρ m else .stuck
theorem bind_mono {α β : Type} {x : M α} {k k' : α → M β} {m : MS} (hk : ∀ a m', k a m' ≠ .stuck → k' a m' = k a m') (h : M.bind x k m ≠ .stuck) : M.bind x k' m = M.bind x k m := by
  unfold M.bind at *
  cases e : x m with
  | ok a m' => rw [e] at h; exact hk a m' h
  | raise c fs m' => rfl
  | stuck => rfl
theorem loopW_mono (g : FB) (body : FS) : ∀ (n k : Nat) (ρ : Env') (m : MS), loopW g body n ρ m ≠ .stuck → loopW g body (n + k) ρ m = loopW g body n ρ m
  | 0, _, _, _, h => absurd rfl h
  | n + 1, k, ρ, m, h => by
    rw [Nat.add_right_comm]
    unfold loopW at h ⊢
    refine bind_mono (fun b m1 h1 => ?_) h
    cases b with
    | false => rfl
    | true =>
      refine bind_mono (fun fl m2 h2 => ?_) h1
      cases fl with
      | next ρ' => exact loopW_mono g body n k ρ' m2 h2
      | cont ρ' => exact loopW_mono g body n k ρ' m2 h2
      | brk ρ' => rfl
      | ret d => rfl
theorem loopW_det {g : FB} {body : FS} {n k : Nat} {ρ : Env'} {m : MS} (h : loopW g body n ρ m ≠ .stuck) (h' : loopW g body k ρ m ≠ .stuck) : loopW g body n ρ m = loopW g body k ρ m := by
  rcases Nat.le_total n k with l | l
  · obtain ⟨j, rfl⟩ := Nat.le.dest l
    exact (loopW_mono g body n j ρ m h).symm
  · obtain ⟨j, rfl⟩ := Nat.le.dest l
    exact loopW_mono g body k j ρ m h'
/-- the while's value, by any fuel that is enough -/
theorem sWhile_eq {g : FB} {body : FS} (n : Nat) {ρ : Env'} {m : MS} {r : Res Fl} (h : loopW g body n ρ m = r) (hn : r ≠ .stuck) : sWhile g body ρ m = r := by
  have hx : ∃ n, loopW g body n ρ m ≠ .stuck := ⟨n, by rw [h]; exact hn⟩
  unfold sWhile
  rw [dif_pos hx, ← h]
  exact loopW_det (Classical.choose_spec hx) (by rw [h]; exact hn)
theorem ds_while {body : List Stmt} (cx : CxR X R E) (hc : DT X R E c ga) (hb : DSs X R E body u) : DS X R E (.While c body [] pos) (sWhile ga u) := by
  obtain ⟨tc, c1, c2⟩ := hc.ex
  obtain ⟨tb, b1, b2⟩ := hb.ex
  refine ⟨⟨_, ps_while cx.po c1 b1, fun S0 σ0 H0 ρ0 m0 Z hr0 he0 h0 => ?_⟩⟩
  unfold sWhile at h0
  by_cases hx : ∃ n, loopW ga u n ρ0 m0 ≠ .stuck
  · rw [dif_pos hx] at h0
    generalize Classical.choose hx = n0 at h0
    refine ⟨fun n σ H => ∃ S ρ m, HR R S H m ∧ ER R S H σ ρ ∧ RoutG R S H E (PF R Z) (loopW ga u n ρ m), ⟨n0, S0, ρ0, m0, hr0, he0, h0⟩, ?_⟩
    rintro n σ H ⟨S, ρ, m, hr, he, h⟩
    cases n with
    | zero => exact h.elim
    | succ n =>
      unfold loopW at h
      refine c2 S σ H ρ m _ hr he (h.step fun k m1 H1 S1 e1 r1 q => ?_)
      cases k with
      | false => exact RoutG.now (R := R) (E := E) q r1 σ (he.ext cx.ok e1)
      | true =>
        refine ⟨fun σ' H' => ∃ S ρ m, HR R S H' m ∧ ER R S H' σ' ρ ∧ RoutG R S H' E (PF R Z) (loopW ga u n ρ m), fun σ' H' w => ⟨n, Nat.lt_succ_self n, w⟩, ?_⟩
        refine b2 S1 σ H1 ρ m1 _ r1 (he.ext cx.ok e1) ((show RoutG R S1 H1 E (PF R Z) (M.bind (u ρ) _ m1) from q).step fun fl m2 H2 S2 e2 r2 q2 => ?_)
        cases fl with
        | next ρ' => exact fun σ' he' => ⟨S2, ρ', m2, r2, he', q2⟩
        | cont ρ' => exact fun σ' he' => ⟨S2, ρ', m2, r2, he', q2⟩
        | brk ρ' => exact fun σ' he' => q2.now r2 σ' he'
        | ret d => exact fun x rx => q2.now r2 x rx
  · rw [dif_neg hx] at h0
    exact h0.elim
end
end TL
end
section
/-! The data layer: what a loop walks; enumerate, zip of lists and tuples in any mix. -/
namespace TL
open PySem PySem.Spec PyProof.Rows L2

/-! ### a list or a tuple -/
inductive Kd where
  | l | t
def Kd.it : Kd → Heap → Addr → Addr → Nat → Prop
  | .l, h, i, a, n => h.IsListIter i a n
  | .t, h, i, a, n => h.IsTupleIter i a n
def Kd.isq : Kd → Heap → Addr → Array Value → Prop
  | .l, h, a, xs => h.IsList a xs
  | .t, h, a, xs => h.IsTuple a xs
def Kd.sq : Kd → PySem.W.Frag → Hp → Addr → List V → Prop
  | .l, K, H, a, xs => SqL K H a xs
  | .t, K, H, a, xs => SqT K H a xs
def Kd.obj : Kd → Addr → Obj
  | .l, a => { cls := .type "list_iterator", data := .fields #[.ref a, .int 0 0] }
  | .t, a => { cls := .type "tuple_iterator", data := .fields #[.ref a, .int 0 0] }
theorem Kd.it_new (k : Kd) {h : Heap} {i a : Addr} (e : h.get? i = some (k.obj a)) : k.it h i a 0 := by
  cases k
  · exact ⟨_, e, rfl, rfl⟩
  · exact ⟨_, e, rfl, rfl⟩
theorem Kd.it_at (k : Kd) {h h' : Heap} {i a : Addr} {n : Nat} (st : k.it h i a n) (f : ∀ o, h.get? i = some o → h'.get? i = some o) : k.it h' i a n := by
  cases k
  · obtain ⟨o, e, c, d⟩ := st
    exact ⟨o, f o e, c, d⟩
  · obtain ⟨o, e, c, d⟩ := st
    exact ⟨o, f o e, c, d⟩
theorem Kd.it_obj (k : Kd) {h : Heap} {i a : Addr} {n : Nat} (st : k.it h i a n) : ∃ o, h.get? i = some o ∧ ∀ v, o.data ≠ .cell v := by
  cases k
  · obtain ⟨o, e, c, d⟩ := st
    exact ⟨o, e, fun v z => by rw [d] at z; cases z⟩
  · obtain ⟨o, e, c, d⟩ := st
    exact ⟨o, e, fun v z => by rw [d] at z; cases z⟩
section
variable {X : Cx} {pins : List (Addr × Obj)} {σ : L2.St} {H : Hp} {s : Shared} {a : Addr} {xs ys : List V}
theorem Kd.reads (k : Kd) (I : Inv X pins σ H s) (h : k.sq X.K H a xs) : ∃ its : List Value, Vals xs its ∧ k.isq s.heap a its.toArray ∧ xs.length ≤ sizeLine ∧ a < s.heap.objs.size := by
  cases k
  · obtain ⟨its, rv, p, hz⟩ := I.list h
    exact ⟨its, rv, p.isList, hz, p.lt⟩
  · obtain ⟨its, rv, p, hz⟩ := I.tuple h
    obtain ⟨o, ho, _⟩ := id p
    exact ⟨its, rv, p, hz, Heap.lt_size ho⟩
theorem Kd.inj (k : Kd) (I : Inv X pins σ H s) (h : k.sq X.K H a xs) (h' : k.sq X.K H a ys) : xs = ys := by
  cases k
  · exact I.list_inj h h'
  · exact I.tuple_inj h h'
end
theorem Kd.draws (k : Kd) {prog : Program} {w : World} {A : Around} (hh : A.handled = none) (it l : Addr) (hne : l ≠ it) (items : Array Value) :
    Draws prog w A it [it, l] items.size (fun i v => items[i]? = some v) (fun i h => k.it h it l i ∧ k.isq h l items) := by
  cases k
  · exact Draws.list hh it l hne items
  · exact Draws.tuple hh it l hne items
theorem Kd.begins (k : Kd) (l : Addr) (items : Array Value) : Begins (.ref l) (k.obj l) fun h => k.isq h l items := by
  cases k
  · exact begins_list l items
  · exact begins_tuple l items

/-! ### enumerate -/
def ItE (K : PySem.W.Frag) (k : Kd) (a : Addr) : It :=
  ⟨fun i H => ∃ (xs : List V) (x : V), k.sq K H a xs ∧ xs[i]? = some x, fun i H v H' => ∃ T x, v = .ref T ∧ H T = none ∧ H' = upd H T (.tup [.int (i : Nat), x]) ∧ ∀ xs, k.sq K H a xs → xs[i]? = some x, fun i H => ∃ xs : List V, k.sq K H a xs ∧ xs.length = i⟩
theorem turn_enumD {P : Program} {w : World} {K : PySem.W.Frag} {elts : List Expr} {kk : Nat} {tpos : Pos} (k : Kd) (a e it : Addr) (hei : e ≠ it) (hea : e ≠ a) (hai : a ≠ it) :
    Turn P w K (.Tuple elts kk tpos) (ItE K k a) [e, it] e (fun i h => (∃ old, IsEnum h e it (0 + ((i : Nat) : Int)) old) ∧ k.it h it a i) where
  mem := by simp
  obj := fun i h st b hb => by
    obtain ⟨⟨old, he⟩, hi⟩ := st
    have e' : b = e ∨ b = it := by simpa using hb
    rcases e' with z | z
    · rw [z]; exact ⟨_, he, fun v q => nomatch q⟩
    · rw [z]; exact k.it_obj hi
  keep := fun i h h' st f => let ⟨⟨old, he⟩, hi⟩ := st; ⟨⟨old, f e (by simp) _ he⟩, k.it_at hi fun o q => f it (by simp) o q⟩
  item := by
    intro X hP hw hK hc i pins s σ H E I hf st hg
    subst hP hw hK
    obtain ⟨he, hit⟩ := st
    obtain ⟨xs, x, hq, hx⟩ := hg
    obtain ⟨its, rv, p, hz, _⟩ := k.reads I hq
    obtain ⟨u, hu, ru⟩ := rv.get hx
    have hlt : i < its.toArray.size := by
      have := (List.getElem?_eq_some_iff.mp hu).1
      simpa using this
    have hd := k.draws (prog := X.prog) (w := X.w) (A := X.A.in1) (I.ok.hd hc) it a hai its.toArray
    have W := GoesN.enumFrom (elts := elts) (x1 := kk) (pos := tpos) 0 hd e hei (by simp [hei, hea]) (by simp)
    refine W.goes i s _ _ hlt ⟨he, hit, p⟩ fun v h' tk hY st' hk htk => ?_
    obtain ⟨T, t, u', rfl, hT, hu', hTt⟩ := hY
    have eu : u' = u := by
      have hu2 : its.toArray[i]? = some u := by simpa using hu
      rw [hu2] at hu'
      exact (Option.some.inj hu').symm
    subst eu
    have new : ObjOk X.prog X.w (upd H T (.tup [.int (i : Nat), x])) h' T (.tup [.int (i : Nat), x]) :=
      ⟨by show 2 ≤ sizeLine; decide, [.int (0 + (i : Int)) t, u'], .cons ⟨_, by rw [Int.zero_add]⟩ (.cons ru .nil), hTt⟩
    have I1 : Inv X pins σ (upd H T (.tup [.int (i : Nat), x])) { s with heap := h', toks := tk } :=
      I.turnedNew (ch := [e, it]) (fun b o hb q => hk b o hb q) hf hT new
    refine ⟨.ref T, _, I1, rfl, ⟨T, x, rfl, I.hok.fresh hT, rfl, fun ys hy => by rw [k.inj I hy hq]; exact hx⟩, ⟨st'.1, st'.2.1⟩, fun b hb => ?_⟩
    have hb' : b < s.heap.objs.size := by
      have e' : b = e ∨ b = it := by simpa using hb
      rcases e' with z | z
      · rw [z]; obtain ⟨_, h⟩ := he; exact Heap.lt_size h
      · rw [z]; obtain ⟨_, h, _⟩ := k.it_obj hit; exact Heap.lt_size h
    rw [upd_ne (Nat.ne_of_lt (Nat.lt_of_lt_of_le hb' hT))]
    exact (hf b hb).1
  done := by
    intro X hP hw hK hc i pins s σ H E I hf st hg
    subst hP hw hK
    obtain ⟨he, hit⟩ := st
    obtain ⟨xs, hq, hx⟩ := hg
    obtain ⟨its, rv, p, hz, _⟩ := k.reads I hq
    have hl := rv.length
    have hd := k.draws (prog := X.prog) (w := X.w) (A := X.A.in1) (I.ok.hd hc) it a hai its.toArray
    have W := GoesN.enumFrom (elts := elts) (x1 := kk) (pos := tpos) 0 hd e hei (by simp [hei, hea]) (by simp)
    have hn : its.toArray.size = i := by simp; omega
    refine W.stops s (fun s1 => Inv X pins σ H s1) _ ?_ fun h' tk hk htk => I.turnedL (ch := [e, it]) (fun b o hb q => hk b o hb q) hf
    rw [hn]
    exact ⟨he, hit, p⟩
  self := fun A i s Q E st h => let ⟨⟨_, he⟩, _⟩ := st; wpAny_pyIter_enum he h
def iEnumD (K : PySem.W.Frag) (ta : TA) : TI := fun σ H R => ta σ H fun vs H1 => ∃ a xs k, vs = [.ref a] ∧ Kd.sq k K H1 a xs ∧ R (ItE K k a) H1
set_option maxHeartbeats 1000000 in
theorem meets_enum1 {v : Value} {o : Obj} {H : Heap → Prop} (B : Begins v o H) :
    Meets (Builtin.«enumerate.__new__» ⟨[.type "enumerate", v], []⟩) (fun _ R s => H s.heap ∧
      R (.ok (.ret (.ref (s.heap.push o).objs.size))) { s with heap := (s.heap.push o).push { cls := .type "enumerate", data := .fields #[.none, .bool false, .ref s.heap.objs.size, rawInt 0, .none, .none] } }) :=
  .of_wp fun prog w A R s h => by
    obtain ⟨hp, g, d, tk, os⟩ := s; obtain ⟨h1, h⟩ := h
    have hsub := sub_enumerate
    have q1 : ∀ {A' : Around} {E : Value → Shared → Prop} {Q : Value → Shared → Prop}, Q (.ref hp.objs.size) ⟨hp.push o, g, d, tk, os⟩ → wpAny (model prog w) A' (pyIter v) Q E ⟨hp, g, d, tk, os⟩ :=
      fun q => B.iter prog w _ _ ⟨hp, g, d, tk, os⟩ _ h1 q
    wp_walk using q1
    refine wpAny_stack_any fun st => wpAny_pure ?_
    split
    · rename_i c _ _ _ _ _
      cases (c == Value.type "enumerate")
      · wp_walk using q1
        exact ⟨_, rfl, h⟩
      · wp_walk using q1
        exact ⟨_, rfl, h⟩
    · wp_walk using q1
      exact ⟨_, rfl, h⟩
theorem call_enum1 {prog : Program} {w : World} {A : Around} {E : Value → Shared → Prop} {s : Shared} {v : Value} {o : Obj} {H : Heap → Prop} {Q : Value → Shared → Prop} (B : Begins v o H) (h1 : H s.heap)
    (h : ∀ h', IsEnum h' (s.heap.objs.size + 1) s.heap.objs.size 0 .none → h'.get? s.heap.objs.size = some o → h'.objs.size = s.heap.objs.size + 2 →
      (∀ b o, s.heap.get? b = some o → h'.get? b = some o) → Q (.ref (s.heap.objs.size + 1)) { s with heap := h' }) :
    wpAny (model prog w) A (call (.type "enumerate") [v]) Q E s := by
  refine callType_new F.called_enumerate (by decide) (F.typeCall_enumerate_1 _) (F.newCall_enumerate_1 _) (fun obj => F.args_object_init_2 obj _) F.entry_enumerate_new (meets_enum1 B) ⟨h1, ?_⟩
  have hz : (s.heap.push o).objs.size = s.heap.objs.size + 1 := Heap.size_push ..
  show _ ∧ _
  rw [hz]
  have he : IsEnum ((s.heap.push o).push { cls := .type "enumerate", data := .fields #[.none, .bool false, .ref s.heap.objs.size, rawInt 0, .none, .none] }) (s.heap.objs.size + 1) s.heap.objs.size 0 .none := by
    have := Heap.get?_push_size (s.heap.push o) (o := { cls := .type "enumerate", data := .fields #[.none, .bool false, .ref s.heap.objs.size, rawInt 0, .none, .none] }) rfl
    rw [hz] at this; exact this
  refine ⟨⟨_, he, rfl⟩, h _ he (Heap.get?_push_of_some _ (Heap.get?_push_size _ B.free)) (by rw [Heap.size_push, hz]) fun b o x => Heap.get?_push_of_some _ (Heap.get?_push_of_some _ x)⟩
theorem pi_enumD {X : Cx} {e : Expr} {ta : TA} {p pos tpos : Pos} {elts : List Expr} {kk : Nat} (hg : Gl X "enumerate") (hm : X.mg "enumerate" = none) (ha : PA X [e] ta) (hs : starEach [e] X.env = [(false, eval e X.env)] := by rfl) :
    PI X (.Tuple elts kk tpos) (.Call (.Name "enumerate" p) [e] [] pos) (iEnumD X.K ta) := by
  refine ⟨fun pins s σ H R I h => ?_⟩
  refine Call_ (ld_blt I hg hm boot_enumerate (PyProof.Rows.callWith_type1 (thn (ha.run pos pins s σ H _ I h) fun us s1 ⟨vs, H1, I1, r1, q1⟩ => ?_) hs rfl))
  obtain ⟨a, xs, k, ex, hq, q⟩ := q1
  subst ex
  cases r1 with
  | cons r rr =>
    cases rr
    cases r
    obtain ⟨its, rv, p', hz, hlt⟩ := k.reads I1 hq
    refine call_enum1 (k.begins a its.toArray) p' fun h' he hit hsz hk => wpAny_pyIter_enum he ?_
    have I2 : Inv X pins σ H1 { s1 with heap := h' } := I1.kept (t' := s1.toks) hk
    refine ⟨s1.heap.objs.size + 1, [s1.heap.objs.size + 1, s1.heap.objs.size], _, _, H1, rfl, I2, turn_enumD k a (s1.heap.objs.size + 1) s1.heap.objs.size (Nat.succ_ne_self _) (Nat.ne_of_gt (Nat.lt_succ_of_lt hlt)) (Nat.ne_of_lt hlt), ⟨⟨.none, he⟩, k.it_new hit⟩, fun b hb => ?_, q⟩
    have e' : b = s1.heap.objs.size + 1 ∨ b = s1.heap.objs.size := by simpa using hb
    have hle : s1.heap.objs.size ≤ b := by
      rcases e' with z | z
      · rw [z]; exact Nat.le_add_right _ _
      · rw [z]; exact Nat.le_refl _
    exact I1.fpOk hle (I1.hok.fresh hle)

/-! ### zip of two -/
def ItZ2 (K : PySem.W.Frag) (k1 k2 : Kd) (a b : Addr) : It :=
  ⟨fun i H => ∃ (xs ys : List V) (x y : V), k1.sq K H a xs ∧ k2.sq K H b ys ∧ xs[i]? = some x ∧ ys[i]? = some y,
    fun i H v H' => ∃ T x y, v = .ref T ∧ H T = none ∧ H' = upd H T (.tup [x, y]) ∧ (∀ xs, k1.sq K H a xs → xs[i]? = some x) ∧ ∀ ys, k2.sq K H b ys → ys[i]? = some y,
    fun i H => ∃ xs ys : List V, k1.sq K H a xs ∧ k2.sq K H b ys ∧ min xs.length ys.length = i⟩
theorem its_at {its : List Value} {i : Nat} {u u' : Value} (h : its[i]? = some u) (h' : its.toArray[i]? = some u') : u' = u := by
  have h2 : its.toArray[i]? = some u := by simpa using h
  rw [h2] at h'
  exact (Option.some.inj h').symm
theorem turn_zip2D {P : Program} {w : World} {K : PySem.W.Frag} {elts : List Expr} {kk : Nat} {tpos : Pos} (k1 k2 : Kd) {a b z TI TO i1 i2 : Addr} (D : ZipSep2 z TI TO i1 i2 [i1, a] [i2, b]) (ha : a ≠ i1) (hb : b ≠ i2) :
    Turn P w K (.Tuple elts kk tpos) (ItZ2 K k1 k2 a b) [z, TI, TO, i1, i2] z (fun i h => IsZip h z TI TO .none ∧ IsTupOf2 h TI (.ref i1) (.ref i2) ∧ (∃ x y, IsTupOf2 h TO x y) ∧ k1.it h i1 a i ∧ k2.it h i2 b i) where
  mem := by simp
  obj := fun i h st c hc => by
    obtain ⟨hz, hTI, ⟨x, y, hTO⟩, h1, h2⟩ := st
    have e' : c = z ∨ c = TI ∨ c = TO ∨ c = i1 ∨ c = i2 := by simpa using hc
    rcases e' with q | q | q | q | q
    · rw [q]; exact ⟨_, hz, fun v q => nomatch q⟩
    · rw [q]; exact ⟨_, hTI, fun v q => nomatch q⟩
    · rw [q]; exact ⟨_, hTO, fun v q => nomatch q⟩
    · rw [q]; exact k1.it_obj h1
    · rw [q]; exact k2.it_obj h2
  keep := fun i h h' st k => by
    obtain ⟨hz, hTI, ⟨x, y, hTO⟩, h1, h2⟩ := st
    exact ⟨k z (by simp) _ hz, k TI (by simp) _ hTI, ⟨x, y, k TO (by simp) _ hTO⟩, k1.it_at h1 fun o q => k i1 (by simp) o q, k2.it_at h2 fun o q => k i2 (by simp) o q⟩
  item := by
    intro X hP hw hK hc i pins s σ H E I hf st hg
    subst hP hw hK
    obtain ⟨hz, hTI, hTO, h1, h2⟩ := st
    obtain ⟨xs, ys, x, y, hqx, hqy, hx, hy⟩ := hg
    obtain ⟨its, rv, p, _, _⟩ := k1.reads I hqx
    obtain ⟨its2, rv2, p2, _, _⟩ := k2.reads I hqy
    obtain ⟨u, hu, ru⟩ := rv.get hx
    obtain ⟨u2, hu2, ru2⟩ := rv2.get hy
    have l1 : i < its.toArray.size := by simpa using (List.getElem?_eq_some_iff.mp hu).1
    have l2 : i < its2.toArray.size := by simpa using (List.getElem?_eq_some_iff.mp hu2).1
    have W := GoesN.zip2 (elts := elts) (x1 := kk) (pos := tpos) D (k1.draws (prog := X.prog) (w := X.w) (A := X.A.in1) (I.ok.hd hc) i1 a ha its.toArray) (k2.draws (prog := X.prog) (w := X.w) (A := X.A.in1) (I.ok.hd hc) i2 b hb its2.toArray)
    refine W.goes i s _ _ (Nat.lt_min.mpr ⟨l1, l2⟩) ⟨hz, hTI, hTO, ⟨h1, p⟩, h2, p2⟩ fun v h' tk hY st' hk htk => ?_
    obtain ⟨T, u', u2', rfl, hT, hu', hu2', hTt⟩ := hY
    cases its_at hu hu'
    cases its_at hu2 hu2'
    have new : ObjOk X.prog X.w (upd H T (.tup [x, y])) h' T (.tup [x, y]) := ⟨by show 2 ≤ sizeLine; decide, [u, u2], .cons ru (.cons ru2 .nil), hTt⟩
    have I1 : Inv X pins σ (upd H T (.tup [x, y])) { s with heap := h', toks := tk } :=
      I.turnedNew (ch := [z, TI, TO, i1, i2]) (fun c o hb q => hk c o (fun hb' => hb (by simp at hb' ⊢; rcases hb' with z | z | z | z <;> simp [z])) q) hf hT new
    refine ⟨.ref T, _, I1, rfl, ⟨T, x, y, rfl, I.hok.fresh hT, rfl, fun l hl => by rw [k1.inj I hl hqx]; exact hx, fun l hl => by rw [k2.inj I hl hqy]; exact hy⟩, ⟨st'.1, st'.2.1, st'.2.2.1, st'.2.2.2.1.1, st'.2.2.2.2.1⟩, fun c hcm => ?_⟩
    have hlt : c < s.heap.objs.size := by
      have e' : c = z ∨ c = TI ∨ c = TO ∨ c = i1 ∨ c = i2 := by simpa using hcm
      rcases e' with q | q | q | q | q
      · rw [q]; exact Heap.lt_size hz
      · rw [q]; exact Heap.lt_size hTI
      · rw [q]; obtain ⟨_, _, h⟩ := hTO; exact Heap.lt_size h
      · rw [q]; obtain ⟨_, h, _⟩ := k1.it_obj h1; exact Heap.lt_size h
      · rw [q]; obtain ⟨_, h, _⟩ := k2.it_obj h2; exact Heap.lt_size h
    rw [upd_ne (Nat.ne_of_lt (Nat.lt_of_lt_of_le hlt hT))]
    exact (hf c hcm).1
  done := by
    intro X hP hw hK hc i pins s σ H E I hf st hg
    subst hP hw hK
    obtain ⟨hz, hTI, hTO, h1, h2⟩ := st
    obtain ⟨xs, ys, hqx, hqy, hend⟩ := hg
    obtain ⟨its, rv, p, _, _⟩ := k1.reads I hqx
    obtain ⟨its2, rv2, p2, _, _⟩ := k2.reads I hqy
    have l1 := rv.length
    have l2 := rv2.length
    have W := GoesN.zip2 (elts := elts) (x1 := kk) (pos := tpos) D (k1.draws (prog := X.prog) (w := X.w) (A := X.A.in1) (I.ok.hd hc) i1 a ha its.toArray) (k2.draws (prog := X.prog) (w := X.w) (A := X.A.in1) (I.ok.hd hc) i2 b hb its2.toArray)
    have hn : min its.toArray.size its2.toArray.size = i := by simp; omega
    refine W.stops s (fun s1 => Inv X pins σ H s1) _ ?_ fun h' tk hk htk => I.turnedL (ch := [z, TI, TO, i1, i2]) (fun c o hb q => hk c o (fun hb' => hb (by simp at hb' ⊢; rcases hb' with z | z | z | z <;> simp [z])) q) hf
    rw [hn]
    exact ⟨hz, hTI, hTO, ⟨h1, p⟩, h2, p2⟩
  self := fun A i s Q E st h => wpAny_pyIter_zip st.1 h
def iZip2D (K : PySem.W.Frag) (ta : TA) : TI := fun σ H R => ta σ H fun vs H1 => ∃ a b xs ys k1 k2, vs = [.ref a, .ref b] ∧ Kd.sq k1 K H1 a xs ∧ Kd.sq k2 K H1 b ys ∧ R (ItZ2 K k1 k2 a b) H1
theorem pi_zip2D {X : Cx} {e e2 : Expr} {ta : TA} {p pos tpos : Pos} {elts : List Expr} {kk : Nat} (hg : Gl X "zip") (hm : X.mg "zip" = none) (ha : PA X [e, e2] ta)
    (hs : starEach [e, e2] X.env = (false, eval e X.env) :: starEach [e2] X.env := by rfl) (hpl : (backTo pos (starEach [e2] X.env)).any (·.1) = false := by rfl) :
    PI X (.Tuple elts kk tpos) (.Call (.Name "zip" p) [e, e2] [] pos) (iZip2D X.K ta) := by
  refine ⟨fun pins s σ H R I h => ?_⟩
  refine Call_ (ld_blt I hg hm PyProof.Rows.boot_zip (PyProof.Rows.callWith_type1 (thn (ha.run pos pins s σ H _ I h) fun us s1 ⟨vs, H1, I1, r1, q1⟩ => ?_) hs hpl))
  obtain ⟨a, b, xs, ys, k1, k2, ex, hqx, hqy, q⟩ := q1
  subst ex
  cases r1 with
  | cons r rr =>
    cases rr with
    | cons r' rr =>
      cases rr
      cases r
      cases r'
      obtain ⟨its, rv, p1, _, la⟩ := k1.reads I1 hqx
      obtain ⟨its2, rv2, p2, _, lb⟩ := k2.reads I1 hqy
      refine zip_begins2 (k1.begins a its.toArray) (k2.begins b its2.toArray) p1 p2 fun h' hz hTI hTO h1 h2 hsz hk => wpAny_pyIter_zip hz ?_
      have I2 : Inv X pins σ H1 { s1 with heap := h' } := I1.kept (t' := s1.toks) hk
      refine ⟨s1.heap.objs.size + 4, [s1.heap.objs.size + 4, s1.heap.objs.size + 2, s1.heap.objs.size + 3, s1.heap.objs.size, s1.heap.objs.size + 1], _, _, H1, rfl, I2,
        turn_zip2D k1 k2 (zip_sep2 (fp1 := [a]) (fp2 := [b]) (fun c hc => by rw [List.mem_singleton.mp hc]; exact la) (fun c hc => by rw [List.mem_singleton.mp hc]; exact lb)) (Nat.ne_of_lt la) (Nat.ne_of_lt (Nat.lt_succ_of_lt lb)), ⟨hz, hTI, ⟨_, _, hTO⟩, k1.it_new h1, k2.it_new h2⟩, fun c hcm => ?_, q⟩
      have e' : c = s1.heap.objs.size + 4 ∨ c = s1.heap.objs.size + 2 ∨ c = s1.heap.objs.size + 3 ∨ c = s1.heap.objs.size ∨ c = s1.heap.objs.size + 1 := by simpa using hcm
      have hle : s1.heap.objs.size ≤ c := by
        rcases e' with z | z | z | z | z
        · rw [z]; exact Nat.le_add_right _ _
        · rw [z]; exact Nat.le_add_right _ _
        · rw [z]; exact Nat.le_add_right _ _
        · rw [z]; exact Nat.le_refl _
        · rw [z]; exact Nat.le_add_right _ _
      exact I1.fpOk hle (I1.hok.fresh hle)

/-! ### a list or a tuple itself; a text -/
def ItS (K : PySem.W.Frag) (k : Kd) (a : Addr) : It := match k with | .l => Itl K a | .t => Itt K a
def iSeqA (K : PySem.W.Frag) (tl : TE) : TI := fun σ H R => tl σ H fun x H1 => (∃ a xs k, x = .ref a ∧ Kd.sq k K H1 a xs ∧ R (ItS K k a) H1) ∨ ∃ x', x = .str x' ∧ R (Its x') H1
theorem pi_seqA {X : Cx} {tg l : Expr} {tl : TE} (hl : PE X l tl) : PI X tg l (iSeqA X.K tl) := by
  refine ⟨fun pins s σ H R I h => ?_⟩
  have hl' : PE X l tl := hl
  refine thn (hl.run pins s σ H _ I h) fun v s1 ⟨x, H1, I1, r1, q1⟩ => ?_
  rcases q1 with ⟨a, xs, k, e, hq, q⟩ | ⟨x', e, q⟩
  · subst e
    cases r1
    cases k with
    | l =>
      obtain ⟨its, rv, p, hz⟩ := I1.list hq
      refine wpAny_pyIter_list p.isList ?_
      refine ⟨s1.heap.objs.size, [s1.heap.objs.size], _, _, H1, rfl, I1.kept (t' := s1.toks) fun b o e => Heap.get?_push_of_some _ e, turn_list a _, ⟨_, Heap.get?_push_size _ rfl, rfl, rfl⟩, fun b hb => ?_, q⟩
      have e : b = s1.heap.objs.size := by simpa using hb
      subst e
      exact I1.fpOk (Nat.le_refl _) (I1.hok.fresh (Nat.le_refl _))
    | t =>
      obtain ⟨its, rv, p, hz⟩ := I1.tuple hq
      refine wpAny_pyIter_tuple (show s1.heap.IsTuple a its.toArray from p) ?_
      refine ⟨s1.heap.objs.size, [s1.heap.objs.size], _, _, H1, rfl, I1.kept (t' := s1.toks) fun b o e => Heap.get?_push_of_some _ e, turn_tuple a _, ⟨_, Heap.get?_push_size _ rfl, rfl, rfl⟩, fun b hb => ?_, q⟩
      have e : b = s1.heap.objs.size := by simpa using hb
      subst e
      exact I1.fpOk (Nat.le_refl _) (I1.hok.fresh (Nat.le_refl _))
  · subst e
    obtain ⟨t, rfl⟩ := r1
    refine wpAny_pyIter_strU ?_
    exact pi_one I1 _ (turn_str _ x' t (strIterType x') (by unfold strIterType; split <;> simp)) ⟨_, Heap.get?_push_size _ rfl, rfl, rfl⟩ q
end TL
end
section
/-! The data layer: for loops, list comprehensions. -/
namespace TL
open PySem PySem.Spec PyProof.Rows L2

/-- what is walked: the items; the lists of ours that must stay as they are -/
structure ItD where
  items : List D
  gs : List (Nat × List D)
def ItD.Ok (it : ItD) (m : MS) : Prop := ∀ p ∈ it.gs, m.objs[p.1]? = some (.lst p.2)
structure WalkD (R : RC) (S : Sto) (H : Hp) (it : ItD) (J : It) : Prop where
  goes : ∀ S2 H2 m2 i, Ext0 S H S2 H2 → HR R S2 H2 m2 → it.Ok m2 → i < it.items.length → J.go i H2
  stops : ∀ S2 H2 m2, Ext0 S H S2 H2 → HR R S2 H2 m2 → it.Ok m2 → J.stop it.items.length H2
  yields : ∀ S2 H2 m2 i x H3, Ext0 S H S2 H2 → HR R S2 H2 m2 → it.Ok m2 → i < it.items.length → J.yld i H2 x H3 → ∃ d, it.items[i]? = some d ∧ Ext S2 H2 S2 H3 ∧ HR R S2 H3 m2 ∧ Rep R S2 H3 x d
def PI' (R : RC) (Q : It → Hp → Prop) : ItD → MS → Hp → Sto → Prop := fun it _ H' S' => ∀ J, WalkD R S' H' it J → Q J H'
structure DI (X : Cx) (R : RC) (E : XK) (tg iter : Expr) (f : Env' → M ItD) : Prop where
  ex : ∃ t, PI X tg iter t ∧ ∀ S σ H ρ m Q, HR R S H m → ER R S H σ ρ → RoutG R S H E (PI' R Q) (f ρ m) → t σ H Q

section
variable {X : Cx} {R : RC} {E : XK} {pos : Pos} {e a b c : Expr} {f fa fb fc : FE}

/-! ### sequences -/
def kdD : D → Kd
  | .tup _ => .t
  | _ => .l
def gsD (m : MS) (d : D) : List (Nat × List D) := match d with
  | .ref n => (match m.objs[n]? with | some (.lst xs) => [(n, xs)] | _ => [])
  | _ => []
theorem seqD_k {S : Sto} {H : Hp} {m : MS} {v : V} {d : D} {ds : List D} (hr : HR R S H m) (r : Rep R S H v d) (h : seqD m d = some ds) : ∃ p vs, v = .ref p ∧ (kdD d).sq R.K H p vs ∧ RepAll R S H vs ds := by
  rcases seqD_cases h with h' | h' | h'
  · obtain ⟨p, vs, h1, h2, h3, _⟩ := lstD_out hr r h'
    refine ⟨p, vs, h1, ?_, h3⟩
    cases d with
    | tup xs => cases h'
    | _ => exact h2
  · obtain ⟨p, vs, h1, h2, h3, _⟩ := tupD_out r h'
    refine ⟨p, vs, h1, ?_, h3⟩
    cases d with
    | tup xs => exact h2
    | _ => cases h'
  · obtain ⟨p, vs, h1, h2, h3⟩ := scrD_out r h'
    refine ⟨p, vs, h1, ?_, h3⟩
    cases d with
    | tup xs => cases h'
    | _ => exact h2
/-- a sequence stays what it is while its list is not written -/
theorem seqD_stay {m m2 : MS} {d : D} {ds : List D} (h : seqD m d = some ds) (hg : ∀ p ∈ gsD m d, m2.objs[p.1]? = some (.lst p.2)) : seqD m2 d = some ds := by
  cases d with
  | ref n =>
    unfold seqD gsD at *
    dsimp only at h hg
    cases e : m.objs[n]? with
    | none => rw [e] at h; cases h
    | some o =>
      rw [e] at h hg
      cases o with
      | lst xs =>
        have := hg (n, xs) (by simp)
        cases h
        dsimp only at this ⊢
        rw [this]
      | _ => cases h
  | _ => exact h
theorem sq_len {S : Sto} {H : Hp} {m : MS} {v : V} {d : D} {ds : List D} {vs : List V} (r : RepAll R S H vs ds) : vs.length = ds.length := r.length
theorem rep_get {S : Sto} {H : Hp} {vs : List V} {ds : List D} {i : Nat} {x : V} (r : RepAll R S H vs ds) (h : vs[i]? = some x) : ∃ d, ds[i]? = some d ∧ Rep R S H x d := r.getV h

/-! #### the thing itself -/
def iSeq (f : FE) : Env' → M ItD := fun ρ => M.bind (f ρ) fun d m => match d with
  | .str s => if s.length ≤ 1000000 then .ok ⟨s.cps.toList.map (fun c => .str ⟨#[c]⟩), []⟩ m else .stuck
  | d => match seqD m d with | some xs => .ok ⟨xs, gsD m d⟩ m | none => .stuck
theorem walkD_seq {S : Sto} {H : Hp} {m : MS} {p : Addr} {d : D} {ds : List D} (ro : R.Ok) (hr : HR R S H m) (r : Rep R S H (.ref p) d) (h : seqD m d = some ds) : WalkD R S H ⟨ds, gsD m d⟩ (ItS R.K (kdD d) p) := by
  have key : ∀ S2 H2 m2, Ext0 S H S2 H2 → HR R S2 H2 m2 → (ItD.mk ds (gsD m d)).Ok m2 → ∃ vs, (kdD d).sq R.K H2 p vs ∧ RepAll R S2 H2 vs ds := fun S2 H2 m2 e2 r2 ok => by
    obtain ⟨p', vs, h1, h2, h3⟩ := seqD_k r2 (r.ext0 ro e2) (seqD_stay h ok)
    cases h1
    exact ⟨vs, h2, h3⟩
  generalize kdD d = k at key
  cases k with
  | l =>
    refine ⟨fun S2 H2 m2 i e2 r2 ok hi => ?_, fun S2 H2 m2 e2 r2 ok => ?_, fun S2 H2 m2 i x H3 e2 r2 ok hi y => ?_⟩
    · obtain ⟨vs, h1, h2⟩ := key S2 H2 m2 e2 r2 ok
      have hl := h2.length
      exact ⟨vs, vs[i]'(by rw [hl]; exact hi), h1, List.getElem?_eq_getElem _⟩
    · obtain ⟨vs, h1, h2⟩ := key S2 H2 m2 e2 r2 ok
      exact ⟨vs, h1, by rw [h2.length]; exact Nat.le_refl _⟩
    · obtain ⟨vs, h1, h2⟩ := key S2 H2 m2 e2 r2 ok
      obtain ⟨rfl, y⟩ := y
      obtain ⟨d, q1, q2⟩ := h2.getV (y vs h1)
      exact ⟨d, q1, Ext.refl _ _, r2, q2⟩
  | t =>
    refine ⟨fun S2 H2 m2 i e2 r2 ok hi => ?_, fun S2 H2 m2 e2 r2 ok => ?_, fun S2 H2 m2 i x H3 e2 r2 ok hi y => ?_⟩
    · obtain ⟨vs, h1, h2⟩ := key S2 H2 m2 e2 r2 ok
      have hl := h2.length
      exact ⟨vs, vs[i]'(by rw [hl]; exact hi), h1, List.getElem?_eq_getElem _⟩
    · obtain ⟨vs, h1, h2⟩ := key S2 H2 m2 e2 r2 ok
      exact ⟨vs, h1, by rw [h2.length]; exact Nat.le_refl _⟩
    · obtain ⟨vs, h1, h2⟩ := key S2 H2 m2 e2 r2 ok
      obtain ⟨rfl, y⟩ := y
      obtain ⟨d, q1, q2⟩ := h2.getV (y vs h1)
      exact ⟨d, q1, Ext.refl _ _, r2, q2⟩
theorem di_seq {tg : Expr} (cx : CxR X R E) (h : DE X R E e f) : DI X R E tg e (iSeq f) := by
  obtain ⟨t, a1, a2⟩ := h.ex
  refine ⟨⟨_, pi_seqA a1, fun S σ H ρ m Q hr he h => a2 S σ H ρ m _ hr he (h.step fun d m1 H1 S1 e1 r1 q v rv => ?_)⟩⟩
  rw [cx.K]
  have main : ∀ xs, seqD m1 d = some xs → RoutG R S1 H1 E (PI' R Q) (match seqD m1 d with | some xs => Res.ok ⟨xs, gsD m1 d⟩ m1 | none => .stuck) → (∃ a xs k, v = .ref a ∧ Kd.sq k R.K H1 a xs ∧ Q (ItS R.K k a) H1) := fun xs hs q => by
    rw [hs] at q
    obtain ⟨p, vs, rfl, h1, h2⟩ := seqD_k r1 rv hs
    exact ⟨p, vs, kdD d, rfl, h1, q.now r1 _ (walkD_seq cx.ok r1 rv hs)⟩
  cases d with
  | str s =>
    dsimp only at q
    by_cases hs : s.length ≤ 1000000
    · rw [if_pos hs] at q
      refine .inr ⟨s, rep_str rv, q.now r1 _ ⟨fun S2 H2 m2 i e2 r2 ok hi => ?_, fun S2 H2 m2 e2 r2 ok => ?_, fun S2 H2 m2 i x H3 e2 r2 ok hi y => ?_⟩⟩
      · show i < s.cps.size
        simpa using hi
      · show s.cps.size ≤ _
        simp
      · obtain ⟨rfl, c, hc, rfl⟩ := y
        refine ⟨.str ⟨#[c]⟩, ?_, Ext.refl _ _, r2, .str _⟩
        have hc' : s.cps.toList[i]? = some c := by simpa using hc
        show (s.cps.toList.map _)[i]? = _
        rw [List.getElem?_map, hc']
        rfl
    · rw [if_neg hs] at q
      exact q.elim
  | tup xs => exact .inl (main xs rfl q)
  | scr xs => exact .inl (main _ rfl q)
  | lst xs => exact .inl (main xs rfl q)
  | ref n =>
    cases e : seqD m1 (.ref n) with
    | none => dsimp only at q; rw [e] at q; exact q.elim
    | some xs => exact .inl (main xs e q)
  | _ => exact q.elim

/-! #### range -/
def rng (lo : Int) (n : Nat) : List D := (List.range n).map fun i => .int (lo + (i : Nat))
theorem walkD_rng {S : Sto} {H : Hp} (lo : Int) (n : Nat) : WalkD R S H ⟨rng lo n, []⟩ (Itr lo n) := by
  have hl : (rng lo n).length = n := by unfold rng; simp
  refine ⟨fun S2 H2 m2 i e2 r2 ok hi => ?_, fun S2 H2 m2 e2 r2 ok => ?_, fun S2 H2 m2 i x H3 e2 r2 ok hi y => ?_⟩
  · show i < n
    rw [← hl]; exact hi
  · show n ≤ (rng lo n).length
    rw [hl]; exact Nat.le_refl _
  · obtain ⟨rfl, rfl⟩ := y
    refine ⟨.int (lo + i), ?_, Ext.refl _ _, r2, .int _⟩
    have hi' : i < n := by rw [← hl]; exact hi
    show (rng lo n)[i]? = _
    unfold rng
    rw [List.getElem?_map, List.getElem?_range hi']
    rfl
def iRange1 (g : FA) : Env' → M ItD := fun ρ => M.bind (g ρ) fun ds m => match ds with
  | [.int j] => if -(2 ^ 62) ≤ j ∧ j < 2 ^ 62 then .ok ⟨rng 0 j.toNat, []⟩ m else .stuck
  | _ => .stuck
theorem di_range1 {tg : Expr} {g : FA} {p : Pos} (hg : Gl X "range") (hm : X.mg "range" = none) (h : DA X R E [e] g) (hs : starEach [e] X.env = [(false, eval e X.env)] := by rfl) : DI X R E tg (.Call (.Name "range" p) [e] [] pos) (iRange1 g) := by
  obtain ⟨t, a1, a2⟩ := h.ex
  refine ⟨⟨_, pi_range1 hg hm a1 hs, fun S σ H ρ m Q hr he h => a2 S σ H ρ m _ hr he (h.step fun ds m1 H1 S1 e1 r1 q vs rv => ?_)⟩⟩
  cases rv with
  | nil => exact q.elim
  | @cons v d vs ds r rr =>
    cases rr with
    | cons _ _ => cases d <;> exact q.elim
    | nil =>
      cases d with
      | int j =>
        dsimp only at q
        by_cases hj : -(2 ^ 62) ≤ j ∧ j < 2 ^ 62
        · rw [if_pos hj] at q
          exact ⟨j, by rw [rep_int r], hj.1, hj.2, q.now r1 _ (walkD_rng 0 _)⟩
        · rw [if_neg hj] at q
          exact q.elim
      | _ => exact q.elim
def iRange2 (g : FA) : Env' → M ItD := fun ρ => M.bind (g ρ) fun ds m => match ds with
  | [.int i, .int j] => if -(2 ^ 62) ≤ i ∧ i < 2 ^ 62 ∧ -(2 ^ 62) ≤ j ∧ j < 2 ^ 62 then .ok ⟨rng i (j - i).toNat, []⟩ m else .stuck
  | _ => .stuck
theorem di_range2 {tg : Expr} {g : FA} {p : Pos} (hg : Gl X "range") (hm : X.mg "range" = none) (h : DA X R E [a, b] g) (hs : starEach [a, b] X.env = [(false, eval a X.env), (false, eval b X.env)] := by rfl) (hs2 : starEach [b] X.env = [(false, eval b X.env)] := by rfl) :
    DI X R E tg (.Call (.Name "range" p) [a, b] [] pos) (iRange2 g) := by
  obtain ⟨t, a1, a2⟩ := h.ex
  refine ⟨⟨_, pi_range2 hg hm a1 hs hs2, fun S σ H ρ m Q hr he h => a2 S σ H ρ m _ hr he (h.step fun ds m1 H1 S1 e1 r1 q vs rv => ?_)⟩⟩
  cases rv with
  | nil => exact q.elim
  | @cons v d vs ds r rr =>
    cases rr with
    | nil => cases d <;> exact q.elim
    | @cons v' d' vs' ds' r' rr =>
      cases rr with
      | cons _ _ => cases d <;> cases d' <;> exact q.elim
      | nil =>
        cases d with
        | int i =>
          cases d' with
          | int j =>
            dsimp only at q
            by_cases hj : -(2 ^ 62) ≤ i ∧ i < 2 ^ 62 ∧ -(2 ^ 62) ≤ j ∧ j < 2 ^ 62
            · rw [if_pos hj] at q
              exact ⟨i, j, by rw [rep_int r, rep_int r'], hj, q.now r1 _ (walkD_rng i _)⟩
            · rw [if_neg hj] at q
              exact q.elim
          | _ => exact q.elim
        | _ => cases d' <;> exact q.elim

/-! #### enumerate, zip -/
def enumG : Nat → List D → List D
  | _, [] => []
  | k, x :: xs => .tup [.int (k : Nat), x] :: enumG (k + 1) xs
theorem enumG_len : ∀ (k : Nat) (xs : List D), (enumG k xs).length = xs.length
  | _, [] => rfl
  | k, x :: xs => by unfold enumG; rw [List.length_cons, List.length_cons, enumG_len]
theorem enumG_get : ∀ (xs : List D) (k i : Nat) (d : D), xs[i]? = some d → (enumG k xs)[i]? = some (.tup [.int ((k + i : Nat) : Int), d])
  | [], _, _, _, h => by simp at h
  | x :: xs, k, 0, d, h => by
    simp at h
    subst h
    rfl
  | x :: xs, k, i + 1, d, h => by
    have h' : xs[i]? = some d := by simpa using h
    have := enumG_get xs (k + 1) i d h'
    unfold enumG
    rw [List.getElem?_cons_succ, this]
    congr 5
    omega
/-- a new pair -/
theorem pair_rep {S : Sto} {H : Hp} {m : MS} {T : Addr} {xs : List V} {ds : List D} (ro : R.Ok) (hr : HR R S H m) (hT : H T = none) (r : RepAll R S H xs ds) :
    Ext S H S (upd H T (.tup xs)) ∧ HR R S (upd H T (.tup xs)) m ∧ Rep R S (upd H T (.tup xs)) (.ref T) (.tup ds) :=
  ⟨Ext.newObj hr hT, hr.newObj ro hT, .tup (.inl ⟨upd_same, hr.fresh hT⟩) (r.ext ro (Ext.newObj hr hT))⟩
def iEnum (g : FA) : Env' → M ItD := fun ρ => M.bind (g ρ) fun ds m => match ds with
  | [d] => (match seqD m d with | some xs => .ok ⟨enumG 0 xs, gsD m d⟩ m | none => .stuck)
  | _ => .stuck
theorem di_enum {p tpos : Pos} {elts : List Expr} {kk : Nat} {g : FA} (cx : CxR X R E) (hg : Gl X "enumerate") (hm : X.mg "enumerate" = none) (h : DA X R E [e] g) (hs : starEach [e] X.env = [(false, eval e X.env)] := by rfl) :
    DI X R E (.Tuple elts kk tpos) (.Call (.Name "enumerate" p) [e] [] pos) (iEnum g) := by
  obtain ⟨t, a1, a2⟩ := h.ex
  refine ⟨⟨_, pi_enumD hg hm a1 hs, fun S σ H ρ m Q hr he h => a2 S σ H ρ m _ hr he (h.step fun ds m1 H1 S1 e1 r1 q vs rv => ?_)⟩⟩
  rw [cx.K]
  cases rv with
  | nil => exact q.elim
  | @cons v d vs ds r rr =>
    cases rr with
    | cons _ _ => exact q.elim
    | nil =>
      dsimp only at q
      cases hs : seqD m1 d with
      | none => rw [hs] at q; exact q.elim
      | some xs =>
        rw [hs] at q
        obtain ⟨p', vs, rfl, h1, h2⟩ := seqD_k r1 r hs
        have key : ∀ S2 H2 m2, Ext0 S1 H1 S2 H2 → HR R S2 H2 m2 → (ItD.mk (enumG 0 xs) (gsD m1 d)).Ok m2 → ∃ vs, (kdD d).sq R.K H2 p' vs ∧ RepAll R S2 H2 vs xs := fun S2 H2 m2 e2 r2 ok => by
          obtain ⟨_, vs, h1, h2, h3⟩ := seqD_k r2 (r.ext0 cx.ok e2) (seqD_stay hs ok)
          cases h1
          exact ⟨vs, h2, h3⟩
        refine ⟨p', vs, kdD d, rfl, h1, q.now r1 _ ⟨fun S2 H2 m2 i e2 r2 ok hi => ?_, fun S2 H2 m2 e2 r2 ok => ?_, fun S2 H2 m2 i x H3 e2 r2 ok hi y => ?_⟩⟩
        · obtain ⟨vs, h1, h2⟩ := key S2 H2 m2 e2 r2 ok
          rw [enumG_len] at hi
          exact ⟨vs, vs[i]'(by rw [h2.length]; exact hi), h1, List.getElem?_eq_getElem _⟩
        · obtain ⟨vs, h1, h2⟩ := key S2 H2 m2 e2 r2 ok
          exact ⟨vs, h1, by rw [enumG_len, h2.length]⟩
        · obtain ⟨vs, h1, h2⟩ := key S2 H2 m2 e2 r2 ok
          obtain ⟨T, x', rfl, hT, rfl, y⟩ := y
          obtain ⟨d', q1, q2⟩ := h2.getV (y vs h1)
          obtain ⟨z1, z2, z3⟩ := pair_rep cx.ok r2 hT (.cons (.int _) (.cons q2 .nil))
          exact ⟨_, by have := enumG_get xs 0 i d' q1; rw [Nat.zero_add] at this; exact this, z1, z2, z3⟩
def zipG (xs ys : List D) : List D := List.zipWith (fun x y => .tup [x, y]) xs ys
def iZip2 (g : FA) : Env' → M ItD := fun ρ => M.bind (g ρ) fun ds m => match ds with
  | [d, d'] => (match seqD m d, seqD m d' with | some xs, some ys => .ok ⟨zipG xs ys, gsD m d ++ gsD m d'⟩ m | _, _ => .stuck)
  | _ => .stuck
theorem di_zip2 {p tpos : Pos} {elts : List Expr} {kk : Nat} {g : FA} (cx : CxR X R E) (hg : Gl X "zip") (hm : X.mg "zip" = none) (h : DA X R E [a, b] g)
    (hs : starEach [a, b] X.env = (false, eval a X.env) :: starEach [b] X.env := by rfl) (hpl : (backTo pos (starEach [b] X.env)).any (·.1) = false := by rfl) :
    DI X R E (.Tuple elts kk tpos) (.Call (.Name "zip" p) [a, b] [] pos) (iZip2 g) := by
  obtain ⟨t, a1, a2⟩ := h.ex
  refine ⟨⟨_, pi_zip2D hg hm a1 hs hpl, fun S σ H ρ m Q hr he h => a2 S σ H ρ m _ hr he (h.step fun ds m1 H1 S1 e1 r1 q vs rv => ?_)⟩⟩
  rw [cx.K]
  cases rv with
  | nil => exact q.elim
  | @cons v d vs ds r rr =>
    cases rr with
    | nil => exact q.elim
    | @cons v' d' vs' ds' r' rr =>
      cases rr with
      | cons _ _ => exact q.elim
      | nil =>
        dsimp only at q
        cases hs : seqD m1 d with
        | none => rw [hs] at q; exact q.elim
        | some xs =>
          cases hs' : seqD m1 d' with
          | none => rw [hs, hs'] at q; exact q.elim
          | some ys =>
            rw [hs, hs'] at q
            obtain ⟨p1, vs1, rfl, h1, h2⟩ := seqD_k r1 r hs
            obtain ⟨p2, vs2, rfl, h1', h2'⟩ := seqD_k r1 r' hs'
            have key : ∀ S2 H2 m2, Ext0 S1 H1 S2 H2 → HR R S2 H2 m2 → (ItD.mk (zipG xs ys) (gsD m1 d ++ gsD m1 d')).Ok m2 → ∃ vs ws, (kdD d).sq R.K H2 p1 vs ∧ RepAll R S2 H2 vs xs ∧ (kdD d').sq R.K H2 p2 ws ∧ RepAll R S2 H2 ws ys := fun S2 H2 m2 e2 r2 ok => by
              obtain ⟨_, vs, h1, h2, h3⟩ := seqD_k r2 (r.ext0 cx.ok e2) (seqD_stay hs fun p hp => ok p (List.mem_append_left _ hp))
              obtain ⟨_, ws, h4, h5, h6⟩ := seqD_k r2 (r'.ext0 cx.ok e2) (seqD_stay hs' fun p hp => ok p (List.mem_append_right _ hp))
              cases h1
              cases h4
              exact ⟨vs, ws, h2, h3, h5, h6⟩
            have hl : (zipG xs ys).length = min xs.length ys.length := by unfold zipG; simp
            refine ⟨p1, p2, vs1, vs2, kdD d, kdD d', rfl, h1, h1', q.now r1 _ ⟨fun S2 H2 m2 i e2 r2 ok hi => ?_, fun S2 H2 m2 e2 r2 ok => ?_, fun S2 H2 m2 i x H3 e2 r2 ok hi y => ?_⟩⟩
            · obtain ⟨vs, ws, h1, h2, h3, h4⟩ := key S2 H2 m2 e2 r2 ok
              have hi' : i < min xs.length ys.length := by rw [← hl]; exact hi
              have l2 := h2.length
              have l4 := h4.length
              exact ⟨vs, ws, vs[i]'(by omega), ws[i]'(by omega), h1, h3, List.getElem?_eq_getElem _, List.getElem?_eq_getElem _⟩
            · obtain ⟨vs, ws, h1, h2, h3, h4⟩ := key S2 H2 m2 e2 r2 ok
              exact ⟨vs, ws, h1, h3, by rw [h2.length, h4.length, ← hl]⟩
            · obtain ⟨vs, ws, h1, h2, h3, h4⟩ := key S2 H2 m2 e2 r2 ok
              obtain ⟨T, x1, x2, rfl, hT, rfl, y1, y2⟩ := y
              obtain ⟨d1, q1, q2⟩ := h2.getV (y1 vs h1)
              obtain ⟨d2, q3, q4⟩ := h4.getV (y2 ws h3)
              obtain ⟨z1, z2, z3⟩ := pair_rep cx.ok r2 hT (.cons q2 (.cons q4 .nil))
              refine ⟨_, ?_, z1, z2, z3⟩
              show (zipG xs ys)[i]? = _
              unfold zipG
              rw [List.getElem?_zipWith, q1, q3]

/-! ### for -/
open Classical in
noncomputable def forW (ok : MS → Prop) (g : FG) (body : FS) : List D → FS
  | [], ρ, m => if ok m then .ok (.next ρ) m else .stuck
  | d :: ds, ρ, m => if ok m then M.bind (g d ρ) (fun ρ1 => M.bind (body ρ1) fun fl => match fl with
    | .next ρ2 => forW ok g body ds ρ2
    | .cont ρ2 => forW ok g body ds ρ2
    | .brk ρ2 => fun m => .ok (.next ρ2) m
    | .ret d => fun m => .ok (.ret d) m) m else .stuck
noncomputable def sFor (f : Env' → M ItD) (g : FG) (body : FS) : FS := fun ρ => M.bind (f ρ) fun it => forW it.Ok g body it.items ρ
theorem ds_for {tg iter : Expr} {body : List Stmt} {fi : Env' → M ItD} {g : FG} {u : FS} (cx : CxR X R E) (hi : DI X R E tg iter fi) (hg : DG X R E tg g) (hb : DSs X R E body u)
    (hs : ∀ x, foldedSetIterable iter X.env x = pure x := by intro _; rfl) : DS X R E (.For tg iter body [] pos) (sFor fi g u) := by
  obtain ⟨ti, i1, i2⟩ := hi.ex
  obtain ⟨tg, g1, g2⟩ := hg.ex
  obtain ⟨tb, b1, b2⟩ := hb.ex
  refine ⟨⟨_, ps_for cx.po cx.calm i1 g1 b1 hs, fun S σ H ρ m Z hr he h => i2 S σ H ρ m _ hr he (h.step fun it m1 H1 S1 e1 r1 q J W => ?_)⟩⟩
  refine ⟨fun i n σ2 H2 => n = it.items.length - i ∧ i ≤ it.items.length ∧ ∃ S2 ρ2 m2, Ext0 S1 H1 S2 H2 ∧ HR R S2 H2 m2 ∧ ER R S2 H2 σ2 ρ2 ∧ RoutG R S2 H2 E (PF R Z) (forW it.Ok g u (it.items.drop i) ρ2 m2), ⟨_, rfl, Nat.zero_le _, S1, ρ, m1, Ext0.refl _ _, r1, he.ext cx.ok e1, q⟩, ?_⟩
  rintro i n σ2 H2 ⟨rfl, hi, S2, ρ2, m2, e2, r2, he2, h2⟩
  by_cases hlt : i < it.items.length
  · right
    rw [List.drop_eq_getElem_cons hlt] at h2
    unfold forW at h2
    by_cases ok : it.Ok m2
    · rw [if_pos ok] at h2
      refine ⟨W.goes S2 H2 m2 i e2 r2 ok hlt, fun σ' H' => i + 1 ≤ it.items.length ∧ ∃ S3 ρ3 m3, Ext0 S1 H1 S3 H' ∧ HR R S3 H' m3 ∧ ER R S3 H' σ' ρ3 ∧ RoutG R S3 H' E (PF R Z) (forW it.Ok g u (it.items.drop (i + 1)) ρ3 m3), fun σ' H' w => ⟨it.items.length - (i + 1), by omega, rfl, w⟩, fun x H3 y => ?_⟩
      obtain ⟨d, hd, e3, r3, rx⟩ := W.yields S2 H2 m2 i x H3 e2 r2 ok hlt y
      have ed : it.items[i] = d := by
        rw [List.getElem?_eq_getElem hlt] at hd
        exact Option.some.inj hd
      rw [ed] at h2
      refine g2 S2 σ2 H3 ρ2 m2 x d _ r3 (he2.ext cx.ok e3) rx ((RoutG.ext e3 h2).step fun ρ1 m4 H4 S4 e4 r4 q4 σ4 he4 => ?_)
      refine b2 S4 σ4 H4 ρ1 m4 _ r4 he4 (q4.step fun fl m5 H5 S5 e5 r5 q5 => ?_)
      have e25 := e2.trans (e3.toExt0.trans (e4.toExt0.trans e5.toExt0))
      cases fl with
      | next ρ' => exact fun σ' he' => ⟨hlt, S5, ρ', m5, e25, r5, he', q5⟩
      | cont ρ' => exact fun σ' he' => ⟨hlt, S5, ρ', m5, e25, r5, he', q5⟩
      | brk ρ' => exact fun σ' he' => q5.now r5 σ' he'
      | ret d => exact fun x rx => q5.now r5 x rx
    · rw [if_neg ok] at h2
      exact h2.elim
  · left
    have hn : i = it.items.length := by omega
    subst hn
    rw [List.drop_length] at h2
    unfold forW at h2
    by_cases ok : it.Ok m2
    · rw [if_pos ok] at h2
      exact ⟨W.stops S2 H2 m2 e2 r2 ok, h2.now r2 σ2 he2⟩
    · rw [if_neg ok] at h2
      exact h2.elim
end
end TL
end
section
/-! The data layer: list comprehensions. -/
namespace TL
open PySem PySem.Spec PyProof.Rows L2

theorem wipe_at (σ : L2.St) : ∀ (vs : List Nat) (j : Nat), (wipe σ vs)[j]? = if j ∈ vs then (σ[j]?).map (fun _ => none) else σ[j]?
  | [], j => by simp [wipe]
  | v :: vs, j => by
    unfold wipe
    rw [List.getElem?_set, wipe_at σ vs j, wipe_length]
    by_cases h : v = j
    · subst h
      simp only [if_true, List.mem_cons, true_or]
      by_cases hl : v < σ.length
      · simp [hl]
      · simp [hl, List.getElem?_eq_none (Nat.le_of_not_lt hl)]
    · have h' : ¬ (j = v) := fun z => h z.symm
      simp only [h, if_false, List.mem_cons, h', false_or]
theorem wipe_set {σ : L2.St} {i : Nat} {x : Option V} {vs : List Nat} (h : i ∈ vs) : wipe (σ.set i x) vs = wipe σ vs := by
  refine List.ext_getElem? fun j => ?_
  rw [wipe_at, wipe_at, List.getElem?_set]
  by_cases hj : j ∈ vs
  · rw [if_pos hj, if_pos hj]
    by_cases e : i = j
    · subst e
      rw [if_pos rfl]
      by_cases hl : i < σ.length
      · simp [hl]
      · simp [hl, List.getElem?_eq_none (Nat.le_of_not_lt hl)]
    · rw [if_neg e]
  · have hne : ¬ i = j := fun e => hj (e ▸ h)
    rw [if_neg hj, if_neg hj, if_neg hne]
theorem wipe_wipe (σ : L2.St) (vs : List Nat) : wipe (wipe σ vs) vs = wipe σ vs := by
  refine List.ext_getElem? fun j => ?_
  rw [wipe_at (wipe σ vs), wipe_at σ]
  by_cases hj : j ∈ vs
  · rw [if_pos hj, if_pos hj]
    cases σ[j]? <;> rfl
  · rw [if_neg hj]

/-- a comprehension's target: it sets only slots of vs -/
def PGc (R : RC) (vs : List Nat) (σ : L2.St) (Q : L2.St → Hp → Prop) : Env' → MS → Hp → Sto → Prop := fun ρ' _ H' S' => ∀ σ', ER R S' H' σ' ρ' → wipe σ' vs = wipe σ vs → Q σ' H'
structure DGc (X : Cx) (R : RC) (E : XK) (vs : List Nat) (tg : Expr) (g : FG) : Prop where
  ex : ∃ t, PG X tg t ∧ ∀ S σ H ρ m v d Q, HR R S H m → ER R S H σ ρ → Rep R S H v d → RoutG R S H E (PGc R vs σ Q) (g d ρ m) → t v σ H Q
structure DGsc (X : Cx) (R : RC) (E : XK) (vs : List Nat) (tgs : List Expr) (g : FGs) : Prop where
  ex : ∃ t, PGs X tgs t ∧ ∀ S σ H ρ m us ds Q, HR R S H m → ER R S H σ ρ → RepAll R S H us ds → RoutG R S H E (PGc R vs σ Q) (g ds ρ m) → t us σ H Q
section
variable {X : Cx} {R : RC} {E : XK} {pos : Pos} {vs : List Nat}
theorem dgc_name {i : Nat} {x : Str} (cx : CxR X R E) (hv : i ∈ vs := by decide) (hi : X.N[i]? = some x := by rfl) (hx : Loc X.env.scope x := by first | exact .inl rfl | exact .inr rfl) (hf : X.fn x = true ∨ X.env.scope.names.lookup x = some .local := by first | exact .inl rfl | exact .inr rfl) : DGc X R E vs (.Name x pos) (gN i) :=
  ⟨⟨_, pg_name cx.nd hi hx hf, fun S σ H ρ m v d Q hr he rv h => h.now hr _ (he.set rv) (wipe_set hv)⟩⟩
theorem dgsc_nil : DGsc X R E vs [] gsNil := ⟨⟨_, pgs_nil, fun S σ H ρ m us ds Q hr he rv h => by
  cases rv with
  | nil => exact ⟨rfl, h.now hr σ he rfl⟩
  | cons _ _ => exact h.elim⟩⟩
theorem dgsc_cons {tg : Expr} {tgs : List Expr} {g : FG} {gs : FGs} (cx : CxR X R E) (h1 : DGc X R E vs tg g) (h2 : DGsc X R E vs tgs gs)
    (hs : (assignEach (tg :: tgs) X.env).map (·.2) = assign tg X.env :: (assignEach tgs X.env).map (·.2) := by rfl) : DGsc X R E vs (tg :: tgs) (gsCons g gs) := by
  obtain ⟨t, a1, a2⟩ := h1.ex
  obtain ⟨t', b1, b2⟩ := h2.ex
  refine ⟨⟨_, pgs_cons a1 b1 hs, fun S σ H ρ m us ds Q hr he rv h => ?_⟩⟩
  cases rv with
  | nil => exact h.elim
  | cons r rr => exact ⟨_, _, rfl, a2 S σ H ρ m _ _ _ hr he r (h.step fun ρ' m1 H1 S1 e1 r1 q σ' he' hw => b2 S1 σ' H1 ρ' m1 _ _ Q r1 he' (rr.ext cx.ok e1) (q.mono fun ρ2 m2 H2 S2 e2 r2 q2 σ2 he2 hw2 => q2 σ2 he2 (hw2.trans hw)))⟩
theorem dgc_tup {es : List Expr} {k : Nat} {gs : FGs} (n : Nat) (cx : CxR X R E) (h : DGsc X R E vs es gs) (hn : (assignEach es X.env).length = n := by rfl) (hst : (assignEach es X.env).findIdx? (·.1) = none := by rfl) : DGc X R E vs (.Tuple es k pos) (gT n gs) := by
  obtain ⟨t, a1, a2⟩ := h.ex
  refine ⟨⟨_, pg_tup (n := n) cx.calm a1 hn hst, fun S σ H ρ m v d Q hr he rv h => ?_⟩⟩
  unfold gT at h
  cases e : tupD d with
  | none => rw [e] at h; exact h.elim
  | some ds =>
    rw [e] at h
    dsimp only at h
    by_cases hl : ds.length = n
    · rw [if_pos hl] at h
      obtain ⟨p, us, rfl, hq, ra, _⟩ := tupD_out rv e
      rw [cx.K]
      exact ⟨p, us, rfl, hq, by rw [ra.length]; exact hl, a2 S σ H ρ m _ _ _ hr he ra h⟩
    · rw [if_neg hl] at h
      exact h.elim
end

/-! ### the list that is being made -/
section
variable {R : RC} {S S2 : Sto} {H H2 : Hp} {m : MS} {p : Addr} {o : HO}
def Sto.tm (S : Sto) (p : Addr) : Sto := { S with tmp := p :: S.tmp }
theorem mem_tm {a : Addr} : a ∈ (S.tm p).mut ↔ a ∈ S.mut ∨ a = p := by
  unfold Sto.mut Sto.tm Sto.rest Sto.drs
  simp only [List.mem_append, List.mem_cons]
  constructor
  · rintro (h | h | h | h)
    · exact .inl (.inl h)
    · exact .inl (.inr (.inl h))
    · exact .inr h
    · exact .inl (.inr (.inr h))
  · rintro ((h | h | h) | h)
    · exact .inl h
    · exact .inr (.inl h)
    · exact .inr (.inr (.inr h))
    · exact .inr (.inr (.inl h))
theorem Ext0.tm (hr : HR R S H m) (hp : H p = none) : Ext0 S H (S.tm p) (upd H p o) := by
  have e := Ext.newObj (o := o) hr hp
  refine ⟨⟨[], by simp [Sto.tm]⟩, fun _ h => h, fun a h => ?_, e.keep, e.there⟩
  rcases mem_tm.mp h with h | h
  · exact .inl h
  · exact .inr (h ▸ hp)
theorem HR.tmNew (ro : R.Ok) (hr : HR R S H m) (hp : H p = none) (vs : List V) : HR R (S.tm p) (upd H p (.lst vs)) m := by
  have hn := hr.fresh hp
  have k : ∀ a ∈ S.mut, upd H p (.lst vs) a = H a := fun a h => upd_ne fun z => hn (z ▸ h)
  have ex := Ext0.tm (o := .lst vs) hr hp
  refine ⟨?_, hr.len, fun n a u h1 h2 => (hr.obj n a u h1 h2).ext0 ro ex (k a (ref_mut h1)), hr.dr.ext0 ex rfl fun a h => k a (drs_mut h), fun a h => ?_, tabs_new hr.tb hp⟩
  · have h0 := hr.nd
    unfold Sto.mut Sto.rest at h0 hn
    show (S.refs ++ (S.drs ++ p :: S.tmp)).Nodup
    rw [List.nodup_append] at h0 ⊢
    simp only [List.mem_append, not_or] at hn
    rw [List.nodup_append] at h0 ⊢
    refine ⟨h0.1, ⟨h0.2.1.1, List.nodup_cons.mpr ⟨hn.2.2, h0.2.1.2.1⟩, fun a ha b hb => ?_⟩, fun a ha b hb => ?_⟩
    · rcases List.mem_cons.mp hb with z | z
      · rw [z]; exact fun q => hn.2.1 (q ▸ ha)
      · exact h0.2.1.2.2 a ha b z
    · rcases List.mem_append.mp hb with z | z
      · exact h0.2.2 a ha b (List.mem_append_left _ z)
      · rcases List.mem_cons.mp z with z | z
        · rw [z]; exact fun q => hn.1 (q ▸ ha)
        · exact h0.2.2 a ha b (List.mem_append_right _ z)
  · rcases List.mem_cons.mp (show a ∈ p :: S.tmp from h) with z | z
    · rw [z, upd_same]; exact ⟨vs, rfl⟩
    · rw [k a (tmp_mut z)]; exact hr.tm a z
theorem tmp_split (hr : HR R S H m) (h : p ∈ S.tmp) : p ∉ S.refs ∧ p ∉ S.drs := by
  have h0 := hr.nd
  unfold Sto.mut Sto.rest at h0
  rw [List.nodup_append] at h0
  refine ⟨fun z => h0.2.2 p z p (List.mem_append_right _ h) rfl, fun z => ?_⟩
  have h1 := h0.2.1
  rw [List.nodup_append] at h1
  exact h1.2.2 p z p h rfl
/-- it is written -/
theorem Ext0.tmPut (h : p ∈ S.tmp) : Ext0 S H S (upd H p o) := by
  refine ⟨⟨[], by simp⟩, fun _ h => h, fun _ h => .inl h, fun b u hb n _ => ?_, fun b u hb => ?_⟩
  · rw [upd_ne (a := p) (b := b) (fun z => n (z ▸ tmp_mut h))]; exact hb
  · by_cases e : b = p
    · rw [e, upd_same]; exact ⟨o, rfl⟩
    · rw [upd_ne e]; exact ⟨u, hb⟩
theorem HR.tmPut (ro : R.Ok) (hr : HR R S H m) (h : p ∈ S.tmp) (vs : List V) : HR R S (upd H p (.lst vs)) m := by
  obtain ⟨n1, n2⟩ := tmp_split hr h
  have ex := Ext0.tmPut (H := H) (o := .lst vs) h
  refine ⟨hr.nd, hr.len, fun n a u h1 h2 => (hr.obj n a u h1 h2).ext0 ro ex (upd_ne fun z => n1 (z ▸ List.mem_of_getElem? h1)), hr.dr.ext0 ex rfl fun a ha => upd_ne fun z => n2 (z ▸ ha), fun a ha => ?_, (fun ⟨o', h1, h2⟩ => tabs_put hr.tb h1 h2) (hr.tracked (tmp_mut h))⟩
  by_cases e : a = p
  · rw [e, upd_same]; exact ⟨vs, rfl⟩
  · rw [upd_ne e]; exact hr.tm a ha
/-- it is done -/
theorem tm_done (ro : R.Ok) {fr : Bool} {E : XK} {Q : VK} {zs : List D} {vs : List V} {m1 : MS} (e0 : Ext0 S H S2 H2) (tm : S2.tmp = p :: S.tmp) (tk : ∀ a ∈ S.tmp, H2 a = H a) (hp : H p = none) (hr : HR R S2 H2 m1) (hD : H2 p = some (.lst vs)) (ra : RepAll R S2 H2 vs zs)
    (h : RoutG R S H E (PV R Q) (newL fr zs m1)) : Q (.ref p) H2 := by
  have hpm : p ∈ S2.tmp := by rw [tm]; exact List.mem_cons_self
  obtain ⟨n1, n2⟩ := tmp_split hr hpm
  have hnd := hr.nd
  unfold Sto.mut Sto.rest at hnd
  rw [tm] at hnd
  have n3 : p ∉ S.tmp := by
    rw [List.nodup_append, List.nodup_append] at hnd
    exact (List.nodup_cons.mp hnd.2.1.2.1).1
  -- with the list dropped from tmp
  have nd0 : (S2.refs ++ (S2.drs ++ S.tmp)).Nodup := by
    rw [List.nodup_append, List.nodup_append] at hnd ⊢
    refine ⟨hnd.1, ⟨hnd.2.1.1, (List.nodup_cons.mp hnd.2.1.2.1).2, fun a ha b hb => hnd.2.1.2.2 a ha b (List.mem_cons_of_mem _ hb)⟩, fun a ha b hb => hnd.2.2 a ha b ?_⟩
    rcases List.mem_append.mp hb with z | z
    · exact List.mem_append_left _ z
    · exact List.mem_append_right _ (List.mem_cons_of_mem _ z)
  have mS : ∀ a, a ∈ S2.refs ∨ a ∈ S2.drs ∨ a ∈ S.tmp → a ∈ S2.mut := fun a z => by
    rcases z with z | z | z
    · exact List.mem_append_left _ z
    · exact drs_mut z
    · exact tmp_mut (by rw [tm]; exact List.mem_cons_of_mem _ z)
  have pS2 : p ∈ S2.mut := tmp_mut hpm
  unfold newL at h
  by_cases hs : short zs = true
  · rw [if_pos hs] at h
    cases fr with
    | false =>
      rw [if_neg Bool.false_ne_true] at h
      let S3 : Sto := { S2 with tmp := S.tmp }
      have m3 : ∀ a, a ∈ S3.mut → a ∈ S2.mut := fun a z => by
        have z : a ∈ S2.refs ++ (S2.drs ++ S.tmp) := z
        rcases List.mem_append.mp z with z | z
        · exact mS a (.inl z)
        · rcases List.mem_append.mp z with z | z
          · exact mS a (.inr (.inl z))
          · exact mS a (.inr (.inr z))
      have p3 : p ∉ S3.mut := fun z => by
        have z : p ∈ S2.refs ++ (S2.drs ++ S.tmp) := z
        rcases List.mem_append.mp z with z | z
        · exact n1 z
        · rcases List.mem_append.mp z with z | z
          · exact n2 z
          · exact n3 z
      have e3 : Ext0 S2 H2 S3 H2 := ⟨⟨[], by simp [S3]⟩, fun _ h => h, fun a z => .inl (m3 a z), fun b o h _ _ => h, fun b o h => ⟨o, h⟩⟩
      refine h H2 S3 ⟨e0.trans e3, rfl, tk⟩ ?_ _ (.lst ⟨hD, p3⟩ (ra.ext0 ro e3))
      exact ⟨nd0, hr.len, fun n a u h1 h2 => (hr.obj n a u h1 h2).ext0 ro e3 rfl, hr.dr.ext0 e3 rfl fun a h => rfl, fun a h => hr.tm a (by rw [tm]; exact List.mem_cons_of_mem _ h), hr.tb⟩
    | true =>
      rw [if_pos rfl] at h
      let S3 : Sto := { S2 with refs := S2.refs ++ [p], tmp := S.tmp }
      have m3 : ∀ a, a ∈ S3.mut → a ∈ S2.mut := fun a z => by
        have z : a ∈ (S2.refs ++ [p]) ++ (S2.drs ++ S.tmp) := z
        rcases List.mem_append.mp z with z | z
        · rcases List.mem_append.mp z with z | z
          · exact mS a (.inl z)
          · rw [List.mem_singleton.mp z]; exact pS2
        · rcases List.mem_append.mp z with z | z
          · exact mS a (.inr (.inl z))
          · exact mS a (.inr (.inr z))
      have e3 : Ext0 S2 H2 S3 H2 := ⟨⟨[p], rfl⟩, fun _ h => h, fun a z => .inl (m3 a z), fun b o h _ _ => h, fun b o h => ⟨o, h⟩⟩
      refine h H2 S3 ⟨e0.trans e3, rfl, tk⟩ ?_ _ (.ref ?_)
      · refine ⟨?_, by simp [S3, hr.len], fun n a u h1 h2 => ?_, hr.dr.ext0 e3 rfl fun a h => rfl, fun a h => hr.tm a (by rw [tm]; exact List.mem_cons_of_mem _ h), hr.tb⟩
        · show ((S2.refs ++ [p]) ++ (S2.drs ++ S.tmp)).Nodup
          rw [List.append_assoc]
          rw [List.nodup_append] at nd0 ⊢
          refine ⟨nd0.1, ?_, fun a ha b hb => ?_⟩
          · refine (List.nodup_cons.mpr ⟨fun z => ?_, nd0.2.1⟩ : (p :: (S2.drs ++ S.tmp)).Nodup)
            rcases List.mem_append.mp z with z | z
            · exact n2 z
            · exact n3 z
          · rcases List.mem_cons.mp hb with z | z
            · rw [z]; exact fun q => n1 (q ▸ ha)
            · exact nd0.2.2 a ha b z
        · by_cases hlt : n < S2.refs.length
          · have h1' : S2.refs[n]? = some a := by
              have : (S2.refs ++ [p])[n]? = some a := h1
              rwa [List.getElem?_append_left hlt] at this
            have h2' : m1.objs[n]? = some u := by
              have : (m1.objs ++ [.lst zs])[n]? = some u := h2
              rwa [List.getElem?_append_left (by rw [← hr.len]; exact hlt)] at this
            exact (hr.obj n a u h1' h2').ext0 ro e3 rfl
          · have hl : n = S2.refs.length := by
              have h1l := (List.getElem?_eq_some_iff.mp h1).1
              have : n < (S2.refs ++ [p]).length := h1l
              simp at this
              omega
            have h1' : (S2.refs ++ [p])[n]? = some a := h1
            have h2' : (m1.objs ++ [.lst zs])[n]? = some u := h2
            rw [hl, List.getElem?_concat_length] at h1'
            rw [hl, hr.len, List.getElem?_concat_length] at h2'
            cases h1'
            cases h2'
            exact ⟨vs, hD, ra.ext0 ro e3⟩
      · show (S2.refs ++ [p])[m1.objs.length]? = some p
        rw [← hr.len, List.getElem?_concat_length]
  · rw [if_neg hs] at h
    exact h.elim
end

/-! ### the comprehension -/
structure DPs (X : Cx) (R : RC) (E : XK) (ifs : List Expr) (f : FB) : Prop where
  ex : ∃ t, PTs X ifs t ∧ ∀ S σ H ρ m Q, HR R S H m → ER R S H σ ρ → RoutG R S H E (PB Q) (f ρ m) → t σ H Q
def bYes : FB := fun _ m => .ok true m
open Classical in
noncomputable def lcW (ok : MS → Prop) (g : FG) (tt : FB) (te : FE) (ρ : Env') : List D → M (List D)
  | [], m => if ok m then .ok [] m else .stuck
  | d :: ds, m => if ok m then M.bind (g d ρ) (fun ρ1 => M.bind (tt ρ1) fun k => if k then M.bind (te ρ1) (fun y => M.bind (lcW ok g tt te ρ ds) fun ys m => .ok (y :: ys) m) else lcW ok g tt te ρ ds) m else .stuck
/-- no exception inside -/
def noX {α : Type} : Res α → Res α
  | .ok a m => .ok a m
  | _ => .stuck
noncomputable def dLc (fr : Bool) (vs : List Nat) (fi : Env' → M ItD) (g : FG) (tt : FB) (te : FE) : FE := fun ρ => M.bind (fi ρ) fun it => M.bind (fun m => noX (lcW it.Ok g tt te (wipeD ρ vs) it.items m)) (newL fr)
theorem bind_inv {α β : Type} {x : M α} {k : α → M β} {m m' : MS} {b : β} (h : M.bind x k m = .ok b m') : ∃ a m1, x m = .ok a m1 ∧ k a m1 = .ok b m' := by
  unfold M.bind at h
  cases e : x m with
  | ok a m1 => rw [e] at h; exact ⟨a, m1, rfl, h⟩
  | raise c fs m1 => rw [e] at h; cases h
  | stuck => rw [e] at h; cases h
section
variable {X : Cx} {R : RC} {E : XK} {pos : Pos}
theorem dps_nil : DPs X R E [] bYes := ⟨⟨_, pts_nil, fun S σ H ρ m Q hr he h => (show PB Q true m H S from h.now hr)⟩⟩
theorem dps_one {c : Expr} {f : FB} (h : DT X R E c f) : DPs X R E [c] f := by
  obtain ⟨t, a1, a2⟩ := h.ex
  exact ⟨⟨_, pts_one a1, a2⟩⟩
theorem CxR.blk (cx : CxR X R E) (s : Shared) (H : Hp) (scope : Scope) (C : Addr) (cl : List (Str × Addr)) (fp : List Addr) : CxR (X.blk s H scope (compEnvC scope cl C X.env) fp) R EF :=
  ⟨cx.K, cx.mg, cx.ok, takes0, PassesOwn.never, cx.pyl, cx.un, cx.calm, cx.nd⟩
theorem lc_walk {own : List (Str × Nat)} {ti : TI} {t1 : TG} {t2 : TT} {t3 : TE} {fr : Bool} {fi : Env' → M ItD} {g : FG} {tt : FB} {te : FE} (ro : R.Ok)
    (i2 : ∀ S σ H ρ m Q, HR R S H m → ER R S H σ ρ → RoutG R S H E (PI' R Q) (fi ρ m) → ti σ H Q)
    (g2 : ∀ S σ H ρ m v d Q, HR R S H m → ER R S H σ ρ → Rep R S H v d → RoutG R S H EF (PGc R (own.map (·.2)) σ Q) (g d ρ m) → t1 v σ H Q)
    (b2 : ∀ S σ H ρ m Q, HR R S H m → ER R S H σ ρ → RoutG R S H EF (PB Q) (tt ρ m) → t2 σ H Q)
    (c2 : ∀ S σ H ρ m Q, HR R S H m → ER R S H σ ρ → RoutG R S H EF (PV R Q) (te ρ m) → t3 σ H Q)
    {S : Sto} {σ : L2.St} {H : Hp} {ρ : Env'} {m : MS} {Q : VK} (hr : HR R S H m) (he : ER R S H σ ρ) (h : RoutG R S H E (PV R Q) (dLc fr (own.map (·.2)) fi g tt te ρ m)) : tLc ti t1 t2 t3 (own.map (·.2)) σ H Q := by
  refine i2 S σ H ρ m _ hr he (h.step fun it m1 H1 S1 e1 r1 q J W p hp => ?_)
  generalize own.map (·.2) = vs at *
  -- the list is made
  unfold M.bind at q
  dsimp only at q
  cases ew : lcW it.Ok g tt te (wipeD ρ vs) it.items m1 with
  | stuck => rw [ew] at q; exact q.elim
  | raise c fs m2 => rw [ew] at q; exact q.elim
  | ok zs mE =>
    rw [ew] at q
    have q : RoutG R S1 H1 E (PV R Q) (newL fr zs mE) := q
    have hz : short zs = true := by
      unfold newL at q
      by_cases hs : short zs = true
      · exact hs
      · rw [if_neg hs] at q
        exact q.elim
    have he1 := he.ext ro e1
    refine ⟨fun i n H2 => n = it.items.length - i ∧ i ≤ it.items.length ∧ ∃ S2 m2 acc ws ys, Ext0 S1 H1 S2 H2 ∧ S2.tmp = p :: S1.tmp ∧ (∀ a ∈ S1.tmp, H2 a = H1 a) ∧ HR R S2 H2 m2 ∧ H2 p = some (.lst ws) ∧ RepAll R S2 H2 ws acc ∧
      lcW it.Ok g tt te (wipeD ρ vs) (it.items.drop i) m2 = .ok ys mE ∧ zs = acc ++ ys,
      ⟨_, rfl, Nat.zero_le _, S1.tm p, m1, [], [], zs, Ext0.tm r1 hp, rfl, fun a ha => upd_ne fun z => r1.fresh hp (z ▸ tmp_mut ha), r1.tmNew ro hp [], upd_same, .nil, ew, rfl⟩, ?_⟩
    rintro i n H2 ⟨rfl, hi, S2, m2, acc, ws, ys, e2, tm, tk, r2, hD, ra, hl, ez⟩
    have hpm : p ∈ S2.tmp := by rw [tm]; exact List.mem_cons_self
    by_cases hlt : i < it.items.length
    · right
      rw [List.drop_eq_getElem_cons hlt] at hl
      unfold lcW at hl
      by_cases ok : it.Ok m2
      · rw [if_pos ok] at hl
        refine ⟨W.goes S2 H2 m2 i e2 r2 ok hlt, fun H' => i + 1 ≤ it.items.length ∧ ∃ S2 m2 acc ws ys, Ext0 S1 H1 S2 H' ∧ S2.tmp = p :: S1.tmp ∧ (∀ a ∈ S1.tmp, H' a = H1 a) ∧ HR R S2 H' m2 ∧ H' p = some (.lst ws) ∧ RepAll R S2 H' ws acc ∧
          lcW it.Ok g tt te (wipeD ρ vs) (it.items.drop (i + 1)) m2 = .ok ys mE ∧ zs = acc ++ ys, fun H' w => ⟨it.items.length - (i + 1), by omega, rfl, w⟩, fun x H3 y => ?_⟩
        obtain ⟨d, hd, e3, r3, rx⟩ := W.yields S2 H2 m2 i x H3 e2 r2 ok hlt y
        have ed : it.items[i] = d := by
          rw [List.getElem?_eq_getElem hlt] at hd
          exact Option.some.inj hd
        rw [ed] at hl
        obtain ⟨ρ1, m3, hg, hl⟩ := bind_inv hl
        obtain ⟨k, m4, ht, hl⟩ := bind_inv hl
        have he3 : ER R S2 H3 (wipe σ vs) (wipeD ρ vs) := (he1.ext0 ro (e2.trans e3.toExt0)).wipe vs
        refine g2 S2 (wipe σ vs) H3 (wipeD ρ vs) m2 x d _ r3 he3 rx ?_
        rw [hg]
        intro H4 S4 e4 r4 σ4 he4 hw4
        refine ⟨hw4.trans (wipe_wipe σ vs), b2 S4 σ4 H4 ρ1 m3 _ r4 he4 ?_⟩
        rw [ht]
        intro H5 S5 e5 r5
        have e25 : Ext S2 H2 S5 H5 := e3.trans (e4.trans e5)
        cases k with
        | false =>
          unfold PB
          simp only []
          rw [if_neg Bool.false_ne_true]
          rw [if_neg Bool.false_ne_true] at hl
          refine ⟨hlt, S5, m4, acc, ws, ys, e2.trans e25.toExt0, e25.tmp.trans tm, fun a ha => (e25.tk a (by rw [tm]; exact List.mem_cons_of_mem _ ha)).trans (tk a ha), r5, (e25.tk p hpm).trans hD, ra.ext ro e25, hl, ez⟩
        | true =>
          unfold PB
          simp only []
          rw [if_pos trivial]
          rw [if_pos rfl] at hl
          obtain ⟨yd, m5, hy, hl⟩ := bind_inv hl
          obtain ⟨ys', m6, hl, hfin⟩ := bind_inv hl
          cases hfin
          refine c2 S5 σ4 H5 ρ1 m4 _ r5 (he4.ext ro e5) ?_
          rw [hy]
          intro H6 S6 e6 r6 yv ry
          have e26 : Ext S2 H2 S6 H6 := e25.trans e6
          have hD6 := (e26.tk p hpm).trans hD
          have tm6 := e26.tmp.trans tm
          have hpm6 : p ∈ S6.tmp := by rw [tm6]; exact List.mem_cons_self
          have ep := Ext0.tmPut (H := H6) (o := .lst (ws ++ [yv])) hpm6
          have ra6 := ra.ext ro e26
          refine ⟨ws, hD6, ?_, hlt, S6, m5, acc ++ [yd], ws ++ [yv], ys', (e2.trans e26.toExt0).trans ep, tm6, fun a ha => ?_, r6.tmPut ro hpm6 _, upd_same, (ra6.app (.cons ry .nil)).ext0 ro ep, hl, by rw [ez, List.append_assoc]; rfl⟩
          · have hzl := short_lt hz
            rw [ez, List.length_append, List.length_cons] at hzl
            rw [ra.length]
            omega
          · rw [upd_ne fun z => ?_]
            · exact (e26.tk a (by rw [tm]; exact List.mem_cons_of_mem _ ha)).trans (tk a ha)
            · have := r2.nd
              unfold Sto.mut Sto.rest at this
              rw [tm, List.nodup_append, List.nodup_append] at this
              exact (List.nodup_cons.mp this.2.1.2.1).1 (z ▸ ha)
      · rw [if_neg ok] at hl
        cases hl
    · left
      have hn : i = it.items.length := by omega
      subst hn
      rw [List.drop_length] at hl
      unfold lcW at hl
      by_cases ok : it.Ok m2
      · rw [if_pos ok] at hl
        cases hl
        rw [List.append_nil] at ez
        subst ez
        exact ⟨W.stops S2 H2 mE e2 r2 ok, tm_done ro e2 tm tk hp r2 hD ra q⟩
      · rw [if_neg ok] at hl
        cases hl
/-- one rule's state for a family of contexts -/
theorem DE.all {ι : Type} {Xs : ι → Cx} {e : Expr} {f : FE} (h : ∀ i, DE (Xs i) R E e f) : ∃ t, (∀ i, PE (Xs i) e t) ∧ ∀ S σ H ρ m Q, HR R S H m → ER R S H σ ρ → RoutG R S H E (PV R Q) (f ρ m) → t σ H Q := by
  refine ⟨fun σ H Q => ∀ i t, PE (Xs i) e t → (∀ S σ H ρ m Q, HR R S H m → ER R S H σ ρ → RoutG R S H E (PV R Q) (f ρ m) → t σ H Q) → t σ H Q, fun i => ⟨fun pins s σ H Q I hw => ?_⟩, fun S σ H ρ m Q hr he h i t h1 h2 => h2 S σ H ρ m Q hr he h⟩
  obtain ⟨t, h1, h2⟩ := (h i).ex
  exact h1.run pins s σ H Q I (hw i t h1 h2)
theorem DPs.all {ι : Type} {Xs : ι → Cx} {e : List Expr} {f : FB} (h : ∀ i, DPs (Xs i) R E e f) : ∃ t, (∀ i, PTs (Xs i) e t) ∧ ∀ S σ H ρ m Q, HR R S H m → ER R S H σ ρ → RoutG R S H E (PB Q) (f ρ m) → t σ H Q := by
  refine ⟨fun σ H Q => ∀ i t, PTs (Xs i) e t → (∀ S σ H ρ m Q, HR R S H m → ER R S H σ ρ → RoutG R S H E (PB Q) (f ρ m) → t σ H Q) → t σ H Q, fun i => ⟨fun pins s σ H Q I hw => ?_⟩, fun S σ H ρ m Q hr he h i t h1 h2 => h2 S σ H ρ m Q hr he h⟩
  obtain ⟨t, h1, h2⟩ := (h i).ex
  exact h1.run pins s σ H Q I (hw i t h1 h2)
theorem DGc.all {ι : Type} {Xs : ι → Cx} {e : Expr} {g : FG} {vs : List Nat} (h : ∀ i, DGc (Xs i) R E vs e g) : ∃ t, (∀ i, PG (Xs i) e t) ∧ ∀ S σ H ρ m v d Q, HR R S H m → ER R S H σ ρ → Rep R S H v d → RoutG R S H E (PGc R vs σ Q) (g d ρ m) → t v σ H Q := by
  refine ⟨fun v σ H Q => ∀ i t, PG (Xs i) e t → (∀ S σ H ρ m v d Q, HR R S H m → ER R S H σ ρ → Rep R S H v d → RoutG R S H E (PGc R vs σ Q) (g d ρ m) → t v σ H Q) → t v σ H Q, fun i => ⟨fun pins s σ H v u Q I r hw => ?_⟩, fun S σ H ρ m v d Q hr he rv h i t h1 h2 => h2 S σ H ρ m v d Q hr he rv h⟩
  obtain ⟨t, h1, h2⟩ := (h i).ex
  exact h1.run pins s σ H v u Q I r (hw i t h1 h2)
abbrev BlkI := Shared × Hp × Addr × List (Str × Addr) × List Addr
abbrev bk (X : Cx) (scope : Scope) (i : BlkI) : Cx := X.blk i.1 i.2.1 scope (compEnvC scope i.2.2.2.1 i.2.2.1 X.env) i.2.2.2.2
theorem CxR.bk (cx : CxR X R E) (scope : Scope) (i : BlkI) : CxR (bk X scope i) R EF := cx.blk i.1 i.2.1 scope i.2.2.1 i.2.2.2.1 i.2.2.2.2
theorem de_lc (fr : Bool) {tg iter elt : Expr} {ifs : List Expr} {scope : Scope} (own : List (Str × Nat)) {fi : Env' → M ItD} {g : FG} {tt : FB} {te : FE} (cx : CxR X R E) (hi : DI X R E tg iter fi) (ok : BlkOk X.N X.env.scope scope own)
    (h1 : ∀ i, CxR (bk X scope i) R EF → DGc (bk X scope i) R EF (own.map (·.2)) tg g) (h2 : ∀ i, CxR (bk X scope i) R EF → DPs (bk X scope i) R EF ifs tt) (h3 : ∀ i, CxR (bk X scope i) R EF → DE (bk X scope i) R EF elt te)
    (hs : ∀ x, foldedSetIterable iter X.env x = pure x := by intro _; rfl) : DE X R E (.ListComp elt [⟨tg, iter, ifs, 0⟩] scope pos) (dLc fr (own.map (·.2)) fi g tt te) := by
  obtain ⟨ti, i1, i2⟩ := hi.ex
  obtain ⟨t1, g1, g2⟩ := DGc.all fun i => h1 i (cx.bk scope i)
  obtain ⟨t2, b1, b2⟩ := DPs.all fun i => h2 i (cx.bk scope i)
  obtain ⟨t3, c1, c2⟩ := DE.all fun i => h3 i (cx.bk scope i)
  exact ⟨⟨_, pe_lc cx.calm cx.nd i1 ok (fun s H C cl fp => g1 (s, H, C, cl, fp)) (fun s H C cl fp => b1 (s, H, C, cl, fp)) (fun s H C cl fp => c1 (s, H, C, cl, fp)) hs, fun S σ H ρ m Q hr he h => lc_walk cx.ok i2 g2 b2 c2 hr he h⟩⟩
/-- name = [..] on one line -/
theorem ds_setLc (fr : Bool) {i : Nat} {y : Str} {py spos : Pos} {tg iter elt : Expr} {ifs : List Expr} {scope : Scope} (own : List (Str × Nat)) {fi : Env' → M ItD} {g : FG} {tt : FB} {te : FE} (cx : CxR X R E) (hi : DI X R E tg iter fi) (ok : BlkOk X.N X.env.scope scope own)
    (h1 : ∀ i, CxR (bk X scope i) R EF → DGc (bk X scope i) R EF (own.map (·.2)) tg g) (h2 : ∀ i, CxR (bk X scope i) R EF → DPs (bk X scope i) R EF ifs tt) (h3 : ∀ i, CxR (bk X scope i) R EF → DE (bk X scope i) R EF elt te)
    (hy : X.N[i]? = some y := by rfl) (hyl : X.env.scope.names.lookup y = some .local := by rfl) (hk : X.env.scope.kind = .function := by rfl) (hl : (py.line == pos.line) = true := by rfl) (ha : (scope.names.any fun (n, k) => n == y && (k == .local || k == .cell)) = false := by rfl)
    (hs : ∀ x, foldedSetIterable iter X.env x = pure x := by intro _; rfl) : DS X R E (.Assign [.Name y py] (.ListComp elt [⟨tg, iter, ifs, 0⟩] scope pos) spos) (sAsg (dLc fr (own.map (·.2)) fi g tt te) (gN i)) := by
  obtain ⟨ti, i1, i2⟩ := hi.ex
  obtain ⟨t1, g1, g2⟩ := DGc.all fun i => h1 i (cx.bk scope i)
  obtain ⟨t2, b1, b2⟩ := DPs.all fun i => h2 i (cx.bk scope i)
  obtain ⟨t3, c1, c2⟩ := DE.all fun i => h3 i (cx.bk scope i)
  refine ⟨⟨_, ps_setLc cx.calm cx.nd hy hyl (sw_true hk hyl hl ha) i1 ok (fun s H C cl fp => g1 (s, H, C, cl, fp)) (fun s H C cl fp => b1 (s, H, C, cl, fp)) (fun s H C cl fp => c1 (s, H, C, cl, fp)) hs, fun S σ H ρ m Z hr he h => ?_⟩⟩
  refine lc_walk (E := E) cx.ok i2 g2 b2 c2 hr he (h.step fun d m1 H1 S1 e1 r1 q x rx => ?_)
  exact RoutG.now (R := R) (E := E) (P := PF R Z) q r1 _ ((he.ext cx.ok e1).set rx)
end
end TL
end
section
/-! The data layer: methods; the dict of the draws. -/
namespace TL
open PySem PySem.Spec PyProof.Rows L2

section
variable {X : Cx} {R : RC} {E : XK}
/-- the receiver is of the type T -/
def chk (T : String) (d : D) : M Unit := fun m => match d with
  | .str _ => if T = "str" then .ok () m else .stuck
  | .drg => if T = "list" ∧ m.dr.isSome = true then .ok () m else .stuck
  | d => if T = "list" then (match lstD m d with | some _ => .ok () m | none => .stuck) else .stuck
theorem chk_out {T : String} {S : Sto} {H : Hp} {m : MS} {v : V} {d : D} {α : Type} {P : α → MS → Hp → Sto → Prop} {k : Unit → M α} (hr : HR R S H m) (r : Rep R S H v d) (h : RoutG R S H E P (M.bind (chk T d) k m)) : tyV R.K T v H ∧ RoutG R S H E P (k () m) := by
  have main : RoutG R S H E P (M.bind (fun m => if T = "list" then (match lstD m d with | some _ => Res.ok () m | none => .stuck) else .stuck) k m) → tyV R.K T v H ∧ RoutG R S H E P (k () m) := fun h => by
    unfold M.bind at h
    dsimp only at h
    by_cases hT : T = "list"
    · rw [if_pos hT] at h
      cases e : lstD m d with
      | none => rw [e] at h; exact h.elim
      | some xs =>
        rw [e] at h
        obtain ⟨a, vs, rfl, h1, h2, h3⟩ := lstD_out hr r e
        exact ⟨.inl ⟨hT, vs, h1⟩, h⟩
    · rw [if_neg hT] at h
      exact h.elim
  cases d with
  | str z =>
    unfold M.bind chk at h
    dsimp only at h
    by_cases hT : T = "str"
    · rw [if_pos hT] at h
      have e := rep_str r
      subst e
      exact ⟨hT, h⟩
    · rw [if_neg hT] at h
      exact h.elim
  | drg =>
    unfold M.bind chk at h
    dsimp only at h
    by_cases hT : T = "list" ∧ m.dr.isSome = true
    · rw [if_pos hT] at h
      have q := hr.dr
      cases e : m.dr with
      | none => rw [e] at hT; exact absurd hT.2 (by simp)
      | some dd =>
        rw [e] at q
        obtain ⟨a, g, c, e0, h1, h2, h3⟩ := q
        cases r with
        | drg hd =>
          rw [hd] at e0
          cases e0
          exact ⟨.inl ⟨hT.1, _, SqL.of h2⟩, h⟩
    · rw [if_neg hT] at h
      exact h.elim
  | _ => exact main h
/-- a method of the type T does g -/
def MtD (X : Cx) (R : RC) (E : XK) (id : String) (g : D → List D → M D) : Prop :=
  ∃ r, MtR X id r ∧ ∀ S H m x a vs ds Q, HR R S H m → Rep R S H x a → RepAll R S H vs ds → RoutG R S H E (PV R Q) (g a ds m) → r x vs H Q
def dMeth (T : String) (g : D → List D → M D) (fo : FE) (ga : FA) : FE := fun ρ => M.bind (fo ρ) fun o => M.bind (chk T o) fun _ => M.bind (ga ρ) fun ds => g o ds
variable {o e : Expr} {es : List Expr} {fo : FE} {ga : FA} {g : D → List D → M D} {name : Str} {apos cpos : Pos} {T id : String}
theorem de_meth (pa : PlainAttrs T) (slot : Slot T name id) (hty : typeOf (.builtin id) = pure (.type "method_descriptor")) (cx : CxR X R E) (hm : MtD X R E id g) (ho : DE X R E o fo) (ha : DA X R E (e :: es) ga)
    (hbase : attributeBase o name X.env (eval o X.env) = eval o X.env := by rfl)
    (hfew : ((backTo cpos (starEach (e :: es) X.env)).all (fun x => !x.1) && (backToKw cpos (keywordEach [] X.env)).all (fun x => x.1.isSome)
      && decide ((e :: es).length + ([] : List Keyword).length + (if ([] : List Keyword).isEmpty then 0 else 1) < 30)) = true := by rfl)
    (hline : (apos.endLine == cpos.line) = true := by rfl) (hs : starEach (e :: es) X.env = (false, eval e X.env) :: starEach es X.env := by rfl) (hplain : (backTo cpos (starEach es X.env)).any (·.1) = false := by rfl) :
    DE X R E (.Call (.Attribute o name apos) (e :: es) [] cpos) (dMeth T g fo ga) := by
  obtain ⟨r, h1, h2⟩ := hm
  obtain ⟨to, a1, a2⟩ := ho.ex
  obtain ⟨t, b1, b2⟩ := ha.ex
  refine ⟨⟨_, pe_bm pa slot hty h1 a1 b1 hbase hfew hline hs hplain, fun S σ H ρ m Q hr he h => a2 S σ H ρ m _ hr he (h.step fun d m1 H1 S1 e1 r1 q v rv => ?_)⟩⟩
  rw [cx.K]
  obtain ⟨hT, q⟩ := chk_out r1 rv q
  exact ⟨hT, b2 S1 σ H1 ρ m1 _ r1 (he.ext cx.ok e1) (q.step fun ds m2 H2 S2 e2 r2 q2 vs rvs => h2 S2 H2 m2 v d vs ds Q r2 (rv.ext cx.ok e2) rvs q2)⟩
theorem de_meth0 (pa : PlainAttrs T) (slot : Slot T name id) (hty : typeOf (.builtin id) = pure (.type "method_descriptor")) (cx : CxR X R E) (hm : MtD X R E id g) (ho : DE X R E o fo)
    (hbase : attributeBase o name X.env (eval o X.env) = eval o X.env := by rfl) (hline : (apos.endLine == cpos.line) = true := by rfl) :
    DE X R E (.Call (.Attribute o name apos) [] [] cpos) (dMeth T g fo aNil) := by
  obtain ⟨r, h1, h2⟩ := hm
  obtain ⟨to, a1, a2⟩ := ho.ex
  refine ⟨⟨_, pe_bm0 pa slot hty h1 a1 hbase hline, fun S σ H ρ m Q hr he h => a2 S σ H ρ m _ hr he (h.step fun d m1 H1 S1 e1 r1 q v rv => ?_)⟩⟩
  rw [cx.K]
  obtain ⟨hT, q⟩ := chk_out r1 rv q
  exact ⟨hT, h2 S1 H1 m1 v d [] [] Q r1 rv .nil q⟩

/-! ### lists -/
def appendD (o : D) (ds : List D) : M D := fun m => match o, ds with
  | .ref n, [d] => (match m.objs[n]? with | some (.lst xs) => if xs.length < 1000000 then .ok .non { m with objs := m.objs.set n (.lst (xs ++ [d])) } else .stuck | _ => .stuck)
  | _, _ => .stuck
theorem mil_lt {n : Nat} (h : n < 1000000) : n < sizeLine := Nat.lt_trans h (by decide)
theorem mt_append_d (cx : CxR X R E) : MtD X R E "list.append" appendD := ⟨_, mt_append, fun S H m x a vs ds Q hr ra rv h => by
  unfold appendD at h
  cases a with
  | ref n =>
    cases rv with
    | nil => exact h.elim
    | @cons y d ys ds' r rr =>
      cases rr with
      | cons _ _ => exact h.elim
      | nil =>
        dsimp only at h
        cases eo : m.objs[n]? with
        | none => rw [eo] at h; exact h.elim
        | some u =>
          rw [eo] at h
          cases u with
          | lst xs =>
            dsimp only at h
            by_cases hl : xs.length < 1000000
            · rw [if_pos hl] at h
              obtain ⟨p, vs, rfl, hn, hp, rx⟩ := ref_out hr ra eo
              have ex := Ext.put (o := .lst (vs ++ [y])) hr hn
              exact ⟨p, vs, y, rfl, rfl, hp, by rw [rx.length]; exact mil_lt hl, h _ S ex (hr.put cx.ok hn ⟨_, upd_same, (rx.app (.cons r .nil)).ext cx.ok ex⟩) _ .non⟩
            · rw [if_neg hl] at h
              exact h.elim
          | _ => exact h.elim
  | _ => cases ds <;> exact h.elim⟩
def extendD (o : D) (ds : List D) : M D := fun m => match o, ds with
  | .ref n, [d] => (match m.objs[n]?, lstD m d with | some (.lst xs), some ys => if xs.length + ys.length < 1000000 then .ok .non { m with objs := m.objs.set n (.lst (xs ++ ys)) } else .stuck | _, _ => .stuck)
  | _, _ => .stuck
theorem mt_extend_d (cx : CxR X R E) : MtD X R E "list.extend" extendD := ⟨_, mt_extend, fun S H m x a vs ds Q hr ra rv h => by
  unfold extendD at h
  cases a with
  | ref n =>
    cases rv with
    | nil => exact h.elim
    | @cons y d ys ds' r rr =>
      cases rr with
      | cons _ _ => exact h.elim
      | nil =>
        dsimp only at h
        cases eo : m.objs[n]? with
        | none => rw [eo] at h; exact h.elim
        | some u =>
          cases ey : lstD m d with
          | none => rw [eo, ey] at h; cases u <;> exact h.elim
          | some zs =>
            rw [eo, ey] at h
            cases u with
            | lst xs =>
              dsimp only at h
              by_cases hl : xs.length + zs.length < 1000000
              · rw [if_pos hl] at h
                obtain ⟨p, vs, rfl, hn, hp, rx⟩ := ref_out hr ra eo
                obtain ⟨b, ws, rfl, _, ry, hb⟩ := lstD_out hr r ey
                have ex := Ext.put (o := .lst (vs ++ ws)) hr hn
                exact ⟨p, b, vs, ws, rfl, rfl, hp, hb, by rw [rx.length, ry.length]; exact Nat.le_of_lt (mil_lt hl), h _ S ex (hr.put cx.ok hn ⟨_, upd_same, (rx.app ry).ext cx.ok ex⟩) _ .non⟩
              · rw [if_neg hl] at h
                exact h.elim
            | _ => exact h.elim
  | _ => cases ds <;> exact h.elim⟩
theorem RepAll.dropLast {S : Sto} {H : Hp} {vs : List V} {ds : List D} (r : RepAll R S H vs ds) : RepAll R S H vs.dropLast ds.dropLast := by
  rw [List.dropLast_eq_take, List.dropLast_eq_take, r.length]
  exact r.take _
def popD (o : D) (ds : List D) : M D := fun m => match o, ds with
  | .ref n, [] => (match m.objs[n]? with | some (.lst xs) => (match xs[xs.length - 1]? with | some d => .ok d { m with objs := m.objs.set n (.lst xs.dropLast) } | none => .stuck) | _ => .stuck)
  | _, _ => .stuck
theorem mt_pop_d (cx : CxR X R E) : MtD X R E "list.pop" popD := ⟨_, mt_pop, fun S H m x a vs ds Q hr ra rv h => by
  unfold popD at h
  cases a with
  | ref n =>
    cases rv with
    | cons _ _ => exact h.elim
    | nil =>
      dsimp only at h
      cases eo : m.objs[n]? with
      | none => rw [eo] at h; exact h.elim
      | some u =>
        rw [eo] at h
        cases u with
        | lst xs =>
          dsimp only at h
          cases ed : xs[xs.length - 1]? with
          | none => rw [ed] at h; exact h.elim
          | some d =>
            rw [ed] at h
            obtain ⟨p, vs, rfl, hn, hp, rx⟩ := ref_out hr ra eo
            obtain ⟨y, h1, h2⟩ := rx.get ed
            have ex := Ext.put (o := .lst vs.dropLast) hr hn
            exact ⟨p, vs, y, rfl, rfl, hp, by rw [rx.length]; exact h1, h _ S ex (hr.put cx.ok hn ⟨_, upd_same, rx.dropLast.ext cx.ok ex⟩) _ (h2.ext cx.ok ex)⟩
        | _ => exact h.elim
  | _ => cases ds <;> exact h.elim⟩
theorem RepAll.erase {S : Sto} {H : Hp} : ∀ {vs : List V} {ds : List D} (i : Nat), RepAll R S H vs ds → RepAll R S H (vs.eraseIdx i) (ds.eraseIdx i)
  | _, _, _, .nil => .nil
  | _, _, 0, .cons _ t => t
  | _, _, i + 1, .cons q t => .cons q (RepAll.erase i t)
theorem ints_erase (ns : List Int) (i : Nat) : (ns.map V.int).eraseIdx i = (ns.eraseIdx i).map V.int := by
  induction ns generalizing i with
  | nil => rfl
  | cons n ns ih =>
    cases i with
    | zero => rfl
    | succ i => simp [ih]
/-- l.pop(i), the list one of ours, or the draws' great ones -/
def popAtD (o : D) (ds : List D) : M D := fun m => match ds with
  | [.int i] => if -(2 ^ 63) ≤ i ∧ i < 2 ^ 63 then (match o with
    | .ref n => (match m.objs[n]? with
      | some (.lst xs) => (match seqIndex? i xs.length with
        | some k => (match xs[k]? with | some d => .ok d { m with objs := m.objs.set n (.lst (xs.eraseIdx k)) } | none => .stuck)
        | none => .stuck)
      | _ => .stuck)
    | .drg => (match m.dr with
      | some dr => (match seqIndex? i dr.great.length with
        | some k => (match dr.great[k]? with | some z => .ok (.int z) { m with dr := some { dr with great := dr.great.eraseIdx k } } | none => .stuck)
        | none => .stuck)
      | none => .stuck)
    | _ => .stuck) else .stuck
  | _ => .stuck
/-- the draws' objects are written -/
theorem drs_split {S : Sto} {H : Hp} {m : MS} {a g c : Addr} (hr : HR R S H m) (e : S.drw = some (a, g, c)) : a ≠ g ∧ (∀ p, p = a ∨ p = g → p ∉ S.refs ∧ p ∉ S.tmp) := by
  have nd := hr.nd
  unfold Sto.mut Sto.rest Sto.drs at nd
  rw [e] at nd
  dsimp only at nd
  rw [List.nodup_append, List.nodup_append] at nd
  refine ⟨fun z => ?_, fun p hp => ⟨fun z => ?_, fun z => ?_⟩⟩
  · have := (List.nodup_cons.mp nd.2.1.1).1
    exact this (by simp [z])
  · exact nd.2.2 p z p (List.mem_append_left _ (by simpa using hp)) rfl
  · exact nd.2.1.2.2 p (by simpa using hp) p z rfl
theorem Ext.drPut {S : Sto} {H : Hp} {m : MS} {a g c p : Addr} {o : HO} (hr : HR R S H m) (e : S.drw = some (a, g, c)) (hp : p = a ∨ p = g) : Ext S H S (upd H p o) := by
  obtain ⟨n0, n1⟩ := drs_split hr e
  have hm : p ∈ S.mut := drs_mut (by unfold Sto.drs; rw [e]; simpa using hp)
  refine ⟨⟨⟨[], by simp⟩, fun _ h => h, fun _ h => .inl h, fun b u h n _ => by rw [upd_ne (a := p) (b := b) (fun z => n (z ▸ hm))]; exact h, fun b u h => ?_⟩, rfl, fun b hb => upd_ne fun z => (n1 p hp).2 (z ▸ hb)⟩
  by_cases hb : b = p
  · rw [hb, upd_same]; exact ⟨o, rfl⟩
  · rw [upd_ne hb]; exact ⟨u, h⟩
theorem HR.drPut {S : Sto} {H : Hp} {m : MS} {a g c p : Addr} {o : HO} {dr' : Dr} (ro : R.Ok) (hr : HR R S H m) (e : S.drw = some (a, g, c)) (hp : p = a ∨ p = g) (hd : DrRep S (upd H p o) (some dr')) : HR R S (upd H p o) { m with dr := some dr' } := by
  obtain ⟨n0, n1⟩ := drs_split hr e
  have ex := (Ext.drPut (o := o) hr e hp).toExt0
  have hm : p ∈ S.mut := drs_mut (by unfold Sto.drs; rw [e]; simpa using hp)
  refine ⟨hr.nd, hr.len, fun k b u h1 h2 => (hr.obj k b u h1 h2).ext0 ro ex (upd_ne fun z => (n1 p hp).1 (z ▸ List.mem_of_getElem? h1)), hd, fun b hb => by rw [upd_ne (a := p) (b := b) (fun z => (n1 p hp).2 (z ▸ hb))]; exact hr.tm b hb,
    (fun ⟨o', h1, h2⟩ => tabs_put hr.tb h1 h2) (hr.tracked hm)⟩
theorem mt_popAt_d (cx : CxR X R E) : MtD X R E "list.pop" popAtD := ⟨_, mt_popAt, fun S H m x a vs ds Q hr ra rv h => by
  unfold popAtD at h
  cases rv with
  | nil => exact h.elim
  | @cons y d ys ds' r rr =>
    cases rr with
    | cons _ _ => cases d <;> exact h.elim
    | nil =>
      cases d with
      | int i =>
        dsimp only at h
        by_cases hi : -(2 ^ 63) ≤ i ∧ i < 2 ^ 63
        · rw [if_pos hi] at h
          have ey := rep_int r
          subst ey
          cases a with
          | ref n =>
            dsimp only at h
            cases eo : m.objs[n]? with
            | none => rw [eo] at h; exact h.elim
            | some u =>
              rw [eo] at h
              cases u with
              | lst xs =>
                dsimp only at h
                cases ek : seqIndex? i xs.length with
                | none => rw [ek] at h; exact h.elim
                | some k =>
                  rw [ek] at h
                  dsimp only at h
                  cases ed : xs[k]? with
                  | none => rw [ed] at h; exact h.elim
                  | some d =>
                    rw [ed] at h
                    obtain ⟨p, vs, rfl, hn, hp, rx⟩ := ref_out hr ra eo
                    obtain ⟨y, h1, h2⟩ := rx.get ed
                    have ex := Ext.put (o := .lst (vs.eraseIdx k)) hr hn
                    exact ⟨p, vs, i, k, y, rfl, rfl, hp, hi.1, hi.2, by rw [rx.length]; exact ek, h1, h _ S ex (hr.put cx.ok hn ⟨_, upd_same, (rx.erase k).ext cx.ok ex⟩) _ (h2.ext cx.ok ex)⟩
              | _ => exact h.elim
          | drg =>
            dsimp only at h
            cases eo : m.dr with
            | none => rw [eo] at h; exact h.elim
            | some dr =>
              rw [eo] at h
              dsimp only at h
              cases ek : seqIndex? i dr.great.length with
              | none => rw [ek] at h; exact h.elim
              | some k =>
                rw [ek] at h
                dsimp only at h
                cases ed : dr.great[k]? with
                | none => rw [ed] at h; exact h.elim
                | some z =>
                  rw [ed] at h
                  cases ra with
                  | @drg a g c hd =>
                    have q := hr.dr
                    rw [eo] at q
                    obtain ⟨a', g', c', e0, h1, h2, h3⟩ := q
                    rw [hd] at e0
                    cases e0
                    obtain ⟨n0, n1⟩ := drs_split hr hd
                    have ex := Ext.drPut (o := .lst ((dr.great.eraseIdx k).map V.int)) hr hd (.inr rfl)
                    refine ⟨g, dr.great.map V.int, i, k, .int z, rfl, rfl, h2, hi.1, hi.2, by rw [List.length_map]; exact ek, by rw [List.getElem?_map, ed]; rfl, ?_⟩
                    rw [ints_erase]
                    refine h _ S ex (hr.drPut cx.ok hd (.inr rfl) ⟨a, g, c, hd, ?_, upd_same, h3.ext ex.toExt0⟩) _ (.int z)
                    rw [upd_ne n0]
                    exact h1
          | _ => exact h.elim
        · rw [if_neg hi] at h
          exact h.elim
      | _ => exact h.elim⟩
/-! ### the dict of the draws -/
def ixDr (a b : D) : M D := fun m => match a, b with
  | .drw, .str k => (match m.dr with
    | some d => if k = ("rest" : Str) then .ok (.int d.rest) m else if k = ("turn" : Str) then .ok (.int d.turn) m else if k = ("great" : Str) then .ok .drg m else if k = ("cells" : Str) then .ok (.lst (d.cells.map D.int)) m else .stuck
    | none => .stuck)
  | _, _ => .stuck
theorem de_ixDr {a b : Expr} {fa fb : FE} {pos : Pos} (cx : CxR X R E) (hu : X.A.units + 1 < cLine) (ha : DE X R E a fa) (hb : DE X R E b fb) (hs : NoSl b := by intro _ _; rfl) : DE X R E (.Subscript a b pos) (dBin ixDr fa fb) := by
  obtain ⟨ta, a1, a2⟩ := ha.ex
  obtain ⟨tb, b1, b2⟩ := hb.ex
  refine ⟨⟨_, pe_dget hu a1 b1 hs, fun S σ H ρ m Q hr he h => a2 S σ H ρ m _ hr he (h.step fun d m1 H1 S1 e1 r1 q v rv => ?_)⟩⟩
  refine b2 S1 σ H1 ρ m1 _ r1 (he.ext cx.ok e1) (q.step fun d2 m2 H2 S2 e2 r2 q2 v2 rv2 => ?_)
  have rv := rv.ext cx.ok e2
  unfold ixDr at q2
  cases d with
  | drw =>
    cases d2 with
    | str k =>
      dsimp only at q2
      cases eo : m2.dr with
      | none => rw [eo] at q2; exact q2.elim
      | some dr =>
        rw [eo] at q2
        dsimp only at q2
        cases rv with
        | @drw a g c hd =>
          have q := r2.dr
          rw [eo] at q
          obtain ⟨a', g', c', e0, h1, h2, h3⟩ := q
          rw [hd] at e0
          cases e0
          have e2' := rep_str rv2
          subst e2'
          by_cases k1 : k = ("rest" : Str)
          · rw [if_pos k1] at q2
            subst k1
            exact ⟨a, .int dr.rest, rfl, .inl ⟨_, .inr "rest", .inl h1, rfl, by rfl⟩, q2.now r2 _ (.int _)⟩
          · rw [if_neg k1] at q2
            by_cases k2 : k = ("turn" : Str)
            · rw [if_pos k2] at q2
              subst k2
              exact ⟨a, .int dr.turn, rfl, .inl ⟨_, .inr "turn", .inl h1, rfl, by rfl⟩, q2.now r2 _ (.int _)⟩
            · rw [if_neg k2] at q2
              by_cases k3 : k = ("great" : Str)
              · rw [if_pos k3] at q2
                subst k3
                exact ⟨a, .ref g, rfl, .inl ⟨_, .inr "great", .inl h1, rfl, by rfl⟩, q2.now r2 _ (.drg hd)⟩
              · rw [if_neg k3] at q2
                by_cases k4 : k = ("cells" : Str)
                · rw [if_pos k4] at q2
                  subst k4
                  exact ⟨a, .ref c, rfl, .inl ⟨_, .inr "cells", .inl h1, rfl, by rfl⟩, q2.now r2 _ (.lst h3 (RepAll.ints _))⟩
                · rw [if_neg k4] at q2
                  exact q2.elim
    | _ => exact q2.elim
  | _ => cases d2 <;> exact q2.elim
def putDr (o i d : D) : M Unit := fun m => match o, i, d with
  | .drw, .str k, .int z => (match m.dr with
    | some dr => if k = ("rest" : Str) then .ok () { m with dr := some { dr with rest := z } } else if k = ("turn" : Str) then .ok () { m with dr := some { dr with turn := z } } else .stuck
    | none => .stuck)
  | _, _, _ => .stuck
def gSubDr (fo fi : FE) : FG := fun d ρ => M.bind (fo ρ) fun o => M.bind (fi ρ) fun i => M.bind (putDr o i d) fun _ m => .ok ρ m
theorem dg_subDr {o i : Expr} {fo fi : FE} {pos : Pos} (cx : CxR X R E) (hu : X.A.units + 1 < cLine) (ho : DE X R E o fo) (hi : DE X R E i fi)
    (ha : ∀ v, assign (.Subscript o i pos) X.env v = (do
      let ov ← holding [v] (eval o X.env)
      let iv ← holding [v, ov] (eval i X.env)
      standAt pos
      holding [v, ov, iv] (setItem ov iv v)
      release [v, ov, iv] []) := by intro _; rfl) : DG X R E (.Subscript o i pos) (gSubDr fo fi) := by
  obtain ⟨t, a1, a2⟩ := ho.ex
  obtain ⟨t', b1, b2⟩ := hi.ex
  refine ⟨⟨_, pg_sub a1 b1 (set_dict hu) ha, fun S σ H ρ m v d Q hr he rv h => a2 S σ H ρ m _ hr he (h.step fun od m1 H1 S1 e1 r1 q x rx => ?_)⟩⟩
  refine b2 S1 σ H1 ρ m1 _ r1 (he.ext cx.ok e1) (q.step fun id m2 H2 S2 e2 r2 q2 y ry => ?_)
  have rx := rx.ext cx.ok e2
  have rv := rv.ext cx.ok (e1.trans e2)
  have he := he.ext cx.ok (e1.trans e2)
  unfold M.bind putDr at q2
  cases od with
  | drw =>
    cases id with
    | str k =>
      cases d with
      | int z =>
        dsimp only at q2
        cases eo : m2.dr with
        | none => rw [eo] at q2; exact q2.elim
        | some dr =>
          rw [eo] at q2
          dsimp only at q2
          cases rx with
          | @drw a g c hd =>
            have q := r2.dr
            rw [eo] at q
            obtain ⟨a', g', c', e0, h1, h2, h3⟩ := q
            rw [hd] at e0
            cases e0
            obtain ⟨n0, n1⟩ := drs_split r2 hd
            have e1' := rep_int rv
            have e2' := rep_str ry
            subst e1'
            subst e2'
            have gg : ∀ o, upd H2 a o g = H2 g := fun o => upd_ne (Ne.symm n0)
            by_cases k1 : k = ("rest" : Str)
            · rw [if_pos k1] at q2
              subst k1
              have ex := Ext.drPut (o := .dK [(.inr "great", .ref g), (.inr "cells", .ref c), (.inr "rest", .int z), (.inr "turn", .int dr.turn)]) r2 hd (.inl rfl)
              refine ⟨a, _, rfl, .inl ⟨_, .inr "rest", h1, rfl, by show (4 : Nat) < sizeLine; decide, rfl⟩, ?_⟩
              exact q2 _ S2 ex (r2.drPut cx.ok hd (.inl rfl) ⟨a, g, c, hd, upd_same, (gg _).trans h2, h3.ext ex.toExt0⟩) σ (he.ext cx.ok ex)
            · rw [if_neg k1] at q2
              by_cases k2 : k = ("turn" : Str)
              · rw [if_pos k2] at q2
                subst k2
                have ex := Ext.drPut (o := .dK [(.inr "great", .ref g), (.inr "cells", .ref c), (.inr "rest", .int dr.rest), (.inr "turn", .int z)]) r2 hd (.inl rfl)
                refine ⟨a, _, rfl, .inl ⟨_, .inr "turn", h1, rfl, by show (4 : Nat) < sizeLine; decide, rfl⟩, ?_⟩
                exact q2 _ S2 ex (r2.drPut cx.ok hd (.inl rfl) ⟨a, g, c, hd, upd_same, (gg _).trans h2, h3.ext ex.toExt0⟩) σ (he.ext cx.ok ex)
              · rw [if_neg k2] at q2
                exact q2.elim
      | _ => exact q2.elim
    | _ => cases d <;> exact q2.elim
  | _ => cases id <;> cases d <;> exact q2.elim
end
end TL
end
section
/-! The data layer: the defs of the text and their calls. -/
namespace TL
open PySem PySem.Spec PyProof.Rows L2

/-- what a def promises: F of the arguments' data -/
def spD (R : RC) (n : Nat) (F : List D → M D) : Sp := fun vs H Q E => vs.length = n ∧ ∃ S m ds, HR R S H m ∧ RepAll R S H vs ds ∧ RoutG R S H E (PV R Q) (F ds m)
/-- the slots at the entry -/
def startD (n : Nat) (ds : List D) : Env' := ds.map some ++ List.replicate (n - ds.length) none
theorem er_start {R : RC} {S : Sto} {H : Hp} {N : List Str} {vs : List V} {ds : List D} (r : RepAll R S H vs ds) : ER R S H (L2.start N vs) (startD N.length ds) := by
  have hl := r.length
  refine ⟨by unfold L2.start startD; simp [hl], fun i d q => ?_⟩
  unfold startD at q
  by_cases hi : i < ds.length
  · rw [List.getElem?_append_left (by simpa using hi), List.getElem?_map] at q
    cases e : ds[i]? with
    | none => rw [e] at q; cases q
    | some d' =>
      rw [e] at q
      cases q
      obtain ⟨v, h1, h2⟩ := r.get e
      refine ⟨v, ?_, h2⟩
      unfold L2.start
      rw [List.getElem?_append_left (by simpa [hl] using hi), List.getElem?_map, h1]
      rfl
  · rw [List.getElem?_append_right (by simpa using hi), List.getElem?_replicate] at q
    split at q <;> cases q
def endF : Fl → M D
  | .ret d => fun m => .ok d m
  | .next _ => fun m => .ok .non m
  | _ => fun _ => .stuck
def bodyF (u : FS) (n : Nat) : List D → M D := fun ds => M.bind (u (startD n ds)) endF
/-- what is known of the base -/
structure Bs (P : Program) (w : World) (base : Heap) (R : RC) : Prop where
  ok : R.Ok
  seer : base.NoSeer
  tree : P.given.tree = none
structure FnD (P : Program) (w : World) (base : Heap) (R : RC) (x : Str) (k : Nat) (ps : List Str) (st : Stmt) (F : List D → M D) : Prop where
  ex : ∃ f fd, FnOk P w R.K R.mg base (L2.CX P w) k f fd ps (spD R ps.length F) ∧ R.mg x = some (.ref f) ∧ Fun R.K x x st f fd ∧ Binds R.K fd ps []
section
variable {P : Program} {w : World} {base : Heap} {R : RC}
theorem cxr_of (B : Bs P w base R) {N ps : List Str} {x : Str} {sc : Scope} {f : Addr} {cdv : Value} {A : Around} {outer : List Env} {s : Shared} {H : Hp} {E : XK} {k : Nat} (S : FnScope N ps sc) (hk : 40 ≤ k) (hr : Room k (A.deeper (envOfC x sc s.heap.objs.size f cdv))) :
    CxR (cxOf (L2.CX P w) P w R.K R.mg base N x sc f cdv A outer s H E) R E where
  K := rfl
  mg := rfl
  ok := B.ok
  tk := takes_of rfl rfl rfl rfl
  po := passes_of rfl
  pyl := fun s' hf hl hb => PylongRoom.of hl (by have := hr.dp; show (A.deeper (envOfC x sc s.heap.objs.size f cdv)).depth + 100 < _; omega) (SeerAt.of (B.seer.keeps hb) B.tree hf S.gen S.co rfl rfl)
  un := by have := hr.un; show (A.deeper (envOfC x sc s.heap.objs.size f cdv)).units + 65 < _; omega
  calm := rfl
  nd := S.nd
theorem endF_out {S : Sto} {H : Hp} {E : XK} {Q : VK} {n : Nat} {u : FS} {ds : List D} {m : MS} (h : RoutG R S H E (PV R Q) (bodyF u n ds m)) : RoutG R S H E (PF R { nx := fun _ H' => Q .non H', rt := Q }) (u (startD n ds) m) :=
  h.step fun fl m1 H1 S1 e1 r1 q => by
    cases fl with
    | ret d => exact fun v rv => q.now r1 v rv
    | next ρ' => exact fun σ' _ => q.now r1 _ .non
    | brk ρ' => exact q.elim
    | cont ρ' => exact q.elim
/-- THE RULE for a def -/
theorem fnD_of (B : Bs P w base R) {x : Str} {st : Stmt} {f : Addr} {fd : FuncData} {N ps : List Str} {k : Nat} {u : FS} {F : List D → M D} (Fu : Fun R.K x x st f fd) (hm : R.mg x = some (.ref f)) (S : FnScope N ps (defScope st)) (hk : 40 ≤ k) (hb : Binds R.K fd ps [])
    (hF : ∀ S H m ds E Q, HR R S H m → ds.length = ps.length → RoutG R S H E (PV R Q) (F ds m) → RoutG R S H E (PV R Q) (bodyF u N.length ds m))
    (h : ∀ (cdv : Value) (A : Around) (outer : List Env) (s : Shared) (H : Hp) (E : XK), Room k (A.deeper (envOfC x (defScope st) s.heap.objs.size f cdv)) → CxR (cxOf (L2.CX P w) P w R.K R.mg base N x (defScope st) f cdv A outer s H E) R E →
      DSs (cxOf (L2.CX P w) P w R.K R.mg base N x (defScope st) f cdv A outer s H E) R E (defBody st) u) : FnD P w base R x (k + 1) ps st F := by
  refine ⟨f, fd, Fu.okX S (fun vs H Q E h => h.1) fun cdv A outer s H vs Q E hr hsp => ?_, hm, Fu, hb⟩
  obtain ⟨hl, St, m, ds, h1, h2, h3⟩ := hsp
  obtain ⟨t, a1, a2⟩ := (h cdv A outer s H E hr (cxr_of B S hk hr)).ex
  exact ⟨t, a1, a2 St _ H _ m _ h1 (er_start h2) (endF_out (hF St H m ds E Q h1 (by rw [← h2.length]; exact hl) h3))⟩
theorem FnD.mono {x : Str} {j k : Nat} {ps : List Str} {st : Stmt} {F : List D → M D} (h : FnD P w base R x j ps st F) (hj : j ≤ k) : FnD P w base R x k ps st F := by
  obtain ⟨f, fd, h1, h2⟩ := h.ex
  exact ⟨f, fd, h1.mono hj, h2⟩
end
section
variable {X : Cx} {R : RC} {E : XK} {pos p : Pos} {x : Str} {k j : Nat} {ps : List Str} {st : Stmt} {F : List D → M D}
def dCall (F : List D → M D) (g : FA) : FE := fun ρ => M.bind (g ρ) F
def lenF (n : Nat) (F : List D → M D) : List D → M D := fun ds m => if ds.length = n then F ds m else .stuck
theorem lenF_out {S : Sto} {H : Hp} {Q : VK} {n : Nat} {ds : List D} {m : MS} (h : RoutG R S H E (PV R Q) (lenF n F ds m)) : ds.length = n ∧ RoutG R S H E (PV R Q) (F ds m) := by
  unfold lenF at h
  by_cases hl : ds.length = n
  · rw [if_pos hl] at h
    exact ⟨hl, h⟩
  · rw [if_neg hl] at h
    exact h.elim
theorem de_call {e : Expr} {es : List Expr} {g : FA} (cx : CxR X R E) (hf : FnD X.prog X.w X.base R x j ps st F) (hr : Room k X.A) (hj : j ≤ k) (hg : Gl X x) (ha : DA X R E (e :: es) g)
    (hdb : (x == ("__debug__" : Str)) = false := by decide) (he : starEach (e :: es) X.env = (false, eval e X.env) :: starEach es X.env := by rfl) (hpl : (backTo pos (starEach es X.env)).any (·.1) = false := by rfl) :
    DE X R E (.Call (.Name x p) (e :: es) [] pos) (dCall (lenF ps.length F) g) := by
  obtain ⟨f, fd, h1, h2, h3, h4⟩ := hf.ex
  obtain ⟨t, a1, a2⟩ := ha.ex
  have K := cx.K
  have G := cx.mg
  rw [← K, ← G] at h1
  refine ⟨⟨_, pe_call (E := E) h1 (hr.mono hj) hg (by rw [G]; exact h2) (by rw [K]; exact h3.kp) (by rw [K]; exact h4) .nil (passes_call cx.tk fun _ _ _ _ h => h) a1 hdb he hpl, fun S σ H ρ m Q hr' he' h => a2 S σ H ρ m _ hr' he' (h.step fun ds m1 H1 S1 e1 r1 q vs rv => ?_)⟩⟩
  obtain ⟨hl, q⟩ := lenF_out q
  rw [List.append_nil]
  exact ⟨by rw [rv.length]; exact hl, S1, m1, ds, r1, rv, q⟩
/-- the keywords' values, from the left -/
structure DK (X : Cx) (R : RC) (E : XK) (kws : List Keyword) (f : FA) : Prop where
  ex : ∃ t, PK X kws t ∧ ∀ S σ H ρ m Q, HR R S H m → ER R S H σ ρ → RoutG R S H E (PVs R Q) (f ρ m) → t σ H Q
theorem dk_nil : DK X R E [] aNil := ⟨⟨_, pk_nil, fun S σ H ρ m Q hr he h => h.now hr _ .nil⟩⟩
theorem dk_cons {e : Expr} {f : FE} {kws : List Keyword} {g : FA} {nm : Option Str} {kpos : Pos} (cx : CxR X R E) (h1 : DE X R E e f) (h2 : DK X R E kws g) : DK X R E (⟨nm, e, kpos⟩ :: kws) (aCons f g) := by
  obtain ⟨t, a1, a2⟩ := h1.ex
  obtain ⟨u, b1, b2⟩ := h2.ex
  refine ⟨⟨_, pk_cons a1 b1, fun S σ H ρ m Q hr he h => a2 S σ H ρ m _ hr he (h.step fun d m1 H1 S1 e1 r1 q v rv => ?_)⟩⟩
  refine b2 S1 σ H1 ρ m1 _ r1 (he.ext cx.ok e1) (q.step fun ds m2 H2 S2 e2 r2 q2 vs rvs => ?_)
  exact q2.now r2 _ (.cons (rv.ext cx.ok e2) rvs)
/-- the values put in the parameters' order: ix tells for each parameter which value is its own -/
def permV {α : Type} (ix : List Nat) (xs : List α) : List α := ix.filterMap fun i => xs[i]?
def permD (ix : List Nat) (F : List D → M D) : List D → M D := fun ds m => if ds.length = ix.length then F (permV ix ds) m else .stuck
theorem perm_rep {S : Sto} {H : Hp} {vs : List V} {ds : List D} (r : RepAll R S H vs ds) : ∀ ix : List Nat, RepAll R S H (permV ix vs) (permV ix ds)
  | [] => .nil
  | i :: ix => by
    unfold permV
    rw [List.filterMap_cons, List.filterMap_cons]
    cases e : ds[i]? with
    | none =>
      have e' : vs[i]? = none := by
        rw [List.getElem?_eq_none_iff] at e ⊢
        rw [r.length]; exact e
      rw [e']
      exact perm_rep r ix
    | some d =>
      obtain ⟨v, h1, h2⟩ := r.get e
      rw [h1]
      exact .cons h2 (perm_rep r ix)
theorem perm_vals {vs : List V} {us : List Value} (r : Vals vs us) : ∀ ix : List Nat, Vals (permV ix vs) (permV ix us)
  | [] => .nil
  | i :: ix => by
    unfold permV
    rw [List.filterMap_cons, List.filterMap_cons]
    cases e : vs[i]? with
    | none =>
      have e' : us[i]? = none := by
        rw [List.getElem?_eq_none_iff] at e ⊢
        rw [← r.length]; exact e
      rw [e']
      exact perm_vals r ix
    | some d =>
      obtain ⟨v, h1, h2⟩ := r.get e
      rw [h1]
      exact .cons h2 (perm_vals r ix)
/-- f(k = v, ..), all parameters by keyword -/
theorem de_callK0 {kws : List Keyword} {ks : List Str} {g : FA} (ix : List Nat) (cx : CxR X R E) (hf : FnD X.prog X.w X.base R x j ps st F) (hr : Room k X.A) (hj : j ≤ k) (hg : Gl X x) (hkw : DK X R E kws g)
    (hb : ∀ (kV doc pm : Value) (an : Option Addr) (cdv ct : Value) (ws : List Value), ws.length = ix.length → bindArgs (PySem.W.fnOf x x (defArgs st) (defBody st) (defScope st) .none kV doc pm an cdv ct) ⟨[], ks.zip ws⟩ = pure (ps.zip (permV ix ws)))
    (hix : ∀ ds : List D, ds.length = ix.length → (permV ix ds).length = ps.length)
    (hall : (backToKw pos (keywordEach kws X.env)).all (·.1.isSome) = true := by rfl) (hks : (backToKw pos (keywordEach kws X.env)).filterMap (·.1) = ks := by rfl)
    (hdb : (x == ("__debug__" : Str)) = false := by decide) (hpl : ((backTo pos (starEach [] X.env)).any (·.1) || (backToKw pos (keywordEach kws X.env)).any (·.1.isNone)) = false := by rfl) :
    DE X R E (.Call (.Name x p) [] kws pos) (dCall (permD ix F) g) := by
  obtain ⟨f, fd, h1, h2, h3, h4⟩ := hf.ex
  obtain ⟨t, a1, a2⟩ := hkw.ex
  have K := cx.K
  have G := cx.mg
  rw [← K, ← G] at h1
  obtain ⟨oc, od, kV, doc, pm, an, cdv, ct, osl, hfd, lk, hcd⟩ := h3.ex
  refine ⟨⟨fun σ H Q => t σ H fun zs H1 => zs.length = ix.length ∧ spD R ps.length F (permV ix zs) H1 Q E, ⟨fun pins s σ H Q I h => ?_⟩, fun S σ H ρ m Q hr' he' h => a2 S σ H ρ m _ hr' he' (h.step fun ds m1 H1 S1 e1 r1 q vs rv => ?_)⟩⟩
  · refine wpAny_Call_Name_kw (ld_glob I hg (by rw [G]; exact h2) ?_ hdb)
    refine PySem.W.callWith_KW0 (h₀ := X.base) I.ok.mod.kin (by rw [K]; exact h3.kp) hall (thn (a1.run pos pins s σ H _ I h) fun ws s2 ⟨zs, H2, I2, rz, hl, hsp⟩ => ⟨I2.kIn, ?_⟩) hpl
    rw [hks]
    have r2 := perm_vals rz ix
    have hlw : ws.length = ix.length := by rw [← rz.length]; exact hl
    have hb' : BindsTo s2 fd ⟨[], ks.zip ws⟩ (ps.zip (permV ix ws)) := by
      rw [hfd]
      exact .of_eq (hb kV doc pm an cdv ct ws hlw)
    refine wpAny_call (codeAny_mono (h1.run X.A X.stack s2 H2 ⟨[], ks.zip ws⟩ (permV ix ws) (permV ix zs) Q E (hr.mono hj) I2.env0 hb' r2 hsp) fun r s' hq => ?_)
    cases r with
    | error e => exact passes_call cx.tk (fun _ _ _ _ h => h) pins σ H2 s2 e s' I2 hq
    | ok fl =>
      cases fl with
      | ret u => exact I2.after hq
      | next => exact False.elim hq
      | brk => exact False.elim hq
      | cont => exact False.elim hq
  · unfold permD at q
    by_cases hl : ds.length = ix.length
    · rw [if_pos hl] at q
      refine ⟨by rw [rv.length]; exact hl, ?_, S1, m1, _, r1, perm_rep rv ix, q⟩
      rw [(perm_rep rv ix).length]
      exact hix ds hl
    · rw [if_neg hl] at q
      exact q.elim
end

/-! ### a def's own lists are let go at its end -/
mutual
/-- all numbers below n -/
def ltD (n : Nat) : D → Bool
  | .tup xs => ltAll n xs
  | .lst xs => ltAll n xs
  | .dct kvs => ltKV n kvs
  | .ref k => decide (k < n)
  | .exn _ fs => ltFs n fs
  | _ => true
def ltAll (n : Nat) : List D → Bool
  | [] => true
  | x :: xs => ltD n x && ltAll n xs
def ltKV (n : Nat) : List (Key × D) → Bool
  | [] => true
  | (_, x) :: xs => ltD n x && ltKV n xs
def ltFs (n : Nat) : List (Str × D) → Bool
  | [] => true
  | (_, x) :: xs => ltD n x && ltFs n xs
end
def ltMO (n : Nat) : MO → Bool
  | .lst xs => ltAll n xs
  | .dct kvs => ltKV n kvs
  | .ins _ fs => ltFs n fs
def optAll : List (Option D) → Option (List D)
  | [] => some []
  | some d :: r => (optAll r).map (d :: ·)
  | none :: _ => none
/-- with the new lists as they stand -/
def frz (n : Nat) (objs : List MO) : Nat → D → Option D
  | 0, d => if ltD n d then some d else none
  | f + 1, d => if ltD n d then some d else match d with
    | .tup xs => (optAll (xs.map (frz n objs f))).map .tup
    | .lst xs => (optAll (xs.map (frz n objs f))).map .lst
    | .ref k => (match objs[k]? with
      | some (.lst xs) => (optAll (xs.map (frz n objs f))).map .lst
      | _ => none)
    | _ => none
def okOld (m0 m1 : MS) : Prop := m1.objs.take m0.objs.length = m0.objs ∨ ∀ o ∈ m1.objs.take m0.objs.length, ltMO m0.objs.length o = true
open Classical in
noncomputable def trunc (m0 : MS) : Res D → Res D
  | .ok d m1 => if okOld m0 m1 then (match frz m0.objs.length m1.objs 8 d with | some d' => .ok d' { m1 with objs := m1.objs.take m0.objs.length } | none => .stuck) else .stuck
  | .raise c fs m1 => if okOld m0 m1 ∧ ltFs m0.objs.length fs = true then .raise c fs { m1 with objs := m1.objs.take m0.objs.length } else .stuck
  | .stuck => .stuck
section
variable {R : RC} {S S1 : Sto} {H H' : Hp}
theorem ltKV_of (n : Nat) : ∀ (ks : List Key) (ds : List D), ltAll n ds = true → ltKV n (ks.zip ds) = true
  | [], _, _ => by simp [ltKV]
  | _ :: _, [], _ => by simp [ltKV]
  | k :: ks, d :: ds, h => by
    simp only [ltAll, Bool.and_eq_true] at h
    simp only [List.zip_cons_cons, ltKV, Bool.and_eq_true]
    exact ⟨h.1, ltKV_of n ks ds h.2⟩
theorem ltAll_zip (n : Nat) : ∀ (ks : List Key) (ds : List D), ks.length = ds.length → ltKV n (ks.zip ds) = true → ltAll n ds = true
  | [], [], _, _ => rfl
  | [], _ :: _, h, _ => by cases h
  | _ :: _, [], h, _ => by cases h
  | k :: ks, d :: ds, h, q => by
    simp only [List.zip_cons_cons, ltKV, Bool.and_eq_true] at q
    simp only [ltAll, Bool.and_eq_true]
    exact ⟨q.1, ltAll_zip n ks ds (by simpa using h) q.2⟩
mutual
theorem Rep.lt : ∀ {v : V} {d : D}, Rep R S H v d → ltD S.refs.length d = true
  | _, _, .non => rfl
  | _, _, .bl b => rfl
  | _, _, .int i => rfl
  | _, _, .str x => rfl
  | _, _, .tup h r => by simpa [ltD] using RepAll.lt r
  | _, _, .lst h r => by simpa [ltD] using RepAll.lt r
  | _, _, .dct h n l r => by simpa [ltD] using ltKV_of _ _ _ (RepAll.lt r)
  | _, _, .scr h n => rfl
  | _, _, .ref h => by simpa [ltD] using (List.getElem?_eq_some_iff.mp h).1
  | _, _, .drw h => rfl
  | _, _, .drg h => rfl
  | _, _, .fn h => rfl
  | _, _, .ty n => rfl
  | _, _, .clo h k n q m => rfl
  | _, _, .exn h k n => rfl
  | _, _, .exnd h k n q m r => by simpa [ltD, ltFs] using Rep.lt r
theorem RepAll.lt : ∀ {vs : List V} {ds : List D}, RepAll R S H vs ds → ltAll S.refs.length ds = true
  | _, _, .nil => rfl
  | _, _, .cons h r => by simpa [ltAll] using ⟨Rep.lt h, RepAll.lt r⟩
end
theorem ltKV_map (n : Nat) : ∀ kvs : List (Key × D), ltKV n kvs = ltAll n (kvs.map (·.2))
  | [] => rfl
  | (k, d) :: r => by simp [ltKV, ltAll, ltKV_map n r]
theorem ltFs_map (n : Nat) : ∀ kvs : List (Str × D), ltFs n kvs = ltAll n (kvs.map (·.2))
  | [] => rfl
  | (k, d) :: r => by simp [ltFs, ltAll, ltFs_map n r]
theorem MRep.lt {a : Addr} {o : MO} (h : MRep R S H a o) : ltMO S.refs.length o = true := by
  cases o with
  | lst xs => obtain ⟨vs, _, r⟩ := h; exact r.lt
  | dct kvs => obtain ⟨vs, _, r⟩ := h; show ltKV _ kvs = true; rw [ltKV_map]; exact r.lt
  | ins c fs => obtain ⟨_, _, vs, _, _, r⟩ := h; show ltFs _ fs = true; rw [ltFs_map]; exact r.lt
/-- the store without the new ones -/
def Sto.cut (S1 S : Sto) : Sto := { S1 with refs := S.refs }
section
variable (e : Ext S H S1 H')
include e
theorem cut_mut {a : Addr} (h : a ∈ (S1.cut S).mut) : a ∈ S1.mut := by
  obtain ⟨more, q⟩ := e.refs
  rcases List.mem_append.mp h with h | h
  · refine List.mem_append_left _ ?_
    rw [q]
    exact List.mem_append_left _ h
  · exact List.mem_append_right _ h
theorem cut_ref {k : Nat} {a : Addr} (h : S1.refs[k]? = some a) (hk : k < S.refs.length) : (S1.cut S).refs[k]? = some a := by
  obtain ⟨more, q⟩ := e.refs
  rw [q, List.getElem?_append_left hk] at h
  exact h
mutual
theorem Rep.cut : ∀ {v : V} {d : D}, Rep R S1 H' v d → ltD S.refs.length d = true → Rep R (S1.cut S) H' v d
  | _, _, .non, _ => .non
  | _, _, .bl b, _ => .bl b
  | _, _, .int i, _ => .int i
  | _, _, .str x, _ => .str x
  | _, _, .tup h r, q => .tup (h.imp (fun z => ⟨z.1, fun k => z.2 (cut_mut e k)⟩) id) (RepAll.cut r (by simpa [ltD] using q))
  | _, _, .lst h r, q => .lst ⟨h.1, fun k => h.2 (cut_mut e k)⟩ (RepAll.cut r (by simpa [ltD] using q))
  | _, _, .dct h n l r, q => .dct h (fun k => n (cut_mut e k)) l (RepAll.cut r (ltAll_zip _ _ _ (l.trans r.length) (by simpa [ltD] using q)))
  | _, _, .scr h n, _ => .scr h (fun k => n (cut_mut e k))
  | _, _, .ref h, q => .ref (cut_ref e h (by simpa [ltD] using q))
  | _, _, .drw h, _ => .drw h
  | _, _, .drg h, _ => .drg h
  | _, _, .fn h, _ => .fn h
  | _, _, .ty n, _ => .ty n
  | _, _, .clo h k n q m, _ => .clo h k (fun z => n (cut_mut e z)) q (fun z => m (cut_mut e z))
  | _, _, .exn h k n, _ => .exn h k (fun z => n (cut_mut e z))
  | _, _, .exnd h k n q m r, z => .exnd h k (fun y => n (cut_mut e y)) q (fun y => m (cut_mut e y)) (Rep.cut r (by simpa [ltD, ltFs] using z))
theorem RepAll.cut : ∀ {vs : List V} {ds : List D}, RepAll R S1 H' vs ds → ltAll S.refs.length ds = true → RepAll R (S1.cut S) H' vs ds
  | _, _, .nil, _ => .nil
  | _, _, .cons h r, q => by
    simp only [ltAll, Bool.and_eq_true] at q
    exact .cons (Rep.cut h q.1) (RepAll.cut r q.2)
end
theorem MRep.cut {a : Addr} {o : MO} (h : MRep R S1 H' a o) (q : ltMO S.refs.length o = true) : MRep R (S1.cut S) H' a o := by
  cases o with
  | lst xs => obtain ⟨vs, h1, r⟩ := h; exact ⟨vs, h1, r.cut e q⟩
  | dct kvs => obtain ⟨vs, h1, r⟩ := h; exact ⟨vs, h1, r.cut e (by have q : ltKV _ kvs = true := q; rw [ltKV_map] at q; exact q)⟩
  | ins c fs => obtain ⟨C, dx, vs, h0, h1, r⟩ := h; exact ⟨C, dx, vs, h0, h1, r.cut e (by have q : ltFs _ fs = true := q; rw [ltFs_map] at q; exact q)⟩
theorem Ext.cut : Ext S H (S1.cut S) H' := ⟨⟨⟨[], by simp [Sto.cut]⟩, e.drw, fun a h => e.new a (cut_mut e h), fun b o h n t => e.keep b o h n t, e.there⟩, e.tmp, e.tk⟩
theorem HR.cut {m0 m1 : MS} (h0 : HR R S H m0) (h1 : HR R S1 H' m1) (ok : okOld m0 m1) : HR R (S1.cut S) H' { m1 with objs := m1.objs.take m0.objs.length } := by
  obtain ⟨more, q⟩ := e.refs
  have hl0 := h0.len
  have hl1 := h1.len
  rw [q, List.length_append] at hl1
  refine ⟨?_, ?_, fun n a o h2 h3 => ?_, ?_, h1.tm, h1.tb⟩
  · have nd := h1.nd
    unfold Sto.mut at nd ⊢
    show (S.refs ++ S1.rest).Nodup
    rw [q, List.append_assoc] at nd
    exact nd.sublist (List.Sublist.append_left (List.sublist_append_right _ _) _)
  · show S.refs.length = (m1.objs.take m0.objs.length).length
    rw [List.length_take]
    omega
  · have h2' : S.refs[n]? = some a := h2
    have hn : n < S.refs.length := (List.getElem?_eq_some_iff.mp h2').1
    have h3' : (m1.objs.take m0.objs.length)[n]? = some o := h3
    have h4 : m1.objs[n]? = some o := by rw [List.getElem?_take_of_lt (by omega)] at h3'; exact h3'
    have h5 : S1.refs[n]? = some a := by rw [q, List.getElem?_append_left hn]; exact h2'
    refine (h1.obj n a o h5 h4).cut e ?_
    rcases ok with ok | ok
    · rw [ok] at h3'
      exact (h0.obj n a o h2' h3').lt
    · rw [hl0]
      exact ok o (List.mem_of_getElem? h3')
  · have hd := h1.dr
    show DrRep (S1.cut S) H' m1.dr
    revert hd
    cases m1.dr with
    | none => exact fun h => h
    | some d => exact fun ⟨a, g, c, e0, q1, q2, q3⟩ => ⟨a, g, c, e0, q1, q2, q3.1, fun k => q3.2 (cut_mut e k)⟩
theorem optAll_cut {f : D → Option D} (hf : ∀ v d d', Rep R S1 H' v d → f d = some d' → Rep R (S1.cut S) H' v d') : ∀ {vs : List V} {xs ys : List D}, RepAll R S1 H' vs xs → optAll (xs.map f) = some ys → RepAll R (S1.cut S) H' vs ys
  | _, _, _, .nil, q => by cases q; exact .nil
  | _, x :: xs, ys, .cons h r, q => by
    rw [List.map_cons] at q
    cases e1 : f x with
    | none => rw [e1] at q; cases q
    | some d =>
      rw [e1] at q
      cases e2 : optAll (xs.map f) with
      | none =>
        have q' : (optAll (xs.map f)).map (d :: ·) = some ys := q
        rw [e2] at q'
        cases q'
      | some zs =>
        have q' : (optAll (xs.map f)).map (d :: ·) = some ys := q
        rw [e2] at q'
        cases q'
        exact .cons (hf _ _ _ h e1) (optAll_cut hf r e2)
theorem frz_cut {m1 : MS} (h1 : HR R S1 H' m1) : ∀ (f : Nat) (v : V) (d d' : D), Rep R S1 H' v d → frz S.refs.length m1.objs f d = some d' → Rep R (S1.cut S) H' v d'
  | 0, v, d, d', r, q => by
    unfold frz at q
    by_cases hl : ltD S.refs.length d = true
    · rw [if_pos hl] at q
      cases q
      exact r.cut e hl
    · rw [if_neg hl] at q
      cases q
  | f + 1, v, d, d', r, q => by
    unfold frz at q
    by_cases hl : ltD S.refs.length d = true
    · rw [if_pos hl] at q
      cases q
      exact r.cut e hl
    · rw [if_neg hl] at q
      cases r with
      | tup h ra =>
        dsimp only at q
        cases eo : optAll (List.map (frz S.refs.length m1.objs f) _) with
        | none => rw [eo] at q; cases q
        | some ys =>
          rw [eo] at q
          cases q
          exact .tup (h.imp (fun z => ⟨z.1, fun k => z.2 (cut_mut e k)⟩) id) (optAll_cut e (frz_cut h1 f) ra eo)
      | lst h ra =>
        dsimp only at q
        cases eo : optAll (List.map (frz S.refs.length m1.objs f) _) with
        | none => rw [eo] at q; cases q
        | some ys =>
          rw [eo] at q
          cases q
          exact .lst ⟨h.1, fun k => h.2 (cut_mut e k)⟩ (optAll_cut e (frz_cut h1 f) ra eo)
      | @ref k a hk =>
        dsimp only at q
        cases ek : m1.objs[k]? with
        | none => rw [ek] at q; cases q
        | some o =>
          rw [ek] at q
          cases o with
          | lst xs =>
            dsimp only at q
            cases eo : optAll (List.map (frz S.refs.length m1.objs f) xs) with
            | none => rw [eo] at q; cases q
            | some ys =>
              rw [eo] at q
              cases q
              obtain ⟨vs, h2, h3⟩ := h1.obj k a _ hk ek
              refine .lst ⟨h2, fun z => ?_⟩ (optAll_cut e (frz_cut h1 f) h3 eo)
              have hnk : ¬ k < S.refs.length := fun z => hl (by simpa [ltD] using z)
              obtain ⟨s1, s2⟩ := nd_split h1 hk
              rcases List.mem_append.mp z with z | z
              · obtain ⟨j, hj⟩ := List.mem_iff_getElem?.mp z
                have hj' : S.refs[j]? = some a := hj
                have hjl := (List.getElem?_eq_some_iff.mp hj').1
                exact hnk (by rw [← s2 j a (ref_ext e.toExt0 hj') rfl]; exact hjl)
              · exact s1 z
          | _ => cases q
      | _ => cases q
end
theorem trunc_out {E : XK} {Q : VK} {m0 : MS} {r : Res D} (h0 : HR R S H m0) (h : RoutG R S H E (PV R Q) (trunc m0 r)) : RoutG R S H E (PV R Q) r := by
  cases r with
  | stuck => exact h
  | ok d m1 =>
    intro H' S1 e h1 v rv
    unfold trunc at h
    dsimp only at h
    by_cases ok : okOld m0 m1
    · rw [if_pos ok] at h
      cases ef : frz m0.objs.length m1.objs 8 d with
      | none => rw [ef] at h; exact h.elim
      | some d' =>
        rw [ef] at h
        rw [← h0.len] at ef
        exact h H' (S1.cut S) e.cut (HR.cut e h0 h1 ok) v (frz_cut e h1 8 v d d' rv ef)
    · rw [if_neg ok] at h
      exact h.elim
  | raise c fs m1 =>
    intro H' S1 C e h1 g
    unfold trunc at h
    dsimp only at h
    by_cases ok : okOld m0 m1 ∧ ltFs m0.objs.length fs = true
    · rw [if_pos ok] at h
      obtain ⟨k1, k2⟩ := h H' (S1.cut S) C e.cut (HR.cut e h0 h1 ok.1) g
      refine ⟨k1, fun f d ef dx v hd hn rv => k2 f d ef dx v hd (fun z => hn (cut_mut e z)) (rv.cut e ?_)⟩
      have := ok.2
      rw [ef, ← h0.len] at this
      simpa [ltFs] using this
    · rw [if_neg ok] at h
      exact h.elim
/-- a def whose own lists are let go -/
noncomputable def bodyT (u : FS) (n : Nat) : List D → M D := fun ds m => trunc m (bodyF u n ds m)
end
end TL
end
section
/-! The data layer: lambdas, caught exceptions. -/
namespace TL
open PySem PySem.Spec PyProof.Rows L2
open LamX (Tabs TabS CodeO codeO_ne TabB LamS lamEnv lamCx lam_start2 inv_table among_app)

/-! ### an object that is there already, tracked from now on -/
section
variable {X : Cx} {pins : List (Addr × Obj)} {σ : L2.St} {H : Hp} {s : Shared} {a : Addr} {o : HO} {ob : Obj}
theorem Inv_track (I : Inv X pins σ H s) (hn : H a = none) (ha : s.heap.get? a = some ob) (hd : ∀ v, ob.data ≠ .cell v) (h0 : X.s_0.heap.get? a = none) (hL : a ≠ X.env.locals) (hp : ∀ p ∈ X.pn ++ pins, p.1 ≠ a)
    (new : ObjOk X.prog X.w (upd H a o) s.heap a o) : Inv X pins σ (upd H a o) s := by
  have ne : ∀ b u, H b = some u → b ≠ a := fun b u e => ne_of_none e hn
  refine ⟨I.ok, I.os, I.bare, ⟨I.base.keep, I.base.slot, fun b u q n hx => ?_, I.base.there, fun b xs q => ?_, fun b u v q => ?_, fun b ps q => ?_⟩, I.loc, I.cell, ?_, fun x c e => ?_, fun p hp' => ?_, fun b u e => ?_, I.len⟩
  · rw [upd_ne (fun z => by rw [z, h0] at q; cases q)]
    exact I.base.free b u q n hx
  · have z := I.base.tups b xs q
    rw [upd_ne (ne b _ z)]
    exact z
  · have z := I.base.frzs b u v q
    rw [upd_ne (ne b _ z)]
    exact z
  · obtain ⟨more, z⟩ := I.base.tbls b ps q
    exact ⟨more, by rw [upd_ne (ne b _ z)]; exact z⟩
  · rw [upd_ne (Ne.symm hL)]
    exact I.free
  · obtain ⟨v, o', e1, e2⟩ := I.cell x c e
    rw [upd_ne fun z => ?_]
    · exact I.freeC x c e
    · rw [z, ha] at e1
      cases e1
      exact hd v e2
  · obtain ⟨e1, e2, e3⟩ := I.pin p hp'
    exact ⟨e1, by rw [upd_ne (hp p hp')]; exact e2, e3⟩
  · by_cases hb : b = a
    · rw [hb, upd_same] at e
      cases e
      rw [hb]
      exact new
    · rw [upd_ne hb] at e
      exact (I.hok b u e).stay (fun c v _ q => q) (fun c q => by rw [upd_ne (ne c _ q)]; exact q) fun c xs q => by rw [upd_ne (ne c _ q)]; exact q
end

/-! ### the heap grew; tables of code objects may have grown -/
theorem HR.grow {R : RC} {S : Sto} {H H1 : Hp} {m : MS} (ro : R.Ok) (hr : HR R S H m) (k : ∀ b o, H b = some o → (∀ ps, o ≠ .tbl ps) → H1 b = some o) (th : ∀ b o, H b = some o → ∃ o', H1 b = some o') (tb : Tabs R.T H1) : Ext S H S H1 ∧ HR R S H1 m := by
  have km : ∀ a ∈ S.mut, H1 a = H a := fun a ha => by
    obtain ⟨o, e, nt⟩ := hr.tracked ha
    rw [e]
    exact k a o e nt.1
  have ex : Ext0 S H S H1 := ⟨⟨[], by simp⟩, fun _ h => h, fun _ h => .inl h, fun b o h _ t => k b o h t, th⟩
  exact ⟨⟨ex, rfl, fun a ha => km a (tmp_mut ha)⟩, hr.nd, hr.len, fun n a u h1 h2 => (hr.obj n a u h1 h2).ext0 ro ex (km a (ref_mut h1)), hr.dr.ext0 ex rfl fun a h => km a (drs_mut h), fun a h => by rw [km a (tmp_mut h)]; exact hr.tm a h, tb⟩

/-! ### a lambda's object -/
structure Lam where
  ps : Arguments
  body : Expr
  scope : Scope
def lamO (q : Str) (l : Lam) (cl : List (Str × Addr)) (f c' : Addr) : HO := .ext fun h => ∃ pm ctv, h.get? f = some (PySem.W.kla_obj "<lambda>" q l.ps l.body l.scope cl pm c' ctv)
theorem lamO_ok {P : Program} {w : World} {H : Hp} {h : Heap} {q : Str} {l : Lam} {cl : List (Str × Addr)} {f c' : Addr} {pm ctv : Value} (e : h.get? f = some (PySem.W.kla_obj "<lambda>" q l.ps l.body l.scope cl pm c' ctv)) : ObjOk P w H h f (lamO q l cl f c') :=
  ⟨⟨pm, ctv, e⟩, ⟨_, e⟩, fun _ _ ⟨pm, ctv, q⟩ k => ⟨pm, ctv, k _ q⟩⟩
theorem lamO_ne {q : Str} {l : Lam} {cl : List (Str × Addr)} {f c' : Addr} (ps : Array Value) : lamO q l cl f c' ≠ .tbl ps := fun z => by
  unfold lamO at z
  cases z
section
variable {X : Cx} {pins : List (Addr × Obj)} {σ : L2.St} {H : Hp} {s : Shared}
/-- the lambda is made, its object tracked -/
theorem lam_makeT {T : List (Addr × Str)} {c P : Addr} {l : Lam} {pos : Pos} {E : Value → Shared → Prop} {Q : Value → Shared → Prop} (I : Inv X pins σ H s) (TB : TabB X.base X.mg c P) (hcode : X.env.code = .ref c)
    (hm : (P, X.env.qual ++ "<lambda>") ∈ T) (hu : ∀ p ∈ T, p.1 = P → p.2 = X.env.qual ++ "<lambda>") (hT : Tabs T H) (hdef : defaultsOf l.ps X.env = ([], [])) (hfree : ∀ y ∈ l.scope.names, y.2 = .free → ∃ c, X.env.cells.lookup y.1 = some c)
    (h : ∀ (f c' : Addr) (H1 : Hp) (s' : Shared), Inv X pins σ H1 s' → (∀ b o, H b = some o → (∀ ps, o ≠ .tbl ps) → H1 b = some o) → (∀ b o, H b = some o → ∃ o', H1 b = some o') → Tabs T H1 → H f = none →
      H1 f = some (lamO (X.env.qual ++ "<lambda>") l (cloFrom X.env.cells l.scope.names []) f c') → H1 c' = some (CodeO c' (X.env.qual ++ "<lambda>")) → Q (.ref f) s') :
    wpAny (model X.prog X.w) X.A (eval (.Lambda l.ps l.body l.scope pos) X.env) Q E s := by
  obtain ⟨ps, hP, ht, ha⟩ := hT _ hm
  refine PySem.W.kla_eval hdef ?_
  have bP : s.heap.BuiltinsAt X.mg P := TB.bm.keeps I.bk
  have hP' : s.heap.get? P = some { cls := .none, data := .fields ps } := I.hok P _ hP
  cases hc : codeAmong pos ps.toList with
  | none =>
    refine PySem.W.kla_makeFunction (mg := X.mg) (c := c) (P := P) (ps := ps) (closure_ok hfree) I.ok.glob (I.mod.glob.keeps I.bk) hcode (TB.code.keeps I.bk) hP' ht hc TB.gP bP fun c' ctv h' tk hx hge hlt hrec htb => ?_
    obtain ⟨c2, oc, vs, t, e2, hoc, hd, hv⟩ := hrec
    cases e2
    have nC : H c' = none := I.hok.fresh hge
    have hsz : s.heap.objs.size ≤ h'.objs.size := Nat.le_trans hge (Nat.le_of_lt hlt)
    have nF : H h'.objs.size = none := I.hok.fresh hsz
    have I1 := inv_table (t' := tk) (more := #[rawInt pos.line, rawInt pos.col, .ref c']) (h' := h') I hP (fun b o hb e => hx b o hb e) htb hge ⟨oc, vs, t, hoc, hd, hv⟩
    generalize hH1 : upd (upd H P (.tbl (ps ++ #[rawInt pos.line, rawInt pos.col, .ref c']))) c' (CodeO c' (X.env.qual ++ "<lambda>")) = H1 at I1
    have hE : ∀ b o, H b = some o → (∀ ps, o ≠ .tbl ps) → H1 b = some o := fun b o e n => by
      rw [← hH1, upd_ne (ne_of_none e nC), upd_ne (fun z => n ps (Option.some.inj (e.symm.trans (by rw [z]; exact hP))))]
      exact e
    have hth : ∀ b o, H b = some o → ∃ o', H1 b = some o' := fun b o e => by
      rw [← hH1]
      by_cases h1 : b = c'
      · exact ⟨_, by rw [h1, upd_same]⟩
      · rw [upd_ne h1]
        by_cases h2 : b = P
        · exact ⟨_, by rw [h2, upd_same]⟩
        · exact ⟨o, by rw [upd_ne h2]; exact e⟩
    have eL : (ps ++ #[rawInt pos.line, rawInt pos.col, .ref c']).toList = ps.toList ++ [rawInt pos.line, rawInt pos.col, .ref c'] := by simp
    have hC1 : H1 c' = some (CodeO c' (X.env.qual ++ "<lambda>")) := by rw [← hH1, upd_same]
    have T1 : Tabs T H1 := fun p hp => by
      by_cases hb : p.1 = P
      · rw [hu p hp hb, hb]
        refine ⟨_, by rw [← hH1, upd_ne (ne_of_none hP nC), upd_same], by rw [eL]; exact PySem.TriplesOk_snoc _ _ _ _ ht, fun p' cv hcv => ?_⟩
        rw [eL] at hcv
        rcases among_app _ ht hcv with z | z
        · obtain ⟨c0, e1, e2⟩ := ha p' cv z
          exact ⟨c0, e1, hE _ _ e2 codeO_ne⟩
        · exact ⟨c', z, hC1⟩
      · obtain ⟨ps', a1, a2, a3⟩ := hT p hp
        refine ⟨ps', by rw [← hH1, upd_ne (ne_of_none a1 nC), upd_ne hb]; exact a1, a2, fun p' cv hcv => ?_⟩
        obtain ⟨c0, e1, e2⟩ := a3 p' cv hcv
        exact ⟨c0, e1, hE _ _ e2 codeO_ne⟩
    have hF1 : H1 h'.objs.size = none := I1.hok.fresh (Nat.le_refl _)
    have I2 := I1.laid (a := h'.objs.size) (o := lamO (X.env.qual ++ "<lambda>") l (cloFrom X.env.cells l.scope.names []) h'.objs.size c') (t' := tk)
      (h' := h'.push (PySem.W.kla_obj "<lambda>" (X.env.qual ++ "<lambda>") l.ps l.body l.scope (cloFrom X.env.cells l.scope.names []) ((X.mg "__name__").getD .none) c' ctv)) (fun b u e => Heap.get?_push_of_some _ e) (Nat.le_refl _) (lamO_ok (Heap.get?_push_size _ rfl))
    refine h h'.objs.size c' _ _ I2 (fun b o e n => ?_) (fun b o e => ?_) (tabs_new T1 hF1) nF upd_same ?_
    · rw [upd_ne (ne_of_none (hE b o e n) hF1)]
      exact hE b o e n
    · obtain ⟨o', e'⟩ := hth b o e
      exact ⟨o', by rw [upd_ne (ne_of_none e' hF1)]; exact e'⟩
    · rw [upd_ne (ne_of_none hC1 hF1)]
      exact hC1
  | some cv =>
    obtain ⟨c', e, hco⟩ := ha pos cv hc
    subst e
    refine PySem.W.kla_makeFunctionHit (mg := X.mg) (c := c) (P := P) (ps := ps) (closure_ok hfree) I.ok.glob (I.mod.glob.keeps I.bk) hcode (TB.code.keeps I.bk) hP' ht hc bP fun ctv h' tk hx hsz => ?_
    have nF : H h'.objs.size = none := I.hok.fresh hsz
    have I2 := I.laid (a := h'.objs.size) (o := lamO (X.env.qual ++ "<lambda>") l (cloFrom X.env.cells l.scope.names []) h'.objs.size c') (t' := tk)
      (h' := h'.push (PySem.W.kla_obj "<lambda>" (X.env.qual ++ "<lambda>") l.ps l.body l.scope (cloFrom X.env.cells l.scope.names []) ((X.mg "__name__").getD .none) c' ctv)) (fun b u e => Heap.get?_push_of_some _ (hx b u e)) hsz (lamO_ok (Heap.get?_push_size _ rfl))
    refine h h'.objs.size c' _ _ I2 (fun b o e n => ?_) (fun b o e => ?_) (tabs_new hT nF) nF upd_same ?_
    · rw [upd_ne (ne_of_none e nF)]
      exact e
    · exact ⟨o, by rw [upd_ne (ne_of_none e nF)]; exact e⟩
    · rw [upd_ne (ne_of_none hco nF)]
      exact hco
end
/-- the closures of the def that runs in X: R tells of them -/
structure CloR (X : Cx) (R : RC) (lams : List Lam) : Prop where
  cq : R.cq = X.env.qual ++ "<lambda>"
  clo : ∀ i f c', R.clo i f c' = (lams[i]?).map fun l => lamO (X.env.qual ++ "<lambda>") l (cloFrom X.env.cells l.scope.names []) f c'
section
variable {X : Cx} {R : RC} {E : XK} {pos : Pos}
theorem de_lam {lams : List Lam} {c P : Addr} {l : Lam} (i : Nat) (cx : CxR X R E) (C : CloR X R lams) (hi : lams[i]? = some l) (TB : TabB X.base X.mg c P) (hcode : X.env.code = .ref c) (hm : (P, X.env.qual ++ "<lambda>") ∈ R.T)
    (hu : ∀ p ∈ R.T, p.1 = P → p.2 = X.env.qual ++ "<lambda>") (L : LamS X.env.scope l.scope) (hdef : defaultsOf l.ps X.env = ([], []) := by rfl) : DE X R E (.Lambda l.ps l.body l.scope pos) (dC (.clo i)) := by
  refine ⟨⟨fun σ H Q => ∃ S m, HR R S H m ∧ ∀ H' S', Ext S H S' H' → HR R S' H' m → ∀ v, Rep R S' H' v (.clo i) → Q v H', ⟨fun pins s σ H Q I h => ?_⟩, fun S σ H ρ m Q hr he h => ⟨S, m, hr, h⟩⟩⟩
  obtain ⟨S, m, hr, h⟩ := h
  refine lam_makeT I TB hcode hm hu hr.tb hdef (L.has I.ok) fun f c' H1 s' I1 k th T1 nf hf hc => ?_
  obtain ⟨e1, r1⟩ := hr.grow cx.ok k th T1
  have nmf : f ∉ S.mut := hr.fresh nf
  have nmc : c' ∉ S.mut := fun z => by
    obtain ⟨o, e, nt⟩ := r1.tracked z
    rw [hc] at e
    cases e
    exact nt.2 c' _ rfl
  refine ⟨.ref f, H1, I1, rfl, h H1 S e1 r1 _ (.clo (c := c') (o := lamO (X.env.qual ++ "<lambda>") l (cloFrom X.env.cells l.scope.names []) f c') ?_ hf nmf ?_ nmc)⟩
  · rw [C.clo, hi]
    rfl
  · rw [C.cq]
    exact hc
end
end TL
end
section
/-! The data layer: a closure called in a def that catches what it raises. -/
namespace TL
open PySem PySem.Spec PyProof.Rows L2
open LamX (Tabs TabS CodeO codeO_ne TabB LamS lamEnv lamCx lam_start2)

/-- an exception object of the class cls with the dict d, at a -/
def ExT (cls : Value) (d : Option Addr) (a : Addr) : HO := .ext fun h => ∃ (oe : Obj) (vs : Array Value), h.get? a = some oe ∧ Zc cls d oe ∧ oe.data = .fields vs
theorem exT_ok {P : Program} {w : World} {H : Hp} {h : Heap} {a : Addr} {cls : Value} {d : Option Addr} {oe : Obj} {vs : Array Value} (e : h.get? a = some oe) (z : Zc cls d oe) (hd : oe.data = .fields vs) : ObjOk P w H h a (ExT cls d a) :=
  ⟨⟨oe, vs, e, z, hd⟩, ⟨oe, e⟩, fun _ _ ⟨o, v, q, r⟩ k => ⟨o, v, k o q, r⟩⟩
theorem exT_ne {cls : Value} {d : Option Addr} {a : Addr} (ps : Array Value) : ExT cls d a ≠ .tbl ps := fun z => by
  unfold ExT at z
  cases z

/-! ### x() in the def that got the closure -/
section
variable {X : Cx} {pins : List (Addr × Obj)} {σ : L2.St} {H HZ : Hp} {s s1 : Shared}
theorem pe_actT {CXg : CXT} {Eg : XK} {Ng : List Str} {qg : Str} {sg : Scope} {g f c' : Addr} {cdg : Value} {l : Lam} {k i : Nat} {a : Str} {pn : List (Addr × Obj)} {xe : Value → Shared → Prop} {W : WX} {E : XK} {tb : TE} {p1 p2 : Pos}
    (I : Inv X pins σ H s) (L : LamS X.env.scope l.scope)
    (hbind : ∀ (pm ctv : Value), bindArgs (PySem.W.kla_fn "<lambda>" (X.env.qual ++ "<lambda>") l.ps l.body l.scope (cloFrom X.env.cells l.scope.names []) pm (.ref c') ctv) ⟨[], []⟩ = pure [])
    (tk : Takes ((cxOf CXg X.prog X.w X.K X.mg X.base Ng qg sg g cdg X.A X.stack s H Eg).tr pn xe) W) (hW : ∀ cls d σ' H', E cls d H' → W cls d σ' H') (hr : Room (k + 1) (X.A.deeper (envOfC qg sg s.heap.objs.size g cdg)))
    (hbody : ∀ (A : Around) (outer : List Env) (s : Shared) (H : Hp), Room k (A.deeper (lamEnv X l.scope s.heap.objs.size f c')) → PE (lamCx X A outer s H E l.scope f c') l.body tb)
    (hN : Ng[i]? = some a) (hv : Vis sg a) (hd : (a == ("__debug__" : Str)) = false := by decide) (hcd : (a == ("__classdict__" : Str)) = false := by decide) :
    PE ((cxOf CXg X.prog X.w X.K X.mg X.base Ng qg sg g cdg X.A X.stack s H Eg).tr pn xe) (.Call (.Name a p1) [] [] p2)
      (fun σZ HZ Q => σZ[i]? = some (some (.ref f)) ∧ HZ f = some (lamO (X.env.qual ++ "<lambda>") l (cloFrom X.env.cells l.scope.names []) f c') ∧ HZ c' = some (CodeO c' (X.env.qual ++ "<lambda>")) ∧ tb σ HZ Q) := by
  refine ⟨fun pinsZ sZ σZ HZ Q IZ h => ?_⟩
  obtain ⟨hs, hf, hc, ht⟩ := h
  refine wpAny_Call_Name_kw (thn ((pe_var (pos := p1) (i := i) hN hv hd hcd).run pinsZ sZ σZ HZ (fun v H1 => v = .ref f ∧ H1 = HZ) IZ ⟨.ref f, hs, rfl, rfl⟩) fun u s1 ⟨v, H1, I1, r1, q1⟩ => ?_)
  obtain ⟨ev, eH⟩ := q1
  subst ev
  rw [eH] at I1
  obtain rfl : u = Value.ref f := r1
  obtain ⟨⟨pm, ctv, of1⟩, _, _⟩ := I1.hok f _ hf
  refine PySem.W.callWith_F0 ⟨_, _, _, _, of1⟩ ?_
  have un : Un (frs X.stack) [] H HZ s.heap s1.heap := I1.base
  obtain ⟨⟨oc, vs, t, hoc, hdc, hvc⟩, _, _⟩ := I1.hok c' _ hc
  have rc : codeAny (model X.prog X.w) (X.A.deeper (envOfC qg sg s.heap.objs.size g cdg)) (.call (.ref f) ⟨[], []⟩) (CR (L2.CX X.prog X.w) (envOfC qg sg s.heap.objs.size g cdg :: X.stack) X.prog X.w HZ s1 Q E) s1 := by
    refine PySem.W.kla_callFunE hr.depth of1 rfl L.co L.gen rfl ⟨c', oc, vs, t, rfl, hoc, hdc, hvc⟩ ?_
    rw [hbind pm ctv]
    refine wpAny_pure (wpAny_newFunctionEnv (fun y hy => (L.own y hy).2) (fun y hy => absurd hy (by simp)) (fun h₁ hns hsb => ⟨I1.nolimit.fresh _ hsb, ?_⟩) L.kind)
    show codeAny _ _ (.expr l.body (lamEnv X l.scope s1.heap.objs.size f c')) _ _
    have kp : ∀ b o, s1.heap.get? b = some o → h₁.get? b = some o := fun b o e => hsb.extBut b o (Nat.ne_of_lt (Heap.lt_size e)) (Heap.get?_push_of_some _ e)
    have J : Inv (lamCx X (X.A.deeper (envOfC qg sg s.heap.objs.size g cdg)) (envOfC qg sg s.heap.objs.size g cdg :: X.stack) s1 HZ E l.scope f c') [] σ HZ { s1 with heap := h₁, toks := s1.toks + ([] : List (Str × Value)).length } :=
      lam_start2 I L I1.env0 hr.hd un hns kp
    refine PySem.W.kla_codeExpr (wpAny_mono ((hbody _ _ s1 HZ (hr.deeper _)).run [] _ _ HZ Q J ht) (fun v s' hq => ?_) fun e s' hq => hq)
    obtain ⟨w', H', J', rv, q⟩ := hq
    exact ⟨w', H', J'.os, J'.bare, J'.base, J'.hok, rv, q⟩
  have hx : Passes (L2.CX X.prog X.w) ((cxOf CXg X.prog X.w X.K X.mg X.base Ng qg sg g cdg X.A X.stack s H Eg).tr pn xe) E := passes_call tk hW
  refine wpAny_call (codeAny_mono rc fun r s' hq => ?_)
  cases r with
  | error e => exact hx pinsZ σZ HZ s1 e s' I1 hq
  | ok fl =>
    cases fl with
    | ret u => exact I1.after hq
    | next => exact False.elim hq
    | brk => exact False.elim hq
    | cont => exact False.elim hq
end

/-! ### try: .. except x as n: keeps = n -/
section
variable {X : Cx} {x n fnd : Str} {c : Value} {i j : Nat} {body : List Stmt} {np p1 p2 p3 pos pos' : Pos} {tb : WX → TS}
/-- the wish: the class is the clause's; the object is kept in the slot j -/
def wKeep (K : PySem.W.Frag) (c : Value) (i j n : Nat) (D : Ends) : WX := fun cls d σ H => PySem.W.exmOne K cls c = some true ∧ ∀ a, H a = none → σ.length = n → D.nx (((σ.set i (some (.ref a))).set j (some (.ref a))).set i none) (upd H a (ExT cls d a))
theorem ps_tryK (hs : X.stack = X.env :: X.outer) (hf : X.env.frame = some X.env.locals) (hN : X.N.Nodup) (hi : X.N[i]? = some n) (hj : X.N[j]? = some fnd) (hiN : i < X.N.length) (hln : X.env.kindOf n = some .local) (hlf : X.env.kindOf fnd = some .local) (hc : Names X x c) (hst : X.ex = [])
    (hb : ∀ (W : WX) (pn : List (Addr × Obj)) (xe : Value → Shared → Prop), Takes (X.tr pn xe) W → PassesOwn (model X.prog X.w) X.A X.env xe → PSs (X.tr pn xe) body (tb W))
    (hsw : ∀ (A : Around) (pn : List (Addr × Obj)), swapsWith (.Name n p2) (some (.Name fnd p1)) p3.line X.env = pure false) (hd1 : (n == ("__debug__" : Str)) = false) (hd2 : (n == ("__classdict__" : Str)) = false) :
    PS X (.Try body [.ExceptHandler (some (.Name x np)) (some n) [.Assign [.Name fnd p1] (.Name n p2) p3] pos'] [] [] pos) (fun D σ H => tb (wKeep X.K c i j X.N.length D) D σ H) := by
  refine ⟨fun pins s σ H D I h => ?_⟩
  have ok := I.ok
  have hfr : X.A.frames = some (X.env :: X.outer) := by rw [ok.frames, hs]
  have hloc : Loc X.env.scope n := .inl hln
  refine wpAny_Try_except ?_
  refine wpAny_mono ((hb (wKeep X.K c i j X.N.length D) (X.pn ++ pins) (fun e s₁ => wpAny (model X.prog X.w) X.A (noteFrame e X.env) (fun _ s₂ => wpAny (model X.prog X.w) X.A (setFlight e none) (fun _ s₃ =>
    wpAny (model X.prog X.w) X.A (handleBy e X.env [.ExceptHandler (some (.Name x np)) (some n) [.Assign [.Name fnd p1] (.Name n p2) p3] pos']) (SP X pins D) X.xe s₃) X.xe s₂) X.xe s₁) (fun u s' xx => ?_) PassesOwn.looking).run [] s σ H D (I.toTry _) h) (fun f s1 hsp => ?_) (fun e s1 he => he)
  · -- caught
    obtain ⟨a, B, sI, pins', σ', H', cls, d, rfl, J', nb, up, sky, na, os, ag, hb1, hyes⟩ := xx
    have J : Inv X pins σ' H' sI := J'.ofTry ok
    have sky' : Sky B (X.env :: X.outer) a (Zc cls d) X.env.locals s'.heap := by rw [← hs]; exact sky
    show wpAny (model X.prog X.w) X.A (noteFrame (.ref a) X.env) _ _ _
    refine Sky.land Zc.steady hfr hf sky' fun h3 fl3 up3 => ?_
    have J3 : Inv X pins σ' H' { s' with heap := h3 } := J.landed nb fl3.1 (up.trans up3) os ag
    obtain ⟨oe3, vs3, he3, hz3, hd3⟩ := fl3.there
    have notFr : ∀ {h : Heap} {o : Obj} {vs : Array Value}, h.FunFrames B (X.env :: X.outer) → h.get? a = some o → o.data = .fields vs → a ∉ frs (X.env :: X.outer) := fun {h o vs} ff e dd hm => by
      obtain ⟨_, o', e', hnf⟩ := ff.mem hm
      rw [e] at e'
      cases e'
      exact hnf _ dd
    have nfr := notFr fl3.2.2.1 he3 hd3
    have nL : a ≠ X.env.locals := fun z => nfr (List.mem_filterMap.mpr ⟨X.env, List.mem_cons_self, by rw [hf, z]⟩)
    have nF : a ∉ X.fs := fun hm => by
      obtain ⟨e, he, q⟩ := List.mem_filterMap.mp hm
      exact nfr (List.mem_filterMap.mpr ⟨e, List.mem_cons_of_mem _ he, q⟩)
    have nB : B.get? a = none := fl3.2.1
    -- what stood ahead of the exception isn't the exception
    have old : ∀ b o, sI.heap.get? b = some o → b ≠ a := fun b o e z => by
      subst z
      have q := nb b o e (by rw [hs]; exact nfr)
      rw [nB] at q
      cases q
    have n0 : X.s_0.heap.get? a = none := by
      cases e : X.s_0.heap.get? a with
      | none => rfl
      | some o =>
        obtain ⟨o', q⟩ := J.base.there a o e (by rw [hst]; simp)
        exact absurd rfl (old a o' q)
    have np' : ∀ p ∈ X.pn ++ pins, p.1 ≠ a := fun p hp => old p.1 p.2 (J.pin p hp).1
    have S3 := J3.suite he3 hd3 na nL nF
    refine wpAny_handleBy_cons (codeAny_handlers_test ?_) (by intro q; cases q)
    have LT : PySem.W.Looks (model X.prog X.w) h3 (typeOf (.ref a)) cls := fun A Q E s k q => wpAny_typeOf_ref (k _ _ he3) (by rw [hz3.1]; exact q)
    have LM := PySem.W.exm_one (M := model X.prog X.w) (J3.kIn) LT hb1
    have test : ∀ {Q : Value → Shared → Prop} {E : Value → Shared → Prop}, Q c { s' with heap := h3 } → wpAny (model X.prog X.w) (X.A.mark (some (.ref a))) (eval (.Name x np) X.env) Q E { s' with heap := h3 } := fun {Q E} q => by
      obtain ⟨hg, hdbg, hm | ⟨hm, hv, hnn⟩⟩ := hc
      · exact ld_glob (X := X.suite a ((a, oe3) :: (X.pn ++ pins))) S3 hg hm q hdbg
      · exact ld_blt (X := X.suite a ((a, oe3) :: (X.pn ++ pins))) S3 hg hm hv q hnn hdbg
    refine test (LM.here ?_)
    refine codeAny_handlers_suite_as ?_
    refine HandSPX.lands_againZ fl3 fun h4 fl4 up4 => ?_
    have J4 : Inv X pins σ' H' { s' with heap := h4 } := J.landed nb fl4.1 ((up.trans up3).trans up4) os ag
    obtain ⟨oe4, vs4, he4, hz4, hd4⟩ := fl4.there
    have S4 := J4.suite he4 hd4 na nL nF
    refine store_ok (X := X.suite a ((a, oe4) :: (X.pn ++ pins))) (v := .ref a) S4 hN hi hloc rfl (fun s5 S5 => ?_) (.inr hln)
    have hsu : PSs (X.suite a ((a, oe4) :: (X.pn ++ pins))) [.Assign [.Name fnd p1] (.Name n p2) p3] (tAsg (tVar i) (gName j)) :=
      pss_one (ps_set hN hj (.inl hlf) (pe_var hi (.inl hln) hd1 hd2) (hsw X.A []) (.inr hlf))
    have hlen : σ'.length = X.N.length := J.len
    have hget : (σ'.set i (some (V.ref a)))[i]? = some (some (V.ref a)) := List.getElem?_set_self (by rw [hlen]; exact hiN)
    refine wpAny_mono (hsu.run [] s5 _ H' { nx := fun σ6 H6 => H6 = H' ∧ σ6 = (σ'.set i (some (.ref a))).set j (some (.ref a)), rt := fun _ _ => False } S5 ⟨.ref a, hget, rfl, rfl⟩) (fun f s6 hsp => ?_) (fun _ _ z => False.elim z)
    cases f with
    | ret u => obtain ⟨_, _, _, _, _, z⟩ := hsp; exact z.elim
    | brk => obtain ⟨_, _, _, z⟩ := hsp; exact z.elim
    | cont => obtain ⟨_, _, _, z⟩ := hsp; exact z.elim
    | next =>
      obtain ⟨σ6, H6, S6, e1, e2⟩ := hsp
      subst e1
      subst e2
      -- tracked from now on
      have ha6 : s6.heap.get? a = some oe4 := (S6.pin (a, oe4) (List.mem_append_left _ List.mem_cons_self)).1
      have U6 := S6.unsuite ok
      have U7 : Inv X pins _ (upd H6 a (ExT cls d a)) s6 := Inv_track U6 na ha6 (fun v z => by rw [hd4] at z; cases z) n0 nL np' (exT_ok ha6 hz4 hd4)
      exact gone_ok U7 hN hi hln fun s7 J7 => ⟨_, _, J7, hyes a na hlen⟩
  · cases f with
    | next =>
      obtain ⟨σ', H', J', q⟩ := hsp
      exact wpAny_execs_nil ⟨σ', H', J'.ofTry ok, q⟩
    | brk =>
      obtain ⟨σ', H', J', q⟩ := hsp
      exact ⟨σ', H', J'.ofTry ok, q⟩
    | cont =>
      obtain ⟨σ', H', J', q⟩ := hsp
      exact ⟨σ', H', J'.ofTry ok, q⟩
    | ret u =>
      obtain ⟨v, σ', H', J', r, q⟩ := hsp
      exact ⟨v, σ', H', J'.ofTry ok, r, q⟩
end
/-! ### `_law_caught` -/
/-- what a catch makes of an outcome -/
def caughtR (teach : Str → Bool) : Res D → Res D
  | .ok _ m => .ok .non m
  | .raise c fs m => if teach c then .ok (.exn c fs) m else .stuck
  | .stuck => .stuck
def dCaught (teach : Str → Bool) (bs : List FE) (fa : FE) : FE := fun ρ => M.bind (fa ρ) fun d m => match d with
  | .clo i => (match bs[i]? with | some b => caughtR teach (b ρ m) | none => .stuck)
  | _ => .stuck
/-- the wish -/
def Ec (K : PySem.W.Frag) (CT : Addr) (Q : VK) : XK := fun cls d H' => PySem.W.exmOne K cls (.ref CT) = some true ∧ ∀ a, H' a = none → Q (.ref a) (upd H' a (ExT cls d a))
theorem cxr_lam {X : Cx} {R : RC} {E E' : XK} {sc : Scope} {A : Around} {outer : List Env} {s : Shared} {H : Hp} {f c' : Addr} {k : Nat} (B : Bs X.prog X.w X.base R) (cx : CxR X R E) (L : LamS X.env.scope sc) (hk : 40 ≤ k) (hr : Room k (A.deeper (lamEnv X sc s.heap.objs.size f c'))) :
    CxR (lamCx X A outer s H E' sc f c') R E' where
  K := cx.K
  mg := cx.mg
  ok := cx.ok
  tk := takes_of rfl rfl rfl rfl
  po := passes_of rfl
  pyl := fun s' hf hl hb => PylongRoom.of hl (by have := hr.dp; show (A.deeper (lamEnv X sc s.heap.objs.size f c')).depth + 100 < _; omega) (SeerAt.of (B.seer.keeps hb) B.tree hf L.gen L.co rfl rfl)
  un := by have := hr.un; show (A.deeper (lamEnv X sc s.heap.objs.size f c')).units + 65 < _; omega
  calm := rfl
  nd := cx.nd
section
variable {X : Cx} {R : RC} {E : XK}
/-- what a def `_law_caught` is -/
structure CatchF (R : RC) (g : Addr) (CT : Addr) (st : Stmt) (teach : Str → Bool) : Prop where
  fn : ∃ fd, Fun R.K "_law_caught" "_law_caught" st g fd ∧ Binds R.K fd [("action" : Str)] []
  mg : R.mg "_law_caught" = some (.ref g)
  sc : FnScope ([("action" : Str), "found", "error"]) [("action" : Str)] (defScope st)
  bd : ∃ p1 p2 p3 p4 p5 p6 p7 p8 p9 p10 p11 p12 p13 p14 j, defBody st = [.Assign [.Name "found" p1] (.Constant .none j p2) p3, .Try [.Expr (.Call (.Name "action" p4) [] [] p5) p6] [.ExceptHandler (some (.Name "TeachError" p7)) (some "error") [.Assign [.Name "found" p8] (.Name "error" p9) p10] p11] [] [] p12, .Return (some (.Name "found" p13)) p14]
  lc : (defScope st).names.lookup ("action" : Str) = some .local ∧ (defScope st).names.lookup ("found" : Str) = some .local ∧ (defScope st).names.lookup ("error" : Str) = some .local ∧ (defScope st).names.lookup ("TeachError" : Str) = some .globalImplicit
  te : R.mg "TeachError" = some (.ref CT)
  ex : ∀ c C, teach c = true → R.mg c = some (.ref C) → PySem.W.exmOne R.K (.ref C) (.ref CT) = some true
  eo : ∀ C d a, R.exo C d a = ExT (.ref C) d a
theorem sw_name {n y : Str} {p1 p2 : Pos} {l : Nat} {env : Env} : swapsWith (.Name n p2) (some (.Name y p1)) l env = pure false := rfl
theorem de_caught {lams : List Lam} {bs : List FE} {g CT : Addr} {st : Stmt} {teach : Str → Bool} {j : Nat} {arg : Expr} {fa : FE} {p pos : Pos} (B : Bs X.prog X.w X.base R) (cx : CxR X R E) (C : CloR X R lams) (CF : CatchF R g CT st teach) (hj : 40 ≤ j) (hr : Room (j + 2) X.A) (hg : Gl X "_law_caught")
    (hbody : ∀ (i : Nat) (l : Lam) (fb : FE), lams[i]? = some l → bs[i]? = some fb → LamS X.env.scope l.scope ∧ (∀ (q : Str) (cl : List (Str × Addr)) (pm cv ctv : Value), bindArgs (PySem.W.kla_fn "<lambda>" q l.ps l.body l.scope cl pm cv ctv) ⟨[], []⟩ = pure []) ∧
      ∀ (A : Around) (outer : List Env) (s : Shared) (H : Hp) (E' : XK) (f c' : Addr), Room j (A.deeper (lamEnv X l.scope s.heap.objs.size f c')) → CxR (lamCx X A outer s H E' l.scope f c') R E' → DE (lamCx X A outer s H E' l.scope f c') R E' l.body fb)
    (ha : DE X R E arg fa) (he : starEach [arg] X.env = (false, eval arg X.env) :: starEach [] X.env := by rfl) (hpl : (backTo pos (starEach [] X.env)).any (·.1) = false := by rfl) :
    DE X R E (.Call (.Name "_law_caught" p) [arg] [] pos) (dCaught teach bs fa) := by
  obtain ⟨ta, a1, a2⟩ := ha.ex
  obtain ⟨fd, Fu, hb⟩ := CF.fn
  have K := cx.K
  have G := cx.mg
  refine ⟨⟨fun σ H Q => ta σ H fun x H1 => ∃ (i : Nat) (l : Lam) (fb : FE) (f c' : Addr) (S : Sto) (m : MS) (ρ : Env'), lams[i]? = some l ∧ bs[i]? = some fb ∧ x = .ref f ∧ H1 f = some (lamO (X.env.qual ++ "<lambda>") l (cloFrom X.env.cells l.scope.names []) f c') ∧ H1 c' = some (CodeO c' (X.env.qual ++ "<lambda>")) ∧ HR R S H1 m ∧ ER R S H1 σ ρ ∧
      RoutG R S H1 (Ec R.K CT Q) (PV R fun _ H2 => Q .non H2) (fb ρ m), ⟨fun pins s σ H Q I h => ?_⟩, fun S σ H ρ m Q hr' he' h => a2 S σ H ρ m _ hr' he' (h.step fun d m1 H1 S1 e1 r1 q v rv => ?_)⟩⟩
  · refine wpAny_Call_Name_kw (ld_glob I hg (by rw [G]; exact CF.mg) ?_ (by decide))
    refine PySem.W.callWith_K (h₀ := X.base) I.ok.mod.kin (by rw [K]; exact Fu.kp) ?_ he hpl
    rw [he]
    show wpAny _ _ (spliced ((false, eval arg X.env) :: backTo pos (starEach [] X.env))) _ _ s
    refine Calls.spliced_cons (thn (a1.run pins s σ H _ I h) fun u s1 ⟨x, H1, I1, rx, i, l, fb, f, c', S, m, ρ, hl, hfb, ex, hf, hc, hr1, he1, hq⟩ => ?_)
    subst ex
    obtain rfl : u = Value.ref f := rx
    refine Calls.spliced_nil ⟨I1.kIn, ?_⟩
    obtain ⟨L, hbind, hdb⟩ := hbody i l fb hl hfb
    obtain ⟨oc, od, kV, doc, pm, an, cdv, ct, osl, rfl, lk, hcd⟩ := Fu.ex
    -- the lambda's body, once for all entries
    obtain ⟨tb, t1, t2⟩ := DE.all (ι := { q : Around × List Env × Shared × Hp // Room j (q.1.deeper (lamEnv X l.scope q.2.2.1.heap.objs.size f c')) }) (Xs := fun q => lamCx X q.1.1 q.1.2.1 q.1.2.2.1 q.1.2.2.2 (Ec R.K CT Q) l.scope f c') fun q =>
      hdb q.1.1 q.1.2.1 q.1.2.2.1 q.1.2.2.2 (Ec R.K CT Q) f c' q.2 (cxr_lam B cx L hj q.2)
    have hq' := t2 S σ H1 ρ m _ hr1 he1 hq
    have rc : codeAny (model X.prog X.w) X.A (.call (.ref g) ⟨[.ref f], []⟩) (CR C8.CX0 X.stack X.prog X.w H1 s1 Q C8.E0) s1 := by
      refine LamX.run_ofS (N := ([("action" : Str), "found", "error"])) (ps := [("action" : Str)]) (us := [.ref f]) (vs := [.ref f]) (K := X.K) (mg := X.mg) (by rw [K]; exact lk) (by rw [K]; exact hcd) CF.sc hr I1.env0 (hb s1 [.ref f] (by rw [← K]; exact I1.kIn) rfl) (.cons rfl .nil) rfl fun hr' => ?_
      obtain ⟨p1, p2, p3, p4, p5, p6, p7, p8, p9, p10, p11, p12, p13, p14, jj, hbd⟩ := CF.bd
      obtain ⟨lc1, lc2, lc3, lc4⟩ := CF.lc
      rw [hbd]
      generalize hZ : (cxOf C8.CX0 X.prog X.w X.K X.mg X.base ([("action" : Str), "found", "error"]) "_law_caught" (defScope st) g cdv X.A X.stack s1 H1 C8.E0) = Z
      have zN : Z.N = ([("action" : Str), "found", "error"]) := by rw [← hZ]; rfl
      have zS : Z.env.scope = defScope st := by rw [← hZ]; rfl
      have v1 : Z.env.scope.names.lookup ("found" : Str) = some .local := by rw [zS]; exact lc2
      have v2 : Z.env.scope.names.lookup ("error" : Str) = some .local := by rw [zS]; exact lc3
      have n1 : Z.N[1]? = some ("found" : Str) := by rw [zN]; rfl
      have n2 : Z.N[2]? = some ("error" : Str) := by rw [zN]; rfl
      have nd : Z.N.Nodup := by rw [zN]; exact CF.sc.nd
      have act : ∀ (W : WX) (pn : List (Addr × Obj)) (xe : Value → Shared → Prop), Takes (Z.nox.tr pn xe) W → (∀ cls d σ' H', Ec R.K CT Q cls d H' → W cls d σ' H') →
          PE (Z.nox.tr pn xe) (.Call (.Name "action" p4) [] [] p5) (fun σZ HZ Q => σZ[0]? = some (some (.ref f)) ∧ HZ f = some (lamO (X.env.qual ++ "<lambda>") l (cloFrom X.env.cells l.scope.names []) f c') ∧ HZ c' = some (CodeO c' (X.env.qual ++ "<lambda>")) ∧ tb σ HZ Q) := fun W pn xe tk hW => by
        subst hZ
        exact pe_actT (CXg := C8.CX0) (Eg := C8.E0) (Ng := ([("action" : Str), "found", "error"])) (i := 0) I1 L (fun pm ctv => hbind _ _ _ _ _) tk hW hr' (fun A outer s H hr2 => t1 ⟨(A, outer, s, H), hr2⟩) rfl (.inl lc1) (by decide) (by decide)
      have tryS := ps_tryK (X := Z.nox) (x := "TeachError") (n := "error") (fnd := "found") (c := .ref CT) (i := 2) (j := 1) (np := p7) (p1 := p8) (p2 := p9) (p3 := p10) (pos := p12) (pos' := p11) (body := [.Expr (.Call (.Name "action" p4) [] [] p5) p6])
        (tb := fun W D σZ HZ => (∀ cls d σ' H', Ec R.K CT Q cls d H' → W cls d σ' H') ∧ σZ[0]? = some (some (.ref f)) ∧ HZ f = some (lamO (X.env.qual ++ "<lambda>") l (cloFrom X.env.cells l.scope.names []) f c') ∧ HZ c' = some (CodeO c' (X.env.qual ++ "<lambda>")) ∧ tb σ HZ (fun _ H2 => D.nx σZ H2))
        (by rw [← hZ]; rfl) (by rw [← hZ]; rfl) nd n2 n1 (by show 2 < Z.N.length; rw [zN]; decide) v2 v1 ⟨by show Z.env.scope.names.lookup ("TeachError" : Str) = some .globalImplicit; rw [zS]; exact lc4, by decide, .inl (by show Z.mg "TeachError" = _; rw [← hZ]; show X.mg "TeachError" = _; rw [G]; exact CF.te)⟩ (by rw [← hZ]; rfl)
        (fun W pn xe tk _ => ⟨fun pinsZ s' σZ HZ D IZ h' => by
          obtain ⟨hW, h1, h2, h3, h4⟩ := h'
          exact (pss_one (ps_expr (act W pn xe tk hW))).run pinsZ s' σZ HZ D IZ ⟨h1, h2, h3, h4⟩⟩)
        (fun _ _ => rfl) (by decide) (by decide)
      refine ⟨_, (pss_cons (ps_set (X := Z.nox) (i := 1) nd n1 (.inl v1) pe_non rfl (.inr v1)) (pss_cons tryS (pss_one (ps_ret (pe_var (X := Z.nox) (i := 1) n1 (.inl v1) (by decide) (by decide)))))).nox, ?_⟩
      refine ⟨fun cls d σ' H' hE => ?_, rfl, hf, hc, ?_⟩
      · have K' : Z.nox.K = R.K := by rw [← hZ]; exact K
        refine ⟨by rw [K']; exact hE.1, fun a hna hl => ⟨.ref a, ?_, hE.2 a hna⟩⟩
        have hl3 : σ'.length = 3 := by rw [hl]; show Z.N.length = 3; rw [zN]; rfl
        rw [List.getElem?_set_ne (by decide), List.getElem?_set_self (by rw [List.length_set, hl3]; decide)]
      · exact t2 S σ H1 ρ m _ hr1 he1 (hq.mono fun d m2 H2 S2 e2 r2 q v rv => ⟨.non, rfl, q v rv⟩)
    refine wpAny_call (codeAny_mono rc fun r s2 hq2 => ?_)
    cases r with
    | error e => exact (show False from hq2).elim
    | ok fl =>
      cases fl with
      | ret u => exact I1.after hq2
      | next => exact False.elim hq2
      | brk => exact False.elim hq2
      | cont => exact False.elim hq2
  · cases d with
    | clo i =>
      dsimp only at q
      cases rv with
      | @clo i f c' o h1 h2 h3 h4 h5 =>
        rw [C.clo] at h1
        cases el : lams[i]? with
        | none => rw [el] at h1; cases h1
        | some l =>
          rw [el] at h1
          cases h1
          cases eb : bs[i]? with
          | none => rw [eb] at q; exact q.elim
          | some fb =>
            rw [eb] at q
            dsimp only at q
            refine ⟨i, l, fb, f, c', S1, m1, ρ, el, eb, rfl, h2, by rw [← C.cq]; exact h4, r1, he'.ext cx.ok e1, ?_⟩
            cases er : fb ρ m1 with
            | stuck => rw [er] at q; exact q.elim
            | ok d2 m2 =>
              rw [er] at q
              exact fun H' S' e2 r2 v _ => q H' S' e2 r2 _ .non
            | raise c fs m2 =>
              rw [er] at q
              unfold caughtR at q
              dsimp only at q
              by_cases ht : teach c = true
              · rw [if_pos ht] at q
                intro H' S' Cc e2 r2 gC
                have hex := CF.ex c Cc ht gC
                refine ⟨fun efs => ⟨hex, fun a na => ?_⟩, fun f d efs dx v hd hn rv2 => ⟨hex, fun a na => ?_⟩⟩
                · subst efs
                  have ex := Ext.newObj (o := ExT (.ref Cc) none a) r2 na
                  exact q _ S' (e2.trans ex) (r2.newObj cx.ok na) _ (.exn gC (by rw [upd_same, CF.eo]) (r2.fresh na))
                · subst efs
                  have ex := Ext.newObj (o := ExT (.ref Cc) (some dx) a) r2 na
                  exact q _ S' (e2.trans ex) (r2.newObj cx.ok na) _ (.exnd gC (by rw [upd_same, CF.eo]) (r2.fresh na) (by rw [upd_ne (ne_of_none hd na)]; exact hd) hn (rv2.ext cx.ok ex))
              · rw [if_neg ht] at q
                exact q.elim
    | _ => exact q.elim
end
end TL
end
section
/-! The data layer: exceptions raised; classes whose __init__ says super().__init__(x) and keeps x in a field. -/
namespace TL
open PySem PySem.Spec PyProof.Rows L2
open PySem.W (findIn subIn typeIn keepIn mroIn clsIn nsIn alongIn looks_clsIn looks_mroIn looks_subIn looks_findIn bind_fn looks_opaque InstAt)

/-! ### __init__ that says super().__init__(x); self.f = x -/
/-- self, x at the entry: an exception that is being made; behind: with the field -/
def spSI (C : Addr) (f : Str) : Sp := fun vs H Q _ => ∃ a y, vs = [.ref a, y] ∧ H a = some (exo a C none) ∧ ∀ dx, H dx = none → dx ≠ a → Q .non (upd (upd H dx (exd dx [(f, y)])) a (exo a C (some dx)))
/-- what the written part says -/
structure SI (P : Program) (K : PySem.W.Frag) (C fI cc cda : Addr) (p f : Str) (fd : FuncData) : Prop where
  ox : OexC K C
  cv : ∃ cd, clsIn K C = some cd ∧ cd.hasDict = true ∧ PySem.HandSPX.refsVE cd.mro = true ∧ alongIn K "__init__" ((cd.mro.dropWhile (· != .ref C)).drop 1) = some (some (.builtin "ValueError.__init__"))
  no : findIn K (.ref C) f = some none
  subV : subIn K (.ref C) (.type "ValueError") = some true
  subC : mroIn K C (.ref C) = some true
  op : nsIn K cStatics "thirdparty.any" = some none
  sup : nsIn K mainGlobals "super" = some none
  fn : ∃ oc od osl, K.lookup fI = some ⟨oc, od, .func fd, osl⟩
  cell : ∃ cl cld csl, K.lookup cc = some ⟨cl, cld, .cell (some (.ref C)), csl⟩
  code : ∃ ccl cdd vs ccs file tf, K.lookup cda = some ⟨ccl, cdd, .fields vs, ccs⟩ ∧ vs[2]? = some (.str file tf) ∧ ((P.main.file : Str) == file) = true
  hcd : PySem.W.codeIn K fd.code fd.qualname = true
  fcode : fd.code = .ref cda
  top : (P.main.scope.names.lookup ("super" : Str)).isSome = false
  clo : fd.closure = [(("__class__" : Str), cc)]
  gl : fd.globals = mainGlobals
  bl : fd.builtins = builtinsNs
  sc : fd.scope.kind = .function ∧ fd.scope.isCoroutine = false ∧ fd.scope.isGenerator = false ∧ (∀ x ∈ fd.scope.names, x.2 ≠ .cell)
  ks : fd.scope.names.lookup ("super" : Str) = some .globalImplicit ∧ fd.scope.names.lookup ("__class__" : Str) = some .free ∧ fd.scope.names.lookup ("self" : Str) = some .local ∧ fd.scope.names.lookup p = some .local
  hd : ∃ ar, (fd.params.posonlyargs ++ fd.params.args).head? = some ar ∧ ar.arg = ("self" : Str)
  ps : p ≠ ("self" : Str)
  pd : (p == ("__debug__" : Str)) = false
  body : ∃ p1 p2 p3 p4 p5 p6 p7 p8 p9 p10, fd.body = .stmts [.Expr (.Call (.Attribute (.Call (.Name "super" p1) [] [] p2) "__init__" p3) [.Name p p4] [] p5) p6, .Assign [.Attribute (.Name "self" p7) f p8] (.Name p p9) p10] ∧
    (∀ env : Env, ∃ pl : Sem Bool, eval (.Call (.Attribute (.Call (.Name "super" p1) [] [] p2) "__init__" p3) [.Name p p4] [] p5) env = (do
      let ov ← attributeBase (.Call (.Name "super" p1) [] [] p2) "__init__" env (eval (.Call (.Name "super" p1) [] [] p2) env)
      standAt p3.atName
      let (f, first) ← holding [ov] (getMethod ov "__init__" pl)
      callWith p5 f first (backTo p5 (starEach [.Name p p4] env)) [])) ∧
    ∀ env : Env, swapsWith (.Name p p9) (some (.Attribute (.Name "self" p7) f p8)) p10.line env = pure false
theorem fn_superinit {P : Program} {w : World} {K : PySem.W.Frag} {mg : Str → Option Value} {base : Heap} {CX : CXT} {C fI cc cda : Addr} {p f : Str} {fd : FuncData} (T : SI P K C fI cc cda p f fd) : FnOk P w K mg base CX 1 fI fd [("self" : Str), p] (spSI C f) := by
  refine ⟨fun vs H Q E ⟨a, y, e, _⟩ => by rw [e]; rfl, fun A outer s H args us vs Q E hr e0 hb rv hsp => ?_⟩
  obtain ⟨a, y, rfl, hea, hq⟩ := hsp
  cases rv with
  | @cons _ u0 _ ur ra rr =>
    cases rr with
    | @cons _ u _ ur2 ry rn =>
      cases rn
      obtain rfl : u0 = Value.ref a := ra
      obtain ⟨cd, hcd, hdct, hve, hal⟩ := T.cv
      obtain ⟨oc, od, osl, hfI⟩ := T.fn
      obtain ⟨cl, cld, csl, hcell⟩ := T.cell
      obtain ⟨ccl, cdd, cvs, ccs, file, tf, hcode, hvs, hfile⟩ := T.code
      obtain ⟨sk, sco, sg, scl⟩ := T.sc
      obtain ⟨k1, k2, k3, k4⟩ := T.ks
      obtain ⟨ar, hh1, hh2⟩ := T.hd
      obtain ⟨p1, p2, p3, p4, p5, p6, p7, p8, p9, p10, hbd, hev, hsw2⟩ := T.body
      have hev := hev
      have KX : K.In s.heap := e0.mod.kin.keeps fun b o e => (e0.bs b o e).1
      have lim : s.heap.NoLimit := e0.mod.nolimit.keeps fun b o e => (e0.bs b o e).1
      have glb : s.heap.Ns mainGlobals mg := e0.mod.glob.keeps fun b o e => (e0.bs b o e).1
      obtain ⟨mb, hmb, hbb⟩ := e0.mod.blt
      have hmb : s.heap.Ns builtinsNs mb := hmb.keeps fun b o e => (e0.bs b o e).1
      obtain ⟨t1, hexo⟩ := exo_at e0.hok hea
      obtain ⟨hp, g, d, tk, os⟩ := s
      refine ks_codeAny_call_defAt (hr.depth) (KX _ _ hfI) rfl lim (PySem.W.codeRec_of KX T.hcd) hbd hb scl (fun x hx => ?_) (fun h₀ hns kp => ?_) sco sg sk
      · have hx' : x = (("self" : Str), Value.ref a) ∨ x = (p, u) := by simpa using hx
        rcases hx' with e | e
        · rw [e]; exact k3
        · rw [e]; exact k4
      change PySem.wpAt _ (A.deeper (callEnv fd hp.objs.size fI)) (.func _ (callEnv fd hp.objs.size fI)) (execs _ (callEnv fd hp.objs.size fI)) _ _ _
      obtain ⟨L, hL⟩ : ∃ L, hp.objs.size = L := ⟨_, rfl⟩
      have hns : h₀.Ns L (fun x => ([("self" : Str), p].zip [Value.ref a, u]).reverse.lookup x) := by rw [← hL]; exact hns
      have vSelf : (fun x => ([("self" : Str), p].zip [Value.ref a, u]).reverse.lookup x) ("self" : Str) = some (.ref a) := by
        show List.lookup ("self" : Str) [(p, u), (("self" : Str), Value.ref a)] = _
        have : (("self" : Str) == p) = false := by simpa using Ne.symm T.ps
        simp [List.lookup_cons, this]
      have vP : (fun x => ([("self" : Str), p].zip [Value.ref a, u]).reverse.lookup x) p = some u := by
        show List.lookup p [(p, u), (("self" : Str), Value.ref a)] = _
        simp [List.lookup_cons]
      generalize hm : (fun x => ([("self" : Str), p].zip [Value.ref a, u]).reverse.lookup x) = m at hns vSelf vP
      generalize henv : callEnv fd hp.objs.size fI = env
      have eL : env.locals = L := by rw [← henv, ← hL]; rfl
      have eS : env.scope = fd.scope := by rw [← henv]; rfl
      have eF : env.func = some fI := by rw [← henv]; rfl
      have eC : env.code = .ref cda := by rw [← henv]; exact T.fcode
      have eG : env.globals = mainGlobals := by rw [← henv]; exact T.gl
      have eB : env.builtins = builtinsNs := by rw [← henv]; exact T.bl
      have eCl : env.cells = [(("__class__" : Str), cc)] := by rw [← henv]; exact T.clo
      have kS : env.kindOf "super" = some .globalImplicit := by unfold Env.kindOf; rw [eS]; exact k1
      have kC : env.kindOf "__class__" = some .free := by unfold Env.kindOf; rw [eS]; exact k2
      have kSelf : env.kindOf "self" = some .local := by unfold Env.kindOf; rw [eS]; exact k3
      have kP : env.kindOf p = some .local := by unfold Env.kindOf; rw [eS]; exact k4
      have ek : env.scope.kind = .function := by rw [eS]; exact sk
      have hi : interactive env = false := by simp [interactive, ek]
      have X0 : K.In h₀ := KX.keeps kp
      have G0 : h₀.Ns env.globals mg := by rw [eG]; exact glb.keeps kp
      have N0 : h₀.Ns env.locals m := by rw [eL]; exact hns
      have B0 : h₀.Ns env.builtins mb := by rw [eB]; exact hmb.keeps kp
      have x0 : h₀.get? a = some (PySem.HandSPX.excO C t1) := kp _ _ hexo
      have I0 : InstAt h₀ a (PySem.HandSPX.excO C t1) C none := ⟨x0, rfl, rfl, trivial⟩
      have aL : a ≠ L := fun z => by
        have := Heap.lt_size hexo
        rw [z, ← hL] at this
        exact Nat.lt_irrefl _ this
      have hAlt : a < hp.objs.size := Heap.lt_size hexo
      have hsw : swapsWith (.Call (.Attribute (.Call (.Name "super" p1) [] [] p2) "__init__" p3) [.Name p p4] [] p5) none p6.line env = pure false := rfl
      obtain ⟨pl, hpl⟩ := hev env
      refine ks_wpAt_execs_cons (ks_wpAt_Expr_any (ks_wpAt_MethodCall (ks_wpAt_super_base kS kC (by decide) eF (X0 _ _ hfI) rfl hh1 eC (X0 _ _ hcode) rfl hvs hfile T.top ?_) hpl) hi hsw)
      refine PySem.W.ks_loadName_global ek kS (Calls.loadGlobal_builtin G0 (PySem.W.mg_none_of X0 (glb.keeps kp) T.sup) B0 ((hbb _ (by decide +kernel)).trans (by decide +kernel)) ⟨rfl, ?_⟩)
      refine wpAny_loadName_free ek kC (by rw [eCl]; rfl) ⟨_, X0 _ _ hcell, rfl⟩ ?_
      rw [hh2]
      refine wpAny_loadName_local ek kSelf N0 vSelf ?_
      obtain ⟨oD, hD1, hD2⟩ : ∃ oD, h₀.get? C = some oD ∧ oD.data = .cls cd := by
        have z := hcd
        unfold clsIn at z
        split at z
        · rename_i c' d' cd' sl ho
          cases z
          exact ⟨_, X0 _ _ ho, rfl⟩
        · cases z
      refine ks_wpAny_isType_cls hD1 hD2 ⟨rfl, ?_⟩
      refine ks_wpAny_call_super hD1 hD2 x0 rfl (fun c e => by cases e) (looks_mroIn X0 T.subC) fun h1 hso kp1 => ?_
      have X1 : K.In h1 := X0.keeps kp1
      have I1 : InstAt h1 a (PySem.HandSPX.excO C t1) C none := ⟨kp1 _ _ x0, rfl, rfl, trivial⟩
      refine PySem.W.kxs_getMethod PySem.W.kxs_ValueError hso (looks_opaque X1 T.op) (l₀ := cd.mro) (fun A Q E s k q => wpAny_bind ((looks_clsIn X1 hcd) A _ E s k (wpAny_pure q))) rfl X1 hal (I1.type.andThen (looks_subIn X1 T.subV)) (PySem.W.ks_ne X1 I1 hcd) (by decide) ?_
      -- the wrapper called
      generalize hu : h1.objs.size = um
      have hmw : (h1.push (PySem.W.kxs_mw "ValueError.__init__" a)).get? um = some (PySem.W.kxs_mw "ValueError.__init__" a) := by rw [← hu]; exact Heap.get?_push_size _ rfl
      have kp2 : ∀ b o, h₀.get? b = some o → (h1.push (PySem.W.kxs_mw "ValueError.__init__" a)).get? b = some o := fun b o e => Heap.get?_push_of_some _ (kp1 b o e)
      generalize hh2' : h1.push (PySem.W.kxs_mw "ValueError.__init__" a) = h2 at hmw kp2
      show wpAny _ _ (callWith p5 (.ref um) [] (backTo p5 (starEach [.Name p p4] env)) []) _ _ _
      have he1 : starEach [.Name p p4] env = [(false, eval (.Name p p4) env)] := rfl
      rw [he1]
      have N2 : h2.Ns env.locals m := N0.keeps kp2
      refine PySem.W.kxs_callWith (i := "ValueError.__init__") (x := a) rfl (PySem.Calls.evalArgs_plain (Calls.spliced_cons (wpAny_Name (wpAny_loadName_local ek kP N2 vP ?_) T.pd)))
      refine Calls.spliced_nil ⟨hmw, ?_⟩
      obtain ⟨nm, q, Nn, bs, bm, sn, sub, ab, col, dd, k0, kk1, kk2, kk3, kk5, hC, hbm⟩ := T.ox.cls
      refine wpAny_call (codeAny_of_tree ?_)
      show wpAny _ _ (callAny (.ref um) ⟨[u], []⟩) _ _ _
      simp only [callAny]
      refine wpAny_bind (wpAny_load hmw ?_)
      simp only [PySem.W.kxs_mw, show (Value.type "method-wrapper" == Value.type "method" || Value.type "method-wrapper" == Value.type "builtin_function_or_method" || Value.type "method-wrapper" == Value.type "method-wrapper") = true by decide, if_true]
      refine PySem.W.KFB.if_so (by decide) ?_
      refine wpAny_bind (PySem.W.check_bound_init PySem.F.excBase_ValueError.toExcCallFacts ((KX.keeps fun b o e => kp2 b o (kp b o e)) _ _ hC) (kp2 _ _ x0) rfl ?_)
      refine wpAny_bind (wpAny_pure (wpAny_pure ?_))
      refine ⟨plainId_quiet PySem.F.excBase_ValueError.init.plain _, codeAny_builtin PySem.F.excBase_ValueError.initEntry ?_⟩
      refine PySem.W.exc_init_tree (cls := .ref C) (t0 := t1) (dv := none) (c2 := .none) (c3 := .none) (b4 := .bool false) (kp2 _ _ x0) (by show 1 ≤ sizeLine; decide) fun h3 kp3 e3 _ => ?_
      -- self.f = x
      have up3 : ∀ b o, b ≠ a → hp.get? b = some o → h3.get? b = some o := fun b o hb e => kp3 b o hb (kp2 b o (kp b o e))
      have n0 : ∀ b o, base.get? b = some o → b ≠ a := fun b o e z => by
        have := (e0.bs b o e).2
        rw [z, hea] at this
        cases this
      have X3 : K.In h3 := e0.mod.kin.keeps fun b o e => up3 b o (n0 b o e) (e0.bs b o e).1
      have N3 : h3.Ns env.locals m := by
        obtain ⟨oL, es, ep, hoL, r⟩ := N2
        exact ⟨oL, es, ep, kp3 _ _ (by rw [eL]; exact Ne.symm aL) hoL, r⟩
      refine ks_wpAt_execs_cons (ks_wpAt_Assign_Attr (PySem.wpAt_of_wpAny (wpAny_Name (wpAny_loadName_local ek kP N3 vP ?_) T.pd)) (hsw2 env))
      refine wpAny_Name (wpAny_loadName_local ek kSelf N3 vSelf ?_) (by decide)
      refine PySem.W.set_plain X3 (ox := { cls := .ref C, dict := none, data := .fields #[.ref h2.objs.size, .none, .none, .none, .bool false, .none] }) (od := none) ⟨e3, rfl, rfl, trivial⟩ T.ox.sa ?_
      refine PySem.HandSPX.exc_osa X3 e3 hcd hve hdct T.no fun h4 tk4 dx kp4 hdx hne e4 hn4 => ?_
      -- the end
      show PySem.wpAt _ _ _ (execs [] env) _ _ _
      refine PySem.wpAt_of_wpAny (wpAny_execs_nil ?_)
      show CR CX outer P w H ⟨hp, g, d, tk, os⟩ Q E (.ok (.ret .none)) ⟨h4, g, d, tk4, os⟩
      have hle : hp.objs.size ≤ h3.objs.size := by
        rcases Nat.lt_or_ge h3.objs.size hp.objs.size with z | z
        · exfalso
          cases ee : hp.get? h3.objs.size with
          | some o =>
            by_cases hb : h3.objs.size = a
            · exact absurd (Heap.lt_size e3) (by rw [hb]; exact Nat.lt_irrefl _)
            · exact absurd (Heap.lt_size (up3 _ _ hb ee)) (Nat.lt_irrefl _)
          | none =>
            have hL3 : h3.get? L ≠ none := fun q => by
              obtain ⟨oL, es, ep, hoL, r⟩ := N3
              rw [eL, q] at hoL
              cases hoL
            cases qq : h3.get? L with
            | none => exact hL3 qq
            | some o =>
              have := Heap.lt_size qq
              rw [← hL] at this
              exact absurd (Nat.lt_trans this z) (Nat.lt_irrefl _)
        · exact z
      have up4 : ∀ b o, b ≠ a → hp.get? b = some o → h4.get? b = some o := fun b o hb e => kp4 b o hb (up3 b o hb e)
      have ndx : H dx = none := e0.hok.fresh (Nat.le_trans hle hdx)
      have nd : ∀ {b : Addr} {o : Obj}, hp.get? b = some o → b ≠ dx := fun {b o} q => Nat.ne_of_lt (Nat.lt_of_lt_of_le (Heap.lt_size q) (Nat.le_trans hle hdx))
      have na : ∀ {b : Addr}, H b = none → b ≠ a := fun {b} n z => by
        rw [z, hea] at n
        cases n
      refine ⟨.non, _, rfl, e0.bare, ?_, fun b o q => ?_, rfl, hq dx ndx hne⟩
      · exact {
          keep := fun b o q n _ _ => up4 b o (na n) q
          slot := fun b o q n _ _ => ⟨o.slots, up4 b o (na n) q⟩
          free := fun b o q n _ => by rw [upd_ne (na n), upd_ne (nd q)]; exact n
          there := fun b o q _ => by
            by_cases hb : b = a
            · exact ⟨_, by rw [hb]; exact e4⟩
            · exact ⟨o, up4 b o hb q⟩
          tups := fun b xs q => by rw [upd_ne (at_ne hea q exo_tup), upd_ne (ne_of_none q ndx)]; exact q
          frzs := fun b o v q => by rw [upd_ne (at_ne hea q exo_frz), upd_ne (ne_of_none q ndx)]; exact q
          tbls := fun b ps q => ⟨#[], by rw [upd_ne (at_ne hea q exo_tbl), upd_ne (ne_of_none q ndx), q]; simp⟩ }
      · by_cases hb : b = a
        · subst hb
          rw [upd_same] at q
          cases q
          exact exo_ok e4
        · rw [upd_ne hb] at q
          by_cases hd : b = dx
          · subst hd
            rw [upd_same] at q
            cases q
            exact exd_ok hn4 (relO_put (fs := []) ry fun g => True.intro)
          · rw [upd_ne hd] at q
            exact (e0.hok b o q).stay (fun c v hc z => up4 c v (by
                rcases hc with hc | hc
                · rw [hc]
                  exact hb
                · exact at_ne hea hc exo_own) z)
              (fun c hc => by rw [upd_ne (at_ne hea hc exo_own), upd_ne (ne_of_none hc ndx)]; exact hc) (fun c xs hc => by rw [upd_ne (at_ne hea hc exo_tup), upd_ne (ne_of_none hc ndx)]; exact hc)
end TL
end
section
/-! The data layer: raise of own classes; isinstance and fields of caught exceptions. -/
namespace TL
open PySem PySem.Spec PyProof.Rows L2
section
variable {X : Cx} {R : RC} {E : XK}
/-! ### raise C(e), C without own __init__ -/
def sRaise (c : Str) (f : FE) : FS := fun ρ => M.bind (f ρ) fun _ m => .raise c [] m
theorem ds_raise {C : Addr} {bmB : List Value} {B newId initId : String} {x : Str} {e : Expr} {f : FE} {p pos pos2 : Pos} (cx : CxR X R E) (F : ExcBaseFacts B newId initId bmB) (q : PySem.W.excIn R.K C bmB newId = true) (gC : R.mg x = some (.ref C)) (kC : PySem.W.keepIn R.K (.ref C) = true)
    (h1 : PySem.W.subIn R.K (.ref C) (.type "BaseException") = some true) (h2 : PySem.W.typeIn R.K (.ref C) = some (.type "type")) (hg : Gl X x)
    (he : DE X R E e f) (hs : starEach [e] X.env = (false, eval e X.env) :: starEach [] X.env := by rfl) (hdb : (x == ("__debug__" : Str)) = false := by decide) :
    DS X R E (.Raise (some (.Call (.Name x p) [e] [] pos)) none pos2) (sRaise x f) := by
  obtain ⟨t, a1, a2⟩ := he.ex
  refine ⟨⟨_, ps_raise cx.calm cx.tk (SkE.pmk_own1 F (by rw [cx.K]; exact q) (by rw [cx.mg]; exact gC) (by rw [cx.K]; exact kC) (raises_own (by rw [cx.K]; exact h1) (by rw [cx.K]; exact h2)) hg a1 hs hdb), fun S σ H ρ m Z hr he' h => a2 S σ H ρ m _ hr he' (h.step fun d m1 H1 S1 e1 r1 q v rv => ?_)⟩⟩
  exact (q H1 S1 C (Ext.refl _ _) r1 gC).1 rfl
/-! ### raise C(e), C's __init__ keeping e in the field f -/
def sRaiseF (c fld : Str) (f : FE) : FS := fun ρ => M.bind (f ρ) fun d m => .raise c [(fld, d)] m
theorem ds_raiseF {C fI cc cda : Addr} {pn fld : Str} {fd : FuncData} {x : Str} {k : Nat} {e : Expr} {f : FE} {p pos pos2 : Pos} (cx : CxR X R E) (T : SI X.prog R.K C fI cc cda pn fld fd)
    (iC : PySem.W.findIn R.K (.ref C) "__init__" = some (some (.ref fI))) (tI : PySem.W.typeIn R.K (.ref fI) = some (.type "function")) (hb : Binds R.K fd [("self" : Str), pn] []) (hr : Room (k + 2) X.A) (gC : R.mg x = some (.ref C)) (hg : Gl X x)
    (he : DE X R E e f) (hs : starEach [e] X.env = (false, eval e X.env) :: starEach [] X.env := by rfl) (hdb : (x == ("__debug__" : Str)) = false := by decide) :
    DS X R E (.Raise (some (.Call (.Name x p) [e] [] pos)) none pos2) (sRaiseF x fld f) := by
  obtain ⟨t, a1, a2⟩ := he.ex
  have TO := T.ox
  rw [← cx.K] at TO
  refine ⟨⟨_, ps_raise cx.calm cx.tk (pmk_oex (CX := C8.CX0) (k := 1) TO (by rw [cx.K]; exact iC) (by rw [cx.K]; exact tI) (by rw [cx.K]; exact fn_superinit T) (hr.mono (by omega)) (by rw [cx.K]; exact hb) .nil C8.pass0 hg (by rw [cx.mg]; exact gC) (pa_cons a1 pa_nil hs) hdb hs), fun S σ H ρ m Z hr' he' h => a2 S σ H ρ m _ hr' he' (h.step fun d m1 H1 S1 e1 r1 q v rv => ?_)⟩⟩
  refine ⟨by simp, fun a na => ⟨a, v, rfl, upd_same, fun dx hd hne => ⟨rfl, dx, [(fld, v)], upd_same, by rw [upd_ne hne, upd_same], by rw [upd_ne hne] at hd; exact hd, ?_⟩⟩⟩
  have hd1 : H1 dx = none := by rw [upd_ne hne] at hd; exact hd
  have eH : upd (del (upd (upd (upd H1 a (exo a C none)) dx (exd dx [(fld, v)])) a (exo a C (some dx))) a) dx (.xd [(fld, v)]) = upd H1 dx (.xd [(fld, v)]) := by
    funext b
    by_cases hb : b = dx
    · rw [hb, upd_same, upd_same]
    · rw [upd_ne hb, upd_ne hb]
      by_cases ha : b = a
      · rw [ha, del_same, na]
      · rw [del_ne ha, upd_ne ha, upd_ne hb, upd_ne ha]
  rw [eH]
  have ex := Ext.newObj (o := HO.xd [(fld, v)]) r1 hd1
  exact (q _ S1 C ex (r1.newObj cx.ok hd1) gC).2 fld d rfl dx v upd_same (r1.fresh hd1) (rv.ext cx.ok ex)
/-! ### isinstance of a caught exception -/
structure XkC (K : PySem.W.Frag) (C : Addr) : Prop where
  cl : (PySem.W.clsIn K C).isSome = true
  ga : PySem.W.findIn K (.ref C) "__getattribute__" = some (some (.builtin "BaseException.__getattribute__"))
  gt : PySem.W.findIn K (.ref C) "__getattr__" = some none
  sub : PySem.W.subIn K (.ref C) (.type "BaseException") = some true
  ca : PySem.W.findIn K (.ref C) "__class__" = some (some (.builtin "object.__class__"))
  nn : PySem.W.specialIn K (.builtin "object.__class__") "__get__" = some (some (.builtin "getset_descriptor.__get__"))
  tk : PySem.W.takesIn K (.builtin "object.__class__") = some true
  mro : PySem.W.mroIn K C (.type "object") = some true
/-- at a: an exception of the class at C -/
def AtX (H : Hp) (a C : Addr) : Prop := ∃ d : Option Addr, H a = some (ExT (.ref C) d a) ∧ ∀ dx, d = some dx → ∃ fs, H dx = some (.xd fs)
theorem AtX.inst {pins : List (Addr × Obj)} {σ : L2.St} {H : Hp} {s : Shared} {a C : Addr} (I : Inv X pins σ H s) (h : AtX H a C) : ∃ ox od, PySem.W.InstAt s.heap a ox C od ∧ ∀ d, H a = some (ExT (.ref C) (some d) a) → ox.dict = some d := by
  obtain ⟨d, h1, h2⟩ := h
  obtain ⟨⟨oe, vs, e1, e2, e3⟩, _, _⟩ := (show ObjOk X.prog X.w H s.heap a (ExT (.ref C) d a) from I.hok a _ h1)
  cases d with
  | none => exact ⟨oe, none, ⟨e1, e2.1, by unfold PySem.W.notCls; rw [e3] <;> rfl, by rw [e2.2]; trivial⟩, fun d' q => by
      rw [h1] at q
      have := HO.ext.inj (Option.some.inj q)
      have w : (fun h : Heap => ∃ (oe : Obj) (vs : Array Value), h.get? a = some oe ∧ Zc (.ref C) none oe ∧ oe.data = .fields vs) s.heap := ⟨oe, vs, e1, e2, e3⟩
      rw [this] at w
      obtain ⟨oe', vs', e1', e2', e3'⟩ := w
      rw [e1] at e1'
      cases e1'
      exact e2'.2⟩
  | some dx =>
    obtain ⟨fs, hx⟩ := h2 dx rfl
    obtain ⟨mA, hns, hr⟩ := (show ObjOk X.prog X.w H s.heap dx (.xd fs) from I.hok dx _ hx)
    obtain ⟨od, ho, hl⟩ := lookIn_ns hns
    exact ⟨oe, some od, ⟨e1, e2.1, by unfold PySem.W.notCls; rw [e3] <;> rfl, by rw [e2.2]; exact ho⟩, fun d' q => by
      rw [h1] at q
      have := HO.ext.inj (Option.some.inj q)
      have w : (fun h : Heap => ∃ (oe : Obj) (vs : Array Value), h.get? a = some oe ∧ Zc (.ref C) (some dx) oe ∧ oe.data = .fields vs) s.heap := ⟨oe, vs, e1, e2, e3⟩
      rw [this] at w
      obtain ⟨oe', vs', e1', e2', e3'⟩ := w
      rw [e1] at e1'
      cases e1'
      exact e2'.2⟩
def rIsX (K : PySem.W.Frag) (xs : List V) (H : Hp) (Q : VK) : Prop := ∃ a C c b, xs = [.ref a, .ref c] ∧ AtX H a C ∧ XkC K C ∧ PySem.W.kitOne K (.ref C) (.ref c) = some b ∧ Q (.bl b) H
theorem call_isiX : CallR X (.builtin "isinstance") (rIsX X.K) := by
  intro pins s σ H xs us Q I r h
  obtain ⟨a, C, c, b, rfl, hA, T, e, q⟩ := h
  obtain ⟨u1, u2, rfl, r1, r2⟩ := vals2 r
  cases (show u1 = Value.ref a from r1)
  cases (show u2 = Value.ref c from r2)
  obtain ⟨ox, od, J, _⟩ := hA.inst I
  exact PySem.W.kia_one (PySem.W.kitx_exc T.cl T.ga T.gt T.sub T.ca T.nn T.tk T.mro) I.kIn J e (by intro z; cases z) fun tk => ⟨.bl b, H, I.tok tk, rfl, q⟩
def isiX (sb : Str → Str → Option Bool) (d c : D) : M D := match d, c with
  | .exn k _, .fn k' => fun m => (match sb k k' with | some b => .ok (.bl b) m | none => .stuck)
  | d, c => isiD d c
/-- what the written part says of the exception classes -/
structure XsR (R : RC) (sb : Str → Str → Option Bool) : Prop where
  kit : ∀ k k' C C' b, sb k k' = some b → R.mg k = some (.ref C) → R.mg k' = some (.ref C') → PySem.W.kitOne R.K (.ref C) (.ref C') = some b
  xk : ∀ k k' C b, sb k k' = some b → R.mg k = some (.ref C) → XkC R.K C
  eo : ∀ C d a, R.exo C d a = ExT (.ref C) d a
theorem call_isi_x {sb : Str → Str → Option Bool} (cx : CxR X R E) (T : XsR R sb) : CallD X R E (.builtin "isinstance") (arg2 (isiX sb)) := by
  obtain ⟨r0, c1, c2⟩ := call_isi_d cx
  refine ⟨_, CallR.or c1 call_isiX, fun S H m xs ds Q hr r h => ?_⟩
  rcases xs_cases : ds with _ | ⟨d, _ | ⟨c, _ | _⟩⟩
  · subst xs_cases; exact h.elim
  · subst xs_cases; exact h.elim
  · subst xs_cases
    by_cases hd : ∃ k fs k', d = .exn k fs ∧ c = .fn k'
    · obtain ⟨k, fs, k', rfl, rfl⟩ := hd
      obtain ⟨v, u, rfl, rv, ru⟩ := repAll2 r
      change RoutG R S H E (PV R Q) ((match sb k k' with | some b => (.ok (.bl b) m : Res D) | none => .stuck)) at h
      cases e : sb k k' with
      | none => rw [e] at h; exact h.elim
      | some b =>
        rw [e] at h
        cases ru with
        | @fn _ c gc =>
          refine .inr ?_
          rw [cx.K]
          cases rv with
          | @exn a C _ g1 g2 g3 => exact ⟨a, C, c, b, rfl, ⟨none, by rw [← T.eo]; exact g2, fun dx z => by cases z⟩, T.xk _ _ _ _ e g1, T.kit _ _ _ _ _ e g1 gc, h.now hr _ (.bl b)⟩
          | @exnd a C dx _ f v d g1 g2 g3 g4 g5 g6 => exact ⟨a, C, c, b, rfl, ⟨some dx, by rw [← T.eo]; exact g2, fun dx' z => by cases z; exact ⟨_, g4⟩⟩, T.xk _ _ _ _ e g1, T.kit _ _ _ _ _ e g1 gc, h.now hr _ (.bl b)⟩
    · have e : isiX sb d c = isiD d c := by
        unfold isiX
        split
        · exact (hd ⟨_, _, _, rfl, rfl⟩).elim
        · rfl
      exact .inl (c2 S H m xs _ Q hr r (by show RoutG R S H E (PV R Q) (isiD d c m); rw [← e]; exact h))
  · subst xs_cases; exact h.elim
/-! ### a field of a caught exception -/
def fldX (ok : Str → Bool) (n : Str) (d : D) : M D := match d with
  | .exn c [(g, v)] => if g = n ∧ ok c = true then M.pure v else fun _ => .stuck
  | _ => fun _ => .stuck
def dFld (ok : Str → Bool) (n : Str) (f : FE) : FE := fun ρ => M.bind (f ρ) (fldX ok n)
theorem de_fld {ok : Str → Bool} {e : Expr} {f : FE} {n : Str} {pos : Pos} (cx : CxR X R E) (hx : ∀ c C, ok c = true → R.mg c = some (.ref C) → XfC R.K C ∧ PySem.W.findIn R.K (.ref C) n = some none) (eo : ∀ C d a, R.exo C d a = ExT (.ref C) d a)
    (he : DE X R E e f) (hb : attributeBase e n X.env (eval e X.env) = eval e X.env := by rfl) : DE X R E (.Attribute e n pos) (dFld ok n f) := by
  obtain ⟨te, a1, a2⟩ := he.ex
  refine ⟨⟨fun σ H Q => te σ H fun x H1 => ∃ a C dx fs v, x = .ref a ∧ H1 a = some (ExT (.ref C) (some dx) a) ∧ XfC X.K C ∧ PySem.W.findIn X.K (.ref C) n = some none ∧ H1 dx = some (.xd fs) ∧ fs.lookup n = some v ∧ Q v H1, ⟨fun pins s σ H Q I h => ?_⟩, fun S σ H ρ m Q hr he' h => a2 S σ H ρ m _ hr he' (h.step fun d m1 H1 S1 e1 r1 q v rv => ?_)⟩⟩
  · refine attr_of hb (thn (a1.run pins s σ H _ I h) fun u s1 hh => ?_)
    obtain ⟨x, H1, I1, rx, a, C, dx, fs, v, rfl, ha, T, hno, hd, l, q⟩ := hh
    obtain rfl : u = Value.ref a := rx
    obtain ⟨ox, od, J, hdict⟩ := AtX.inst I1 (a := a) (C := C) ⟨some dx, ha, fun dx' z => by cases z; exact ⟨_, hd⟩⟩
    obtain ⟨mA, hns, hr⟩ := (show ObjOk X.prog X.w H1 s1.heap dx (.xd fs) from I1.hok dx _ hd)
    obtain ⟨od', ho, hl⟩ := lookIn_ns hns
    obtain ⟨w, hu, ru⟩ := RelO.some_of (v := v) (o := mA n) (by rw [← l]; exact hr n)
    have J' : PySem.W.InstAt s1.heap a ox C (some od') := by
      obtain ⟨j1, j2, j3, j4⟩ := J
      exact ⟨j1, j2, j3, by rw [hdict _ ha]; exact ho⟩
    exact HandSPX.exc_get I1.kIn J' T.ga T.gg T.exC (PySem.W.findObj_own T.hdC hno rfl (by rw [hl, hu])) (handed_of ru) ⟨v, H1, I1.tok _, ru, q⟩
  · unfold fldX at q
    split at q
    · rename_i c g w
      split at q
      · rename_i hc
        obtain ⟨rfl, hok⟩ := hc
        cases rv with
        | @exnd a C dx _ f v d g1 g2 g3 g4 g5 g6 =>
          obtain ⟨k1, k2⟩ := hx _ _ hok g1
          exact ⟨a, C, dx, _, v, rfl, by rw [← eo]; exact g2, by rw [cx.K]; exact k1, by rw [cx.K]; exact k2, g4, by simp, (RoutG.now (E := E) (P := PV R Q) q r1) _ g6⟩
      · exact q.elim
    · exact q.elim
end
end TL
end
section
/-! The data layer: a def that makes lambdas. Its closures are told of inside alone. -/
namespace TL
open PySem PySem.Spec PyProof.Rows L2
/-- R with these closures -/
def RC.wth (R : RC) (clo : Nat → Addr → Addr → Option HO) (cq : Str) : RC := { R with clo := clo, cq := cq }
mutual
/-- no closure in it -/
def nc : D → Bool
  | .tup xs => ncAll xs
  | .lst xs => ncAll xs
  | .dct kvs => ncKV kvs
  | .clo _ => false
  | .exn _ fs => ncFs fs
  | _ => true
def ncAll : List D → Bool
  | [] => true
  | x :: xs => nc x && ncAll xs
def ncKV : List (Key × D) → Bool
  | [] => true
  | (_, x) :: xs => nc x && ncKV xs
def ncFs : List (Str × D) → Bool
  | [] => true
  | (_, x) :: xs => nc x && ncFs xs
end
def ncMO : MO → Bool
  | .lst xs => ncAll xs
  | .dct kvs => ncKV kvs
  | .ins _ fs => ncFs fs
def ncMS (m : MS) : Bool := m.objs.all ncMO
section
variable {R R' : RC} {S S' : Sto} {H H' : Hp}
theorem ncAll_zip : ∀ (ks : List Key) (ds : List D), ks.length = ds.length → ncKV (ks.zip ds) = ncAll ds
  | [], [], _ => rfl
  | [], _ :: _, h => by cases h
  | _ :: _, [], h => by cases h
  | k :: ks, d :: ds, h => by
    simp only [List.zip_cons_cons, ncKV, ncAll]
    rw [ncAll_zip ks ds (by simpa using h)]
theorem ncKV_map : ∀ kvs : List (Key × D), ncKV kvs = ncAll (kvs.map (·.2))
  | [] => rfl
  | (k, d) :: r => by simp [ncKV, ncAll, ncKV_map r]
theorem ncFs_map : ∀ kvs : List (Str × D), ncFs kvs = ncAll (kvs.map (·.2))
  | [] => rfl
  | (k, d) :: r => by simp [ncFs, ncAll, ncFs_map r]
/-- but for closures the two say the same -/
structure Alk (R R' : RC) : Prop where
  K : R'.K = R.K
  mg : R'.mg = R.mg
  exo : R'.exo = R.exo
  T : R'.T = R.T
theorem Alk.wth {clo : Nat → Addr → Addr → Option HO} {cq : Str} : Alk R (R.wth clo cq) := ⟨rfl, rfl, rfl, rfl⟩
theorem Alk.symm (h : Alk R R') : Alk R' R := ⟨h.K.symm, h.mg.symm, h.exo.symm, h.T.symm⟩
theorem TupAt.alk (A : Alk R R') {a : Addr} {vs : List V} (h : TupAt R S H a vs) : TupAt R' S H a vs := by
  unfold TupAt at *
  rw [A.K]
  exact h
mutual
theorem Rep.alk (A : Alk R R') : ∀ {v : V} {d : D}, Rep R S H v d → (nc d = true ∨ ∀ i f c, R.clo i f c = none) → Rep R' S H v d
  | _, _, .non, _ => .non
  | _, _, .bl b, _ => .bl b
  | _, _, .int i, _ => .int i
  | _, _, .str x, _ => .str x
  | _, _, .tup h r, q => .tup (h.alk A) (RepAll.alk A r (q.imp (fun z => by simpa [nc] using z) _root_.id))
  | _, _, .lst h r, q => .lst h (RepAll.alk A r (q.imp (fun z => by simpa [nc] using z) _root_.id))
  | _, _, .dct h n l r, q => .dct h n l (RepAll.alk A r (q.imp (fun z => by unfold nc at z; rw [ncAll_zip _ _ (l.trans r.length)] at z; exact z) _root_.id))
  | _, _, .scr h n, _ => .scr h n
  | _, _, .ref h, q => .ref h
  | _, _, .drw h, _ => .drw h
  | _, _, .drg h, _ => .drg h
  | _, _, .fn h, _ => .fn (by rw [A.mg]; exact h)
  | _, _, .ty n, _ => .ty n
  | _, _, .clo h k n q m, z => by
    rcases z with z | z
    · cases z
    · rw [z] at h
      cases h
  | _, _, .exn h k n, _ => .exn (by rw [A.mg]; exact h) (by rw [A.exo]; exact k) n
  | _, _, .exnd h k n q m r, z => .exnd (by rw [A.mg]; exact h) (by rw [A.exo]; exact k) n q m (Rep.alk A r (z.imp (fun z => by simpa [nc, ncFs] using z) _root_.id))
theorem RepAll.alk (A : Alk R R') : ∀ {vs : List V} {ds : List D}, RepAll R S H vs ds → (ncAll ds = true ∨ ∀ i f c, R.clo i f c = none) → RepAll R' S H vs ds
  | _, _, .nil, _ => .nil
  | _, _, .cons h r, q => .cons (Rep.alk A h (q.imp (fun z => by simp only [ncAll, Bool.and_eq_true] at z; exact z.1) _root_.id)) (RepAll.alk A r (q.imp (fun z => by simp only [ncAll, Bool.and_eq_true] at z; exact z.2) _root_.id))
end
theorem MRep.alk (A : Alk R R') {a : Addr} {o : MO} (h : MRep R S H a o) (q : ncMO o = true ∨ ∀ i f c, R.clo i f c = none) : MRep R' S H a o := by
  cases o with
  | lst xs => obtain ⟨vs, h1, r⟩ := h; exact ⟨vs, h1, r.alk A q⟩
  | dct kvs => obtain ⟨vs, h1, r⟩ := h; exact ⟨vs, h1, r.alk A (q.imp (fun z => by have z : ncKV kvs = true := z; rw [ncKV_map] at z; exact z) _root_.id)⟩
  | ins c fs => obtain ⟨C, dx, vs, h0, h1, r⟩ := h; exact ⟨C, dx, vs, by rw [A.mg]; exact h0, h1, r.alk A (q.imp (fun z => by have z : ncFs fs = true := z; rw [ncFs_map] at z; exact z) _root_.id)⟩
theorem HR.alk (A : Alk R R') {m : MS} (h : HR R S H m) (q : ncMS m = true ∨ ∀ i f c, R.clo i f c = none) : HR R' S H m :=
  ⟨h.nd, h.len, fun n a o h1 h2 => (h.obj n a o h1 h2).alk A (q.imp (fun z => List.all_eq_true.mp z o (List.mem_of_getElem? h2)) _root_.id), h.dr, h.tm, by rw [A.T]; exact h.tb⟩
/-- an outcome without closures -/
def ncRes : Res D → Res D
  | .ok d m => if nc d = true ∧ ncMS m = true then .ok d m else .stuck
  | .raise c fs m => if ncFs fs = true ∧ ncMS m = true then .raise c fs m else .stuck
  | .stuck => .stuck
theorem ncRes_out (A : Alk R R') {E : XK} {Q : VK} {r : Res D} (h : RoutG R S H E (PV R Q) (ncRes r)) : RoutG R' S H E (PV R' Q) r := by
  cases r with
  | stuck => exact h
  | ok d m =>
    unfold ncRes at h
    dsimp only at h
    by_cases k : nc d = true ∧ ncMS m = true
    · rw [if_pos k] at h
      exact fun H' S' e hr v rv => h H' S' e (hr.alk A.symm (.inl k.2)) v (rv.alk A.symm (.inl k.1))
    · rw [if_neg k] at h
      exact h.elim
  | raise c fs m =>
    unfold ncRes at h
    dsimp only at h
    by_cases k : ncFs fs = true ∧ ncMS m = true
    · rw [if_pos k] at h
      intro H' S' C e hr g
      obtain ⟨k1, k2⟩ := h H' S' C e (hr.alk A.symm (.inl k.2)) (by rw [← A.mg]; exact g)
      exact ⟨k1, fun f d ef dx v hd hn rv => k2 f d ef dx v hd hn (rv.alk A.symm (.inl (by have := k.1; rw [ef] at this; simpa [ncFs] using this)))⟩
    · rw [if_neg k] at h
      exact h.elim
end
/-- the closures of a def -/
def cloOf (lams : List Lam) (q : Str) (cells : List (Str × Addr)) : Nat → Addr → Addr → Option HO := fun i f c' => (lams[i]?).map fun l => lamO (q ++ "<lambda>") l (cloFrom cells l.scope.names []) f c'
/-- R inside a def of the qualified name q in X -/
def RC.ins (R : RC) (X : Cx) (lams : List Lam) : RC := R.wth (cloOf lams X.env.qual X.env.cells) (X.env.qual ++ "<lambda>")
theorem ok_ins {R : RC} {X : Cx} {lams : List Lam} (h : R.Ok) : (R.ins X lams).Ok := ⟨fun i a c o e ps z => by
  have e : cloOf lams X.env.qual X.env.cells i a c = some o := e
  unfold cloOf at e
  cases el : lams[i]? with
  | none => rw [el] at e; cases e
  | some l =>
    rw [el] at e
    cases e
    exact lamO_ne ps z, h.exo⟩
section
variable {P : Program} {w : World} {base : Heap} {R : RC}
theorem cloR_ins {X : Cx} {lams : List Lam} : CloR X (R.ins X lams) lams := ⟨rfl, fun _ _ _ => rfl⟩
theorem Bs.wth (B : Bs P w base R) (h : ∀ clo cq, (R.wth clo cq).Ok) {clo : Nat → Addr → Addr → Option HO} {cq : Str} : Bs P w base (R.wth clo cq) := ⟨h _ _, B.seer, B.tree⟩
/-- THE RULE for a def that makes lambdas; cdv, its code object, is fixed -/
theorem fnD_ofC (B : Bs P w base R) {lams : List Lam} {x : Str} {st : Stmt} {f : Addr} {fd : FuncData} {N ps : List Str} {k : Nat} {u : FS} {F : List D → M D} {cdv : Value} (h0 : ∀ i f c, R.clo i f c = none) (Fu : Fun R.K x x st f fd) (hcdv : fd.code = cdv) (hm : R.mg x = some (.ref f)) (S : FnScope N ps (defScope st)) (hk : 40 ≤ k) (hb : Binds R.K fd ps [])
    (hF : ∀ (R : RC) S H m ds E Q, HR R S H m → ds.length = ps.length → RoutG R S H E (PV R Q) (F ds m) → RoutG R S H E (PV R Q) (ncRes (bodyF u N.length ds m)))
    (h : ∀ (R' : RC) (A : Around) (outer : List Env) (s : Shared) (H : Hp) (E : XK), R' = R.ins (cxOf (L2.CX P w) P w R.K R.mg base N x (defScope st) f cdv A outer s H E) lams → Bs P w base R' → Room k (A.deeper (envOfC x (defScope st) s.heap.objs.size f cdv)) → CxR (cxOf (L2.CX P w) P w R.K R.mg base N x (defScope st) f cdv A outer s H E) R' E →
      CloR (cxOf (L2.CX P w) P w R.K R.mg base N x (defScope st) f cdv A outer s H E) R' lams → DSs (cxOf (L2.CX P w) P w R.K R.mg base N x (defScope st) f cdv A outer s H E) R' E (defBody st) u) : FnD P w base R x (k + 1) ps st F := by
  have Fu0 := Fu
  obtain ⟨oc, od, kV, doc, pm, an, cdv', ct, osl, rfl, lk, hcd⟩ := Fu.ex
  obtain rfl : cdv' = cdv := hcdv
  refine ⟨f, _, fn_of lk hcd S (fun vs H Q E h => h.1) fun A outer s H vs Q E hr hsp => ?_, hm, Fu0, hb⟩
  obtain ⟨hl, St, m, ds, h1, h2, h3⟩ := hsp
  have A1 : Alk R (R.ins (cxOf (L2.CX P w) P w R.K R.mg base N x (defScope st) f cdv' A outer s H E) lams) := Alk.wth
  have B' : Bs P w base (R.ins (cxOf (L2.CX P w) P w R.K R.mg base N x (defScope st) f cdv' A outer s H E) lams) := ⟨ok_ins B.ok, B.seer, B.tree⟩
  have C0 := cxr_of (H := H) (E := E) (outer := outer) B S hk hr
  obtain ⟨t, a1, a2⟩ := (h _ A outer s H E rfl B' hr ⟨C0.K, C0.mg, B'.ok, C0.tk, C0.po, C0.pyl, C0.un, C0.calm, C0.nd⟩ cloR_ins).ex
  refine ⟨t, a1, a2 St _ H _ m _ (h1.alk A1 (.inr h0)) (er_start (h2.alk A1 (.inr h0))) (endF_out (ncRes_out A1 (hF R St H m ds E Q h1 (by rw [← h2.length]; exact hl) h3)))⟩
/-- as bodyT, and without closures -/
noncomputable def bodyN (u : FS) (n : Nat) : List D → M D := fun ds m => trunc m (ncRes (bodyF u n ds m))
end
end TL
end
section
/-! The data layer: `_law_begun`, that makes the dict of the draws. -/
namespace TL
open PySem PySem.Spec PyProof.Rows L2
open Classical in
noncomputable def sBegun (f1 f2 : FE) (i : Nat) : FS := fun ρ m => if m.objs = [] ∧ m.dr = none ∧ i < ρ.length then (match f1 ρ m with
  | .ok (.ref 0) m1 => (match m1.objs with
    | [.lst gs] => (match f2 (ρ.set i (some (.ref 0))) m1 with
      | .ok (.lst cs) m2 => if m2 = m1 ∧ m1.dr = none then (match allI gs, allI cs with
        | some g, some c => .ok (.ret .drw) { objs := [], dr := some ⟨g, c, 0, 0⟩ }
        | _, _ => .stuck) else .stuck
      | _ => .stuck)
    | _ => .stuck)
  | _ => .stuck) else .stuck
section
variable {X : Cx} {R : RC} {E : XK}
theorem dss_begun {f1 f2 : FE} {i : Nat} {x : Str} {st : Stmt} {e2 : Expr} {k1 k2 k3 k4 j3 j4 : Nat} {p1 p2 p3 p4 q1 q3 q4 pos pos2 : Pos} (cx : CxR X R E) (h1 : DS X R E st (sAsg f1 (gN i))) (hi : X.N[i]? = some x) (hx : Vis X.env.scope x) (h2 : DE X R E e2 f2)
    (hd : (x == ("__debug__" : Str)) = false := by decide) (hcd : (x == ("__classdict__" : Str)) = false := by decide) :
    DSs X R E [st, .Return (some (.Dict [some (.Constant (.str "great") k1 p1), some (.Constant (.str "cells") k2 p2), some (.Constant (.str "rest") k3 p3), some (.Constant (.str "turn") k4 p4)] [.Name x q1, e2, .Constant (.int 0) j3 q3, .Constant (.int 0) j4 q4] pos)) pos2] (sBegun f1 f2 i) := by
  obtain ⟨t1, a1, a2⟩ := h1.ex
  obtain ⟨t2, b1, b2⟩ := h2.ex
  refine ⟨⟨_, pss_cons a1 (pss_one (ps_ret (pe_disp (pps_cons pe_str (pe_var (i := i) hi hx hd hcd) (pps_cons pe_str b1 (pps_cons pe_str pe_int (pps_cons pe_str pe_int pps_nil)))) rfl rfl (by simp) (by simp)))), fun S σ H ρ m Z hr he h => ?_⟩⟩
  unfold sBegun at h
  split at h
  case isFalse => exact h.elim
  rename_i hm
  obtain ⟨hm1, hm2, hlt⟩ := hm
  split at h
  case h_2 => exact h.elim
  rename_i m1 e1
  split at h
  case h_2 => exact h.elim
  rename_i gs eo
  split at h
  case h_2 => exact h.elim
  rename_i cs m2 e2'
  split at h
  case isFalse => exact h.elim
  rename_i hm3
  obtain ⟨rfl, hdr⟩ := hm3
  split at h
  case h_2 => exact h.elim
  rename_i g c eg ec
  refine a2 S σ H ρ m _ hr he ?_
  show RoutG R S H E (PF R _) (M.bind (f1 ρ) (fun d => M.bind (gN i d ρ) fun ρ' m => .ok (.next ρ') m) m)
  unfold M.bind
  rw [e1]
  show RoutG R S H E (PF R _) (.ok (.next (ρ.set i (some (.ref 0)))) m2)
  intro H1 S1 x1 r1 σ1 he1
  intro p hp
  have xp := Ext.newObj (o := HO.dK []) r1 hp
  have rp := r1.newObj (o := HO.dK []) cx.ok hp
  have hep := he1.ext cx.ok xp
  -- the list of the great ones
  have hl1 := r1.len
  have hl0 := hr.len
  rw [eo] at hl1
  rw [hm1] at hl0
  obtain ⟨ga, hga⟩ : ∃ ga, S1.refs = [ga] := by
    match hh : S1.refs, hl1 with
    | [ga], _ => exact ⟨ga, rfl⟩
  have hS : S.refs = [] := List.length_eq_zero_iff.mp hl0
  have hSd : S.drw = none := by have := hr.dr; rw [hm2] at this; exact this
  have hS1d : S1.drw = none := by have := r1.dr; rw [hdr] at this; exact this
  obtain ⟨vg, hgv, rg⟩ : ∃ v, σ1[i]? = some (some v) ∧ Rep R S1 H1 v (.ref 0) := he1.at_ i _ (by rw [List.getElem?_set_self hlt])
  obtain rfl : vg = .ref ga := by
    cases rg with
    | @ref n a hn =>
      rw [hga] at hn
      cases hn
      rfl
  refine ⟨_, hgv, ?_⟩
  refine b2 S1 σ1 _ (ρ.set i (some (.ref 0))) m2 _ rp hep ?_
  rw [e2']
  intro H2 S2 x2 r2 v2 rv2
  cases rv2 with
  | @lst c' vs ds hc rvs =>
  obtain rfl := allI_out rvs ec
  have hp1 : p ∉ S1.mut := r1.fresh hp
  have hp2 : H2 p = some (.dK []) := x2.keep p _ upd_same hp1 (fun _ z => by cases z)
  have hpm : p ∉ S2.mut := x2.nmut (b := p) upd_same hp1
  refine ⟨hp2, [(.inr "great", .ref ga), (.inr "cells", .ref c'), (.inr "rest", .int 0), (.inr "turn", .int 0)], rfl, by simp, ?_⟩
  have eM : mergeK [] [((.inr "great" : Key), V.ref ga), (.inr "cells", .ref c'), (.inr "rest", .int 0), (.inr "turn", .int 0)] = [(.inr "great", .ref ga), (.inr "cells", .ref c'), (.inr "rest", .int 0), (.inr "turn", .int 0)] := by
    simp only [mergeK, List.foldl, putK, List.any]
    rfl
  rw [eM]
  -- the stores
  have hS2 : S2.refs = [ga] := by
    obtain ⟨more, q⟩ := x2.refs
    have l2 := r2.len
    rw [eo] at l2
    rw [hga] at q
    cases more with
    | nil => simpa using q
    | cons a b => rw [q] at l2; simp at l2
  have hS2d : S2.drw = none := by have := r2.dr; rw [hdr] at this; exact this
  have ht1 : S1.tmp = S.tmp := x1.tmp
  have ht2 : S2.tmp = S.tmp := x2.tmp.trans ht1
  have m2' : S2.mut = ga :: S.tmp := by unfold Sto.mut Sto.rest Sto.drs; rw [hS2, hS2d, ht2]; rfl
  have m1' : S1.mut = ga :: S.tmp := by unfold Sto.mut Sto.rest Sto.drs; rw [hga, hS1d, ht1]; rfl
  have m0' : S.mut = S.tmp := by unfold Sto.mut Sto.rest Sto.drs; rw [hS, hSd]; rfl
  have m3' : ({ S with drw := some (p, ga, c') } : Sto).mut = p :: ga :: S.tmp := by unfold Sto.mut Sto.rest Sto.drs; dsimp only; rw [hS]; rfl
  rw [m2'] at hpm
  have nd2 := r2.nd
  rw [m2'] at nd2
  obtain ⟨vs, hgl, rgs⟩ := r2.obj 0 ga _ (by rw [hS2]; rfl) (by rw [eo]; rfl)
  obtain rfl := allI_out rgs eg
  have gp : ga ≠ p := fun z => hpm (by rw [← z]; exact List.mem_cons_self)
  have cp : c' ≠ p := fun z => by
    have := hc.1
    rw [z, hp2] at this
    cases this
  have tp : ∀ a ∈ S.tmp, a ≠ p := fun a ha z => hpm (by rw [← z]; exact List.mem_cons_of_mem _ ha)
  have hgm : H ga = none := by
    rcases x1.new ga (by rw [m1']; exact List.mem_cons_self) with z | z
    · rw [m0'] at z
      exact ((List.nodup_cons.mp nd2).1 z).elim
    · exact z
  have hpn : H p = none := by
    cases q : H p with
    | none => rfl
    | some o =>
      obtain ⟨o', q'⟩ := x1.there p o q
      rw [hp] at q'
      cases q'
  have Xt : Ext S H { S with drw := some (p, ga, c') } (upd H2 p (.dK [(.inr "great", .ref ga), (.inr "cells", .ref c'), (.inr "rest", .int 0), (.inr "turn", .int 0)])) := by
    refine ⟨⟨⟨[], by simp⟩, (fun q hq => by rw [hSd] at hq; cases hq), fun a ha => ?_, fun b o hb hn ht => ?_, fun b o hb => ?_⟩, rfl, fun a ha => ?_⟩
    · rw [m3'] at ha
      rcases List.mem_cons.mp ha with rfl | ha
      · exact .inr hpn
      · rcases List.mem_cons.mp ha with rfl | ha
        · exact .inr hgm
        · exact .inl (by rw [m0']; exact ha)
    · rw [upd_ne (ne_of_none hb hpn)]
      have k1 := x1.keep b o hb hn ht
      have k2 := x1.nmut hb hn
      exact x2.keep b o (xp.keep b o k1 k2 ht) k2 ht
    · obtain ⟨o1, k1⟩ := x1.there b o hb
      obtain ⟨o2, k2⟩ := xp.there b o1 k1
      obtain ⟨o3, k3⟩ := x2.there b o2 k2
      by_cases hbp : b = p
      · exact ⟨_, by rw [hbp, upd_same]⟩
      · exact ⟨o3, by rw [upd_ne hbp]; exact k3⟩
    · rw [upd_ne (tp a ha)]
      exact ((x2.tk a (by rw [ht1]; exact ha)).trans (xp.tk a (by rw [ht1]; exact ha))).trans (x1.tk a ha)
  refine h _ _ Xt ⟨by rw [m3']; exact List.nodup_cons.mpr ⟨hpm, nd2⟩, by show S.refs.length = 0; rw [hS]; rfl, (fun n a o h1 _ => by
      have h1 : S.refs[n]? = some a := h1
      rw [hS] at h1
      cases h1), ⟨p, ga, c', rfl, upd_same, by rw [upd_ne gp]; exact hgl, by rw [upd_ne cp]; exact hc.1, fun z => ?_⟩, fun a ha => ?_, ?_⟩ _ (.drw rfl)
  · rw [m3'] at z
    rcases List.mem_cons.mp z with z | z
    · exact cp z
    · exact hc.2 (by rw [m2']; exact z)
  · have ha : a ∈ S.tmp := ha
    rw [upd_ne (tp a ha)]
    exact r2.tm a (by rw [ht2]; exact ha)
  · exact tabs_put r2.tb hp2 ⟨(fun _ z => by cases z), (fun _ _ z => by cases z)⟩
end
end TL
end
section
/-! The data layer: more rules. -/
namespace TL
open PySem PySem.Spec PyProof.Rows L2
section
variable {X : Cx} {R : RC} {E : XK} {pos : Pos}
theorem CxR.u1 (cx : CxR X R E) : X.A.units + 1 < cLine := by have := cx.un; omega
theorem CxR.u64 (cx : CxR X R E) : X.A.units + 64 < cLine := by have := cx.un; omega
/-! ### if .. else as a test -/
def bIf (g fa fb : FB) : FB := fun ρ => M.bind (g ρ) fun k => if k then fa ρ else fb ρ
def tIfT (tc ta tb : TT) : TT := fun σ H Q => tc σ H fun c H1 => if c = true then ta σ H1 Q else tb σ H1 Q
theorem pt_ifE {c a b : Expr} {tc ta tb : TT} (hc : PT X c tc) (ha : PT X a ta) (hb : PT X b tb) : PT X (.IfExp c a b pos) (tIfT tc ta tb) := by
  refine ⟨fun pins s σ H Q I h => ?_⟩
  show wpAny _ _ (do if ← isTrue c X.env (eval c X.env) then isTrue a X.env (eval a X.env) else isTrue b X.env (eval b X.env)) _ _ _
  refine wpAny_bind (thn (hc.run pins s σ H _ I h) fun k s1 ⟨H1, I1, q1⟩ => ?_)
  cases k with
  | true =>
    rw [if_pos rfl] at q1
    exact ha.run pins s1 σ H1 Q I1 q1
  | false =>
    rw [if_neg Bool.false_ne_true] at q1
    exact hb.run pins s1 σ H1 Q I1 q1
theorem dt_if {c a b : Expr} {g fa fb : FB} (cx : CxR X R E) (hc : DT X R E c g) (ha : DT X R E a fa) (hb : DT X R E b fb) : DT X R E (.IfExp c a b pos) (bIf g fa fb) := by
  obtain ⟨tc, c1, c2⟩ := hc.ex
  obtain ⟨ta, a1, a2⟩ := ha.ex
  obtain ⟨tb, b1, b2⟩ := hb.ex
  refine ⟨⟨_, pt_ifE c1 a1 b1, fun S σ H ρ m Q hr he h => c2 S σ H ρ m _ hr he (h.step fun k m1 H1 S1 e1 r1 q => ?_)⟩⟩
  cases k with
  | true => exact a2 S1 σ H1 ρ m1 Q r1 (he.ext cx.ok e1) q
  | false => exact b2 S1 σ H1 ρ m1 Q r1 (he.ext cx.ok e1) q
/-! ### texts -/
def allS : List D → Option (List Str)
  | [] => some []
  | .str b :: r => (allS r).map (b :: ·)
  | _ => none
theorem allS_out {S : Sto} {H : Hp} : ∀ {ds : List D} {vs : List V} {bs : List Str}, RepAll R S H vs ds → allS ds = some bs → vs = bs.map V.str
  | [], _, _, .nil, h => by cases h; rfl
  | .str b :: r, _, _, .cons rv rt, h => by
    unfold allS at h
    have e := rep_str rv
    subst e
    cases e2 : allS r with
    | none => rw [e2] at h; cases h
    | some bs' =>
      rw [e2] at h
      cases h
      rw [allS_out rt e2]
      rfl
  | .non :: _, _, _, _, h => by cases h
  | .bl _ :: _, _, _, _, h => by cases h
  | .int _ :: _, _, _, _, h => by cases h
  | .tup _ :: _, _, _, _, h => by cases h
  | .lst _ :: _, _, _, _, h => by cases h
  | .dct _ :: _, _, _, _, h => by cases h
  | .scr _ :: _, _, _, _, h => by cases h
  | .ref _ :: _, _, _, _, h => by cases h
  | .drw :: _, _, _, _, h => by cases h
  | .drg :: _, _, _, _, h => by cases h
  | .fn _ :: _, _, _, _, h => by cases h
  | .ty _ :: _, _, _, _, h => by cases h
  | .clo _ :: _, _, _, _, h => by cases h
  | .exn _ _ :: _, _, _, _, h => by cases h
def joinD (o : D) (ds : List D) : M D := fun m => match o, ds with
  | .str a, [d] => (match (match d with | .tup xs => some xs | d => lstD m d).bind allS with
    | some ys => if (ys.map (·.length)).sum + ys.length * a.length ≤ 1000000 then .ok (.str (Txt.join a ys)) m else .stuck
    | none => .stuck)
  | _, _ => .stuck
theorem mt_join_d (cx : CxR X R E) : MtD X R E "str.join" joinD := ⟨_, mt_join, fun S H m x a vs ds Q hr ra rv h => by
  unfold joinD at h
  cases a with
  | str a =>
    cases rv with
    | nil => exact h.elim
    | @cons y d ys ds' r rr =>
      cases rr with
      | cons _ _ => exact h.elim
      | nil =>
        dsimp only at h
        have e := rep_str ra
        subst e
        have main : ∀ ys : List Str, RoutG R S H E (PV R Q) (if (ys.map (·.length)).sum + ys.length * a.length ≤ 1000000 then .ok (.str (Txt.join a ys)) m else .stuck) → (ys.map (·.length)).sum + ys.length * a.length ≤ 16777216 ∧ Q (.str (Txt.join a ys)) H := fun ys h => by
          split at h
          · rename_i hz
            exact ⟨Nat.le_trans hz (by decide), h.now hr _ (.str _)⟩
          · exact h.elim
        rw [cx.K]
        by_cases ht : ∃ xs, d = .tup xs
        · obtain ⟨xs, rfl⟩ := ht
          dsimp only [Option.bind] at h
          cases r with
          | @tup p vs _ hp hall =>
            cases e : allS xs with
            | none => rw [e] at h; exact h.elim
            | some ys =>
              rw [e] at h
              obtain rfl := allS_out hall e
              obtain ⟨k1, k2⟩ := main ys h
              exact ⟨a, p, ys, rfl, rfl, .inr hp.sq, k1, k2⟩
        · have h' : RoutG R S H E (PV R Q) (match (lstD m d).bind allS with
            | some ys => if (ys.map (·.length)).sum + ys.length * a.length ≤ 1000000 then .ok (.str (Txt.join a ys)) m else .stuck
            | none => .stuck) := by
            cases d with
            | tup xs => exact (ht ⟨xs, rfl⟩).elim
            | _ => exact h
          cases el : lstD m d with
          | none => rw [el] at h'; exact h'.elim
          | some xs =>
            rw [el] at h'
            dsimp only [Option.bind] at h'
            cases e : allS xs with
            | none => rw [e] at h'; exact h'.elim
            | some ys =>
              rw [e] at h'
              obtain ⟨p, vs, rfl, hp, hall, _⟩ := lstD_out hr r el
              obtain rfl := allS_out hall e
              obtain ⟨k1, k2⟩ := main ys h'
              exact ⟨a, p, ys, rfl, rfl, .inl hp, k1, k2⟩
  | _ => cases ds <;> exact h.elim⟩
def upperD (o : D) (ds : List D) : M D := fun m => match o, ds with
  | .str a, [] => if a.length ≤ 1000000 then .ok (.str (Txt.upper a)) m else .stuck
  | _, _ => .stuck
theorem mt_upper_d : MtD X R E "str.upper" upperD := ⟨_, mt_upper, fun S H m x a vs ds Q hr ra rv h => by
  unfold upperD at h
  cases a with
  | str a =>
    cases rv with
    | cons _ _ => exact h.elim
    | nil =>
      dsimp only at h
      have e := rep_str ra
      subst e
      split at h
      · rename_i hz
        exact ⟨a, rfl, rfl, Nat.le_trans hz (by decide), h.now hr _ (.str _)⟩
      · exact h.elim
  | _ => cases ds <;> exact h.elim⟩
/-! ### sorted texts -/
def srtS (xs ys : List Str) : Prop := ∀ zs : List Str, zs.Perm xs → sortedS zs = true → zs = ys
open Classical in
noncomputable def sortedD (d : D) : M D := fun m => match (lstD m d).bind allS with
  | some xs => if h : xs.length < 64 ∧ ∃ ys, srtS xs ys then .ok (.lst ((Classical.choose h.2).map D.str)) m else .stuck
  | none => .stuck
theorem repAll_strs {S : Sto} {H : Hp} : ∀ ys : List Str, RepAll R S H (ys.map V.str) (ys.map D.str)
  | [] => .nil
  | y :: ys => .cons (.str y) (repAll_strs ys)
theorem call_sorted_d (cx : CxR X R E) : CallD X R E (.builtin "sorted") (arg1 sortedD) := ⟨_, cr_sortedS, fun S H m xs ds Q hr r h => by
  obtain ⟨v, d, rfl, rv, h⟩ := arg1_out r h
  rw [cx.K]
  unfold sortedD at h
  cases el : lstD m d with
  | none => rw [el] at h; exact h.elim
  | some zs =>
    rw [el] at h
    dsimp only [Option.bind] at h
    cases e : allS zs with
    | none => rw [e] at h; exact h.elim
    | some ys =>
      rw [e] at h
      obtain ⟨p, vs, rfl, hp, hall, _⟩ := lstD_out hr rv el
      obtain rfl := allS_out hall e
      dsimp only at h
      split at h
      · rename_i hz
        refine ⟨p, ys, rfl, hp, hz.1, fun ws q hw hs hq => ?_⟩
        have e2 := Classical.choose_spec hz.2 ws hw hs
        rw [← e2] at h
        have ex := Ext.newObj (o := HO.lst (ws.map V.str)) hr hq
        exact h _ S ex (hr.newObj cx.ok hq) _ (.lst ⟨upd_same, hr.fresh hq⟩ (repAll_strs ws))
      · exact h.elim⟩
/-! ### {} -/
theorem de_dict0 (cx : CxR X R E) : DE X R E (.Dict [] [] pos) (dC (.dct [])) := by
  refine ⟨⟨_, pe_dnewK, fun S σ H ρ m Q hr he h p hp => ?_⟩⟩
  have ex := Ext.newObj (o := HO.dK []) hr hp
  exact h _ S ex (hr.newObj cx.ok hp) _ (Rep.dct (ks := []) (vs := []) (ds := []) (.inl upd_same) (hr.fresh hp) rfl .nil)
end
end TL
end
section
/-! The data layer: what a law's derivations lean on. -/
namespace TL
open PySem PySem.Spec PyProof.Rows L2
open LamX (Tabs CodeO TabB LamS lamEnv lamCx)
abbrev subD := intI (fun i j => i - j) always
abbrev fdivD := intI Int.fdiv nz
abbrev modD := intI Int.fmod nz
abbrev powD := intI (fun i j => i ^ j.toNat) powOk
abbrev ltI := intB fun i j => decide (i < j)
abbrev leI := intB fun i j => decide (i ≤ j)
abbrev gtI := intB fun i j => decide (j < i)
abbrev geI := intB fun i j => decide (j ≤ i)
/-- what a module constant holds -/
inductive CV where
  | int (i : Int) | str (x : Str) | tup (vs : List Int)
def CV.d : CV → D
  | .int i => .int i
  | .str x => .str x
  | .tup vs => .tup (vs.map D.int)
/-- a law's names -/
structure Cfg where
  top : Nat → Stmt
  free : List Str
  imps : List (Str × String)
  fns : List (Str × Nat)
  consts : List (Str × CV)
  excs : List Str
  exis : List (Str × Str × Str)
  subs : Str → Str → Option Bool
  fok : Str → Str → Bool
  teach : Str → Bool
  lamq : List Str
def CV.at_ (K : PySem.W.Frag) (mg : Str → Option Value) (x : Str) : CV → Prop
  | .int i => ∃ t, mg x = some (.int i t)
  | .str z => ∃ t, mg x = some (.str z t)
  | .tup vs => ∃ (a : Addr) (o : Obj) (its : Array Value) (n : Nat), mg x = some (.ref a) ∧ K.lookup a = some o ∧ o.cls = .type "tuple" ∧ o.data = .seq its n ∧ its.size ≤ sizeLine ∧ Vals (vs.map V.int) its.toList
structure ExcAt (R : RC) (x : Str) (C : Addr) : Prop where
  mg : R.mg x = some (.ref C)
  ex : PySem.W.excIn R.K C He.veBase "ValueError.__new__" = true
  kC : PySem.W.keepIn R.K (.ref C) = true
  sub : PySem.W.subIn R.K (.ref C) (.type "BaseException") = some true
  ty : PySem.W.typeIn R.K (.ref C) = some (.type "type")
structure ExiAt (P : Program) (R : RC) (x p f : Str) (C fI cc cda : Addr) (fd : FuncData) : Prop where
  mg : R.mg x = some (.ref C)
  si : SI P R.K C fI cc cda p f fd
  iC : PySem.W.findIn R.K (.ref C) "__init__" = some (some (.ref fI))
  tI : PySem.W.typeIn R.K (.ref fI) = some (.type "function")
  hb : Binds R.K fd [("self" : Str), p] []
/-- the facts -/
structure Ev (c : Cfg) (P : Program) (w : World) (base : Heap) (R : RC) : Prop where
  B : Bs P w base R
  eo : ∀ C d a, R.exo C d a = ExT (.ref C) d a
  free : ∀ (i : Nat) (x : Str), c.free[i]? = some x → R.mg x = none
  imps : ∀ (i : Nat) (x : Str) (id : String), c.imps[i]? = some (x, id) → R.mg x = some (.builtin id)
  fns : ∀ (i : Nat) (x : Str) (n : Nat), c.fns[i]? = some (x, n) → ∃ f fd, R.mg x = some (.ref f) ∧ Fun R.K x x (c.top n) f fd
  consts : ∀ (i : Nat) (x : Str) (v : CV), c.consts[i]? = some (x, v) → CV.at_ R.K R.mg x v
  excs : ∀ (i : Nat) (x : Str), c.excs[i]? = some x → ∃ C, ExcAt R x C
  exis : ∀ (i : Nat) (x p f : Str), c.exis[i]? = some (x, p, f) → ∃ C fI cc cda fd, ExiAt P R x p f C fI cc cda fd
  xs : XsR R c.subs
  fld : ∀ (f x : Str) (C : Addr), c.fok f x = true → R.mg x = some (.ref C) → XfC R.K C ∧ PySem.W.findIn R.K (.ref C) f = some none
  teach : ∃ CT, R.mg "TeachError" = some (.ref CT) ∧ ∀ (x : Str) (C : Addr), c.teach x = true → R.mg x = some (.ref C) → PySem.W.exmOne R.K (.ref C) (.ref CT) = some true
  lams : ∀ (i : Nat) (x : Str) (n : Nat) (f : Addr) (fd : FuncData), c.lamq[i]? = some x → (∃ j : Nat, c.fns[j]? = some (x, n)) → R.mg x = some (.ref f) → Fun R.K x x (c.top n) f fd → ∃ cd Pt : Addr, fd.code = .ref cd ∧ TabB base R.mg cd Pt ∧ (Pt, (x ++ ".<locals>.") ++ "<lambda>") ∈ R.T ∧ ∀ p ∈ R.T, p.1 = Pt → p.2 = (x ++ ".<locals>.") ++ "<lambda>"
section
variable {c : Cfg} {P : Program} {w : World} {base : Heap} {R : RC}
theorem Ev.wth {clo : Nat → Addr → Addr → Option HO} {cq : Str} (V : Ev c P w base R) (h : (R.wth clo cq).Ok) : Ev c P w base (R.wth clo cq) where
  B := ⟨h, V.B.seer, V.B.tree⟩
  eo := V.eo
  free := V.free
  imps := V.imps
  fns := V.fns
  consts := V.consts
  excs := fun i x h => by obtain ⟨C, T⟩ := V.excs i x h; exact ⟨C, ⟨T.mg, T.ex, T.kC, T.sub, T.ty⟩⟩
  exis := fun i x p f h => by obtain ⟨C, fI, cc, cda, fd, T⟩ := V.exis i x p f h; exact ⟨C, fI, cc, cda, fd, ⟨T.mg, T.si, T.iC, T.tI, T.hb⟩⟩
  xs := ⟨V.xs.kit, V.xs.xk, V.xs.eo⟩
  fld := V.fld
  teach := V.teach
  lams := V.lams
theorem Ev.glo (V : Ev c P w base R) {x : Str} {v : CV} (i : Nat) (h : c.consts[i]? = some (x, v)) : Glo R x v.d := by
  have q := V.consts i x v h
  cases v with
  | int i => obtain ⟨t, e⟩ := q; exact ⟨_, .int i, e, ⟨t, rfl⟩, fun S H => .int i⟩
  | str z => obtain ⟨t, e⟩ := q; exact ⟨_, .str z, e, ⟨t, rfl⟩, fun S H => .str z⟩
  | tup vs =>
    obtain ⟨a, o, its, n, e, h1, h2, h3, h4, h5⟩ := q
    refine ⟨_, .ref a, e, rfl, fun S H => .tup (.inr ⟨o, its, n, h1, h2, h3, h4, h5⟩) ?_⟩
    clear h5 h
    induction vs with
    | nil => exact .nil
    | cons v vs ih => exact .cons (.int v) ih
theorem Ev.gloX (V : Ev c P w base R) {x : Str} (i : Nat) (h : c.excs[i]? = some x) : Glo R x (.fn x) := by
  obtain ⟨C, T⟩ := V.excs i x h
  exact ⟨_, .ref C, T.mg, rfl, fun S H => .fn T.mg⟩
theorem Ev.gloI (V : Ev c P w base R) {x p f : Str} (i : Nat) (h : c.exis[i]? = some (x, p, f)) : Glo R x (.fn x) := by
  obtain ⟨C, fI, cc, cda, fd, T⟩ := V.exis i x p f h
  exact ⟨_, .ref C, T.mg, rfl, fun S H => .fn T.mg⟩
/-- THE RULE for a def without own lists -/
theorem Ev.def_ (V : Ev c P w base R) {x : Str} {n : Nat} (i : Nat) (hi : c.fns[i]? = some (x, n)) {N ps : List Str} {k : Nat} {u : FS} (S : FnScope N ps (defScope (c.top n))) (hk : 40 ≤ k)
    (hb : ∀ (kV doc pm : Value) (an : Option Addr) (cdv ct : Value) (us : List Value), us.length = ps.length → bindArgs (PySem.W.fnOf x x (defArgs (c.top n)) (defBody (c.top n)) (defScope (c.top n)) .none kV doc pm an cdv ct) ⟨us, []⟩ = pure (ps.zip us))
    (h : ∀ (f : Addr) (cdv : Value) (A : Around) (outer : List Env) (s : Shared) (H : Hp) (E : XK), Room k (A.deeper (envOfC x (defScope (c.top n)) s.heap.objs.size f cdv)) → CxR (cxOf (L2.CX P w) P w R.K R.mg base N x (defScope (c.top n)) f cdv A outer s H E) R E →
      DSs (cxOf (L2.CX P w) P w R.K R.mg base N x (defScope (c.top n)) f cdv A outer s H E) R E (defBody (c.top n)) u) : FnD P w base R x (k + 1) ps (c.top n) (bodyF u N.length) := by
  obtain ⟨f, fd, hm, Fu⟩ := V.fns i x n hi
  exact fnD_of V.B Fu hm S hk (Fu.binds hb) (fun S H m ds E Q hr hl h => h) (h f)
/-- .. with own lists -/
theorem Ev.defT (V : Ev c P w base R) {x : Str} {n : Nat} (i : Nat) (hi : c.fns[i]? = some (x, n)) {N ps : List Str} {k : Nat} {u : FS} (S : FnScope N ps (defScope (c.top n))) (hk : 40 ≤ k)
    (hb : ∀ (kV doc pm : Value) (an : Option Addr) (cdv ct : Value) (us : List Value), us.length = ps.length → bindArgs (PySem.W.fnOf x x (defArgs (c.top n)) (defBody (c.top n)) (defScope (c.top n)) .none kV doc pm an cdv ct) ⟨us, []⟩ = pure (ps.zip us))
    (h : ∀ (f : Addr) (cdv : Value) (A : Around) (outer : List Env) (s : Shared) (H : Hp) (E : XK), Room k (A.deeper (envOfC x (defScope (c.top n)) s.heap.objs.size f cdv)) → CxR (cxOf (L2.CX P w) P w R.K R.mg base N x (defScope (c.top n)) f cdv A outer s H E) R E →
      DSs (cxOf (L2.CX P w) P w R.K R.mg base N x (defScope (c.top n)) f cdv A outer s H E) R E (defBody (c.top n)) u) : FnD P w base R x (k + 1) ps (c.top n) (bodyT u N.length) := by
  obtain ⟨f, fd, hm, Fu⟩ := V.fns i x n hi
  exact fnD_of V.B Fu hm S hk (Fu.binds hb) (fun S H m ds E Q hr hl h => trunc_out hr h) (h f)
/-- .. that makes lambdas -/
theorem Ev.defC (V : Ev c P w base R) {x : Str} {n : Nat} (i : Nat) (hi : c.fns[i]? = some (x, n)) (iq : Nat) (hq : c.lamq[iq]? = some x) {lams : List Lam} {N ps : List Str} {k : Nat} {u : FS} (h0 : ∀ i f c, R.clo i f c = none) (S : FnScope N ps (defScope (c.top n))) (hk : 40 ≤ k)
    (hb : ∀ (kV doc pm : Value) (an : Option Addr) (cdv ct : Value) (us : List Value), us.length = ps.length → bindArgs (PySem.W.fnOf x x (defArgs (c.top n)) (defBody (c.top n)) (defScope (c.top n)) .none kV doc pm an cdv ct) ⟨us, []⟩ = pure (ps.zip us))
    (h : ∀ (R' : RC) (f cd Pt : Addr) (A : Around) (outer : List Env) (s : Shared) (H : Hp) (E : XK), Ev c P w base R' → R'.K = R.K → R'.mg = R.mg → TabB base R.mg cd Pt → (Pt, (cxOf (L2.CX P w) P w R.K R.mg base N x (defScope (c.top n)) f (.ref cd) A outer s H E).env.qual ++ "<lambda>") ∈ R'.T → (∀ p ∈ R'.T, p.1 = Pt → p.2 = (cxOf (L2.CX P w) P w R.K R.mg base N x (defScope (c.top n)) f (.ref cd) A outer s H E).env.qual ++ "<lambda>") →
      Room k (A.deeper (envOfC x (defScope (c.top n)) s.heap.objs.size f (.ref cd))) → CxR (cxOf (L2.CX P w) P w R.K R.mg base N x (defScope (c.top n)) f (.ref cd) A outer s H E) R' E → CloR (cxOf (L2.CX P w) P w R.K R.mg base N x (defScope (c.top n)) f (.ref cd) A outer s H E) R' lams →
      DSs (cxOf (L2.CX P w) P w R.K R.mg base N x (defScope (c.top n)) f (.ref cd) A outer s H E) R' E (defBody (c.top n)) u) : FnD P w base R x (k + 1) ps (c.top n) (bodyN u N.length) := by
  obtain ⟨f, fd, hm, Fu⟩ := V.fns i x n hi
  obtain ⟨cd, Pt, e1, TB, e2, e3⟩ := V.lams iq x n f fd hq ⟨i, hi⟩ hm Fu
  exact fnD_ofC (lams := lams) V.B h0 Fu e1 hm S hk (Fu.binds hb) (fun R S H m ds E Q hr hl h => trunc_out hr h) fun R' A outer s H E e B' hr cx C => by
    subst e
    exact h _ f cd Pt A outer s H E (V.wth B'.ok) rfl rfl TB e2 e3 hr cx C
end
section
variable {c : Cfg} {X : Cx} {R : RC} {E : XK}
/-- raise of a class without own __init__ -/
theorem Ev.raise (V : Ev c X.prog X.w X.base R) {x : Str} (i : Nat) (hi : c.excs[i]? = some x) {e : Expr} {f : FE} {p pos pos2 : Pos} (cx : CxR X R E) (hg : Gl X x) (he : DE X R E e f) (hs : starEach [e] X.env = (false, eval e X.env) :: starEach [] X.env := by rfl) (hdb : (x == ("__debug__" : Str)) = false := by decide) :
    DS X R E (.Raise (some (.Call (.Name x p) [e] [] pos)) none pos2) (sRaise x f) := by
  obtain ⟨C, T⟩ := V.excs i x hi
  exact ds_raise cx PySem.F.excBase_ValueError T.ex T.mg T.kC T.sub T.ty hg he hs hdb
theorem Ev.raiseF (V : Ev c X.prog X.w X.base R) {x pn fld : Str} (i : Nat) (hi : c.exis[i]? = some (x, pn, fld)) {k : Nat} {e : Expr} {f : FE} {p pos pos2 : Pos} (cx : CxR X R E) (hr : Room k X.A) (hk : 2 ≤ k) (hg : Gl X x) (he : DE X R E e f) (hs : starEach [e] X.env = (false, eval e X.env) :: starEach [] X.env := by rfl) (hdb : (x == ("__debug__" : Str)) = false := by decide) :
    DS X R E (.Raise (some (.Call (.Name x p) [e] [] pos)) none pos2) (sRaiseF x fld f) := by
  obtain ⟨C, fI, cc, cda, fd, T⟩ := V.exis i x pn fld hi
  obtain ⟨j, rfl⟩ : ∃ j, k = j + 2 := ⟨k - 2, by omega⟩
  exact ds_raiseF cx T.si T.iC T.tI T.hb hr T.mg hg he hs hdb
end
end TL
namespace TL
open PySem PySem.Spec PyProof.Rows L2
open LamX (Tabs CodeO TabB LamS lamEnv lamCx)
/-! ### the lambdas of a def, by their places -/
def kidsE : Expr → List Expr
  | .BoolOp _ vs _ => vs
  | .BinOp l _ r _ => [l, r]
  | .UnaryOp _ x _ => [x]
  | .Lambda _ b _ _ => [b]
  | .IfExp t b o _ => [t, b, o]
  | .ListComp e gs _ _ => e :: gs.map (·.iter)
  | .Compare l _ cs _ => l :: cs
  | .Call f as ks _ => f :: as ++ ks.map (·.value)
  | .Attribute v _ _ => [v]
  | .Subscript v s _ => [v, s]
  | .List es _ => es
  | .Tuple es _ _ => es
  | _ => []
def kidsS : Stmt → List Stmt
  | .FunctionDef _ _ b _ _ _ _ _ _ _ => b
  | .For _ _ b o _ => b ++ o
  | .While _ b o _ => b ++ o
  | .If _ b o _ => b ++ o
  | _ => []
def exprS : Stmt → Expr
  | .Return (some e) _ => e
  | .Assign _ e _ => e
  | .Expr e _ => e
  | .For _ i _ _ _ => i
  | .While t _ _ _ => t
  | .If t _ _ _ => t
  | _ => .Constant .none 0 ⟨0, 0, 0, 0⟩
def lamOf : Expr → Lam
  | .Lambda a b s _ => ⟨a, b, s⟩
  | _ => ⟨{ posonlyargs := [], args := [], vararg := none, kwonlyargs := [], kw_defaults := [], kwarg := none, defaults := [] }, .Constant .none 0 ⟨0, 0, 0, 0⟩, { kind := .function, names := [], isGenerator := false, isCoroutine := false }⟩
def goS (s : Stmt) : List Nat → Stmt
  | [] => s
  | i :: r => goS ((kidsS s).getD i s) r
def goE (e : Expr) : List Nat → Expr
  | [] => e
  | i :: r => goE ((kidsE e).getD i e) r
/-- the lambda at a place -/
abbrev lamAt (st : Stmt) (p q : List Nat) : Lam := lamOf (goE (exprS (goS st p)) q)
/-- the bodies of a def's lambdas -/
abbrev LamOk (X : Cx) (R : RC) (j : Nat) (lams : List Lam) (bs : List FE) : Prop := ∀ (i : Nat) (l : Lam) (fb : FE), lams[i]? = some l → bs[i]? = some fb → LamS X.env.scope l.scope ∧ (∀ (q : Str) (cl : List (Str × Addr)) (pm cv ctv : Value), bindArgs (PySem.W.kla_fn "<lambda>" q l.ps l.body l.scope cl pm cv ctv) ⟨[], []⟩ = pure []) ∧
  ∀ (A : Around) (outer : List Env) (s : Shared) (H : Hp) (E' : XK) (f c' : Addr), Room j (A.deeper (lamEnv X l.scope s.heap.objs.size f c')) → CxR (lamCx X A outer s H E' l.scope f c') R E' → DE (lamCx X A outer s H E' l.scope f c') R E' l.body fb
end TL
end
section
/-! The data layer: what the data functions give (no program in sight). -/
namespace TL
open PySem PySem.Spec PyProof.Rows L2
/-- the outcome is a value with P -/
def wp {α : Type} (x : Res α) (P : α → MS → Prop) : Prop := match x with | .ok a m => P a m | _ => False
section
variable {α β : Type} {P : α → MS → Prop} {m : MS} {ρ : Env'}
@[simp] theorem wp_ok {a : α} : wp (.ok a m) P ↔ P a m := Iff.rfl
@[simp] theorem wp_stuck : wp (.stuck : Res α) P ↔ False := Iff.rfl
theorem wp_elim {x : Res α} (h : wp x P) : ∃ a m', x = .ok a m' ∧ P a m' := by
  cases x with
  | ok a m' => exact ⟨a, m', rfl, h⟩
  | _ => exact h.elim
theorem wp_eq {x : Res α} {a : α} {m' : MS} (e : x = .ok a m') (h : P a m') : wp x P := by rw [e]; exact h
theorem wp_mono {x : Res α} {Q : α → MS → Prop} (h : wp x P) (k : ∀ a m', P a m' → Q a m') : wp x Q := by
  cases x with
  | ok a m' => exact k _ _ h
  | _ => exact h.elim
@[simp] theorem wp_bind {x : M β} {k : β → M α} : wp (M.bind x k m) P ↔ wp (x m) fun b m' => wp (k b m') P := by
  unfold M.bind
  cases x m <;> exact Iff.rfl
@[simp] theorem wp_ite {c : Prop} [Decidable c] {x y : Res α} : wp (if c then x else y) P ↔ (if c then wp x P else wp y P) := by
  split <;> exact Iff.rfl
/-! expressions -/
variable {PD : D → MS → Prop} {PB' : Bool → MS → Prop} {PA' : List D → MS → Prop} {PF' : Fl → MS → Prop}
@[simp] theorem wp_var {i : Nat} : wp (dVar i ρ m) PD ↔ (match look ρ i with | some d => PD d m | none => False) := by
  unfold dVar
  cases look ρ i <;> exact Iff.rfl
@[simp] theorem wp_c {d : D} : wp (dC d ρ m) PD ↔ PD d m := Iff.rfl
@[simp] theorem wp_bin {g : D → D → M D} {fa fb : FE} : wp (dBin g fa fb ρ m) PD ↔ wp (fa ρ m) fun a m1 => wp (fb ρ m1) fun b m2 => wp (g a b m2) PD := by
  unfold dBin
  simp only [wp_bind]
@[simp] theorem wp_toB {f : FE} : wp (toB f ρ m) PB' ↔ wp (f ρ m) fun d m' => match d with | .bl k => PB' k m' | _ => False := by
  unfold toB
  simp only [wp_bind]
  constructor
  · exact fun h => wp_mono h fun a m' k => by cases a <;> first | exact k | exact k.elim
  · exact fun h => wp_mono h fun a m' k => by cases a <;> first | exact k | exact k.elim
@[simp] theorem wp_bAnd {f g : FB} : wp (bAnd f g ρ m) PB' ↔ wp (f ρ m) fun k m' => if k then wp (g ρ m') PB' else PB' false m' := by
  unfold bAnd
  simp only [wp_bind]
  constructor <;> exact fun h => wp_mono h fun k m' q => by cases k <;> exact q
@[simp] theorem wp_bOr {f g : FB} : wp (bOr f g ρ m) PB' ↔ wp (f ρ m) fun k m' => if k then PB' true m' else wp (g ρ m') PB' := by
  unfold bOr
  simp only [wp_bind]
  constructor <;> exact fun h => wp_mono h fun k m' q => by cases k <;> exact q
@[simp] theorem wp_bNot {f : FB} : wp (bNot f ρ m) PB' ↔ wp (f ρ m) fun k m' => PB' (!k) m' := by
  unfold bNot
  simp only [wp_bind, wp_ok]
@[simp] theorem wp_bIf {g f h : FB} : wp (bIf g f h ρ m) PB' ↔ wp (g ρ m) fun k m' => if k then wp (f ρ m') PB' else wp (h ρ m') PB' := by
  unfold bIf
  simp only [wp_bind]
  constructor <;> exact fun h => wp_mono h fun k m' q => by cases k <;> exact q
@[simp] theorem wp_bYes : wp (bYes ρ m) PB' ↔ PB' true m := Iff.rfl
@[simp] theorem wp_dAnd {f g : FE} : wp (dAnd f g ρ m) PD ↔ wp (toB f ρ m) fun k m' => if k then wp (g ρ m') PD else PD (.bl false) m' := by
  unfold dAnd
  rw [wp_bind]
  constructor <;> exact fun h => wp_mono h fun k m' q => by cases k <;> exact q
@[simp] theorem wp_dOr {f g : FE} : wp (dOr f g ρ m) PD ↔ wp (toB f ρ m) fun k m' => if k then PD (.bl true) m' else wp (g ρ m') PD := by
  unfold dOr
  rw [wp_bind]
  constructor <;> exact fun h => wp_mono h fun k m' q => by cases k <;> exact q
@[simp] theorem wp_dNot {f : FE} : wp (dNot f ρ m) PD ↔ wp (toB f ρ m) fun k m' => PD (.bl (!k)) m' := by
  unfold dNot
  simp only [wp_bind, wp_ok]
@[simp] theorem wp_dIf {g : FB} {f h : FE} : wp (dIf g f h ρ m) PD ↔ wp (g ρ m) fun k m' => if k then wp (f ρ m') PD else wp (h ρ m') PD := by
  unfold dIf
  simp only [wp_bind]
  constructor <;> exact fun h => wp_mono h fun k m' q => by cases k <;> exact q
@[simp] theorem wp_dNeg {f : FE} : wp (dNeg f ρ m) PD ↔ wp (f ρ m) fun d m' => wp (negD d m') PD := by
  unfold dNeg
  simp only [wp_bind]
@[simp] theorem wp_negD {i : Int} : wp (negD (.int i) m) PD ↔ PD (.int (-i)) m := Iff.rfl
@[simp] theorem wp_chain {g g' : D → D → M D} {fa fb fc : FE} : wp (dChain g g' fa fb fc ρ m) PD ↔ wp (fa ρ m) fun a m1 => wp (fb ρ m1) fun b m2 => wp (g a b m2) fun z m3 => match z with
    | .bl k => if k then wp (fc ρ m3) fun c m4 => wp (g' b c m4) PD else PD (.bl false) m3
    | _ => False := by
  unfold dChain
  simp only [wp_bind]
  constructor
  · exact fun h => wp_mono h fun a m1 h => wp_mono h fun b m2 h => wp_mono h fun z m3 h => by
      cases z with
      | bl k => cases k <;> simpa [asB] using h
      | _ => exact h.elim
  · exact fun h => wp_mono h fun a m1 h => wp_mono h fun b m2 h => wp_mono h fun z m3 h => by
      cases z with
      | bl k => cases k <;> simpa [asB] using h
      | _ => exact h.elim
@[simp] theorem wp_aNil : wp (aNil ρ m) PA' ↔ PA' [] m := Iff.rfl
@[simp] theorem wp_aCons {f : FE} {g : FA} : wp (aCons f g ρ m) PA' ↔ wp (f ρ m) fun d m1 => wp (g ρ m1) fun ds m2 => PA' (d :: ds) m2 := by
  unfold aCons
  simp only [wp_bind, wp_ok]
@[simp] theorem wp_dTup {g : FA} : wp (dTup g ρ m) PD ↔ wp (g ρ m) fun ds m' => wp (newT ds m') PD := by
  unfold dTup
  simp only [wp_bind]
@[simp] theorem wp_dLst {fr : Bool} {g : FA} : wp (dLst fr g ρ m) PD ↔ wp (g ρ m) fun ds m' => wp (newL fr ds m') PD := by
  unfold dLst
  simp only [wp_bind]
@[simp] theorem wp_newT {ds : List D} : wp (newT ds m) PD ↔ (ds.length ≤ 1000000 ∧ PD (.tup ds) m) := by
  unfold newT short
  simp
@[simp] theorem wp_newLf {ds : List D} : wp (newL false ds m) PD ↔ (ds.length ≤ 1000000 ∧ PD (.lst ds) m) := by
  unfold newL short
  simp
@[simp] theorem wp_newLt {ds : List D} : wp (newL true ds m) PD ↔ (ds.length ≤ 1000000 ∧ PD (.ref m.objs.length) { m with objs := m.objs ++ [.lst ds] }) := by
  unfold newL short
  simp
@[simp] theorem wp_callB {g : List D → M D} {fa : FA} : wp (dCallB g fa ρ m) PD ↔ wp (fa ρ m) fun ds m' => wp (g ds m') PD := by
  unfold dCallB
  simp only [wp_bind]
@[simp] theorem wp_call {F : List D → M D} {g : FA} : wp (dCall F g ρ m) PD ↔ wp (g ρ m) fun ds m' => wp (F ds m') PD := by
  unfold dCall
  simp only [wp_bind]
@[simp] theorem wp_lenF {n : Nat} {F : List D → M D} {ds : List D} (h : ds.length = n) : wp (lenF n F ds m) PD ↔ wp (F ds m) PD := by
  unfold lenF
  rw [if_pos h]
@[simp] theorem wp_permF {ix : List Nat} {F : List D → M D} {ds : List D} (h : ds.length = ix.length) : wp (permD ix F ds m) PD ↔ wp (F (permV ix ds) m) PD := by
  unfold permD
  rw [if_pos h]
@[simp] theorem wp_dMeth {T : String} {g : D → List D → M D} {fo : FE} {ga : FA} : wp (dMeth T g fo ga ρ m) PD ↔ wp (fo ρ m) fun o m1 => wp (chk T o m1) fun _ m2 => wp (ga ρ m2) fun ds m3 => wp (g o ds m3) PD := by
  unfold dMeth
  simp only [wp_bind]
@[simp] theorem wp_arg1 {g : D → M D} {d : D} : wp (arg1 g [d] m) PD ↔ wp (g d m) PD := Iff.rfl
@[simp] theorem wp_arg2 {g : D → D → M D} {d e : D} : wp (arg2 g [d, e] m) PD ↔ wp (g d e m) PD := Iff.rfl
@[simp] theorem wp_intI {f : Int → Int → Int} {c : Int → Int → Bool} {i j : Int} : wp (intI f c (.int i) (.int j) m) PD ↔ (c i j = true ∧ PD (.int (f i j)) m) := by
  unfold intI
  simp
@[simp] theorem wp_intB {f : Int → Int → Bool} {i j : Int} : wp (intB f (.int i) (.int j) m) PD ↔ PD (.bl (f i j)) m := Iff.rfl
@[simp] theorem wp_add {fr : Bool} {i j : Int} : wp (addD fr (.int i) (.int j) m) PD ↔ PD (.int (i + j)) m := Iff.rfl
@[simp] theorem wp_mul {fr : Bool} {i j : Int} : wp (mulD fr (.int i) (.int j) m) PD ↔ (mulOk i j = true ∧ PD (.int (i * j)) m) := by
  unfold mulD
  simp
@[simp] theorem always_eq {i j : Int} : always i j = true := rfl
/-! statements -/
@[simp] theorem wp_sNext : wp (sNext ρ m) PF' ↔ PF' (.next ρ) m := Iff.rfl
@[simp] theorem wp_seq {u v : FS} : wp (sSeq u v ρ m) PF' ↔ wp (u ρ m) fun fl m' => match fl with | .next ρ' => wp (v ρ' m') PF' | fl => PF' fl m' := by
  unfold sSeq
  simp only [wp_bind]
  constructor <;> exact fun h => wp_mono h fun fl m' q => by cases fl <;> exact q
@[simp] theorem wp_sRet {f : FE} : wp (sRet f ρ m) PF' ↔ wp (f ρ m) fun d m' => PF' (.ret d) m' := by
  unfold sRet
  simp only [wp_bind, wp_ok]
@[simp] theorem wp_sRetN : wp (sRetN ρ m) PF' ↔ PF' (.ret .non) m := Iff.rfl
@[simp] theorem wp_sExpr {f : FE} : wp (sExpr f ρ m) PF' ↔ wp (f ρ m) fun _ m' => PF' (.next ρ) m' := by
  unfold sExpr
  simp only [wp_bind, wp_ok]
@[simp] theorem wp_sIf {g : FB} {u v : FS} : wp (sIf g u v ρ m) PF' ↔ wp (g ρ m) fun k m' => if k then wp (u ρ m') PF' else wp (v ρ m') PF' := by
  unfold sIf
  simp only [wp_bind]
  constructor <;> exact fun h => wp_mono h fun k m' q => by cases k <;> exact q
@[simp] theorem wp_sAsg {f : FE} {g : FG} : wp (sAsg f g ρ m) PF' ↔ wp (f ρ m) fun d m1 => wp (g d ρ m1) fun ρ' m2 => PF' (.next ρ') m2 := by
  unfold sAsg
  simp only [wp_bind, wp_ok]
@[simp] theorem wp_gN {i : Nat} {d : D} {PE' : Env' → MS → Prop} : wp (gN i d ρ m) PE' ↔ PE' (ρ.set i (some d)) m := Iff.rfl
@[simp] theorem wp_par2 {i j : Nat} {g : FA} : wp (sPar2 i j g ρ m) PF' ↔ wp (g ρ m) fun ds m' => match ds with | [d, d'] => PF' (.next ((ρ.set i (some d)).set j (some d'))) m' | _ => False := by
  unfold sPar2
  simp only [wp_bind]
  constructor
  · exact fun h => wp_mono h fun ds m' q => by
      split at q
      · exact q
      · exact q.elim
  · exact fun h => wp_mono h fun ds m' q => by
      split at q
      · exact q
      · exact q.elim
/-- a def's body -/
theorem wp_bodyF {u : FS} {n : Nat} {ds : List D} (h : wp (u (startD n ds) m) fun fl m' => match fl with | .ret d => PD d m' | .next _ => PD .non m' | _ => False) : wp (bodyF u n ds m) PD := by
  unfold bodyF
  rw [wp_bind]
  exact wp_mono h fun fl m' q => by cases fl <;> exact q
@[simp] theorem wp_bodyF' {u : FS} {n : Nat} {ds : List D} : wp (bodyF u n ds m) PD ↔ wp (u (startD n ds) m) fun fl m' => match fl with | .ret d => PD d m' | .next _ => PD .non m' | _ => False := by
  unfold bodyF
  rw [wp_bind]
  constructor <;> exact fun h => wp_mono h fun fl m' q => by cases fl <;> exact q

/-! loops -/
theorem wp_lcW {ok : MS → Prop} {g : FG} {tt : FB} {te : FE} (I : List D → List D → MS → Prop) {PL : List D → MS → Prop}
    (step : ∀ d ds acc m, I (d :: ds) acc m → ok m ∧ wp (g d ρ m) fun ρ1 m1 => wp (tt ρ1 m1) fun k m2 => if k then wp (te ρ1 m2) fun y m3 => I ds (acc ++ [y]) m3 else I ds acc m2)
    (done : ∀ acc m, I [] acc m → ok m ∧ PL acc m) : ∀ (items acc : List D) (m : MS), I items acc m → wp (lcW ok g tt te ρ items m) fun ys m' => PL (acc ++ ys) m'
  | [], acc, m, h => by
    obtain ⟨h1, h2⟩ := done acc m h
    unfold lcW
    rw [if_pos h1]
    simpa using h2
  | d :: ds, acc, m, h => by
    obtain ⟨h1, h2⟩ := step d ds acc m h
    unfold lcW
    rw [if_pos h1]
    rw [wp_bind]
    refine wp_mono h2 fun ρ1 m1 h3 => ?_
    rw [wp_bind]
    refine wp_mono h3 fun k m2 h4 => ?_
    cases k with
    | false => exact wp_lcW I step done ds acc m2 h4
    | true =>
      rw [if_pos rfl] at h4 ⊢
      rw [wp_bind]
      refine wp_mono h4 fun y m3 h5 => ?_
      rw [wp_bind]
      refine wp_mono (wp_lcW I step done ds (acc ++ [y]) m3 h5) fun ys m4 h6 => ?_
      simpa using h6
theorem wp_lcW_all {ok : MS → Prop} {g : FG} {tt : FB} {te : FE} (I : List D → List D → MS → Prop) {PL : List D → MS → Prop} {items : List D} (h0 : I items [] m)
    (step : ∀ d ds acc m, I (d :: ds) acc m → ok m ∧ wp (g d ρ m) fun ρ1 m1 => wp (tt ρ1 m1) fun k m2 => if k then wp (te ρ1 m2) fun y m3 => I ds (acc ++ [y]) m3 else I ds acc m2)
    (done : ∀ acc m, I [] acc m → ok m ∧ PL acc m) : wp (lcW ok g tt te ρ items m) PL := by
  simpa using wp_lcW I step done items [] m h0
/-- nothing written; some left out -/
theorem wp_lcW_filter {ok : MS → Prop} {g : FG} {tt : FB} {te : FE} (p : D → Bool) (f : D → D) {PL : List D → MS → Prop} {items : List D} (hok : ok m)
    (step : ∀ d ∈ items, wp (g d ρ m) fun ρ1 m1 => m1 = m ∧ wp (tt ρ1 m) fun k m2 => k = p d ∧ m2 = m ∧ (p d = true → wp (te ρ1 m) fun y m3 => y = f d ∧ m3 = m)) (done : PL ((items.filter p).map f) m) : wp (lcW ok g tt te ρ items m) PL := by
  refine wp_lcW_all (fun ds acc m' => m' = m ∧ ∃ pre, items = pre ++ ds ∧ acc = (pre.filter p).map f) ⟨rfl, [], rfl, rfl⟩ ?_ ?_
  · rintro d ds acc m' ⟨rfl, pre, e, ea⟩
    refine ⟨hok, wp_mono (step d (by rw [e]; simp)) fun ρ1 m1 h => ?_⟩
    obtain ⟨rfl, h⟩ := h
    refine wp_mono h fun k m2 h => ?_
    obtain ⟨rfl, rfl, h⟩ := h
    cases hp : p d with
    | false =>
      rw [if_neg Bool.false_ne_true]
      exact ⟨rfl, pre ++ [d], by rw [e]; simp, by rw [ea]; simp [hp]⟩
    | true =>
      rw [if_pos rfl]
      refine wp_mono (h hp) fun y m3 h => ?_
      obtain ⟨rfl, rfl⟩ := h
      exact ⟨rfl, pre ++ [d], by rw [e]; simp, by rw [ea]; simp [hp]⟩
  · rintro acc m' ⟨rfl, pre, e, ea⟩
    rw [List.append_nil] at e
    subst e
    exact ⟨hok, by rw [ea]; exact done⟩
theorem wp_lcW_map {ok : MS → Prop} {g : FG} {te : FE} (f : D → D) {PL : List D → MS → Prop} {items : List D} (hok : ok m)
    (step : ∀ d ∈ items, wp (g d ρ m) fun ρ1 m1 => m1 = m ∧ wp (te ρ1 m) fun y m3 => y = f d ∧ m3 = m) (done : PL (items.map f) m) : wp (lcW ok g bYes te ρ items m) PL := by
  refine wp_lcW_filter (fun _ => true) f hok (fun d hd => wp_mono (step d hd) fun ρ1 m1 h => ⟨h.1, ?_⟩) (by rw [show items.filter (fun _ => true) = items from List.filter_eq_self.mpr fun _ _ => rfl]; exact done)
  simpa using h.2
@[simp] theorem wp_noX {x : Res α} : wp (noX x) P ↔ wp x P := by
  cases x <;> exact Iff.rfl
@[simp] theorem wp_dLc {fr : Bool} {vs : List Nat} {fi : Env' → M ItD} {g : FG} {tt : FB} {te : FE} : wp (dLc fr vs fi g tt te ρ m) PD ↔ wp (fi ρ m) fun it m1 => wp (lcW it.Ok g tt te (wipeD ρ vs) it.items m1) fun zs m2 => wp (newL fr zs m2) PD := by
  unfold dLc
  simp only [wp_bind, wp_noX]
theorem wp_forW {ok : MS → Prop} {g : FG} {body : FS} (I : List D → Env' → MS → Prop)
    (step : ∀ d ds ρ m, I (d :: ds) ρ m → ok m ∧ wp (g d ρ m) fun ρ1 m1 => wp (body ρ1 m1) fun fl m2 => match fl with | .next ρ2 => I ds ρ2 m2 | .cont ρ2 => I ds ρ2 m2 | .brk ρ2 => PF' (.next ρ2) m2 | .ret d => PF' (.ret d) m2)
    (done : ∀ ρ m, I [] ρ m → ok m ∧ PF' (.next ρ) m) : ∀ (items : List D) (ρ : Env') (m : MS), I items ρ m → wp (forW ok g body items ρ m) PF'
  | [], ρ, m, h => by
    obtain ⟨h1, h2⟩ := done ρ m h
    unfold forW
    rw [if_pos h1]
    exact h2
  | d :: ds, ρ, m, h => by
    obtain ⟨h1, h2⟩ := step d ds ρ m h
    unfold forW
    rw [if_pos h1]
    rw [wp_bind]
    refine wp_mono h2 fun ρ1 m1 h3 => ?_
    rw [wp_bind]
    refine wp_mono h3 fun fl m2 h4 => ?_
    cases fl with
    | next ρ2 => exact wp_forW I step done ds ρ2 m2 h4
    | cont ρ2 => exact wp_forW I step done ds ρ2 m2 h4
    | brk ρ2 => exact h4
    | ret d => exact h4
@[simp] theorem wp_sFor {fi : Env' → M ItD} {g : FG} {body : FS} : wp (sFor fi g body ρ m) PF' ↔ wp (fi ρ m) fun it m1 => wp (forW it.Ok g body it.items ρ m1) PF' := by
  unfold sFor
  simp only [wp_bind]
theorem loopW_wp {g : FB} {body : FS} (I : Nat → Env' → MS → Prop)
    (step : ∀ n ρ m, I n ρ m → wp (g ρ m) fun k m1 => if k then wp (body ρ m1) fun fl m2 => match fl with | .next ρ2 => ∃ n', n' < n ∧ I n' ρ2 m2 | .cont ρ2 => ∃ n', n' < n ∧ I n' ρ2 m2 | .brk ρ2 => PF' (.next ρ2) m2 | .ret d => PF' (.ret d) m2 else PF' (.next ρ) m1) :
    ∀ (b n : Nat) (ρ : Env') (m : MS), n < b → I n ρ m → wp (loopW g body b ρ m) PF'
  | 0, _, _, _, h, _ => absurd h (Nat.not_lt_zero _)
  | b + 1, n, ρ, m, hb, h => by
    unfold loopW
    rw [wp_bind]
    refine wp_mono (step n ρ m h) fun k m1 h1 => ?_
    cases k with
    | false => exact h1
    | true =>
      rw [if_pos rfl] at h1 ⊢
      rw [wp_bind]
      refine wp_mono h1 fun fl m2 h2 => ?_
      cases fl with
      | next ρ2 =>
        obtain ⟨n', l, q⟩ := h2
        exact loopW_wp I step b n' ρ2 m2 (by omega) q
      | cont ρ2 =>
        obtain ⟨n', l, q⟩ := h2
        exact loopW_wp I step b n' ρ2 m2 (by omega) q
      | brk ρ2 => exact h2
      | ret d => exact h2
theorem wp_while {g : FB} {body : FS} (I : Nat → Env' → MS → Prop) {n : Nat}
    (step : ∀ n ρ m, I n ρ m → wp (g ρ m) fun k m1 => if k then wp (body ρ m1) fun fl m2 => match fl with | .next ρ2 => ∃ n', n' < n ∧ I n' ρ2 m2 | .cont ρ2 => ∃ n', n' < n ∧ I n' ρ2 m2 | .brk ρ2 => PF' (.next ρ2) m2 | .ret d => PF' (.ret d) m2 else PF' (.next ρ) m1) (h : I n ρ m) :
    wp (sWhile g body ρ m) PF' := by
  have q := loopW_wp I step (n + 1) n ρ m (Nat.lt_succ_self n) h
  have e := sWhile_eq (g := g) (body := body) (ρ := ρ) (m := m) (n + 1) rfl (fun z => by rw [z] at q; exact q)
  rw [e]
  exact q
end
end TL
end
section
/-! The data layer: what the data functions give: the built-in parts. -/
namespace TL
open PySem PySem.Spec PyProof.Rows L2
section
variable {P : D → MS → Prop} {PI : ItD → MS → Prop} {PU : Unit → MS → Prop} {m : MS} {ρ : Env'}
@[simp] theorem wp_isiX_ty {sb : Str → Str → Option Bool} {d : D} {T : Tn} : wp (isiX sb d (.ty T) m) P ↔ (match tyN m d with | some t => P (.bl (isT t T)) m | none => False) := by
  rw [show isiX sb d (.ty T) = isiD d (.ty T) by cases d <;> rfl]
  unfold isiD
  dsimp only
  cases tyN m d <;> exact Iff.rfl
@[simp] theorem wp_isiX_tup {sb : Str → Str → Option Bool} {d : D} {cs : List D} : wp (isiX sb d (.tup cs) m) P ↔ (match tyN m d with | some t => (match isAny t cs with | some b => P (.bl b) m | none => False) | none => False) := by
  rw [show isiX sb d (.tup cs) = isiD d (.tup cs) by cases d <;> rfl]
  unfold isiD
  dsimp only
  cases tyN m d with
  | none => exact Iff.rfl
  | some t =>
    dsimp only
    cases isAny t cs <;> exact Iff.rfl
@[simp] theorem wp_isiX_exn {sb : Str → Str → Option Bool} {k k' : Str} {fs : List (Str × D)} : wp (isiX sb (.exn k fs) (.fn k') m) P ↔ (match sb k k' with | some b => P (.bl b) m | none => False) := by
  show wp (match sb k k' with | some b => Res.ok (D.bl b) m | none => .stuck) P ↔ _
  cases sb k k' <;> exact Iff.rfl
@[simp] theorem wp_fldX {ok : Str → Bool} {n c g : Str} {v : D} : wp (fldX ok n (.exn c [(g, v)]) m) P ↔ (g = n ∧ ok c = true) ∧ P v m := by
  show wp ((if g = n ∧ ok c = true then M.pure v else fun _ => .stuck) m) P ↔ _
  split
  · rename_i h
    exact ⟨fun q => ⟨h, q⟩, fun q => q.2⟩
  · rename_i h
    exact ⟨fun q => q.elim, fun q => (h q.1).elim⟩
@[simp] theorem wp_dFld {ok : Str → Bool} {n : Str} {f : FE} : wp (dFld ok n f ρ m) P ↔ wp (f ρ m) fun d m' => wp (fldX ok n d m') P := by
  unfold dFld
  simp only [wp_bind]
@[simp] theorem wp_len_tup {xs : List D} : wp (lenD (.tup xs) m) P ↔ P (.int xs.length) m := Iff.rfl
@[simp] theorem wp_len_lst {xs : List D} : wp (lenD (.lst xs) m) P ↔ P (.int xs.length) m := Iff.rfl
@[simp] theorem wp_len_scr {xs : List Int} : wp (lenD (.scr xs) m) P ↔ P (.int xs.length) m := by
  show wp (Res.ok (D.int (xs.map D.int).length) m) P ↔ _
  rw [List.length_map]
  exact Iff.rfl
@[simp] theorem wp_len_str {s : Str} : wp (lenD (.str s) m) P ↔ (s.length ≤ 1000000 ∧ P (.int s.length) m) := by
  unfold lenD
  simp
@[simp] theorem wp_len_ref {n : Nat} : wp (lenD (.ref n) m) P ↔ (match m.objs[n]? with | some (.lst xs) => P (.int xs.length) m | _ => False) := by
  show wp (match seqD m (.ref n) with | some xs => Res.ok (D.int xs.length) m | none => .stuck) P ↔ _
  rw [show seqD m (.ref n) = (match m.objs[n]? with | some (.lst xs) => some xs | _ => none) from rfl]
  generalize m.objs[n]? = o
  cases o with
  | none => exact Iff.rfl
  | some o => cases o <;> exact Iff.rfl
@[simp] theorem wp_eq_int {neg : Bool} {i j : Int} : wp (eqD neg (.int i) (.int j) m) P ↔ P (.bl (if neg then !decide (i = j) else decide (i = j))) m := by
  show wp (if okD 64 (.int i) && okD 64 (.int j) then Res.ok (.bl (if neg then !(i == j) else (i == j))) m else .stuck) P ↔ _
  rw [show okD 64 (.int i) = true from rfl, show okD 64 (.int j) = true from rfl]
  rfl
/-- == in general -/
theorem wp_eq_gen {neg : Bool} {a b : D} (h1 : okD 64 (flatR m a) = true) (h2 : okD 64 (flatR m b) = true) : wp (eqD neg a b m) P ↔ P (.bl (if neg then !eqvD (flatR m a) (flatR m b) else eqvD (flatR m a) (flatR m b))) m := by
  unfold eqD
  rw [h1, h2]
  exact Iff.rfl
@[simp] theorem wp_is_non {neg : Bool} {a : D} : wp (isD neg a .non m) P ↔ P (.bl (match a with | .non => !neg | _ => neg)) m := Iff.rfl
@[simp] theorem wp_is_bl {neg : Bool} {j k : Bool} : wp (isD neg (.bl j) (.bl k) m) P ↔ P (.bl (if neg then !decide (j = k) else decide (j = k))) m := Iff.rfl
@[simp] theorem wp_ix_tup {xs : List D} {i : Int} : wp (ixD (.tup xs) (.int i) m) P ↔ (match atI xs i with | some d => P d m | none => False) := by
  show wp (match atI xs i with | some d => Res.ok d m | none => .stuck) P ↔ _
  cases atI xs i <;> exact Iff.rfl
@[simp] theorem wp_ix_lst {xs : List D} {i : Int} : wp (ixD (.lst xs) (.int i) m) P ↔ (match atI xs i with | some d => P d m | none => False) := by
  show wp (match atI xs i with | some d => Res.ok d m | none => .stuck) P ↔ _
  cases atI xs i <;> exact Iff.rfl
@[simp] theorem wp_tuple_tup {xs : List D} : wp (tupleD (.tup xs) m) P ↔ P (.tup xs) m := Iff.rfl
@[simp] theorem wp_tuple_lst {xs : List D} : wp (tupleD (.lst xs) m) P ↔ (xs.length ≤ 1000000 ∧ P (.tup xs) m) := wp_newT
@[simp] theorem wp_list_tup {fr : Bool} {xs : List D} : wp (listD fr (.tup xs) m) P ↔ wp (newL fr xs m) P := Iff.rfl
@[simp] theorem wp_list_lst {fr : Bool} {xs : List D} : wp (listD fr (.lst xs) m) P ↔ wp (newL fr xs m) P := Iff.rfl
@[simp] theorem wp_list_str {fr : Bool} {z : Str} : wp (listD fr (.str z) m) P ↔ wp (newL fr (z.cps.toList.map fun c => D.str ⟨#[c]⟩) m) P := Iff.rfl
@[simp] theorem wp_abs {i : Int} : wp (absD (.int i) m) P ↔ P (.int (if i < 0 then -i else i)) m := Iff.rfl
@[simp] theorem wp_int {i : Int} : wp (intD (.int i) m) P ↔ P (.int i) m := Iff.rfl
@[simp] theorem wp_min2 {i j : Int} : wp (min2D (.int i) (.int j) m) P ↔ P (.int (if j < i then j else i)) m := Iff.rfl
@[simp] theorem wp_max2 {i j : Int} : wp (max2D (.int i) (.int j) m) P ↔ P (.int (if j > i then j else i)) m := Iff.rfl
@[simp] theorem wp_gcd {i j : Int} : wp (gcdD (.int i) (.int j) m) P ↔ P (.int ((Nat.gcd i.natAbs j.natAbs : Nat) : Int)) m := Iff.rfl
@[simp] theorem wp_all {xs : List D} : wp (allD (.lst xs) m) P ↔ (match allB xs with | some bs => P (.bl (bs.all _root_.id)) m | none => False) := by
  show wp (match allB xs with | some bs => Res.ok (.bl (bs.all _root_.id)) m | none => .stuck) P ↔ _
  cases allB xs <;> exact Iff.rfl
theorem allB_map {α : Type} (f : α → Bool) : ∀ xs : List α, allB (xs.map fun x => D.bl (f x)) = some (xs.map f)
  | [] => rfl
  | x :: xs => by
    show (allB (xs.map fun x => D.bl (f x))).map (f x :: ·) = _
    rw [allB_map f xs]
    rfl
@[simp] theorem wp_all_map {α : Type} {f : α → Bool} {xs : List α} : wp (allD (.lst (xs.map fun x => D.bl (f x))) m) P ↔ P (.bl (xs.all f)) m := by
  rw [wp_all, allB_map]
  dsimp only
  rw [List.all_map]
  rfl
@[simp] theorem wp_any {xs : List D} : wp (anyD (.lst xs) m) P ↔ (match allB xs with | some bs => P (.bl (bs.any _root_.id)) m | none => False) := by
  show wp (match allB xs with | some bs => Res.ok (.bl (bs.any _root_.id)) m | none => .stuck) P ↔ _
  cases allB xs <;> exact Iff.rfl
/-! iterables -/
@[simp] theorem wp_iSeq {f : FE} : wp (iSeq f ρ m) PI ↔ wp (f ρ m) fun d m' => match d with
  | .str s => s.length ≤ 1000000 ∧ PI ⟨s.cps.toList.map (fun c => .str ⟨#[c]⟩), []⟩ m'
  | d => (match seqD m' d with | some xs => PI ⟨xs, gsD m' d⟩ m' | none => False) := by
  unfold iSeq
  rw [wp_bind]
  constructor
  · exact fun h => wp_mono h fun d m' q => by
      cases d with
      | str s => simpa using q
      | _ =>
        dsimp only at q ⊢
        revert q
        generalize seqD m' _ = o
        cases o <;> exact fun z => z
  · exact fun h => wp_mono h fun d m' q => by
      cases d with
      | str s => simpa using q
      | _ =>
        dsimp only at q ⊢
        revert q
        generalize seqD m' _ = o
        cases o <;> exact fun z => z
@[simp] theorem wp_iRange1 {g : FA} : wp (iRange1 g ρ m) PI ↔ wp (g ρ m) fun ds m' => match ds with | [.int j] => (-(2 ^ 62) ≤ j ∧ j < 2 ^ 62) ∧ PI ⟨rng 0 j.toNat, []⟩ m' | _ => False := by
  unfold iRange1
  rw [wp_bind]
  constructor
  · exact fun h => wp_mono h fun ds m' q => by
      split at q
      · split at q
        · rename_i hh
          exact ⟨hh, q⟩
        · exact q.elim
      · exact q.elim
  · exact fun h => wp_mono h fun ds m' q => by
      split at q
      · (try dsimp only)
        rw [if_pos q.1]
        exact q.2
      · exact q.elim
@[simp] theorem wp_iZip2 {g : FA} : wp (iZip2 g ρ m) PI ↔ wp (g ρ m) fun ds m' => match ds with | [d, d'] => (match seqD m' d, seqD m' d' with | some xs, some ys => PI ⟨zipG xs ys, gsD m' d ++ gsD m' d'⟩ m' | _, _ => False) | _ => False := by
  unfold iZip2
  rw [wp_bind]
  constructor <;> exact fun h => wp_mono h fun ds m' q => by
    rcases ds with _ | ⟨d, _ | ⟨d', _ | _⟩⟩
    · exact q.elim
    · exact q.elim
    · revert q
      dsimp only
      cases seqD m' d <;> cases seqD m' d' <;> exact fun z => z
    · exact q.elim
@[simp] theorem wp_iEnum {g : FA} : wp (iEnum g ρ m) PI ↔ wp (g ρ m) fun ds m' => match ds with | [d] => (match seqD m' d with | some xs => PI ⟨enumG 0 xs, gsD m' d⟩ m' | none => False) | _ => False := by
  unfold iEnum
  rw [wp_bind]
  constructor <;> exact fun h => wp_mono h fun ds m' q => by
    rcases ds with _ | ⟨d, _ | _⟩
    · exact q.elim
    · revert q
      dsimp only
      cases seqD m' d <;> exact fun z => z
    · exact q.elim
@[simp] theorem seq_tup {xs : List D} : seqD m (.tup xs) = some xs := rfl
@[simp] theorem seq_lst {xs : List D} : seqD m (.lst xs) = some xs := rfl
@[simp] theorem seq_scr {xs : List Int} : seqD m (.scr xs) = some (xs.map D.int) := rfl
@[simp] theorem gs_tup {xs : List D} : gsD m (.tup xs) = [] := rfl
@[simp] theorem gs_lst {xs : List D} : gsD m (.lst xs) = [] := rfl
@[simp] theorem gs_scr {xs : List Int} : gsD m (.scr xs) = [] := rfl
@[simp] theorem ok_nil {xs : List D} : (ItD.mk xs []).Ok m ↔ True := ⟨fun _ => trivial, fun _ p hp => by cases hp⟩
theorem ok_nil' {xs : List D} : (ItD.mk xs []).Ok m := fun p hp => by cases hp
/-! the draws -/
theorem wp_ixDr {k : Str} : wp (ixDr .drw (.str k) m) P ↔ (match m.dr with | some d => (if k = ("rest" : Str) then P (.int d.rest) m else if k = ("turn" : Str) then P (.int d.turn) m else if k = ("great" : Str) then P .drg m else if k = ("cells" : Str) then P (.lst (d.cells.map D.int)) m else False) | none => False) := by
  unfold ixDr
  dsimp only
  cases m.dr with
  | none => exact Iff.rfl
  | some d =>
    dsimp only
    repeat' split
    all_goals exact Iff.rfl
@[simp] theorem wp_ixDr_rest : wp (ixDr .drw (.str "rest") m) P ↔ (match m.dr with | some d => P (.int d.rest) m | none => False) := by
  rw [wp_ixDr]
  exact Iff.rfl
@[simp] theorem wp_ixDr_turn : wp (ixDr .drw (.str "turn") m) P ↔ (match m.dr with | some d => P (.int d.turn) m | none => False) := by
  rw [wp_ixDr]
  cases m.dr with
  | none => exact Iff.rfl
  | some d =>
    dsimp only
    rw [if_neg (by decide), if_pos rfl]
@[simp] theorem wp_ixDr_great : wp (ixDr .drw (.str "great") m) P ↔ (match m.dr with | some d => P .drg m | none => False) := by
  rw [wp_ixDr]
  cases m.dr with
  | none => exact Iff.rfl
  | some d =>
    dsimp only
    rw [if_neg (by decide), if_neg (by decide), if_pos rfl]
@[simp] theorem wp_ixDr_cells : wp (ixDr .drw (.str "cells") m) P ↔ (match m.dr with | some d => P (.lst (d.cells.map D.int)) m | none => False) := by
  rw [wp_ixDr]
  cases m.dr with
  | none => exact Iff.rfl
  | some d =>
    dsimp only
    rw [if_neg (by decide), if_neg (by decide), if_neg (by decide), if_pos rfl]
@[simp] theorem wp_putDr_rest {z : Int} : wp (putDr .drw (.str "rest") (.int z) m) PU ↔ (match m.dr with | some dr => PU () { m with dr := some { dr with rest := z } } | none => False) := by
  unfold putDr
  dsimp only
  cases m.dr with
  | none => exact Iff.rfl
  | some d =>
    dsimp only
    rw [if_pos rfl]
    exact Iff.rfl
@[simp] theorem wp_putDr_turn {z : Int} : wp (putDr .drw (.str "turn") (.int z) m) PU ↔ (match m.dr with | some dr => PU () { m with dr := some { dr with turn := z } } | none => False) := by
  unfold putDr
  dsimp only
  cases m.dr with
  | none => exact Iff.rfl
  | some d =>
    dsimp only
    rw [if_neg (by decide), if_pos rfl]
    exact Iff.rfl
theorem okAll_ints (k : Nat) : ∀ xs : List Int, okAll k (xs.map D.int) = true
  | [] => rfl
  | x :: xs => by
    show (okD k (.int x) && okAll k (xs.map D.int)) = true
    rw [okAll_ints k xs]
    cases k <;> rfl
@[simp] theorem wp_drg_nil {neg : Bool} : wp (eqD neg .drg (.lst []) m) P ↔ (match m.dr with | some d => P (.bl (if neg then !d.great.isEmpty else d.great.isEmpty)) m | none => False) := by
  cases e : m.dr with
  | none =>
    unfold eqD flatR
    rw [e]
    simp [okD]
  | some d =>
    rw [wp_eq_gen (by unfold flatR; rw [e]; exact okAll_ints 63 d.great) rfl]
    unfold flatR
    rw [e]
    dsimp only
    cases d.great <;> simp [eqvD, eqvAll]
@[simp] theorem wp_chk_drg : wp (chk "list" .drg m) PU ↔ (m.dr.isSome = true ∧ PU () m) := by
  unfold chk
  simp
@[simp] theorem wp_chk_lst {xs : List D} : wp (chk "list" (.lst xs) m) PU ↔ PU () m := Iff.rfl
@[simp] theorem wp_chk_str {s : Str} : wp (chk "str" (.str s) m) PU ↔ PU () m := Iff.rfl
@[simp] theorem wp_chk_ref {n : Nat} : wp (chk "list" (.ref n) m) PU ↔ (match m.objs[n]? with | some (.lst _) => PU () m | _ => False) := by
  show wp (match lstD m (.ref n) with | some _ => Res.ok () m | none => .stuck) PU ↔ _
  rw [show lstD m (.ref n) = (match m.objs[n]? with | some (.lst xs) => some xs | _ => none) from rfl]
  generalize m.objs[n]? = o
  cases o with
  | none => exact Iff.rfl
  | some o => cases o <;> exact Iff.rfl
@[simp] theorem wp_pop0_drg : wp (popAtD .drg [.int 0] m) P ↔ (match m.dr with | some dr => (match dr.great with | z :: r => P (.int z) { m with dr := some { dr with great := r } } | [] => False) | none => False) := by
  unfold popAtD
  dsimp only
  rw [if_pos (by decide)]
  cases m.dr with
  | none => exact Iff.rfl
  | some dr =>
    dsimp only
    cases hg : dr.great with
    | nil => simp [seqIndex?]
    | cons z r =>
      have e : seqIndex? 0 (z :: r).length = some 0 := by
        unfold seqIndex?
        simp
      rw [e]
      simp
@[simp] theorem wp_gSubDr {fo fi : FE} {d : D} {PE' : Env' → MS → Prop} : wp (gSubDr fo fi d ρ m) PE' ↔ wp (fo ρ m) fun o m1 => wp (fi ρ m1) fun i m2 => wp (putDr o i d m2) fun _ m3 => PE' ρ m3 := by
  unfold gSubDr
  simp only [wp_bind, wp_ok]
end
end TL
end
section
/-! The data layer: what the data functions give: targets, maps. -/
namespace TL
open PySem PySem.Spec PyProof.Rows L2
section
variable {PE' : Env' → MS → Prop} {m : MS} {ρ : Env'} {α : Type}
@[simp] theorem wp_gT {n : Nat} {gs : FGs} {ds : List D} : wp (gT n gs (.tup ds) ρ m) PE' ↔ (ds.length = n ∧ wp (gs ds ρ m) PE') := by
  unfold gT tupD
  dsimp only
  split
  · rename_i h
    exact ⟨fun q => ⟨h, q⟩, fun q => q.2⟩
  · rename_i h
    exact ⟨fun q => q.elim, fun q => (h q.1).elim⟩
@[simp] theorem wp_gsNil : wp (gsNil [] ρ m) PE' ↔ PE' ρ m := Iff.rfl
@[simp] theorem wp_gsCons {g : FG} {h : FGs} {d : D} {ds : List D} : wp (gsCons g h (d :: ds) ρ m) PE' ↔ wp (g d ρ m) fun ρ' m' => wp (h ds ρ' m') PE' := by
  unfold gsCons
  simp only [wp_bind]
theorem wp_lcW_mapA {ok : MS → Prop} {g : FG} {te : FE} (e r : α → D) {PL : List D → MS → Prop} {xs : List α} (hok : ok m)
    (step : ∀ x ∈ xs, wp (g (e x) ρ m) fun ρ1 m1 => m1 = m ∧ wp (te ρ1 m) fun y m3 => y = r x ∧ m3 = m) (done : PL (xs.map r) m) : wp (lcW ok g bYes te ρ (xs.map e) m) PL := by
  refine wp_lcW_all (fun ds acc m' => m' = m ∧ ∃ pre suf, xs = pre ++ suf ∧ ds = suf.map e ∧ acc = pre.map r) ⟨rfl, [], xs, rfl, rfl, rfl⟩ ?_ ?_
  · rintro d ds acc m' ⟨rfl, pre, suf, ex, es, ea⟩
    cases suf with
    | nil => cases es
    | cons y suf =>
      obtain ⟨rfl, rfl⟩ := List.cons.inj es
      refine ⟨hok, wp_mono (step y (by rw [ex]; simp)) fun ρ1 m1 h => ?_⟩
      obtain ⟨rfl, h⟩ := h
      simp
      refine wp_mono h fun y' m3 h => ?_
      obtain ⟨rfl, rfl⟩ := h
      exact ⟨rfl, pre ++ [y], suf, by rw [ex]; simp, rfl, by rw [ea]; simp⟩
  · rintro acc m' ⟨rfl, pre, suf, ex, es, ea⟩
    cases suf with
    | cons y suf => cases es
    | nil =>
      rw [List.append_nil] at ex
      subst ex
      exact ⟨hok, by rw [ea]; exact done⟩
/-- .. made with writes at the draws alone: each value is one of P, the invariant goes on -/
theorem wp_lcW_each {ok : MS → Prop} {g : FG} {te : FE} {PL : List D → MS → Prop} {xs : List D} (I : Nat → MS → Prop) (P : D → D → Prop) (hok : ∀ n m, I n m → ok m)
    (step : ∀ x ∈ xs, ∀ n m, I (n + 1) m → wp (g x ρ m) fun ρ1 m1 => m1 = m ∧ wp (te ρ1 m) fun y m3 => P x y ∧ I n m3) (h0 : I xs.length m)
    (done : ∀ ys m', Paired P xs ys → I 0 m' → PL ys m') : wp (lcW ok g bYes te ρ xs m) PL := by
  refine wp_lcW_all (fun ds acc m' => I ds.length m' ∧ ∃ pre, xs = pre ++ ds ∧ Paired P pre acc) ⟨h0, [], rfl, .nil⟩ ?_ ?_
  · rintro d ds acc m' ⟨hi, pre, ex, ea⟩
    refine ⟨hok _ _ hi, wp_mono (step d (by rw [ex]; simp) ds.length m' hi) fun ρ1 m1 h => ?_⟩
    obtain ⟨rfl, h⟩ := h
    simp
    refine wp_mono h fun y' m3 h => ?_
    refine ⟨h.2, pre ++ [d], by rw [ex]; simp, ?_⟩
    have : ∀ {as bs : List D}, Paired P as bs → Paired P (as ++ [d]) (bs ++ [y']) := by
      intro as bs q
      induction q with
      | nil => exact .cons h.1 .nil
      | cons a b ih => exact .cons a ih
    exact this ea
  · rintro acc m' ⟨hi, pre, ex, ea⟩
    rw [List.append_nil] at ex
    subst ex
    exact ⟨hok _ _ hi, done _ _ ea hi⟩
theorem zipG_map {β : Type} (f : α → D) (g : β → D) : ∀ (xs : List α) (ys : List β), zipG (xs.map f) (ys.map g) = (xs.zip ys).map fun p => .tup [f p.1, g p.2]
  | [], _ => by simp [zipG]
  | _ :: _, [] => by simp [zipG]
  | x :: xs, y :: ys => by
    have := zipG_map f g xs ys
    unfold zipG at *
    simp only [List.map_cons, List.zipWith_cons_cons, List.zip_cons_cons]
    rw [this]
theorem rng_length (lo : Int) (n : Nat) : (rng lo n).length = n := by unfold rng; simp
theorem rng_map (n : Nat) : rng 0 n = (List.range n).map fun (i : Nat) => D.int (i : Int) := by
  unfold rng
  simp
end
end TL
end
section
/-! The data layer: what the data functions give: mutable lists, a def's end. -/
namespace TL
open PySem PySem.Spec PyProof.Rows L2
section
variable {P : D → MS → Prop} {m m1 : MS}
/-- a def with own lists: they are let go -/
theorem bodyT_of {u : FS} {n : Nat} {ds : List D} {d : D} (h : wp (bodyF u n ds m) fun v m1 => v = d ∧ ∃ more, m1.objs = m.objs ++ more ∧ P v { m1 with objs := m.objs }) (hd : ∀ k, ltD k d = true) : wp (bodyT u n ds m) P := by
  obtain ⟨v, m1, e, rfl, more, eo, q⟩ := wp_elim h
  unfold bodyT
  rw [e]
  unfold trunc
  have ok : okOld m m1 := .inl (by rw [eo]; simp)
  have f : frz m.objs.length m1.objs 8 v = some v := by
    unfold frz
    rw [if_pos (hd _)]
  simp only [ok, if_true, f]
  rw [eo, List.take_left]
  exact q
mutual
theorem okD_mono : ∀ {k : Nat} {d : D}, okD k d = true → okD (k + 1) d = true
  | _, .non, _ => rfl
  | _, .bl _, _ => rfl
  | _, .int _, _ => rfl
  | _, .str x, h => by simpa [okD] using h
  | k + 1, .tup xs, h => by
    have := okAll_mono (k := k) (xs := xs) (by simpa [okD] using h)
    simpa [okD] using this
  | k + 1, .lst xs, h => by
    have := okAll_mono (k := k) (xs := xs) (by simpa [okD] using h)
    simpa [okD] using this
  | 0, .tup _, h => by simp [okD] at h
  | 0, .lst _, h => by simp [okD] at h
  | k, .dct _, h => by cases k <;> simp [okD] at h
  | k, .scr _, h => by cases k <;> simp [okD] at h
  | k, .ref _, h => by cases k <;> simp [okD] at h
  | k, .drw, h => by cases k <;> simp [okD] at h
  | k, .drg, h => by cases k <;> simp [okD] at h
  | k, .fn _, h => by cases k <;> simp [okD] at h
  | k, .ty _, h => by cases k <;> simp [okD] at h
  | k, .clo _, h => by cases k <;> simp [okD] at h
  | k, .exn _ _, h => by cases k <;> simp [okD] at h
theorem okAll_mono : ∀ {k : Nat} {xs : List D}, okAll k xs = true → okAll (k + 1) xs = true
  | _, [], _ => rfl
  | k, x :: xs, h => by
    simp only [okAll, Bool.and_eq_true] at h ⊢
    exact ⟨okD_mono h.1, okAll_mono h.2⟩
end
theorem okAll_all {k : Nat} : ∀ {xs : List D}, okAll k xs = true ↔ ∀ x ∈ xs, okD k x = true
  | [] => by simp [okAll]
  | x :: xs => by
    simp only [okAll, Bool.and_eq_true, List.forall_mem_cons]
    rw [okAll_all]
mutual
theorem eqv_refl : ∀ {k : Nat} {d : D}, okD k d = true → eqvD d d = true
  | _, .non, _ => rfl
  | _, .bl _, _ => by simp [eqvD]
  | _, .int _, _ => by simp [eqvD]
  | _, .str x, h => by simp [eqvD]
  | k + 1, .tup xs, h => by
    have := eqvAll_refl (k := k) (xs := xs) (by simpa [okD] using h)
    simpa [eqvD] using this
  | k + 1, .lst xs, h => by
    have := eqvAll_refl (k := k) (xs := xs) (by simpa [okD] using h)
    simpa [eqvD] using this
  | 0, .tup _, h => by simp [okD] at h
  | 0, .lst _, h => by simp [okD] at h
  | k, .dct _, h => by cases k <;> simp [okD] at h
  | k, .scr _, h => by cases k <;> simp [okD] at h
  | k, .ref _, h => by cases k <;> simp [okD] at h
  | k, .drw, h => by cases k <;> simp [okD] at h
  | k, .drg, h => by cases k <;> simp [okD] at h
  | k, .fn _, h => by cases k <;> simp [okD] at h
  | k, .ty _, h => by cases k <;> simp [okD] at h
  | k, .clo _, h => by cases k <;> simp [okD] at h
  | k, .exn _ _, h => by cases k <;> simp [okD] at h
theorem eqvAll_refl : ∀ {k : Nat} {xs : List D}, okAll k xs = true → eqvAll xs xs = true
  | _, [], _ => rfl
  | k, x :: xs, h => by
    simp only [okAll, Bool.and_eq_true] at h
    simp only [eqvAll, Bool.and_eq_true]
    exact ⟨eqv_refl h.1, eqvAll_refl h.2⟩
end
/-! a mutable list -/
theorem wp_pop_ref {n : Nat} {xs : List D} {d : D} (h : m.objs[n]? = some (.lst (xs ++ [d]))) : wp (popD (.ref n) [] m) P ↔ P d { m with objs := m.objs.set n (.lst xs) } := by
  unfold popD
  dsimp only
  rw [h]
  simp
theorem wp_ext_ref {n : Nat} {xs ys : List D} (h : m.objs[n]? = some (.lst xs)) (hl : xs.length + ys.length < 1000000) : wp (extendD (.ref n) [.lst ys] m) P ↔ P .non { m with objs := m.objs.set n (.lst (xs ++ ys)) } := by
  unfold extendD
  dsimp only
  rw [h]
  show wp (if xs.length + ys.length < 1000000 then _ else _) P ↔ _
  rw [if_pos hl]
  exact Iff.rfl
theorem flat_ref {n : Nat} {xs : List D} (h : m.objs[n]? = some (.lst xs)) : flatR m (.ref n) = .lst xs := by
  unfold flatR
  dsimp only
  rw [h]
end
end TL
end
section
/-! The data layer: what the data functions give: exceptions. -/
namespace TL
open PySem PySem.Spec PyProof.Rows L2
/-- the outcome is an exception with P -/
def wr {α : Type} (x : Res α) (P : Str → List (Str × D) → MS → Prop) : Prop := match x with | .raise c fs m => P c fs m | _ => False
section
variable {α β : Type} {P : Str → List (Str × D) → MS → Prop} {m m' : MS} {ρ : Env'}
@[simp] theorem wr_raise {c : Str} {fs : List (Str × D)} : wr (.raise c fs m : Res α) P ↔ P c fs m := Iff.rfl
theorem eq_of_wr {x : Res α} {c : Str} {fs : List (Str × D)} (h : wr x fun c' fs' m' => c' = c ∧ fs' = fs ∧ m' = m) : x = .raise c fs m := by
  cases x with
  | raise c' fs' m' => obtain ⟨rfl, rfl, rfl⟩ := h; rfl
  | _ => exact h.elim
/-- ahead a value -/
theorem wr_bind {x : M β} {k : β → M α} (h : wp (x m) fun b m' => wr (k b m') P) : wr (M.bind x k m) P := by
  unfold M.bind
  cases e : x m with
  | ok b m' => rw [e] at h; exact h
  | _ => rw [e] at h; exact h.elim
/-- ahead the exception -/
theorem wr_bind0 {x : M β} {k : β → M α} (h : wr (x m) P) : wr (M.bind x k m) P := by
  unfold M.bind
  cases e : x m with
  | raise c fs m' => rw [e] at h; exact h
  | _ => rw [e] at h; exact h.elim
theorem wr_body {u : FS} {n : Nat} {ds : List D} (h : wr (u (startD n ds) m) P) : wr (bodyF u n ds m) P := wr_bind0 h
theorem wr_seq {u v : FS} (h : wp (u ρ m) fun fl m' => match fl with | .next ρ' => wr (v ρ' m') P | _ => False) : wr (sSeq u v ρ m) P := by
  refine wr_bind (wp_mono h fun fl m' q => ?_)
  cases fl with
  | next ρ' => exact q
  | _ => exact q.elim
theorem wr_seq0 {u v : FS} (h : wr (u ρ m) P) : wr (sSeq u v ρ m) P := wr_bind0 h
theorem wr_if {g : FB} {u v : FS} (h : wp (g ρ m) fun k m' => if k then wr (u ρ m') P else wr (v ρ m') P) : wr (sIf g u v ρ m) P := by
  refine wr_bind (wp_mono h fun k m' q => ?_)
  cases k <;> exact q
theorem wr_sRaise {c : Str} {f : FE} (h : wp (f ρ m) fun _ m' => P c [] m') : wr (sRaise c f ρ m) P := wr_bind (wp_mono h fun _ _ q => q)
theorem wr_sRaiseF {c fld : Str} {f : FE} (h : wp (f ρ m) fun d m' => P c [(fld, d)] m') : wr (sRaiseF c fld f ρ m) P := wr_bind (wp_mono h fun _ _ q => q)
theorem wr_expr0 {f : FE} (h : wr (f ρ m) P) : wr (sExpr f ρ m) P := wr_bind0 h
theorem wr_ret0 {f : FE} (h : wr (f ρ m) P) : wr (sRet f ρ m) P := wr_bind0 h
theorem wr_call {F : List D → M D} {g : FA} (h : wp (g ρ m) fun ds m' => wr (F ds m') P) : wr (dCall F g ρ m) P := wr_bind h
theorem wr_lenF {n : Nat} {F : List D → M D} {ds : List D} (hl : ds.length = n) (h : wr (F ds m) P) : wr (lenF n F ds m) P := by
  unfold lenF
  rw [if_pos hl]
  exact h
theorem wr_for {fi : Env' → M ItD} {g : FG} {body : FS} (h : wp (fi ρ m) fun it m' => wr (forW it.Ok g body it.items ρ m') P) : wr (sFor fi g body ρ m) P := wr_bind h
theorem wr_forW {ok : MS → Prop} {g : FG} {body : FS} (J : List D → Env' → Prop) {d : D} {post : List D} (hok : ok m)
    (step : ∀ x pre ρ, J (x :: pre) ρ → wp (g x ρ m) fun ρ1 m1 => m1 = m ∧ wp (body ρ1 m) fun fl m2 => m2 = m ∧ match fl with | .next ρ2 => J pre ρ2 | _ => False)
    (last : ∀ ρ, J [] ρ → wp (g d ρ m) fun ρ1 m1 => m1 = m ∧ wr (body ρ1 m) P) : ∀ (pre : List D) (ρ : Env'), J pre ρ → wr (forW ok g body (pre ++ d :: post) ρ m) P
  | [], ρ, h => by
    show wr (forW ok g body (d :: post) ρ m) P
    unfold forW
    rw [if_pos hok]
    refine wr_bind (wp_mono (last ρ h) fun ρ1 m1 ⟨e, q⟩ => ?_)
    subst e
    exact wr_bind0 q
  | x :: pre, ρ, h => by
    show wr (forW ok g body (x :: (pre ++ d :: post)) ρ m) P
    unfold forW
    rw [if_pos hok]
    refine wr_bind (wp_mono (step x pre ρ h) fun ρ1 m1 ⟨e, q⟩ => ?_)
    subst m1
    refine wr_bind (wp_mono q fun fl m2 ⟨e, q⟩ => ?_)
    subst m2
    cases fl with
    | next ρ2 => exact wr_forW J hok step last pre ρ2 q
    | _ => exact q.elim
/-- a caught exception -/
@[simp] theorem wp_caughtR {teach : Str → Bool} {c : Str} {fs : List (Str × D)} {PD : D → MS → Prop} (h : teach c = true) : wp (caughtR teach (.raise c fs m)) PD ↔ PD (.exn c fs) m := by
  unfold caughtR
  dsimp only
  rw [if_pos h]
  exact Iff.rfl
theorem wp_dCaught {teach : Str → Bool} {bs : List FE} {fa : FE} {PD : D → MS → Prop} : wp (dCaught teach bs fa ρ m) PD ↔ wp (fa ρ m) fun d m' => match d with
    | .clo i => (match bs[i]? with | some b => wp (caughtR teach (b ρ m')) PD | none => False)
    | _ => False := by
  unfold dCaught
  rw [wp_bind]
  constructor
  · exact fun h => wp_mono h fun d m' q => by
      cases d with
      | clo i =>
        dsimp only at q ⊢
        cases e : bs[i]? <;> rw [e] at q <;> exact q
      | _ => exact q.elim
  · exact fun h => wp_mono h fun d m' q => by
      cases d with
      | clo i =>
        dsimp only at q ⊢
        cases e : bs[i]? <;> rw [e] at q <;> exact q
      | _ => exact q.elim
end
end TL
end
section
/-! The data layer: the head: a law's facts read from the heap at the top's end. -/
namespace TL
open PySem PySem.Spec PyProof.Rows L2
open LamX (Tabs CodeO TabB)
open He (ga ma fAd frG asD DefD obsD valD SaysD emptyTab cT eqO ba Fa Defn)
open PySem.W (Frag findIn subIn typeIn keepIn mroIn clsIn nsIn alongIn)
/-! ### what is looked at -/
def noList (o : Obj) : Bool := match o.cls with
  | .type c => !decide (c = "list")
  | _ => true
def frM (g : Addr → Option Obj) (as : List Addr) : Frag := (frG g as).filter fun q => !emptyTab q.2 && noList q.2
def asM (g : Addr → Option Obj) (n : Nat) : List Addr := asD g n ++ [cStatics, sysModules, builtinsNs]
theorem frM_mem {g : Addr → Option Obj} {as : List Addr} {a : Addr} {o : Obj} (h : (frM g as).lookup a = some o) : g a = some o ∧ emptyTab o = false ∧ noList o = true := by
  obtain ⟨h1, h2⟩ := List.mem_filter.mp (He.lookup_mem h)
  have h3 : (!emptyTab o && noList o) = true := h2
  obtain ⟨h4, h5⟩ := ba h3
  exact ⟨He.frG_mem h1, by simpa using h4, h5⟩
theorem frM_in {as : List Addr} {h : Heap} : (frM h.get? as).In h := fun _ _ e => (frM_mem e).1
theorem frM_none {g : Addr → Option Obj} {as : List Addr} {a : Addr} {o : Obj} (h : g a = some o) (ht : emptyTab o = true) : (frM g as).lookup a = none := by
  cases e : (frM g as).lookup a with
  | none => rfl
  | some u =>
    obtain ⟨h1, h2, _⟩ := frM_mem e
    rw [h] at h1
    rw [← Option.some.inj h1, ht] at h2
    cases h2
/-! ### a class's own __init__ -/
structure XiD where
  x : Str
  p : Str
  f : Str
  st : Stmt
abbrev FnI : Type := Option (Arguments × FuncBody × Scope × Addr × Addr)
def iA (K : Frag) (x : Str) : Addr := ma K (ga K x) "__init__"
def fnI (K : Frag) (x : Str) : FnI := match K.lookup (iA K x) with
  | some ⟨_, _, .func fd, _⟩ => some (fd.params, fd.body, fd.scope, fd.globals, fd.builtins)
  | _ => none
def XiD.val (d : XiD) : FnI := some (defArgs d.st, .stmts (defBody d.st), defScope d.st, mainGlobals, builtinsNs)
def cellB (K : Frag) (C : Addr) (cl : List (Str × Addr)) : Bool := match cl with
  | [(c, cc)] => decide (c = ("__class__" : Str)) && (match K.lookup cc with
    | some ⟨_, _, .cell (some (.ref C')), _⟩ => decide (C' = C)
    | _ => false)
  | _ => false
def fileB (K : Frag) (file : Str) (cd : Value) : Bool := match cd with
  | .ref cda => (match K.lookup cda with
    | some ⟨_, _, .fields vs, _⟩ => (match (vs[2]? : Option Value) with
      | some (.str fl _) => file == fl
      | _ => false)
    | _ => false)
  | _ => false
def noneB : Value → Bool
  | .none => true
  | _ => false
def initB (file : Str) (K : Frag) (x : Str) : Bool := match K.lookup (iA K x) with
  | some ⟨_, _, .func fd, _⟩ => PySem.W.codeIn K fd.code fd.qualname && (fileB K file fd.code && (noneB fd.defaults && cellB K (ga K x) fd.closure))
  | _ => false
def oexB (K : Frag) (C : Addr) : Bool := match K.lookup C with
  | some ⟨.type t, _, .cls cd, sl⟩ => (match cd.mro, sl.toList with
    | .ref C' :: bm, [_, _, _, _, some (.builtin n), _] => decide (t = "type") && (decide (C' = C) && (decide (n = "ValueError.__new__") && (!cd.hasDel && (cd.hasDict && PySem.HandSPX.refsVE bm))))
    | _, _ => false)
  | _ => false
def cvB (K : Frag) (C : Addr) : Bool := match clsIn K C with
  | some cd => cd.hasDict && (PySem.HandSPX.refsVE cd.mro && eqO (alongIn K "__init__" ((cd.mro.dropWhile (· != .ref C)).drop 1)) (some (some (.builtin "ValueError.__init__"))))
  | none => false
theorem oexB_ok {K : Frag} {C : Addr} (q : oexB K C = true) : ∃ nm q N bs bm sn sub ab col dd k0 k1 k2 k3 k5, K.lookup C = some (excClassObj nm q C N bs bm true sn sub ab col dd k0 k1 k2 k3 k5 "ValueError.__new__") ∧ PySem.HandSPX.refsVE bm = true := by
  unfold oexB at q
  split at q
  · rename_i t dd cd sl ho
    split at q
    · rename_i C' bm k0 k1 k2 k3 n k5 hm hs
      obtain ⟨q1, q⟩ := ba q
      obtain ⟨q2, q⟩ := ba q
      obtain ⟨q3, q⟩ := ba q
      obtain ⟨q4, q⟩ := ba q
      obtain ⟨q5, q6⟩ := ba q
      have e1 := of_decide_eq_true q1
      have e2 := of_decide_eq_true q2
      have e3 := of_decide_eq_true q3
      obtain ⟨nm, bs, mro, ns, qn, hd, sn, sb, ab, col, del⟩ := cd
      dsimp only at hm q4 q5
      have e4 : del = false := by simpa using q4
      have hsl : sl = #[k0, k1, k2, k3, some (.builtin n), k5] := by
        obtain ⟨l⟩ := sl
        exact congrArg Array.mk hs
      subst hm e1 e2 e3 e4 q5 hsl
      exact ⟨nm, qn, ns, bs, bm, sn, sb, ab, col, dd, k0, k1, k2, k3, k5, ho, q6⟩
    · cases q
  · cases q
/-- what the text says of the class's __init__ -/
structure XiOk (P : Program) (d : XiD) : Prop where
  top : (P.main.scope.names.lookup ("super" : Str)).isSome = false
  sc : (defScope d.st).kind = .function ∧ (defScope d.st).isCoroutine = false ∧ (defScope d.st).isGenerator = false ∧ (∀ x ∈ (defScope d.st).names, x.2 ≠ .cell)
  ks : (defScope d.st).names.lookup ("super" : Str) = some .globalImplicit ∧ (defScope d.st).names.lookup ("__class__" : Str) = some .free ∧ (defScope d.st).names.lookup ("self" : Str) = some .local ∧ (defScope d.st).names.lookup d.p = some .local
  hd : ∃ ar, ((defArgs d.st).posonlyargs ++ (defArgs d.st).args).head? = some ar ∧ ar.arg = ("self" : Str)
  ps : d.p ≠ ("self" : Str)
  pd : (d.p == ("__debug__" : Str)) = false
  body : ∃ p1 p2 p3 p4 p5 p6 p7 p8 p9 p10, defBody d.st = [.Expr (.Call (.Attribute (.Call (.Name "super" p1) [] [] p2) "__init__" p3) [.Name d.p p4] [] p5) p6, .Assign [.Attribute (.Name "self" p7) d.f p8] (.Name d.p p9) p10] ∧
    (∀ env : Env, ∃ pl : Sem Bool, eval (.Call (.Attribute (.Call (.Name "super" p1) [] [] p2) "__init__" p3) [.Name d.p p4] [] p5) env = (do
      let ov ← attributeBase (.Call (.Name "super" p1) [] [] p2) "__init__" env (eval (.Call (.Name "super" p1) [] [] p2) env)
      standAt p3.atName
      let (f, first) ← holding [ov] (getMethod ov "__init__" pl)
      callWith p5 f first (backTo p5 (starEach [.Name d.p p4] env)) [])) ∧
    ∀ env : Env, swapsWith (.Name d.p p9) (some (.Attribute (.Name "self" p7) d.f p8)) p10.line env = pure false
  hb : ∀ (fd : FuncData) (us : List Value), fd.params = defArgs d.st → fd.defaults = .none → us.length = 2 → bindArgs fd ⟨us, []⟩ = pure ([("self" : Str), d.p].zip us)
def clsB (K : Frag) (x f : Str) : Bool :=
  oexB K (ga K x) && (cvB K (ga K x) && (eqO (findIn K (.ref (ga K x)) f) (some none) && (decide (subIn K (.ref (ga K x)) (.type "ValueError") = some true) && (decide (mroIn K (ga K x) (.ref (ga K x)) = some true) &&
  (eqO (nsIn K cStatics "thirdparty.any") (some none) && (eqO (nsIn K mainGlobals "super") (some none) && (eqO (findIn K (.ref (ga K x)) "__init__") (some (some (.ref (iA K x)))) && (decide (typeIn K (.ref (iA K x)) = some (.type "function")) &&
  (eqO (findIn K (.ref (ga K x)) "__setattr__") (some (some (.builtin "object.__setattr__"))) && (decide (subIn K (.ref (ga K x)) (.type "BaseException") = some true) && (decide (typeIn K (.ref (ga K x)) = some (.type "type")) && (keepIn K (.ref (ga K x)) && eqO (nsIn K mainGlobals x) (some (some (.ref (ga K x))))))))))))))))
theorem cellB_ok {K : Frag} {C : Addr} {cl : List (Str × Addr)} (h : cellB K C cl = true) : ∃ cc a b c, cl = [(("__class__" : Str), cc)] ∧ K.lookup cc = some ⟨a, b, .cell (some (.ref C)), c⟩ := by
  unfold cellB at h
  split at h
  · rename_i c cc
    obtain ⟨h1, h2⟩ := ba h
    split at h2
    · rename_i a b C' sl e
      have e1 := of_decide_eq_true h1
      have e2 := of_decide_eq_true h2
      subst e1 e2
      exact ⟨cc, _, _, _, rfl, e⟩
    · cases h2
  · cases h
theorem fileB_ok {K : Frag} {file : Str} {cd : Value} (h : fileB K file cd = true) : ∃ cda ccl cdd vs ccs fl tf, cd = .ref cda ∧ K.lookup cda = some ⟨ccl, cdd, .fields vs, ccs⟩ ∧ vs[2]? = some (.str fl tf) ∧ (file == fl) = true := by
  unfold fileB at h
  split at h
  · rename_i cda
    split at h
    · rename_i a b vs c e
      split at h
      · rename_i fl tf e2
        exact ⟨cda, a, b, vs, c, fl, tf, rfl, e, e2, h⟩
      · cases h
    · cases h
  · cases h
theorem exi_of {P : Program} {R : RC} {d : XiD} {base : Heap} (X : R.K.In base) (G : base.Ns mainGlobals R.mg) (ok : XiOk P d) (h0 : fnI R.K d.x = d.val) (h1 : initB P.main.file R.K d.x = true) (h2 : clsB R.K d.x d.f = true) : ∃ C fI cc cda fd, ExiAt P R d.x d.p d.f C fI cc cda fd := by
  unfold clsB at h2
  obtain ⟨a1, h2⟩ := ba h2
  obtain ⟨a2, h2⟩ := ba h2
  obtain ⟨a3, h2⟩ := ba h2
  obtain ⟨a4, h2⟩ := ba h2
  obtain ⟨a5, h2⟩ := ba h2
  obtain ⟨a6, h2⟩ := ba h2
  obtain ⟨a7, h2⟩ := ba h2
  obtain ⟨a8, h2⟩ := ba h2
  obtain ⟨a9, h2⟩ := ba h2
  obtain ⟨a10, h2⟩ := ba h2
  obtain ⟨a11, h2⟩ := ba h2
  obtain ⟨a12, h2⟩ := ba h2
  obtain ⟨a13, a14⟩ := ba h2
  unfold initB at h1
  unfold fnI XiD.val at h0
  cases q : R.K.lookup (iA R.K d.x) with
  | none =>
    rw [q] at h1
    cases h1
  | some o =>
    obtain ⟨oc, od, dt, osl⟩ := o
    rw [q] at h1 h0
    cases dt with
    | func fd =>
      dsimp only at h1 h0
      obtain ⟨b1, h1⟩ := ba h1
      obtain ⟨b2, h1⟩ := ba h1
      obtain ⟨b3, b4⟩ := ba h1
      obtain ⟨cc, ca, cb, csl, e1, e2⟩ := cellB_ok b4
      obtain ⟨cda, ccl, cdd, vs, ccs, fl, tf, f1, f2, f3, f4⟩ := fileB_ok b2
      have hd0 : fd.defaults = .none := by
        cases z : fd.defaults <;> rw [z] at b3 <;> first | rfl | cases b3
      simp only [Option.some.injEq, Prod.mk.injEq] at h0
      obtain ⟨g1, g2, g3, g4, g5⟩ := h0
      obtain ⟨p1, p2, p3, p4, p5, p6, p7, p8, p9, p10, k1, k2, k3⟩ := ok.body
      have hcv : ∃ cd, clsIn R.K (ga R.K d.x) = some cd ∧ cd.hasDict = true ∧ PySem.HandSPX.refsVE cd.mro = true ∧ alongIn R.K "__init__" ((cd.mro.dropWhile (· != .ref (ga R.K d.x))).drop 1) = some (some (.builtin "ValueError.__init__")) := by
        unfold cvB at a2
        cases z : clsIn R.K (ga R.K d.x) with
        | none => rw [z] at a2; cases a2
        | some cd =>
          rw [z] at a2
          obtain ⟨c1, c2⟩ := ba a2
          obtain ⟨c3, c4⟩ := ba c2
          exact ⟨cd, rfl, c1, c3, He.eqO_ok c4⟩
      refine ⟨ga R.K d.x, iA R.K d.x, cc, cda, fd, PySem.W.mg_of X G (He.eqO_ok a14), ?_, He.eqO_ok a8, of_decide_eq_true a9, Binds.all fun us hl => ok.hb fd us g1 hd0 hl⟩
      exact {
        ox := ⟨oexB_ok a1, He.eqO_ok a10, of_decide_eq_true a11, of_decide_eq_true a12, a13⟩
        cv := hcv
        no := He.eqO_ok a3
        subV := of_decide_eq_true a4
        subC := of_decide_eq_true a5
        op := He.eqO_ok a6
        sup := He.eqO_ok a7
        fn := ⟨_, _, _, q⟩
        cell := ⟨_, _, _, e2⟩
        code := ⟨_, _, vs, _, fl, tf, f2, f3, f4⟩
        hcd := b1
        fcode := f1
        top := ok.top
        clo := e1
        gl := g4
        bl := g5
        sc := by rw [g3]; exact ok.sc
        ks := by rw [g3]; exact ok.ks
        hd := by rw [g1]; exact ok.hd
        ps := ok.ps
        pd := ok.pd
        body := ⟨p1, p2, p3, p4, p5, p6, p7, p8, p9, p10, by rw [g2, k1], k2, k3⟩ }
    | _ => cases h1
/-! ### the facts of a law's names -/
/-- more of the text: the exceptions' names, the fields that are read, the file's name, the classes' own __init__s -/
structure HeadX where
  exn : List Str
  flds : List (Str × Str)
  file : Str
  xi : List XiD
def xkB (K : Frag) (C : Addr) : Bool :=
  (clsIn K C).isSome && (eqO (findIn K (.ref C) "__getattribute__") (some (some (.builtin "BaseException.__getattribute__"))) && (eqO (findIn K (.ref C) "__getattr__") (some none) && (decide (subIn K (.ref C) (.type "BaseException") = some true) &&
  (eqO (findIn K (.ref C) "__class__") (some (some (.builtin "object.__class__"))) && (eqO (PySem.W.specialIn K (.builtin "object.__class__") "__get__") (some (some (.builtin "getset_descriptor.__get__"))) && (decide (PySem.W.takesIn K (.builtin "object.__class__") = some true) && decide (mroIn K C (.type "object") = some true)))))))
theorem xkB_ok {K : Frag} {C : Addr} (h : xkB K C = true) : XkC K C := by
  unfold xkB at h
  obtain ⟨a1, h⟩ := ba h
  obtain ⟨a2, h⟩ := ba h
  obtain ⟨a3, h⟩ := ba h
  obtain ⟨a4, h⟩ := ba h
  obtain ⟨a5, h⟩ := ba h
  obtain ⟨a6, h⟩ := ba h
  obtain ⟨a7, a8⟩ := ba h
  exact ⟨a1, He.eqO_ok a2, He.eqO_ok a3, of_decide_eq_true a4, He.eqO_ok a5, He.eqO_ok a6, of_decide_eq_true a7, of_decide_eq_true a8⟩
def gloB (K : Frag) (x : Str) : Bool := eqO (nsIn K mainGlobals x) (some (some (.ref (ga K x))))
def CV.okB (K : Frag) (x : Str) : CV → Bool
  | .int i => (Fa.int x i).ok K
  | .str z => (Fa.str x z).ok K
  | .tup vs => gloB K x && He.tupB K x (vs.map He.Dv.int)
def xpB (c : Cfg) (K : Frag) (k k' : Str) : Bool := match c.subs k k' with
  | some b => decide (PySem.W.kitOne K (.ref (ga K k)) (.ref (ga K k')) = some b)
  | none => true
def exnB (c : Cfg) (e : HeadX) (K : Frag) (k : Str) : Bool := gloB K k && (xkB K (ga K k) && (e.exn.all (xpB c K k) && decide (PySem.W.exmOne K (.ref (ga K k)) (.ref (ga K "TeachError")) = some true)))
def fldB (K : Frag) (q : Str × Str) : Bool := gloB K q.2 && (xfB K (ga K q.2) && eqO (findIn K (.ref (ga K q.2)) q.1) (some none))
def placeB (K : Frag) : Bool := (K.lookup cStatics).isSome && ((K.lookup sysModules).isSome && ((K.lookup builtinsNs).isSome && ((K.lookup mainGlobals).isSome && (gloB K "__builtins__" && (K.lookup (ga K "__builtins__")).isSome))))
def exOf (c : Cfg) (e : HeadX) (K : Frag) : Bool :=
  placeB K && (gloB K "TeachError" && ((c.imps.all fun q => eqO (nsIn K mainGlobals q.1) (some (some (.builtin q.2)))) && ((c.consts.all fun q => q.2.okB K q.1) && (e.exn.all (exnB c e K) && (e.flds.all (fldB K) && ((e.xi.all fun d => initB e.file K d.x && clsB K d.x d.f) &&
  (c.lamq.all fun x => c.lamq.all fun y => decide ((cT K (x, none)).2 = (cT K (y, none)).2 → x = y))))))))
def faOf (c : Cfg) (e : HeadX) : List Fa := c.free.map Fa.free ++ (c.fns.map (fun q => Fa.glo q.1) ++ (c.excs.map Fa.glo ++ c.excs.map Fa.exc))
def dfOf (c : Cfg) : List DefD := c.fns.map fun q => ⟨(q.1, none), q.1, q.1, defArgs (c.top q.2), defBody (c.top q.2), defScope (c.top q.2), [], []⟩
def tfOf (c : Cfg) : List Defn := c.lamq.map fun x => (x, none)
def TOf (c : Cfg) (K : Frag) : List (Addr × Str) := c.lamq.map fun x => ((cT K (x, none)).2, (x ++ ".<locals>.") ++ "<lambda>")
/-! ### the Hook -/
structure SaysM (c : Cfg) (e : HeadX) (h : Heap) (K : Frag) : Prop where
  d : SaysD (faOf c e) (dfOf c) K
  xi : e.xi.map (fun d => fnI K d.x) = e.xi.map XiD.val
  more : exOf c e K = true
  hd : ∀ p ∈ tfOf c, PySem.W.codeHdIn K (cT K p).1 (cT K p).2 = true
  out : ∀ p ∈ tfOf c, K.lookup (cT K p).2 = none
  empty : ∀ p ∈ tfOf c, h.get? (cT K p).2 = some { cls := .none, data := .fields #[] }
  nolist : ∀ a o, K.lookup a = some o → o.cls ≠ .type "list"
abbrev AlM : Type := He.AlD × List FnI × Bool
def obsM (n : Nat) (c : Cfg) (e : HeadX) (g : Addr → Option Obj) : AlM := (obsD (faOf c e) (dfOf c) (frM g (asM g n)), e.xi.map (fun d => fnI (frM g (asM g n)) d.x), exOf c e (frM g (asM g n)) && He.tabsB g (tfOf c) (frM g (asM g n)))
def valM (c : Cfg) (e : HeadX) : AlM := (valD (dfOf c), e.xi.map XiD.val, true)
theorem saysM_of {n : Nat} {c : Cfg} {e : HeadX} {h : Heap} (q : obsM n c e h.get? = valM c e) : SaysM c e h (frM h.get? (asM h.get? n)) := by
  have e1 := congrArg (fun z : AlM => z.1) q
  have e2 := congrArg (fun z : AlM => z.2.1) q
  have e3 : (exOf c e (frM h.get? (asM h.get? n)) && He.tabsB h.get? (tfOf c) (frM h.get? (asM h.get? n))) = true := congrArg (fun z : AlM => z.2.2) q
  obtain ⟨h1, h2⟩ := ba e3
  have key : ∀ p ∈ tfOf c, PySem.W.codeHdIn (frM h.get? (asM h.get? n)) (cT (frM h.get? (asM h.get? n)) p).1 (cT (frM h.get? (asM h.get? n)) p).2 = true ∧ ∃ o, h.get? (cT (frM h.get? (asM h.get? n)) p).2 = some o ∧ emptyTab o = true := fun p hp => by
    obtain ⟨h3, h4⟩ := ba (List.all_eq_true.mp h2 p hp)
    refine ⟨h3, ?_⟩
    split at h4
    · rename_i o z
      exact ⟨o, z, h4⟩
    · cases h4
  refine ⟨e1, e2, h1, fun p hp => (key p hp).1, fun p hp => ?_, fun p hp => ?_, fun a o z y => ?_⟩
  · obtain ⟨_, o, z1, z2⟩ := key p hp
    exact frM_none z1 z2
  · obtain ⟨_, o, z1, z2⟩ := key p hp
    rw [z1, He.emptyTab_eq z2]
  · have z2 := (frM_mem z).2.2
    unfold noList at z2
    rw [y] at z2
    exact absurd z2 (by decide)
def hookM (n : Nat) (c : Cfg) (e : HeadX) : PySem.W.Hook where
  α := AlM
  obs := fun s => obsM n c e s.heap.get?
  val := fun _ => valM c e
  says := fun _ h => ∃ K : Frag, K.In h ∧ SaysM c e h K
  of := fun _ _ q => ⟨_, frM_in, saysM_of q⟩
  keeps := fun _ _ _ ⟨K, hK, s⟩ k => ⟨K, Frag.In.keeps hK k, ⟨s.d, s.xi, s.more, s.hd, s.out, fun p hp => k _ _ (s.empty p hp), s.nolist⟩⟩
theorem obsM_eq {n : Nat} {c : Cfg} {e : HeadX} {g : Addr → Option Obj} {s : Shared} (h : ∀ a, g a = s.heap.get? a) : obsM n c e g = (hookM n c e).obs s := by
  have q : g = s.heap.get? := funext h
  rw [q] <;> rfl
/-! ### what the facts give -/
def R0 (c : Cfg) (K : Frag) (mg : Str → Option Value) : RC := ⟨K, mg, fun _ _ _ => none, "", fun C d a => ExT (.ref C) d a, TOf c K⟩
/-- what the text itself says -/
structure HeadOk (c : Cfg) (e : HeadX) (P : Program) : Prop where
  subs : ∀ k k' b, c.subs k k' = some b → k ∈ e.exn ∧ k' ∈ e.exn
  fok : ∀ f x, c.fok f x = true → (f, x) ∈ e.flds
  teach : ∀ x, c.teach x = true → x ∈ e.exn
  xi : ∀ (i : Nat) (x p f : Str), c.exis[i]? = some (x, p, f) → ∃ d ∈ e.xi, d.x = x ∧ d.p = p ∧ d.f = f
  xok : ∀ d ∈ e.xi, XiOk P d
  file : P.main.file = e.file
  tree : P.given.tree = none
theorem ns_move {h base : Heap} {K : Frag} {a : Addr} {m : Str → Option Value} (X : K.In h) (Y : K.In base) (k : (K.lookup a).isSome = true) (n : h.Ns a m) : base.Ns a m := by
  obtain ⟨o, es, ep, e, r⟩ := n
  obtain ⟨u, hu⟩ := Option.isSome_iff_exists.mp k
  have e2 := X a u hu
  rw [e] at e2
  cases e2
  exact ⟨o, es, ep, Y a o hu, r⟩
theorem gloB_ok {K : Frag} {h : Heap} {mg : Str → Option Value} (X : K.In h) (G : h.Ns mainGlobals mg) {x : Str} (b : gloB K x = true) : mg x = some (.ref (ga K x)) := PySem.W.mg_of X G (He.eqO_ok b)
theorem seer_move {h base : Heap} {K : Frag} {mg : Str → Option Value} (X : K.In h) (Y : K.In base) (G : h.Ns mainGlobals mg) (k : placeB K = true) (n : h.NoSeer) : base.NoSeer := by
  unfold placeB at k
  obtain ⟨a1, k⟩ := ba k
  obtain ⟨a2, k⟩ := ba k
  obtain ⟨a3, k⟩ := ba k
  obtain ⟨a4, k⟩ := ba k
  obtain ⟨a5, a6⟩ := ba k
  refine ⟨?_, ?_, ?_, ?_⟩
  · obtain ⟨mc, z, r⟩ := n.statics
    exact ⟨mc, ns_move X Y a1 z, r⟩
  · obtain ⟨mc, z, r⟩ := n.mods
    exact ⟨mc, ns_move X Y a2 z, r⟩
  · obtain ⟨mc, z, r⟩ := n.imp
    exact ⟨mc, ns_move X Y a3 z, r⟩
  · obtain ⟨mg', bm, ob, z, z2, z3, r⟩ := n.main
    have e := gloB_ok X z a5
    rw [z2] at e
    cases e
    obtain ⟨u, hu⟩ := Option.isSome_iff_exists.mp a6
    have e2 := X _ u hu
    rw [z3] at e2
    cases e2
    exact ⟨mg', _, ob, ns_move X Y a4 z, z2, Y _ _ hu, r⟩
section
variable {c : Cfg} {e : HeadX} {P : Program} {w : World} {h base : Heap} {K : Frag} {mg : Str → Option Value}
theorem SaysM.fn (s : SaysM c e h K) {x : Str} {n : Nat} (hx : (x, n) ∈ c.fns) : ∃ fd, FunD K x x (defArgs (c.top n)) (defBody (c.top n)) (defScope (c.top n)) [] [] (ga K x) fd :=
  He.SaysD.defs s.d (d := ⟨(x, none), x, x, defArgs (c.top n), defBody (c.top n), defScope (c.top n), [], []⟩) (List.mem_map.mpr ⟨(x, n), hx, rfl⟩)
theorem fun_of {x : Str} {st : Stmt} {f : Addr} {fd : FuncData} (F : FunD K x x (defArgs st) (defBody st) (defScope st) [] [] f fd) : Fun K x x st f fd := by
  obtain ⟨oc, od, dV, kV, doc, pm, an, cdv, ct, osl, e1, e2, e3, e4, e5⟩ := F.ex
  rcases e4 with ⟨_, e6⟩ | ⟨e6, _⟩
  · subst e6
    exact ⟨⟨oc, od, kV, doc, pm, an, cdv, ct, osl, e1, e2, e3⟩, F.kp⟩
  · exact (e6 rfl).elim
theorem ev_of (s : SaysM c e h K) (ok : HeadOk c e P) (Y : K.In base) (G : base.Ns mainGlobals mg) (sd : base.NoSeer) (TB : ∀ p ∈ tfOf c, TabB base mg (cT K p).1 (cT K p).2) : Ev c P w base (R0 c K mg) := by
  have m := s.more
  unfold exOf at m
  obtain ⟨a1, m⟩ := ba m
  obtain ⟨a2, m⟩ := ba m
  obtain ⟨a3, m⟩ := ba m
  obtain ⟨a4, m⟩ := ba m
  obtain ⟨a5, m⟩ := ba m
  obtain ⟨a6, m⟩ := ba m
  obtain ⟨a7, a8⟩ := ba m
  have exn : ∀ k ∈ e.exn, mg k = some (.ref (ga K k)) ∧ XkC K (ga K k) ∧ (∀ k' ∈ e.exn, xpB c K k k' = true) ∧ PySem.W.exmOne K (.ref (ga K k)) (.ref (ga K "TeachError")) = some true := fun k hk => by
    obtain ⟨b1, z⟩ := ba (List.all_eq_true.mp a5 k hk)
    obtain ⟨b2, z⟩ := ba z
    obtain ⟨b3, b4⟩ := ba z
    exact ⟨gloB_ok Y G b1, xkB_ok b2, fun k' hk' => List.all_eq_true.mp b3 k' hk', of_decide_eq_true b4⟩
  refine {
    B := ⟨⟨fun i a c' o z => (by cases z), fun C d a ps z => (by cases z)⟩, sd, ok.tree⟩
    eo := fun C d a => rfl
    free := fun i x hi => ?_
    imps := fun i x id hi => ?_
    fns := fun i x n hi => ?_
    consts := fun i x v hi => ?_
    excs := fun i x hi => ?_
    exis := fun i x p f hi => ?_
    xs := ⟨fun k k' C C' b hb hC hC' => ?_, fun k k' C b hb hC => ?_, fun C d a => rfl⟩
    fld := fun f x C hf hC => ?_
    teach := ⟨ga K "TeachError", gloB_ok Y G a2, fun x C hx hC => ?_⟩
    lams := fun i x n f fd hi hn hf Fu => ?_ }
  · exact He.free_ok Y G (x := x) (He.SaysD.facts s.d (List.mem_append_left _ (List.mem_map.mpr ⟨x, List.mem_of_getElem? hi, rfl⟩)))
  · have z := List.all_eq_true.mp a3 _ (List.mem_of_getElem? hi)
    exact PySem.W.mg_of Y G (He.eqO_ok z)
  · obtain ⟨fd, F⟩ := s.fn (List.mem_of_getElem? hi)
    have z : (Fa.glo x) ∈ faOf c e := List.mem_append_right _ (List.mem_append_left _ (List.mem_map.mpr ⟨(x, n), List.mem_of_getElem? hi, rfl⟩))
    exact ⟨_, fd, He.glo_ok Y G (He.SaysD.facts s.d z), fun_of F⟩
  · have z := List.all_eq_true.mp a4 _ (List.mem_of_getElem? hi)
    dsimp only at z
    cases v with
    | int j => exact He.int_ok Y G z
    | str y => exact He.str_ok Y G z
    | tup vs =>
      obtain ⟨z1, z2⟩ := ba z
      rcases He.tupB_ok z2 (fun _ => none) with q | ⟨o, its, n, q1, q2, q3, q4, q5⟩
      · rcases q with q | ⟨o, q⟩ <;> cases q
      · rw [List.map_map] at q5
        exact ⟨ga K x, o, its, n, gloB_ok Y G z1, q1, q2, q3, q4, q5⟩
  · have z1 : (Fa.glo x) ∈ faOf c e := List.mem_append_right _ (List.mem_append_right _ (List.mem_append_left _ (List.mem_map.mpr ⟨x, List.mem_of_getElem? hi, rfl⟩)))
    have z2 : (Fa.exc x) ∈ faOf c e := List.mem_append_right _ (List.mem_append_right _ (List.mem_append_right _ (List.mem_map.mpr ⟨x, List.mem_of_getElem? hi, rfl⟩)))
    obtain ⟨q1, q2, q3, q4⟩ := He.exc_ok (He.SaysD.facts s.d z2)
    exact ⟨_, He.glo_ok Y G (He.SaysD.facts s.d z1), q1, q2, q3, q4⟩
  · obtain ⟨d, hd, rfl, rfl, rfl⟩ := ok.xi i x p f hi
    obtain ⟨z1, z2⟩ := ba (List.all_eq_true.mp a7 d hd)
    obtain ⟨j, hj, ej⟩ := List.mem_iff_getElem.mp hd
    have z3 := congrArg (fun l : List FnI => l[j]?) s.xi
    simp only [List.getElem?_map, List.getElem?_eq_getElem hj, Option.map_some, Option.some.injEq, ej] at z3
    exact exi_of (R := R0 c K mg) Y G (ok.xok d hd) z3 (by rw [ok.file]; exact z1) z2
  · obtain ⟨h1, h2⟩ := ok.subs k k' b hb
    have z := (exn k h1).2.2.1 k' h2
    unfold xpB at z
    rw [hb] at z
    have e1 := (exn k h1).1.symm.trans hC
    have e2 := (exn k' h2).1.symm.trans hC'
    cases e1
    cases e2
    exact of_decide_eq_true z
  · obtain ⟨h1, h2⟩ := ok.subs k k' b hb
    have e1 := (exn k h1).1.symm.trans hC
    cases e1
    exact (exn k h1).2.1
  · obtain ⟨z1, z2⟩ := ba (List.all_eq_true.mp a6 _ (ok.fok f x hf))
    obtain ⟨z3, z4⟩ := ba z2
    have e1 := (gloB_ok Y G z1).symm.trans hC
    cases e1
    exact ⟨xfB_ok z3, He.eqO_ok z4⟩
  · have e1 := (exn x (ok.teach x hx)).1.symm.trans hC
    cases e1
    exact (exn x (ok.teach x hx)).2.2.2
  · have hx : x ∈ c.lamq := List.mem_of_getElem? hi
    have hp : ((x, none) : Defn) ∈ tfOf c := List.mem_map.mpr ⟨x, hx, rfl⟩
    obtain ⟨j, hj⟩ := hn
    have z : (Fa.glo x) ∈ faOf c e := List.mem_append_right _ (List.mem_append_left _ (List.mem_map.mpr ⟨(x, n), List.mem_of_getElem? hj, rfl⟩))
    have e1 := (He.glo_ok Y G (He.SaysD.facts s.d z)).symm.trans hf
    cases e1
    obtain ⟨oc, od, kV, doc, pm, an, cdv, ct, osl, g1, g2, g3⟩ := Fu.ex
    obtain ⟨cd, hcd⟩ := He.codeIn_ref g3
    have hc : fd.code = .ref cd := by rw [g1]; exact hcd
    have hco : He.codeOf K (x, none) = cd := He.codeOf_eq (p := (x, none)) g2 hc
    have T := TB _ hp
    have e2 : (cT K (x, none)).1 = cd := hco
    rw [e2] at T
    refine ⟨cd, (cT K (x, none)).2, hc, T, List.mem_map.mpr ⟨x, hx, rfl⟩, fun p hp' e3 => ?_⟩
    obtain ⟨y, hy, rfl⟩ := List.mem_map.mp hp'
    have z4 := of_decide_eq_true (List.all_eq_true.mp (List.all_eq_true.mp a8 y hy) x hx) e3
    rw [z4]
end
end TL
end
section
/-! The data layer: the end: a law's promise from its data function. -/
namespace TL
open PySem PySem.Spec PyProof.Rows L2
open LamX (Tabs CodeO TabB)
open He (cT ga)
theorem hr_start {c : Cfg} {K : PySem.W.Frag} {mg : Str → Option Value} {H : Hp} (h : ∀ p ∈ (tfOf c).map (cT K), H p.2 = some (.tbl #[])) : HR (R0 c K mg) ⟨[], none, []⟩ H ⟨[], none⟩ where
  nd := List.nodup_nil
  len := rfl
  obj := fun n a o z => by simp at z
  dr := rfl
  tm := fun a ha => by simp at ha
  tb := fun p hp => by
    obtain ⟨x, hx, rfl⟩ := List.mem_map.mp hp
    refine ⟨#[], h _ (List.mem_map.mpr ⟨(x, none), List.mem_map.mpr ⟨x, hx, rfl⟩, rfl⟩), trivial, fun pos cv z => ?_⟩
    cases z
theorem repAll_ints {R : RC} {S : Sto} {H : Hp} : ∀ ns : List Int, RepAll R S H (ns.map V.int) (ns.map D.int)
  | [] => .nil
  | n :: ns => .cons (.int n) (repAll_ints ns)
theorem walkM {c : Cfg} {e : HeadX} {l : PySem.W.OpenLaw} {n k nn nl : Nat} {q : Program} {loose : List Str} {XP : (Str → Option Value) → Heap → Prop} {d : DefRec} {F : List D → M D} {x : Str}
    (hn : l.most = some n) (hn2 : n ≤ sizeLine) (hdf : d.params.defaults = []) (hr : Room k callerA) (hi : importsNone q = true) (hd : d.name = ("law" : Str)) (ok : HeadOk c e l.prog) (hlaw : (("law" : Str), nl) ∈ c.fns)
    (hbind : ∀ (kV doc pm : Value) (an : Option Addr) (cdv ct : Value) (us : List Value), us.length = 1 → bindArgs (PySem.W.fnOf "law" "law" (defArgs (c.top nl)) (defBody (c.top nl)) (defScope (c.top nl)) .none kV doc pm an cdv ct) ⟨us, []⟩ = pure ([x].zip us))
    (dl : ∀ (w : World) (base : Heap) (R : RC), Ev c l.prog w base R → (∀ i f c, R.clo i f c = none) → FnD l.prog w base R "law" k [x] (c.top nl) F)
    (hl : ∀ (ns : List Int) (s : D), ns.length ≤ n → (∀ z ∈ ns, Builtin.Int.intBits z ≤ 1048576) → (s = .scr ns ∨ s = .lst (ns.map D.int)) → wp (F [s] ⟨[], none⟩) fun v _ => v = .bl true) :
    PySem.W.WalkO q loose XP (hookM nn c e).says l.row.toRowW d [] (fun f vs => PySem.call f vs) := by
  refine Att.attach_callB hn hdf fun w s₀ s₁ mg mb fa o pm cd doc a vs ns G Y ho hdd hcd hmg hobj hints hlen hbits hg => ?_
  obtain ⟨K, KX, says⟩ := Y
  have pl : placeB K = true := by
    have m := says.more
    unfold exOf at m
    exact (He.ba m).1
  obtain ⟨fd, FD⟩ := says.fn hlaw
  have hfa : mg ("law" : Str) = some (.ref fa) := by
    rw [← hd]
    exact hmg
  obtain ⟨oc, od, dV, kV, doc', pm', an, cdv, ct, osl, g1, g2, g3, g4, g5⟩ := FD.ex
  have mem : ∀ p ∈ (tfOf c).map (cT K), ∃ r ∈ tfOf c, cT K r = p := fun p hp => by
    obtain ⟨r, hr', e'⟩ := List.mem_map.mp hp
    exact ⟨r, hr', e'⟩
  refine LamX.law_callTs (CX := L2.CX l.prog w) (k := k) (fd := fd) (x := x) (sp := spD (R0 c K mg) 1 F) (cs := (tfOf c).map (cT K)) KX G.T.g G.T.b G.T.builtins G.T.nolimit hg ?hT ?nT ?hC G.T.bmain hobj hints (Nat.le_trans hlen hn2) hr ?hF ?hb ?hsp ?hCX
  case hT =>
    intro p hp
    obtain ⟨r, h1, rfl⟩ := mem p hp
    exact says.empty r h1
  case nT =>
    intro p hp
    obtain ⟨r, h1, rfl⟩ := mem p hp
    exact says.out r h1
  case hC =>
    intro p hp
    obtain ⟨r, h1, rfl⟩ := mem p hp
    exact PySem.W.codeHd_of_K KX (says.hd r h1)
  case hF =>
    intro base Kb Gb TB
    have V : Ev c l.prog w base (R0 c K mg) := ev_of says ok Kb Gb (seer_move KX Kb G.T.g pl (G.T.seer hi)) fun p hp => TB _ (List.mem_map.mpr ⟨p, hp, rfl⟩)
    obtain ⟨f', fd', h1, h2, h3, h4⟩ := (dl w base (R0 c K mg) V (fun _ _ _ => rfl)).ex
    have e1 := hfa.symm.trans h2
    cases e1
    obtain ⟨oc', od', kV', doc2, pm2, an2, cdv2, ct2, osl2, j1, j2, j3⟩ := h3.ex
    have e2 : fa = ga K "law" := by
      have z : (He.Fa.glo "law") ∈ faOf c e := List.mem_append_right _ (List.mem_append_left _ (List.mem_map.mpr ⟨_, hlaw, rfl⟩))
      have z2 := He.glo_ok KX G.T.g (He.SaysD.facts says.d z)
      have e3 := hfa.symm.trans z2
      cases e3
      rfl
    have e4 : fd' = fd := by
      have j2' : K.lookup fa = _ := j2
      rw [e2, g2] at j2'
      cases j2'
      rfl
    subst e4
    exact h1
  case hb =>
    intro s u
    exact FunD.bindsA (ps := [x]) FD hbind s [u] rfl
  case hsp =>
    intro H hH hS
    refine ⟨rfl, ⟨[], none, []⟩, ⟨[], none⟩, ?_⟩
    have fin : ∀ s : D, (s = .scr ns ∨ s = .lst (ns.map D.int)) → Rep (R0 c K mg) ⟨[], none, []⟩ H (.ref a) s → ∃ ds, HR (R0 c K mg) ⟨[], none, []⟩ H ⟨[], none⟩ ∧ RepAll (R0 c K mg) ⟨[], none, []⟩ H [.ref a] ds ∧ RoutG (R0 c K mg) ⟨[], none, []⟩ H (fun _ _ _ => False) (PV (R0 c K mg) fun v _ => v = .bl true) (F ds ⟨[], none⟩) := fun s hs hr' => by
      refine ⟨[s], hr_start hH, .cons hr' .nil, ?_⟩
      have z := hl ns s hlen hbits hs
      cases q2 : F [s] ⟨[], none⟩ with
      | ok v m' =>
        rw [q2] at z
        have z' : v = .bl true := z
        subst z'
        intro H' S' _ _ v' rv
        cases rv
        rfl
      | _ => rw [q2] at z; exact z.elim
    rcases hS with q1 | ⟨o', its, m', q1, q2, _⟩
    · rcases q1 with q1 | ⟨o', q1⟩
      · exact fin _ (.inr rfl) (.lst ⟨q1, by simp [Sto.mut, Sto.rest, Sto.drs]⟩ (repAll_ints ns))
      · exact fin _ (.inl rfl) (.scr q1 (by simp [Sto.mut, Sto.rest, Sto.drs]))
    · exact (says.nolist _ _ q1 q2).elim
  case hCX =>
    intro H e' s' z
    obtain ⟨_, _, _, _, _, _, _, _, _, _, _, _, z⟩ := z
    exact z
end TL
end
section
/-! The head of a program that begins with imports: boot, imports and top run in the kernel over the heap as a tree. -/
noncomputable section
namespace TL
open PySem PySem.W PySem.Calls PyProof.Rows HandSHeadRun
/-- the opening, to its end -/
def impF (st : SharedT → Thread → Option (SharedT × Thread)) : Nat → SharedT → Thread → Option SharedT
  | 0, _, _ => none
  | m + 1, s, t => match t.atExitBegin with
    | some [] => some s
    | some (_ :: _) => none
    | none => match st s t with
      | some (s', t') => frS s' fun s' => impF st m s' t'
      | none => none
theorem impF_ok {tb : String → Option Builtin} {p : Program} {w : World} : ∀ {m : Nat} {s s' : SharedT} {t : Thread}, impF (stepT (denote tb) p w) m s t = some s' → importEnds tb p w m s.abs t = some s'.abs
  | 0, _, _, _, h => by cases h
  | m + 1, s, s', t, h => by
    unfold impF at h
    unfold importEnds
    cases ht : t.atExitBegin with
    | some l =>
      rw [ht] at h
      cases l with
      | nil => cases h; rfl
      | cons _ _ => cases h
    | none =>
      rw [ht] at h
      dsimp only at h ⊢
      cases hs : stepT (denote tb) p w s t with
      | none => rw [hs] at h; cases h
      | some r =>
        obtain ⟨s2, t2⟩ := r
        rw [hs] at h
        dsimp only at h
        rw [frS_eq] at h
        rw [stepT_spec hs]
        exact impF_ok h
def startT (p : Program) : SharedT := ⟨.nil, 0, {}, #[], {}, 1, (start p).1.os⟩
theorem startT_abs (p : Program) : (startT p).abs = (start p).1 := rfl
def annT (s : Shared) : Option Value := s.heap.nsMap mainGlobals "__annotations__"
def treeT (s : Shared) (t : BT) (n : Nat) : SharedT := ⟨t, n, s.heap.life, s.gens, s.drawn, s.toks, s.os⟩
theorem treeT_abs {s : Shared} {t : BT} {n : Nat} (e : putAll s.heap.objs.toList .nil 0 = some (t, n)) : (treeT s t n).abs = s := by
  show (⟨absHeap t n s.heap.life, s.gens, s.drawn, s.toks, s.os⟩ : Shared) = s
  rw [putAll_heap e]
/-- from a state, over the tree, the top -/
def topT (st : SharedT → Thread → Option (SharedT × Thread)) (p : Program) (M : Nat) (s : Shared) : Option SharedT := match putAll s.heap.objs.toList .nil 0 with
  | some (t, n) => frNat n fun n => goF st n (annT s) M (treeT s t n) (topStub p)
  | none => none
def afterImp (st : Program → SharedT → Thread → Option (SharedT × Thread)) (p : Program) (M1 M : Nat) : Option (Shared × SharedT) :=
  ((impF (st (opening p)) M1 (startT (opening p)) (start (opening p)).2).bind fun s => fenceModules? p s.abs).bind fun s0 => (topT (st p) p M s0).map fun s => (s0, s)
def RunI (r : OpenRow) (q : Program) (H : Hook) (ob : SharedT → H.α) (M1 M : Nat) (loose : List PySem.Str) (w : World) : Prop :=
  (afterImp (fun p => stepQ (denQ tabQ) p w) r.prog M1 M).map (fun z => (z.1.heap.isNs mainGlobals && (z.1.gens.size == 0 && looksF r.prog z.1.heap z.2.abs), seenQ q loose (importedModules r.prog.main.body) (fun s => xlAt q [] s && recOk r.toRowW.records s) z.2.abs, ob z.2)) = some (true, openGood q loose, H.val w)
theorem head_imp {r : OpenRow} {q : Program} {H : Hook} {ob : SharedT → H.α} {M1 M : Nat} {loose : List PySem.Str} {d : DefRec} {kwd : List (PySem.Str × PySem.Expr)} (ho : ∀ s : SharedT, ob s = H.obs s.abs)
    (run : ∀ w, RunI r q H ob M1 M loose w)
    (hdef : defOf q r.name = some (d, kwd)) (hp : r.prog.theDef r.name = some (d.params, d.body, d.scope)) (hk : kwWritten? d.params.kwonlyargs d.params.kw_defaults = some kwd)
    (hwr : (!r.writes || r.records.isEmpty) = true) (k1 : r.wellSaid = true) (ok : (chainsOk q && opensWell r.prog && (frees r.toRowW && r.within.isEmpty)) = true) (hb : r.prog.bare) (hw : r.toRowW.promised)
    (call : WalkO q loose (XL q []) H.says r.toRowW d kwd fun f vs => PySem.call f vs) : r.Holds := by
  have left : LeftO r.prog q loose (fun s => xlAt q [] s && recOk r.toRowW.records s) H.obs H.val (M1 + M) true := fun w => by
    have z := run w
    unfold RunI afterImp at z
    rw [← stepQ_eq, ← denQ_eq, ← tabQ_eq] at z
    cases e0 : impF (stepT (denote treeTable) (opening r.prog) w) M1 (startT (opening r.prog)) (start (opening r.prog)).2 with
    | none => rw [e0] at z; cases z
    | some si =>
      rw [e0] at z
      dsimp only [Option.bind_some] at z
      cases ef : fenceModules? r.prog si.abs with
      | none => rw [ef] at z; cases z
      | some s0 =>
        rw [ef] at z
        dsimp only [Option.bind_some] at z
        cases e1 : topT (stepT (denote treeTable) r.prog w) r.prog M s0 with
        | none => rw [e1] at z; cases z
        | some s =>
          rw [e1] at z
          have z' := Option.some.inj z
          simp only [Prod.mk.injEq, Bool.and_eq_true] at z'
          obtain ⟨⟨z1, z2, z3⟩, z4, z5⟩ := z'
          have a := importEnds_mono M _ _ _ _ (impF_ok e0)
          rw [startT_abs] at a
          have fo : fencedOpening treeTable r.prog w (M1 + M) = some s0 := by
            unfold fencedOpening
            rw [a]
            exact ef
          unfold topT at e1
          cases ep : putAll s0.heap.objs.toList .nil 0 with
          | none => rw [ep] at e1; cases e1
          | some tn =>
            obtain ⟨t, n⟩ := tn
            rw [ep] at e1
            dsimp only at e1
            rw [frNat_eq] at e1
            have b := topRun_mono M1 _ _ _ _ (goF_ok e1)
            rw [show M + M1 = M1 + M by omega, treeT_abs ep] at b
            have en : s0.heap.objs.size = n := by
              rw [← putAll_heap ep]
              exact absHeap_size _ _ _
            have tt : topFrom treeTable r.prog w (M1 + M) s0 = some s.abs := by
              unfold topFrom
              have c1 : (s0.heap.isNs mainGlobals && s0.gens.size == 0) = true := by
                rw [z1]
                exact z2
              rw [c1, en]
              show (topRun treeTable r.prog w n (annT s0) (M1 + M) s0 (topStub r.prog)).bind _ = _
              rw [b]
              show (match looksF r.prog s0.heap s.abs with | true => some s.abs | false => none) = _
              rw [z3]
            unfold openEnds
            rw [fo]
            show (topFrom treeTable r.prog w (M1 + M) s0).map _ = _
            rw [tt]
            refine congrArg some (Prod.ext ?_ ?_)
            · show openSeen q loose (importedModules r.prog.main.body) (fun s => xlAt q [] s && recOk r.toRowW.records s) true s.abs = openGood q loose
              rw [seenQ_eq]
              exact z4
            · show H.obs s.abs = _
              rw [← ho]
              exact z5
  exact holds_open (r := r) (q := q) (loose := loose) (XP := XL q []) (YP := H.says) (d := d) (kwd := kwd) left H.of H.keeps (fun s z => xl_of s (Bool.and_eq_true_iff.mp z).1) XL.keeps hdef hp hk (fun s z => recFacts_of (Bool.and_eq_true_iff.mp z).2) hwr k1 ok hb hw call
end TL
end
end
section
/-! Printed by gen.py: the data functions of the law. -/
namespace TL
namespace K00
open PySem PySem.Spec PyProof.Rows L2
/-- isinstance among the classes -/
def subs (x y : Str) : Option Bool := if (x = "BadNumber" ∨ x = "BadVector" ∨ x = "BadWidth" ∨ x = "BadRows") ∧ (y = "BadNumber" ∨ y = "BadVector" ∨ y = "BadWidth" ∨ y = "BadRows") then some (decide (x = y)) else none
def fok (f x : Str) : Bool := (decide (x = "BadNumber") && decide (f = "part")) || (decide (x = "BadRows") && decide (f = "index"))
def teach (x : Str) : Bool := decide (x = "BadNumber") || decide (x = "BadVector") || decide (x = "BadWidth") || decide (x = "BadRows")
noncomputable def u_is_whole : FS := (sRet (dAnd (dCallB (arg2 (isiX subs)) (aCons (dVar 0) (aCons (dC (.ty .int)) aNil))) (dNot (dCallB (arg2 (isiX subs)) (aCons (dVar 0) (aCons (dC (.ty .bool)) aNil))))))
@[irreducible] noncomputable def F_is_whole : List D → M D := bodyF u_is_whole 1
noncomputable def u_is_ratio : FS := (sSeq (sIf (bOr (bNot (toB (dCallB (arg2 (isiX subs)) (aCons (dVar 0) (aCons (dC (.ty .tuple)) aNil))))) (bOr (toB (dBin (eqD true) (dCallB (arg1 lenD) (aCons (dVar 0) aNil)) (dC (.int 2)))) (bNot (toB (dCallB (arg1 allD) (aCons (dLc false [1] (iSeq (dVar 0)) (gN 1) bYes (dCall (lenF 1 F_is_whole) (aCons (dVar 1) aNil))) aNil))))))
  (sRet (dC (.bl false)))
  sNext)
  (sRet (dAnd (dBin (gtI) (dBin ixD (dVar 0) (dC (.int 1))) (dC (.int 0))) (dBin (eqD false) (dCallB (arg2 gcdD) (aCons (dBin ixD (dVar 0) (dC (.int 0))) (aCons (dBin ixD (dVar 0) (dC (.int 1))) aNil))) (dC (.int 1))))))
@[irreducible] noncomputable def F_is_ratio : List D → M D := bodyF u_is_ratio 2
noncomputable def u_lowest : FS := (sSeq (sAsg (dIf (toB (dBin (gtI) (dVar 1) (dC (.int 0)))) (dCallB (arg2 gcdD) (aCons (dVar 0) (aCons (dVar 1) aNil))) (dNeg (dCallB (arg2 gcdD) (aCons (dVar 0) (aCons (dVar 1) aNil))))) (gN 2))
  (sRet (dTup (aCons (dBin (fdivD) (dVar 0) (dVar 2)) (aCons (dBin (fdivD) (dVar 1) (dVar 2)) aNil)))))
@[irreducible] noncomputable def F_lowest : List D → M D := bodyF u_lowest 3
noncomputable def u_plus : FS := (sRet (dCall (lenF 2 F_lowest) (aCons (dBin (addD false) (dBin (mulD false) (dBin ixD (dVar 0) (dC (.int 0))) (dBin ixD (dVar 1) (dC (.int 1)))) (dBin (mulD false) (dBin ixD (dVar 1) (dC (.int 0))) (dBin ixD (dVar 0) (dC (.int 1))))) (aCons (dBin (mulD false) (dBin ixD (dVar 0) (dC (.int 1))) (dBin ixD (dVar 1) (dC (.int 1)))) aNil))))
@[irreducible] noncomputable def F_plus : List D → M D := bodyF u_plus 2
noncomputable def u_times : FS := (sRet (dCall (lenF 2 F_lowest) (aCons (dBin (mulD false) (dBin ixD (dVar 0) (dC (.int 0))) (dBin ixD (dVar 1) (dC (.int 0)))) (aCons (dBin (mulD false) (dBin ixD (dVar 0) (dC (.int 1))) (dBin ixD (dVar 1) (dC (.int 1)))) aNil))))
@[irreducible] noncomputable def F_times : List D → M D := bodyF u_times 2
noncomputable def u_total : FS := (sSeq (sAsg (dC (.tup [(.int 0), (.int 1)])) (gN 1))
  (sSeq (sFor (iSeq (dVar 0)) (gN 2)
  (sAsg (dCall (lenF 2 F_plus) (aCons (dVar 1) (aCons (dVar 2) aNil))) (gN 1)))
  (sRet (dVar 1))))
@[irreducible] noncomputable def F_total : List D → M D := bodyF u_total 3
noncomputable def u_ratio : FS := (sSeq (sIf (bNot (toB (dCall (lenF 1 F_is_whole) (aCons (dVar 0) aNil))))
  (sRaiseF "BadNumber" "part" (dC (.str "n")))
  sNext)
  (sSeq (sIf (bOr (bNot (toB (dCall (lenF 1 F_is_whole) (aCons (dVar 1) aNil)))) (toB (dBin (eqD false) (dVar 1) (dC (.int 0)))))
  (sRaiseF "BadNumber" "part" (dC (.str "d")))
  sNext)
  (sRet (dCall (lenF 2 F_lowest) (aCons (dVar 0) (aCons (dVar 1) aNil))))))
@[irreducible] noncomputable def F_ratio : List D → M D := bodyF u_ratio 2
noncomputable def u_is_vector : FS := (sRet (dAnd (dCallB (arg2 (isiX subs)) (aCons (dVar 0) (aCons (dC (.ty .tuple)) aNil))) (dAnd (dChain (leI) (leI) (dC (.int 1)) (dCallB (arg1 lenD) (aCons (dVar 0) aNil)) (dC (.int 200))) (dCallB (arg1 allD) (aCons (dLc false [1] (iSeq (dVar 0)) (gN 1) bYes (dCall (lenF 1 F_is_ratio) (aCons (dVar 1) aNil))) aNil)))))
@[irreducible] noncomputable def F_is_vector : List D → M D := bodyF u_is_vector 2
noncomputable def u_dot : FS := (sRet (dCall (lenF 1 F_total) (aCons (dLc false [2, 3] (iZip2 (aCons (dVar 0) (aCons (dVar 1) aNil))) (gT 2 (gsCons (gN 2) (gsCons (gN 3) gsNil))) bYes (dCall (lenF 2 F_times) (aCons (dVar 2) (aCons (dVar 3) aNil)))) aNil)))
@[irreducible] noncomputable def F_dot : List D → M D := bodyF u_dot 4
noncomputable def u_scaled : FS := (sRet (dCallB (arg1 tupleD) (aCons (dLc false [2] (iSeq (dVar 1)) (gN 2) bYes (dCall (lenF 2 F_times) (aCons (dVar 0) (aCons (dVar 2) aNil)))) aNil)))
@[irreducible] noncomputable def F_scaled : List D → M D := bodyF u_scaled 3
noncomputable def u_added : FS := (sRet (dCallB (arg1 tupleD) (aCons (dLc false [2, 3] (iZip2 (aCons (dVar 0) (aCons (dVar 1) aNil))) (gT 2 (gsCons (gN 2) (gsCons (gN 3) gsNil))) bYes (dCall (lenF 2 F_plus) (aCons (dVar 2) (aCons (dVar 3) aNil)))) aNil)))
@[irreducible] noncomputable def F_added : List D → M D := bodyF u_added 4
noncomputable def u_mixed : FS := (sSeq (sAsg (dBin (mulD false) (dTup (aCons (dC (.tup [(.int 0), (.int 1)])) aNil)) (dCallB (arg1 lenD) (aCons (dBin ixD (dVar 1) (dC (.int 0))) aNil))) (gN 2))
  (sSeq (sFor (iZip2 (aCons (dVar 0) (aCons (dVar 1) aNil))) (gT 2 (gsCons (gN 3) (gsCons (gN 4) gsNil)))
  (sAsg (dCall (lenF 2 F_added) (aCons (dVar 2) (aCons (dCall (lenF 2 F_scaled) (aCons (dVar 3) (aCons (dVar 4) aNil))) aNil))) (gN 2)))
  (sRet (dVar 2))))
@[irreducible] noncomputable def F_mixed : List D → M D := bodyF u_mixed 5
noncomputable def u_inner : FS := (sSeq (sIf (bOr (bNot (toB (dCall (lenF 1 F_is_vector) (aCons (dVar 0) aNil)))) (bNot (toB (dCall (lenF 1 F_is_vector) (aCons (dVar 1) aNil)))))
  (sRaise "BadVector" (dC (.str "a vector is needed")))
  sNext)
  (sSeq (sIf (toB (dBin (eqD true) (dCallB (arg1 lenD) (aCons (dVar 0) aNil)) (dCallB (arg1 lenD) (aCons (dVar 1) aNil))))
  (sRaise "BadWidth" (dC (.str "vectors that are as long are needed")))
  sNext)
  (sRet (dCall (lenF 2 F_dot) (aCons (dVar 0) (aCons (dVar 1) aNil))))))
@[irreducible] noncomputable def F_inner : List D → M D := bodyF u_inner 2
noncomputable def u_need_rows : FS := (sSeq (sIf (bOr (bNot (toB (dCallB (arg2 (isiX subs)) (aCons (dVar 0) (aCons (dTup (aCons (dC (.ty .list)) (aCons (dC (.ty .tuple)) aNil))) aNil))))) (bNot (toB (dChain (leI) (leI) (dC (.int 1)) (dCallB (arg1 lenD) (aCons (dVar 0) aNil)) (dC (.int 200))))))
  (sRaiseF "BadRows" "index" (dC .non))
  sNext)
  (sFor (iEnum (aCons (dVar 0) aNil)) (gT 2 (gsCons (gN 1) (gsCons (gN 2) gsNil)))
  (sIf (bOr (bNot (toB (dCall (lenF 1 F_is_vector) (aCons (dVar 2) aNil)))) (toB (dBin (eqD true) (dCallB (arg1 lenD) (aCons (dVar 2) aNil)) (dCallB (arg1 lenD) (aCons (dBin ixD (dVar 0) (dC (.int 0))) aNil)))))
  (sRaiseF "BadRows" "index" (dVar 1))
  sNext)))
@[irreducible] noncomputable def F_need_rows : List D → M D := bodyF u_need_rows 3
noncomputable def u_combined : FS := (sSeq (sIf (bNot (toB (dCall (lenF 1 F_is_vector) (aCons (dVar 0) aNil))))
  (sRaise "BadVector" (dC (.str "a vector is needed")))
  sNext)
  (sSeq (sIf (bOr (bNot (toB (dCallB (arg2 (isiX subs)) (aCons (dVar 1) (aCons (dTup (aCons (dC (.ty .list)) (aCons (dC (.ty .tuple)) aNil))) aNil))))) (toB (dBin (eqD true) (dCallB (arg1 lenD) (aCons (dVar 1) aNil)) (dCallB (arg1 lenD) (aCons (dVar 0) aNil)))))
  (sRaiseF "BadRows" "index" (dC .non))
  sNext)
  (sSeq (sExpr (dCall (lenF 1 F_need_rows) (aCons (dVar 1) aNil)))
  (sRet (dCall (lenF 2 F_mixed) (aCons (dVar 0) (aCons (dVar 1) aNil)))))))
@[irreducible] noncomputable def F_combined : List D → M D := bodyF u_combined 2
noncomputable def u_is_word : FS := (sRet (dAnd (dCallB (arg2 (isiX subs)) (aCons (dVar 0) (aCons (dC (.ty .str)) aNil))) (dAnd (dChain (leI) (leI) (dC (.int 1)) (dCallB (arg1 lenD) (aCons (dVar 0) aNil)) (dC (.int 8))) (dCallB (arg1 allD) (aCons (dLc false [1] (iSeq (dVar 0)) (gN 1) bYes (dBin (inD false) (dVar 1) (dC (.str "abcdefghijklmnopqrstuvwxyz")))) aNil)))))
@[irreducible] noncomputable def F_is_word : List D → M D := bodyF u_is_word 2
noncomputable def u__law_begun : FS := sBegun (dLc true [2] (iSeq (dVar 0)) (gN 2) (toB (dBin (geI) (dCallB (arg1 absD) (aCons (dVar 2) aNil)) (dBin (powD) (dC (.int 10)) (dC (.int 18))))) (dBin (subD) (dCallB (arg1 absD) (aCons (dVar 2) aNil)) (dBin (powD) (dC (.int 10)) (dC (.int 18))))) (dLc false [2] (iSeq (dVar 0)) (gN 2) bYes (dCallB (arg1 absD) (aCons (dVar 2) aNil))) 1
@[irreducible] noncomputable def F__law_begun : List D → M D := bodyF u__law_begun 3
noncomputable def u__law_blended : FS := (sSeq (sPar2 1 2 (aCons (dBin (addD false) (dBin ixDr (dVar 0) (dC (.str "turn"))) (dC (.int 1))) (aCons (dC (.int 0)) aNil)))
  (sSeq (sAsg (dVar 1) (gSubDr (dVar 0) (dC (.str "turn"))))
  (sSeq (sFor (iSeq (dLst false (aCons (dC (.int 2147483579)) (aCons (dC (.int 2147483629)) (aCons (dC (.int 2147483563)) aNil))))) (gN 3)
  (sSeq (sAsg (dBin (addD false) (dBin (mulD false) (dC (.int 48271)) (dVar 1)) (dBin (fdivD) (dVar 3) (dC (.int 53)))) (gN 4))
  (sSeq (sFor (iSeq (dBin ixDr (dVar 0) (dC (.str "cells")))) (gN 5)
  (sAsg (dBin (modD) (dCallB (arg1 intD) (aCons (dBin (addD false) (dBin (addD false) (dBin (mulD false) (dVar 4) (dC (.int 69621))) (dVar 5)) (dVar 1)) aNil)) (dVar 3)) (gN 4)))
  (sAsg (dBin (addD false) (dBin (mulD false) (dVar 2) (dC (.int 2147483647))) (dBin (modD) (dCallB (arg1 intD) (aCons (dBin (powD) (dVar 4) (dC (.int 5))) aNil)) (dVar 3))) (gN 2)))))
  (sRet (dVar 2)))))
@[irreducible] noncomputable def F__law_blended : List D → M D := bodyF u__law_blended 6
noncomputable def u__law_draw : FS := (sSeq (sIf (toB (dBin (eqD false) (dBin ixDr (dVar 0) (dC (.str "rest"))) (dC (.int 0))))
  (sAsg (dIf (toB (dBin (eqD true) (dBin ixDr (dVar 0) (dC (.str "great"))) (dLst false aNil))) (dMeth "list" popAtD (dBin ixDr (dVar 0) (dC (.str "great"))) (aCons (dC (.int 0)) aNil)) (dCall (lenF 1 F__law_blended) (aCons (dVar 0) aNil))) (gSubDr (dVar 0) (dC (.str "rest"))))
  sNext)
  (sSeq (sAsg (dBin (modD) (dCallB (arg1 intD) (aCons (dBin ixDr (dVar 0) (dC (.str "rest"))) aNil)) (dVar 1)) (gN 2))
  (sSeq (sAsg (dBin (fdivD) (dBin ixDr (dVar 0) (dC (.str "rest"))) (dVar 1)) (gSubDr (dVar 0) (dC (.str "rest"))))
  (sRet (dVar 2)))))
@[irreducible] noncomputable def F__law_draw : List D → M D := bodyF u__law_draw 3
noncomputable def u__law_pick : FS := (sRet (dBin ixD (dVar 1) (dCall (lenF 2 F__law_draw) (aCons (dVar 0) (aCons (dCallB (arg1 lenD) (aCons (dVar 1) aNil)) aNil)))))
@[irreducible] noncomputable def F__law_pick : List D → M D := bodyF u__law_pick 2
noncomputable def u__law_is_truth : FS := (sRet (dIf (toB (dVar 1)) (dBin (isD false) (dVar 0) (dC (.bl true))) (dBin (isD false) (dVar 0) (dC (.bl false)))))
@[irreducible] noncomputable def F__law_is_truth : List D → M D := bodyF u__law_is_truth 2
noncomputable def u__law_same : FS := (sSeq (sAsg (dLst true (aCons (dTup (aCons (dVar 0) (aCons (dVar 1) aNil))) aNil)) (gN 2))
  (sSeq (sWhile (toB (dBin (eqD true) (dVar 2) (dLst false aNil)))
  (sSeq (sAsg (dMeth "list" popD (dVar 2) aNil) (gT 2 (gsCons (gN 3) (gsCons (gN 4) gsNil))))
  (sIf (bOr (toB (dBin (isD false) (dVar 4) (dC .non))) (toB (dCallB (arg2 (isiX subs)) (aCons (dVar 4) (aCons (dC (.ty .bool)) aNil)))))
  (sIf (bIf (toB (dBin (isD false) (dVar 4) (dC .non))) (toB (dBin (isD true) (dVar 3) (dC .non))) (bNot (toB (dCall (lenF 2 F__law_is_truth) (aCons (dVar 3) (aCons (dVar 4) aNil))))))
  (sRet (dC (.bl false)))
  sNext)
  (sIf (toB (dCallB (arg2 (isiX subs)) (aCons (dVar 4) (aCons (dTup (aCons (dC (.ty .int)) (aCons (dC (.ty .str)) aNil))) aNil))))
  (sIf (bOr (toB (dCallB (arg2 (isiX subs)) (aCons (dVar 3) (aCons (dC (.ty .bool)) aNil)))) (bOr (toB (dBin (eqD true) (dCallB (arg2 (isiX subs)) (aCons (dVar 3) (aCons (dC (.ty .int)) aNil))) (dCallB (arg2 (isiX subs)) (aCons (dVar 4) (aCons (dC (.ty .int)) aNil))))) (toB (dBin (eqD true) (dVar 3) (dVar 4)))))
  (sRet (dC (.bl false)))
  sNext)
  (sIf (toB (dCallB (arg2 (isiX subs)) (aCons (dVar 4) (aCons (dC (.ty .dict)) aNil))))
  (sSeq sNever
  (sSeq sNever
  sNever))
  (sSeq (sAsg (dLst false (aCons (dAnd (dCallB (arg2 (isiX subs)) (aCons (dVar 3) (aCons (dC (.ty .tuple)) aNil))) (dCallB (arg2 (isiX subs)) (aCons (dVar 4) (aCons (dC (.ty .tuple)) aNil)))) (aCons (dAnd (dCallB (arg2 (isiX subs)) (aCons (dVar 3) (aCons (dC (.ty .list)) aNil))) (dCallB (arg2 (isiX subs)) (aCons (dVar 4) (aCons (dC (.ty .list)) aNil)))) aNil))) (gN 5))
  (sSeq (sIf (bOr (toB (dBin (inD true) (dC (.bl true)) (dVar 5))) (toB (dBin (eqD true) (dCallB (arg1 lenD) (aCons (dVar 3) aNil)) (dCallB (arg1 lenD) (aCons (dVar 4) aNil)))))
  (sRet (dC (.bl false)))
  sNext)
  (sExpr (dMeth "list" extendD (dVar 2) (aCons (dLc false [7, 8] (iZip2 (aCons (dVar 3) (aCons (dVar 4) aNil))) (gT 2 (gsCons (gN 7) (gsCons (gN 8) gsNil))) bYes (dTup (aCons (dVar 7) (aCons (dVar 8) aNil)))) aNil))))))))))
  (sRet (dC (.bl true)))))
@[irreducible] noncomputable def F__law_same : List D → M D := bodyT u__law_same 9
noncomputable def u__law_q : FS := (sSeq (sPar2 2 3 (aCons (dCallB (arg1 absD) (aCons (dVar 0) aNil)) (aCons (dCallB (arg1 absD) (aCons (dVar 1) aNil)) aNil)))
  (sSeq (sWhile (toB (dBin (gtI) (dVar 3) (dC (.int 0))))
  (sPar2 2 3 (aCons (dVar 3) (aCons (dBin (modD) (dCallB (arg1 intD) (aCons (dVar 2) aNil)) (dVar 3)) aNil))))
  (sRet (dIf (toB (dBin (gtI) (dVar 1) (dC (.int 0)))) (dTup (aCons (dBin (fdivD) (dVar 0) (dVar 2)) (aCons (dBin (fdivD) (dVar 1) (dVar 2)) aNil))) (dTup (aCons (dBin (fdivD) (dNeg (dVar 0)) (dVar 2)) (aCons (dBin (fdivD) (dNeg (dVar 1)) (dVar 2)) aNil)))))))
@[irreducible] noncomputable def F__law_q : List D → M D := bodyF u__law_q 4
noncomputable def u__law_plus : FS := (sRet (dCall (lenF 2 F__law_q) (aCons (dBin (addD false) (dBin (mulD false) (dBin ixD (dVar 0) (dC (.int 0))) (dBin ixD (dVar 1) (dC (.int 1)))) (dBin (mulD false) (dBin ixD (dVar 1) (dC (.int 0))) (dBin ixD (dVar 0) (dC (.int 1))))) (aCons (dBin (mulD false) (dBin ixD (dVar 0) (dC (.int 1))) (dBin ixD (dVar 1) (dC (.int 1)))) aNil))))
@[irreducible] noncomputable def F__law_plus : List D → M D := bodyF u__law_plus 2
noncomputable def u__law_times : FS := (sRet (dCall (lenF 2 F__law_q) (aCons (dBin (mulD false) (dBin ixD (dVar 0) (dC (.int 0))) (dBin ixD (dVar 1) (dC (.int 0)))) (aCons (dBin (mulD false) (dBin ixD (dVar 0) (dC (.int 1))) (dBin ixD (dVar 1) (dC (.int 1)))) aNil))))
@[irreducible] noncomputable def F__law_times : List D → M D := bodyF u__law_times 2
noncomputable def u__law_sum : FS := (sSeq (sAsg (dTup (aCons (dC (.int 0)) (aCons (dC (.int 1)) aNil))) (gN 1))
  (sSeq (sFor (iSeq (dVar 0)) (gN 2)
  (sAsg (dCall (lenF 2 F__law_plus) (aCons (dVar 1) (aCons (dVar 2) aNil))) (gN 1)))
  (sRet (dVar 1))))
@[irreducible] noncomputable def F__law_sum : List D → M D := bodyF u__law_sum 3
noncomputable def u__law_words : FS := (sSeq (sAsg (dLst false aNil) (gN 2))
  (sSeq (sWhile (toB (dBin (ltI) (dCallB (arg1 lenD) (aCons (dVar 2) aNil)) (dVar 1)))
  (sSeq (sAsg (dMeth "str" joinD (dC (.str "")) (aCons (dLc false [4] (iRange1 (aCons (dBin (addD false) (dC (.int 1)) (dCall (lenF 2 F__law_draw) (aCons (dVar 0) (aCons (dC (.int 8)) aNil)))) aNil)) (gN 4) bYes (dCall (lenF 2 F__law_pick) (aCons (dVar 0) (aCons (dCallB (arg1 (listD false)) (aCons (dC (.str "abcdefghijklmnopqrstuvwxyz")) aNil)) aNil)))) aNil)) (gN 3))
  (sAsg (dBin (addD false) (dVar 2) (dIf (toB (dBin (inD true) (dVar 3) (dVar 2))) (dLst false (aCons (dVar 3) aNil)) (dIf (bAnd (toB (dBin (inD true) (dBin (addD false) (dSl false (dVar 3) oNone (oSome (dC (.int 1)))) (dBin (mulD false) (dC (.str "q")) (dCallB (arg1 lenD) (aCons (dVar 2) aNil)))) (dVar 2))) (toB (dBin (ltI) (dCallB (arg1 lenD) (aCons (dVar 2) aNil)) (dC (.int 8))))) (dLst false (aCons (dBin (addD false) (dSl false (dVar 3) oNone (oSome (dC (.int 1)))) (dBin (mulD false) (dC (.str "q")) (dCallB (arg1 lenD) (aCons (dVar 2) aNil)))) aNil)) (dLst false aNil)))) (gN 2))))
  (sRet (dCallB (arg1 sortedD) (aCons (dVar 2) aNil)))))
@[irreducible] noncomputable def F__law_words : List D → M D := bodyF u__law_words 5
noncomputable def u__law_number : FS := (sSeq (sPar2 2 3 (aCons (dCall (lenF 2 F__law_draw) (aCons (dVar 0) (aCons (dBin (addD false) (dVar 1) (dC (.int 1))) aNil))) (aCons (dBin (addD false) (dC (.int 1)) (dCall (lenF 2 F__law_draw) (aCons (dVar 0) (aCons (dCall (lenF 2 F__law_pick) (aCons (dVar 0) (aCons (dLst false (aCons (dC (.int 1)) (aCons (dC (.int 1)) (aCons (dC (.int 3)) (aCons (dVar 1) aNil))))) aNil))) aNil)))) aNil)))
  (sRet (dCall (lenF 2 F__law_q) (aCons (dIf (toB (dBin (eqD false) (dCall (lenF 2 F__law_draw) (aCons (dVar 0) (aCons (dC (.int 2)) aNil))) (dC (.int 0)))) (dVar 2) (dBin (subD) (dC (.int 0)) (dVar 2))) (aCons (dVar 3) aNil)))))
@[irreducible] noncomputable def F__law_number : List D → M D := bodyF u__law_number 4
noncomputable def u__law_vector : FS := (sRet (dCallB (arg1 tupleD) (aCons (dLc false [3] (iRange1 (aCons (dVar 1) aNil)) (gN 3) bYes (dCall (lenF 2 F__law_pick) (aCons (dVar 0) (aCons (dLst false (aCons (dTup (aCons (dC (.int 0)) (aCons (dC (.int 1)) aNil))) (aCons (dCall (lenF 2 F__law_number) (aCons (dVar 0) (aCons (dVar 2) aNil))) (aCons (dCall (lenF 2 F__law_number) (aCons (dVar 0) (aCons (dVar 2) aNil))) aNil)))) aNil)))) aNil)))
@[irreducible] noncomputable def F__law_vector : List D → M D := bodyF u__law_vector 4
noncomputable def u__law_dot : FS := (sRet (dCall (lenF 1 F__law_sum) (aCons (dLc false [2, 3] (iZip2 (aCons (dVar 0) (aCons (dVar 1) aNil))) (gT 2 (gsCons (gN 2) (gsCons (gN 3) gsNil))) bYes (dCall (lenF 2 F__law_times) (aCons (dVar 2) (aCons (dVar 3) aNil)))) aNil)))
@[irreducible] noncomputable def F__law_dot : List D → M D := bodyF u__law_dot 4
noncomputable def u__law_mixed : FS := (sRet (dCallB (arg1 tupleD) (aCons (dLc false [3] (iRange1 (aCons (dVar 2) aNil)) (gN 3) bYes (dCall (lenF 1 F__law_sum) (aCons (dLc false [4, 5] (iZip2 (aCons (dVar 0) (aCons (dVar 1) aNil))) (gT 2 (gsCons (gN 4) (gsCons (gN 5) gsNil))) bYes (dCall (lenF 2 F__law_times) (aCons (dVar 4) (aCons (dBin ixD (dVar 5) (dVar 3)) aNil)))) aNil))) aNil)))
@[irreducible] noncomputable def F__law_mixed : List D → M D := bodyF u__law_mixed 6
noncomputable def u__law_is_ratio : FS := (sSeq (sIf (bOr (bNot (toB (dCallB (arg2 (isiX subs)) (aCons (dVar 0) (aCons (dC (.ty .tuple)) aNil))))) (bOr (toB (dBin (eqD true) (dCallB (arg1 lenD) (aCons (dVar 0) aNil)) (dC (.int 2)))) (toB (dBin (eqD true) (dLc false [1] (iSeq (dVar 0)) (gN 1) (bOr (bNot (toB (dCallB (arg2 (isiX subs)) (aCons (dVar 1) (aCons (dC (.ty .int)) aNil))))) (toB (dCallB (arg2 (isiX subs)) (aCons (dVar 1) (aCons (dC (.ty .bool)) aNil))))) (dC (.int 1))) (dLst false aNil)))))
  (sRet (dC (.bl false)))
  sNext)
  (sRet (dAnd (dBin (gtI) (dBin ixD (dVar 0) (dC (.int 1))) (dC (.int 0))) (dBin (eqD false) (dCall (lenF 2 F__law_q) (aCons (dBin ixD (dVar 0) (dC (.int 0))) (aCons (dBin ixD (dVar 0) (dC (.int 1))) aNil))) (dVar 0)))))
@[irreducible] noncomputable def F__law_is_ratio : List D → M D := bodyF u__law_is_ratio 2
noncomputable def u__law_near : FS := (sSeq (sPar2 1 2 (aCons (dCall (lenF 2 F__law_draw) (aCons (dVar 0) (aCons (dBin (powD) (dC (.int 10)) (dC (.int 14))) aNil))) (aCons (dBin (addD false) (dC (.int 1)) (dCall (lenF 2 F__law_draw) (aCons (dVar 0) (aCons (dBin (powD) (dC (.int 10)) (dC (.int 14))) aNil)))) aNil)))
  (sSeq (sAsg (dLst false (aCons (dCall (lenF 2 F__law_q) (aCons (dVar 1) (aCons (dVar 2) aNil))) (aCons (dCall (lenF 2 F__law_q) (aCons (dBin (subD) (dC (.int 0)) (dVar 1)) (aCons (dVar 2) aNil))) (aCons (dTup (aCons (dVar 1) (aCons (dVar 2) aNil))) (aCons (dTup (aCons (dBin (mulD false) (dVar 1) (dC (.int 6))) (aCons (dBin (mulD false) (dVar 2) (dC (.int 6))) aNil))) (aCons (dTup (aCons (dVar 1) (aCons (dBin (subD) (dC (.int 0)) (dVar 2)) aNil))) (aCons (dLst false (aCons (dVar 1) (aCons (dVar 2) aNil))) (aCons (dTup (aCons (dVar 1) aNil)) (aCons (dTup (aCons (dVar 1) (aCons (dVar 2) (aCons (dC (.int 1)) aNil)))) (aCons (dTup (aCons (dC (.bl true)) (aCons (dC (.int 1)) aNil))) (aCons (dTup (aCons (dC (.int 0)) (aCons (dC (.int 1)) aNil))) (aCons (dTup (aCons (dC (.int 0)) (aCons (dC (.int 2)) aNil))) (aCons (dTup (aCons (dC (.int 1)) (aCons (dC (.int 0)) aNil))) (aCons (dC .non) (aCons (dVar 1) (aCons (dTup (aCons (dCallB (arg1 strI) (aCons (dVar 1) aNil)) (aCons (dVar 2) aNil))) aNil)))))))))))))))) (gN 3))
  (sRet (dCall (lenF 2 F__law_pick) (aCons (dVar 0) (aCons (dVar 3) aNil))))))
@[irreducible] noncomputable def F__law_near : List D → M D := bodyF u__law_near 4
noncomputable def u__law_sums_right : FS := (sSeq (sAsg (dCall (lenF 2 F__law_pick) (aCons (dVar 0) (aCons (dLst false (aCons (dC (.int 1)) (aCons (dC (.int 2)) (aCons (dC (.int 3)) (aCons (dC (.int 8)) (aCons (dC (.int 8)) (aCons (dC (.int 200)) aNil))))))) aNil))) (gN 1))
  (sSeq (sPar2 2 3 (aCons (dCall (lenF 3 F__law_vector) (aCons (dVar 0) (aCons (dVar 1) (aCons (dBin (powD) (dC (.int 10)) (dC (.int 6))) aNil)))) (aCons (dCall (lenF 3 F__law_vector) (aCons (dVar 0) (aCons (dVar 1) (aCons (dBin (powD) (dC (.int 10)) (dC (.int 6))) aNil)))) aNil)))
  (sSeq (sIf (bOr (bNot (toB (dCall (lenF 2 F__law_same) (aCons (dCall (lenF 2 F_inner) (aCons (dVar 2) (aCons (dVar 3) aNil))) (aCons (dCall (lenF 2 F__law_dot) (aCons (dVar 2) (aCons (dVar 3) aNil))) aNil))))) (bNot (toB (dCall (lenF 2 F__law_same) (aCons (dCall (permD [1, 0] F_inner) (aCons (dVar 2) (aCons (dVar 3) aNil))) (aCons (dCall (lenF 2 F__law_dot) (aCons (dVar 2) (aCons (dVar 3) aNil))) aNil))))))
  (sRet (dC (.bl false)))
  sNext)
  (sSeq (sAsg (dLc false [8] (iRange1 (aCons (dBin (addD false) (dC (.int 1)) (dCall (lenF 2 F__law_draw) (aCons (dVar 0) (aCons (dC (.int 6)) aNil)))) aNil)) (gN 8) bYes (dCall (lenF 3 F__law_vector) (aCons (dVar 0) (aCons (dCallB (arg2 min2D) (aCons (dVar 1) (aCons (dC (.int 8)) aNil))) (aCons (dC (.int 99)) aNil))))) (gN 4))
  (sSeq (sAsg (dCall (lenF 3 F__law_vector) (aCons (dVar 0) (aCons (dCallB (arg1 lenD) (aCons (dVar 4) aNil)) (aCons (dC (.int 99)) aNil)))) (gN 5))
  (sSeq (sAsg (dCall (lenF 3 F__law_mixed) (aCons (dVar 5) (aCons (dVar 4) (aCons (dCallB (arg2 min2D) (aCons (dVar 1) (aCons (dC (.int 8)) aNil))) aNil)))) (gN 6))
  (sSeq (sIf (bOr (bNot (toB (dCall (lenF 2 F__law_same) (aCons (dCall (lenF 2 F_combined) (aCons (dVar 5) (aCons (dVar 4) aNil))) (aCons (dVar 6) aNil))))) (bNot (toB (dCall (lenF 2 F__law_same) (aCons (dCall (permD [1, 0] F_combined) (aCons (dCallB (arg1 tupleD) (aCons (dVar 4) aNil)) (aCons (dVar 5) aNil))) (aCons (dVar 6) aNil))))))
  (sRet (dC (.bl false)))
  sNext)
  (sSeq (sFor (iSeq (dLst false (aCons (dVar 2) (aCons (dCallB (arg1 (listD false)) (aCons (dVar 2) aNil)) (aCons (dBin (addD false) (dVar 2) (dTup (aCons (dC .non) aNil))) (aCons (dBin (addD false) (dVar 2) (dTup (aCons (dTup (aCons (dC (.int 2)) (aCons (dC (.int 4)) aNil))) aNil))) (aCons (dBin (mulD false) (dVar 2) (dC (.int 201))) (aCons (dTup aNil) (aCons (dTup (aCons (dVar 2) aNil)) (aCons (dC .non) (aCons (dSl false (dVar 2) oNone (oSome (dC (.int 1)))) aNil))))))))))) (gN 7)
  (sSeq (sAsg (dAnd (dCallB (arg2 (isiX subs)) (aCons (dVar 7) (aCons (dC (.ty .tuple)) aNil))) (dAnd (dChain (leI) (leI) (dC (.int 1)) (dCallB (arg1 lenD) (aCons (dVar 7) aNil)) (dC (.int 200))) (dBin (eqD false) (dLc false [9] (iSeq (dVar 7)) (gN 9) (bNot (toB (dCall (lenF 1 F__law_is_ratio) (aCons (dVar 9) aNil)))) (dC (.int 1))) (dLst false aNil)))) (gN 6))
  (sIf (bOr (bNot (toB (dCall (lenF 2 F__law_is_truth) (aCons (dCall (lenF 1 F_is_vector) (aCons (dVar 7) aNil)) (aCons (dVar 6) aNil))))) (toB (dBin (eqD true) (dCall (permD [0] F_is_vector) (aCons (dVar 7) aNil)) (dVar 6))))
  (sRet (dC (.bl false)))
  sNext)))
  (sRet (dC (.bl true)))))))))))
@[irreducible] noncomputable def F__law_sums_right : List D → M D := bodyF u__law_sums_right 10
noncomputable def bs__law_refused : List FE := [(dCall (lenF 2 F_ratio) (aCons (dC (.int 4)) (aCons (dCall (lenF 2 F__law_pick) (aCons (dVar 0) (aCons (dLst false (aCons (dC (.int 0)) (aCons (dC .non) (aCons (dC (.bl false)) aNil)))) aNil))) aNil))),
  (dCall (lenF 2 F_ratio) (aCons (dCall (lenF 2 F__law_pick) (aCons (dVar 0) (aCons (dLst false (aCons (dC .non) (aCons (dC (.bl true)) (aCons (dC (.str "1")) (aCons (dTup (aCons (dC (.int 1)) (aCons (dC (.int 1)) aNil))) aNil))))) aNil))) (aCons (dC (.int 0)) aNil))),
  (dCall (lenF 2 F_combined) (aCons (dVar 1) (aCons (dVar 7) aNil))),
  (dCall (lenF 2 F_combined) (aCons (dVar 1) (aCons (dVar 7) aNil))),
  (dCall (lenF 2 F_inner) (aCons (dVar 1) (aCons (dBin (addD false) (dVar 1) (dTup (aCons (dTup (aCons (dC (.int 1)) (aCons (dC (.int 1)) aNil))) aNil))) aNil))),
  (dCall (lenF 2 F_combined) (aCons (dVar 2) (aCons (dC .non) aNil))),
  (dCall (lenF 2 F_inner) (aCons (dVar 1) (aCons (dVar 2) aNil))),
  (dCall (lenF 2 F_inner) (aCons (dVar 2) (aCons (dC .non) aNil)))]
noncomputable def u__law_refused : FS := (sSeq (sAsg (dTup (aCons (dCall (lenF 3 F__law_vector) (aCons (dVar 0) (aCons (dC (.int 3)) (aCons (dC (.int 9)) aNil)))) (aCons (dCall (lenF 2 F__law_pick) (aCons (dVar 0) (aCons (dLst false (aCons (dC .non) (aCons (dTup aNil) (aCons (dLst false (aCons (dTup (aCons (dC (.int 1)) (aCons (dC (.int 1)) aNil))) aNil)) (aCons (dTup (aCons (dTup (aCons (dC (.int 2)) (aCons (dC (.int 4)) aNil))) aNil)) (aCons (dC (.int 5)) (aCons (dTup (aCons (dTup (aCons (dC (.int 1)) (aCons (dC (.int 1)) aNil))) (aCons (dC .non) aNil))) aNil))))))) aNil))) aNil))) (gT 2 (gsCons (gN 1) (gsCons (gN 2) gsNil))))
  (sSeq (sFor (iSeq (dLst false (aCons (dC (.clo 7)) (aCons (dC (.clo 6)) (aCons (dC (.clo 5)) aNil))))) (gN 3)
  (sIf (bNot (toB (dCallB (arg2 (isiX subs)) (aCons (dCaught teach bs__law_refused (dVar 3)) (aCons (dC (.fn "BadVector")) aNil)))))
  (sRet (dC (.bl false)))
  sNext))
  (sSeq (sIf (bNot (toB (dCallB (arg2 (isiX subs)) (aCons (dCaught teach bs__law_refused (dC (.clo 4))) (aCons (dC (.fn "BadWidth")) aNil)))))
  (sRet (dC (.bl false)))
  sNext)
  (sSeq (sAsg (dLst false (aCons (dVar 1) (aCons (dVar 1) (aCons (dVar 1) aNil)))) (gN 4))
  (sSeq (sAsg (dCall (lenF 2 F__law_draw) (aCons (dVar 0) (aCons (dC (.int 3)) aNil))) (gN 5))
  (sSeq (sFor (iSeq (dLst false (aCons (dC .non) (aCons (dCallB (arg1 (listD false)) (aCons (dVar 1) aNil)) (aCons (dSl false (dVar 1) oNone (oSome (dC (.int 2)))) (aCons (dBin (addD false) (dVar 1) (dTup (aCons (dTup (aCons (dC (.int 1)) (aCons (dC (.int 1)) aNil))) aNil))) (aCons (dTup aNil) aNil))))))) (gN 6)
  (sSeq (sAsg (dBin (addD false) (dBin (addD false) (dSl false (dVar 4) oNone (oSome (dVar 5))) (dLst false (aCons (dVar 6) aNil))) (dSl false (dVar 4) (oSome (dBin (addD false) (dVar 5) (dC (.int 1)))) oNone)) (gN 7))
  (sSeq (sAsg (dCaught teach bs__law_refused (dC (.clo 3))) (gN 8))
  (sSeq (sAsg (dVar 5) (gN 9))
  (sSeq (sIf (bAnd (toB (dBin (eqD false) (dVar 5) (dC (.int 0)))) (bAnd (toB (dCallB (arg2 (isiX subs)) (aCons (dVar 6) (aCons (dC (.ty .tuple)) aNil)))) (toB (dBin (inD false) (dCallB (arg1 lenD) (aCons (dVar 6) aNil)) (dLst false (aCons (dC (.int 2)) (aCons (dC (.int 4)) aNil)))))))
  (sAsg (dC (.int 1)) (gN 9))
  sNext)
  (sIf (bOr (bNot (toB (dCallB (arg2 (isiX subs)) (aCons (dVar 8) (aCons (dC (.fn "BadRows")) aNil))))) (toB (dBin (eqD true) (dFld (fok "index") "index" (dVar 8)) (dVar 9))))
  (sRet (dC (.bl false)))
  sNext))))))
  (sSeq (sFor (iSeq (dLst false (aCons (dC .non) (aCons (dLst false aNil) (aCons (dSl false (dVar 4) oNone (oSome (dC (.int 2)))) (aCons (dC (.dct [])) (aCons (dBin (addD false) (dVar 4) (dVar 4)) aNil))))))) (gN 7)
  (sSeq (sAsg (dCaught teach bs__law_refused (dC (.clo 2))) (gN 8))
  (sIf (bOr (bNot (toB (dCallB (arg2 (isiX subs)) (aCons (dVar 8) (aCons (dC (.fn "BadRows")) aNil))))) (toB (dBin (isD true) (dFld (fok "index") "index" (dVar 8)) (dC .non))))
  (sRet (dC (.bl false)))
  sNext)))
  (sSeq (sAsg (dCaught teach bs__law_refused (dC (.clo 1))) (gN 8))
  (sSeq (sIf (bOr (bNot (toB (dCallB (arg2 (isiX subs)) (aCons (dVar 8) (aCons (dC (.fn "BadNumber")) aNil))))) (toB (dBin (eqD true) (dFld (fok "part") "part" (dVar 8)) (dC (.str "n")))))
  (sRet (dC (.bl false)))
  sNext)
  (sSeq (sAsg (dCaught teach bs__law_refused (dC (.clo 0))) (gN 8))
  (sRet (dAnd (dCallB (arg2 (isiX subs)) (aCons (dVar 8) (aCons (dC (.fn "BadNumber")) aNil))) (dBin (eqD false) (dFld (fok "part") "part" (dVar 8)) (dC (.str "d")))))))))))))))
@[irreducible] noncomputable def F__law_refused : List D → M D := bodyN u__law_refused 10
noncomputable def u_law : FS := (sSeq (sAsg (dCall (lenF 1 F__law_begun) (aCons (dVar 0) aNil)) (gN 1))
  (sSeq (sFor (iRange1 (aCons (dBin (addD false) (dC (.int 2)) (dCallB (arg2 min2D) (aCons (dCallB (arg1 lenD) (aCons (dVar 0) aNil)) (aCons (dC (.int 5)) aNil)))) aNil)) (gN 2)
  (sSeq (sFor (iRange1 (aCons (dC (.int 6)) aNil)) (gN 3)
  (sSeq (sAsg (dCall (lenF 1 F__law_near) (aCons (dVar 1) aNil)) (gN 4))
  (sIf (bOr (bNot (toB (dCall (lenF 2 F__law_is_truth) (aCons (dCall (lenF 1 F_is_ratio) (aCons (dVar 4) aNil)) (aCons (dCall (lenF 1 F__law_is_ratio) (aCons (dVar 4) aNil)) aNil))))) (toB (dBin (eqD true) (dCall (permD [0] F_is_ratio) (aCons (dVar 4) aNil)) (dCall (lenF 1 F__law_is_ratio) (aCons (dVar 4) aNil)))))
  (sRet (dC (.bl false)))
  sNext)))
  (sSeq (sPar2 5 6 (aCons (dBin (subD) (dCall (lenF 2 F__law_draw) (aCons (dVar 1) (aCons (dBin (powD) (dC (.int 10)) (dC (.int 15))) aNil))) (dBin (powD) (dC (.int 10)) (dC (.int 14)))) (aCons (dBin (subD) (dCall (lenF 2 F__law_draw) (aCons (dVar 1) (aCons (dBin (powD) (dC (.int 10)) (dC (.int 15))) aNil))) (dBin (mulD false) (dC (.int 5)) (dBin (powD) (dC (.int 10)) (dC (.int 14))))) aNil)))
  (sSeq (sIf (bAnd (toB (dBin (eqD true) (dVar 6) (dC (.int 0)))) (bOr (bNot (toB (dCall (lenF 2 F__law_same) (aCons (dCall (lenF 2 F_ratio) (aCons (dVar 5) (aCons (dVar 6) aNil))) (aCons (dCall (lenF 2 F__law_q) (aCons (dVar 5) (aCons (dVar 6) aNil))) aNil))))) (toB (dBin (eqD true) (dCall (permD [1, 0] F_ratio) (aCons (dVar 6) (aCons (dVar 5) aNil))) (dCall (lenF 2 F__law_q) (aCons (dVar 5) (aCons (dVar 6) aNil)))))))
  (sRet (dC (.bl false)))
  sNext)
  (sSeq (sAsg (dBin ixD (dCall (lenF 2 F__law_words) (aCons (dVar 1) (aCons (dC (.int 1)) aNil))) (dC (.int 0))) (gN 7))
  (sSeq (sFor (iSeq (dLst false (aCons (dVar 7) (aCons (dBin (addD false) (dVar 7) (dC (.str "A"))) (aCons (dBin (mulD false) (dVar 7) (dC (.int 9))) (aCons (dC (.str "")) (aCons (dTup (aCons (dVar 7) aNil)) (aCons (dC .non) (aCons (dBin (addD false) (dSl false (dVar 7) oNone (oSome (dC (.int 1)))) (dC (.str " "))) (aCons (dMeth "str" upperD (dVar 7) aNil) aNil)))))))))) (gN 4)
  (sSeq (sAsg (dAnd (dCallB (arg2 (isiX subs)) (aCons (dVar 4) (aCons (dC (.ty .str)) aNil))) (dAnd (dChain (leI) (leI) (dC (.int 1)) (dCallB (arg1 lenD) (aCons (dVar 4) aNil)) (dC (.int 8))) (dBin (eqD false) (dLc false [9] (iSeq (dVar 4)) (gN 9) (toB (dBin (inD true) (dVar 9) (dC (.str "abcdefghijklmnopqrstuvwxyz")))) (dVar 9)) (dLst false aNil)))) (gN 8))
  (sIf (bNot (toB (dCall (lenF 2 F__law_is_truth) (aCons (dCall (lenF 1 F_is_word) (aCons (dVar 4) aNil)) (aCons (dVar 8) aNil)))))
  (sRet (dC (.bl false)))
  sNext)))
  (sIf (bOr (bNot (toB (dCall (lenF 1 F__law_sums_right) (aCons (dVar 1) aNil)))) (bNot (toB (dCall (lenF 1 F__law_refused) (aCons (dVar 1) aNil)))))
  (sRet (dC (.bl false)))
  sNext)))))))
  (sRet (dC (.bl true)))))
@[irreducible] noncomputable def F_law : List D → M D := bodyF u_law 10
end K00
end TL
end
section
/-! Printed by gen.py: the data functions of the law and their derivations. -/
namespace TL
namespace K00
open PySem PySem.Spec PyProof.Rows L2
open LamX (Tabs CodeO TabB LamS lamEnv lamCx lamS_by)
def top (i : Nat) : Stmt := PySem.Challenge.pw_taughtloss_k00_ratios_and_vectors.main.body.getD i (.Pass ⟨0, 0, 0, 0⟩)
def cfg : Cfg where
  top := top
  free := [("abs" : Str), ("all" : Str), ("bool" : Str), ("dict" : Str), ("enumerate" : Str), ("int" : Str), ("isinstance" : Str), ("len" : Str), ("list" : Str), ("min" : Str), ("range" : Str), ("sorted" : Str), ("str" : Str), ("tuple" : Str), ("zip" : Str)]
  imps := [(("gcd" : Str), "math.gcd")]
  fns := [(("is_whole" : Str), (9 : Nat)), (("is_ratio" : Str), (10 : Nat)), (("lowest" : Str), (11 : Nat)), (("plus" : Str), (12 : Nat)), (("times" : Str), (13 : Nat)), (("total" : Str), (14 : Nat)), (("ratio" : Str), (15 : Nat)), (("is_vector" : Str), (18 : Nat)), (("dot" : Str), (19 : Nat)), (("scaled" : Str), (20 : Nat)), (("added" : Str), (21 : Nat)), (("mixed" : Str), (22 : Nat)), (("inner" : Str), (23 : Nat)), (("need_rows" : Str), (24 : Nat)), (("combined" : Str), (25 : Nat)), (("is_word" : Str), (28 : Nat)), (("_law_begun" : Str), (30 : Nat)), (("_law_blended" : Str), (31 : Nat)), (("_law_draw" : Str), (32 : Nat)), (("_law_pick" : Str), (33 : Nat)), (("_law_caught" : Str), (34 : Nat)), (("_law_is_truth" : Str), (35 : Nat)), (("_law_same" : Str), (36 : Nat)), (("_law_q" : Str), (37 : Nat)), (("_law_plus" : Str), (38 : Nat)), (("_law_times" : Str), (39 : Nat)), (("_law_sum" : Str), (40 : Nat)), (("_law_words" : Str), (41 : Nat)), (("_law_number" : Str), (42 : Nat)), (("_law_vector" : Str), (43 : Nat)), (("_law_dot" : Str), (44 : Nat)), (("_law_mixed" : Str), (45 : Nat)), (("_law_is_ratio" : Str), (46 : Nat)), (("_law_near" : Str), (47 : Nat)), (("_law_sums_right" : Str), (48 : Nat)), (("_law_refused" : Str), (49 : Nat)), (("law" : Str), (50 : Nat))]
  consts := [("LETTERS", .str "abcdefghijklmnopqrstuvwxyz"), ("MOST", .int 200), ("ZERO", .tup [0, 1])]
  excs := ["TeachError", "BadVector", "BadWidth"]
  exis := [("BadNumber", "part", "part"), ("BadRows", "index", "index")]
  subs := subs
  fok := fok
  teach := teach
  lamq := ["_law_refused"]
theorem catchF {P : Program} {w : World} {base : Heap} {R : RC} (V : Ev cfg P w base R) : ∃ g CT, CatchF R g CT (top 34) teach := by
  obtain ⟨f, fd, hm, Fu⟩ := V.fns 20 "_law_caught" 34 rfl
  obtain ⟨CT, t1, t2⟩ := V.teach
  exact ⟨f, CT, ⟨fd, Fu, Fu.binds (fun _ _ _ _ _ _ us hl => match us, hl with | [_], _ => rfl)⟩, hm, ⟨rfl, rfl, rfl, by decide +kernel, rfl, by decide +kernel, by decide +kernel⟩, ⟨_, _, _, _, _, _, _, _, _, _, _, _, _, _, _, rfl⟩, ⟨rfl, rfl, rfl, rfl⟩, t1, t2, V.eo⟩
theorem sc_is_whole : FnScope (["value"] : List Str) (["value"] : List Str) (defScope (top 9)) := ⟨rfl, rfl, rfl, by decide +kernel, rfl, by decide +kernel, by decide +kernel⟩
theorem d_is_whole {P : Program} {w : World} {base : Heap} {R : RC} (V : Ev cfg P w base R) : FnD P w base R "is_whole" 41 ["value"] (top 9) F_is_whole := by
  unfold F_is_whole
  exact V.def_ 0 rfl sc_is_whole (by decide) (fun _ _ _ _ _ _ us hl => match us, hl with | [_], _ => rfl) fun f cdv A outer s H E hr cx =>
  (dss_one (ds_ret (de_and cx (de_callB (call_isi_x cx V.xs) (by rfl) (V.free 6 _ (by rfl)) (by rfl) (da_cons cx (de_var (i := 0)) (da_cons cx (de_ty (n := .int) (by rfl) (V.free 5 _ (by rfl)) (by rfl)) da_nil))) (de_one (de_not (de_callB (call_isi_x cx V.xs) (by rfl) (V.free 6 _ (by rfl)) (by rfl) (da_cons cx (de_var (i := 0)) (da_cons cx (de_ty (n := .bool) (by rfl) (V.free 2 _ (by rfl)) (by rfl)) da_nil))))))))
theorem sc_is_ratio : FnScope (["value", "part"] : List Str) (["value"] : List Str) (defScope (top 10)) := ⟨rfl, rfl, rfl, by decide +kernel, rfl, by decide +kernel, by decide +kernel⟩
theorem d_is_ratio {P : Program} {w : World} {base : Heap} {R : RC} (V : Ev cfg P w base R) : FnD P w base R "is_ratio" 42 ["value"] (top 10) F_is_ratio := by
  unfold F_is_ratio
  exact V.def_ 1 rfl sc_is_ratio (by decide) (fun _ _ _ _ _ _ us hl => match us, hl with | [_], _ => rfl) fun f cdv A outer s H E hr cx =>
  (dss_cons (ds_if cx (DW.dt (dw_or cx (dt_not (dt_val (de_callB (call_isi_x cx V.xs) (by rfl) (V.free 6 _ (by rfl)) (by rfl) (da_cons cx (de_var (i := 0)) (da_cons cx (de_ty (n := .tuple) (by rfl) (V.free 13 _ (by rfl)) (by rfl)) da_nil))))) (dw_or cx (dt_cmp cx (opd_ne cx cx.u64) (de_callB (call_len_d cx) (by rfl) (V.free 7 _ (by rfl)) (by rfl) (da_cons cx (de_var (i := 0)) da_nil)) de_int (by rfl)) (dw_or1 (dt_not (dt_val (de_callB (call_all_d cx) (by rfl) (V.free 1 _ (by rfl)) (by rfl) (da_cons cx (de_lc false [("part", 1)] cx (di_seq cx (de_var (i := 0))) (blkOk_by (by rfl)) (fun _ cx => (dgc_name cx)) (fun _ cx => dps_nil) (fun _ cx => (de_call cx (d_is_whole V) hr (by decide) (by rfl) (da_cons cx (de_var (i := 1)) da_nil)))) da_nil))))))))
  (dss_one (ds_ret de_bl))
  dss_nil)
  (dss_one (ds_ret (de_and cx (de_cmp cx opd_gt (de_ix cx (de_var (i := 0)) de_int) de_int (by rfl)) (de_one (de_cmp cx (opd_eq cx cx.u64) (de_callBfun call_gcd_d (by rfl) (V.imps 0 _ _ (by rfl)) (da_cons cx (de_ix cx (de_var (i := 0)) de_int) (da_cons cx (de_ix cx (de_var (i := 0)) de_int) da_nil))) de_int (by rfl)))))))
theorem sc_lowest : FnScope (["n", "d", "common"] : List Str) (["n", "d"] : List Str) (defScope (top 11)) := ⟨rfl, rfl, rfl, by decide +kernel, rfl, by decide +kernel, by decide +kernel⟩
theorem d_lowest {P : Program} {w : World} {base : Heap} {R : RC} (V : Ev cfg P w base R) : FnD P w base R "lowest" 41 ["n", "d"] (top 11) F_lowest := by
  unfold F_lowest
  exact V.def_ 2 rfl sc_lowest (by decide) (fun _ _ _ _ _ _ us hl => match us, hl with | [_, _], _ => rfl) fun f cdv A outer s H E hr cx =>
  (dss_cons (ds_set (i := 2) cx (de_if cx (dt_cmp cx opd_gt (de_var (i := 1)) de_int (by rfl)) (de_callBfun call_gcd_d (by rfl) (V.imps 0 _ _ (by rfl)) (da_cons cx (de_var (i := 0)) (da_cons cx (de_var (i := 1)) da_nil))) (de_neg (de_callBfun call_gcd_d (by rfl) (V.imps 0 _ _ (by rfl)) (da_cons cx (de_var (i := 0)) (da_cons cx (de_var (i := 1)) da_nil))))))
  (dss_one (ds_ret (de_tup cx (da_cons cx (de_op cx (opd_fdiv cx) (de_var (i := 0)) (de_var (i := 2))) (da_cons cx (de_op cx (opd_fdiv cx) (de_var (i := 1)) (de_var (i := 2))) da_nil))))))
theorem sc_plus : FnScope (["one", "other"] : List Str) (["one", "other"] : List Str) (defScope (top 12)) := ⟨rfl, rfl, rfl, by decide +kernel, rfl, by decide +kernel, by decide +kernel⟩
theorem d_plus {P : Program} {w : World} {base : Heap} {R : RC} (V : Ev cfg P w base R) : FnD P w base R "plus" 42 ["one", "other"] (top 12) F_plus := by
  unfold F_plus
  exact V.def_ 3 rfl sc_plus (by decide) (fun _ _ _ _ _ _ us hl => match us, hl with | [_, _], _ => rfl) fun f cdv A outer s H E hr cx =>
  (dss_one (ds_ret (de_call cx (d_lowest V) hr (by decide) (by rfl) (da_cons cx (de_op cx (opd_add false cx) (de_op cx (opd_mul false cx) (de_ix cx (de_var (i := 0)) de_int) (de_ix cx (de_var (i := 1)) de_int)) (de_op cx (opd_mul false cx) (de_ix cx (de_var (i := 1)) de_int) (de_ix cx (de_var (i := 0)) de_int))) (da_cons cx (de_op cx (opd_mul false cx) (de_ix cx (de_var (i := 0)) de_int) (de_ix cx (de_var (i := 1)) de_int)) da_nil)))))
theorem sc_times : FnScope (["one", "other"] : List Str) (["one", "other"] : List Str) (defScope (top 13)) := ⟨rfl, rfl, rfl, by decide +kernel, rfl, by decide +kernel, by decide +kernel⟩
theorem d_times {P : Program} {w : World} {base : Heap} {R : RC} (V : Ev cfg P w base R) : FnD P w base R "times" 42 ["one", "other"] (top 13) F_times := by
  unfold F_times
  exact V.def_ 4 rfl sc_times (by decide) (fun _ _ _ _ _ _ us hl => match us, hl with | [_, _], _ => rfl) fun f cdv A outer s H E hr cx =>
  (dss_one (ds_ret (de_call cx (d_lowest V) hr (by decide) (by rfl) (da_cons cx (de_op cx (opd_mul false cx) (de_ix cx (de_var (i := 0)) de_int) (de_ix cx (de_var (i := 1)) de_int)) (da_cons cx (de_op cx (opd_mul false cx) (de_ix cx (de_var (i := 0)) de_int) (de_ix cx (de_var (i := 1)) de_int)) da_nil)))))
theorem sc_total : FnScope (["ratios", "found", "each"] : List Str) (["ratios"] : List Str) (defScope (top 14)) := ⟨rfl, rfl, rfl, by decide +kernel, rfl, by decide +kernel, by decide +kernel⟩
theorem d_total {P : Program} {w : World} {base : Heap} {R : RC} (V : Ev cfg P w base R) : FnD P w base R "total" 43 ["ratios"] (top 14) F_total := by
  unfold F_total
  exact V.def_ 5 rfl sc_total (by decide) (fun _ _ _ _ _ _ us hl => match us, hl with | [_], _ => rfl) fun f cdv A outer s H E hr cx =>
  (dss_cons (ds_set (i := 1) cx (de_gl cx (by rfl) (V.glo 2 rfl)))
  (dss_cons (ds_for cx (di_seq cx (de_var (i := 0))) (dg_name cx)
  (dss_one (ds_set (i := 1) cx (de_call cx (d_plus V) hr (by decide) (by rfl) (da_cons cx (de_var (i := 1)) (da_cons cx (de_var (i := 2)) da_nil))))))
  (dss_one (ds_ret (de_var (i := 1))))))
theorem sc_ratio : FnScope (["n", "d"] : List Str) (["n", "d"] : List Str) (defScope (top 15)) := ⟨rfl, rfl, rfl, by decide +kernel, rfl, by decide +kernel, by decide +kernel⟩
theorem d_ratio {P : Program} {w : World} {base : Heap} {R : RC} (V : Ev cfg P w base R) : FnD P w base R "ratio" 42 ["n", "d"] (top 15) F_ratio := by
  unfold F_ratio
  exact V.def_ 6 rfl sc_ratio (by decide) (fun _ _ _ _ _ _ us hl => match us, hl with | [_, _], _ => rfl) fun f cdv A outer s H E hr cx =>
  (dss_cons (ds_if cx (dt_not (dt_val (de_call cx (d_is_whole V) hr (by decide) (by rfl) (da_cons cx (de_var (i := 0)) da_nil))))
  (dss_one (V.raiseF 0 rfl cx hr (by decide) (by rfl) de_str))
  dss_nil)
  (dss_cons (ds_if cx (DW.dt (dw_or cx (dt_not (dt_val (de_call cx (d_is_whole V) hr (by decide) (by rfl) (da_cons cx (de_var (i := 1)) da_nil)))) (dw_or1 (dt_cmp cx (opd_eq cx cx.u64) (de_var (i := 1)) de_int (by rfl)))))
  (dss_one (V.raiseF 0 rfl cx hr (by decide) (by rfl) de_str))
  dss_nil)
  (dss_one (ds_ret (de_call cx (d_lowest V) hr (by decide) (by rfl) (da_cons cx (de_var (i := 0)) (da_cons cx (de_var (i := 1)) da_nil)))))))
theorem sc_is_vector : FnScope (["value", "part"] : List Str) (["value"] : List Str) (defScope (top 18)) := ⟨rfl, rfl, rfl, by decide +kernel, rfl, by decide +kernel, by decide +kernel⟩
theorem d_is_vector {P : Program} {w : World} {base : Heap} {R : RC} (V : Ev cfg P w base R) : FnD P w base R "is_vector" 43 ["value"] (top 18) F_is_vector := by
  unfold F_is_vector
  exact V.def_ 7 rfl sc_is_vector (by decide) (fun _ _ _ _ _ _ us hl => match us, hl with | [_], _ => rfl) fun f cdv A outer s H E hr cx =>
  (dss_one (ds_ret (de_and cx (de_callB (call_isi_x cx V.xs) (by rfl) (V.free 6 _ (by rfl)) (by rfl) (da_cons cx (de_var (i := 0)) (da_cons cx (de_ty (n := .tuple) (by rfl) (V.free 13 _ (by rfl)) (by rfl)) da_nil))) (de_and cx (de_chain cx opd_le opd_le de_int (de_callB (call_len_d cx) (by rfl) (V.free 7 _ (by rfl)) (by rfl) (da_cons cx (de_var (i := 0)) da_nil)) (de_gl cx (by rfl) (V.glo 1 rfl))) (de_one (de_callB (call_all_d cx) (by rfl) (V.free 1 _ (by rfl)) (by rfl) (da_cons cx (de_lc false [("part", 1)] cx (di_seq cx (de_var (i := 0))) (blkOk_by (by rfl)) (fun _ cx => (dgc_name cx)) (fun _ cx => dps_nil) (fun _ cx => (de_call cx (d_is_ratio V) hr (by decide) (by rfl) (da_cons cx (de_var (i := 1)) da_nil)))) da_nil)))))))
theorem sc_dot : FnScope (["one", "other", "left", "right"] : List Str) (["one", "other"] : List Str) (defScope (top 19)) := ⟨rfl, rfl, rfl, by decide +kernel, rfl, by decide +kernel, by decide +kernel⟩
theorem d_dot {P : Program} {w : World} {base : Heap} {R : RC} (V : Ev cfg P w base R) : FnD P w base R "dot" 44 ["one", "other"] (top 19) F_dot := by
  unfold F_dot
  exact V.def_ 8 rfl sc_dot (by decide) (fun _ _ _ _ _ _ us hl => match us, hl with | [_, _], _ => rfl) fun f cdv A outer s H E hr cx =>
  (dss_one (ds_ret (de_call cx (d_total V) hr (by decide) (by rfl) (da_cons cx (de_lc false [("left", 2), ("right", 3)] cx (di_zip2 cx (by rfl) (V.free 14 _ (by rfl)) (da_cons cx (de_var (i := 0)) (da_cons cx (de_var (i := 1)) da_nil))) (blkOk_by (by rfl)) (fun _ cx => (dgc_tup 2 cx (dgsc_cons cx (dgc_name cx) (dgsc_cons cx (dgc_name cx) dgsc_nil)))) (fun _ cx => dps_nil) (fun _ cx => (de_call cx (d_times V) hr (by decide) (by rfl) (da_cons cx (de_var (i := 2)) (da_cons cx (de_var (i := 3)) da_nil))))) da_nil))))
theorem sc_scaled : FnScope (["share", "vector", "part"] : List Str) (["share", "vector"] : List Str) (defScope (top 20)) := ⟨rfl, rfl, rfl, by decide +kernel, rfl, by decide +kernel, by decide +kernel⟩
theorem d_scaled {P : Program} {w : World} {base : Heap} {R : RC} (V : Ev cfg P w base R) : FnD P w base R "scaled" 43 ["share", "vector"] (top 20) F_scaled := by
  unfold F_scaled
  exact V.def_ 9 rfl sc_scaled (by decide) (fun _ _ _ _ _ _ us hl => match us, hl with | [_, _], _ => rfl) fun f cdv A outer s H E hr cx =>
  (dss_one (ds_ret (de_callTy (call_tuple_d cx) (by rfl) (V.free 13 _ (by rfl)) (by rfl) (da_cons cx (de_lc false [("part", 2)] cx (di_seq cx (de_var (i := 1))) (blkOk_by (by rfl)) (fun _ cx => (dgc_name cx)) (fun _ cx => dps_nil) (fun _ cx => (de_call cx (d_times V) hr (by decide) (by rfl) (da_cons cx (de_var (i := 0)) (da_cons cx (de_var (i := 2)) da_nil))))) da_nil))))
theorem sc_added : FnScope (["one", "other", "left", "right"] : List Str) (["one", "other"] : List Str) (defScope (top 21)) := ⟨rfl, rfl, rfl, by decide +kernel, rfl, by decide +kernel, by decide +kernel⟩
theorem d_added {P : Program} {w : World} {base : Heap} {R : RC} (V : Ev cfg P w base R) : FnD P w base R "added" 43 ["one", "other"] (top 21) F_added := by
  unfold F_added
  exact V.def_ 10 rfl sc_added (by decide) (fun _ _ _ _ _ _ us hl => match us, hl with | [_, _], _ => rfl) fun f cdv A outer s H E hr cx =>
  (dss_one (ds_ret (de_callTy (call_tuple_d cx) (by rfl) (V.free 13 _ (by rfl)) (by rfl) (da_cons cx (de_lc false [("left", 2), ("right", 3)] cx (di_zip2 cx (by rfl) (V.free 14 _ (by rfl)) (da_cons cx (de_var (i := 0)) (da_cons cx (de_var (i := 1)) da_nil))) (blkOk_by (by rfl)) (fun _ cx => (dgc_tup 2 cx (dgsc_cons cx (dgc_name cx) (dgsc_cons cx (dgc_name cx) dgsc_nil)))) (fun _ cx => dps_nil) (fun _ cx => (de_call cx (d_plus V) hr (by decide) (by rfl) (da_cons cx (de_var (i := 2)) (da_cons cx (de_var (i := 3)) da_nil))))) da_nil))))
theorem sc_mixed : FnScope (["weights", "rows", "found", "weight", "row"] : List Str) (["weights", "rows"] : List Str) (defScope (top 22)) := ⟨rfl, rfl, rfl, by decide +kernel, rfl, by decide +kernel, by decide +kernel⟩
theorem d_mixed {P : Program} {w : World} {base : Heap} {R : RC} (V : Ev cfg P w base R) : FnD P w base R "mixed" 44 ["weights", "rows"] (top 22) F_mixed := by
  unfold F_mixed
  exact V.def_ 11 rfl sc_mixed (by decide) (fun _ _ _ _ _ _ us hl => match us, hl with | [_, _], _ => rfl) fun f cdv A outer s H E hr cx =>
  (dss_cons (ds_set (i := 2) cx (de_op cx (opd_mul false cx) (de_tup cx (da_cons cx (de_gl cx (by rfl) (V.glo 2 rfl)) da_nil)) (de_callB (call_len_d cx) (by rfl) (V.free 7 _ (by rfl)) (by rfl) (da_cons cx (de_ix cx (de_var (i := 1)) de_int) da_nil))))
  (dss_cons (ds_for cx (di_zip2 cx (by rfl) (V.free 14 _ (by rfl)) (da_cons cx (de_var (i := 0)) (da_cons cx (de_var (i := 1)) da_nil))) (dg_tup 2 cx (dgs_cons cx (dg_name cx) (dgs_cons cx (dg_name cx) dgs_nil)))
  (dss_one (ds_set (i := 2) cx (de_call cx (d_added V) hr (by decide) (by rfl) (da_cons cx (de_var (i := 2)) (da_cons cx (de_call cx (d_scaled V) hr (by decide) (by rfl) (da_cons cx (de_var (i := 3)) (da_cons cx (de_var (i := 4)) da_nil))) da_nil))))))
  (dss_one (ds_ret (de_var (i := 2))))))
theorem sc_inner : FnScope (["one", "other"] : List Str) (["one", "other"] : List Str) (defScope (top 23)) := ⟨rfl, rfl, rfl, by decide +kernel, rfl, by decide +kernel, by decide +kernel⟩
theorem d_inner {P : Program} {w : World} {base : Heap} {R : RC} (V : Ev cfg P w base R) : FnD P w base R "inner" 45 ["one", "other"] (top 23) F_inner := by
  unfold F_inner
  exact V.def_ 12 rfl sc_inner (by decide) (fun _ _ _ _ _ _ us hl => match us, hl with | [_, _], _ => rfl) fun f cdv A outer s H E hr cx =>
  (dss_cons (ds_if cx (DW.dt (dw_or cx (dt_not (dt_val (de_call cx (d_is_vector V) hr (by decide) (by rfl) (da_cons cx (de_var (i := 0)) da_nil)))) (dw_or1 (dt_not (dt_val (de_call cx (d_is_vector V) hr (by decide) (by rfl) (da_cons cx (de_var (i := 1)) da_nil)))))))
  (dss_one (V.raise 1 rfl cx (by rfl) de_str))
  dss_nil)
  (dss_cons (ds_if cx (dt_cmp cx (opd_ne cx cx.u64) (de_callB (call_len_d cx) (by rfl) (V.free 7 _ (by rfl)) (by rfl) (da_cons cx (de_var (i := 0)) da_nil)) (de_callB (call_len_d cx) (by rfl) (V.free 7 _ (by rfl)) (by rfl) (da_cons cx (de_var (i := 1)) da_nil)) (by rfl))
  (dss_one (V.raise 2 rfl cx (by rfl) de_str))
  dss_nil)
  (dss_one (ds_ret (de_call cx (d_dot V) hr (by decide) (by rfl) (da_cons cx (de_var (i := 0)) (da_cons cx (de_var (i := 1)) da_nil)))))))
theorem sc_need_rows : FnScope (["rows", "index", "row"] : List Str) (["rows"] : List Str) (defScope (top 24)) := ⟨rfl, rfl, rfl, by decide +kernel, rfl, by decide +kernel, by decide +kernel⟩
theorem d_need_rows {P : Program} {w : World} {base : Heap} {R : RC} (V : Ev cfg P w base R) : FnD P w base R "need_rows" 44 ["rows"] (top 24) F_need_rows := by
  unfold F_need_rows
  exact V.def_ 13 rfl sc_need_rows (by decide) (fun _ _ _ _ _ _ us hl => match us, hl with | [_], _ => rfl) fun f cdv A outer s H E hr cx =>
  (dss_cons (ds_if cx (DW.dt (dw_or cx (dt_not (dt_val (de_callB (call_isi_x cx V.xs) (by rfl) (V.free 6 _ (by rfl)) (by rfl) (da_cons cx (de_var (i := 0)) (da_cons cx (de_tup cx (da_cons cx (de_ty (n := .list) (by rfl) (V.free 8 _ (by rfl)) (by rfl)) (da_cons cx (de_ty (n := .tuple) (by rfl) (V.free 13 _ (by rfl)) (by rfl)) da_nil))) da_nil))))) (dw_or1 (dt_not (dt_chain cx opd_le opd_le de_int (de_callB (call_len_d cx) (by rfl) (V.free 7 _ (by rfl)) (by rfl) (da_cons cx (de_var (i := 0)) da_nil)) (de_gl cx (by rfl) (V.glo 1 rfl)))))))
  (dss_one (V.raiseF 1 rfl cx hr (by decide) (by rfl) de_non))
  dss_nil)
  (dss_one (ds_for cx (di_enum cx (by rfl) (V.free 4 _ (by rfl)) (da_cons cx (de_var (i := 0)) da_nil)) (dg_tup 2 cx (dgs_cons cx (dg_name cx) (dgs_cons cx (dg_name cx) dgs_nil)))
  (dss_one (ds_if cx (DW.dt (dw_or cx (dt_not (dt_val (de_call cx (d_is_vector V) hr (by decide) (by rfl) (da_cons cx (de_var (i := 2)) da_nil)))) (dw_or1 (dt_cmp cx (opd_ne cx cx.u64) (de_callB (call_len_d cx) (by rfl) (V.free 7 _ (by rfl)) (by rfl) (da_cons cx (de_var (i := 2)) da_nil)) (de_callB (call_len_d cx) (by rfl) (V.free 7 _ (by rfl)) (by rfl) (da_cons cx (de_ix cx (de_var (i := 0)) de_int) da_nil)) (by rfl)))))
  (dss_one (V.raiseF 1 rfl cx hr (by decide) (by rfl) (de_var (i := 1))))
  dss_nil)))))
theorem sc_combined : FnScope (["weights", "rows"] : List Str) (["weights", "rows"] : List Str) (defScope (top 25)) := ⟨rfl, rfl, rfl, by decide +kernel, rfl, by decide +kernel, by decide +kernel⟩
theorem d_combined {P : Program} {w : World} {base : Heap} {R : RC} (V : Ev cfg P w base R) : FnD P w base R "combined" 45 ["weights", "rows"] (top 25) F_combined := by
  unfold F_combined
  exact V.def_ 14 rfl sc_combined (by decide) (fun _ _ _ _ _ _ us hl => match us, hl with | [_, _], _ => rfl) fun f cdv A outer s H E hr cx =>
  (dss_cons (ds_if cx (dt_not (dt_val (de_call cx (d_is_vector V) hr (by decide) (by rfl) (da_cons cx (de_var (i := 0)) da_nil))))
  (dss_one (V.raise 1 rfl cx (by rfl) de_str))
  dss_nil)
  (dss_cons (ds_if cx (DW.dt (dw_or cx (dt_not (dt_val (de_callB (call_isi_x cx V.xs) (by rfl) (V.free 6 _ (by rfl)) (by rfl) (da_cons cx (de_var (i := 1)) (da_cons cx (de_tup cx (da_cons cx (de_ty (n := .list) (by rfl) (V.free 8 _ (by rfl)) (by rfl)) (da_cons cx (de_ty (n := .tuple) (by rfl) (V.free 13 _ (by rfl)) (by rfl)) da_nil))) da_nil))))) (dw_or1 (dt_cmp cx (opd_ne cx cx.u64) (de_callB (call_len_d cx) (by rfl) (V.free 7 _ (by rfl)) (by rfl) (da_cons cx (de_var (i := 1)) da_nil)) (de_callB (call_len_d cx) (by rfl) (V.free 7 _ (by rfl)) (by rfl) (da_cons cx (de_var (i := 0)) da_nil)) (by rfl)))))
  (dss_one (V.raiseF 1 rfl cx hr (by decide) (by rfl) de_non))
  dss_nil)
  (dss_cons (ds_expr cx (de_call cx (d_need_rows V) hr (by decide) (by rfl) (da_cons cx (de_var (i := 1)) da_nil)))
  (dss_one (ds_ret (de_call cx (d_mixed V) hr (by decide) (by rfl) (da_cons cx (de_var (i := 0)) (da_cons cx (de_var (i := 1)) da_nil))))))))
theorem sc_is_word : FnScope (["value", "letter"] : List Str) (["value"] : List Str) (defScope (top 28)) := ⟨rfl, rfl, rfl, by decide +kernel, rfl, by decide +kernel, by decide +kernel⟩
theorem d_is_word {P : Program} {w : World} {base : Heap} {R : RC} (V : Ev cfg P w base R) : FnD P w base R "is_word" 41 ["value"] (top 28) F_is_word := by
  unfold F_is_word
  exact V.def_ 15 rfl sc_is_word (by decide) (fun _ _ _ _ _ _ us hl => match us, hl with | [_], _ => rfl) fun f cdv A outer s H E hr cx =>
  (dss_one (ds_ret (de_and cx (de_callB (call_isi_x cx V.xs) (by rfl) (V.free 6 _ (by rfl)) (by rfl) (da_cons cx (de_var (i := 0)) (da_cons cx (de_ty (n := .str) (by rfl) (V.free 12 _ (by rfl)) (by rfl)) da_nil))) (de_and cx (de_chain cx opd_le opd_le de_int (de_callB (call_len_d cx) (by rfl) (V.free 7 _ (by rfl)) (by rfl) (da_cons cx (de_var (i := 0)) da_nil)) de_int) (de_one (de_callB (call_all_d cx) (by rfl) (V.free 1 _ (by rfl)) (by rfl) (da_cons cx (de_lc false [("letter", 1)] cx (di_seq cx (de_var (i := 0))) (blkOk_by (by rfl)) (fun _ cx => (dgc_name cx)) (fun _ cx => dps_nil) (fun _ cx => (de_cmp cx (opd_in cx cx.un) (de_var (i := 1)) (de_gl cx (by rfl) (V.glo 0 rfl)) (by rfl)))) da_nil)))))))
theorem sc__law_begun : FnScope (["script", "great", "cell"] : List Str) (["script"] : List Str) (defScope (top 30)) := ⟨rfl, rfl, rfl, by decide +kernel, rfl, by decide +kernel, by decide +kernel⟩
theorem d__law_begun {P : Program} {w : World} {base : Heap} {R : RC} (V : Ev cfg P w base R) : FnD P w base R "_law_begun" 41 ["script"] (top 30) F__law_begun := by
  unfold F__law_begun
  exact V.def_ 16 rfl sc__law_begun (by decide) (fun _ _ _ _ _ _ us hl => match us, hl with | [_], _ => rfl) fun f cdv A outer s H E hr cx =>
  (dss_begun (i := 1) cx (ds_setLc (i := 1) true [("cell", 2)] cx (di_seq cx (de_var (i := 0))) (blkOk_by (by rfl)) (fun _ cx => (dgc_name cx)) (fun _ cx => (dps_one (dt_cmp cx opd_ge (de_callB call_abs_d (by rfl) (V.free 0 _ (by rfl)) (by rfl) (da_cons cx (de_var (i := 2)) da_nil)) (de_op cx opd_pow de_int de_int) (by rfl)))) (fun _ cx => (de_op cx opd_sub (de_callB call_abs_d (by rfl) (V.free 0 _ (by rfl)) (by rfl) (da_cons cx (de_var (i := 2)) da_nil)) (de_op cx opd_pow de_int de_int)))) (by rfl) (Or.inl (by rfl)) (de_lc false [("cell", 2)] cx (di_seq cx (de_var (i := 0))) (blkOk_by (by rfl)) (fun _ cx => (dgc_name cx)) (fun _ cx => dps_nil) (fun _ cx => (de_callB call_abs_d (by rfl) (V.free 0 _ (by rfl)) (by rfl) (da_cons cx (de_var (i := 2)) da_nil)))))
theorem sc__law_blended : FnScope (["state", "turn", "found", "prime", "blend", "cell"] : List Str) (["state"] : List Str) (defScope (top 31)) := ⟨rfl, rfl, rfl, by decide +kernel, rfl, by decide +kernel, by decide +kernel⟩
theorem d__law_blended {P : Program} {w : World} {base : Heap} {R : RC} (V : Ev cfg P w base R) : FnD P w base R "_law_blended" 41 ["state"] (top 31) F__law_blended := by
  unfold F__law_blended
  exact V.def_ 17 rfl sc__law_blended (by decide) (fun _ _ _ _ _ _ us hl => match us, hl with | [_], _ => rfl) fun f cdv A outer s H E hr cx =>
  (dss_cons (ds_par2 (i := 1) (j := 2) cx (da_cons cx (de_op cx (opd_add false cx) (de_ixDr cx cx.u1 (de_var (i := 0)) de_str) de_int) (da_cons cx de_int da_nil)))
  (dss_cons (ds_asg cx (de_var (i := 1)) (dg_subDr cx cx.u1 (de_var (i := 0)) de_str (fun _ => rfl)))
  (dss_cons (ds_for cx (di_seq cx (de_lst false cx (da_cons cx de_int (da_cons cx de_int (da_cons cx de_int da_nil))))) (dg_name cx)
  (dss_cons (ds_set (i := 4) cx (de_op cx (opd_add false cx) (de_op cx (opd_mul false cx) de_int (de_var (i := 1))) (de_op cx (opd_fdiv cx) (de_var (i := 3)) de_int)))
  (dss_cons (ds_for cx (di_seq cx (de_ixDr cx cx.u1 (de_var (i := 0)) de_str)) (dg_name cx)
  (dss_one (ds_set (i := 4) cx (de_op cx opd_mod (de_callTy call_int_d (by rfl) (V.free 5 _ (by rfl)) (by rfl) (da_cons cx (de_op cx (opd_add false cx) (de_op cx (opd_add false cx) (de_op cx (opd_mul false cx) (de_var (i := 4)) de_int) (de_var (i := 5))) (de_var (i := 1))) da_nil)) (de_var (i := 3))))))
  (dss_one (ds_set (i := 2) cx (de_op cx (opd_add false cx) (de_op cx (opd_mul false cx) (de_var (i := 2)) de_int) (de_op cx opd_mod (de_callTy call_int_d (by rfl) (V.free 5 _ (by rfl)) (by rfl) (da_cons cx (de_op cx opd_pow (de_var (i := 4)) de_int) da_nil)) (de_var (i := 3)))))))))
  (dss_one (ds_ret (de_var (i := 2)))))))
theorem sc__law_draw : FnScope (["state", "room", "found"] : List Str) (["state", "room"] : List Str) (defScope (top 32)) := ⟨rfl, rfl, rfl, by decide +kernel, rfl, by decide +kernel, by decide +kernel⟩
theorem d__law_draw {P : Program} {w : World} {base : Heap} {R : RC} (V : Ev cfg P w base R) : FnD P w base R "_law_draw" 42 ["state", "room"] (top 32) F__law_draw := by
  unfold F__law_draw
  exact V.def_ 18 rfl sc__law_draw (by decide) (fun _ _ _ _ _ _ us hl => match us, hl with | [_, _], _ => rfl) fun f cdv A outer s H E hr cx =>
  (dss_cons (ds_if cx (dt_cmp cx (opd_eq cx cx.u64) (de_ixDr cx cx.u1 (de_var (i := 0)) de_str) de_int (by rfl))
  (dss_one (ds_asg cx (de_if cx (dt_cmp cx (opd_ne cx cx.u64) (de_ixDr cx cx.u1 (de_var (i := 0)) de_str) (de_lst false cx da_nil) (by rfl)) (de_meth (PySem.F.plainAttrs_list) PySem.F.slot_list_pop PySem.F.type_list_pop cx (mt_popAt_d cx) (de_ixDr cx cx.u1 (de_var (i := 0)) de_str) (da_cons cx de_int da_nil)) (de_call cx (d__law_blended V) hr (by decide) (by rfl) (da_cons cx (de_var (i := 0)) da_nil))) (dg_subDr cx cx.u1 (de_var (i := 0)) de_str (fun _ => rfl))))
  dss_nil)
  (dss_cons (ds_set (i := 2) cx (de_op cx opd_mod (de_callTy call_int_d (by rfl) (V.free 5 _ (by rfl)) (by rfl) (da_cons cx (de_ixDr cx cx.u1 (de_var (i := 0)) de_str) da_nil)) (de_var (i := 1))))
  (dss_cons (ds_asg cx (de_op cx (opd_fdiv cx) (de_ixDr cx cx.u1 (de_var (i := 0)) de_str) (de_var (i := 1))) (dg_subDr cx cx.u1 (de_var (i := 0)) de_str (fun _ => rfl)))
  (dss_one (ds_ret (de_var (i := 2)))))))
theorem sc__law_pick : FnScope (["state", "some"] : List Str) (["state", "some"] : List Str) (defScope (top 33)) := ⟨rfl, rfl, rfl, by decide +kernel, rfl, by decide +kernel, by decide +kernel⟩
theorem d__law_pick {P : Program} {w : World} {base : Heap} {R : RC} (V : Ev cfg P w base R) : FnD P w base R "_law_pick" 43 ["state", "some"] (top 33) F__law_pick := by
  unfold F__law_pick
  exact V.def_ 19 rfl sc__law_pick (by decide) (fun _ _ _ _ _ _ us hl => match us, hl with | [_, _], _ => rfl) fun f cdv A outer s H E hr cx =>
  (dss_one (ds_ret (de_ix cx (de_var (i := 1)) (de_call cx (d__law_draw V) hr (by decide) (by rfl) (da_cons cx (de_var (i := 0)) (da_cons cx (de_callB (call_len_d cx) (by rfl) (V.free 7 _ (by rfl)) (by rfl) (da_cons cx (de_var (i := 1)) da_nil)) da_nil))))))
theorem sc__law_is_truth : FnScope (["found", "due"] : List Str) (["found", "due"] : List Str) (defScope (top 35)) := ⟨rfl, rfl, rfl, by decide +kernel, rfl, by decide +kernel, by decide +kernel⟩
theorem d__law_is_truth {P : Program} {w : World} {base : Heap} {R : RC} (V : Ev cfg P w base R) : FnD P w base R "_law_is_truth" 41 ["found", "due"] (top 35) F__law_is_truth := by
  unfold F__law_is_truth
  exact V.def_ 21 rfl sc__law_is_truth (by decide) (fun _ _ _ _ _ _ us hl => match us, hl with | [_, _], _ => rfl) fun f cdv A outer s H E hr cx =>
  (dss_one (ds_ret (de_if cx (dt_val (de_var (i := 1))) (de_cmp cx opd_is (de_var (i := 0)) de_bl (by rfl)) (de_cmp cx opd_is (de_var (i := 0)) de_bl (by rfl)))))
theorem sc__law_same : FnScope (["found", "due", "waiting", "one", "other", "alike", "key", "left", "right"] : List Str) (["found", "due"] : List Str) (defScope (top 36)) := ⟨rfl, rfl, rfl, by decide +kernel, rfl, by decide +kernel, by decide +kernel⟩
theorem d__law_same {P : Program} {w : World} {base : Heap} {R : RC} (V : Ev cfg P w base R) : FnD P w base R "_law_same" 42 ["found", "due"] (top 36) F__law_same := by
  unfold F__law_same
  exact V.defT 22 rfl sc__law_same (by decide) (fun _ _ _ _ _ _ us hl => match us, hl with | [_, _], _ => rfl) fun f cdv A outer s H E hr cx =>
  (dss_cons (ds_set (i := 2) cx (de_lst true cx (da_cons cx (de_tup cx (da_cons cx (de_var (i := 0)) (da_cons cx (de_var (i := 1)) da_nil))) da_nil)))
  (dss_cons (ds_while cx (dt_cmp cx (opd_ne cx cx.u64) (de_var (i := 2)) (de_lst false cx da_nil) (by rfl))
  (dss_cons (ds_asg cx (de_meth0 (PySem.F.plainAttrs_list) PySem.F.slot_list_pop PySem.F.type_list_pop cx (mt_pop_d cx) (de_var (i := 2))) (dg_tup 2 cx (dgs_cons cx (dg_name cx) (dgs_cons cx (dg_name cx) dgs_nil))))
  (dss_one (ds_if cx (DW.dt (dw_or cx (dt_cmp cx opd_is (de_var (i := 4)) de_non (by rfl)) (dw_or1 (dt_val (de_callB (call_isi_x cx V.xs) (by rfl) (V.free 6 _ (by rfl)) (by rfl) (da_cons cx (de_var (i := 4)) (da_cons cx (de_ty (n := .bool) (by rfl) (V.free 2 _ (by rfl)) (by rfl)) da_nil)))))))
  (dss_one (ds_if cx (dt_if cx (dt_cmp cx opd_is (de_var (i := 4)) de_non (by rfl)) (dt_cmp cx opd_isnot (de_var (i := 3)) de_non (by rfl)) (dt_not (dt_val (de_call cx (d__law_is_truth V) hr (by decide) (by rfl) (da_cons cx (de_var (i := 3)) (da_cons cx (de_var (i := 4)) da_nil))))))
  (dss_one (ds_ret de_bl))
  dss_nil))
  (dss_one (ds_if cx (dt_val (de_callB (call_isi_x cx V.xs) (by rfl) (V.free 6 _ (by rfl)) (by rfl) (da_cons cx (de_var (i := 4)) (da_cons cx (de_tup cx (da_cons cx (de_ty (n := .int) (by rfl) (V.free 5 _ (by rfl)) (by rfl)) (da_cons cx (de_ty (n := .str) (by rfl) (V.free 12 _ (by rfl)) (by rfl)) da_nil))) da_nil))))
  (dss_one (ds_if cx (DW.dt (dw_or cx (dt_val (de_callB (call_isi_x cx V.xs) (by rfl) (V.free 6 _ (by rfl)) (by rfl) (da_cons cx (de_var (i := 3)) (da_cons cx (de_ty (n := .bool) (by rfl) (V.free 2 _ (by rfl)) (by rfl)) da_nil)))) (dw_or cx (dt_cmp cx (opd_ne cx cx.u64) (de_callB (call_isi_x cx V.xs) (by rfl) (V.free 6 _ (by rfl)) (by rfl) (da_cons cx (de_var (i := 3)) (da_cons cx (de_ty (n := .int) (by rfl) (V.free 5 _ (by rfl)) (by rfl)) da_nil))) (de_callB (call_isi_x cx V.xs) (by rfl) (V.free 6 _ (by rfl)) (by rfl) (da_cons cx (de_var (i := 4)) (da_cons cx (de_ty (n := .int) (by rfl) (V.free 5 _ (by rfl)) (by rfl)) da_nil))) (by rfl)) (dw_or1 (dt_cmp cx (opd_ne cx cx.u64) (de_var (i := 3)) (de_var (i := 4)) (by rfl))))))
  (dss_one (ds_ret de_bl))
  dss_nil))
  (dss_one (ds_if cx (dt_val (de_callB (call_isi_x cx V.xs) (by rfl) (V.free 6 _ (by rfl)) (by rfl) (da_cons cx (de_var (i := 4)) (da_cons cx (de_ty (n := .dict) (by rfl) (V.free 3 _ (by rfl)) (by rfl)) da_nil))))
  (dss_cons ds_never
  (dss_cons ds_never
  (dss_one ds_never)))
  (dss_cons (ds_set (i := 5) cx (de_lst false cx (da_cons cx (de_and cx (de_callB (call_isi_x cx V.xs) (by rfl) (V.free 6 _ (by rfl)) (by rfl) (da_cons cx (de_var (i := 3)) (da_cons cx (de_ty (n := .tuple) (by rfl) (V.free 13 _ (by rfl)) (by rfl)) da_nil))) (de_one (de_callB (call_isi_x cx V.xs) (by rfl) (V.free 6 _ (by rfl)) (by rfl) (da_cons cx (de_var (i := 4)) (da_cons cx (de_ty (n := .tuple) (by rfl) (V.free 13 _ (by rfl)) (by rfl)) da_nil))))) (da_cons cx (de_and cx (de_callB (call_isi_x cx V.xs) (by rfl) (V.free 6 _ (by rfl)) (by rfl) (da_cons cx (de_var (i := 3)) (da_cons cx (de_ty (n := .list) (by rfl) (V.free 8 _ (by rfl)) (by rfl)) da_nil))) (de_one (de_callB (call_isi_x cx V.xs) (by rfl) (V.free 6 _ (by rfl)) (by rfl) (da_cons cx (de_var (i := 4)) (da_cons cx (de_ty (n := .list) (by rfl) (V.free 8 _ (by rfl)) (by rfl)) da_nil))))) da_nil))))
  (dss_cons (ds_if cx (DW.dt (dw_or cx (dt_cmp cx (opd_notin cx cx.un) de_bl (de_var (i := 5)) (by rfl)) (dw_or1 (dt_cmp cx (opd_ne cx cx.u64) (de_callB (call_len_d cx) (by rfl) (V.free 7 _ (by rfl)) (by rfl) (da_cons cx (de_var (i := 3)) da_nil)) (de_callB (call_len_d cx) (by rfl) (V.free 7 _ (by rfl)) (by rfl) (da_cons cx (de_var (i := 4)) da_nil)) (by rfl)))))
  (dss_one (ds_ret de_bl))
  dss_nil)
  (dss_one (ds_expr cx (de_meth (PySem.F.plainAttrs_list) PySem.F.slot_list_extend PySem.F.type_list_extend cx (mt_extend_d cx) (de_var (i := 2)) (da_cons cx (de_lc false [("left", 7), ("right", 8)] cx (di_zip2 cx (by rfl) (V.free 14 _ (by rfl)) (da_cons cx (de_var (i := 3)) (da_cons cx (de_var (i := 4)) da_nil))) (blkOk_by (by rfl)) (fun _ cx => (dgc_tup 2 cx (dgsc_cons cx (dgc_name cx) (dgsc_cons cx (dgc_name cx) dgsc_nil)))) (fun _ cx => dps_nil) (fun _ cx => (de_tup cx (da_cons cx (de_var (i := 7)) (da_cons cx (de_var (i := 8)) da_nil))))) da_nil))))))))))))))
  (dss_one (ds_ret de_bl))))
theorem sc__law_q : FnScope (["n", "d", "one", "other"] : List Str) (["n", "d"] : List Str) (defScope (top 37)) := ⟨rfl, rfl, rfl, by decide +kernel, rfl, by decide +kernel, by decide +kernel⟩
theorem d__law_q {P : Program} {w : World} {base : Heap} {R : RC} (V : Ev cfg P w base R) : FnD P w base R "_law_q" 41 ["n", "d"] (top 37) F__law_q := by
  unfold F__law_q
  exact V.def_ 23 rfl sc__law_q (by decide) (fun _ _ _ _ _ _ us hl => match us, hl with | [_, _], _ => rfl) fun f cdv A outer s H E hr cx =>
  (dss_cons (ds_par2 (i := 2) (j := 3) cx (da_cons cx (de_callB call_abs_d (by rfl) (V.free 0 _ (by rfl)) (by rfl) (da_cons cx (de_var (i := 0)) da_nil)) (da_cons cx (de_callB call_abs_d (by rfl) (V.free 0 _ (by rfl)) (by rfl) (da_cons cx (de_var (i := 1)) da_nil)) da_nil)))
  (dss_cons (ds_while cx (dt_cmp cx opd_gt (de_var (i := 3)) de_int (by rfl))
  (dss_one (ds_par2 (i := 2) (j := 3) cx (da_cons cx (de_var (i := 3)) (da_cons cx (de_op cx opd_mod (de_callTy call_int_d (by rfl) (V.free 5 _ (by rfl)) (by rfl) (da_cons cx (de_var (i := 2)) da_nil)) (de_var (i := 3))) da_nil)))))
  (dss_one (ds_ret (de_if cx (dt_cmp cx opd_gt (de_var (i := 1)) de_int (by rfl)) (de_tup cx (da_cons cx (de_op cx (opd_fdiv cx) (de_var (i := 0)) (de_var (i := 2))) (da_cons cx (de_op cx (opd_fdiv cx) (de_var (i := 1)) (de_var (i := 2))) da_nil))) (de_tup cx (da_cons cx (de_op cx (opd_fdiv cx) (de_neg (de_var (i := 0))) (de_var (i := 2))) (da_cons cx (de_op cx (opd_fdiv cx) (de_neg (de_var (i := 1))) (de_var (i := 2))) da_nil))))))))
theorem sc__law_plus : FnScope (["one", "other"] : List Str) (["one", "other"] : List Str) (defScope (top 38)) := ⟨rfl, rfl, rfl, by decide +kernel, rfl, by decide +kernel, by decide +kernel⟩
theorem d__law_plus {P : Program} {w : World} {base : Heap} {R : RC} (V : Ev cfg P w base R) : FnD P w base R "_law_plus" 42 ["one", "other"] (top 38) F__law_plus := by
  unfold F__law_plus
  exact V.def_ 24 rfl sc__law_plus (by decide) (fun _ _ _ _ _ _ us hl => match us, hl with | [_, _], _ => rfl) fun f cdv A outer s H E hr cx =>
  (dss_one (ds_ret (de_call cx (d__law_q V) hr (by decide) (by rfl) (da_cons cx (de_op cx (opd_add false cx) (de_op cx (opd_mul false cx) (de_ix cx (de_var (i := 0)) de_int) (de_ix cx (de_var (i := 1)) de_int)) (de_op cx (opd_mul false cx) (de_ix cx (de_var (i := 1)) de_int) (de_ix cx (de_var (i := 0)) de_int))) (da_cons cx (de_op cx (opd_mul false cx) (de_ix cx (de_var (i := 0)) de_int) (de_ix cx (de_var (i := 1)) de_int)) da_nil)))))
theorem sc__law_times : FnScope (["one", "other"] : List Str) (["one", "other"] : List Str) (defScope (top 39)) := ⟨rfl, rfl, rfl, by decide +kernel, rfl, by decide +kernel, by decide +kernel⟩
theorem d__law_times {P : Program} {w : World} {base : Heap} {R : RC} (V : Ev cfg P w base R) : FnD P w base R "_law_times" 42 ["one", "other"] (top 39) F__law_times := by
  unfold F__law_times
  exact V.def_ 25 rfl sc__law_times (by decide) (fun _ _ _ _ _ _ us hl => match us, hl with | [_, _], _ => rfl) fun f cdv A outer s H E hr cx =>
  (dss_one (ds_ret (de_call cx (d__law_q V) hr (by decide) (by rfl) (da_cons cx (de_op cx (opd_mul false cx) (de_ix cx (de_var (i := 0)) de_int) (de_ix cx (de_var (i := 1)) de_int)) (da_cons cx (de_op cx (opd_mul false cx) (de_ix cx (de_var (i := 0)) de_int) (de_ix cx (de_var (i := 1)) de_int)) da_nil)))))
theorem sc__law_sum : FnScope (["some", "found", "each"] : List Str) (["some"] : List Str) (defScope (top 40)) := ⟨rfl, rfl, rfl, by decide +kernel, rfl, by decide +kernel, by decide +kernel⟩
theorem d__law_sum {P : Program} {w : World} {base : Heap} {R : RC} (V : Ev cfg P w base R) : FnD P w base R "_law_sum" 43 ["some"] (top 40) F__law_sum := by
  unfold F__law_sum
  exact V.def_ 26 rfl sc__law_sum (by decide) (fun _ _ _ _ _ _ us hl => match us, hl with | [_], _ => rfl) fun f cdv A outer s H E hr cx =>
  (dss_cons (ds_set (i := 1) cx (de_tup cx (da_cons cx de_int (da_cons cx de_int da_nil))))
  (dss_cons (ds_for cx (di_seq cx (de_var (i := 0))) (dg_name cx)
  (dss_one (ds_set (i := 1) cx (de_call cx (d__law_plus V) hr (by decide) (by rfl) (da_cons cx (de_var (i := 1)) (da_cons cx (de_var (i := 2)) da_nil))))))
  (dss_one (ds_ret (de_var (i := 1))))))
theorem sc__law_words : FnScope (["draws", "many", "found", "word", "lap"] : List Str) (["draws", "many"] : List Str) (defScope (top 41)) := ⟨rfl, rfl, rfl, by decide +kernel, rfl, by decide +kernel, by decide +kernel⟩
theorem d__law_words {P : Program} {w : World} {base : Heap} {R : RC} (V : Ev cfg P w base R) : FnD P w base R "_law_words" 44 ["draws", "many"] (top 41) F__law_words := by
  unfold F__law_words
  exact V.def_ 27 rfl sc__law_words (by decide) (fun _ _ _ _ _ _ us hl => match us, hl with | [_, _], _ => rfl) fun f cdv A outer s H E hr cx =>
  (dss_cons (ds_set (i := 2) cx (de_lst false cx da_nil))
  (dss_cons (ds_while cx (dt_cmp cx opd_lt (de_callB (call_len_d cx) (by rfl) (V.free 7 _ (by rfl)) (by rfl) (da_cons cx (de_var (i := 2)) da_nil)) (de_var (i := 1)) (by rfl))
  (dss_cons (ds_set (i := 3) cx (de_meth (PySem.F.plainAttrs_str) PySem.F.slot_str_join PySem.F.type_str_join cx (mt_join_d cx) de_str (da_cons cx (de_lc false [("lap", 4)] cx (di_range1 (by rfl) (V.free 10 _ (by rfl)) (da_cons cx (de_op cx (opd_add false cx) de_int (de_call cx (d__law_draw V) hr (by decide) (by rfl) (da_cons cx (de_var (i := 0)) (da_cons cx de_int da_nil)))) da_nil)) (blkOk_by (by rfl)) (fun _ cx => (dgc_name cx)) (fun _ cx => dps_nil) (fun _ cx => (de_call cx (d__law_pick V) hr (by decide) (by rfl) (da_cons cx (de_var (i := 0)) (da_cons cx (de_callTy (call_list_d false cx) (by rfl) (V.free 8 _ (by rfl)) (by rfl) (da_cons cx de_str da_nil)) da_nil))))) da_nil)))
  (dss_one (ds_set (i := 2) cx (de_op cx (opd_add false cx) (de_var (i := 2)) (de_if cx (dt_cmp cx (opd_notin cx cx.un) (de_var (i := 3)) (de_var (i := 2)) (by rfl)) (de_lst false cx (da_cons cx (de_var (i := 3)) da_nil)) (de_if cx (DW.dt (dw_and cx (dt_cmp cx (opd_notin cx cx.un) (de_op cx (opd_add false cx) (de_sl false cx (de_var (i := 3)) do_none (do_some de_int)) (de_op cx (opd_mul false cx) de_str (de_callB (call_len_d cx) (by rfl) (V.free 7 _ (by rfl)) (by rfl) (da_cons cx (de_var (i := 2)) da_nil)))) (de_var (i := 2)) (by rfl)) (dw_and1 (dt_cmp cx opd_lt (de_callB (call_len_d cx) (by rfl) (V.free 7 _ (by rfl)) (by rfl) (da_cons cx (de_var (i := 2)) da_nil)) de_int (by rfl))))) (de_lst false cx (da_cons cx (de_op cx (opd_add false cx) (de_sl false cx (de_var (i := 3)) do_none (do_some de_int)) (de_op cx (opd_mul false cx) de_str (de_callB (call_len_d cx) (by rfl) (V.free 7 _ (by rfl)) (by rfl) (da_cons cx (de_var (i := 2)) da_nil)))) da_nil)) (de_lst false cx da_nil))))))))
  (dss_one (ds_ret (de_callB (call_sorted_d cx) (by rfl) (V.free 11 _ (by rfl)) (by rfl) (da_cons cx (de_var (i := 2)) da_nil))))))
theorem sc__law_number : FnScope (["draws", "size", "n", "d"] : List Str) (["draws", "size"] : List Str) (defScope (top 42)) := ⟨rfl, rfl, rfl, by decide +kernel, rfl, by decide +kernel, by decide +kernel⟩
theorem d__law_number {P : Program} {w : World} {base : Heap} {R : RC} (V : Ev cfg P w base R) : FnD P w base R "_law_number" 44 ["draws", "size"] (top 42) F__law_number := by
  unfold F__law_number
  exact V.def_ 28 rfl sc__law_number (by decide) (fun _ _ _ _ _ _ us hl => match us, hl with | [_, _], _ => rfl) fun f cdv A outer s H E hr cx =>
  (dss_cons (ds_par2 (i := 2) (j := 3) cx (da_cons cx (de_call cx (d__law_draw V) hr (by decide) (by rfl) (da_cons cx (de_var (i := 0)) (da_cons cx (de_op cx (opd_add false cx) (de_var (i := 1)) de_int) da_nil))) (da_cons cx (de_op cx (opd_add false cx) de_int (de_call cx (d__law_draw V) hr (by decide) (by rfl) (da_cons cx (de_var (i := 0)) (da_cons cx (de_call cx (d__law_pick V) hr (by decide) (by rfl) (da_cons cx (de_var (i := 0)) (da_cons cx (de_lst false cx (da_cons cx de_int (da_cons cx de_int (da_cons cx de_int (da_cons cx (de_var (i := 1)) da_nil))))) da_nil))) da_nil)))) da_nil)))
  (dss_one (ds_ret (de_call cx (d__law_q V) hr (by decide) (by rfl) (da_cons cx (de_if cx (dt_cmp cx (opd_eq cx cx.u64) (de_call cx (d__law_draw V) hr (by decide) (by rfl) (da_cons cx (de_var (i := 0)) (da_cons cx de_int da_nil))) de_int (by rfl)) (de_var (i := 2)) (de_op cx opd_sub de_int (de_var (i := 2)))) (da_cons cx (de_var (i := 3)) da_nil))))))
theorem sc__law_vector : FnScope (["draws", "many", "size", "lap"] : List Str) (["draws", "many", "size"] : List Str) (defScope (top 43)) := ⟨rfl, rfl, rfl, by decide +kernel, rfl, by decide +kernel, by decide +kernel⟩
theorem d__law_vector {P : Program} {w : World} {base : Heap} {R : RC} (V : Ev cfg P w base R) : FnD P w base R "_law_vector" 45 ["draws", "many", "size"] (top 43) F__law_vector := by
  unfold F__law_vector
  exact V.def_ 29 rfl sc__law_vector (by decide) (fun _ _ _ _ _ _ us hl => match us, hl with | [_, _, _], _ => rfl) fun f cdv A outer s H E hr cx =>
  (dss_one (ds_ret (de_callTy (call_tuple_d cx) (by rfl) (V.free 13 _ (by rfl)) (by rfl) (da_cons cx (de_lc false [("lap", 3)] cx (di_range1 (by rfl) (V.free 10 _ (by rfl)) (da_cons cx (de_var (i := 1)) da_nil)) (blkOk_by (by rfl)) (fun _ cx => (dgc_name cx)) (fun _ cx => dps_nil) (fun _ cx => (de_call cx (d__law_pick V) hr (by decide) (by rfl) (da_cons cx (de_var (i := 0)) (da_cons cx (de_lst false cx (da_cons cx (de_tup cx (da_cons cx de_int (da_cons cx de_int da_nil))) (da_cons cx (de_call cx (d__law_number V) hr (by decide) (by rfl) (da_cons cx (de_var (i := 0)) (da_cons cx (de_var (i := 2)) da_nil))) (da_cons cx (de_call cx (d__law_number V) hr (by decide) (by rfl) (da_cons cx (de_var (i := 0)) (da_cons cx (de_var (i := 2)) da_nil))) da_nil)))) da_nil))))) da_nil))))
theorem sc__law_dot : FnScope (["one", "other", "left", "right"] : List Str) (["one", "other"] : List Str) (defScope (top 44)) := ⟨rfl, rfl, rfl, by decide +kernel, rfl, by decide +kernel, by decide +kernel⟩
theorem d__law_dot {P : Program} {w : World} {base : Heap} {R : RC} (V : Ev cfg P w base R) : FnD P w base R "_law_dot" 44 ["one", "other"] (top 44) F__law_dot := by
  unfold F__law_dot
  exact V.def_ 30 rfl sc__law_dot (by decide) (fun _ _ _ _ _ _ us hl => match us, hl with | [_, _], _ => rfl) fun f cdv A outer s H E hr cx =>
  (dss_one (ds_ret (de_call cx (d__law_sum V) hr (by decide) (by rfl) (da_cons cx (de_lc false [("left", 2), ("right", 3)] cx (di_zip2 cx (by rfl) (V.free 14 _ (by rfl)) (da_cons cx (de_var (i := 0)) (da_cons cx (de_var (i := 1)) da_nil))) (blkOk_by (by rfl)) (fun _ cx => (dgc_tup 2 cx (dgsc_cons cx (dgc_name cx) (dgsc_cons cx (dgc_name cx) dgsc_nil)))) (fun _ cx => dps_nil) (fun _ cx => (de_call cx (d__law_times V) hr (by decide) (by rfl) (da_cons cx (de_var (i := 2)) (da_cons cx (de_var (i := 3)) da_nil))))) da_nil))))
theorem sc__law_mixed : FnScope (["weights", "rows", "width", "at", "weight", "row"] : List Str) (["weights", "rows", "width"] : List Str) (defScope (top 45)) := ⟨rfl, rfl, rfl, by decide +kernel, rfl, by decide +kernel, by decide +kernel⟩
theorem d__law_mixed {P : Program} {w : World} {base : Heap} {R : RC} (V : Ev cfg P w base R) : FnD P w base R "_law_mixed" 44 ["weights", "rows", "width"] (top 45) F__law_mixed := by
  unfold F__law_mixed
  exact V.def_ 31 rfl sc__law_mixed (by decide) (fun _ _ _ _ _ _ us hl => match us, hl with | [_, _, _], _ => rfl) fun f cdv A outer s H E hr cx =>
  (dss_one (ds_ret (de_callTy (call_tuple_d cx) (by rfl) (V.free 13 _ (by rfl)) (by rfl) (da_cons cx (de_lc false [("at", 3)] cx (di_range1 (by rfl) (V.free 10 _ (by rfl)) (da_cons cx (de_var (i := 2)) da_nil)) (blkOk_by (by rfl)) (fun _ cx => (dgc_name cx)) (fun _ cx => dps_nil) (fun _ cx => (de_call cx (d__law_sum V) hr (by decide) (by rfl) (da_cons cx (de_lc false [("weight", 4), ("row", 5)] cx (di_zip2 cx (by rfl) (V.free 14 _ (by rfl)) (da_cons cx (de_var (i := 0)) (da_cons cx (de_var (i := 1)) da_nil))) (blkOk_by (by rfl)) (fun _ cx => (dgc_tup 2 cx (dgsc_cons cx (dgc_name cx) (dgsc_cons cx (dgc_name cx) dgsc_nil)))) (fun _ cx => dps_nil) (fun _ cx => (de_call cx (d__law_times V) hr (by decide) (by rfl) (da_cons cx (de_var (i := 4)) (da_cons cx (de_ix cx (de_var (i := 5)) (de_var (i := 3))) da_nil))))) da_nil)))) da_nil))))
theorem sc__law_is_ratio : FnScope (["value", "part"] : List Str) (["value"] : List Str) (defScope (top 46)) := ⟨rfl, rfl, rfl, by decide +kernel, rfl, by decide +kernel, by decide +kernel⟩
theorem d__law_is_ratio {P : Program} {w : World} {base : Heap} {R : RC} (V : Ev cfg P w base R) : FnD P w base R "_law_is_ratio" 42 ["value"] (top 46) F__law_is_ratio := by
  unfold F__law_is_ratio
  exact V.def_ 32 rfl sc__law_is_ratio (by decide) (fun _ _ _ _ _ _ us hl => match us, hl with | [_], _ => rfl) fun f cdv A outer s H E hr cx =>
  (dss_cons (ds_if cx (DW.dt (dw_or cx (dt_not (dt_val (de_callB (call_isi_x cx V.xs) (by rfl) (V.free 6 _ (by rfl)) (by rfl) (da_cons cx (de_var (i := 0)) (da_cons cx (de_ty (n := .tuple) (by rfl) (V.free 13 _ (by rfl)) (by rfl)) da_nil))))) (dw_or cx (dt_cmp cx (opd_ne cx cx.u64) (de_callB (call_len_d cx) (by rfl) (V.free 7 _ (by rfl)) (by rfl) (da_cons cx (de_var (i := 0)) da_nil)) de_int (by rfl)) (dw_or1 (dt_cmp cx (opd_ne cx cx.u64) (de_lc false [("part", 1)] cx (di_seq cx (de_var (i := 0))) (blkOk_by (by rfl)) (fun _ cx => (dgc_name cx)) (fun _ cx => (dps_one (DW.dt (dw_or cx (dt_not (dt_val (de_callB (call_isi_x cx V.xs) (by rfl) (V.free 6 _ (by rfl)) (by rfl) (da_cons cx (de_var (i := 1)) (da_cons cx (de_ty (n := .int) (by rfl) (V.free 5 _ (by rfl)) (by rfl)) da_nil))))) (dw_or1 (dt_val (de_callB (call_isi_x cx V.xs) (by rfl) (V.free 6 _ (by rfl)) (by rfl) (da_cons cx (de_var (i := 1)) (da_cons cx (de_ty (n := .bool) (by rfl) (V.free 2 _ (by rfl)) (by rfl)) da_nil))))))))) (fun _ cx => de_int)) (de_lst false cx da_nil) (by rfl))))))
  (dss_one (ds_ret de_bl))
  dss_nil)
  (dss_one (ds_ret (de_and cx (de_cmp cx opd_gt (de_ix cx (de_var (i := 0)) de_int) de_int (by rfl)) (de_one (de_cmp cx (opd_eq cx cx.u64) (de_call cx (d__law_q V) hr (by decide) (by rfl) (da_cons cx (de_ix cx (de_var (i := 0)) de_int) (da_cons cx (de_ix cx (de_var (i := 0)) de_int) da_nil))) (de_var (i := 0)) (by rfl)))))))
theorem sc__law_near : FnScope (["draws", "n", "d", "some"] : List Str) (["draws"] : List Str) (defScope (top 47)) := ⟨rfl, rfl, rfl, by decide +kernel, rfl, by decide +kernel, by decide +kernel⟩
theorem d__law_near {P : Program} {w : World} {base : Heap} {R : RC} (V : Ev cfg P w base R) : FnD P w base R "_law_near" 44 ["draws"] (top 47) F__law_near := by
  unfold F__law_near
  exact V.def_ 33 rfl sc__law_near (by decide) (fun _ _ _ _ _ _ us hl => match us, hl with | [_], _ => rfl) fun f cdv A outer s H E hr cx =>
  (dss_cons (ds_par2 (i := 1) (j := 2) cx (da_cons cx (de_call cx (d__law_draw V) hr (by decide) (by rfl) (da_cons cx (de_var (i := 0)) (da_cons cx (de_op cx opd_pow de_int de_int) da_nil))) (da_cons cx (de_op cx (opd_add false cx) de_int (de_call cx (d__law_draw V) hr (by decide) (by rfl) (da_cons cx (de_var (i := 0)) (da_cons cx (de_op cx opd_pow de_int de_int) da_nil)))) da_nil)))
  (dss_cons (ds_set (i := 3) cx (de_lst false cx (da_cons cx (de_call cx (d__law_q V) hr (by decide) (by rfl) (da_cons cx (de_var (i := 1)) (da_cons cx (de_var (i := 2)) da_nil))) (da_cons cx (de_call cx (d__law_q V) hr (by decide) (by rfl) (da_cons cx (de_op cx opd_sub de_int (de_var (i := 1))) (da_cons cx (de_var (i := 2)) da_nil))) (da_cons cx (de_tup cx (da_cons cx (de_var (i := 1)) (da_cons cx (de_var (i := 2)) da_nil))) (da_cons cx (de_tup cx (da_cons cx (de_op cx (opd_mul false cx) (de_var (i := 1)) de_int) (da_cons cx (de_op cx (opd_mul false cx) (de_var (i := 2)) de_int) da_nil))) (da_cons cx (de_tup cx (da_cons cx (de_var (i := 1)) (da_cons cx (de_op cx opd_sub de_int (de_var (i := 2))) da_nil))) (da_cons cx (de_lst false cx (da_cons cx (de_var (i := 1)) (da_cons cx (de_var (i := 2)) da_nil))) (da_cons cx (de_tup cx (da_cons cx (de_var (i := 1)) da_nil)) (da_cons cx (de_tup cx (da_cons cx (de_var (i := 1)) (da_cons cx (de_var (i := 2)) (da_cons cx de_int da_nil)))) (da_cons cx (de_tup cx (da_cons cx de_bl (da_cons cx de_int da_nil))) (da_cons cx (de_tup cx (da_cons cx de_int (da_cons cx de_int da_nil))) (da_cons cx (de_tup cx (da_cons cx de_int (da_cons cx de_int da_nil))) (da_cons cx (de_tup cx (da_cons cx de_int (da_cons cx de_int da_nil))) (da_cons cx de_non (da_cons cx (de_var (i := 1)) (da_cons cx (de_tup cx (da_cons cx (de_callTy call_str_d (by rfl) (V.free 12 _ (by rfl)) (by rfl) (da_cons cx (de_var (i := 1)) da_nil)) (da_cons cx (de_var (i := 2)) da_nil))) da_nil)))))))))))))))))
  (dss_one (ds_ret (de_call cx (d__law_pick V) hr (by decide) (by rfl) (da_cons cx (de_var (i := 0)) (da_cons cx (de_var (i := 3)) da_nil)))))))
theorem sc__law_sums_right : FnScope (["draws", "many", "one", "other", "rows", "weights", "due", "value", "lap", "part"] : List Str) (["draws"] : List Str) (defScope (top 48)) := ⟨rfl, rfl, rfl, by decide +kernel, rfl, by decide +kernel, by decide +kernel⟩
theorem d__law_sums_right {P : Program} {w : World} {base : Heap} {R : RC} (V : Ev cfg P w base R) : FnD P w base R "_law_sums_right" 46 ["draws"] (top 48) F__law_sums_right := by
  unfold F__law_sums_right
  exact V.def_ 34 rfl sc__law_sums_right (by decide) (fun _ _ _ _ _ _ us hl => match us, hl with | [_], _ => rfl) fun f cdv A outer s H E hr cx =>
  (dss_cons (ds_set (i := 1) cx (de_call cx (d__law_pick V) hr (by decide) (by rfl) (da_cons cx (de_var (i := 0)) (da_cons cx (de_lst false cx (da_cons cx de_int (da_cons cx de_int (da_cons cx de_int (da_cons cx de_int (da_cons cx de_int (da_cons cx de_int da_nil))))))) da_nil))))
  (dss_cons (ds_par2 (i := 2) (j := 3) cx (da_cons cx (de_call cx (d__law_vector V) hr (by decide) (by rfl) (da_cons cx (de_var (i := 0)) (da_cons cx (de_var (i := 1)) (da_cons cx (de_op cx opd_pow de_int de_int) da_nil)))) (da_cons cx (de_call cx (d__law_vector V) hr (by decide) (by rfl) (da_cons cx (de_var (i := 0)) (da_cons cx (de_var (i := 1)) (da_cons cx (de_op cx opd_pow de_int de_int) da_nil)))) da_nil)))
  (dss_cons (ds_if cx (DW.dt (dw_or cx (dt_not (dt_val (de_call cx (d__law_same V) hr (by decide) (by rfl) (da_cons cx (de_call cx (d_inner V) hr (by decide) (by rfl) (da_cons cx (de_var (i := 2)) (da_cons cx (de_var (i := 3)) da_nil))) (da_cons cx (de_call cx (d__law_dot V) hr (by decide) (by rfl) (da_cons cx (de_var (i := 2)) (da_cons cx (de_var (i := 3)) da_nil))) da_nil))))) (dw_or1 (dt_not (dt_val (de_call cx (d__law_same V) hr (by decide) (by rfl) (da_cons cx (de_callK0 [1, 0] cx (d_inner V) hr (by decide) (by rfl) (dk_cons cx (de_var (i := 2)) (dk_cons cx (de_var (i := 3)) dk_nil)) (fun _ _ _ _ _ _ ws hl => match ws, hl with | [_, _], _ => rfl) (fun ds hl => match ds, hl with | [_, _], _ => rfl)) (da_cons cx (de_call cx (d__law_dot V) hr (by decide) (by rfl) (da_cons cx (de_var (i := 2)) (da_cons cx (de_var (i := 3)) da_nil))) da_nil))))))))
  (dss_one (ds_ret de_bl))
  dss_nil)
  (dss_cons (ds_setLc (i := 4) false [("lap", 8)] cx (di_range1 (by rfl) (V.free 10 _ (by rfl)) (da_cons cx (de_op cx (opd_add false cx) de_int (de_call cx (d__law_draw V) hr (by decide) (by rfl) (da_cons cx (de_var (i := 0)) (da_cons cx de_int da_nil)))) da_nil)) (blkOk_by (by rfl)) (fun _ cx => (dgc_name cx)) (fun _ cx => dps_nil) (fun _ cx => (de_call cx (d__law_vector V) hr (by decide) (by rfl) (da_cons cx (de_var (i := 0)) (da_cons cx (de_callB (call_min2_d cx) (by rfl) (V.free 9 _ (by rfl)) (by rfl) (da_cons cx (de_var (i := 1)) (da_cons cx de_int da_nil))) (da_cons cx de_int da_nil))))))
  (dss_cons (ds_set (i := 5) cx (de_call cx (d__law_vector V) hr (by decide) (by rfl) (da_cons cx (de_var (i := 0)) (da_cons cx (de_callB (call_len_d cx) (by rfl) (V.free 7 _ (by rfl)) (by rfl) (da_cons cx (de_var (i := 4)) da_nil)) (da_cons cx de_int da_nil)))))
  (dss_cons (ds_set (i := 6) cx (de_call cx (d__law_mixed V) hr (by decide) (by rfl) (da_cons cx (de_var (i := 5)) (da_cons cx (de_var (i := 4)) (da_cons cx (de_callB (call_min2_d cx) (by rfl) (V.free 9 _ (by rfl)) (by rfl) (da_cons cx (de_var (i := 1)) (da_cons cx de_int da_nil))) da_nil)))))
  (dss_cons (ds_if cx (DW.dt (dw_or cx (dt_not (dt_val (de_call cx (d__law_same V) hr (by decide) (by rfl) (da_cons cx (de_call cx (d_combined V) hr (by decide) (by rfl) (da_cons cx (de_var (i := 5)) (da_cons cx (de_var (i := 4)) da_nil))) (da_cons cx (de_var (i := 6)) da_nil))))) (dw_or1 (dt_not (dt_val (de_call cx (d__law_same V) hr (by decide) (by rfl) (da_cons cx (de_callK0 [1, 0] cx (d_combined V) hr (by decide) (by rfl) (dk_cons cx (de_callTy (call_tuple_d cx) (by rfl) (V.free 13 _ (by rfl)) (by rfl) (da_cons cx (de_var (i := 4)) da_nil)) (dk_cons cx (de_var (i := 5)) dk_nil)) (fun _ _ _ _ _ _ ws hl => match ws, hl with | [_, _], _ => rfl) (fun ds hl => match ds, hl with | [_, _], _ => rfl)) (da_cons cx (de_var (i := 6)) da_nil))))))))
  (dss_one (ds_ret de_bl))
  dss_nil)
  (dss_cons (ds_for cx (di_seq cx (de_lst false cx (da_cons cx (de_var (i := 2)) (da_cons cx (de_callTy (call_list_d false cx) (by rfl) (V.free 8 _ (by rfl)) (by rfl) (da_cons cx (de_var (i := 2)) da_nil)) (da_cons cx (de_op cx (opd_add false cx) (de_var (i := 2)) (de_tup cx (da_cons cx de_non da_nil))) (da_cons cx (de_op cx (opd_add false cx) (de_var (i := 2)) (de_tup cx (da_cons cx (de_tup cx (da_cons cx de_int (da_cons cx de_int da_nil))) da_nil))) (da_cons cx (de_op cx (opd_mul false cx) (de_var (i := 2)) de_int) (da_cons cx (de_tup cx da_nil) (da_cons cx (de_tup cx (da_cons cx (de_var (i := 2)) da_nil)) (da_cons cx de_non (da_cons cx (de_sl false cx (de_var (i := 2)) do_none (do_some de_int)) da_nil))))))))))) (dg_name cx)
  (dss_cons (ds_set (i := 6) cx (de_and cx (de_callB (call_isi_x cx V.xs) (by rfl) (V.free 6 _ (by rfl)) (by rfl) (da_cons cx (de_var (i := 7)) (da_cons cx (de_ty (n := .tuple) (by rfl) (V.free 13 _ (by rfl)) (by rfl)) da_nil))) (de_and cx (de_chain cx opd_le opd_le de_int (de_callB (call_len_d cx) (by rfl) (V.free 7 _ (by rfl)) (by rfl) (da_cons cx (de_var (i := 7)) da_nil)) de_int) (de_one (de_cmp cx (opd_eq cx cx.u64) (de_lc false [("part", 9)] cx (di_seq cx (de_var (i := 7))) (blkOk_by (by rfl)) (fun _ cx => (dgc_name cx)) (fun _ cx => (dps_one (dt_not (dt_val (de_call cx (d__law_is_ratio V) hr (by decide) (by rfl) (da_cons cx (de_var (i := 9)) da_nil)))))) (fun _ cx => de_int)) (de_lst false cx da_nil) (by rfl))))))
  (dss_one (ds_if cx (DW.dt (dw_or cx (dt_not (dt_val (de_call cx (d__law_is_truth V) hr (by decide) (by rfl) (da_cons cx (de_call cx (d_is_vector V) hr (by decide) (by rfl) (da_cons cx (de_var (i := 7)) da_nil)) (da_cons cx (de_var (i := 6)) da_nil))))) (dw_or1 (dt_cmp cx (opd_ne cx cx.u64) (de_callK0 [0] cx (d_is_vector V) hr (by decide) (by rfl) (dk_cons cx (de_var (i := 7)) dk_nil) (fun _ _ _ _ _ _ ws hl => match ws, hl with | [_], _ => rfl) (fun ds hl => match ds, hl with | [_], _ => rfl)) (de_var (i := 6)) (by rfl)))))
  (dss_one (ds_ret de_bl))
  dss_nil))))
  (dss_one (ds_ret de_bl))))))))))
theorem sc__law_refused : FnScope (["draws", "one", "bad", "work", "rows", "at", "odd", "wrong", "error", "due"] : List Str) (["draws"] : List Str) (defScope (top 49)) := ⟨rfl, rfl, rfl, by decide +kernel, rfl, by decide +kernel, by decide +kernel⟩
abbrev lam__law_refused_0 : Lam := lamAt (top 49) [9] [1]
abbrev lam__law_refused_1 : Lam := lamAt (top 49) [7] [1]
abbrev lam__law_refused_2 : Lam := lamAt (top 49) [6, 0] [1]
abbrev lam__law_refused_3 : Lam := lamAt (top 49) [5, 1] [1]
abbrev lam__law_refused_4 : Lam := lamAt (top 49) [2] [0, 1, 1]
abbrev lam__law_refused_5 : Lam := lamAt (top 49) [1] [2]
abbrev lam__law_refused_6 : Lam := lamAt (top 49) [1] [1]
abbrev lam__law_refused_7 : Lam := lamAt (top 49) [1] [0]
theorem d__law_refused {P : Program} {w : World} {base : Heap} {R : RC} (V0 : Ev cfg P w base R) (h0 : ∀ i f c, R.clo i f c = none) : FnD P w base R "_law_refused" 48 ["draws"] (top 49) F__law_refused := by
  unfold F__law_refused
  exact V0.defC (lams := [lam__law_refused_0, lam__law_refused_1, lam__law_refused_2, lam__law_refused_3, lam__law_refused_4, lam__law_refused_5, lam__law_refused_6, lam__law_refused_7]) 35 rfl 0 rfl h0 sc__law_refused (by decide) (fun _ _ _ _ _ _ us hl => match us, hl with | [_], _ => rfl) fun R' f cd Pt A outer s H E V eK eM TB hTm hTu hr cx C => by
    obtain ⟨g, CT, CF⟩ := catchF V
    have hbody : LamOk (cxOf (L2.CX P w) P w R.K R.mg base (["draws", "one", "bad", "work", "rows", "at", "odd", "wrong", "error", "due"] : List Str) "_law_refused" (defScope (top 49)) f (.ref cd) A outer s H E) R' 45 [lam__law_refused_0, lam__law_refused_1, lam__law_refused_2, lam__law_refused_3, lam__law_refused_4, lam__law_refused_5, lam__law_refused_6, lam__law_refused_7] bs__law_refused := fun i l fb hl hb => match i, hl, hb with
      | 0, hl, hb => by
        obtain rfl := Option.some.inj hl
        obtain rfl := Option.some.inj hb
        exact ⟨lamS_by (by rfl), fun _ _ _ _ _ => by rfl, fun A outer s H E f c' hr cx => (de_call cx (d_ratio V) hr (by decide) (by rfl) (da_cons cx de_int (da_cons cx (de_call cx (d__law_pick V) hr (by decide) (by rfl) (da_cons cx (de_var (i := 0)) (da_cons cx (de_lst false cx (da_cons cx de_int (da_cons cx de_non (da_cons cx de_bl da_nil)))) da_nil))) da_nil)))⟩
      | 1, hl, hb => by
        obtain rfl := Option.some.inj hl
        obtain rfl := Option.some.inj hb
        exact ⟨lamS_by (by rfl), fun _ _ _ _ _ => by rfl, fun A outer s H E f c' hr cx => (de_call cx (d_ratio V) hr (by decide) (by rfl) (da_cons cx (de_call cx (d__law_pick V) hr (by decide) (by rfl) (da_cons cx (de_var (i := 0)) (da_cons cx (de_lst false cx (da_cons cx de_non (da_cons cx de_bl (da_cons cx de_str (da_cons cx (de_tup cx (da_cons cx de_int (da_cons cx de_int da_nil))) da_nil))))) da_nil))) (da_cons cx de_int da_nil)))⟩
      | 2, hl, hb => by
        obtain rfl := Option.some.inj hl
        obtain rfl := Option.some.inj hb
        exact ⟨lamS_by (by rfl), fun _ _ _ _ _ => by rfl, fun A outer s H E f c' hr cx => (de_call cx (d_combined V) hr (by decide) (by rfl) (da_cons cx (de_var (i := 1)) (da_cons cx (de_var (i := 7)) da_nil)))⟩
      | 3, hl, hb => by
        obtain rfl := Option.some.inj hl
        obtain rfl := Option.some.inj hb
        exact ⟨lamS_by (by rfl), fun _ _ _ _ _ => by rfl, fun A outer s H E f c' hr cx => (de_call cx (d_combined V) hr (by decide) (by rfl) (da_cons cx (de_var (i := 1)) (da_cons cx (de_var (i := 7)) da_nil)))⟩
      | 4, hl, hb => by
        obtain rfl := Option.some.inj hl
        obtain rfl := Option.some.inj hb
        exact ⟨lamS_by (by rfl), fun _ _ _ _ _ => by rfl, fun A outer s H E f c' hr cx => (de_call cx (d_inner V) hr (by decide) (by rfl) (da_cons cx (de_var (i := 1)) (da_cons cx (de_op cx (opd_add false cx) (de_var (i := 1)) (de_tup cx (da_cons cx (de_tup cx (da_cons cx de_int (da_cons cx de_int da_nil))) da_nil))) da_nil)))⟩
      | 5, hl, hb => by
        obtain rfl := Option.some.inj hl
        obtain rfl := Option.some.inj hb
        exact ⟨lamS_by (by rfl), fun _ _ _ _ _ => by rfl, fun A outer s H E f c' hr cx => (de_call cx (d_combined V) hr (by decide) (by rfl) (da_cons cx (de_var (i := 2)) (da_cons cx de_non da_nil)))⟩
      | 6, hl, hb => by
        obtain rfl := Option.some.inj hl
        obtain rfl := Option.some.inj hb
        exact ⟨lamS_by (by rfl), fun _ _ _ _ _ => by rfl, fun A outer s H E f c' hr cx => (de_call cx (d_inner V) hr (by decide) (by rfl) (da_cons cx (de_var (i := 1)) (da_cons cx (de_var (i := 2)) da_nil)))⟩
      | 7, hl, hb => by
        obtain rfl := Option.some.inj hl
        obtain rfl := Option.some.inj hb
        exact ⟨lamS_by (by rfl), fun _ _ _ _ _ => by rfl, fun A outer s H E f c' hr cx => (de_call cx (d_inner V) hr (by decide) (by rfl) (da_cons cx (de_var (i := 2)) (da_cons cx de_non da_nil)))⟩
      | i + 8, hl, hb => by cases hl
    exact (dss_cons (ds_asg cx (de_tup cx (da_cons cx (de_call cx (d__law_vector V) hr (by decide) (by rfl) (da_cons cx (de_var (i := 0)) (da_cons cx de_int (da_cons cx de_int da_nil)))) (da_cons cx (de_call cx (d__law_pick V) hr (by decide) (by rfl) (da_cons cx (de_var (i := 0)) (da_cons cx (de_lst false cx (da_cons cx de_non (da_cons cx (de_tup cx da_nil) (da_cons cx (de_lst false cx (da_cons cx (de_tup cx (da_cons cx de_int (da_cons cx de_int da_nil))) da_nil)) (da_cons cx (de_tup cx (da_cons cx (de_tup cx (da_cons cx de_int (da_cons cx de_int da_nil))) da_nil)) (da_cons cx de_int (da_cons cx (de_tup cx (da_cons cx (de_tup cx (da_cons cx de_int (da_cons cx de_int da_nil))) (da_cons cx de_non da_nil))) da_nil))))))) da_nil))) da_nil))) (dg_tup 2 cx (dgs_cons cx (dg_name cx) (dgs_cons cx (dg_name cx) dgs_nil))))
  (dss_cons (ds_for cx (di_seq cx (de_lst false cx (da_cons cx (de_lam (l := ⟨_, _, _⟩) 7 cx C (by kernel_rfl) TB (by rfl) hTm hTu (lamS_by (by rfl))) (da_cons cx (de_lam (l := ⟨_, _, _⟩) 6 cx C (by kernel_rfl) TB (by rfl) hTm hTu (lamS_by (by rfl))) (da_cons cx (de_lam (l := ⟨_, _, _⟩) 5 cx C (by kernel_rfl) TB (by rfl) hTm hTu (lamS_by (by rfl))) da_nil))))) (dg_name cx)
  (dss_one (ds_if cx (dt_not (dt_val (de_callB (call_isi_x cx V.xs) (by rfl) (V0.free 6 _ (by rfl)) (by rfl) (da_cons cx (de_caught (j := 45) V.B cx C CF (by decide) hr (by rfl) hbody (de_var (i := 3))) (da_cons cx (de_gl cx (by rfl) (V.gloX 1 rfl)) da_nil)))))
  (dss_one (ds_ret de_bl))
  dss_nil)))
  (dss_cons (ds_if cx (dt_not (dt_val (de_callB (call_isi_x cx V.xs) (by rfl) (V0.free 6 _ (by rfl)) (by rfl) (da_cons cx (de_caught (j := 45) V.B cx C CF (by decide) hr (by rfl) hbody (de_lam (l := ⟨_, _, _⟩) 4 cx C (by kernel_rfl) TB (by rfl) hTm hTu (lamS_by (by rfl)))) (da_cons cx (de_gl cx (by rfl) (V.gloX 2 rfl)) da_nil)))))
  (dss_one (ds_ret de_bl))
  dss_nil)
  (dss_cons (ds_set (i := 4) cx (de_lst false cx (da_cons cx (de_var (i := 1)) (da_cons cx (de_var (i := 1)) (da_cons cx (de_var (i := 1)) da_nil)))))
  (dss_cons (ds_set (i := 5) cx (de_call cx (d__law_draw V) hr (by decide) (by rfl) (da_cons cx (de_var (i := 0)) (da_cons cx de_int da_nil))))
  (dss_cons (ds_for cx (di_seq cx (de_lst false cx (da_cons cx de_non (da_cons cx (de_callTy (call_list_d false cx) (by rfl) (V0.free 8 _ (by rfl)) (by rfl) (da_cons cx (de_var (i := 1)) da_nil)) (da_cons cx (de_sl false cx (de_var (i := 1)) do_none (do_some de_int)) (da_cons cx (de_op cx (opd_add false cx) (de_var (i := 1)) (de_tup cx (da_cons cx (de_tup cx (da_cons cx de_int (da_cons cx de_int da_nil))) da_nil))) (da_cons cx (de_tup cx da_nil) da_nil))))))) (dg_name cx)
  (dss_cons (ds_set (i := 7) cx (de_op cx (opd_add false cx) (de_op cx (opd_add false cx) (de_sl false cx (de_var (i := 4)) do_none (do_some (de_var (i := 5)))) (de_lst false cx (da_cons cx (de_var (i := 6)) da_nil))) (de_sl false cx (de_var (i := 4)) (do_some (de_op cx (opd_add false cx) (de_var (i := 5)) de_int)) do_none)))
  (dss_cons (ds_set (i := 8) cx (de_caught (j := 45) V.B cx C CF (by decide) hr (by rfl) hbody (de_lam (l := ⟨_, _, _⟩) 3 cx C (by kernel_rfl) TB (by rfl) hTm hTu (lamS_by (by rfl)))))
  (dss_cons (ds_set (i := 9) cx (de_var (i := 5)))
  (dss_cons (ds_if cx (DW.dt (dw_and cx (dt_cmp cx (opd_eq cx cx.u64) (de_var (i := 5)) de_int (by rfl)) (dw_and cx (dt_val (de_callB (call_isi_x cx V.xs) (by rfl) (V0.free 6 _ (by rfl)) (by rfl) (da_cons cx (de_var (i := 6)) (da_cons cx (de_ty (n := .tuple) (by rfl) (V0.free 13 _ (by rfl)) (by rfl)) da_nil)))) (dw_and1 (dt_cmp cx (opd_in cx cx.un) (de_callB (call_len_d cx) (by rfl) (V0.free 7 _ (by rfl)) (by rfl) (da_cons cx (de_var (i := 6)) da_nil)) (de_lst false cx (da_cons cx de_int (da_cons cx de_int da_nil))) (by rfl))))))
  (dss_one (ds_set (i := 9) cx de_int))
  dss_nil)
  (dss_one (ds_if cx (DW.dt (dw_or cx (dt_not (dt_val (de_callB (call_isi_x cx V.xs) (by rfl) (V0.free 6 _ (by rfl)) (by rfl) (da_cons cx (de_var (i := 8)) (da_cons cx (de_gl cx (by rfl) (V.gloI 1 rfl)) da_nil))))) (dw_or1 (dt_cmp cx (opd_ne cx cx.u64) (de_fld cx (V.fld "index") V.eo (de_var (i := 8))) (de_var (i := 9)) (by rfl)))))
  (dss_one (ds_ret de_bl))
  dss_nil)))))))
  (dss_cons (ds_for cx (di_seq cx (de_lst false cx (da_cons cx de_non (da_cons cx (de_lst false cx da_nil) (da_cons cx (de_sl false cx (de_var (i := 4)) do_none (do_some de_int)) (da_cons cx (de_dict0 cx) (da_cons cx (de_op cx (opd_add false cx) (de_var (i := 4)) (de_var (i := 4))) da_nil))))))) (dg_name cx)
  (dss_cons (ds_set (i := 8) cx (de_caught (j := 45) V.B cx C CF (by decide) hr (by rfl) hbody (de_lam (l := ⟨_, _, _⟩) 2 cx C (by kernel_rfl) TB (by rfl) hTm hTu (lamS_by (by rfl)))))
  (dss_one (ds_if cx (DW.dt (dw_or cx (dt_not (dt_val (de_callB (call_isi_x cx V.xs) (by rfl) (V0.free 6 _ (by rfl)) (by rfl) (da_cons cx (de_var (i := 8)) (da_cons cx (de_gl cx (by rfl) (V.gloI 1 rfl)) da_nil))))) (dw_or1 (dt_cmp cx opd_isnot (de_fld cx (V.fld "index") V.eo (de_var (i := 8))) de_non (by rfl)))))
  (dss_one (ds_ret de_bl))
  dss_nil))))
  (dss_cons (ds_set (i := 8) cx (de_caught (j := 45) V.B cx C CF (by decide) hr (by rfl) hbody (de_lam (l := ⟨_, _, _⟩) 1 cx C (by kernel_rfl) TB (by rfl) hTm hTu (lamS_by (by rfl)))))
  (dss_cons (ds_if cx (DW.dt (dw_or cx (dt_not (dt_val (de_callB (call_isi_x cx V.xs) (by rfl) (V0.free 6 _ (by rfl)) (by rfl) (da_cons cx (de_var (i := 8)) (da_cons cx (de_gl cx (by rfl) (V.gloI 0 rfl)) da_nil))))) (dw_or1 (dt_cmp cx (opd_ne cx cx.u64) (de_fld cx (V.fld "part") V.eo (de_var (i := 8))) de_str (by rfl)))))
  (dss_one (ds_ret de_bl))
  dss_nil)
  (dss_cons (ds_set (i := 8) cx (de_caught (j := 45) V.B cx C CF (by decide) hr (by rfl) hbody (de_lam (l := ⟨_, _, _⟩) 0 cx C (by kernel_rfl) TB (by rfl) hTm hTu (lamS_by (by rfl)))))
  (dss_one (ds_ret (de_and cx (de_callB (call_isi_x cx V.xs) (by rfl) (V0.free 6 _ (by rfl)) (by rfl) (da_cons cx (de_var (i := 8)) (da_cons cx (de_gl cx (by rfl) (V.gloI 0 rfl)) da_nil))) (de_one (de_cmp cx (opd_eq cx cx.u64) (de_fld cx (V.fld "part") V.eo (de_var (i := 8))) de_str (by rfl))))))))))))))))
theorem sc_law : FnScope (["script", "draws", "turn", "lap", "value", "n", "d", "word", "due", "letter"] : List Str) (["script"] : List Str) (defScope (top 50)) := ⟨rfl, rfl, rfl, by decide +kernel, rfl, by decide +kernel, by decide +kernel⟩
theorem d_law {P : Program} {w : World} {base : Heap} {R : RC} (V : Ev cfg P w base R) (h0 : ∀ i f c, R.clo i f c = none) : FnD P w base R "law" 49 ["script"] (top 50) F_law := by
  unfold F_law
  exact V.def_ 36 rfl sc_law (by decide) (fun _ _ _ _ _ _ us hl => match us, hl with | [_], _ => rfl) fun f cdv A outer s H E hr cx =>
  (dss_cons (ds_set (i := 1) cx (de_call cx (d__law_begun V) hr (by decide) (by rfl) (da_cons cx (de_var (i := 0)) da_nil)))
  (dss_cons (ds_for cx (di_range1 (by rfl) (V.free 10 _ (by rfl)) (da_cons cx (de_op cx (opd_add false cx) de_int (de_callB (call_min2_d cx) (by rfl) (V.free 9 _ (by rfl)) (by rfl) (da_cons cx (de_callB (call_len_d cx) (by rfl) (V.free 7 _ (by rfl)) (by rfl) (da_cons cx (de_var (i := 0)) da_nil)) (da_cons cx de_int da_nil)))) da_nil)) (dg_name cx)
  (dss_cons (ds_for cx (di_range1 (by rfl) (V.free 10 _ (by rfl)) (da_cons cx de_int da_nil)) (dg_name cx)
  (dss_cons (ds_set (i := 4) cx (de_call cx (d__law_near V) hr (by decide) (by rfl) (da_cons cx (de_var (i := 1)) da_nil)))
  (dss_one (ds_if cx (DW.dt (dw_or cx (dt_not (dt_val (de_call cx (d__law_is_truth V) hr (by decide) (by rfl) (da_cons cx (de_call cx (d_is_ratio V) hr (by decide) (by rfl) (da_cons cx (de_var (i := 4)) da_nil)) (da_cons cx (de_call cx (d__law_is_ratio V) hr (by decide) (by rfl) (da_cons cx (de_var (i := 4)) da_nil)) da_nil))))) (dw_or1 (dt_cmp cx (opd_ne cx cx.u64) (de_callK0 [0] cx (d_is_ratio V) hr (by decide) (by rfl) (dk_cons cx (de_var (i := 4)) dk_nil) (fun _ _ _ _ _ _ ws hl => match ws, hl with | [_], _ => rfl) (fun ds hl => match ds, hl with | [_], _ => rfl)) (de_call cx (d__law_is_ratio V) hr (by decide) (by rfl) (da_cons cx (de_var (i := 4)) da_nil)) (by rfl)))))
  (dss_one (ds_ret de_bl))
  dss_nil))))
  (dss_cons (ds_par2 (i := 5) (j := 6) cx (da_cons cx (de_op cx opd_sub (de_call cx (d__law_draw V) hr (by decide) (by rfl) (da_cons cx (de_var (i := 1)) (da_cons cx (de_op cx opd_pow de_int de_int) da_nil))) (de_op cx opd_pow de_int de_int)) (da_cons cx (de_op cx opd_sub (de_call cx (d__law_draw V) hr (by decide) (by rfl) (da_cons cx (de_var (i := 1)) (da_cons cx (de_op cx opd_pow de_int de_int) da_nil))) (de_op cx (opd_mul false cx) de_int (de_op cx opd_pow de_int de_int))) da_nil)))
  (dss_cons (ds_if cx (DW.dt (dw_and cx (dt_cmp cx (opd_ne cx cx.u64) (de_var (i := 6)) de_int (by rfl)) (dw_and1 (DW.dt (dw_or cx (dt_not (dt_val (de_call cx (d__law_same V) hr (by decide) (by rfl) (da_cons cx (de_call cx (d_ratio V) hr (by decide) (by rfl) (da_cons cx (de_var (i := 5)) (da_cons cx (de_var (i := 6)) da_nil))) (da_cons cx (de_call cx (d__law_q V) hr (by decide) (by rfl) (da_cons cx (de_var (i := 5)) (da_cons cx (de_var (i := 6)) da_nil))) da_nil))))) (dw_or1 (dt_cmp cx (opd_ne cx cx.u64) (de_callK0 [1, 0] cx (d_ratio V) hr (by decide) (by rfl) (dk_cons cx (de_var (i := 6)) (dk_cons cx (de_var (i := 5)) dk_nil)) (fun _ _ _ _ _ _ ws hl => match ws, hl with | [_, _], _ => rfl) (fun ds hl => match ds, hl with | [_, _], _ => rfl)) (de_call cx (d__law_q V) hr (by decide) (by rfl) (da_cons cx (de_var (i := 5)) (da_cons cx (de_var (i := 6)) da_nil))) (by rfl))))))))
  (dss_one (ds_ret de_bl))
  dss_nil)
  (dss_cons (ds_set (i := 7) cx (de_ix cx (de_call cx (d__law_words V) hr (by decide) (by rfl) (da_cons cx (de_var (i := 1)) (da_cons cx de_int da_nil))) de_int))
  (dss_cons (ds_for cx (di_seq cx (de_lst false cx (da_cons cx (de_var (i := 7)) (da_cons cx (de_op cx (opd_add false cx) (de_var (i := 7)) de_str) (da_cons cx (de_op cx (opd_mul false cx) (de_var (i := 7)) de_int) (da_cons cx de_str (da_cons cx (de_tup cx (da_cons cx (de_var (i := 7)) da_nil)) (da_cons cx de_non (da_cons cx (de_op cx (opd_add false cx) (de_sl false cx (de_var (i := 7)) do_none (do_some de_int)) de_str) (da_cons cx (de_meth0 (PySem.F.plainAttrs_str) PySem.F.slot_str_upper PySem.F.type_str_upper cx mt_upper_d (de_var (i := 7))) da_nil)))))))))) (dg_name cx)
  (dss_cons (ds_set (i := 8) cx (de_and cx (de_callB (call_isi_x cx V.xs) (by rfl) (V.free 6 _ (by rfl)) (by rfl) (da_cons cx (de_var (i := 4)) (da_cons cx (de_ty (n := .str) (by rfl) (V.free 12 _ (by rfl)) (by rfl)) da_nil))) (de_and cx (de_chain cx opd_le opd_le de_int (de_callB (call_len_d cx) (by rfl) (V.free 7 _ (by rfl)) (by rfl) (da_cons cx (de_var (i := 4)) da_nil)) de_int) (de_one (de_cmp cx (opd_eq cx cx.u64) (de_lc false [("letter", 9)] cx (di_seq cx (de_var (i := 4))) (blkOk_by (by rfl)) (fun _ cx => (dgc_name cx)) (fun _ cx => (dps_one (dt_cmp cx (opd_notin cx cx.un) (de_var (i := 9)) de_str (by rfl)))) (fun _ cx => (de_var (i := 9)))) (de_lst false cx da_nil) (by rfl))))))
  (dss_one (ds_if cx (dt_not (dt_val (de_call cx (d__law_is_truth V) hr (by decide) (by rfl) (da_cons cx (de_call cx (d_is_word V) hr (by decide) (by rfl) (da_cons cx (de_var (i := 4)) da_nil)) (da_cons cx (de_var (i := 8)) da_nil)))))
  (dss_one (ds_ret de_bl))
  dss_nil))))
  (dss_one (ds_if cx (DW.dt (dw_or cx (dt_not (dt_val (de_call cx (d__law_sums_right V) hr (by decide) (by rfl) (da_cons cx (de_var (i := 1)) da_nil)))) (dw_or1 (dt_not (dt_val (de_call cx (d__law_refused V h0) hr (by decide) (by rfl) (da_cons cx (de_var (i := 1)) da_nil)))))))
  (dss_one (ds_ret de_bl))
  dss_nil))))))))
  (dss_one (ds_ret de_bl))))
end K00
end TL
end
section
namespace TL
open L2 (atI ixN)
/-- n draws may still be made -/
def DrB (n : Nat) (m : MS) : Prop := ∃ d, m.dr = some d ∧ 0 ≤ d.turn ∧ d.turn + n ≤ 2 ^ 40
theorem DrB.mono {n k : Nat} {m : MS} (h : DrB n m) (l : k ≤ n) : DrB k m := by
  obtain ⟨d, h1, h2, h3⟩ := h
  exact ⟨d, h1, h2, by omega⟩
theorem mulOk_r {i j : Int} (h : PySem.Builtin.Int.intBits j ≤ 64) : mulOk i j = true := by
  unfold mulOk
  simp [h]
theorem mulOk_l {i j : Int} (h : PySem.Builtin.Int.intBits i ≤ 64) : mulOk i j = true := by
  unfold mulOk
  simp [h]
theorem powOk_5 {i : Int} (h : i.natAbs < 2 ^ 64) : powOk i 5 = true := by
  unfold powOk
  simp [h]
theorem atI_nat {α : Type} {xs : List α} {j : Nat} (h : j < xs.length) : atI xs (j : Int) = some xs[j] := by
  unfold atI ixN
  simp [h]
namespace K00
open PySem PySem.Spec PyProof.Rows L2
theorem sp_blended {n : Nat} {m : MS} (h : DrB (n + 1) m) : wp (F__law_blended [.drw] m) fun v m' => (∃ i, v = .int i) ∧ m'.objs = m.objs ∧ DrB n m' := by
  obtain ⟨d, hd, h0, h1⟩ := h
  simp [F__law_blended, u__law_blended, startD, look, hd]
  generalize hm : ({ objs := m.objs, dr := some { great := d.great, cells := d.cells, rest := d.rest, turn := d.turn + 1 } } : MS) = m1
  have hdr : m1.dr = some { great := d.great, cells := d.cells, rest := d.rest, turn := d.turn + 1 } := by rw [← hm]
  refine wp_forW (fun ds ρ m' => m' = m1 ∧ (∀ x ∈ ds, ∃ p : Int, x = .int p ∧ 0 < p ∧ p < 2 ^ 31) ∧ ∃ i a b c, ρ = [some .drw, some (.int (d.turn + 1)), some (.int i), a, b, c]) ?_ ?_ _ _ _ ⟨rfl, by simp, _, _, _, _, rfl⟩
  · rintro x ds ρ m' ⟨rfl, hx, i, a, b, c, rfl⟩
    obtain ⟨p, rfl, p0, p1⟩ := hx x (by simp)
    refine ⟨by simp, ?_⟩
    simp [look, hdr]
    refine ⟨mulOk_l (by decide), by simp [nz], ?_⟩
    refine wp_forW (fun cs ρ m'' => m'' = m' ∧ (∀ x ∈ cs, ∃ p : Int, x = .int p) ∧ ∃ (z : Int) (a : Option D), 0 ≤ z ∧ z < 2 ^ 64 ∧ ρ = [some .drw, some (.int (d.turn + 1)), some (.int i), some (.int p), some (.int z), a]) ?_ ?_ _ _ _ ⟨rfl, by simp, _, _, ?_, ?_, rfl⟩
    · rintro x cs ρ m'' ⟨rfl, hc, z, a, z0, z1, rfl⟩
      obtain ⟨q, rfl⟩ := hc x (by simp)
      refine ⟨by simp, ?_⟩
      simp [look]
      refine ⟨mulOk_r (by decide), by simp [nz]; omega, fun x hx => hc x (by simp [hx]), ?_, ?_⟩
      · exact Int.fmod_nonneg_of_pos _ p0
      · have := Int.fmod_lt_of_pos (z * 69621 + q + (d.turn + 1)) p0
        omega
    · rintro ρ m'' ⟨rfl, -, z, a, z0, z1, rfl⟩
      refine ⟨by simp, ?_⟩
      simp [look]
      refine ⟨mulOk_r (by decide), powOk_5 (by omega), by simp [nz]; omega, fun x hx' => hx x (by simp [hx'])⟩
    · have : 0 ≤ p.fdiv 53 := Int.fdiv_nonneg (by omega) (by decide)
      omega
    · have : p.fdiv 53 ≤ p := by
        have := Int.fdiv_mul_add_fmod p 53
        have := Int.fmod_nonneg_of_pos p (b := 53) (by decide)
        have : 0 ≤ p.fdiv 53 := Int.fdiv_nonneg (by omega) (by decide)
        omega
      omega
  · rintro ρ m' ⟨rfl, -, i, a, b, c, rfl⟩
    refine ⟨by simp, ?_⟩
    simp [look]
    rw [← hm]
    exact ⟨rfl, _, rfl, by show 0 ≤ d.turn + 1; omega, by show d.turn + 1 + n ≤ 2 ^ 40; omega⟩
theorem sp_draw {n : Nat} {m : MS} {room : Int} (h : DrB (n + 1) m) (hr : 0 < room) : wp (F__law_draw [.drw, .int room] m) fun v m' => (∃ i, v = .int i ∧ 0 ≤ i ∧ i < room) ∧ m'.objs = m.objs ∧ DrB n m' := by
  have hb := sp_blended h
  obtain ⟨d, hd, h0, h1⟩ := h
  simp [F__law_draw, u__law_draw, startD, look, hd]
  have hz : ∀ x : Int, nz x room = true := fun x => by simp [nz]; omega
  have hf : ∀ x : Int, 0 ≤ x.fmod room ∧ x.fmod room < room := fun x => ⟨Int.fmod_nonneg_of_pos _ hr, Int.fmod_lt_of_pos _ hr⟩
  split
  · split
    · refine wp_mono hb fun v m' ⟨⟨i, e⟩, ho, d', hd', k0, k1⟩ => ?_
      subst e
      simp [hd', hz, hf, ho]
      exact ⟨_, rfl, k0, k1⟩
    · cases hg : d.great with
      | nil => simp_all
      | cons z r =>
        simp [hz, hf]
        exact ⟨_, rfl, h0, by show d.turn + (n : Int) ≤ 2 ^ 40; omega⟩
  · simp [hz, hf]
    exact ⟨_, rfl, h0, by show d.turn + (n : Int) ≤ 2 ^ 40; omega⟩
theorem sp_pick {n : Nat} {m : MS} {xs : List D} (h : DrB (n + 1) m) (hx : xs ≠ []) : wp (F__law_pick [.drw, .lst xs] m) fun v m' => v ∈ xs ∧ m'.objs = m.objs ∧ DrB n m' := by
  have hl : 0 < (xs.length : Int) := by
    have := List.length_pos_iff.mpr hx
    omega
  simp [F__law_pick, u__law_pick, startD, look]
  refine wp_mono (sp_draw h hl) fun v m' ⟨⟨i, e, i0, i1⟩, ho, hb⟩ => ?_
  subst e
  simp
  obtain ⟨j, rfl⟩ := Int.eq_ofNat_of_zero_le i0
  have hj : j < xs.length := by omega
  rw [atI_nat hj]
  exact ⟨List.getElem_mem hj, ho, hb⟩
end K00
end TL
end
section
namespace TL
open L2 (atI ixN)
theorem eq_of_wp {α : Type} {x : Res α} {r : α} {m : MS} (h : wp x fun a m' => a = r ∧ m' = m) : x = .ok r m := by
  cases x with
  | ok a m' => obtain ⟨rfl, rfl⟩ := h; rfl
  | _ => exact h.elim
/-- a ratio's value -/
def R2 (p : Int × Int) : D := .tup [.int p.1, .int p.2]
def V2 (xs : List (Int × Int)) : D := .tup (xs.map R2)
def qn (n d : Int) : Int × Int := if 0 < d then (n.fdiv (Nat.gcd n.natAbs d.natAbs : Nat), d.fdiv (Nat.gcd n.natAbs d.natAbs : Nat)) else ((-n).fdiv (Nat.gcd n.natAbs d.natAbs : Nat), (-d).fdiv (Nat.gcd n.natAbs d.natAbs : Nat))
@[simp] theorem atI_0 {α : Type} {x : α} {xs : List α} : atI (x :: xs) 0 = some x := by
  have := atI_nat (xs := x :: xs) (j := 0) (by simp)
  simpa using this
@[simp] theorem atI_1 {α : Type} {x y : α} {xs : List α} : atI (x :: y :: xs) 1 = some y := by
  have := atI_nat (xs := x :: y :: xs) (j := 1) (by simp)
  simpa using this
theorem fdiv_negg {n g : Int} : n.fdiv (-g) = (-n).fdiv g := by
  rw [← Int.neg_fdiv_neg]
  simp
theorem gcd_pos {n d : Int} (h : d ≠ 0) : 0 < Nat.gcd n.natAbs d.natAbs := Nat.gcd_pos_of_pos_right _ (Int.natAbs_pos.mpr h)
theorem natAbs_if (x : Int) : (if x < 0 then -x else x) = (x.natAbs : Int) := by split <;> omega
namespace K00
open PySem PySem.Spec PyProof.Rows L2
theorem e_lowest {n d : Int} {m : MS} (h : d ≠ 0) : F_lowest [.int n, .int d] m = .ok (R2 (qn n d)) m := by
  have g0 := gcd_pos (n := n) h
  refine eq_of_wp ?_
  simp [F_lowest, u_lowest, startD, look, R2, qn]
  by_cases hd : 0 < d
  · simp [hd, nz]
    omega
  · simp [hd, nz, fdiv_negg]
    omega
theorem e_q {n d : Int} {m : MS} (h : d ≠ 0) : F__law_q [.int n, .int d] m = .ok (R2 (qn n d)) m := by
  have g0 := gcd_pos (n := n) h
  refine eq_of_wp ?_
  simp [F__law_q, u__law_q, startD, look, natAbs_if]
  refine wp_while (n := d.natAbs) (fun k ρ m' => m' = m ∧ ∃ a b : Nat, b = k ∧ Nat.gcd a b = Nat.gcd n.natAbs d.natAbs ∧ ρ = [some (.int n), some (.int d), some (.int a), some (.int b)]) ?_ ⟨rfl, _, _, rfl, rfl, rfl⟩
  rintro k ρ m' ⟨rfl, a, b, rfl, hg, rfl⟩
  simp [look]
  by_cases hb : b = 0
  · subst hb
    rw [Nat.gcd_zero_right] at hg
    subst hg
    simp [R2, qn, nz]
    split <;> rename_i hd <;> simp [hd] <;> omega
  · have hb' : (0 : Int) < (b : Int) := by omega
    have hb2 : 0 < b := by omega
    simp [hb', look, nz, hb, hb2]
    refine ⟨a % b, Nat.mod_lt _ hb2, b, ?_, rfl, ?_⟩
    · rw [← hg, Nat.gcd_comm a b, Nat.gcd_rec b a, Nat.gcd_comm]
    · rw [Int.fmod_eq_emod_of_nonneg _ (by omega)]
      rfl
theorem e_plus {a b : Int × Int} {m : MS} (h1 : mulOk a.1 b.2 = true) (h2 : mulOk b.1 a.2 = true) (h3 : mulOk a.2 b.2 = true) (h : a.2 * b.2 ≠ 0) : F_plus [R2 a, R2 b] m = .ok (R2 (qn (a.1 * b.2 + b.1 * a.2) (a.2 * b.2))) m := by
  refine eq_of_wp ?_
  simp [F_plus, u_plus, startD, look, R2, h1, h2, h3, e_lowest h]
theorem e_times {a b : Int × Int} {m : MS} (h1 : mulOk a.1 b.1 = true) (h3 : mulOk a.2 b.2 = true) (h : a.2 * b.2 ≠ 0) : F_times [R2 a, R2 b] m = .ok (R2 (qn (a.1 * b.1) (a.2 * b.2))) m := by
  refine eq_of_wp ?_
  simp [F_times, u_times, startD, look, R2, h1, h3, e_lowest h]
theorem e_lplus {a b : Int × Int} {m : MS} (h1 : mulOk a.1 b.2 = true) (h2 : mulOk b.1 a.2 = true) (h3 : mulOk a.2 b.2 = true) (h : a.2 * b.2 ≠ 0) : F__law_plus [R2 a, R2 b] m = .ok (R2 (qn (a.1 * b.2 + b.1 * a.2) (a.2 * b.2))) m := by
  refine eq_of_wp ?_
  simp [F__law_plus, u__law_plus, startD, look, R2, h1, h2, h3, e_q h]
theorem e_ltimes {a b : Int × Int} {m : MS} (h1 : mulOk a.1 b.1 = true) (h3 : mulOk a.2 b.2 = true) (h : a.2 * b.2 ≠ 0) : F__law_times [R2 a, R2 b] m = .ok (R2 (qn (a.1 * b.1) (a.2 * b.2))) m := by
  refine eq_of_wp ?_
  simp [F__law_times, u__law_times, startD, look, R2, h1, h3, e_q h]
end K00
end TL
end
section
namespace TL
open L2 (atI ixN)
open PySem in
theorem bits_le {i : Int} {a : Nat} (h : i.natAbs < 2 ^ a) : Builtin.Int.intBits i ≤ a := by
  unfold Builtin.Int.intBits
  split
  · omega
  · rename_i hi
    have hn : i.natAbs ≠ 0 := by
      intro z
      apply hi
      simp
      omega
    have := (Nat.log2_lt hn).mpr h
    omega
theorem mulOk_of {i j : Int} {a b : Nat} (h1 : i.natAbs < 2 ^ a) (h2 : j.natAbs < 2 ^ b) (h : a + b ≤ 134217728) : mulOk i j = true := by
  have k1 := bits_le h1
  have k2 := bits_le h2
  unfold mulOk
  simp
  omega
/-- of size k, its denominator above 0 -/
def Sz (k : Nat) (p : Int × Int) : Prop := p.1.natAbs < 2 ^ k ∧ p.2.natAbs < 2 ^ k ∧ 0 < p.2
theorem Sz.mono {k j : Nat} {p : Int × Int} (h : Sz k p) (l : k ≤ j) : Sz j p :=
  ⟨Nat.lt_of_lt_of_le h.1 (Nat.pow_le_pow_right (by decide) l), Nat.lt_of_lt_of_le h.2.1 (Nat.pow_le_pow_right (by decide) l), h.2.2⟩
theorem natAbs_fdiv {x : Int} {g : Nat} (hg : (g : Int) ∣ x) : (x.fdiv g).natAbs ≤ x.natAbs := by
  rw [Int.fdiv_eq_ediv_of_dvd hg]
  obtain ⟨y, rfl⟩ := hg
  by_cases h : g = 0
  · subst h
    simp
  · rw [Int.mul_ediv_cancel_left _ (by omega), Int.natAbs_mul]
    exact Nat.le_mul_of_pos_left _ (by omega)
theorem gcd_dvd1 {n d : Int} : ((Nat.gcd n.natAbs d.natAbs : Nat) : Int) ∣ n := Int.ofNat_dvd_left.mpr (Nat.gcd_dvd_left _ _)
theorem gcd_dvd2 {n d : Int} : ((Nat.gcd n.natAbs d.natAbs : Nat) : Int) ∣ d := Int.ofNat_dvd_left.mpr (Nat.gcd_dvd_right _ _)
theorem Sz.qn {k : Nat} {n d : Int} (h1 : n.natAbs < 2 ^ k) (h2 : d.natAbs < 2 ^ k) (h : 0 < d) : Sz k (qn n d) := by
  unfold TL.qn
  rw [if_pos h]
  refine ⟨Nat.lt_of_le_of_lt (natAbs_fdiv gcd_dvd1) h1, Nat.lt_of_le_of_lt (natAbs_fdiv gcd_dvd2) h2, ?_⟩
  show 0 < d.fdiv _
  rw [Int.fdiv_eq_ediv_of_dvd gcd_dvd2]
  obtain ⟨y, hy⟩ := gcd_dvd2 (n := n) (d := d)
  have g0 := gcd_pos (n := n) (d := d) (by omega)
  generalize hg : ((Nat.gcd n.natAbs d.natAbs : Nat) : Int) = g at *
  have gp : 0 < g := by omega
  rw [hy, Int.mul_ediv_cancel_left _ (by omega)]
  rw [hy] at h
  exact Int.pos_of_mul_pos_right h (by omega)
def qplus (a b : Int × Int) : Int × Int := qn (a.1 * b.2 + b.1 * a.2) (a.2 * b.2)
def qtimes (a b : Int × Int) : Int × Int := qn (a.1 * b.1) (a.2 * b.2)
theorem lt_mul_pow {x y a b : Nat} (h1 : x < 2 ^ a) (h2 : y < 2 ^ b) : x * y < 2 ^ (a + b) := by
  rw [Nat.pow_add]
  exact Nat.mul_lt_mul'' h1 h2
theorem Sz.times {a b : Nat} {p q : Int × Int} (h1 : Sz a p) (h2 : Sz b q) : Sz (a + b) (qtimes p q) :=
  Sz.qn (by rw [Int.natAbs_mul]; exact lt_mul_pow h1.1 h2.1) (by rw [Int.natAbs_mul]; exact lt_mul_pow h1.2.1 h2.2.1) (Int.mul_pos h1.2.2 h2.2.2)
theorem Sz.plus {a b : Nat} {p q : Int × Int} (h1 : Sz a p) (h2 : Sz b q) : Sz (a + b + 1) (qplus p q) := by
  refine Sz.qn ?_ ?_ (Int.mul_pos h1.2.2 h2.2.2)
  · refine Nat.lt_of_le_of_lt (Int.natAbs_add_le _ _) ?_
    rw [Int.natAbs_mul, Int.natAbs_mul, Nat.pow_succ]
    have k1 := lt_mul_pow h1.1 h2.2.1
    have k2 := lt_mul_pow h2.1 h1.2.1
    rw [Nat.add_comm b a] at k2
    omega
  · rw [Int.natAbs_mul]
    exact Nat.lt_trans (lt_mul_pow h1.2.1 h2.2.1) (Nat.pow_lt_pow_right (by decide) (by omega))
def qsum (xs : List (Int × Int)) : Int × Int := xs.foldl qplus (0, 1)
namespace K00
open PySem PySem.Spec PyProof.Rows L2
section
variable {a b : Nat} {p q : Int × Int} {m : MS}
theorem f_plus (h1 : Sz a p) (h2 : Sz b q) (h : a + b ≤ 134217728) : F_plus [R2 p, R2 q] m = .ok (R2 (qplus p q)) m :=
  e_plus (mulOk_of h1.1 h2.2.1 h) (mulOk_of h2.1 h1.2.1 (by omega)) (mulOk_of h1.2.1 h2.2.1 h) (by have := Int.mul_pos h1.2.2 h2.2.2; omega)
theorem f_times (h1 : Sz a p) (h2 : Sz b q) (h : a + b ≤ 134217728) : F_times [R2 p, R2 q] m = .ok (R2 (qtimes p q)) m :=
  e_times (mulOk_of h1.1 h2.1 h) (mulOk_of h1.2.1 h2.2.1 h) (by have := Int.mul_pos h1.2.2 h2.2.2; omega)
theorem f_lplus (h1 : Sz a p) (h2 : Sz b q) (h : a + b ≤ 134217728) : F__law_plus [R2 p, R2 q] m = .ok (R2 (qplus p q)) m :=
  e_lplus (mulOk_of h1.1 h2.2.1 h) (mulOk_of h2.1 h1.2.1 (by omega)) (mulOk_of h1.2.1 h2.2.1 h) (by have := Int.mul_pos h1.2.2 h2.2.2; omega)
theorem f_ltimes (h1 : Sz a p) (h2 : Sz b q) (h : a + b ≤ 134217728) : F__law_times [R2 p, R2 q] m = .ok (R2 (qtimes p q)) m :=
  e_ltimes (mulOk_of h1.1 h2.1 h) (mulOk_of h1.2.1 h2.2.1 h) (by have := Int.mul_pos h1.2.2 h2.2.2; omega)
end
theorem f_total {k : Nat} {xs : List (Int × Int)} {m : MS} (hk : ∀ x ∈ xs, Sz k x) (hl : 1 + (xs.length + 1) * (k + 1) ≤ 134217728) : F_total [.lst (xs.map R2)] m = .ok (R2 (qsum xs)) m := by
  refine eq_of_wp ?_
  simp [F_total, u_total, startD, look]
  refine wp_forW (fun ds ρ m' => m' = m ∧ ∃ pre suf, xs = pre ++ suf ∧ ds = suf.map R2 ∧ Sz (1 + pre.length * (k + 1)) (qsum pre) ∧ ∃ a, ρ = [some (.lst (xs.map R2)), some (R2 (qsum pre)), a]) ?_ ?_ _ _ _ ⟨rfl, [], xs, rfl, rfl, ⟨by simp [qsum], by simp [qsum], by simp [qsum]⟩, _, rfl⟩
  · rintro x ds ρ m' ⟨rfl, pre, suf, e, es, hs, a, rfl⟩
    cases suf with
    | nil => cases es
    | cons y suf =>
      obtain ⟨rfl, rfl⟩ := List.cons.inj es
      refine ⟨by simp, ?_⟩
      have hy : Sz k y := hk y (by rw [e]; simp)
      have hlen : xs.length = pre.length + (suf.length + 1) := by rw [e]; simp
      have e1 := f_plus (m := m') hs hy (by
        have : pre.length * (k + 1) + k ≤ (xs.length + 1) * (k + 1) := by
          rw [hlen, Nat.add_mul, Nat.add_mul]
          omega
        omega)
      simp [look, e1]
      refine ⟨pre ++ [y], suf, by rw [e]; simp, rfl, ?_, ?_⟩
      · have e2 : qsum (pre ++ [y]) = qplus (qsum pre) y := by unfold qsum; simp
        rw [e2]
        refine (hs.plus hy).mono ?_
        rw [List.length_append, Nat.add_mul]
        simp
        omega
      · unfold qsum
        simp
  · rintro ρ m' ⟨rfl, pre, suf, e, es, hs, a, rfl⟩
    refine ⟨by simp, ?_⟩
    cases suf with
    | cons y suf => cases es
    | nil =>
      simp at e
      subst e
      simp [look]
end K00
end TL
end
section
namespace TL
open L2 (atI ixN)
def qdot (xs ys : List (Int × Int)) : Int × Int := qsum ((xs.zip ys).map fun p => qtimes p.1 p.2)
theorem zip_len {α β : Type} {xs : List α} {ys : List β} : (xs.zip ys).length ≤ xs.length := by
  rw [List.length_zip]
  exact Nat.min_le_left _ _
namespace K00
open PySem PySem.Spec PyProof.Rows L2
theorem f_sum {k : Nat} {xs : List (Int × Int)} {m : MS} (hk : ∀ x ∈ xs, Sz k x) (hl : 1 + (xs.length + 1) * (k + 1) ≤ 134217728) : F__law_sum [.lst (xs.map R2)] m = .ok (R2 (qsum xs)) m := by
  refine eq_of_wp ?_
  simp [F__law_sum, u__law_sum, startD, look]
  refine wp_forW (fun ds ρ m' => m' = m ∧ ∃ pre suf, xs = pre ++ suf ∧ ds = suf.map R2 ∧ Sz (1 + pre.length * (k + 1)) (qsum pre) ∧ ∃ a, ρ = [some (.lst (xs.map R2)), some (R2 (qsum pre)), a]) ?_ ?_ _ _ _ ⟨rfl, [], xs, rfl, rfl, ⟨by simp [qsum], by simp [qsum], by simp [qsum]⟩, _, rfl⟩
  · rintro x ds ρ m' ⟨rfl, pre, suf, e, es, hs, a, rfl⟩
    cases suf with
    | nil => cases es
    | cons y suf =>
      obtain ⟨rfl, rfl⟩ := List.cons.inj es
      refine ⟨by simp, ?_⟩
      have hy : Sz k y := hk y (by rw [e]; simp)
      have hlen : xs.length = pre.length + (suf.length + 1) := by rw [e]; simp
      have e1 := f_lplus (m := m') hs hy (by
        have : pre.length * (k + 1) + k ≤ (xs.length + 1) * (k + 1) := by
          rw [hlen, Nat.add_mul, Nat.add_mul]
          omega
        omega)
      simp [look, e1]
      refine ⟨pre ++ [y], suf, by rw [e]; simp, rfl, ?_, ?_⟩
      · have e2 : qsum (pre ++ [y]) = qplus (qsum pre) y := by unfold qsum; simp
        rw [e2]
        refine (hs.plus hy).mono ?_
        rw [List.length_append, Nat.add_mul]
        simp
        omega
      · unfold qsum
        simp
  · rintro ρ m' ⟨rfl, pre, suf, e, es, hs, a, rfl⟩
    refine ⟨by simp, ?_⟩
    cases suf with
    | cons y suf => cases es
    | nil =>
      simp at e
      subst e
      simp [look]
section
variable {a b : Nat} {xs ys : List (Int × Int)} {m : MS} (hx : ∀ x ∈ xs, Sz a x) (hy : ∀ y ∈ ys, Sz b y) (hl : xs.length ≤ 1000) (hb : 1 + (xs.length + 1) * (a + b + 1) ≤ 134217728)
include hx hy hl hb
theorem dot_sz : ∀ z ∈ ((xs.zip ys).map fun p => qtimes p.1 p.2), Sz (a + b) z := by
  intro z hz
  obtain ⟨p, hp, rfl⟩ := List.mem_map.mp hz
  exact (hx p.1 (List.of_mem_zip hp).1).times (hy p.2 (List.of_mem_zip hp).2)
theorem dot_len : 1 + (((xs.zip ys).map fun p => qtimes p.1 p.2).length + 1) * (a + b + 1) ≤ 134217728 := by
  refine Nat.le_trans ?_ hb
  rw [List.length_map]
  have := zip_len (xs := xs) (ys := ys)
  exact Nat.add_le_add_left (Nat.mul_le_mul_right _ (by omega)) _
theorem dot_ab : a + b ≤ 134217728 := by
  have : 1 * (a + b + 1) ≤ (xs.length + 1) * (a + b + 1) := Nat.mul_le_mul_right _ (by omega)
  omega
theorem f_dot : F_dot [V2 xs, V2 ys] m = .ok (R2 (qdot xs ys)) m := by
  refine eq_of_wp ?_
  simp [F_dot, u_dot, startD, look, V2, zipG_map]
  refine wp_lcW_mapA _ (fun p : (Int × Int) × (Int × Int) => R2 (qtimes p.1 p.2)) ok_nil' (fun p hp => ?_) ?_
  · simp [look, wipeD, f_times (m := m) (hx p.1 (List.of_mem_zip hp).1) (hy p.2 (List.of_mem_zip hp).2) (dot_ab hx hy hl hb)]
  · have e := f_total (m := m) (dot_sz hx hy hl hb) (dot_len hx hy hl hb)
    rw [List.map_map] at e
    have e2 : ((xs.zip ys).map (R2 ∘ fun p => qtimes p.1 p.2)) = (xs.zip ys).map (fun p => R2 (qtimes p.1 p.2)) := rfl
    rw [e2] at e
    simp [e, qdot]
    have := zip_len (xs := xs) (ys := ys)
    omega
theorem f_ldot : F__law_dot [V2 xs, V2 ys] m = .ok (R2 (qdot xs ys)) m := by
  refine eq_of_wp ?_
  simp [F__law_dot, u__law_dot, startD, look, V2, zipG_map]
  refine wp_lcW_mapA _ (fun p : (Int × Int) × (Int × Int) => R2 (qtimes p.1 p.2)) ok_nil' (fun p hp => ?_) ?_
  · simp [look, wipeD, f_ltimes (m := m) (hx p.1 (List.of_mem_zip hp).1) (hy p.2 (List.of_mem_zip hp).2) (dot_ab hx hy hl hb)]
  · have e := f_sum (m := m) (dot_sz hx hy hl hb) (dot_len hx hy hl hb)
    rw [List.map_map] at e
    have e2 : ((xs.zip ys).map (R2 ∘ fun p => qtimes p.1 p.2)) = (xs.zip ys).map (fun p => R2 (qtimes p.1 p.2)) := rfl
    rw [e2] at e
    simp [e, qdot]
    have := zip_len (xs := xs) (ys := ys)
    omega
end
end K00
end TL
end
section
namespace TL
open L2 (atI ixN)
@[simp] theorem wp_mul_tup {P : D → MS → Prop} {m : MS} {fr : Bool} {xs : List D} {k : Int} : wp (mulD fr (.tup xs) (.int k) m) P ↔ ((xs.length ≤ 1000 ∧ -1000 ≤ k ∧ k ≤ 1000) ∧ P (.tup (List.replicate k.toNat xs).flatten) m) := by
  show wp (if xs.length ≤ 1000 ∧ -1000 ≤ k ∧ k ≤ 1000 then Res.ok (.tup (List.replicate k.toNat xs).flatten) m else .stuck) P ↔ _
  split
  · rename_i h
    exact ⟨fun q => ⟨h, q⟩, fun q => q.2⟩
  · rename_i h
    exact ⟨fun q => q.elim, fun q => (h q.1).elim⟩
abbrev QV := List (Int × Int)
/-- one place of a mixture -/
def mixAt (ps : List ((Int × Int) × QV)) (i : Nat) : Int × Int := qsum (ps.map fun p => qtimes p.1 (p.2.getD i (0, 1)))
def mixV (ps : List ((Int × Int) × QV)) (n : Nat) : QV := (List.range n).map (mixAt ps)
/-- a sequence: a list | a tuple -/
def sqD (t : Bool) (xs : List D) : D := if t then .tup xs else .lst xs
theorem rep_flat {α : Type} (x : α) : ∀ k : Nat, (List.replicate k [x]).flatten = List.replicate k x
  | 0 => rfl
  | k + 1 => by
    rw [List.replicate_succ, List.flatten_cons, rep_flat x k, List.replicate_succ]
    rfl
theorem mix_step {ps : List ((Int × Int) × QV)} {w : Int × Int} {row : QV} {n : Nat} (h : row.length = n) : List.zipWith qplus (mixV ps n) (row.map (qtimes w)) = mixV (ps ++ [(w, row)]) n := by
  subst h
  apply List.ext_getElem
  · simp [mixV]
  · intro i h1 h2
    have hi : i < row.length := by simpa [mixV] using h2
    simp [mixV, mixAt, qsum, hi]
namespace K00
open PySem PySem.Spec PyProof.Rows L2
theorem f_scaled {a b : Nat} {w : Int × Int} {xs : QV} {m : MS} (hw : Sz a w) (hx : ∀ x ∈ xs, Sz b x) (hl : xs.length ≤ 1000000) (h : a + b ≤ 134217728) : F_scaled [R2 w, V2 xs] m = .ok (V2 (xs.map (qtimes w))) m := by
  refine eq_of_wp ?_
  simp [F_scaled, u_scaled, startD, look, V2]
  refine wp_lcW_mapA _ (fun x => R2 (qtimes w x)) ok_nil' (fun x hp => ?_) ?_
  · simp [look, wipeD, f_times (m := m) hw (hx x hp) h]
  · simp [hl]
theorem f_added {a b : Nat} {xs ys : QV} {m : MS} (hx : ∀ x ∈ xs, Sz a x) (hy : ∀ y ∈ ys, Sz b y) (hl : xs.length ≤ 1000000) (h : a + b ≤ 134217728) : F_added [V2 xs, V2 ys] m = .ok (V2 (List.zipWith qplus xs ys)) m := by
  refine eq_of_wp ?_
  simp [F_added, u_added, startD, look, V2, zipG_map]
  refine wp_lcW_mapA _ (fun p : (Int × Int) × (Int × Int) => R2 (qplus p.1 p.2)) ok_nil' (fun p hp => ?_) ?_
  · simp [look, wipeD, f_plus (m := m) (hx p.1 (List.of_mem_zip hp).1) (hy p.2 (List.of_mem_zip hp).2) h]
  · have := zip_len (xs := xs) (ys := ys)
    simp
    refine ⟨by omega, ?_⟩
    rw [List.zip, List.map_zipWith]
section
variable {a b n : Nat} {ws : QV} {rows : List QV} {m : MS} {t : Bool} (hw : ∀ x ∈ ws, Sz a x) (hr : ∀ r ∈ rows, r.length = n ∧ ∀ x ∈ r, Sz b x) (hn : n ≤ 1000) (hb1 : 1 ≤ b) (hne : rows ≠ []) (hb : 1 + (ws.length + 2) * (a + b + 1) ≤ 134217728)
include hw hr hn hb1 hne hb
theorem f_mixed : F_mixed [V2 ws, sqD t (rows.map V2)] m = .ok (V2 (mixV (ws.zip rows) n)) m := by
  refine eq_of_wp ?_
  have hab : a + b ≤ 134217728 := by
    have : 1 * (a + b + 1) ≤ (ws.length + 2) * (a + b + 1) := Nat.mul_le_mul_right _ (by omega)
    omega
  obtain ⟨r0, rest, rfl⟩ : ∃ r0 rest, rows = r0 :: rest := by
    cases rows with
    | nil => exact (hne rfl).elim
    | cons r0 rest => exact ⟨r0, rest, rfl⟩
  have h0 := (hr r0 (by simp)).1
  have hz : V2 (mixV [] n) = .tup (List.replicate n [D.tup [.int 0, .int 1]]).flatten := by
    rw [rep_flat]
    unfold V2 mixV
    rw [List.map_map]
    congr 1
    apply List.ext_getElem
    · simp
    · intro i h1 h2
      simp [mixAt, qsum, R2]
  have key : ∀ (rd : D) (g : List (Nat × List D)), wp (forW (ItD.mk (zipG (ws.map R2) ((r0 :: rest).map V2)) []).Ok (gT 2 (gsCons (gN 3) (gsCons (gN 4) gsNil)))
      (sAsg (dCall (lenF 2 F_added) (aCons (dVar 2) (aCons (dCall (lenF 2 F_scaled) (aCons (dVar 3) (aCons (dVar 4) aNil))) aNil))) (gN 2)) (zipG (ws.map R2) ((r0 :: rest).map V2))
      [some (.tup (ws.map R2)), some rd, some (.tup (List.replicate n [D.tup [.int 0, .int 1]]).flatten), none, none] m)
      fun fl m' => (∃ (x y : Option D) (z : Option D × Option D), fl = .next [x, y, some (V2 (mixV (ws.zip (r0 :: rest)) n)), z.1, z.2]) ∧ m' = m := by
    intro rd g
    rw [zipG_map]
    refine wp_forW (fun ds ρ m' => m' = m ∧ ∃ pre suf, ws.zip (r0 :: rest) = pre ++ suf ∧ ds = suf.map (fun p => D.tup [R2 p.1, V2 p.2]) ∧ (∀ i, Sz (1 + pre.length * (a + b + 1)) (mixAt pre i)) ∧ ∃ x y z u, ρ = [x, y, some (V2 (mixV pre n)), z, u]) ?_ ?_ _ _ _ ⟨rfl, [], _, rfl, rfl, fun i => ⟨by simp [mixAt, qsum], by simp [mixAt, qsum], by simp [mixAt, qsum]⟩, _, _, _, _, by rw [hz]⟩
    · rintro x ds ρ m' ⟨rfl, pre, suf, e, es, hs, x1, x2, x3, x4, rfl⟩
      cases suf with
      | nil => cases es
      | cons p suf =>
        obtain ⟨rfl, rfl⟩ := List.cons.inj es
        refine ⟨ok_nil', ?_⟩
        have hp : p ∈ ws.zip (r0 :: rest) := by rw [e]; simp
        have hpw := hw p.1 (List.of_mem_zip hp).1
        have hpr := hr p.2 (List.of_mem_zip hp).2
        have hlen : pre.length + 1 ≤ ws.length := by
          have h1 := zip_len (xs := ws) (ys := r0 :: rest)
          rw [e] at h1
          simp at h1
          omega
        have e1 := f_scaled (m := m') hpw hpr.2 (by omega) hab
        have hsz : 1 + pre.length * (a + b + 1) + (a + b) ≤ 134217728 := by
          have : pre.length * (a + b + 1) + (a + b) ≤ (ws.length + 2) * (a + b + 1) := by
            have := Nat.mul_le_mul_right (a + b + 1) hlen
            rw [Nat.add_mul] at this
            rw [Nat.add_mul]
            omega
          omega
        have e2 := f_added (a := 1 + pre.length * (a + b + 1)) (b := a + b) (xs := mixV pre n) (ys := p.2.map (qtimes p.1)) (m := m') (by
          intro y hy
          obtain ⟨i, _, rfl⟩ := List.mem_map.mp hy
          exact hs i) (by
          intro y hy
          obtain ⟨z, hz, rfl⟩ := List.mem_map.mp hy
          exact hpw.times (hpr.2 z hz)) (by simp [mixV]; omega) hsz
        rw [mix_step hpr.1] at e2
        simp [look, e1, e2]
        refine ⟨pre ++ [p], suf, by rw [e]; simp, rfl, fun i => ?_, rfl⟩
        have e3 : mixAt (pre ++ [p]) i = qplus (mixAt pre i) (qtimes p.1 (p.2.getD i (0, 1))) := by simp [mixAt, qsum]
        rw [e3]
        have hq : Sz b (p.2.getD i (0, 1)) := by
          by_cases hi : i < p.2.length
          · have e4 : p.2.getD i (0, 1) = p.2[i] := by simp [hi]
            rw [e4]
            exact hpr.2 _ (List.getElem_mem hi)
          · have e4 : p.2.getD i (0, 1) = (0, 1) := by simp [List.getElem?_eq_none (Nat.le_of_not_lt hi)]
            rw [e4]
            have : 2 ^ 1 ≤ 2 ^ b := Nat.pow_le_pow_right (by decide) hb1
            exact ⟨by show 0 < 2 ^ b; omega, by show 1 < 2 ^ b; omega, by decide⟩
        refine ((hs i).plus (hpw.times hq)).mono ?_
        rw [List.length_append, Nat.add_mul]
        simp
        omega
    · rintro ρ m' ⟨rfl, pre, suf, e, es, hs, x1, x2, x3, x4, rfl⟩
      refine ⟨ok_nil', ?_⟩
      cases suf with
      | cons y suf => cases es
      | nil =>
        rw [List.append_nil] at e
        rw [e]
        exact ⟨⟨x1, x2, (x3, x4), rfl⟩, rfl⟩
  have fin : ∀ rd, wp (forW (ItD.mk (zipG (ws.map R2) ((r0 :: rest).map V2)) []).Ok (gT 2 (gsCons (gN 3) (gsCons (gN 4) gsNil)))
      (sAsg (dCall (lenF 2 F_added) (aCons (dVar 2) (aCons (dCall (lenF 2 F_scaled) (aCons (dVar 3) (aCons (dVar 4) aNil))) aNil))) (gN 2)) (zipG (ws.map R2) ((r0 :: rest).map V2))
      [some (.tup (ws.map R2)), some rd, some (.tup (List.replicate n [D.tup [.int 0, .int 1]]).flatten), none, none] m) fun fl m' => match fl with
        | .next ρ' => (match look ρ' 2 with | some d => d = V2 (mixV (ws.zip (r0 :: rest)) n) ∧ m' = m | none => False)
        | _ => False := fun rd => wp_mono (key rd []) fun fl m' ⟨⟨x, y, z, e⟩, em⟩ => by subst e; subst em; exact ⟨rfl, rfl⟩
  cases t with
  | true =>
    have f := fin (.tup ((r0 :: rest).map V2))
    simp [F_mixed, u_mixed, startD, look, sqD, V2, h0] at f ⊢
    refine ⟨by omega, wp_mono f fun fl m' h => ?_⟩
    cases fl <;> first | exact h | exact h.elim
  | false =>
    have f := fin (.lst ((r0 :: rest).map V2))
    simp [F_mixed, u_mixed, startD, look, sqD, V2, h0] at f ⊢
    refine ⟨by omega, wp_mono f fun fl m' h => ?_⟩
    cases fl <;> first | exact h | exact h.elim
end
end K00
end TL
end
section
namespace TL
open L2 (atI ixN)
theorem atI_V2 {row : QV} {i : Nat} (h : i < row.length) : atI (row.map R2) (i : Int) = some (R2 (row.getD i (0, 1))) := by
  rw [atI_nat (by simpa using h)]
  simp [h]
namespace K00
open PySem PySem.Spec PyProof.Rows L2
section
variable {a b n : Nat} {ws : QV} {rows : List QV} {m : MS} (hw : ∀ x ∈ ws, Sz a x) (hr : ∀ r ∈ rows, r.length = n ∧ ∀ x ∈ r, Sz b x) (hn : n ≤ 1000) (hl : ws.length ≤ 1000) (hb1 : 1 ≤ b) (hb : 1 + (ws.length + 2) * (a + b + 1) ≤ 134217728)
include hw hr hn hb1 hb hl
theorem f_lmixed : F__law_mixed [V2 ws, .lst (rows.map V2), .int n] m = .ok (V2 (mixV (ws.zip rows) n)) m := by
  refine eq_of_wp ?_
  have hab : a + b ≤ 134217728 := by
    have : 1 * (a + b + 1) ≤ (ws.length + 2) * (a + b + 1) := Nat.mul_le_mul_right _ (by omega)
    omega
  have hz := zip_len (xs := ws) (ys := rows)
  simp [F__law_mixed, u__law_mixed, startD, look]
  refine ⟨by omega, ?_⟩
  rw [rng_map]
  refine wp_lcW_mapA _ (fun i : Nat => R2 (mixAt (ws.zip rows) i)) ok_nil' (fun i hi => ?_) ?_
  · have hi : i < n := by simpa using hi
    have e := f_sum (k := a + b) (xs := (ws.zip rows).map fun p => qtimes p.1 (p.2.getD i (0, 1))) (m := m) (by
      intro y hy
      obtain ⟨p, hp, rfl⟩ := List.mem_map.mp hy
      have hpr := hr p.2 (List.of_mem_zip hp).2
      refine (hw p.1 (List.of_mem_zip hp).1).times ?_
      have e4 : p.2.getD i (0, 1) = p.2[i]'(by rw [hpr.1]; exact hi) := by simp [hpr.1, hi]
      rw [e4]
      exact hpr.2 _ (List.getElem_mem _)) (by
      refine Nat.le_trans ?_ hb
      rw [List.length_map]
      exact Nat.add_le_add_left (Nat.mul_le_mul_right _ (by omega)) _)
    rw [List.map_map] at e
    simp [look, wipeD, V2, zipG_map]
    refine wp_lcW_mapA _ (fun p : (Int × Int) × QV => R2 (qtimes p.1 (p.2.getD i (0, 1)))) ok_nil' (fun p hp => ?_) ?_
    · have hpr := hr p.2 (List.of_mem_zip hp).2
      have hq : Sz b (p.2.getD i (0, 1)) := by
        have e4 : p.2.getD i (0, 1) = p.2[i]'(by rw [hpr.1]; exact hi) := by simp [hpr.1, hi]
        rw [e4]
        exact hpr.2 _ (List.getElem_mem _)
      simp only [V2, wp_gT, wp_gsCons, wp_gsNil, wp_gN]
      simp [look, wipeD, atI_V2 (row := p.2) (i := i) (by rw [hpr.1]; exact hi)]
      have e5 := f_ltimes (m := m) (hw p.1 (List.of_mem_zip hp).1) hq hab
      simp at e5
      simp [e5]
    · have e6 : ((ws.zip rows).map (R2 ∘ fun p => qtimes p.1 (p.2.getD i (0, 1)))) = (ws.zip rows).map (fun p => R2 (qtimes p.1 (p.2.getD i (0, 1)))) := rfl
      rw [e6] at e
      simp at e
      simp [e, mixAt]
      omega
  · simp [V2, mixV]
    omega
end
end K00
end TL
end
section
namespace TL
open L2 (atI ixN)
/-- of a type that isinstance knows -/
def ty1 : D → Bool
  | .non | .bl _ | .int _ | .str _ | .tup _ | .lst _ | .scr _ | .dct _ => true
  | _ => false
def isW : D → Bool
  | .int _ => true
  | _ => false
def isRat : D → Bool
  | .tup [.int n, .int q] => decide (0 < q) && decide (Nat.gcd n.natAbs q.natAbs = 1)
  | _ => false
/-- .. its parts too, if it is a tuple -/
def ty2 : D → Bool
  | .tup xs => xs.all ty1
  | d => ty1 d
def ty3 : D → Bool
  | .tup xs => xs.all ty2
  | d => ty1 d
def isVec : D → Bool
  | .tup xs => decide (1 ≤ xs.length) && decide (xs.length ≤ 200) && xs.all isRat
  | _ => false
def tyOf : D → Tn
  | .non => .non
  | .bl _ => .bool
  | .int _ => .int
  | .str _ => .str
  | .tup _ => .tuple
  | .dct _ => .dict
  | _ => .list
theorem tyN_1 {d : D} {m : MS} (h : ty1 d = true) : tyN m d = some (tyOf d) := by
  cases d <;> first | rfl | cases h
theorem ty2_1 {d : D} (h : ty2 d = true) : ty1 d = true := by
  cases d <;> first | rfl | exact h
theorem ty3_1 {d : D} (h : ty3 d = true) : ty1 d = true := by
  cases d <;> first | rfl | exact h
theorem isT_tuple {d : D} : isT (tyOf d) .tuple = (match d with | .tup _ => true | _ => false) := by
  cases d <;> simp [isT, tyOf]
theorem isT_whole {d : D} (h : ty1 d = true) : (isT (tyOf d) .int && !isT (tyOf d) .bool) = isW d := by
  cases d <;> first | (simp [isT, tyOf, isW]; done) | cases h
namespace K00
open PySem PySem.Spec PyProof.Rows L2
theorem e_is_whole {d : D} {m : MS} (h : ty1 d = true) : F_is_whole [d] m = .ok (.bl (isW d)) m := by
  refine eq_of_wp ?_
  have e := isT_whole h
  simp [F_is_whole, u_is_whole, startD, look, tyN_1 h]
  cases h1 : isT (tyOf d) .int with
  | false => rw [h1] at e; simpa using e
  | true => rw [h1] at e; simpa using e
theorem e_is_ratio {d : D} {m : MS} (h : ty2 d = true) : F_is_ratio [d] m = .ok (.bl (isRat d)) m := by
  refine eq_of_wp ?_
  have h1 := ty2_1 h
  simp [F_is_ratio, u_is_ratio, startD, look, tyN_1 h1, isT_tuple]
  cases d with
  | tup xs =>
    have hall : ∀ x ∈ xs, ty1 x = true := List.all_eq_true.mp h
    simp
    by_cases hl : xs.length = 2
    · simp [hl]
      match xs, hl, hall with
      | [x, y], _, hall =>
        refine wp_lcW_map (fun x => .bl (isW x)) ok_nil' (fun x hx => ?_) ?_
        · simp [look, wipeD, e_is_whole (m := m) (hall x hx)]
        · have hx := hall x (by simp)
          have hy := hall y (by simp)
          simp [allB]
          cases x <;> cases y <;> simp [isW, isRat]
          split
          · rename_i hj
            simp [hj]
            congr 1
            exact ⟨fun q => by omega, fun q => by omega⟩
          · rename_i hj
            exact fun q => (hj q).elim
    · have hl' : ¬ (xs.length : Int) = 2 := by omega
      simp [hl']
      match xs, hl with
      | [], _ => rfl
      | [x], _ => cases x <;> rfl
      | x :: y :: z :: r, _ => cases x <;> cases y <;> rfl
      | [x, y], h => exact (h rfl).elim
  | _ => simp [isRat]
theorem e_is_vector {d : D} {m : MS} (h : ty3 d = true) (hl : ∀ xs, d = .tup xs → xs.length ≤ 1000000) : F_is_vector [d] m = .ok (.bl (isVec d)) m := by
  refine eq_of_wp ?_
  have h1 := ty3_1 h
  simp [F_is_vector, u_is_vector, startD, look, tyN_1 h1, isT_tuple]
  cases d with
  | tup xs =>
    have hall : ∀ x ∈ xs, ty2 x = true := List.all_eq_true.mp h
    have hlen := hl xs rfl
    simp
    by_cases h0 : 1 ≤ xs.length
    · have h0' : (1 : Int) ≤ xs.length := by omega
      simp [h0']
      by_cases h2 : xs.length ≤ 200
      · have h2' : (xs.length : Int) ≤ 200 := by omega
        simp [h2']
        refine wp_lcW_map (fun x => .bl (isRat x)) ok_nil' (fun x hx => ?_) ?_
        · simp [look, wipeD, e_is_ratio (m := m) (hall x hx)]
        · simp [allB_map, isVec, h0, h2, hlen]
      · have h2' : ¬ (xs.length : Int) ≤ 200 := by omega
        simp [h2', isVec, h2]
    · have h0' : ¬ (1 : Int) ≤ xs.length := by omega
      simp [h0', isVec, h0]
  | _ => simp [isVec]
/-- two places in lowest terms -/
theorem qn_self {n q : Int} (hq : 0 < q) : (qn n q = (n, q)) ↔ Nat.gcd n.natAbs q.natAbs = 1 := by
  unfold qn
  rw [if_pos hq]
  constructor
  · intro h
    have h2 := congrArg Prod.snd h
    simp only at h2
    rw [Int.fdiv_eq_ediv_of_dvd gcd_dvd2] at h2
    obtain ⟨y, hy⟩ := gcd_dvd2 (n := n) (d := q)
    have g0 := gcd_pos (n := n) (d := q) (by omega)
    generalize hg : Nat.gcd n.natAbs q.natAbs = g at *
    rw [hy, Int.mul_ediv_cancel_left _ (by omega)] at h2
    have y0 : 0 < y := by
      rw [hy] at hq
      exact Int.pos_of_mul_pos_right hq (by omega)
    have : (g : Int) * y = 1 * y := by omega
    have := Int.eq_of_mul_eq_mul_right (by omega) this
    omega
  · intro h
    rw [h]
    simp
theorem e_lis_ratio {d : D} {m : MS} (h : ty2 d = true) : F__law_is_ratio [d] m = .ok (.bl (isRat d)) m := by
  refine eq_of_wp ?_
  have h1 := ty2_1 h
  simp [F__law_is_ratio, u__law_is_ratio, startD, look, tyN_1 h1, isT_tuple]
  cases d with
  | tup xs =>
    have hall : ∀ x ∈ xs, ty1 x = true := List.all_eq_true.mp h
    simp
    by_cases hl : xs.length = 2
    · simp [hl]
      match xs, hl, hall with
      | [x, y], _, hall =>
        refine wp_lcW_filter (fun x => !isW x) (fun _ => .int 1) ok_nil' (fun x hx => ?_) ?_
        · have e := isT_whole (hall x hx)
          simp [look, wipeD, tyN_1 (hall x hx)]
          cases h1 : isT (tyOf x) .int with
          | false => rw [h1] at e; simp at e; simp [e]
          | true => rw [h1] at e; simp at e; simp [← e]
        · have hx := hall x (by simp)
          have hy := hall y (by simp)
          have okn : ∀ (zs : List D), (∀ z ∈ zs, z = .int 1) → okD 64 (.lst zs) = true := fun zs hz => by
            show okAll 63 zs = true
            induction zs with
            | nil => rfl
            | cons z zs ih =>
              have := hz z (by simp)
              subst this
              show (okD 63 (.int 1) && okAll 63 zs) = true
              rw [ih fun z hz' => hz z (by simp [hz'])]
              rfl
          have eqn : wp (eqD true (.lst (List.map (fun _ => D.int 1) (List.filter (fun x => !isW x) [x, y]))) (.lst []) m) = fun (P : D → MS → Prop) => P (.bl (!(isW x && isW y))) m := by
            funext P
            rw [wp_eq_gen (by exact okn _ (by simp)) rfl]
            cases h1 : isW x <;> cases h2 : isW y <;> simp [h1, h2, flatR, eqvD, eqvAll]
          simp only [wp_newLf, eqn]
          cases x <;> cases y <;> simp [isW, isRat]
          split
          · rename_i i _ j _ hj
            rw [e_q (by omega)]
            simp only [wp_ok]
            rw [wp_eq_gen rfl rfl]
            simp [hj, flatR, R2, eqvD, eqvAll]
            rw [Bool.eq_iff_iff]
            simp
            rw [← qn_self hj]
            constructor
            · exact fun q => Prod.ext q.1 q.2
            · intro q
              rw [q]
              exact ⟨rfl, rfl⟩
          · rename_i hj
            exact fun q => (hj q).elim
    · have hl' : ¬ (xs.length : Int) = 2 := by omega
      simp [hl']
      match xs, hl with
      | [], _ => rfl
      | [x], _ => cases x <;> rfl
      | x :: y :: z :: r, _ => cases x <;> cases y <;> rfl
      | [x, y], h => exact (h rfl).elim
  | _ => simp [isRat]
end K00
end TL
end
section
namespace TL
open L2 (atI ixN)
mutual
def szD : D → Nat
  | .tup xs => 1 + szAll xs
  | .lst xs => 1 + szAll xs
  | _ => 1
def szAll : List D → Nat
  | [] => 0
  | x :: xs => szD x + szAll xs
end
theorem szAll_app : ∀ xs ys : List D, szAll (xs ++ ys) = szAll xs + szAll ys
  | [], ys => by simp [szAll]
  | x :: xs, ys => by
    simp only [List.cons_append, szAll, szAll_app xs ys]
    omega
theorem sz_pos (d : D) : 1 ≤ szD d := by cases d <;> simp [szD]
theorem len_sz : ∀ xs : List D, xs.length ≤ szAll xs
  | [] => by simp [szAll]
  | x :: xs => by
    have := len_sz xs
    have := sz_pos x
    simp only [List.length_cons, szAll]
    omega
theorem okD_62_63 {x : D} (h : okD 62 x = true) : okD 63 (.tup [x, x]) = true := by
  show okAll 62 [x, x] = true
  simp [okAll, h]
theorem ok_parts {k : Nat} {x : D} {xs : List D} (h : okAll k xs = true) (hx : x ∈ xs) : okD (k + 1) x = true := okD_mono (okAll_all.mp h x hx)
def dup (x : D) : D := .tup [x, x]
theorem zip_self {α : Type} : ∀ xs : List α, xs.zip xs = xs.map fun x => (x, x)
  | [] => rfl
  | x :: xs => by simp [zip_self xs]
section
variable {P : D → MS → Prop} {m : MS} {neg : Bool}
@[simp] theorem wp_eq_bl {a b : Bool} : wp (eqD neg (.bl a) (.bl b) m) P ↔ P (.bl (if neg then !(a == b) else (a == b))) m := by
  rw [wp_eq_gen rfl rfl]
  rfl
theorem wp_eq_str {x y : PySem.Str} (hx : okD 62 (.str x) = true) (hy : okD 62 (.str y) = true) : wp (eqD neg (.str x) (.str y) m) P ↔ P (.bl (if neg then !(x == y) else (x == y))) m := by
  rw [wp_eq_gen (by simpa [okD, flatR] using hx) (by simpa [okD, flatR] using hy)]
  rfl
@[simp] theorem wp_in_2bl {a b c : Bool} : wp (inD neg (.bl c) (.lst [.bl a, .bl b]) m) P ↔ P (.bl (if neg then !((a == c) || (b == c)) else ((a == c) || (b == c)))) m := by
  unfold inD
  simp [flatR, okD, okAll, eqvD]
end
namespace K00
open PySem PySem.Spec PyProof.Rows L2
theorem e_is_truth {a b : Bool} {m : MS} : F__law_is_truth [.bl a, .bl b] m = .ok (.bl (decide (a = b))) m := by
  refine eq_of_wp ?_
  cases a <;> cases b <;> simp [F__law_is_truth, u__law_is_truth, startD, look]
theorem e_same {d : D} {m : MS} (hd : okD 62 d = true) (hs : szD d < 1000000) : F__law_same [d, d] m = .ok (.bl true) m := by
  unfold F__law_same
  refine eq_of_wp (bodyT_of (d := .bl true) ?_ fun k => rfl)
  simp [u__law_same, startD, look]
  refine wp_while (n := szD d) (fun n ρ m' => ∃ ws : List D, m' = { m with objs := m.objs ++ [.lst (ws.map dup)] } ∧ (∀ x ∈ ws, okD 62 x = true) ∧ n = szAll ws ∧ n < 1000000 ∧ ∃ a b c e f g, ρ = [some d, some d, some (.ref m.objs.length), a, b, c, e, f, g]) ?_
    ⟨[d], rfl, by simpa using hd, by simp [szAll], hs, _, _, _, _, _, _, rfl⟩
  rintro n ρ m' ⟨ws, rfl, hok, rfl, hlt, a, b, c, e, f, g, rfl⟩
  have hget : (m.objs ++ [MO.lst (ws.map dup)])[m.objs.length]? = some (.lst (ws.map dup)) := by simp
  have hfl : flatR { m with objs := m.objs ++ [MO.lst (ws.map dup)] } (.ref m.objs.length) = .lst (ws.map dup) := flat_ref hget
  have hok2 : okD 64 (.lst (ws.map dup)) = true := by
    show okAll 63 (ws.map dup) = true
    refine okAll_all.mpr fun x hx => ?_
    obtain ⟨y, hy, rfl⟩ := List.mem_map.mp hx
    exact okD_62_63 (hok y hy)
  simp [look]
  rw [wp_eq_gen (by rw [hfl]; exact hok2) rfl, hfl]
  rcases List.eq_nil_or_concat ws with rfl | ⟨pre, x, rfl⟩
  · simp [flatR, eqvD, eqvAll, look]
  · have hne : eqvD (.lst ((pre.concat x).map dup)) (.lst []) = false := by
      cases pre <;> simp [eqvD, eqvAll, dup]
    simp only [List.concat_eq_append] at *
    have hx := hok x (by simp)
    simp [flatR, hne, look, hget]
    rw [wp_pop_ref (xs := pre.map dup) (d := dup x) (by simp [dup])]
    have hsz : szAll (pre ++ [x]) = szAll pre + szD x := by rw [szAll_app]; simp [szAll]
    have hxp := sz_pos x
    have go : ∃ n', n' < szAll (pre ++ [x]) ∧ ∃ ws : List D, pre.map dup = ws.map dup ∧ (∀ y ∈ ws, okD 62 y = true) ∧ n' = szAll ws ∧ n' < 1000000 :=
      ⟨szAll pre, by omega, pre, rfl, fun y hy => hok y (by simp [hy]), rfl, by omega⟩
    have go2 : ∀ xs : List D, (∀ y ∈ xs, okD 62 y = true) → szAll xs < szD x → ∃ n', n' < szAll (pre ++ [x]) ∧ ∃ ws : List D, pre.map dup ++ xs.map dup = ws.map dup ∧ (∀ y ∈ ws, okD 62 y = true) ∧ n' = szAll ws ∧ n' < 1000000 := fun xs h1 h2 =>
      ⟨szAll (pre ++ xs), by rw [szAll_app]; omega, pre ++ xs, by simp, fun y hy => by
        rcases List.mem_append.mp hy with h | h
        · exact hok y (by simp [h])
        · exact h1 y h, rfl, by rw [szAll_app]; omega⟩
    have goX : ∀ (xs : List D) (zs : List D), (∀ y ∈ xs, okD 62 y = true) → szAll xs < szD x → pre.length + xs.length < 1000000 → wp
      (lcW (ItD.mk (List.map (fun a => D.tup [a, a]) xs) []).Ok (gT 2 (gsCons (gN 7) (gsCons (gN 8) gsNil))) bYes (dTup (aCons (dVar 7) (aCons (dVar 8) aNil)))
        (wipeD [some d, some d, some (D.ref m.objs.length), some x, some x, some (D.lst zs), e, f, g] [7, 8])
        (List.map (fun a => D.tup [a, a]) xs) { objs := m.objs ++ [MO.lst (List.map dup pre)], dr := m.dr })
      fun zs m2 =>
      zs.length ≤ 1000000 ∧
        wp (extendD (D.ref m.objs.length) [D.lst zs] m2) fun x' m' =>
          ∃ n', n' < szAll (pre ++ [x]) ∧ ∃ ws : List D, m' = { objs := m.objs ++ [MO.lst (List.map dup ws)], dr := m.dr } ∧ (∀ (x : D), x ∈ ws → okD 62 x = true) ∧ n' = szAll ws ∧ n' < 1000000 := by
      intro xs zs h1 h2 h3
      refine wp_lcW_mapA _ dup ok_nil' (fun y hy => ?_) ?_
      · simp [look, wipeD, dup]
      · refine ⟨by rw [List.length_map]; omega, ?_⟩
        rw [wp_ext_ref (xs := pre.map dup) (by simp) (by simpa using h3)]
        obtain ⟨n', k1, ws, k2, k3, k4, k5⟩ := go2 xs h1 h2
        refine ⟨n', k1, ws, ?_, k3, k4, k5⟩
        simp [k2]
    cases x with
    | non =>
      simp [look, dup]
      exact fun _ => go
    | bl k =>
      simp [look, dup, tyN, isT, e_is_truth]
      exact fun _ => go
    | int i =>
      simp [look, dup, tyN, isT, isAny]
      exact fun _ => go
    | str z =>
      simp [look, dup, tyN, isT, isAny, wp_eq_str hx hx]
      exact fun _ => go
    | tup xs =>
      have hlen : pre.length + xs.length < 1000000 := by
        have := len_sz pre
        have := len_sz xs
        simp [szD] at hsz
        omega
      simp [look, dup, tyN, isT, isAny, zipG, List.zipWith_self]
      exact fun _ => goX xs _ (fun y hy => ok_parts (k := 61) hx hy) (by simp [szD]) hlen
    | lst xs =>
      have hlen : pre.length + xs.length < 1000000 := by
        have := len_sz pre
        have := len_sz xs
        simp [szD] at hsz
        omega
      simp [look, dup, tyN, isT, isAny, zipG, List.zipWith_self]
      exact fun _ => goX xs _ (fun y hy => ok_parts (k := 61) hx hy) (by simp [szD]) hlen
    | _ => simp [okD] at hx
end K00
end TL
end
section
namespace TL
open L2 (atI ixN)
theorem natAbs_fdiv_eq {x : Int} {g : Nat} (hg : (g : Int) ∣ x) : (x.fdiv g).natAbs = x.natAbs / g := by
  rw [Int.fdiv_eq_ediv_of_dvd hg]
  obtain ⟨y, rfl⟩ := hg
  by_cases h : g = 0
  · subst h
    simp
  · rw [Int.mul_ediv_cancel_left _ (by omega), Int.natAbs_mul, Int.natAbs_natCast, Nat.mul_div_cancel_left _ (by omega)]
theorem isRat_qn {n d : Int} (h : 0 < d) : isRat (R2 (qn n d)) = true := by
  have s := (Sz.qn (k := n.natAbs + d.natAbs + 1) (n := n) (d := d) (Nat.lt_of_lt_of_le (Nat.lt_two_pow_self) (Nat.pow_le_pow_right (by decide) (by omega))) (Nat.lt_of_lt_of_le (Nat.lt_two_pow_self) (Nat.pow_le_pow_right (by decide) (by omega))) h).2.2
  have g0 := gcd_pos (n := n) (d := d) (by omega)
  simp [R2, isRat, s]
  unfold qn
  rw [if_pos h]
  simp only
  rw [natAbs_fdiv_eq gcd_dvd1, natAbs_fdiv_eq gcd_dvd2]
  exact Nat.gcd_div_gcd_div_gcd_of_pos_right (by omega)
/-- a drawn ratio -/
def Good (p : Int × Int) : Prop := Sz 21 p ∧ isRat (R2 p) = true
/-- a drawn ratio's value; a drawn vector's -/
def IsQ (v : D) : Prop := ∃ p, v = R2 p ∧ Good p
def IsV (n : Nat) (v : D) : Prop := ∃ qs : QV, v = V2 qs ∧ qs.length = n ∧ ∀ q ∈ qs, Good q
open PySem PySem.Spec PyProof.Rows L2 in
theorem paired_good {ys : List D} : ∀ {xs : List D}, Paired (fun _ y => IsQ y) xs ys → ∃ qs : QV, ys = qs.map R2 ∧ qs.length = xs.length ∧ ∀ q ∈ qs, Good q := by
  intro xs h
  induction h with
  | nil => exact ⟨[], rfl, rfl, by simp⟩
  | cons h t ih =>
    obtain ⟨p, rfl, hp⟩ := h
    obtain ⟨qs, rfl, hl, hq⟩ := ih
    exact ⟨p :: qs, rfl, by simp [hl], by
      intro q h
      rcases List.mem_cons.mp h with rfl | h
      · exact hp
      · exact hq q h⟩
namespace K00
open PySem PySem.Spec PyProof.Rows L2
theorem sp_number {n : Nat} {m : MS} {size : Int} (h : DrB (n + 4) m) (h1 : 1 ≤ size) (h2 : size ≤ 1000000) : wp (F__law_number [.drw, .int size] m) fun v m' => IsQ v ∧ m'.objs = m.objs ∧ DrB n m' := by
  simp [F__law_number, u__law_number, startD, look]
  refine wp_mono (sp_draw (n := n + 3) h (by omega)) fun v1 m1 ⟨⟨i, e1, i0, i1⟩, o1, b1⟩ => ?_
  subst e1
  refine wp_mono (sp_pick (n := n + 2) b1 (by simp)) fun v2 m2 ⟨hv2, o2, b2⟩ => ?_
  obtain ⟨s, e2, s0, s1⟩ : ∃ s : Int, v2 = .int s ∧ 1 ≤ s ∧ s ≤ 1000000 := by
    simp at hv2
    rcases hv2 with h | h | h
    · exact ⟨_, h, by omega, by omega⟩
    · exact ⟨_, h, by omega, by omega⟩
    · exact ⟨_, h, by omega, by omega⟩
  subst e2
  refine wp_mono (sp_draw (n := n + 1) b2 (by omega)) fun v3 m3 ⟨⟨d, e3, d0, d1⟩, o3, b3⟩ => ?_
  subst e3
  simp [look]
  refine wp_mono (sp_draw (n := n) b3 (by omega)) fun v4 m4 ⟨⟨k, e4, k0, k1⟩, o4, b4⟩ => ?_
  subst e4
  have hd : (0 : Int) < 1 + d := by omega
  have hd' : (1 + d : Int) ≠ 0 := by omega
  have fin : ∀ z : Int, z.natAbs < 2 ^ 21 → Good (qn z (1 + d)) := fun z hz => ⟨Sz.qn hz (by omega) hd, isRat_qn hd⟩
  simp only [wp_eq_int]
  simp
  split
  · rw [e_q hd']
    exact ⟨⟨_, rfl, fin _ (by omega)⟩, by rw [o4, o3, o2, o1], b4⟩
  · rw [e_q hd']
    exact ⟨⟨_, rfl, fin _ (by omega)⟩, by rw [o4, o3, o2, o1], b4⟩
theorem sp_vector {n many : Nat} {m : MS} {size : Int} (h : DrB (n + 9 * many) m) (hm : many ≤ 1000) (h1 : 1 ≤ size) (h2 : size ≤ 1000000) : wp (F__law_vector [.drw, .int many, .int size] m) fun v m' => IsV many v ∧ m'.objs = m.objs ∧ DrB n m' := by
  simp [F__law_vector, u__law_vector, startD, look]
  refine ⟨by omega, ?_⟩
  refine wp_lcW_each (fun k m' => m'.objs = m.objs ∧ DrB (n + 9 * k) m') (fun _ y => IsQ y) (fun k m' _ => ok_nil') ?_ ⟨rfl, by rw [rng_length]; exact h⟩ ?_
  · rintro x hx k m' ⟨ho, hb⟩
    simp [look, wipeD]
    refine wp_mono (sp_number (n := n + 9 * k + 5) (hb.mono (by omega)) h1 h2) fun v1 m1 ⟨⟨p, e1, gp⟩, o1, b1⟩ => ?_
    subst e1
    refine wp_mono (sp_number (n := n + 9 * k + 1) b1 h1 h2) fun v2 m2 ⟨⟨q, e2, gq⟩, o2, b2⟩ => ?_
    subst e2
    refine wp_mono (sp_pick (n := n + 9 * k) b2 (by simp)) fun v3 m3 ⟨hv, o3, b3⟩ => ?_
    refine ⟨?_, by rw [o3, o2, o1, ho], b3⟩
    simp at hv
    rcases hv with e | e | e
    · exact ⟨(0, 1), e, ⟨by decide, by decide, by decide⟩, by simp [R2, isRat]⟩
    · exact ⟨p, e, gp⟩
    · exact ⟨q, e, gq⟩
  · rintro ys m' hp ⟨ho, hb⟩
    obtain ⟨qs, rfl, hl, hq⟩ := paired_good hp
    rw [rng_length] at hl
    simp
    exact ⟨by omega, ⟨qs, rfl, hl, hq⟩, ho, by simpa using hb⟩
end K00
end TL
end
section
namespace TL
open L2 (atI ixN)
theorem IsV.ty3 {n : Nat} {v : D} (h : IsV n v) : ty3 v = true := by
  obtain ⟨qs, rfl, _, _⟩ := h
  refine List.all_eq_true.mpr fun x hx => ?_
  obtain ⟨p, _, rfl⟩ := List.mem_map.mp hx
  rfl
theorem IsV.vec {n : Nat} {v : D} (h : IsV n v) (h1 : 1 ≤ n) (h2 : n ≤ 200) : isVec v = true := by
  obtain ⟨qs, rfl, hl, hq⟩ := h
  simp [isVec, V2, hl, h1, h2]
  intro a b hx
  exact (hq _ hx).2
theorem IsV.short {n : Nat} {v : D} (h : IsV n v) (h2 : n ≤ 1000000) : ∀ xs, v = .tup xs → xs.length ≤ 1000000 := by
  obtain ⟨qs, rfl, hl, hq⟩ := h
  intro xs e
  cases e
  simpa [hl] using h2
theorem R2_inj {p q : Int × Int} (h : R2 p = R2 q) : p = q := by
  simp [R2] at h
  exact Prod.ext h.1 h.2
theorem V2_inj : ∀ {us vs : QV}, us.map R2 = vs.map R2 → us = vs
  | [], [], _ => rfl
  | [], _ :: _, h => by cases h
  | _ :: _, [], h => by cases h
  | u :: us, v :: vs, h => by
    obtain ⟨h1, h2⟩ := List.cons.inj h
    rw [R2_inj h1, V2_inj h2]
theorem IsV.get {n : Nat} {xs : QV} (h : IsV n (V2 xs)) : xs.length = n ∧ ∀ x ∈ xs, Good x := by
  obtain ⟨qs, e, hl, hq⟩ := h
  obtain rfl := V2_inj (D.tup.inj e)
  exact ⟨hl, hq⟩
namespace K00
open PySem PySem.Spec PyProof.Rows L2
section
variable {m : MS} {a b : D}
theorem e_ratio_ok {n d : Int} (h : d ≠ 0) : F_ratio [.int n, .int d] m = .ok (R2 (qn n d)) m := by
  refine eq_of_wp ?_
  simp [F_ratio, u_ratio, startD, look, e_is_whole (d := .int n) rfl, e_is_whole (d := .int d) rfl, isW, h, e_lowest h]
theorem e_ratio_n (h : ty1 a = true) (hw : isW a = false) : F_ratio [a, b] m = .raise "BadNumber" [("part", .str "n")] m := by
  unfold F_ratio
  refine eq_of_wr (wr_body (wr_seq0 (wr_if ?_)))
  simp [startD, look, e_is_whole h, hw]
  exact wr_sRaiseF (by simp)
theorem e_ratio_d {n : Int} (h : ty1 b = true) (hw : isW b = false ∨ b = .int 0) : F_ratio [.int n, b] m = .raise "BadNumber" [("part", .str "d")] m := by
  unfold F_ratio
  refine eq_of_wr (wr_body (wr_seq ?_))
  simp [startD, look, e_is_whole (d := .int n) rfl, isW]
  refine wr_seq0 (wr_if ?_)
  rcases hw with hw | rfl
  · simp [look, e_is_whole h, hw]
    exact wr_sRaiseF (by simp)
  · simp [look, e_is_whole h, isW]
    exact wr_sRaiseF (by simp)
theorem e_inner_bad1 (h : ty3 a = true) (hl : ∀ xs, a = .tup xs → xs.length ≤ 1000000) (hv : isVec a = false) : F_inner [a, b] m = .raise "BadVector" [] m := by
  unfold F_inner
  refine eq_of_wr (wr_body (wr_seq0 (wr_if ?_)))
  simp [startD, look, e_is_vector h hl, hv]
  exact wr_sRaise (by simp)
theorem e_inner_bad2 (h : ty3 a = true) (hl : ∀ xs, a = .tup xs → xs.length ≤ 1000000) (hv : isVec a = true) (h' : ty3 b = true) (hl' : ∀ xs, b = .tup xs → xs.length ≤ 1000000) (hv' : isVec b = false) : F_inner [a, b] m = .raise "BadVector" [] m := by
  unfold F_inner
  refine eq_of_wr (wr_body (wr_seq0 (wr_if ?_)))
  simp [startD, look, e_is_vector h hl, hv, e_is_vector h' hl', hv']
  exact wr_sRaise (by simp)
theorem e_inner_width {xs ys : List D} (h : ty3 (.tup xs) = true) (hv : isVec (.tup xs) = true) (h' : ty3 (.tup ys) = true) (hv' : isVec (.tup ys) = true) (hne : xs.length ≠ ys.length) (hl : xs.length ≤ 1000000) (hl' : ys.length ≤ 1000000) : F_inner [.tup xs, .tup ys] m = .raise "BadWidth" [] m := by
  unfold F_inner
  refine eq_of_wr (wr_body (wr_seq ?_))
  have e1 := e_is_vector (m := m) h (fun zs e => by cases e; exact hl)
  have e2 := e_is_vector (m := m) h' (fun zs e => by cases e; exact hl')
  rw [hv] at e1
  rw [hv'] at e2
  simp [startD, look, e1, e2]
  refine wr_seq0 (wr_if ?_)
  have : ¬ (xs.length : Int) = ys.length := by omega
  simp [look, this]
  exact wr_sRaise (by simp)
theorem e_inner_ok {n : Nat} {xs ys : QV} (hx : IsV n (V2 xs)) (hy : IsV n (V2 ys)) (h1 : 1 ≤ n) (h2 : n ≤ 200) : F_inner [V2 xs, V2 ys] m = .ok (R2 (qdot xs ys)) m := by
  refine eq_of_wp ?_
  have e1 := e_is_vector (m := m) hx.ty3 (hx.short (by omega))
  have e2 := e_is_vector (m := m) hy.ty3 (hy.short (by omega))
  rw [hx.vec h1 h2] at e1
  rw [hy.vec h1 h2] at e2
  obtain ⟨lx, gx⟩ := hx.get
  obtain ⟨ly, gy⟩ := hy.get
  have e3 := f_dot (a := 21) (b := 21) (m := m) (fun x hx => (gx x hx).1) (fun x hx => (gy x hx).1) (by omega) (by rw [lx]; omega)
  simp [F_inner, u_inner, startD, look, e1, e2, e3]
  have e4 : F_dot [D.tup (xs.map R2), D.tup (ys.map R2)] m = _ := e3
  simp [V2, lx, ly, e4]
end
end K00
end TL
end
section
namespace TL
open L2 (atI ixN)
theorem IsV.tup {n : Nat} {v : D} (h : IsV n v) : ∃ xs, v = .tup xs ∧ xs.length = n := by
  obtain ⟨qs, rfl, hl, _⟩ := h
  exact ⟨_, rfl, by simpa using hl⟩
namespace K00
open PySem PySem.Spec PyProof.Rows L2
section
variable {m : MS} {n : Nat}
theorem e_need_ok {xs : List D} {t : Bool} (h1 : 1 ≤ xs.length) (h2 : xs.length ≤ 200) (hn : 1 ≤ n) (hn2 : n ≤ 200) (hx : ∀ x ∈ xs, IsV n x) : F_need_rows [sqD t xs] m = .ok .non m := by
  refine eq_of_wp ?_
  have h1' : (1 : Int) ≤ xs.length := by omega
  have h2' : (xs.length : Int) ≤ 200 := by omega
  obtain ⟨x0, rest, rfl⟩ : ∃ x0 rest, xs = x0 :: rest := by
    cases xs with
    | nil => simp at h1
    | cons x r => exact ⟨x, r, rfl⟩
  obtain ⟨z0, e0, l0⟩ := (hx x0 (by simp)).tup
  have key : ∀ rd : D, (∀ P : D → MS → Prop, wp (ixD rd (.int 0) m) P ↔ P x0 m) → wp (forW (ItD.mk (enumG 0 (x0 :: rest)) []).Ok (gT 2 (gsCons (gN 1) (gsCons (gN 2) gsNil)))
      (sIf (bOr (bNot (toB (dCall (lenF 1 F_is_vector) (aCons (dVar 2) aNil)))) (toB (dBin (eqD true) (dCallB (arg1 lenD) (aCons (dVar 2) aNil)) (dCallB (arg1 lenD) (aCons (dBin ixD (dVar 0) (dC (.int 0))) aNil)))))
        (sRaiseF "BadRows" "index" (dVar 1)) sNext) (enumG 0 (x0 :: rest)) [some rd, none, none] m) fun fl m' => (∃ ρ, fl = .next ρ) ∧ m' = m := by
    intro rd hrd
    refine wp_forW (fun ds ρ m' => m' = m ∧ ∃ k suf, ds = enumG k suf ∧ (∀ x ∈ suf, IsV n x) ∧ ∃ a b, ρ = [some rd, a, b]) ?_ ?_ _ _ _ ⟨rfl, 0, _, rfl, hx, _, _, rfl⟩
    · rintro d ds ρ m' ⟨rfl, k, suf, es, hs, a, b, rfl⟩
      refine ⟨ok_nil', ?_⟩
      cases suf with
      | nil => cases es
      | cons x suf =>
        obtain ⟨rfl, rfl⟩ := List.cons.inj es
        have hv := hs x (by simp)
        have e1 := e_is_vector (m := m') hv.ty3 (hv.short (by omega))
        rw [hv.vec hn hn2] at e1
        obtain ⟨zs, rfl, lz⟩ := hv.tup
        simp [look, e1, hrd, e0, l0, lz]
        exact ⟨_, suf, rfl, fun y hy => hs y (by simp [hy])⟩
    · rintro ρ m' ⟨rfl, k, suf, es, hs, a, b, rfl⟩
      exact ⟨ok_nil', ⟨_, rfl⟩, rfl⟩
  have fin : ∀ rd, (∀ P : D → MS → Prop, wp (ixD rd (.int 0) m) P ↔ P x0 m) → wp (forW (ItD.mk (enumG 0 (x0 :: rest)) []).Ok (gT 2 (gsCons (gN 1) (gsCons (gN 2) gsNil)))
      (sIf (bOr (bNot (toB (dCall (lenF 1 F_is_vector) (aCons (dVar 2) aNil)))) (toB (dBin (eqD true) (dCallB (arg1 lenD) (aCons (dVar 2) aNil)) (dCallB (arg1 lenD) (aCons (dBin ixD (dVar 0) (dC (.int 0))) aNil)))))
        (sRaiseF "BadRows" "index" (dVar 1)) sNext) (enumG 0 (x0 :: rest)) [some rd, none, none] m) fun fl m' => match fl with | .ret d => d = .non ∧ m' = m | .next _ => m' = m | _ => False := fun rd hrd => wp_mono (key rd hrd) fun fl m' ⟨⟨ρ, e⟩, em⟩ => by subst e; exact em
  have l1 : (1 : Int) ≤ (rest.length : Int) + 1 := by omega
  have l2 : (rest.length : Int) + 1 ≤ 200 := by simp at h2; omega
  cases t with
  | true =>
    have f := fin (.tup (x0 :: rest)) (fun P => by simp)
    simp [F_need_rows, u_need_rows, startD, look, sqD, tyN, isAny, isT, l1, l2] at f ⊢
    exact wp_mono f fun fl m' h => by cases fl <;> first | exact h | exact h.elim
  | false =>
    have f := fin (.lst (x0 :: rest)) (fun P => by simp)
    simp [F_need_rows, u_need_rows, startD, look, sqD, tyN, isAny, isT, l1, l2] at f ⊢
    exact wp_mono f fun fl m' h => by cases fl <;> first | exact h | exact h.elim
theorem enumG_app : ∀ (k : Nat) (xs ys : List D), enumG k (xs ++ ys) = enumG k xs ++ enumG (k + xs.length) ys
  | _, [], _ => rfl
  | k, x :: xs, ys => by
    simp only [List.cons_append, enumG, List.length_cons]
    rw [enumG_app (k + 1) xs ys]
    rw [Nat.add_assoc, Nat.add_comm 1 xs.length]
theorem e_need_bad {pre post : List D} {r : D} {t : Bool} (h2 : pre.length + 1 + post.length ≤ 200) (hn : 1 ≤ n) (hn2 : n ≤ 200) (hx : ∀ x ∈ pre, IsV n x) (hr : ty3 r = true) (hrl : ∀ xs, r = .tup xs → xs.length ≤ 1000000)
    (hb : isVec r = false ∨ (pre ≠ [] ∧ ∃ zs, r = .tup zs ∧ zs.length ≠ n)) : F_need_rows [sqD t (pre ++ r :: post)] m = .raise "BadRows" [("index", .int pre.length)] m := by
  unfold F_need_rows
  refine eq_of_wr (wr_body (wr_seq ?_))
  have l1 : (1 : Int) ≤ (pre.length : Int) + ((post.length : Int) + 1) := by omega
  have l2 : (pre.length : Int) + ((post.length : Int) + 1) ≤ 200 := by omega
  have er := e_is_vector (m := m) hr hrl
  have hd : ∃ x0 rest, pre ++ r :: post = x0 :: rest ∧ (pre ≠ [] → ∃ z0, x0 = .tup z0 ∧ z0.length = n) := by
    cases pre with
    | nil => exact ⟨r, post, rfl, fun z => (z rfl).elim⟩
    | cons x p => exact ⟨x, p ++ r :: post, rfl, fun _ => (hx x (by simp)).tup⟩
  obtain ⟨x0, rest, e0, hx0⟩ := hd
  have key : ∀ rd : D, (∀ P : D → MS → Prop, wp (ixD rd (.int 0) m) P ↔ P x0 m) → wr (forW (ItD.mk (enumG 0 (pre ++ r :: post)) []).Ok (gT 2 (gsCons (gN 1) (gsCons (gN 2) gsNil)))
      (sIf (bOr (bNot (toB (dCall (lenF 1 F_is_vector) (aCons (dVar 2) aNil)))) (toB (dBin (eqD true) (dCallB (arg1 lenD) (aCons (dVar 2) aNil)) (dCallB (arg1 lenD) (aCons (dBin ixD (dVar 0) (dC (.int 0))) aNil)))))
        (sRaiseF "BadRows" "index" (dVar 1)) sNext) (enumG 0 (pre ++ r :: post)) [some rd, none, none] m) fun c' fs' m' => c' = ("BadRows" : Str) ∧ fs' = ([(("index" : Str), D.int pre.length)] : List (Str × D)) ∧ m' = m := by
    intro rd hrd
    have e1 : enumG 0 (pre ++ r :: post) = enumG 0 pre ++ .tup [.int (pre.length : Nat), r] :: enumG (pre.length + 1) post := by
      rw [enumG_app]
      simp [enumG]
    have hgen : ∀ (I : ItD), I.Ok m → wr (forW I.Ok (gT 2 (gsCons (gN 1) (gsCons (gN 2) gsNil)))
      (sIf (bOr (bNot (toB (dCall (lenF 1 F_is_vector) (aCons (dVar 2) aNil)))) (toB (dBin (eqD true) (dCallB (arg1 lenD) (aCons (dVar 2) aNil)) (dCallB (arg1 lenD) (aCons (dBin ixD (dVar 0) (dC (.int 0))) aNil)))))
        (sRaiseF "BadRows" "index" (dVar 1)) sNext) (enumG 0 pre ++ .tup [.int (pre.length : Nat), r] :: enumG (pre.length + 1) post) [some rd, none, none] m) fun c' fs' m' => c' = ("BadRows" : Str) ∧ fs' = ([(("index" : Str), D.int pre.length)] : List (Str × D)) ∧ m' = m := fun I hI => by
      refine wr_forW (fun ds ρ => ∃ k suf, ds = enumG k suf ∧ (∀ x ∈ suf, IsV n x) ∧ (suf ≠ [] → pre ≠ []) ∧ ∃ a b, ρ = [some rd, a, b]) hI ?_ ?_ _ _ ⟨0, pre, rfl, hx, fun h => h, _, _, rfl⟩
      · rintro d ds ρ ⟨k, suf, es, hs, hp, a, b, rfl⟩
        cases suf with
        | nil => cases es
        | cons x suf =>
          obtain ⟨rfl, rfl⟩ := List.cons.inj es
          have hv := hs x (by simp)
          have e1 := e_is_vector (m := m) hv.ty3 (hv.short (by omega))
          rw [hv.vec hn hn2] at e1
          obtain ⟨zs, rfl, lz⟩ := hv.tup
          obtain ⟨z0, rfl, l0⟩ := hx0 (hp (by simp))
          simp [look, e1, hrd, l0, lz]
          exact ⟨_, suf, rfl, fun y hy => hs y (by simp [hy]), fun _ => hp (by simp)⟩
      · rintro ρ ⟨k, suf, es, hs, hp, a, b, rfl⟩
        simp [look]
        refine wr_if ?_
        rcases hb with hb | ⟨hp, zs, rfl, hz⟩
        · rw [hb] at er
          simp [look, er]
          exact wr_sRaiseF (by simp [look])
        · obtain ⟨z0, rfl, l0⟩ := hx0 hp
          have hz' : ¬ (zs.length : Int) = n := by omega
          cases hv : isVec (.tup zs) with
          | false =>
            rw [hv] at er
            simp [look, er]
            exact wr_sRaiseF (by simp [look])
          | true =>
            rw [hv] at er
            simp [look, er, hrd, l0, hz']
            exact wr_sRaiseF (by simp [look])
    have h := hgen (ItD.mk (enumG 0 (pre ++ r :: post)) []) ok_nil'
    rw [← e1] at h
    exact h
  cases t with
  | true =>
    have f := key (.tup (pre ++ r :: post)) (fun P => by rw [e0]; simp)
    simp [startD, look, sqD, tyN, isAny, isT, l1, l2] at f ⊢
    exact wr_for (by simpa [look] using f)
  | false =>
    have f := key (.lst (pre ++ r :: post)) (fun P => by rw [e0]; simp)
    simp [startD, look, sqD, tyN, isAny, isT, l1, l2] at f ⊢
    exact wr_for (by simpa [look] using f)
end
end K00
end TL
end
section
namespace TL
open L2 (atI ixN)
/-- a list | a tuple -/
def isSq : D → Option (List D)
  | .tup xs => some xs
  | .lst xs => some xs
  | _ => none
def ty0 : D → Bool
  | .non | .bl _ | .int _ | .str _ | .dct _ => true
  | _ => false
namespace K00
open PySem PySem.Spec PyProof.Rows L2
section
variable {m : MS} {n k : Nat} {ws : QV}
theorem e_comb_vec {a b : D} (h : ty3 a = true) (hl : ∀ xs, a = .tup xs → xs.length ≤ 1000000) (hv : isVec a = false) : F_combined [a, b] m = .raise "BadVector" [] m := by
  unfold F_combined
  refine eq_of_wr (wr_body (wr_seq0 (wr_if ?_)))
  simp [startD, look, e_is_vector h hl, hv]
  exact wr_sRaise (by simp)
theorem e_comb_none {b : D} (hw : IsV n (V2 ws)) (h1 : 1 ≤ n) (h2 : n ≤ 200) (hb : ty0 b = true ∨ ∃ t xs, b = sqD t xs ∧ xs.length ≠ n) : F_combined [V2 ws, b] m = .raise "BadRows" [("index", .non)] m := by
  unfold F_combined
  refine eq_of_wr (wr_body (wr_seq ?_))
  have e1 := e_is_vector (m := m) hw.ty3 (hw.short (by omega))
  rw [hw.vec h1 h2] at e1
  simp [startD, look, e1]
  refine wr_seq0 (wr_if ?_)
  obtain ⟨lw, _⟩ := hw.get
  rcases hb with hb | ⟨t, xs, rfl, hne⟩
  · cases b <;> first
      | (simp [ty0] at hb; done)
      | (simp [look, tyN, isAny, isT]; exact wr_sRaiseF (by simp))
  · have : ¬ (xs.length : Int) = n := by omega
    cases t
    · simp [look, tyN, isAny, isT, sqD, V2, lw, this]
      exact wr_sRaiseF (by simp)
    · simp [look, tyN, isAny, isT, sqD, V2, lw, this]
      exact wr_sRaiseF (by simp)
theorem e_comb_rows {pre post : List D} {r : D} {t : Bool} (hw : IsV k (V2 ws)) (hk : pre.length + 1 + post.length = k) (h2 : k ≤ 200) (hn : 1 ≤ n) (hn2 : n ≤ 200) (hx : ∀ x ∈ pre, IsV n x) (hr : ty3 r = true) (hrl : ∀ xs, r = .tup xs → xs.length ≤ 1000000)
    (hb : isVec r = false ∨ (pre ≠ [] ∧ ∃ zs, r = .tup zs ∧ zs.length ≠ n)) : F_combined [V2 ws, sqD t (pre ++ r :: post)] m = .raise "BadRows" [("index", .int pre.length)] m := by
  unfold F_combined
  refine eq_of_wr (wr_body (wr_seq ?_))
  have e1 := e_is_vector (m := m) hw.ty3 (hw.short (by omega))
  rw [hw.vec (by omega) h2] at e1
  obtain ⟨lw, _⟩ := hw.get
  have e2 := e_need_bad (m := m) (n := n) (t := t) (pre := pre) (post := post) (r := r) (by omega) hn hn2 hx hr hrl hb
  have hl : ¬ (¬ (pre.length : Int) + ((post.length : Int) + 1) = k) := by omega
  simp at hl
  simp [startD, look, e1]
  refine wr_seq ?_
  cases t
  · simp [sqD] at e2
    simp [look, tyN, isAny, isT, sqD, V2, lw, hl]
    refine wr_seq0 (wr_expr0 (wr_call ?_))
    simp [look]
    exact wr_lenF rfl (by rw [e2]; simp)
  · simp [sqD] at e2
    simp [look, tyN, isAny, isT, sqD, V2, lw, hl]
    refine wr_seq0 (wr_expr0 (wr_call ?_))
    simp [look]
    exact wr_lenF rfl (by rw [e2]; simp)
theorem e_comb_ok {rows : List QV} {t : Bool} (hw : IsV k (V2 ws)) (hk : rows.length = k) (h1 : 1 ≤ k) (h2 : k ≤ 200) (hn : 1 ≤ n) (hn2 : n ≤ 200) (hx : ∀ r ∈ rows, IsV n (V2 r)) : F_combined [V2 ws, sqD t (rows.map V2)] m = .ok (V2 (mixV (ws.zip rows) n)) m := by
  refine eq_of_wp ?_
  have e1 := e_is_vector (m := m) hw.ty3 (hw.short (by omega))
  rw [hw.vec h1 h2] at e1
  obtain ⟨lw, gw⟩ := hw.get
  have e2 := e_need_ok (m := m) (xs := rows.map V2) (t := t) (n := n) (by simpa [hk] using h1) (by simpa [hk] using h2) hn hn2 (fun x hx' => by
    obtain ⟨r, hr, rfl⟩ := List.mem_map.mp hx'
    exact hx r hr)
  have e3 := f_mixed (a := 21) (b := 21) (n := n) (ws := ws) (rows := rows) (m := m) (t := t) (fun x hx => (gw x hx).1) (fun r hr => ⟨(hx r hr).get.1, fun x hxx => ((hx r hr).get.2 x hxx).1⟩) (by omega) (by omega) (fun z => by rw [z] at hk; simp at hk; omega) (by rw [lw]; omega)
  have hz : (rows.length : Int) = k := by omega
  cases t
  · simp [sqD, V2] at e2 e3
    simp [F_combined, u_combined, startD, look, e1]
    simp [look, tyN, isAny, isT, sqD, V2, lw, hz, e2, e3]
  · simp [sqD, V2] at e2 e3
    simp [F_combined, u_combined, startD, look, e1]
    simp [look, tyN, isAny, isT, sqD, V2, lw, hz, e2, e3]
end
end K00
end TL
end
section
namespace TL
open L2 (atI ixN)
theorem qtimes_comm (a b : Int × Int) : qtimes a b = qtimes b a := by
  unfold qtimes
  rw [Int.mul_comm a.1, Int.mul_comm a.2]
theorem qdot_comm : ∀ xs ys : QV, qdot xs ys = qdot ys xs := by
  intro xs ys
  unfold qdot
  congr 1
  induction xs generalizing ys with
  | nil => simp
  | cons x xs ih =>
    cases ys with
    | nil => simp
    | cons y ys => simp [ih ys, qtimes_comm x y]
theorem okD_R2 (p : Int × Int) (k : Nat) : okD (k + 1) (R2 p) = true := by
  cases k <;> rfl
theorem okD_V2 (xs : QV) (k : Nat) : okD (k + 2) (V2 xs) = true := by
  show okAll (k + 1) (xs.map R2) = true
  refine okAll_all.mpr fun x hx => ?_
  obtain ⟨p, _, rfl⟩ := List.mem_map.mp hx
  exact okD_R2 p k
theorem szD_R2 (p : Int × Int) : szD (R2 p) = 3 := rfl
theorem szAll_V2 : ∀ xs : QV, szAll (xs.map R2) = 3 * xs.length
  | [] => rfl
  | x :: xs => by
    simp only [List.map_cons, szAll, szAll_V2 xs, szD_R2, List.length_cons]
    omega
theorem szD_V2 (xs : QV) : szD (V2 xs) = 1 + 3 * xs.length := by
  simp only [V2, szD, szAll_V2]
section
variable {P : D → MS → Prop} {m : MS} {ρ : Env'}
@[simp] theorem wp_add_tup {fr : Bool} {xs ys : List D} : wp (addD fr (.tup xs) (.tup ys) m) P ↔ ((xs ++ ys).length ≤ 1000000 ∧ P (.tup (xs ++ ys)) m) := by
  show wp (if short (xs ++ ys) = true then Res.ok (.tup (xs ++ ys)) m else .stuck) P ↔ _
  unfold short
  split
  · rename_i h
    exact ⟨fun q => ⟨of_decide_eq_true h, q⟩, fun q => q.2⟩
  · rename_i h
    exact ⟨fun q => q.elim, fun q => (h (decide_eq_true q.1)).elim⟩
@[simp] theorem wp_sl {fr : Bool} {f : FE} {lo hi : Env' → M (Option Int)} : wp (dSl fr f lo hi ρ m) P ↔ wp (f ρ m) fun d m1 => wp (lo ρ m1) fun l m2 => wp (hi ρ m2) fun u m3 => wp (slD fr d l u m3) P := by
  unfold dSl
  simp only [wp_bind]
@[simp] theorem wp_slD_tup {fr : Bool} {xs : List D} {lo hi : Option Int} : wp (slD fr (.tup xs) lo hi m) P ↔ (xs.length ≤ 1000000 ∧ P (.tup (cutD xs lo hi)) m) := by
  show wp (if short xs = true then Res.ok (.tup (cutD xs lo hi)) m else .stuck) P ↔ _
  unfold short
  split
  · rename_i h
    exact ⟨fun q => ⟨of_decide_eq_true h, q⟩, fun q => q.2⟩
  · rename_i h
    exact ⟨fun q => q.elim, fun q => (h (decide_eq_true q.1)).elim⟩
end
/-- a value that is judged -/
def Pl (d : D) : Prop := ty3 d = true ∧ ∀ xs, d = .tup xs → xs.length ≤ 1000000
open PySem PySem.Spec PyProof.Rows L2 in
theorem paired_rows {k : Nat} {ys : List D} : ∀ {xs : List D}, Paired (fun _ y => IsV k y) xs ys → ∃ rows : List QV, ys = rows.map V2 ∧ rows.length = xs.length ∧ ∀ r ∈ rows, IsV k (V2 r) := by
  intro xs h
  induction h with
  | nil => exact ⟨[], rfl, rfl, by simp⟩
  | cons h t ih =>
    obtain ⟨p, rfl, hp⟩ := id h
    obtain ⟨qs, rfl, hl, hq⟩ := ih
    exact ⟨p :: qs, rfl, by simp [hl], by
      intro q hh
      rcases List.mem_cons.mp hh with rfl | hh
      · exact h
      · exact hq q hh⟩
namespace K00
open PySem PySem.Spec PyProof.Rows L2
section
variable {m : MS}
theorem same_R2 (p : Int × Int) : F__law_same [R2 p, R2 p] m = .ok (.bl true) m := e_same (okD_R2 p 61) (by rw [szD_R2]; decide)
theorem same_V2 {xs : QV} (h : xs.length ≤ 1000) : F__law_same [V2 xs, V2 xs] m = .ok (.bl true) m := e_same (okD_V2 xs 60) (by rw [szD_V2]; omega)
/-- [1 for part in value if not ratio] == [] -/
theorem due_vec {d : D} {ρ : Env'} {P : D → MS → Prop} {i j : Nat} (hd : Pl d) (hi : look (wipeD ρ [j]) i = some d ∧ look ρ i = some d) (hj : ∀ x : D, look ((wipeD ρ [j]).set j (some x)) j = some x) (h : P (.bl (isVec d)) m) :
    wp (dAnd (dCallB (arg2 (isiX subs)) (aCons (dVar i) (aCons (dC (.ty .tuple)) aNil))) (dAnd (dChain (leI) (leI) (dC (.int 1)) (dCallB (arg1 lenD) (aCons (dVar i) aNil)) (dC (.int 200))) (dBin (eqD false) (dLc false [j] (iSeq (dVar i)) (gN j) (bNot (toB (dCall (lenF 1 F__law_is_ratio) (aCons (dVar j) aNil)))) (dC (.int 1))) (dLst false aNil))) ρ m) P := by
  obtain ⟨h3, hl⟩ := hd
  simp [hi.2, tyN_1 (ty3_1 h3), isT_tuple]
  cases d with
  | tup xs =>
    have hall : ∀ x ∈ xs, ty2 x = true := List.all_eq_true.mp h3
    have hlen := hl xs rfl
    simp [hi.2]
    by_cases h0 : 1 ≤ xs.length
    · have h0' : (1 : Int) ≤ xs.length := by omega
      simp [h0']
      by_cases h2 : xs.length ≤ 200
      · have h2' : (xs.length : Int) ≤ 200 := by omega
        simp [h2', hi.2]
        refine wp_lcW_filter (fun x => !isRat x) (fun _ => .int 1) ok_nil' (fun x hx => ?_) ?_
        · simp [hj, e_lis_ratio (m := m) (hall x hx)]
        · have okn : ∀ (zs : List D), (∀ z ∈ zs, z = .int 1) → okD 64 (flatR m (.lst zs)) = true := fun zs hz => by
            show okAll 63 zs = true
            refine okAll_all.mpr fun z hz' => ?_
            rw [hz z hz']
            rfl
          refine ⟨by rw [List.length_map]; exact Nat.le_trans (List.length_filter_le _ _) hlen, ?_⟩
          rw [wp_eq_gen (okn _ (fun z hz => by obtain ⟨_, _, e⟩ := List.mem_map.mp hz; exact e.symm)) rfl]
          have e : eqvD (flatR m (.lst (List.map (fun _ => D.int 1) (List.filter (fun x => !isRat x) xs)))) (flatR m (.lst [])) = isVec (.tup xs) := by
            simp only [flatR, eqvD, isVec, h0, h2, decide_true, Bool.true_and]
            cases hf : List.filter (fun x => !isRat x) xs with
            | nil =>
              have : xs.all isRat = true := by
                refine List.all_eq_true.mpr fun x hx => ?_
                have := List.filter_eq_nil_iff.mp hf x hx
                simpa using this
              rw [this]
              rfl
            | cons y r =>
              have hy : y ∈ List.filter (fun x => !isRat x) xs := by rw [hf]; simp
              have h1 := List.mem_filter.mp hy
              have : xs.all isRat = false := by
                refine Bool.eq_false_iff.mpr fun q => ?_
                have := List.all_eq_true.mp q y h1.1
                simp [this] at h1
              rw [this]
              rfl
          rw [e]
          exact h
      · have h2' : ¬ (xs.length : Int) ≤ 200 := by omega
        have e : isVec (.tup xs) = false := by simp [isVec, h2]
        rw [e] at h
        simp [h2', h]
    · have h0' : ¬ (1 : Int) ≤ xs.length := by omega
      have e : isVec (.tup xs) = false := by simp [isVec, h0]
      rw [e] at h
      simp [h0', h]
  | _ => simpa [isVec] using h
/-- one judged value in `_law_sums_right` -/
theorem e_vecK {d : D} (hd : Pl d) : F_is_vector [d] m = .ok (.bl (isVec d)) m := e_is_vector hd.1 hd.2
theorem min8 {n : Nat} : (if (8 : Int) < (n : Int) then (8 : Int) else n) = ((min n 8 : Nat) : Int) := by
  rw [Nat.min_def]
  split <;> split <;> omega
theorem pow6 : powOk 10 6 = true := by decide
theorem pow14 : powOk 10 14 = true := by decide
theorem pow15 : powOk 10 15 = true := by decide
theorem pow18 : powOk 10 18 = true := by decide
theorem sp_vec {n k many : Nat} {size : Int} (h : DrB k m) (l : n + 9 * many ≤ k) (hm : many ≤ 1000) (h1 : 1 ≤ size) (h2 : size ≤ 1000000) : wp (F__law_vector [.drw, .int many, .int size] m) fun v m' => IsV many v ∧ m'.objs = m.objs ∧ DrB n m' := sp_vector (h.mono l) hm h1 h2
theorem sp_sums {n : Nat} (h : DrB (n + 4200) m) : wp (F__law_sums_right [.drw] m) fun v m' => v = .bl true ∧ m'.objs = m.objs ∧ DrB n m' := by
  simp [F__law_sums_right, u__law_sums_right, startD, look]
  refine wp_mono (sp_pick (n := n + 4199) h (by simp)) fun v1 m1 ⟨hv1, o1, b1⟩ => ?_
  obtain ⟨many, rfl, k1, k2⟩ : ∃ many : Nat, v1 = .int many ∧ 1 ≤ many ∧ many ≤ 200 := by
    simp at hv1
    rcases hv1 with h | h | h | h | h
    · exact ⟨1, h, by decide, by decide⟩
    · exact ⟨2, h, by decide, by decide⟩
    · exact ⟨3, h, by decide, by decide⟩
    · exact ⟨8, h, by decide, by decide⟩
    · exact ⟨200, h, by decide, by decide⟩
  simp [look, pow6]
  have hh := sp_vec (n := n + 2399) (many := many) (size := 1000000) b1 (by omega) (by omega) (by omega) (by omega)
  refine wp_mono hh fun v2 m2 hx => ?_
  obtain ⟨hv2, o2, b2⟩ := hx
  refine wp_mono (sp_vec (n := n + 599) (many := many) (size := 1000000) b2 (by omega) (by omega) (by omega) (by omega)) fun v3 m3 ⟨hv3, o3, b3⟩ => ?_
  obtain ⟨xs, rfl, lx, gx⟩ := id hv2
  obtain ⟨ys, rfl, ly, gy⟩ := id hv3
  have e1 := e_inner_ok (m := m3) hv2 hv3 k1 k2
  have e2 := f_ldot (a := 21) (b := 21) (xs := xs) (ys := ys) (m := m3) (fun x hx => (gx x hx).1) (fun x hx => (gy x hx).1) (by omega) (by rw [lx]; omega)
  have e3 := e_inner_ok (m := m3) hv3 hv2 k1 k2
  rw [qdot_comm] at e3
  have pv : permV [1, 0] [V2 xs, V2 ys] = [V2 ys, V2 xs] := rfl
  simp [e1, e2, same_R2, pv, e3]
  refine wp_mono (sp_draw (n := n + 598) b3 (by decide)) fun v4 m4 ⟨⟨i4, e4, i0, i1⟩, o4, b4⟩ => ?_
  subst e4
  obtain ⟨r, rfl⟩ := Int.eq_ofNat_of_zero_le i0
  simp
  refine ⟨by omega, ?_⟩
  have er : (1 + (r : Int)).toNat = r + 1 := by omega
  rw [er, min8]
  have hmin : 1 ≤ min many 8 ∧ min many 8 ≤ 8 := by omega
  have m8 := min8 (n := many)
  generalize min many 8 = w8 at *
  refine wp_lcW_each (fun k m' => m'.objs = m4.objs ∧ DrB (n + 60 + 72 * k) m') (fun _ y => IsV w8 y) (fun k m' _ => ok_nil') ?_ ⟨rfl, by rw [rng_length]; exact b4.mono (by omega)⟩ ?_
  · rintro x hx k m' ⟨ho, hb⟩
    simp [look, wipeD, m8]
    refine wp_mono (sp_vec (n := n + 60 + 72 * k) (many := w8) (size := 99) hb (by omega) (by omega) (by omega) (by omega)) fun v m6 ⟨hv, o6, b6⟩ => ⟨hv, by rw [o6, ho], b6⟩
  · rintro zs m5 hp ⟨o5, b5⟩
    obtain ⟨rows, rfl, lr, hr⟩ := paired_rows hp
    rw [rng_length] at lr
    have l1 : (rows.map V2).length = r + 1 := by simp [lr]
    rw [l1]
    refine ⟨by omega, ?_⟩
    refine wp_mono (sp_vec (n := n) (many := r + 1) (size := 99) b5 (by omega) (by omega) (by omega) (by omega)) fun v6 m6 ⟨hv6, o6, b6⟩ => ?_
    obtain ⟨ws, rfl, lw, gw⟩ := id hv6
    have f1 := f_lmixed (a := 21) (b := 21) (n := w8) (ws := ws) (rows := rows) (m := m6) (fun x hx => (gw x hx).1) (fun q hq => ⟨(hr q hq).get.1, fun x hx => ((hr q hq).get.2 x hx).1⟩) (by omega) (by omega) (by omega) (by rw [lw]; omega)
    have f2 := e_comb_ok (m := m6) (k := r + 1) (n := w8) (ws := ws) (rows := rows) (t := false) hv6 lr (by omega) (by omega) hmin.1 (by omega) hr
    have f3 := e_comb_ok (m := m6) (k := r + 1) (n := w8) (ws := ws) (rows := rows) (t := true) hv6 lr (by omega) (by omega) hmin.1 (by omega) hr
    have f4 := same_V2 (m := m6) (xs := mixV (ws.zip rows) w8) (by simp [mixV]; omega)
    simp only [sqD, if_true, Bool.false_eq_true, if_false] at f2 f3
    have pw : permV [1, 0] [.tup (rows.map V2), V2 ws] = [V2 ws, .tup (rows.map V2)] := rfl
    simp [m8, f1, f2, f3, f4, pw]
    refine ⟨by omega, ?_⟩
    have plx : Pl (V2 xs) := ⟨hv2.ty3, hv2.short (by omega)⟩
    have hV : V2 xs = .tup (xs.map R2) := rfl
    have hall2 : ∀ x ∈ xs.map R2, ty2 x = true := List.all_eq_true.mp hv2.ty3
    rw [hV]
    obtain ⟨Z, hZ, lZ, mZ⟩ : ∃ Z, (List.replicate (201 : Int).toNat (xs.map R2)).flatten = Z ∧ Z.length ≤ 1000000 ∧ ∀ x ∈ Z, ty2 x = true := by
      refine ⟨_, rfl, ?_, ?_⟩
      · rw [List.length_flatten]
        simp only [List.map_replicate, List.sum_replicate_nat, List.length_map, lx]
        show 201 * many ≤ 1000000
        omega
      · intro x hx
        obtain ⟨l, hl, hx⟩ := List.mem_flatten.mp hx
        have := (List.mem_replicate.mp hl).2
        subst this
        exact hall2 x hx
    have lR : (xs.map R2).length = many := by rw [List.length_map, lx]
    simp only [wp_list_tup, wp_newLf, wp_add_tup, wp_mul_tup, wp_sl, wp_var, look, wp_slD_tup, hZ, lR, List.length_append, List.length_cons, List.length_nil]
    refine ⟨by omega, by omega, by omega, by omega, ?_⟩
    show many ≤ 1000000 ∧ _
    refine ⟨by omega, ?_⟩
    have ty12 : ∀ x ∈ xs.map R2, ty1 x = true := fun x hx => ty2_1 (hall2 x hx)
    refine wp_mono (wp_forW (PF' := fun fl m' => (∃ ρ, fl = .next ρ) ∧ m' = m6) (fun ds ρ m' => m' = m6 ∧ (∀ x ∈ ds, Pl x) ∧ ∃ a b, ρ = [some D.drw, some (D.int ↑many), some (D.tup (List.map R2 xs)), some (V2 ys), some (D.lst (List.map V2 rows)), some (V2 ws), a, b, none, none]) ?_ ?_ _ _ _ ⟨rfl, ?_, _, _, rfl⟩) ?_
    · rintro d ds ρ m' ⟨rfl, hp, a, b, rfl⟩
      refine ⟨ok_nil', ?_⟩
      have hd := hp d (by simp)
      have pk : permV [0] [d] = [d] := rfl
      simp only [wp_gN, wp_seq, wp_sAsg]
      refine due_vec hd ⟨rfl, rfl⟩ (fun x => rfl) ?_
      simp [look, e_vecK hd, e_is_truth, pk]
      exact fun x hx => hp x (by simp [hx])
    · rintro ρ m' ⟨rfl, -, a, b, rfl⟩
      exact ⟨ok_nil', ⟨_, rfl⟩, rfl⟩
    · intro x hx
      simp only [List.mem_cons, List.not_mem_nil, or_false] at hx
      have tt : ∀ (zs : List D), (∀ z ∈ zs, ty2 z = true) → zs.length ≤ 1000000 → Pl (.tup zs) := fun zs h1 h2 => ⟨List.all_eq_true.mpr h1, fun ys e => by cases e; exact h2⟩
      rcases hx with rfl | rfl | rfl | rfl | rfl | rfl | rfl | rfl | rfl
      · exact plx
      · exact ⟨rfl, fun _ e => by cases e⟩
      · refine tt _ (fun z hz => ?_) (by simp [lx]; omega)
        rcases List.mem_append.mp hz with h | h
        · exact hall2 z h
        · simp at h; subst h; rfl
      · refine tt _ (fun z hz => ?_) (by simp [lx]; omega)
        rcases List.mem_append.mp hz with h | h
        · exact hall2 z h
        · simp at h; subst h; rfl
      · exact tt _ mZ lZ
      · exact tt _ (fun z hz => by cases hz) (by simp)
      · refine tt _ (fun z hz => ?_) (by simp)
        simp at hz
        subst hz
        exact List.all_eq_true.mpr ty12
      · exact ⟨rfl, fun _ e => by cases e⟩
      · refine tt _ (fun z hz => hall2 z (List.mem_of_mem_drop (List.mem_of_mem_take hz))) ?_
        unfold cutD
        rw [List.length_take, List.length_drop]
        omega
    · rintro fl m' ⟨⟨ρ, rfl⟩, rfl⟩
      exact ⟨by rw [o6, o5, o4, o3, o2, o1], b6⟩
end
end K00
end TL
end
section
namespace TL
open L2 (atI ixN)
section
open PySem PySem.Spec PyProof.Rows L2
variable {P : D → MS → Prop} {m : MS} {ρ : Env'}
theorem caught_of {teach : Str → Bool} {bs : List FE} {fa : FE} {i : Nat} {b : FE} (hf : fa ρ m = .ok (.clo i) m) (hb : bs[i]? = some b) (h : wr (b ρ m) fun c fs m' => teach c = true ∧ P (.exn c fs) m') : wp (dCaught teach bs fa ρ m) P := by
  rw [wp_dCaught]
  refine wp_eq hf ?_
  dsimp only
  rw [hb]
  dsimp only
  cases e : b ρ m with
  | raise c fs m' =>
    rw [e] at h
    rw [wp_caughtR h.1]
    exact h.2
  | _ => rw [e] at h; exact h.elim
theorem caughtE {teach : Str → Bool} {bs : List FE} {fa : FE} {i : Nat} {b : FE} {c : Str} {fs : List (Str × D)} (hf : fa ρ m = .ok (.clo i) m) (hb : bs[i]? = some b) (h : wr (b ρ m) fun c' fs' m' => c' = c ∧ fs' = fs ∧ m' = m) (ht : teach c = true) : dCaught teach bs fa ρ m = .ok (.exn c fs) m :=
  eq_of_wp (caught_of hf hb (by
    rw [eq_of_wr h]
    exact ⟨ht, rfl, rfl⟩))
@[simp] theorem wp_oNone {PO : Option Int → MS → Prop} : wp (oNone ρ m) PO ↔ PO none m := Iff.rfl
@[simp] theorem wp_oSome {f : FE} {PO : Option Int → MS → Prop} : wp (oSome f ρ m) PO ↔ wp (f ρ m) fun d m' => wp (asI d m') PO := by
  unfold oSome
  rw [wp_bind]
@[simp] theorem wp_asI {i : Int} {PO : Option Int → MS → Prop} : wp (asI (.int i) m) PO ↔ PO (some i) m := Iff.rfl
@[simp] theorem wp_slD_lst {fr : Bool} {xs : List D} {lo hi : Option Int} : wp (slD fr (.lst xs) lo hi m) P ↔ xs.length ≤ 1000000 ∧ wp (newL fr (cutD xs lo hi) m) P := by
  show wp ((if short xs then newL fr (cutD xs lo hi) m else .stuck)) P ↔ _
  unfold short
  by_cases h : xs.length ≤ 1000000
  · rw [decide_eq_true h, if_pos rfl]
    exact ⟨fun z => ⟨h, z⟩, fun z => z.2⟩
  · rw [decide_eq_false h]
    exact ⟨fun z => z.elim, fun z => (h z.1).elim⟩
@[simp] theorem wp_add_lst {fr : Bool} {xs ys : List D} : wp (addD fr (.lst xs) (.lst ys) m) P ↔ wp (newL fr (xs ++ ys) m) P := Iff.rfl
@[simp] theorem wp_in_2int {neg : Bool} {i a b : Int} : wp (inD neg (.int i) (.lst [.int a, .int b]) m) P ↔ P (.bl (if neg then !(decide (a = i) || decide (b = i)) else (decide (a = i) || decide (b = i)))) m := by
  show wp (if okD 63 (.int i) && okAll 63 [.int a, .int b] then Res.ok (D.bl (if neg then !([D.int a, .int b].any fun z => eqvD z (.int i)) else [D.int a, .int b].any fun z => eqvD z (.int i))) m else .stuck) P ↔ _
  rw [show (okD 63 (.int i) && okAll 63 [.int a, .int b]) = true from rfl, if_pos rfl]
  have e : ([D.int a, .int b].any fun z => eqvD z (.int i)) = (decide (a = i) || decide (b = i)) := by
    show ((a == i) || ((b == i) || false)) = _
    rw [Bool.or_false]
    rfl
  rw [e]
  exact Iff.rfl
/-- a statement, then the rest -/
theorem wp_seqN {u v : FS} {PF' : Fl → MS → Prop} (J : Env' → MS → Prop) (h : wp (u ρ m) fun fl m' => ∃ ρ', fl = .next ρ' ∧ J ρ' m') (k : ∀ ρ' m', J ρ' m' → wp (v ρ' m') PF') : wp (sSeq u v ρ m) PF' := by
  rw [wp_seq]
  refine wp_mono h fun fl m' ⟨ρ', e, j⟩ => ?_
  subst e
  exact k ρ' m' j
theorem bodyN_of {u : FS} {n : Nat} {ds : List D} {b : Bool} (hm : m.objs = []) (h : wp (bodyF u n ds m) fun v m1 => v = .bl b ∧ m1.objs = [] ∧ P v m1) : wp (bodyN u n ds m) P := by
  obtain ⟨v, m1, e, rfl, eo, q⟩ := wp_elim h
  unfold bodyN
  rw [e]
  have hn : ncRes (.ok (.bl b) m1) = .ok (.bl b) m1 := by
    unfold ncRes
    have : ncMS m1 = true := by unfold ncMS; rw [eo]; rfl
    simp [this, nc]
  rw [hn]
  unfold trunc
  have ok : okOld m m1 := .inl (by rw [eo, hm]; rfl)
  have f : frz m.objs.length m1.objs 8 (.bl b) = some (.bl b) := by
    unfold frz
    rw [if_pos (show ltD m.objs.length (.bl b) = true from rfl)]
  simp only [ok, if_true, f]
  rw [wp_ok]
  rw [show ({ objs := List.take m.objs.length m1.objs, dr := m1.dr } : MS) = m1 by cases m1; simp_all]
  exact q
end
theorem IsV.pl {n : Nat} {v : D} (h : IsV n v) (hn : n ≤ 200) : Pl v := ⟨h.ty3, h.short (by omega)⟩
namespace K00
open PySem PySem.Spec PyProof.Rows L2
theorem isv_mk {qs : QV} (h : ∀ q ∈ qs, Good q) : IsV qs.length (V2 qs) := ⟨qs, rfl, rfl, h⟩
def BadR (d : D) : Prop := ty0 d = true ∨ ∃ t xs, d = sqD t xs ∧ xs.length ≠ 3
theorem good1 : Good (1, 1) := ⟨⟨by decide, by decide, by decide⟩, by decide⟩
/-- what a call of inner(..), combined(..), ratio(..) in a lambda raises -/
theorem wr_call2 {F : List D → M D} {f g : FE} {ρ : Env'} {m : MS} {a b : D} {c : Str} {fs : List (Str × D)} (hf : f ρ m = .ok a m) (hg : g ρ m = .ok b m) (h : F [a, b] m = .raise c fs m) : wr (dCall (lenF 2 F) (aCons f (aCons g aNil)) ρ m) fun c' fs' m' => c' = c ∧ fs' = fs ∧ m' = m := by
  refine wr_call ?_
  simp [hf, hg]
  exact wr_lenF rfl (by rw [h]; exact ⟨rfl, rfl, rfl⟩)
theorem sp_refused {n : Nat} {m : MS} (h : DrB (n + 40) m) (hm : m.objs = []) : wp (F__law_refused [.drw] m) fun v m' => v = .bl true ∧ m'.objs = [] ∧ DrB n m' := by
  unfold F__law_refused
  refine bodyN_of (b := true) hm ?_
  unfold u__law_refused
  rw [wp_bodyF']
  -- one, bad
  refine wp_seqN (fun ρ m2 => ∃ v1 bad, ρ = [some .drw, some v1, some bad, none, none, none, none, none, none, none] ∧ IsV 3 v1 ∧ (Pl bad ∧ isVec bad = false) ∧ m2.objs = [] ∧ DrB (n + 12) m2) ?_ ?_
  · simp [startD, look]
    refine wp_mono (sp_vec (n := n + 13) (many := 3) (size := 9) h (by omega) (by omega) (by omega) (by omega)) fun v1 m1 ⟨hv1, o1, b1⟩ => ?_
    refine wp_mono (sp_pick (n := n + 12) b1 (by simp)) fun bad m2 ⟨hbad, o2, b2⟩ => ?_

    refine ⟨v1, bad, by simp, hv1, ?_, by rw [o2, o1, hm], b2⟩
    simp only [List.mem_cons, List.not_mem_nil, or_false] at hbad
    rcases hbad with rfl | rfl | rfl | rfl | rfl | rfl
    · exact ⟨⟨rfl, fun _ e => by cases e⟩, rfl⟩
    · exact ⟨⟨rfl, fun _ e => by cases e; decide⟩, rfl⟩
    · exact ⟨⟨rfl, fun _ e => by cases e⟩, rfl⟩
    · exact ⟨⟨rfl, fun _ e => by cases e; simp⟩, by decide⟩
    · exact ⟨⟨rfl, fun _ e => by cases e⟩, rfl⟩
    · exact ⟨⟨rfl, fun _ e => by cases e; simp⟩, by decide⟩
  rintro _ m2 ⟨v1, bad, rfl, hv1, hbad, o2, b2⟩
  have v1v := hv1.vec (by decide) (by decide)
  have v1p := hv1.pl (by decide)
  -- the vectors
  refine wp_seqN (fun ρ m' => m' = m2 ∧ ∃ x, ρ = [some .drw, some v1, some bad, x, none, none, none, none, none, none]) ?_ ?_
  · simp
    refine wp_forW (fun ds ρ m' => (m' = m2 ∧ ∃ x, ρ = [some .drw, some v1, some bad, x, none, none, none, none, none, none]) ∧ ∀ d ∈ ds, d = .clo 7 ∨ d = .clo 6 ∨ d = .clo 5) ?_ ?_ _ _ _ ⟨⟨rfl, _, rfl⟩, by simp⟩
    · rintro d ds ρ m' ⟨⟨rfl, x, rfl⟩, hd⟩
      refine ⟨ok_nil', ?_⟩
      have c : dCaught teach bs__law_refused (dVar 3) [some .drw, some v1, some bad, some d, none, none, none, none, none, none] m' = .ok (.exn "BadVector" []) m' := by
        rcases hd d (by simp) with rfl | rfl | rfl
        · exact caughtE rfl rfl (wr_call2 rfl rfl (e_inner_bad1 hbad.1.1 hbad.1.2 hbad.2)) rfl
        · exact caughtE rfl rfl (wr_call2 rfl rfl (e_inner_bad2 v1p.1 v1p.2 v1v hbad.1.1 hbad.1.2 hbad.2)) rfl
        · exact caughtE rfl rfl (wr_call2 rfl rfl (e_comb_vec hbad.1.1 hbad.1.2 hbad.2)) rfl
      simp [look, c, subs]
      exact fun d hd' => hd d (by simp [hd'])
    · rintro ρ m' ⟨h, -⟩
      exact ⟨ok_nil', _, rfl, h⟩
  rintro _ m' ⟨em, x3, rfl⟩
  subst m'
  obtain ⟨qs, rfl, lq, gq⟩ := id hv1
  obtain ⟨p1, p2, p3, rfl⟩ : ∃ p1 p2 p3, qs = [p1, p2, p3] := by
    match qs, lq with
    | [a, b, c], _ => exact ⟨a, b, c, rfl⟩
  have g1 : Good p1 := gq _ (by simp)
  have g2 : Good p2 := gq _ (by simp)
  have g3 : Good p3 := gq _ (by simp)
  have hv2 : IsV 2 (V2 [p1, p2]) := isv_mk (by simp [g1, g2])
  have hv4 : IsV 4 (V2 [p1, p2, p3, (1, 1)]) := isv_mk (by simp [g1, g2, g3, good1])
  have ty1R : ∀ p : Int × Int, ty1 (R2 p) = true := fun _ => rfl
  -- the width
  refine wp_seqN (fun ρ m' => m' = m2 ∧ ρ = [some .drw, some (V2 [p1, p2, p3]), some bad, x3, none, none, none, none, none, none]) ?_ ?_
  · have c : dCaught teach bs__law_refused (dC (.clo 4)) [some .drw, some (V2 [p1, p2, p3]), some bad, x3, none, none, none, none, none, none] m2 = .ok (.exn "BadWidth" []) m2 := by
      refine caughtE rfl rfl (wr_call2 (b := V2 [p1, p2, p3, (1, 1)]) rfl rfl ?_) rfl
      exact e_inner_width hv1.ty3 v1v hv4.ty3 (hv4.vec (by decide) (by decide)) (by simp) (by simp) (by simp)
    simp [look, c, subs]
  rintro _ m' ⟨em, rfl⟩
  subst m'
  -- rows
  refine wp_seqN (fun ρ m' => m' = m2 ∧ ρ = [some .drw, some (V2 [p1, p2, p3]), some bad, x3, some (.lst [V2 [p1, p2, p3], V2 [p1, p2, p3], V2 [p1, p2, p3]]), none, none, none, none, none]) (by simp [look]) ?_
  rintro _ m' ⟨em, rfl⟩
  subst m'
  -- at
  refine wp_seqN (fun ρ m' => m'.objs = [] ∧ DrB (n + 11) m' ∧ ∃ at_ : Int, (at_ = 0 ∨ at_ = 1 ∨ at_ = 2) ∧ ρ = [some .drw, some (V2 [p1, p2, p3]), some bad, x3, some (.lst [V2 [p1, p2, p3], V2 [p1, p2, p3], V2 [p1, p2, p3]]), some (.int at_), none, none, none, none]) ?_ ?_
  · simp [look]
    refine wp_mono (sp_draw (n := n + 11) b2 (by decide)) fun v m' ⟨⟨i, e, i0, i1⟩, o, b⟩ => ?_
    subst e
    refine ⟨by rw [o, o2], b, ?_⟩
    have : i = 0 ∨ i = 1 ∨ i = 2 := by omega
    rcases this with rfl | rfl | rfl <;> simp
  rintro _ m3 ⟨o3, b3, at_, hat, rfl⟩
  have vt : V2 [p1, p2, p3] = .tup [R2 p1, R2 p2, R2 p3] := rfl
  -- the rows' wrong one
  refine wp_seqN (fun ρ m' => m' = m3 ∧ ∃ a b c d, ρ = [some .drw, some (V2 [p1, p2, p3]), some bad, x3, some (.lst [V2 [p1, p2, p3], V2 [p1, p2, p3], V2 [p1, p2, p3]]), some (.int at_), a, b, c, d]) ?_ ?_
  · rw [wp_sFor]
    refine wp_mono (P := fun it m' => m' = m3 ∧ it = ⟨[.non, .lst [R2 p1, R2 p2, R2 p3], .tup [R2 p1, R2 p2], .tup [R2 p1, R2 p2, R2 p3, R2 (1, 1)], .tup []], []⟩) ?_ ?_
    · rw [vt]
      simp [look, cutD]
      have s1 : HT.sIx 3 3 (some 2) = 2 := by decide
      have s2 : HT.sIx 3 0 none = 0 := rfl
      simp [s1, s2]
      rfl
    rintro _ m' ⟨em, rfl⟩
    subst m'
    refine wp_forW (fun ds ρ m' => (m' = m3 ∧ ∃ a b c d, ρ = [some .drw, some (V2 [p1, p2, p3]), some bad, x3, some (.lst [V2 [p1, p2, p3], V2 [p1, p2, p3], V2 [p1, p2, p3]]), some (.int at_), a, b, c, d]) ∧ ∀ d ∈ ds, d = .non ∨ d = .lst [R2 p1, R2 p2, R2 p3] ∨ d = .tup [R2 p1, R2 p2] ∨ d = .tup [R2 p1, R2 p2, R2 p3, R2 (1, 1)] ∨ d = .tup []) ?_ ?_ _ _ _ ⟨⟨rfl, _, _, _, _, rfl⟩, by simp⟩
    · rintro d ds ρ m' ⟨⟨em, x6, x7, x8, x9, rfl⟩, hd⟩
      subst m'
      refine ⟨ok_nil', ?_⟩
      have ho : ∀ d ∈ ds, d = .non ∨ d = .lst [R2 p1, R2 p2, R2 p3] ∨ d = .tup [R2 p1, R2 p2] ∨ d = .tup [R2 p1, R2 p2, R2 p3, R2 (1, 1)] ∨ d = .tup [] := fun x hx => hd x (List.mem_cons_of_mem _ hx)
      have key : ∀ (wr_ due : D), F_combined [V2 [p1, p2, p3], wr_] m3 = .raise "BadRows" [("index", due)] m3 → dCaught teach bs__law_refused (dC (.clo 3)) [some .drw, some (V2 [p1, p2, p3]), some bad, x3, some (.lst [V2 [p1, p2, p3], V2 [p1, p2, p3], V2 [p1, p2, p3]]), some (.int at_), some d, some wr_, x8, x9] m3 = .ok (.exn "BadRows" [("index", due)]) m3 := fun wr_ due h => caughtE rfl rfl (wr_call2 rfl rfl h) rfl
      have nov : ∀ d' : D, Pl d' → (isVec d' = false ∨ ∃ zs, d' = .tup zs ∧ zs.length ≠ 3) → F_combined [V2 [p1, p2, p3], .lst [V2 [p1, p2, p3], d', V2 [p1, p2, p3]]] m3 = .raise "BadRows" [("index", .int 1)] m3 ∧ F_combined [V2 [p1, p2, p3], .lst [V2 [p1, p2, p3], V2 [p1, p2, p3], d']] m3 = .raise "BadRows" [("index", .int 2)] m3 := fun d' hp hb =>
        ⟨e_comb_rows (n := 3) (t := false) (pre := [V2 [p1, p2, p3]]) (post := [V2 [p1, p2, p3]]) hv1 rfl (by decide) (by decide) (by decide) (fun x hx => by rw [List.mem_singleton.mp hx]; exact hv1) hp.1 hp.2 (hb.imp id fun z => ⟨by simp, z⟩),
        e_comb_rows (n := 3) (t := false) (pre := [V2 [p1, p2, p3], V2 [p1, p2, p3]]) (post := []) hv1 rfl (by decide) (by decide) (by decide) (fun x hx => by simp at hx; rw [hx]; exact hv1) hp.1 hp.2 (hb.imp id fun z => ⟨by simp, z⟩)⟩
      have no0 : ∀ d' : D, Pl d' → isVec d' = false → F_combined [V2 [p1, p2, p3], .lst [d', V2 [p1, p2, p3], V2 [p1, p2, p3]]] m3 = .raise "BadRows" [("index", .int 0)] m3 := fun d' hp hb =>
        e_comb_rows (n := 3) (t := false) (pre := []) (post := [V2 [p1, p2, p3], V2 [p1, p2, p3]]) hv1 rfl (by decide) (by decide) (by decide) (fun x hx => by cases hx) hp.1 hp.2 (.inl hb)
      have no1 : ∀ (k : Nat) (d' : D), IsV k d' → 1 ≤ k → k ≤ 200 → k ≠ 3 → F_combined [V2 [p1, p2, p3], .lst [d', V2 [p1, p2, p3], V2 [p1, p2, p3]]] m3 = .raise "BadRows" [("index", .int 1)] m3 := fun k d' hk h1 h2 h3 =>
        e_comb_rows (n := k) (t := false) (pre := [d']) (post := [V2 [p1, p2, p3]]) hv1 rfl (by decide) h1 h2 (fun x hx => by rw [List.mem_singleton.mp hx]; exact hk) v1p.1 v1p.2 (.inr ⟨by simp, _, vt, fun z => h3 (by simpa using z.symm)⟩)
      have p0 : Pl .non := ⟨rfl, fun _ e => by cases e⟩
      have pL : Pl (.lst [R2 p1, R2 p2, R2 p3]) := ⟨rfl, fun _ e => by cases e⟩
      have pE : Pl (.tup []) := ⟨rfl, fun _ e => by cases e; decide⟩
      have p2' : Pl (.tup [R2 p1, R2 p2]) := hv2.pl (by decide)
      have p4 : Pl (.tup [R2 p1, R2 p2, R2 p3, R2 (1, 1)]) := hv4.pl (by decide)
      have ix : HT.sIx 3 3 (some 0) = 0 ∧ HT.sIx 3 3 (some 1) = 1 ∧ HT.sIx 3 3 (some 2) = 2 ∧ HT.sIx 3 0 (some 1) = 1 ∧ HT.sIx 3 0 (some 2) = 2 ∧ HT.sIx 3 0 (some 3) = 3 ∧ HT.sIx 3 0 none = 0 ∧ HT.sIx 3 3 none = 3 := by decide
      obtain ⟨i0, i1, i2, i3, i4, i5, i6, i7⟩ := ix
      rcases hat with rfl | rfl | rfl
      · rcases hd d (by simp) with rfl | rfl | rfl | rfl | rfl
        · have c := key _ _ (no0 _ p0 rfl)
          simp [look, cutD, i0, i1, i2, i3, i4, i5, i6, i7, c, subs, fok, tyN, isT]
          exact ho
        · have c := key _ _ (no0 _ pL rfl)
          simp [look, cutD, i0, i1, i2, i3, i4, i5, i6, i7, c, subs, fok, tyN, isT]
          exact ho
        · have c := key _ _ (no1 2 (.tup [R2 p1, R2 p2]) hv2 (by decide) (by decide) (by decide))
          simp [look, cutD, i0, i1, i2, i3, i4, i5, i6, i7, c, subs, fok, tyN, isT]
          exact ho
        · have c := key _ _ (no1 4 (.tup [R2 p1, R2 p2, R2 p3, R2 (1, 1)]) hv4 (by decide) (by decide) (by decide))
          simp [look, cutD, i0, i1, i2, i3, i4, i5, i6, i7, c, subs, fok, tyN, isT]
          exact ho
        · have c := key _ _ (no0 _ pE rfl)
          simp [look, cutD, i0, i1, i2, i3, i4, i5, i6, i7, c, subs, fok, tyN, isT]
          exact ho
      · rcases hd d (by simp) with rfl | rfl | rfl | rfl | rfl
        · have c := key _ _ (nov _ p0 (.inl rfl)).1
          simp [look, cutD, i0, i1, i2, i3, i4, i5, i6, i7, c, subs, fok, tyN, isT]
          exact ho
        · have c := key _ _ (nov _ pL (.inl rfl)).1
          simp [look, cutD, i0, i1, i2, i3, i4, i5, i6, i7, c, subs, fok, tyN, isT]
          exact ho
        · have c := key _ _ (nov _ p2' (.inr ⟨_, rfl, by simp⟩)).1
          simp [look, cutD, i0, i1, i2, i3, i4, i5, i6, i7, c, subs, fok, tyN, isT]
          exact ho
        · have c := key _ _ (nov _ p4 (.inr ⟨_, rfl, by simp⟩)).1
          simp [look, cutD, i0, i1, i2, i3, i4, i5, i6, i7, c, subs, fok, tyN, isT]
          exact ho
        · have c := key _ _ (nov _ pE (.inl rfl)).1
          simp [look, cutD, i0, i1, i2, i3, i4, i5, i6, i7, c, subs, fok, tyN, isT]
          exact ho
      · rcases hd d (by simp) with rfl | rfl | rfl | rfl | rfl
        · have c := key _ _ (nov _ p0 (.inl rfl)).2
          simp [look, cutD, i0, i1, i2, i3, i4, i5, i6, i7, c, subs, fok, tyN, isT]
          exact ho
        · have c := key _ _ (nov _ pL (.inl rfl)).2
          simp [look, cutD, i0, i1, i2, i3, i4, i5, i6, i7, c, subs, fok, tyN, isT]
          exact ho
        · have c := key _ _ (nov _ p2' (.inr ⟨_, rfl, by simp⟩)).2
          simp [look, cutD, i0, i1, i2, i3, i4, i5, i6, i7, c, subs, fok, tyN, isT]
          exact ho
        · have c := key _ _ (nov _ p4 (.inr ⟨_, rfl, by simp⟩)).2
          simp [look, cutD, i0, i1, i2, i3, i4, i5, i6, i7, c, subs, fok, tyN, isT]
          exact ho
        · have c := key _ _ (nov _ pE (.inl rfl)).2
          simp [look, cutD, i0, i1, i2, i3, i4, i5, i6, i7, c, subs, fok, tyN, isT]
          exact ho
    · rintro ρ m' ⟨h, -⟩
      exact ⟨ok_nil', _, rfl, h⟩
  rintro _ m' ⟨em, x6, x7, x8, x9, rfl⟩
  subst m'
  -- the number of rows
  refine wp_seqN (fun ρ m' => m' = m3 ∧ ∃ a b c, ρ = [some .drw, some (V2 [p1, p2, p3]), some bad, x3, some (.lst [V2 [p1, p2, p3], V2 [p1, p2, p3], V2 [p1, p2, p3]]), some (.int at_), x6, a, b, c]) ?_ ?_
  · rw [wp_sFor]
    refine wp_mono (P := fun it m' => m' = m3 ∧ it = ⟨[.non, .lst [], .lst [V2 [p1, p2, p3], V2 [p1, p2, p3]], .dct [], .lst [V2 [p1, p2, p3], V2 [p1, p2, p3], V2 [p1, p2, p3], V2 [p1, p2, p3], V2 [p1, p2, p3], V2 [p1, p2, p3]]], []⟩) ?_ ?_
    · have s1 : HT.sIx 3 3 (some 2) = 2 := by decide
      have s2 : HT.sIx 3 0 none = 0 := rfl
      simp [look, cutD, s1, s2]
    rintro _ m' ⟨em, rfl⟩
    subst m'
    refine wp_forW (fun ds ρ m' => (m' = m3 ∧ ∃ a b c, ρ = [some .drw, some (V2 [p1, p2, p3]), some bad, x3, some (.lst [V2 [p1, p2, p3], V2 [p1, p2, p3], V2 [p1, p2, p3]]), some (.int at_), x6, a, b, c]) ∧ ∀ d ∈ ds, BadR d) ?_ ?_ _ _ _ ⟨⟨rfl, _, _, _, rfl⟩, ?_⟩
    · rintro d ds ρ m' ⟨⟨em, x7, x8, x9, rfl⟩, hd⟩
      subst m'
      refine ⟨ok_nil', ?_⟩
      have c : dCaught teach bs__law_refused (dC (.clo 2)) [some .drw, some (V2 [p1, p2, p3]), some bad, x3, some (.lst [V2 [p1, p2, p3], V2 [p1, p2, p3], V2 [p1, p2, p3]]), some (.int at_), x6, some d, x8, x9] m3 = .ok (.exn "BadRows" [("index", .non)]) m3 := caughtE rfl rfl (wr_call2 rfl rfl (e_comb_none hv1 (by decide) (by decide) (hd d (by simp)))) rfl
      simp [look, c, subs, fok]
      exact fun x hx => hd x (List.mem_cons_of_mem _ hx)
    · rintro ρ m' ⟨h, -⟩
      exact ⟨ok_nil', _, rfl, h⟩
    · intro x hx
      simp only [List.mem_cons, List.not_mem_nil, or_false] at hx
      rcases hx with rfl | rfl | rfl | rfl | rfl
      · exact .inl rfl
      · exact .inr ⟨false, [], rfl, by simp⟩
      · exact .inr ⟨false, _, rfl, by simp⟩
      · exact .inl rfl
      · exact .inr ⟨false, _, rfl, by simp⟩
  rintro _ m' ⟨em, x7, x8, x9, rfl⟩
  subst m'
  -- the numbers
  refine wp_seqN (fun ρ m' => m'.objs = [] ∧ DrB (n + 10) m' ∧ ρ = [some .drw, some (V2 [p1, p2, p3]), some bad, x3, some (.lst [V2 [p1, p2, p3], V2 [p1, p2, p3], V2 [p1, p2, p3]]), some (.int at_), x6, x7, some (.exn "BadNumber" [("part", .str "n")]), x9]) ?_ ?_
  · rw [wp_sAsg]
    refine caught_of (P := fun d m1 => wp (gN 8 d _ m1) _) rfl rfl ?_
    refine wr_call ?_
    simp [look]
    refine wp_mono (sp_pick (n := n + 10) b3 (by simp)) fun v m4 ⟨hv, o4, b4⟩ => ?_
    have hv' : ty1 v = true ∧ isW v = false := by
      simp only [List.mem_cons, List.not_mem_nil, or_false] at hv
      rcases hv with rfl | rfl | rfl | rfl <;> exact ⟨rfl, rfl⟩
    refine wr_lenF rfl ?_
    rw [e_ratio_n hv'.1 hv'.2]
    simp [teach, o4, o3, b4]
  rintro _ m4 ⟨o4, b4, rfl⟩
  refine wp_seqN (fun ρ m' => m' = m4 ∧ ρ = [some .drw, some (V2 [p1, p2, p3]), some bad, x3, some (.lst [V2 [p1, p2, p3], V2 [p1, p2, p3], V2 [p1, p2, p3]]), some (.int at_), x6, x7, some (.exn "BadNumber" [("part", .str "n")]), x9]) ?_ ?_
  · have es := fun (P : D → MS → Prop) => wp_eq_str (P := P) (m := m4) (neg := true) (x := "n") (y := "n") (by simp [okD]; decide +kernel) (by simp [okD]; decide +kernel)
    simp [look, subs, fok, es]
  rintro _ m' ⟨em, rfl⟩
  subst m'
  refine wp_seqN (fun ρ m' => m'.objs = [] ∧ DrB n m' ∧ ρ = [some .drw, some (V2 [p1, p2, p3]), some bad, x3, some (.lst [V2 [p1, p2, p3], V2 [p1, p2, p3], V2 [p1, p2, p3]]), some (.int at_), x6, x7, some (.exn "BadNumber" [("part", .str "d")]), x9]) ?_ ?_
  · rw [wp_sAsg]
    refine caught_of (P := fun d m1 => wp (gN 8 d _ m1) _) rfl rfl ?_
    refine wr_call ?_
    simp [look]
    refine wp_mono (sp_pick (n := n + 9) b4 (by simp)) fun v m5 ⟨hv, o5, b5⟩ => ?_
    have hv' : ty1 v = true ∧ (isW v = false ∨ v = .int 0) := by
      simp only [List.mem_cons, List.not_mem_nil, or_false] at hv
      rcases hv with rfl | rfl | rfl
      · exact ⟨rfl, .inr rfl⟩
      · exact ⟨rfl, .inl rfl⟩
      · exact ⟨rfl, .inl rfl⟩
    refine wr_lenF rfl ?_
    rw [e_ratio_d hv'.1 hv'.2]
    simp [teach, o5, o4]
    exact b5.mono (by omega)
  rintro _ m5 ⟨o5, b5, rfl⟩
  have es := fun (P : D → MS → Prop) => wp_eq_str (P := P) (m := m5) (neg := false) (x := "d") (y := "d") (by simp [okD]; decide +kernel) (by simp [okD]; decide +kernel)
  simp [look, subs, fok, o5, b5, es]
end K00
end TL
end
section
namespace TL
open L2 (atI ixN)
open L2 PySem PySem.Spec PyProof.Rows
theorem up1 : ∀ c : Nat, 97 ≤ c → c ≤ 122 → Unicode.upperOf c = [c - 32] := by
  have h : ∀ k : Fin 26, Unicode.upperOf (97 + k.val) = [97 + k.val - 32] := by decide +kernel
  intro c h1 h2
  have := h ⟨c - 97, by omega⟩
  rw [show 97 + (c - 97) = c by omega] at this
  exact this
theorem up_cps {x : Str} (h : ∀ c ∈ x.cps.toList, 97 ≤ c ∧ c ≤ 122) : (Txt.upper x).cps = x.cps.map (· - 32) := by
  show (x.cps.mapIdx fun i c => (Unicode.upperOf c).toArray).flatten = _
  obtain ⟨⟨l⟩⟩ := x
  have e : (Array.mk l).mapIdx (fun i c => (Unicode.upperOf c).toArray) = (Array.mk l).map (fun c => #[c - 32]) := by
    refine Array.ext (by simp) fun i h1 h2 => ?_
    simp only [Array.getElem_mapIdx, Array.getElem_map]
    have hc := h (l[i]'(by simpa using h2)) (by simp)
    rw [show (Array.mk l)[i]'(by simpa using h2) = l[i]'(by simpa using h2) from rfl, up1 _ hc.1 hc.2]
  show ((Array.mk l).mapIdx _).flatten = _
  rw [e]
  clear e h
  have : ((Array.mk l).map (fun c => #[c - 32])).flatten.toList = ((Array.mk l).map (· - 32)).toList := by
    simp
    induction l with
    | nil => rfl
    | cons a l ih => simp [ih]
  exact Array.toList_inj.mp this
theorem glue_cps {Q : Nat → Prop} : ∀ (ps : List Str), (∀ p ∈ ps, ∀ c ∈ p.cps.toList, Q c) → ∀ c ∈ (Txt.join ("" : Str) ps).cps.toList, Q c := by
  have fold : ∀ (ps : List Str) (acc : Array Nat), (∀ c ∈ acc.toList, Q c) → (∀ p ∈ ps, ∀ c ∈ p.cps.toList, Q c) → ∀ c ∈ (ps.foldl (fun acc p => acc ++ ("" : Str).cps ++ p.cps) acc).toList, Q c := by
    intro ps
    induction ps with
    | nil => exact fun acc h _ => h
    | cons p ps ih =>
      intro acc h hp
      refine ih _ (fun c hc => ?_) fun q hq => hp q (List.mem_cons_of_mem _ hq)
      rw [Array.toList_append, Array.toList_append] at hc
      rcases List.mem_append.mp hc with hc | hc
      · rcases List.mem_append.mp hc with hc | hc
        · exact h c hc
        · cases hc
      · exact hp p (List.mem_cons_self) c hc
  intro ps hp
  show ∀ c ∈ ((ps.drop 1).foldl (fun acc p => acc ++ ("" : Str).cps ++ p.cps) (ps.headD Str.empty).cps).toList, Q c
  refine fold _ _ ?_ fun p h => hp p (List.mem_of_mem_drop h)
  cases ps with
  | nil => intro c hc; cases hc
  | cons p ps => exact hp p List.mem_cons_self
/-- the alphabet -/
def abc : PySem.Str := "abcdefghijklmnopqrstuvwxyz"
def isWd : D → Bool
  | .str s => decide (1 ≤ s.length) && (decide (s.length ≤ 8) && s.cps.toList.all fun c => occ abc ⟨#[c]⟩)
  | _ => false
def tyW : D → Bool
  | .str s => decide (s.length ≤ 1000000) && PyData.canLay0 (.str s)
  | .tup _ | .non => true
  | _ => false
namespace K00
open PySem PySem.Spec PyProof.Rows L2
section
variable {m : MS}
@[simp] theorem wp_in_str {neg : Bool} {x y : Str} {P : D → MS → Prop} : wp (inD neg (.str x) (.str y) m) P ↔ P (.bl (if neg then !occ y x else occ y x)) m := Iff.rfl
theorem sp_near {n : Nat} (h : DrB (n + 3) m) : wp (F__law_near [.drw] m) fun v m' => ty2 v = true ∧ m'.objs = m.objs ∧ DrB n m' := by
  simp [F__law_near, u__law_near, startD, look, pow14]
  refine wp_mono (sp_draw (n := n + 2) h (by decide)) fun v1 m1 ⟨⟨i, e1, i0, i1⟩, o1, b1⟩ => ?_
  subst e1
  refine wp_mono (sp_draw (n := n + 1) b1 (by decide)) fun v2 m2 ⟨⟨d, e2, d0, d1⟩, o2, b2⟩ => ?_
  subst e2
  have hd : 1 + d ≠ 0 := by omega
  simp [look, e_q hd]
  refine ⟨mulOk_r (by decide), mulOk_r (by decide), ?_⟩
  have hl : i.natAbs.log2 < 1920 := by
    by_cases hz : i.natAbs = 0
    · rw [hz]; decide
    · have h1 : i.natAbs < 2 ^ 64 := by omega
      have h2 := (Nat.log2_lt hz).mpr h1
      omega
  rw [show strI (.int i) m2 = .ok (.str (toString i : String)) m2 from if_pos hl, wp_ok]
  refine wp_mono (sp_pick (n := n) b2 (by simp)) fun v m3 ⟨hv, o3, b3⟩ => ⟨?_, by rw [o3, o2, o1], b3⟩
  simp only [List.mem_cons, List.not_mem_nil, or_false] at hv
  rcases hv with rfl | rfl | rfl | rfl | rfl | rfl | rfl | rfl | rfl | rfl | rfl | rfl | rfl | rfl | rfl <;> rfl
theorem e_is_word {d : D} (h : tyW d = true) : F_is_word [d] m = .ok (.bl (isWd d)) m := by
  refine eq_of_wp ?_
  simp [F_is_word, u_is_word, startD, look]
  cases d with
  | str s =>
    have hl : s.length ≤ 1000000 := of_decide_eq_true (Bool.and_eq_true_iff.mp h).1
    simp [tyN, isT, look, hl]
    by_cases h0 : 1 ≤ s.length
    · have h0' : (1 : Int) ≤ s.length := by omega
      simp [h0']
      by_cases h2 : s.length ≤ 8
      · have h2' : (s.length : Int) ≤ 8 := by omega
        simp [h2']
        have hz : s.cps.toList.length ≤ 1000000 := hl
        refine wp_lcW_map (fun x => match x with | .str y => .bl (occ abc y) | _ => .non) ok_nil' (fun x hx => ?_) ?_
        · obtain ⟨c, _, rfl⟩ := List.mem_map.mp hx
          simp [look, wipeD, abc]
        · rw [List.map_map]
          have e : allB (s.cps.toList.map ((fun x : D => match x with | .str y => D.bl (occ abc y) | _ => .non) ∘ fun c => D.str ⟨#[c]⟩)) = some (s.cps.toList.map fun c => occ abc ⟨#[c]⟩) := by
            generalize s.cps.toList = l
            induction l with
            | nil => rfl
            | cons c l ih =>
              simp only [List.map_cons, Function.comp]
              unfold allB
              rw [ih]
              rfl
          rw [e]
          refine ⟨by simpa using hz, ?_, rfl⟩
          simp [isWd, h0, h2]
      · have h2' : ¬ (s.length : Int) ≤ 8 := by omega
        simp [h2', isWd, h2]
    · have h0' : ¬ (1 : Int) ≤ s.length := by omega
      simp [h0', isWd, h0]
  | tup xs => simp [tyN, isT, isWd]
  | non => simp [tyN, isT, isWd]
  | _ => cases h
theorem allS_map : ∀ ys : List Str, allS (ys.map D.str) = some ys
  | [] => rfl
  | y :: ys => by
    rw [List.map_cons]
    unfold allS
    rw [allS_map ys]
    rfl
theorem sum_len1 : ∀ ys : List Str, (∀ y ∈ ys, y.length = 1) → (ys.map (·.length)).sum = ys.length := by
  intro ys h1
  induction ys with
  | nil => rfl
  | cons y ys ih =>
    rw [List.map_cons, List.sum_cons, h1 y (by simp), ih fun z hz => h1 z (by simp [hz]), List.length_cons]
    omega
theorem join_ok {ys : List Str} (h : ys.length ≤ 1000) (h1 : ∀ y ∈ ys, y.length = 1) : joinD (.str "") [.lst (ys.map D.str)] m = .ok (.str (Txt.join "" ys)) m := by
  unfold joinD
  dsimp only
  rw [show (lstD m (.lst (ys.map D.str))).bind allS = some ys from allS_map ys]
  dsimp only
  rw [if_pos]
  rw [sum_len1 ys h1]
  show ys.length + ys.length * 0 ≤ 1000000
  omega
theorem sorted1 {w : Str} : sortedD (.lst [.str w]) m = .ok (.lst [.str w]) m := by
  unfold sortedD
  rw [show (lstD m (.lst [.str w])).bind allS = some [w] from rfl]
  dsimp only
  have hz : [w].length < 64 ∧ ∃ ys, srtS [w] ys := ⟨by simp, [w], fun zs hp _ => List.perm_singleton.mp hp⟩
  rw [dif_pos hz]
  have e := Classical.choose_spec hz.2 [w] (.refl _) rfl
  rw [← e]
  rfl
theorem wp_in_nil {neg : Bool} {a : D} {P : D → MS → Prop} (h : okD 63 a = true) : wp (inD neg a (.lst []) m) P ↔ P (.bl neg) m := by
  have e : inD neg a (.lst []) m = .ok (.bl neg) m := by
    unfold inD
    cases a <;> simp [flatR, okAll, h] <;> (cases neg <;> rfl)
  rw [e]
  exact Iff.rfl
/-- letters -/
def LowW (w : Str) : Prop := w.length ≤ 8 ∧ ∀ c ∈ w.cps.toList, 97 ≤ c ∧ c ≤ 122
theorem abc_in : ∀ c ∈ abc.cps.toList, 97 ≤ c ∧ c ≤ 122 := by decide +kernel
theorem can_of {x : Str} (h : ∀ c ∈ x.cps.toList, c < 1114112) : PyData.canLay0 (.str x) = true := by
  show x.cps.all (· < 0x110000) = true
  rw [← Array.all_toList, List.all_eq_true]
  exact fun c hc => by simpa using h c hc
theorem okD_str {x : Str} {k : Nat} (h : PyData.canLay0 (.str x) = true) : okD k (.str x) = true := by
  cases k <;> simpa [okD] using h
theorem LowW.can {w : Str} (h : LowW w) : PyData.canLay0 (.str w) = true := can_of fun c hc => by have := h.2 c hc; omega
theorem paired_letters {ys : List D} : ∀ {xs : List D}, Paired (fun _ y => ∃ c : Nat, y = .str ⟨#[c]⟩ ∧ 97 ≤ c ∧ c ≤ 122) xs ys → ∃ ws : List Str, ys = ws.map D.str ∧ ws.length = xs.length ∧ ∀ w ∈ ws, w.length = 1 ∧ ∀ c ∈ w.cps.toList, 97 ≤ c ∧ c ≤ 122 := by
  intro xs h
  induction h with
  | nil => exact ⟨[], rfl, rfl, by simp⟩
  | cons h t ih =>
    obtain ⟨c, rfl, h1, h2⟩ := h
    obtain ⟨ws, rfl, hl, hq⟩ := ih
    refine ⟨⟨#[c]⟩ :: ws, rfl, by simp [hl], fun w hw => ?_⟩
    rcases List.mem_cons.mp hw with rfl | hw
    · exact ⟨rfl, fun c' hc' => by
        have : c' = c := by simpa using hc'
        omega⟩
    · exact hq w hw
theorem sp_words {n : Nat} (h : DrB (n + 9) m) : wp (F__law_words [.drw, .int 1] m) fun v m' => (∃ w : Str, v = .lst [.str w] ∧ LowW w) ∧ m'.objs = m.objs ∧ DrB n m' := by
  unfold F__law_words u__law_words
  rw [wp_bodyF']
  refine wp_seqN (fun ρ m' => m' = m ∧ ρ = [some .drw, some (.int 1), some (.lst []), none, none]) (by simp [look, startD]) ?_
  rintro _ m' ⟨em, rfl⟩
  subst m'
  refine wp_seqN (fun ρ m' => ∃ w x3 x4, ρ = [some .drw, some (.int 1), some (.lst [.str w]), x3, x4] ∧ LowW w ∧ m'.objs = m.objs ∧ DrB n m') ?_ ?_
  · refine wp_while (fun k ρ m' => (k = 1 ∧ ρ = [some .drw, some (.int 1), some (.lst []), none, none] ∧ m' = m) ∨ (k = 0 ∧ ∃ w x3 x4, ρ = [some .drw, some (.int 1), some (.lst [.str w]), x3, x4] ∧ LowW w ∧ m'.objs = m.objs ∧ DrB n m')) (n := 1) ?_ (.inl ⟨rfl, rfl, rfl⟩)
    rintro k ρ m' (⟨rfl, rfl, em⟩ | ⟨rfl, w, x3, x4, rfl, hw, o, b⟩)
    · subst m'
      simp [look]
      refine wp_mono (sp_draw (n := n + 8) h (by decide)) fun v m1 ⟨⟨i, e, i0, i1⟩, o1, b1⟩ => ?_
      subst e
      simp
      refine ⟨by omega, ?_⟩
      have hr : (1 + i).toNat ≤ 8 := by omega
      generalize (1 + i).toNat = r at *
      refine wp_lcW_each (fun k m' => m'.objs = m.objs ∧ DrB (n + k) m') (fun _ y => ∃ c : Nat, y = .str ⟨#[c]⟩ ∧ 97 ≤ c ∧ c ≤ 122) (fun k m' _ => ok_nil') ?_ ⟨o1, by rw [rng_length]; exact b1.mono (by omega)⟩ ?_
      · rintro x hx k m' ⟨ho, hb⟩
        have ha : abc.cps.toList.map (fun c => D.str ⟨#[c]⟩) ≠ [] := by
          intro z
          have := congrArg List.length z
          rw [List.length_map] at this
          exact absurd this (by decide +kernel)
        simp [look, wipeD]
        refine ⟨?_, ?_⟩
        · exact (by decide +kernel : abc.cps.size ≤ 1000000)
        refine wp_mono (sp_pick (n := n + k) hb ha) fun v m6 ⟨hv, o6, b6⟩ => ⟨?_, by rw [o6, ho], b6⟩
        obtain ⟨c, hc, rfl⟩ := List.mem_map.mp hv
        exact ⟨c, rfl, abc_in c hc⟩
      · rintro zs m5 hp ⟨o5, b5⟩
        obtain ⟨ws, rfl, hl, hw⟩ := paired_letters hp
        rw [rng_length] at hl
        have hlow : LowW (Txt.join "" ws) := by
          refine ⟨?_, glue_cps ws fun p hp => (hw p hp).2⟩
          show (Builtin.Str.glued "" ws).length ≤ 8
          rw [PySem.size_glued, sum_len1 ws fun w hw' => (hw w hw').1]
          show ws.length + (ws.length - 1) * 0 ≤ 8
          omega
        refine ⟨by rw [List.length_map]; omega, ?_⟩
        rw [join_ok (by omega) fun y hy => (hw y hy).1, wp_ok, wp_in_nil (okD_str hlow.can)]
        simp
        exact ⟨hlow, o5, b5⟩
    · simp [look]
      exact ⟨hw, o, b⟩
  · rintro _ m' ⟨w, x3, x4, rfl, hw, o, b⟩
    simp [look, sorted1]
    exact ⟨hw, o, b⟩
end
end K00
end TL
end
section
namespace TL
open L2 (atI ixN)
open PySem PySem.Spec PyProof.Rows L2
def isI : D → Bool
  | .int _ => true
  | _ => false
theorem allI_some : ∀ gs : List D, (∀ x ∈ gs, isI x = true) → ∃ g, allI gs = some g
  | [], _ => ⟨[], rfl⟩
  | x :: gs, h => by
    obtain ⟨g, e⟩ := allI_some gs fun z hz => h z (List.mem_cons_of_mem _ hz)
    have hx := h x List.mem_cons_self
    cases x with
    | int i => exact ⟨i :: g, by unfold allI; rw [e]; rfl⟩
    | _ => cases hx
theorem wp_begun {f1 f2 : FE} {i : Nat} {ρ : Env'} {P : Fl → MS → Prop} (hi : i < ρ.length)
    (h : wp (f1 ρ ⟨[], none⟩) fun d m1 => d = .ref 0 ∧ ∃ gs, m1 = ⟨[.lst gs], none⟩ ∧ (∀ x ∈ gs, isI x = true) ∧ wp (f2 (ρ.set i (some (.ref 0))) m1) fun d2 m2 => ∃ cs, d2 = .lst cs ∧ m2 = m1 ∧ (∀ x ∈ cs, isI x = true) ∧ ∀ g c, P (.ret .drw) ⟨[], some ⟨g, c, 0, 0⟩⟩) :
    wp (sBegun f1 f2 i ρ ⟨[], none⟩) P := by
  unfold sBegun
  rw [if_pos ⟨rfl, rfl, hi⟩]
  obtain ⟨d, m1, e1, rfl, gs, rfl, hg, h2⟩ := wp_elim h
  rw [e1]
  obtain ⟨d2, m2, e2, cs, rfl, rfl, hc, h3⟩ := wp_elim h2
  show wp (match f2 (ρ.set i (some (.ref 0))) ⟨[.lst gs], none⟩ with | .ok (.lst cs) m2 => _ | _ => _) P
  rw [e2]
  obtain ⟨g, eg⟩ := allI_some gs hg
  obtain ⟨c, ec⟩ := allI_some cs hc
  dsimp only
  rw [eg, ec, if_pos ⟨rfl, rfl⟩]
  exact h3 g c
section
variable {m : MS} {P : D → MS → Prop}
theorem wp_add_str {fr : Bool} {x y : Str} : wp (addD fr (.str x) (.str y) m) P ↔ x.length + y.length ≤ 1000000 ∧ P (.str (x ++ y)) m := by
  show wp (if x.length + y.length ≤ 1000000 then Res.ok (.str (x ++ y)) m else .stuck) P ↔ _
  split
  · rename_i h; exact ⟨fun q => ⟨h, q⟩, fun q => q.2⟩
  · rename_i h; exact ⟨fun q => q.elim, fun q => (h q.1).elim⟩
theorem wp_mul_str {fr : Bool} {z : Str} {k : Int} : wp (mulD fr (.str z) (.int k) m) P ↔ (z.length ≤ 1000 ∧ -1000 ≤ k ∧ k ≤ 1000) ∧ P (.str ⟨((List.replicate k.toNat z.cps.toList).flatten).toArray⟩) m := by
  show wp (if z.length ≤ 1000 ∧ -1000 ≤ k ∧ k ≤ 1000 then Res.ok (.str ⟨((List.replicate k.toNat z.cps.toList).flatten).toArray⟩) m else .stuck) P ↔ _
  split
  · rename_i h; exact ⟨fun q => ⟨h, q⟩, fun q => q.2⟩
  · rename_i h; exact ⟨fun q => q.elim, fun q => (h q.1).elim⟩
theorem wp_slD_str {fr : Bool} {z : Str} {lo hi : Option Int} : wp (slD fr (.str z) lo hi m) P ↔ z.length ≤ 1000000 ∧ P (.str (cutS z lo hi)) m := by
  show wp (if z.length ≤ 1000000 then Res.ok (.str (cutS z lo hi)) m else .stuck) P ↔ _
  split
  · rename_i h; exact ⟨fun q => ⟨h, q⟩, fun q => q.2⟩
  · rename_i h; exact ⟨fun q => q.elim, fun q => (h q.1).elim⟩
theorem wp_upper {z : Str} : wp (upperD (.str z) [] m) P ↔ z.length ≤ 1000000 ∧ P (.str (Txt.upper z)) m := by
  show wp (if z.length ≤ 1000000 then Res.ok (.str (Txt.upper z)) m else .stuck) P ↔ _
  split
  · rename_i h; exact ⟨fun q => ⟨h, q⟩, fun q => q.2⟩
  · rename_i h; exact ⟨fun q => q.elim, fun q => (h q.1).elim⟩
end
theorem tyW_str {x : Str} (h1 : x.length ≤ 1000000) (h2 : ∀ c ∈ x.cps.toList, c < 1114112) : tyW (.str x) = true := by
  show (decide (x.length ≤ 1000000) && PyData.canLay0 (.str x)) = true
  rw [decide_eq_true h1, K00.can_of h2]
  rfl
namespace K00
theorem words_judged {w : Str} {m : MS} {P : D → D → D → D → MS → Prop} (hw : LowW w) (h : ∀ a b c d, tyW a = true → tyW b = true → tyW c = true → tyW d = true → P a b c d m) : wp (addD false (D.str w) (D.str (Str.ofString "A")) m) fun d m1 =>
    wp (mulD false (D.str w) (D.int 9) m1) fun d_1 m1 =>
      wp (slD false (D.str w) none (some 1) m1) fun a m1 =>
        wp (addD false a (D.str (Str.ofString " ")) m1) fun d_2 m1 =>
          wp (upperD (D.str w) [] m1) fun d_3 m1 => P d d_1 d_2 d_3 m1 := by
  obtain ⟨hl, hc⟩ := hw
  have lt : ∀ c ∈ w.cps.toList, c < 1114112 := fun c h => by have := hc c h; omega
  have happ : ∀ x y : Str, x.length ≤ 1000 → y.length ≤ 1000 → (∀ c ∈ x.cps.toList, c < 1114112) → (∀ c ∈ y.cps.toList, c < 1114112) → tyW (.str (x ++ y)) = true := fun x y h1 h2 h3 h4 => by
    refine tyW_str ?_ fun c hc => ?_
    · have : (x ++ y).length = x.length + y.length := Array.size_append
      omega
    · have : (x ++ y).cps.toList = x.cps.toList ++ y.cps.toList := Array.toList_append
      rw [this] at hc
      rcases List.mem_append.mp hc with h | h
      · exact h3 c h
      · exact h4 c h
  have lA : (Str.ofString "A").length = 1 := by decide +kernel
  have lS : (Str.ofString " ").length = 1 := by decide +kernel
  have cA : ∀ c ∈ (Str.ofString "A").cps.toList, c < 1114112 := by decide +kernel
  have cS : ∀ c ∈ (Str.ofString " ").cps.toList, c < 1114112 := by decide +kernel
  have lcut : (cutS w none (some 1)).length ≤ 8 ∧ ∀ c ∈ (cutS w none (some 1)).cps.toList, c < 1114112 := by
    have e : (cutS w none (some 1)).cps.toList = (w.cps.toList.drop (HT.sIx w.length 0 none)).take (HT.sIx w.length w.length (some 1) - HT.sIx w.length 0 none) := rfl
    refine ⟨?_, fun c h => ?_⟩
    · show (cutS w none (some 1)).cps.size ≤ 8
      rw [← Array.length_toList, e, List.length_take, List.length_drop]
      have : w.cps.toList.length = w.length := rfl
      omega
    · rw [e] at h
      exact lt c (List.mem_of_mem_drop (List.mem_of_mem_take h))
  rw [wp_add_str]
  refine ⟨by omega, ?_⟩
  rw [wp_mul_str]
  refine ⟨⟨by omega, by decide, by decide⟩, ?_⟩
  rw [wp_slD_str]
  refine ⟨by omega, ?_⟩
  rw [wp_add_str]
  refine ⟨by omega, ?_⟩
  rw [wp_upper]
  refine ⟨by omega, h _ _ _ _ (happ _ _ (by omega) (by omega) lt cA) ?_ (happ _ _ (by omega) (by omega) lcut.2 cS) ?_⟩
  · refine tyW_str ?_ fun c hc' => ?_
    · show ((List.replicate (9 : Int).toNat w.cps.toList).flatten).toArray.size ≤ 1000000
      rw [List.size_toArray, PyProof.Rows.lm_len_rep_flat]
      show 9 * w.length ≤ 1000000
      omega
    · have hc2 : c ∈ (List.replicate (9 : Int).toNat w.cps.toList).flatten := by simpa using hc'
      obtain ⟨l, h1, h2⟩ := List.mem_flatten.mp hc2
      rw [(List.mem_replicate.mp h1).2] at h2
      exact lt c h2
  · have e := up_cps hc
    refine tyW_str ?_ fun c hc' => ?_
    · show (Txt.upper w).cps.size ≤ 1000000
      rw [e, Array.size_map]
      show w.length ≤ 1000000
      omega
    · rw [e, Array.toList_map] at hc'
      obtain ⟨c', h1, rfl⟩ := List.mem_map.mp hc'
      have := lt c' h1
      omega
end K00
namespace K00
/-- the script -/
def IsScr (ns : List Int) (s : D) : Prop := s = .scr ns ∨ s = .lst (ns.map D.int)
theorem sp_begun {ns : List Int} {s : D} (hs : IsScr ns s) (hl : ns.length ≤ 63) : wp (F__law_begun [s] ⟨[], none⟩) fun v m' => v = .drw ∧ m'.objs = [] ∧ DrB (2 ^ 40) m' := by
  unfold F__law_begun u__law_begun
  rw [wp_bodyF']
  have hseq : ∀ m : MS, seqD m s = some (ns.map D.int) ∧ gsD m s = [] := fun m => by
    rcases hs with rfl | rfl <;> exact ⟨rfl, rfl⟩
  refine wp_begun (by simp [startD]) ?_
  have key : ∀ d : D, wp (lcW (ItD.mk (List.map D.int ns) []).Ok (gN 2) (toB (dBin geI (dCallB (arg1 absD) (aCons (dVar 2) aNil)) (dBin powD (dC (D.int 10)) (dC (D.int 18)))))
      (dBin subD (dCallB (arg1 absD) (aCons (dVar 2) aNil)) (dBin powD (dC (D.int 10)) (dC (D.int 18)))) (wipeD [some d, none, none] [2]) (List.map D.int ns) ⟨[], none⟩) fun zs m2 => (zs.length ≤ 63 ∧ ∀ x ∈ zs, isI x = true) ∧ m2 = ⟨[], none⟩ := fun d => by
    refine wp_lcW_filter (fun x => match x with | .int i => decide (1000000000000000000 ≤ (if i < 0 then -i else i)) | _ => false) (fun x => match x with | .int i => .int ((if i < 0 then -i else i) - 1000000000000000000) | x => x) ok_nil' (fun x hx => ?_) ⟨⟨?_, fun x hx => ?_⟩, rfl⟩
    · obtain ⟨i, _, rfl⟩ := List.mem_map.mp hx
      simp [look, wipeD, pow18]
    · rw [List.length_map]
      refine Nat.le_trans (List.length_filter_le _ _) ?_
      rw [List.length_map]
      exact hl
    · obtain ⟨y, hy, rfl⟩ := List.mem_map.mp hx
      obtain ⟨i, _, rfl⟩ := List.mem_map.mp (List.mem_filter.mp hy).1
      rfl
  have key2 : ∀ (d : D) (m : MS), wp (lcW (ItD.mk (List.map D.int ns) []).Ok (gN 2) bYes (dCallB (arg1 absD) (aCons (dVar 2) aNil)) (wipeD [some d, some (D.ref 0), none] [2]) (List.map D.int ns) m) fun zs m2 => (zs.length ≤ 63 ∧ ∀ x ∈ zs, isI x = true) ∧ m2 = m := fun d m => by
    refine wp_lcW_map (fun x => match x with | .int i => .int (if i < 0 then -i else i) | x => x) ok_nil' (fun x hx => ?_) ⟨⟨?_, fun x hx => ?_⟩, rfl⟩
    · obtain ⟨i, _, rfl⟩ := List.mem_map.mp hx
      simp [look, wipeD]
    · rw [List.length_map, List.length_map]
      exact hl
    · obtain ⟨y, hy, rfl⟩ := List.mem_map.mp hx
      obtain ⟨i, _, rfl⟩ := List.mem_map.mp hy
      rfl
  have fin : ∀ d : D, wp (lcW (ItD.mk (List.map D.int ns) []).Ok (gN 2) (toB (dBin geI (dCallB (arg1 absD) (aCons (dVar 2) aNil)) (dBin powD (dC (D.int 10)) (dC (D.int 18)))))
      (dBin subD (dCallB (arg1 absD) (aCons (dVar 2) aNil)) (dBin powD (dC (D.int 10)) (dC (D.int 18)))) (wipeD [some d, none, none] [2]) (List.map D.int ns) ⟨[], none⟩) fun zs m2 => zs.length ≤ 1000000 ∧ m2.objs = [] ∧ ∃ gs, (m2.objs ++ [MO.lst zs] = [MO.lst gs] ∧ m2.dr = none) ∧ (∀ (x : D), x ∈ gs → isI x = true) ∧
        wp (lcW (ItD.mk (List.map D.int ns) []).Ok (gN 2) bYes (dCallB (arg1 absD) (aCons (dVar 2) aNil)) (wipeD [some d, some (D.ref 0), none] [2]) (List.map D.int ns) { objs := m2.objs ++ [MO.lst zs], dr := m2.dr })
          fun zs_1 m2_1 => zs_1.length ≤ 1000000 ∧ m2_1 = { objs := m2.objs ++ [MO.lst zs], dr := m2.dr } ∧ (∀ (x : D), x ∈ zs_1 → isI x = true) ∧ ∀ (g c : List Int), DrB 1099511627776 { objs := [], dr := some { great := g, cells := c, rest := 0, turn := 0 } } := fun d =>
    wp_mono (key d) fun zs m2 ⟨⟨h1, h2⟩, h3⟩ => by
      subst h3
      refine ⟨by omega, rfl, zs, ⟨rfl, rfl⟩, h2, wp_mono (key2 d _) fun z2 m3 ⟨⟨h4, h5⟩, h6⟩ => ⟨by omega, h6, h5, fun g c => ⟨_, rfl, Int.le_refl 0, Int.le_refl _⟩⟩⟩
  rcases hs with rfl | rfl
  · simp [startD, look]
    exact fin _
  · simp [startD, look]
    exact fin _
/-- (str) and len in [1, 8] and [letter for letter in value if letter not in abc] == [] -/
theorem due_word {d : D} {m : MS} {ρ : Env'} {P : D → MS → Prop} {i j : Nat} (hd : tyW d = true) (hi : look (wipeD ρ [j]) i = some d ∧ look ρ i = some d) (hj : ∀ x : D, look ((wipeD ρ [j]).set j (some x)) j = some x) (h : P (.bl (isWd d)) m) :
    wp (dAnd (dCallB (arg2 (isiX subs)) (aCons (dVar i) (aCons (dC (.ty .str)) aNil))) (dAnd (dChain (leI) (leI) (dC (.int 1)) (dCallB (arg1 lenD) (aCons (dVar i) aNil)) (dC (.int 8))) (dBin (eqD false) (dLc false [j] (iSeq (dVar i)) (gN j) (toB (dBin (inD true) (dVar j) (dC (.str "abcdefghijklmnopqrstuvwxyz")))) (dVar j)) (dLst false aNil))) ρ m) P := by
  cases d with
  | str s =>
    obtain ⟨hl, hc⟩ := Bool.and_eq_true_iff.mp hd
    have hl : s.length ≤ 1000000 := of_decide_eq_true hl
    have hz : s.cps.toList.length ≤ 1000000 := hl
    simp [hi.2, tyN, isT, hl]
    by_cases h0 : 1 ≤ s.length
    · have h0' : (1 : Int) ≤ s.length := by omega
      simp [h0']
      by_cases h2 : s.length ≤ 8
      · have h2' : (s.length : Int) ≤ 8 := by omega
        simp [h2', hi.2]
        refine wp_lcW_filter (fun x => match x with | .str y => !occ abc y | _ => false) (fun x => x) ok_nil' (fun x hx => ?_) ?_
        · obtain ⟨c, _, rfl⟩ := List.mem_map.mp hx
          simp [hj, abc]
        · rw [List.map_id']
          have hok : okD 64 (flatR m (.lst (List.filter (fun x : D => match x with | .str y => !occ abc y | _ => false) (List.map (fun c => D.str ⟨#[c]⟩) s.cps.toList)))) = true := by
            show okAll 63 _ = true
            refine okAll_all.mpr fun z hz' => ?_
            obtain ⟨c, hcm, rfl⟩ := List.mem_map.mp (List.mem_filter.mp hz').1
            refine okD_str (can_of fun c' hc' => ?_)
            have e : c' = c := by simpa using hc'
            subst e
            have hc2 : s.cps.all (· < 0x110000) = true := hc
            rw [← Array.all_toList, List.all_eq_true] at hc2
            simpa using hc2 c' hcm
          refine ⟨Nat.le_trans (List.length_filter_le _ _) (by rw [List.length_map]; exact hz), ?_⟩
          rw [wp_eq_gen hok rfl]
          have e : eqvD (flatR m (.lst (List.filter (fun x : D => match x with | .str y => !occ abc y | _ => false) (List.map (fun c => D.str ⟨#[c]⟩) s.cps.toList)))) (flatR m (.lst [])) = isWd (.str s) := by
            simp only [flatR, eqvD, isWd, h0, h2, decide_true, Bool.true_and]
            generalize s.cps.toList = l
            induction l with
            | nil => rfl
            | cons c l ih =>
              rw [List.map_cons, List.all_cons]
              by_cases ho : occ abc ⟨#[c]⟩ = true
              · rw [List.filter_cons_of_neg (by simp [ho]), ih, ho, Bool.true_and]
              · have ho' : occ abc ⟨#[c]⟩ = false := by simpa using ho
                rw [List.filter_cons_of_pos (by simp [ho']), ho', Bool.false_and]
                rfl
          rw [e]
          exact h
      · have h2' : ¬ (s.length : Int) ≤ 8 := by omega
        have e : isWd (.str s) = false := by simp [isWd, h2]
        rw [e] at h
        simp [h2', h]
    · have h0' : ¬ (1 : Int) ≤ s.length := by omega
      have e : isWd (.str s) = false := by simp [isWd, h0]
      rw [e] at h
      simp [h0', h]
  | tup xs => simpa [hi.2, tyN, isT, isWd] using h
  | non => simpa [hi.2, tyN, isT, isWd] using h
  | _ => cases hd
/-- the slots of law -/
def LR (s : D) (ρ : Env') : Prop := ∃ a b c d e f g h, ρ = [some s, some .drw, a, b, c, d, e, f, g, h]
/-- near values judged -/
theorem law_near {s : D} {n : Nat} {m : MS} {ρ : Env'} (hm : m.objs = []) (hb : DrB (n + 18) m) (hρ : LR s ρ) :
    wp (sFor (iRange1 (aCons (dC (.int 6)) aNil)) (gN 3)
  (sSeq (sAsg (dCall (lenF 1 F__law_near) (aCons (dVar 1) aNil)) (gN 4))
  (sIf (bOr (bNot (toB (dCall (lenF 2 F__law_is_truth) (aCons (dCall (lenF 1 F_is_ratio) (aCons (dVar 4) aNil)) (aCons (dCall (lenF 1 F__law_is_ratio) (aCons (dVar 4) aNil)) aNil))))) (toB (dBin (eqD true) (dCall (permD [0] F_is_ratio) (aCons (dVar 4) aNil)) (dCall (lenF 1 F__law_is_ratio) (aCons (dVar 4) aNil)))))
  (sRet (dC (.bl false)))
  sNext)) ρ m) fun fl m' => ∃ ρ', fl = .next ρ' ∧ m'.objs = [] ∧ DrB n m' ∧ LR s ρ' := by
  obtain ⟨a, b, c, d, e, f, g, h, rfl⟩ := hρ
  simp
  refine wp_forW (fun ds ρ m' => m'.objs = [] ∧ DrB (n + 3 * ds.length) m' ∧ LR s ρ) ?_ ?_ _ _ _ ⟨hm, by rw [rng_length]; exact hb, _, _, _, _, _, _, _, _, rfl⟩
  · rintro x ds ρ m' ⟨hm, hb, a, b, c, d, e, f, g, h, rfl⟩
    refine ⟨ok_nil', ?_⟩
    rw [List.length_cons] at hb
    simp [look]
    refine wp_mono (sp_near (n := n + 3 * ds.length) (hb.mono (by omega))) fun v m1 ⟨hv, o1, b1⟩ => ?_
    have pk : permV [0] [v] = [v] := rfl
    simp [look, e_is_ratio (m := m1) hv, e_lis_ratio (m := m1) hv, e_is_truth, pk]
    exact ⟨by rw [o1, hm], b1, _, _, _, _, _, _, _, _, rfl⟩
  · rintro ρ m' ⟨hm, hb, hl⟩
    exact ⟨ok_nil', ρ, rfl, hm, hb, hl⟩
/-- a turn's number of draws -/
def tn : Nat := 5000
theorem k00_law (ns : List Int) (s : D) (h1 : ns.length ≤ 63) (h2 : ∀ z ∈ ns, Builtin.Int.intBits z ≤ 1048576) (h3 : s = .scr ns ∨ s = .lst (ns.map D.int)) : wp (F_law [s] ⟨[], none⟩) fun v _ => v = .bl true := by
  unfold F_law u_law
  rw [wp_bodyF']
  refine wp_seqN (fun ρ m' => m'.objs = [] ∧ DrB (2 ^ 40) m' ∧ LR s ρ) ?_ ?_
  · simp [startD, look]
    refine wp_mono (sp_begun h3 h1) fun v m' ⟨hv, ho, hb⟩ => ?_
    subst hv
    exact ⟨ho, hb, _, _, _, _, _, _, _, _, rfl⟩
  rintro ρ m0 ⟨o0, b0, hρ⟩
  refine wp_seqN (fun ρ m' => LR s ρ) ?_ ?_
  · rw [wp_sFor]
    have hlen : ∀ m : MS, wp (lenD s m) fun v m' => v = .int ns.length ∧ m' = m := fun m => by
      rcases h3 with rfl | rfl <;> simp
    refine wp_mono (P := fun it m' => m' = m0 ∧ ∃ r : Nat, r ≤ 7 ∧ it = ⟨rng 0 r, []⟩) ?_ ?_
    · obtain ⟨a, b, c, d, e, f, g, h, rfl⟩ := hρ
      simp [look]
      refine wp_mono (hlen m0) fun v m' ⟨e1, e2⟩ => ?_
      subst e1 e2
      simp
      refine ⟨by split <;> omega, (2 + if (5 : Int) < ns.length then (5 : Int) else ns.length).toNat, by split <;> omega, rfl⟩
    rintro _ m' ⟨em, r, hr, rfl⟩
    subst m'
    refine wp_forW (fun ds ρ m' => m'.objs = [] ∧ DrB (tn * ds.length) m' ∧ LR s ρ) ?_ ?_ _ _ _ ⟨o0, by rw [rng_length]; exact b0.mono (by unfold tn; omega), hρ⟩
    · rintro x ds ρ m1 ⟨o1, b1, a, b, c, d, e, f, g, h, rfl⟩
      refine ⟨ok_nil', ?_⟩
      rw [List.length_cons] at b1
      unfold tn at *
      generalize ds.length = k at *
      rw [wp_gN]
      -- near values
      refine wp_seqN (fun ρ m' => m'.objs = [] ∧ DrB (5000 * k + 4300) m' ∧ LR s ρ) (law_near (n := 5000 * k + 4300) o1 (b1.mono (by omega)) ⟨_, _, _, _, _, _, _, _, rfl⟩) ?_
      rintro _ m2 ⟨o2, b2, a, b, c, d, e, f, g, h, rfl⟩
      -- n, d
      refine wp_seqN (fun ρ m' => m'.objs = [] ∧ DrB (5000 * k + 4298) m' ∧ ∃ (i j : Int) (a b c d e f : Option D), ρ = [some s, some .drw, a, b, c, some (.int i), some (.int j), d, e, f]) ?_ ?_
      · simp [look, pow14, pow15]
        refine wp_mono (sp_draw (n := 5000 * k + 4299) b2 (by decide)) fun v1 m3 ⟨⟨i, e1, i0, i1⟩, o3, b3⟩ => ?_
        subst e1
        simp
        refine wp_mono (sp_draw (n := 5000 * k + 4298) b3 (by decide)) fun v2 m4 ⟨⟨j, e2, j0, j1⟩, o4, b4⟩ => ?_
        subst e2
        simp
        exact ⟨mulOk_r (by decide), by rw [o4, o3, o2], b4⟩
      rintro _ m3 ⟨o3, b3, i, j, a, b, c, d, e, f, rfl⟩
      -- ratio
      refine wp_seqN (fun ρ m' => m' = m3 ∧ ρ = [some s, some .drw, a, b, c, some (.int i), some (.int j), d, e, f]) ?_ ?_
      · by_cases hj : j = 0
        · simp [look, hj]
        · have pk : permV [1, 0] [D.int j, .int i] = [.int i, .int j] := rfl
          have er := e_ratio_ok (m := m3) (n := i) (d := j) hj
          have eq := e_q (m := m3) (n := i) (d := j) hj
          have es := same_R2 (m := m3) (qn i j)
          have ee : ∀ P : D → MS → Prop, wp (eqD true (R2 (qn i j)) (R2 (qn i j)) m3) P ↔ P (.bl false) m3 := fun P => by
            rw [wp_eq_gen (a := R2 (qn i j)) (b := R2 (qn i j)) (m := m3) (okD_R2 (qn i j) 63) (okD_R2 (qn i j) 63)]
            have : eqvD (flatR m3 (R2 (qn i j))) (flatR m3 (R2 (qn i j))) = true := eqv_refl (okD_R2 (qn i j) 63)
            rw [this]
            rfl
          simp [look, hj, er, eq, es, pk, ee]
      rintro _ m' ⟨em, rfl⟩
      subst m'
      -- word
      refine wp_seqN (fun ρ m' => m'.objs = [] ∧ DrB (5000 * k + 4280) m' ∧ ∃ (w : Str) (a b c d e f g : Option D), LowW w ∧ ρ = [some s, some .drw, a, b, c, d, e, some (.str w), f, g]) ?_ ?_
      · simp [look]
        refine wp_mono (sp_words (n := 5000 * k + 4280) (b3.mono (by omega))) fun v m4 ⟨⟨w, e1, hw⟩, o4, b4⟩ => ?_
        subst e1
        simp
        exact ⟨by rw [o4, o3], b4, hw⟩
      rintro _ m4 ⟨o4, b4, w, a, b, c, d, e, f, g, hw, rfl⟩
      -- words judged
      refine wp_seqN (fun ρ m' => m' = m4 ∧ LR s ρ) ?_ ?_
      · rw [wp_sFor]
        refine wp_mono (P := fun it m' => m' = m4 ∧ ∃ ds, it = ⟨ds, []⟩ ∧ ∀ d ∈ ds, tyW d = true) ?_ ?_
        · simp [look]
          have t0 : tyW (.str w) = true := tyW_str (Nat.le_trans hw.1 (by decide)) fun c h => by have := hw.2 c h; omega
          have t1 : tyW (.str (Str.ofString "")) = true := by decide +kernel
          have t2 : tyW (.tup [D.str w]) = true := rfl
          have t3 : tyW .non = true := rfl
          exact words_judged (P := fun d d1 d2 d3 m1 => m1 = m4 ∧ tyW (D.str w) = true ∧ tyW d = true ∧ tyW d1 = true ∧ tyW (D.str (Str.ofString "")) = true ∧ tyW (D.tup [D.str w]) = true ∧ tyW D.non = true ∧ tyW d2 = true ∧ tyW d3 = true) hw fun a b c d ha hb hc hd => ⟨rfl, t0, ha, hb, t1, t2, t3, hc, hd⟩
        rintro _ m' ⟨em, ds, rfl, hds⟩
        subst m'
        refine wp_forW (fun ds ρ m' => (m' = m4 ∧ LR s ρ) ∧ ∀ d ∈ ds, tyW d = true) ?_ ?_ _ _ _ ⟨⟨rfl, _, _, _, _, _, _, _, _, rfl⟩, hds⟩
        · rintro x ds ρ m' ⟨⟨em, a, b, c, d, e, f, g, h, rfl⟩, hd⟩
          subst m'
          refine ⟨ok_nil', ?_⟩
          have hx := hd x (by simp)
          simp only [wp_gN, wp_seq, wp_sAsg]
          refine due_word hx ⟨rfl, rfl⟩ (fun x => rfl) ?_
          simp [look, e_is_word hx, e_is_truth]
          exact ⟨⟨_, _, _, _, _, _, _, _, rfl⟩, fun y hy => hd y (by simp [hy])⟩
        · rintro ρ m' ⟨h, -⟩
          exact ⟨ok_nil', _, rfl, h⟩
      rintro _ m' ⟨em, a, b, c, d, e, f, g, h, rfl⟩
      subst m'
      -- sums, refusals
      simp [look]
      refine wp_mono (sp_sums (n := 5000 * k + 80) b4) fun v m5 ⟨e1, o5, b5⟩ => ?_
      subst e1
      simp [look]
      refine wp_mono (sp_refused (n := 5000 * k) (b5.mono (by omega)) (by rw [o5, o4])) fun v m6 ⟨e1, o6, b6⟩ => ?_
      subst e1
      simp
      exact ⟨o6, b6, _, _, _, _, _, _, _, _, rfl⟩
    · rintro ρ m' ⟨-, -, h⟩
      exact ⟨ok_nil', ρ, rfl, h⟩
  · rintro ρ m' ⟨a, b, c, d, e, f, g, h, rfl⟩
    simp
end K00
end TL
end
section
/-! k00: the head. -/
namespace TL
namespace K00
open PySem PySem.Spec PyProof.Rows L2
abbrev prog : Program := PySem.Challenge.pw_taughtloss_k00_ratios_and_vectors
abbrev law_ : PySem.W.OpenLaw := PySem.Challenge.rw_taughtloss_k00_ratios_and_vectors
def initOf (s : Stmt) : Stmt := match s with
  | .ClassDef _ _ _ b _ _ _ _ _ _ _ => b.getD 0 s
  | _ => s
def xiN : XiD := ⟨"BadNumber", "part", "part", initOf (top 3)⟩
def xiR : XiD := ⟨"BadRows", "index", "index", initOf (top 6)⟩
def hx : HeadX := ⟨["BadNumber", "BadVector", "BadWidth", "BadRows"], [("part", "BadNumber"), ("index", "BadRows")], "/claim/cut.py", [xiN, xiR]⟩
theorem xok_N : XiOk prog xiN where
  top := by decide +kernel
  sc := by refine ⟨rfl, rfl, rfl, ?_⟩; decide +kernel
  ks := by refine ⟨?_, ?_, ?_, ?_⟩ <;> decide +kernel
  hd := ⟨_, rfl, rfl⟩
  ps := by decide +kernel
  pd := by decide +kernel
  body := ⟨_, _, _, _, _, _, _, _, _, _, rfl, fun env => ⟨_, rfl⟩, fun env => rfl⟩
  hb := fun fd us h1 h2 hl => by
    obtain ⟨n1, n2, n3, n4, n5, n6, n7, n8, n9, n10, n11, n12, n13, n14, n15⟩ := fd
    dsimp only at h1 h2
    subst h1 h2
    match us, hl with
    | [_, _], _ => rfl
theorem xok_R : XiOk prog xiR where
  top := by decide +kernel
  sc := by refine ⟨rfl, rfl, rfl, ?_⟩; decide +kernel
  ks := by refine ⟨?_, ?_, ?_, ?_⟩ <;> decide +kernel
  hd := ⟨_, rfl, rfl⟩
  ps := by decide +kernel
  pd := by decide +kernel
  body := ⟨_, _, _, _, _, _, _, _, _, _, rfl, fun env => ⟨_, rfl⟩, fun env => rfl⟩
  hb := fun fd us h1 h2 hl => by
    obtain ⟨n1, n2, n3, n4, n5, n6, n7, n8, n9, n10, n11, n12, n13, n14, n15⟩ := fd
    dsimp only at h1 h2
    subst h1 h2
    match us, hl with
    | [_, _], _ => rfl
theorem head_ok : HeadOk cfg hx prog where
  subs := fun k k' b h => by
    have h : subs k k' = some b := h
    unfold subs at h
    split at h
    · rename_i z
      refine ⟨?_, ?_⟩
      · rcases z.1 with e | e | e | e <;> simp [hx, e]
      · rcases z.2 with e | e | e | e <;> simp [hx, e]
    · cases h
  fok := fun f x h => by
    have h : fok f x = true := h
    unfold fok at h
    simp only [Bool.or_eq_true, Bool.and_eq_true, decide_eq_true_eq] at h
    rcases h with ⟨e1, e2⟩ | ⟨e1, e2⟩ <;> simp [hx, e1, e2]
  teach := fun x h => by
    have h : teach x = true := h
    unfold teach at h
    simp only [Bool.or_eq_true, decide_eq_true_eq] at h
    rcases h with ((e | e) | e) | e <;> simp [hx, e]
  xi := fun i x p f h => by
    have h : ([("BadNumber", "part", "part"), ("BadRows", "index", "index")] : List (Str × Str × Str))[i]? = some (x, p, f) := h
    match i with
    | 0 => cases h; exact ⟨xiN, by simp [hx], rfl, rfl, rfl⟩
    | 1 => cases h; exact ⟨xiR, by simp [hx], rfl, rfl, rfl⟩
    | _ + 2 => cases h
  xok := fun d hd => by
    have hd : d ∈ [xiN, xiR] := hd
    simp only [List.mem_cons, List.not_mem_nil, or_false] at hd
    rcases hd with rfl | rfl
    · exact xok_N
    · exact xok_R
  file := rfl
  tree := rfl
abbrev Rw : PySem.W.OpenRow := PySem.W.OpenLaw.row law_
abbrev qv : Program := PySem.W.view Rw.prog [50]
theorem imp_none : importsNone qv = true := by decide +kernel
def n1 : List Str := ["gcd", "TeachError", "BadNumber", "BadVector", "BadWidth", "BadRows", "ZERO", "is_whole", "is_ratio", "lowest", "plus", "times", "total", "ratio", "MOST", "is_vector", "dot", "scaled", "added", "mixed", "inner", "need_rows", "combined", "LETTERS", "is_word", "_law_begun", "_law_blended", "_law_draw", "_law_pick", "_law_caught"]
def n2 : List Str := ["_law_is_truth", "_law_same", "_law_q", "_law_plus", "_law_times", "_law_sum", "_law_words", "_law_number", "_law_vector", "_law_dot", "_law_mixed", "_law_is_ratio", "_law_near", "_law_sums_right", "_law_refused"]
def ob (s : PySem.W.SharedT) : AlM := obsM 4 cfg hx (HandSHeadRun.getT s)
theorem ob_eq (s : PySem.W.SharedT) : ob s = (hookM 4 cfg hx).obs s.abs := obsM_eq (HandSHeadRun.getT_eq s)
end K00
end TL
end
section
namespace TL
namespace K00
open PySem PySem.Spec PyProof.Rows L2
theorem run (w : World) : RunI Rw qv (hookM 4 cfg hx) ob 4000 4000 (n1 ++ n2) w := by
  unfold RunI
  kernel_rfl
end K00
end TL
end
open PySem PySem.W PySem.Calls PyProof.Rows
theorem PySem.Challenge.cw_taughtloss_k00_ratios_and_vectors_holds : PySem.Challenge.rw_taughtloss_k00_ratios_and_vectors.Holds := by
  w_on; o_law
  refine TL.head_imp (r := TL.K00.Rw) (q := TL.K00.qv) (H := TL.hookM 4 TL.K00.cfg TL.K00.hx) (ob := TL.K00.ob) (M1 := 4000) (M := 4000) (loose := TL.K00.n1 ++ TL.K00.n2) (d := HandSHeadRun.topDef TL.K00.Rw.prog 50) (kwd := []) TL.K00.ob_eq
    TL.K00.run (by kernel_rfl) (by kernel_rfl) (by kernel_rfl) (by rfl) (by first | assumption | decide +kernel) (by decide +kernel) ⟨rfl, rfl, rfl, rfl, rfl, by decide +kernel⟩ ?hw ?hc
  case hw => w_witness2
  case hc =>
    exact TL.walkM (c := TL.K00.cfg) (e := TL.K00.hx) (l := PySem.Challenge.rw_taughtloss_k00_ratios_and_vectors) (n := 63) (k := 49) (nl := 50) (x := "script") (F := TL.K00.F_law) rfl (by decide) (by kernel_rfl) ⟨rfl, by decide, by decide⟩ TL.K00.imp_none (by kernel_rfl) TL.K00.head_ok (by decide +kernel) (fun _ _ _ _ _ _ us hl => match us, hl with | [_], _ => rfl) (fun w base R V h0 => TL.K00.d_law V h0) TL.K00.k00_law
