import PyProof.Rows.All
import Wide.All
import OpenK.AllK
import Wide.FinOn
import HandS.ForMost
import HandS.Exc
import HandS.ExcOwn
import HandS.TryOnly
import HandS.WordsExc
import HandS.Gcd
import HandS.Wide
import HandS.WideBits
import HandS.TupMul
import HandS.TupAny
import HandS.IsInst
import HandS.Style
import HandS.Deep
import HandS.Zip
import HandS.Lambda
import KE.GoesNew
import KE.GoesMore
import HandS.Text
import HandS.Dict
import HandS.Small
import KE.KExcSuper
import HandS.ExcInit
import HandS.RaiseMore
import HandS.ExcField
import HandS.ExcIs
import KE.KExcIs
import HandS.HeadHook2
import PyProof.FString5
import KE.KRevSl
import PyProof.Rows.StrMeet
import HandS.HeadHook4
import HandS.HeadWalk
import HandS.Head2
import KE.KStateDown
import HandS.Head0
import HandS.Head1
import PySem.Challenge.RW_taughtloss_k90_lines_and_what_they_choos
set_option Elab.async false
set_option linter.all false
set_option maxRecDepth 100000
set_option maxHeartbeats 0
set_option autoImplicit false
section
/-! The data layer: Python's values as trees, their representation in the abstract heap, judgements. -/
namespace TL
open PySem PySem.Spec PyProof.Rows L2
open LamX (Tabs TabS CodeO codeO_ne)

/-- data: trees; scr: the script; ref n: a mutable object of ours, by its number; drw: the dict of the draws; fn, cls: a def, a class of the module, by name; ty: a built-in type; clo i: the i-th lambda of the running def; exn: an exception, its class by name and its fields -/
inductive Tn where
  | non | bool | int | str | tuple | list | dict
  deriving DecidableEq
def Tn.name : Tn → String
  | .non => "NoneType" | .bool => "bool" | .int => "int" | .str => "str" | .tuple => "tuple" | .list => "list" | .dict => "dict"
inductive D where
  | non | bl (b : Bool) | int (i : Int) | str (x : Str) | tup (xs : List D) | lst (xs : List D)
  | dct (kvs : List (Key × D))
  | scr (ns : List Int) | ref (n : Nat) | drw | drg | fn (x : Str) | ty (t : Tn) | clo (i : Nat) | exn (c : Str) (fs : List (Str × D))

/-- what a mutable object holds -/
inductive MO where
  | lst (xs : List D) | dct (kvs : List (Key × D)) | ins (c : Str) (fs : List (Str × D))

/-- the draws' state -/
structure Dr where
  great : List Int
  cells : List Int
  rest : Int
  turn : Int

structure MS where
  objs : List MO
  dr : Option Dr

inductive Res (α : Type) where
  | ok (a : α) (m : MS)
  | raise (c : Str) (fs : List (Str × D)) (m : MS)
  | stuck

abbrev M (α : Type) := MS → Res α
@[reducible] def M.pure {α : Type} (a : α) : M α := fun m => .ok a m
@[reducible] def M.bind {α β : Type} (x : M α) (f : α → M β) : M β := fun m => match x m with
  | .ok a m' => f a m'
  | .raise c fs m' => .raise c fs m'
  | .stuck => .stuck
def M.fail {α : Type} : M α := fun _ => .stuck
instance : Monad M where
  pure := M.pure
  bind := M.bind
theorem bind_ok {α β : Type} {x : M α} {f : α → M β} {m m' : MS} {a : α} (h : x m = .ok a m') : (x >>= f) m = f a m' := by
  show M.bind x f m = _
  unfold M.bind
  rw [h]
theorem pure_def {α : Type} (a : α) (m : MS) : (pure a : M α) m = .ok a m := rfl
@[simp] theorem bind_pure' {α β : Type} (a : α) (f : α → M β) : ((pure a : M α) >>= f) = f a := rfl
theorem bind_assoc' {α β γ : Type} (x : M α) (f : α → M β) (g : β → M γ) : ((x >>= f) >>= g) = (x >>= fun a => f a >>= g) := by
  funext m
  show M.bind (M.bind x f) g m = M.bind x (fun a => M.bind (f a) g) m
  unfold M.bind
  cases x m <;> rfl

/-! ### representation -/
/-- where the mutable objects stand -/
structure Sto where
  refs : List Addr
  drw : Option (Addr × Addr × Addr)
  tmp : List Addr
def Sto.drs (S : Sto) : List Addr := match S.drw with | some (a, g, _) => [a, g] | none => []
def Sto.rest (S : Sto) : List Addr := S.drs ++ S.tmp
def Sto.mut (S : Sto) : List Addr := S.refs ++ S.rest

/-- what is fixed: the written part, the module's names, the running def's lambdas, how an exception's object is tracked -/
structure RC where
  K : PySem.W.Frag
  mg : Str → Option Value
  clo : Nat → Addr → Addr → Option HO
  cq : Str
  exo : Addr → Option Addr → Addr → HO
  T : List (Addr × Str)

def LstAt (S : Sto) (H : Hp) (a : Addr) (vs : List V) : Prop := H a = some (.lst vs) ∧ a ∉ S.mut
def TupAt (R : RC) (S : Sto) (H : Hp) (a : Addr) (vs : List V) : Prop := (H a = some (.tup vs) ∧ a ∉ S.mut) ∨
  ∃ (o : Obj) (its : Array Value) (n : Nat), R.K.lookup a = some o ∧ o.cls = .type "tuple" ∧ o.data = .seq its n ∧ its.size ≤ sizeLine ∧ Vals vs its.toList
theorem TupAt.sq {R : RC} {S : Sto} {H : Hp} {a : Addr} {vs : List V} (h : TupAt R S H a vs) : SqT R.K H a vs := h.imp (fun z => .inl z.1) id
theorem LstAt.sq {R : RC} {S : Sto} {H : Hp} {a : Addr} {vs : List V} (h : LstAt S H a vs) : SqL R.K H a vs := .inl (.inl h.1)

mutual
inductive Rep (R : RC) (S : Sto) (H : Hp) : V → D → Prop
  | non : Rep R S H .non .non
  | bl (b : Bool) : Rep R S H (.bl b) (.bl b)
  | int (i : Int) : Rep R S H (.int i) (.int i)
  | str (x : Str) : Rep R S H (.str x) (.str x)
  | tup {a : Addr} {vs : List V} {ds : List D} : TupAt R S H a vs → RepAll R S H vs ds → Rep R S H (.ref a) (.tup ds)
  | lst {a : Addr} {vs : List V} {ds : List D} : LstAt S H a vs → RepAll R S H vs ds → Rep R S H (.ref a) (.lst ds)
  | dct {a : Addr} {ks : List Key} {vs : List V} {ds : List D} : Rd H a (.dK (ks.zip vs)) → a ∉ S.mut → ks.length = vs.length → RepAll R S H vs ds → Rep R S H (.ref a) (.dct (ks.zip ds))
  | scr {a : Addr} {ns : List Int} {o : Obj} : H a = some (.frz o (.lst (ns.map V.int))) → a ∉ S.mut → Rep R S H (.ref a) (.scr ns)
  | ref {n : Nat} {a : Addr} : S.refs[n]? = some a → Rep R S H (.ref a) (.ref n)
  | drw {a g c : Addr} : S.drw = some (a, g, c) → Rep R S H (.ref a) .drw
  | drg {a g c : Addr} : S.drw = some (a, g, c) → Rep R S H (.ref g) .drg
  | fn {x : Str} {a : Addr} : R.mg x = some (.ref a) → Rep R S H (.ref a) (.fn x)
  | ty (t : Tn) : Rep R S H (.ty t.name) (.ty t)
  | clo {i : Nat} {a c : Addr} {o : HO} : R.clo i a c = some o → H a = some o → a ∉ S.mut → H c = some (CodeO c R.cq) → c ∉ S.mut → Rep R S H (.ref a) (.clo i)
  | exn {a C : Addr} {c : Str} : R.mg c = some (.ref C) → H a = some (R.exo C none a) → a ∉ S.mut → Rep R S H (.ref a) (.exn c [])
  | exnd {a C dx : Addr} {c f : Str} {v : V} {d : D} : R.mg c = some (.ref C) → H a = some (R.exo C (some dx) a) → a ∉ S.mut → H dx = some (.xd [(f, v)]) → dx ∉ S.mut → Rep R S H v d → Rep R S H (.ref a) (.exn c [(f, d)])
inductive RepAll (R : RC) (S : Sto) (H : Hp) : List V → List D → Prop
  | nil : RepAll R S H [] []
  | cons {v : V} {d : D} {vs : List V} {ds : List D} : Rep R S H v d → RepAll R S H vs ds → RepAll R S H (v :: vs) (d :: ds)
end

def MRep (R : RC) (S : Sto) (H : Hp) (a : Addr) : MO → Prop
  | .lst xs => ∃ vs, H a = some (.lst vs) ∧ RepAll R S H vs xs
  | .dct kvs => ∃ vs : List V, H a = some (.dK ((kvs.map (·.1)).zip vs)) ∧ RepAll R S H vs (kvs.map (·.2))
  | .ins c fs => ∃ (C dx : Addr) (vs : List V), R.mg c = some (.ref C) ∧ H a = some (.ins C dx ((fs.map (·.1)).zip vs)) ∧ RepAll R S H vs (fs.map (·.2))

def DrRep (S : Sto) (H : Hp) : Option Dr → Prop
  | none => S.drw = none
  | some d => ∃ a g c, S.drw = some (a, g, c) ∧
      H a = some (.dK [(.inr "great", .ref g), (.inr "cells", .ref c), (.inr "rest", .int d.rest), (.inr "turn", .int d.turn)]) ∧
      H g = some (.lst (d.great.map V.int)) ∧ LstAt S H c (d.cells.map V.int)

structure HR (R : RC) (S : Sto) (H : Hp) (m : MS) : Prop where
  nd : S.mut.Nodup
  len : S.refs.length = m.objs.length
  obj : ∀ (n : Nat) (a : Addr) (o : MO), S.refs[n]? = some a → m.objs[n]? = some o → MRep R S H a o
  dr : DrRep S H m.dr
  tm : ∀ a ∈ S.tmp, ∃ vs, H a = some (.lst vs)
  tb : Tabs R.T H

/-- what may have changed -/
structure Ext0 (S : Sto) (H : Hp) (S' : Sto) (H' : Hp) : Prop where
  refs : ∃ more, S'.refs = S.refs ++ more
  drw : ∀ p, S.drw = some p → S'.drw = some p
  new : ∀ a, a ∈ S'.mut → a ∈ S.mut ∨ H a = none
  keep : ∀ b o, H b = some o → b ∉ S.mut → (∀ ps, o ≠ .tbl ps) → H' b = some o
  there : ∀ b o, H b = some o → ∃ o', H' b = some o'
/-- .. the lists that comprehensions are making are as they were -/
structure Ext (S : Sto) (H : Hp) (S' : Sto) (H' : Hp) : Prop extends Ext0 S H S' H' where
  tmp : S'.tmp = S.tmp
  tk : ∀ a ∈ S.tmp, H' a = H a

section
variable {R : RC} {S S' S2 : Sto} {H H' H2 : Hp}
theorem Ext0.refl (S : Sto) (H : Hp) : Ext0 S H S H := ⟨⟨[], by simp⟩, fun _ h => h, fun _ h => .inl h, fun _ _ h _ _ => h, fun _ o h => ⟨o, h⟩⟩
theorem Ext.refl (S : Sto) (H : Hp) : Ext S H S H := ⟨Ext0.refl S H, rfl, fun _ _ => rfl⟩
theorem Ext0.nmut {b : Addr} {o : HO} (e : Ext0 S H S' H') (h : H b = some o) (n : b ∉ S.mut) : b ∉ S'.mut := fun z => by
  rcases e.new b z with z | z
  · exact n z
  · rw [h] at z; cases z
theorem Ext0.trans (e : Ext0 S H S' H') (f : Ext0 S' H' S2 H2) : Ext0 S H S2 H2 := by
  refine ⟨?_, fun p h => f.drw p (e.drw p h), fun a h => ?_, fun b o h n t => f.keep b o (e.keep b o h n t) (e.nmut h n) t, fun b o h => ?_⟩
  · obtain ⟨m1, e1⟩ := e.refs
    obtain ⟨m2, e2⟩ := f.refs
    exact ⟨m1 ++ m2, by rw [e2, e1, List.append_assoc]⟩
  · rcases f.new a h with z | z
    · exact e.new a z
    · right
      cases q : H a with
      | none => rfl
      | some o =>
        obtain ⟨o', h'⟩ := e.there a o q
        rw [h'] at z; cases z
  · obtain ⟨o', h'⟩ := e.there b o h
    exact f.there b o' h'
theorem Ext.trans (e : Ext S H S' H') (f : Ext S' H' S2 H2) : Ext S H S2 H2 := ⟨e.toExt0.trans f.toExt0, f.tmp.trans e.tmp, fun a h => (f.tk a (by rw [e.tmp]; exact h)).trans (e.tk a h)⟩
theorem Ext0.rd {b : Addr} {u : HO} (e : Ext0 S H S' H') (h : Rd H b u) (n : b ∉ S.mut) (t : ∀ ps, u ≠ .tbl ps) : Rd H' b u ∧ b ∉ S'.mut := by
  rcases h with h | ⟨o, h⟩
  · exact ⟨.inl (e.keep b u h n t), e.nmut h n⟩
  · exact ⟨.inr ⟨o, e.keep b _ h n (fun ps z => by cases z)⟩, e.nmut h n⟩
theorem LstAt.ext {a : Addr} {vs : List V} (e : Ext0 S H S' H') (h : LstAt S H a vs) : LstAt S' H' a vs := ⟨e.keep _ _ h.1 h.2 (fun _ z => by cases z), e.nmut h.1 h.2⟩
theorem TupAt.ext {a : Addr} {vs : List V} (e : Ext0 S H S' H') (h : TupAt R S H a vs) : TupAt R S' H' a vs := by
  rcases h with h | h
  · exact .inl ⟨e.keep _ _ h.1 h.2 (fun _ z => by cases z), e.nmut h.1 h.2⟩
  · exact .inr h
theorem ref_ext {n : Nat} {a : Addr} (e : Ext0 S H S' H') (h : S.refs[n]? = some a) : S'.refs[n]? = some a := by
  obtain ⟨m, q⟩ := e.refs
  rw [q, List.getElem?_append_left (List.getElem?_eq_some_iff.mp h).1]
  exact h
end

/-- a lambda's object is no table; nor an exception's -/
structure RC.Ok (R : RC) : Prop where
  clo : ∀ i a c o, R.clo i a c = some o → ∀ ps, o ≠ .tbl ps
  exo : ∀ C d a ps, R.exo C d a ≠ .tbl ps

section
variable {R : RC} {S S' : Sto} {H H' : Hp}
mutual
theorem Rep.ext0 (ro : R.Ok) (e : Ext0 S H S' H') : ∀ {v : V} {d : D}, Rep R S H v d → Rep R S' H' v d
  | _, _, .non => .non
  | _, _, .bl b => .bl b
  | _, _, .int i => .int i
  | _, _, .str x => .str x
  | _, _, .tup h r => .tup (h.ext e) (RepAll.ext0 ro e r)
  | _, _, .lst h r => .lst (h.ext e) (RepAll.ext0 ro e r)
  | _, _, .dct h n l r => .dct (e.rd h n (fun _ z => by cases z)).1 (e.rd h n (fun _ z => by cases z)).2 l (RepAll.ext0 ro e r)
  | _, _, .scr h n => .scr (e.keep _ _ h n (fun _ z => by cases z)) (e.nmut h n)
  | _, _, .ref h => .ref (ref_ext e h)
  | _, _, .drw h => .drw (e.drw _ h)
  | _, _, .drg h => .drg (e.drw _ h)
  | _, _, .fn h => .fn h
  | _, _, .ty n => .ty n
  | _, _, .clo h k n q m => .clo h (e.keep _ _ k n (ro.clo _ _ _ _ h)) (e.nmut k n) (e.keep _ _ q m codeO_ne) (e.nmut q m)
  | _, _, .exn h k n => .exn h (e.keep _ _ k n (ro.exo _ _ _)) (e.nmut k n)
  | _, _, .exnd h k n q m r => .exnd h (e.keep _ _ k n (ro.exo _ _ _)) (e.nmut k n) (e.keep _ _ q m (fun _ z => by cases z)) (e.nmut q m) (Rep.ext0 ro e r)
theorem RepAll.ext0 (ro : R.Ok) (e : Ext0 S H S' H') : ∀ {vs : List V} {ds : List D}, RepAll R S H vs ds → RepAll R S' H' vs ds
  | _, _, .nil => .nil
  | _, _, .cons h r => .cons (Rep.ext0 ro e h) (RepAll.ext0 ro e r)
end
theorem Rep.ext (ro : R.Ok) (e : Ext S H S' H') {v : V} {d : D} (h : Rep R S H v d) : Rep R S' H' v d := h.ext0 ro e.toExt0
theorem RepAll.ext (ro : R.Ok) (e : Ext S H S' H') {vs : List V} {ds : List D} (h : RepAll R S H vs ds) : RepAll R S' H' vs ds := h.ext0 ro e.toExt0
theorem RepAll.length : ∀ {vs : List V} {ds : List D}, RepAll R S H vs ds → vs.length = ds.length
  | _, _, .nil => rfl
  | _, _, .cons _ r => by rw [List.length_cons, List.length_cons, RepAll.length r]
theorem RepAll.get : ∀ {vs : List V} {ds : List D} {i : Nat} {d : D}, RepAll R S H vs ds → ds[i]? = some d → ∃ v, vs[i]? = some v ∧ Rep R S H v d
  | _, _, _, _, .nil, e => by simp at e
  | _, _, 0, _, .cons h _, e => by simp at e; subst e; exact ⟨_, rfl, h⟩
  | _, _, i + 1, d, .cons _ t, e => by
    obtain ⟨v, h1, h2⟩ := RepAll.get (i := i) (d := d) t (by simpa using e)
    exact ⟨v, by simpa using h1, h2⟩
theorem RepAll.getV : ∀ {vs : List V} {ds : List D} {i : Nat} {v : V}, RepAll R S H vs ds → vs[i]? = some v → ∃ d, ds[i]? = some d ∧ Rep R S H v d
  | _, _, _, _, .nil, e => by simp at e
  | _, _, 0, _, .cons h _, e => by simp at e; subst e; exact ⟨_, rfl, h⟩
  | _, _, i + 1, d, .cons _ t, e => by
    obtain ⟨v, h1, h2⟩ := RepAll.getV (i := i) (v := d) t (by simpa using e)
    exact ⟨v, by simpa using h1, h2⟩
theorem RepAll.app : ∀ {vs ws : List V} {ds es : List D}, RepAll R S H vs ds → RepAll R S H ws es → RepAll R S H (vs ++ ws) (ds ++ es)
  | _, _, _, _, .nil, s => s
  | _, _, _, _, .cons h t, s => .cons h (t.app s)
theorem RepAll.set {v : V} {d : D} (h : Rep R S H v d) : ∀ {vs : List V} {ds : List D} (i : Nat), RepAll R S H vs ds → RepAll R S H (vs.set i v) (ds.set i d)
  | _, _, _, .nil => .nil
  | _, _, 0, .cons _ t => .cons h t
  | _, _, i + 1, .cons q t => .cons q (RepAll.set h i t)
theorem RepAll.take : ∀ {vs : List V} {ds : List D} (n : Nat), RepAll R S H vs ds → RepAll R S H (vs.take n) (ds.take n)
  | _, _, 0, _ => .nil
  | _, _, _ + 1, .nil => .nil
  | _, _, n + 1, .cons r t => .cons r (RepAll.take n t)
theorem RepAll.drop : ∀ {vs : List V} {ds : List D} (n : Nat), RepAll R S H vs ds → RepAll R S H (vs.drop n) (ds.drop n)
  | _, _, 0, r => r
  | _, _, _ + 1, .nil => .nil
  | _, _, n + 1, .cons _ t => RepAll.drop n t
theorem RepAll.ints : ∀ ns : List Int, RepAll R S H (ns.map V.int) (ns.map D.int)
  | [] => .nil
  | n :: ns => .cons (.int n) (RepAll.ints ns)
end

/-! ### the frame's slots -/
abbrev Env' := List (Option D)
structure ER (R : RC) (S : Sto) (H : Hp) (σ : L2.St) (ρ : Env') : Prop where
  len : σ.length = ρ.length
  at_ : ∀ (i : Nat) (d : D), ρ[i]? = some (some d) → ∃ v, σ[i]? = some (some v) ∧ Rep R S H v d
section
variable {R : RC} {S S' : Sto} {H H' : Hp} {σ : L2.St} {ρ : Env'}
theorem ER.ext0 (ro : R.Ok) (e : Ext0 S H S' H') (h : ER R S H σ ρ) : ER R S' H' σ ρ := ⟨h.len, fun i d q => by
  obtain ⟨v, h1, h2⟩ := h.at_ i d q
  exact ⟨v, h1, h2.ext0 ro e⟩⟩
theorem ER.ext (ro : R.Ok) (e : Ext S H S' H') (h : ER R S H σ ρ) : ER R S' H' σ ρ := h.ext0 ro e.toExt0
theorem ER.set {i : Nat} {v : V} {d : D} (h : ER R S H σ ρ) (r : Rep R S H v d) : ER R S H (σ.set i (some v)) (ρ.set i (some d)) := ⟨by simp [h.len], fun j e q => by
  by_cases hj : i = j
  · subst hj
    have hl : i < ρ.length := by
      have := (List.getElem?_eq_some_iff.mp q).1
      simpa using this
    rw [List.getElem?_set_self hl] at q
    cases q
    rw [List.getElem?_set_self (by rw [h.len]; exact hl)]
    exact ⟨v, rfl, r⟩
  · rw [List.getElem?_set_ne hj] at q ⊢
    exact h.at_ j e q⟩
theorem ER.unset {i : Nat} (h : ER R S H σ ρ) : ER R S H (σ.set i none) (ρ.set i none) := ⟨by simp [h.len], fun j e q => by
  by_cases hj : i = j
  · subst hj
    have hl : i < ρ.length := by
      have := (List.getElem?_eq_some_iff.mp q).1
      simpa using this
    rw [List.getElem?_set_self hl] at q
    cases q
  · rw [List.getElem?_set_ne hj] at q ⊢
    exact h.at_ j e q⟩
def wipeD (ρ : Env') : List Nat → Env'
  | [] => ρ
  | v :: vs => (wipeD ρ vs).set v none
theorem ER.wipe (h : ER R S H σ ρ) : ∀ vs, ER R S H (wipe σ vs) (wipeD ρ vs)
  | [] => h
  | v :: vs => (ER.wipe h vs).unset
end

/-! ### judgements -/
/-- what an exception is to a wish -/
def RoutX (R : RC) (S : Sto) (H : Hp) (E : XK) (c : Str) (fs : List (Str × D)) (m' : MS) : Prop :=
  ∀ H' S' C, Ext S H S' H' → HR R S' H' m' → R.mg c = some (.ref C) →
    (fs = [] → E (.ref C) none H') ∧ (∀ f d, fs = [(f, d)] → ∀ dx v, H' dx = some (.xd [(f, v)]) → dx ∉ S'.mut → Rep R S' H' v d → E (.ref C) (some dx) H')
/-- what an outcome must give: P of the value, the data's state, the heap and the store -/
def RoutG (R : RC) (S : Sto) (H : Hp) (E : XK) {α : Type} (P : α → MS → Hp → Sto → Prop) : Res α → Prop
  | .ok a m' => ∀ H' S', Ext S H S' H' → HR R S' H' m' → P a m' H' S'
  | .raise c fs m' => RoutX R S H E c fs m'
  | .stuck => False
def PV (R : RC) (Q : VK) : D → MS → Hp → Sto → Prop := fun d _ H' S' => ∀ v, Rep R S' H' v d → Q v H'
def PB (Q : Bool → Hp → Prop) : Bool → MS → Hp → Sto → Prop := fun b _ H' _ => Q b H'
def PVs (R : RC) (Q : List V → Hp → Prop) : List D → MS → Hp → Sto → Prop := fun ds _ H' S' => ∀ vs, RepAll R S' H' vs ds → Q vs H'
/-- a statement's end -/
inductive Fl where
  | next (ρ : Env')
  | ret (d : D)
  | brk (ρ : Env')
  | cont (ρ : Env')
def PF (R : RC) (Z : Ends) : Fl → MS → Hp → Sto → Prop := fun fl _ H' S' => match fl with
  | .next ρ' => ∀ σ', ER R S' H' σ' ρ' → Z.nx σ' H'
  | .ret d => ∀ v, Rep R S' H' v d → Z.rt v H'
  | .brk ρ' => ∀ σ', ER R S' H' σ' ρ' → Z.bk σ' H'
  | .cont ρ' => ∀ σ', ER R S' H' σ' ρ' → Z.ct σ' H'

abbrev FE := Env' → M D
abbrev FB := Env' → M Bool
abbrev FA := Env' → M (List D)
abbrev FS := Env' → M Fl

/-- the context's side: it fits R, takes E -/
structure CxR (X : Cx) (R : RC) (E : XK) : Prop where
  K : X.K = R.K
  mg : X.mg = R.mg
  ok : R.Ok
  tk : Takes X (fun c d _ H => E c d H)
  po : PassesOwn (model X.prog X.w) X.A X.env X.xe
  pyl : ∀ s : Shared, X.A.frames = some X.stack → s.heap.NoLimit → (∀ b o, X.base.get? b = some o → s.heap.get? b = some o) → PylongRoom (model X.prog X.w) X.A s
  un : X.A.units + 65 < cLine
  calm : X.calm = true
  nd : X.N.Nodup
/-- no exception at all -/
abbrev EF : XK := fun _ _ _ => False

structure DE (X : Cx) (R : RC) (E : XK) (e : Expr) (f : FE) : Prop where
  ex : ∃ t, PE X e t ∧ ∀ S σ H ρ m Q, HR R S H m → ER R S H σ ρ → RoutG R S H E (PV R Q) (f ρ m) → t σ H Q
structure DT (X : Cx) (R : RC) (E : XK) (e : Expr) (f : FB) : Prop where
  ex : ∃ t, PT X e t ∧ ∀ S σ H ρ m Q, HR R S H m → ER R S H σ ρ → RoutG R S H E (PB Q) (f ρ m) → t σ H Q
structure DA (X : Cx) (R : RC) (E : XK) (es : List Expr) (f : FA) : Prop where
  ex : ∃ t, PA X es t ∧ ∀ S σ H ρ m Q, HR R S H m → ER R S H σ ρ → RoutG R S H E (PVs R Q) (f ρ m) → t σ H Q
structure DS (X : Cx) (R : RC) (E : XK) (st : Stmt) (f : FS) : Prop where
  ex : ∃ t, PS X st t ∧ ∀ S σ H ρ m Z, HR R S H m → ER R S H σ ρ → RoutG R S H E (PF R Z) (f ρ m) → t Z σ H
structure DSs (X : Cx) (R : RC) (E : XK) (st : List Stmt) (f : FS) : Prop where
  ex : ∃ t, PSs X st t ∧ ∀ S σ H ρ m Z, HR R S H m → ER R S H σ ρ → RoutG R S H E (PF R Z) (f ρ m) → t Z σ H

section
variable {R : RC} {S S' : Sto} {H H' : Hp} {E : XK} {α β : Type} {P : α → MS → Hp → Sto → Prop} {PP : β → MS → Hp → Sto → Prop} {m m' : MS}
theorem RoutX.ext {c : Str} {fs : List (Str × D)} (e : Ext S H S' H') (h : RoutX R S H E c fs m') : RoutX R S' H' E c fs m' :=
  fun H2 S2 C e2 r g => h H2 S2 C (e.trans e2) r g
theorem RoutG.ext {r : Res α} (e : Ext S H S' H') (h : RoutG R S H E P r) : RoutG R S' H' E P r := by
  cases r with
  | ok a m1 => exact fun H2 S2 e2 r => h H2 S2 (e.trans e2) r
  | raise c fs m1 => exact RoutX.ext (m' := m1) e h
  | stuck => exact h
/-- here and now -/
theorem RoutG.now {a : α} (h : RoutG R S H E P (.ok a m)) (hr : HR R S H m) : P a m H S := h H S (Ext.refl S H) hr
/-- the first part of a bind -/
theorem RoutG.step {x : M α} {k : α → M β} (h : RoutG R S H E PP (M.bind x k m)) (f : ∀ a m1 H1 S1, Ext S H S1 H1 → HR R S1 H1 m1 → RoutG R S1 H1 E PP (k a m1) → P a m1 H1 S1) : RoutG R S H E P (x m) := by
  unfold M.bind at h
  revert h
  cases x m with
  | ok a m1 => exact fun h H1 S1 e1 r1 => f a m1 H1 S1 e1 r1 (RoutG.ext e1 h)
  | raise c fs m1 => exact fun h => h
  | stuck => exact fun h => h
theorem RoutG.mono {P' : α → MS → Hp → Sto → Prop} {r : Res α} (h : RoutG R S H E P r) (f : ∀ a m1 H1 S1, Ext S H S1 H1 → HR R S1 H1 m1 → P a m1 H1 S1 → P' a m1 H1 S1) : RoutG R S H E P' r := by
  cases r with
  | ok a m1 => exact fun H1 S1 e1 r1 => f a m1 H1 S1 e1 r1 (h H1 S1 e1 r1)
  | raise c fs m1 => exact h
  | stuck => exact h
end

/-! ### new objects -/
/-- tables and code objects stay: the tables of code objects too -/
theorem tabs_stay {T : List (Addr × Str)} {H H' : Hp} (t : Tabs T H) (e : ∀ b o, H b = some o → ((∃ ps, o = .tbl ps) ∨ ∃ c q, o = CodeO c q) → H' b = some o) : Tabs T H' := fun p hp => by
  obtain ⟨ps, h1, h2, h3⟩ := t p hp
  refine ⟨ps, e _ _ h1 (.inl ⟨ps, rfl⟩), h2, fun pos cv hc => ?_⟩
  obtain ⟨c, e1, e2⟩ := h3 pos cv hc
  exact ⟨c, e1, e _ _ e2 (.inr ⟨_, _, rfl⟩)⟩
theorem tabs_new {T : List (Addr × Str)} {H : Hp} {p : Addr} {o : HO} (t : Tabs T H) (hp : H p = none) : Tabs T (upd H p o) := t.ext fun b u h => by rw [upd_ne (ne_of_none h hp)]; exact h
/-- another kind of object is written -/
theorem tabs_put {T : List (Addr × Str)} {H : Hp} {a : Addr} {o u : HO} (t : Tabs T H) (h : H a = some o) (nt : (∀ ps, o ≠ .tbl ps) ∧ ∀ c q, o ≠ CodeO c q) : Tabs T (upd H a u) := tabs_stay t fun b v hb hk => by
  rw [upd_ne (a := a) (b := b) fun z => ?_]
  · exact hb
  · rw [z, h] at hb
    cases hb
    rcases hk with ⟨ps, e⟩ | ⟨c, q, e⟩
    · exact nt.1 ps e
    · exact nt.2 c q e
section
variable {R : RC} {S : Sto} {H : Hp} {m : MS} {p : Addr} {o : HO}
/-- no table, no code object -/
def NT (o : HO) : Prop := (∀ ps, o ≠ .tbl ps) ∧ ∀ c q, o ≠ CodeO c q
theorem nt_lst (xs : List V) : NT (.lst xs) := ⟨(fun _ z => by cases z), (fun _ _ z => by unfold CodeO at z; cases z)⟩
theorem nt_dK (xs : List (Key × V)) : NT (.dK xs) := ⟨(fun _ z => by cases z), (fun _ _ z => by unfold CodeO at z; cases z)⟩
theorem nt_ins (a b : Addr) (xs : List (Str × V)) : NT (.ins a b xs) := ⟨(fun _ z => by cases z), (fun _ _ z => by unfold CodeO at z; cases z)⟩
theorem HR.tracked (hr : HR R S H m) {a : Addr} (h : a ∈ S.mut) : ∃ o, H a = some o ∧ NT o := by
  unfold Sto.mut Sto.rest at h
  rcases List.mem_append.mp h with h | h
  · obtain ⟨n, hn⟩ := List.mem_iff_getElem?.mp h
    have hlt : n < m.objs.length := by rw [← hr.len]; exact (List.getElem?_eq_some_iff.mp hn).1
    have q := hr.obj n a _ hn (List.getElem?_eq_getElem hlt)
    revert q
    cases m.objs[n] with
    | lst xs => exact fun ⟨vs, h, _⟩ => ⟨_, h, nt_lst _⟩
    | dct kvs => exact fun ⟨vs, h, _⟩ => ⟨_, h, nt_dK _⟩
    | ins c fs => exact fun ⟨_, _, _, _, h, _⟩ => ⟨_, h, nt_ins _ _ _⟩
  rcases List.mem_append.mp h with h | h
  · have q := hr.dr
    unfold Sto.drs at h
    cases hd : m.dr with
    | none =>
      rw [hd] at q
      have q : S.drw = none := q
      rw [q] at h
      cases h
    | some d =>
      rw [hd] at q
      obtain ⟨a', g, c, e, h1, h2, _⟩ := q
      rw [e] at h
      rcases List.mem_cons.mp h with z | z
      · rw [z]; exact ⟨_, h1, nt_dK _⟩
      · rcases List.mem_cons.mp z with z | z
        · rw [z]; exact ⟨_, h2, nt_lst _⟩
        · cases z
  · obtain ⟨vs, q⟩ := hr.tm a h
    exact ⟨_, q, nt_lst _⟩
theorem HR.fresh (hr : HR R S H m) (hp : H p = none) : p ∉ S.mut := fun z => by
  obtain ⟨o, e, _⟩ := hr.tracked z
  rw [hp] at e
  cases e
theorem tmp_mut {a : Addr} (h : a ∈ S.tmp) : a ∈ S.mut := List.mem_append_right _ (List.mem_append_right _ h)
theorem drs_mut {a : Addr} (h : a ∈ S.drs) : a ∈ S.mut := List.mem_append_right _ (List.mem_append_left _ h)
theorem ref_mut {n : Nat} {a : Addr} (h : S.refs[n]? = some a) : a ∈ S.mut := List.mem_append_left _ (List.mem_of_getElem? h)
theorem Ext.newObj (hr : HR R S H m) (hp : H p = none) : Ext S H S (upd H p o) := ⟨⟨⟨[], by simp⟩, fun _ h => h, fun _ h => .inl h, fun b u h _ _ => by rw [upd_ne (ne_of_none h hp)]; exact h,
  fun b u h => ⟨u, by rw [upd_ne (ne_of_none h hp)]; exact h⟩⟩, rfl, fun a h => upd_ne fun z => hr.fresh hp (z ▸ tmp_mut h)⟩
theorem MRep.ext0 {S' : Sto} {H' : Hp} {a : Addr} {u : MO} (ro : R.Ok) (e : Ext0 S H S' H') (k : H' a = H a) (h : MRep R S H a u) : MRep R S' H' a u := by
  cases u with
  | lst xs => obtain ⟨vs, h1, h2⟩ := h; exact ⟨vs, by rw [k]; exact h1, h2.ext0 ro e⟩
  | dct kvs => obtain ⟨vs, h1, h2⟩ := h; exact ⟨vs, by rw [k]; exact h1, h2.ext0 ro e⟩
  | ins c fs => obtain ⟨C, dx, vs, h0, h1, h2⟩ := h; exact ⟨C, dx, vs, h0, by rw [k]; exact h1, h2.ext0 ro e⟩
theorem DrRep.ext0 {S' : Sto} {H' : Hp} {d : Option Dr} (e : Ext0 S H S' H') (hs : S'.drw = S.drw) (k : ∀ a ∈ S.drs, H' a = H a) (h : DrRep S H d) : DrRep S' H' d := by
  cases d with
  | none => exact hs.trans h
  | some d =>
    obtain ⟨a, g, c, e0, h1, h2, h3⟩ := h
    have hm : S.drs = [a, g] := by unfold Sto.drs; rw [e0]
    exact ⟨a, g, c, hs.trans e0, (k a (by rw [hm]; simp)).trans h1, (k g (by rw [hm]; simp)).trans h2, h3.ext e⟩
/-- a new object that isn't ours to change -/
theorem HR.newObj (ro : R.Ok) (hr : HR R S H m) (hp : H p = none) : HR R S (upd H p o) m := by
  have k : ∀ a ∈ S.mut, upd H p o a = H a := fun a h => upd_ne fun z => hr.fresh hp (z ▸ h)
  have ex := (Ext.newObj (o := o) hr hp).toExt0
  exact ⟨hr.nd, hr.len, fun n a u h1 h2 => (hr.obj n a u h1 h2).ext0 ro ex (k a (ref_mut h1)), hr.dr.ext0 ex rfl fun a h => k a (drs_mut h), fun a h => by rw [k a (tmp_mut h)]; exact hr.tm a h, tabs_new hr.tb hp⟩
/-- a new object of ours -/
def Sto.add (S : Sto) (p : Addr) : Sto := { S with refs := S.refs ++ [p] }
theorem mem_add {a : Addr} : a ∈ (S.add p).mut ↔ a ∈ S.mut ∨ a = p := by
  unfold Sto.mut Sto.add Sto.rest Sto.drs
  simp only [List.mem_append, List.mem_singleton]
  constructor
  · rintro ((h | h) | h)
    · exact .inl (.inl h)
    · exact .inr h
    · exact .inl (.inr h)
  · rintro ((h | h) | h)
    · exact .inl (.inl h)
    · exact .inr h
    · exact .inl (.inr h)
theorem Ext.newRef (hr : HR R S H m) (hp : H p = none) : Ext S H (S.add p) (upd H p o) := by
  have e := Ext.newObj (o := o) hr hp
  refine ⟨⟨⟨[p], rfl⟩, fun _ h => h, fun a h => ?_, e.keep, e.there⟩, rfl, e.tk⟩
  rcases mem_add.mp h with h | h
  · exact .inl h
  · exact .inr (h ▸ hp)
theorem HR.newRef {u : MO} (ro : R.Ok) (hr : HR R S H m) (hp : H p = none) (hu : MRep R (S.add p) (upd H p o) p u) : HR R (S.add p) (upd H p o) { m with objs := m.objs ++ [u] } := by
  have hn := hr.fresh hp
  have k : ∀ a ∈ S.mut, upd H p o a = H a := fun a h => upd_ne fun z => hn (z ▸ h)
  have ex := (Ext.newRef (o := o) hr hp).toExt0
  refine ⟨?_, by simp [Sto.add, hr.len], fun n a u' h1 h2 => ?_, hr.dr.ext0 ex rfl fun a h => k a (drs_mut h), fun a h => by rw [k a (tmp_mut h)]; exact hr.tm a h, tabs_new hr.tb hp⟩
  · have h1 : (S.add p).mut = S.refs ++ ([p] ++ S.rest) := by unfold Sto.mut Sto.add Sto.rest Sto.drs; simp
    have h0 := hr.nd
    unfold Sto.mut at h0 hn
    rw [h1, List.nodup_append] at *
    simp only [List.mem_append, not_or] at hn
    refine ⟨h0.1, List.nodup_append.mpr ⟨List.nodup_cons.mpr ⟨by simp, List.nodup_nil⟩, h0.2.1, fun a ha b hb => ?_⟩, fun a ha b hb => ?_⟩
    · rw [List.mem_singleton.mp ha]
      exact fun z => hn.2 (z ▸ hb)
    · rcases List.mem_append.mp hb with hb | hb
      · rw [List.mem_singleton.mp hb]
        exact fun z => hn.1 (z ▸ ha)
      · exact h0.2.2 a ha b hb
  · by_cases hlt : n < S.refs.length
    · have h1' : S.refs[n]? = some a := by
        have : (S.refs ++ [p])[n]? = some a := h1
        rwa [List.getElem?_append_left hlt] at this
      have h2' : m.objs[n]? = some u' := by
        have : (m.objs ++ [u])[n]? = some u' := h2
        rwa [List.getElem?_append_left (by rw [← hr.len]; exact hlt)] at this
      exact (hr.obj n a u' h1' h2').ext0 ro ex (k a (ref_mut h1'))
    · have hl : n = S.refs.length := by
        have h1l := (List.getElem?_eq_some_iff.mp h1).1
        have : n < (S.refs ++ [p]).length := h1l
        simp at this
        omega
      have h1' : (S.refs ++ [p])[n]? = some a := h1
      have h2' : (m.objs ++ [u])[n]? = some u' := h2
      rw [hl, List.getElem?_concat_length] at h1'
      rw [hl, hr.len, List.getElem?_concat_length] at h2'
      cases h1'
      cases h2'
      exact hu
/-- an object of ours is written -/
theorem nd_split {n : Nat} {a : Addr} (hr : HR R S H m) (h : S.refs[n]? = some a) : a ∉ S.rest ∧ ∀ k b, S.refs[k]? = some b → b = a → k = n := by
  have nd := hr.nd
  unfold Sto.mut at nd
  rw [List.nodup_append] at nd
  refine ⟨fun z => nd.2.2 a (List.mem_of_getElem? h) a z rfl, fun k b hk e => ?_⟩
  subst e
  obtain ⟨h1, e1⟩ := List.getElem?_eq_some_iff.mp hk
  obtain ⟨h2, e2⟩ := List.getElem?_eq_some_iff.mp h
  exact (List.getElem_inj nd.1).mp (e1.trans e2.symm)
theorem Ext.put {n : Nat} {a : Addr} (hr : HR R S H m) (h : S.refs[n]? = some a) : Ext S H S (upd H a o) := by
  have hm := ref_mut h
  refine ⟨⟨⟨[], by simp⟩, fun _ h => h, fun _ h => .inl h, fun b u h n _ => by rw [upd_ne (a := a) (b := b) (fun z => n (by rw [z]; exact hm))]; exact h, fun b u h => ?_⟩, rfl, fun b hb => upd_ne fun z => (nd_split hr h).1 (z ▸ List.mem_append_right _ hb)⟩
  by_cases hb : b = a
  · rw [hb, upd_same]; exact ⟨o, rfl⟩
  · rw [upd_ne hb]; exact ⟨u, h⟩
theorem HR.put {n : Nat} {a : Addr} {u : MO} (ro : R.Ok) (hr : HR R S H m) (h : S.refs[n]? = some a) (hu : MRep R S (upd H a o) a u) : HR R S (upd H a o) { m with objs := m.objs.set n u } := by
  have ex := (Ext.put (o := o) hr h).toExt0
  obtain ⟨s1, s2⟩ := nd_split hr h
  have hlt : n < m.objs.length := by rw [← hr.len]; exact (List.getElem?_eq_some_iff.mp h).1
  refine ⟨hr.nd, by simp [hr.len], fun k b u' h1 h2 => ?_, hr.dr.ext0 ex rfl fun b hb => upd_ne fun z => s1 (z ▸ List.mem_append_left _ hb), fun b hb => by rw [upd_ne (a := a) (b := b) (fun z => s1 (by rw [← z]; exact List.mem_append_right _ hb))]; exact hr.tm b hb, (fun ⟨o', h1, h2⟩ => tabs_put hr.tb h1 h2) (hr.tracked (ref_mut h))⟩
  by_cases hk : k = n
  · subst hk
    have h2' : (m.objs.set k u)[k]? = some u' := h2
    rw [List.getElem?_set_self hlt] at h2'
    cases h2'
    rw [h] at h1
    cases h1
    exact hu
  · have h2' : (m.objs.set n u)[k]? = some u' := h2
    rw [List.getElem?_set_ne (Ne.symm hk)] at h2'
    exact (hr.obj k b u' h1 h2').ext0 ro ex (upd_ne fun z => hk (s2 k b h1 z))
end
end TL
end
section
/-! The data layer: expressions. -/
namespace TL
open PySem PySem.Spec PyProof.Rows L2

def look : Env' → Nat → Option D
  | [], _ => none
  | d :: _, 0 => d
  | _ :: r, n + 1 => look r n
theorem look_some : ∀ {ρ : Env'} {i : Nat} {d : D}, look ρ i = some d → ρ[i]? = some (some d)
  | [], _, _, h => by cases h
  | d :: _, 0, _, h => by simpa [look] using h
  | _ :: r, n + 1, _, h => by simpa using look_some (ρ := r) (i := n) h

section
variable {X : Cx} {R : RC} {E : XK}

/-! ### names, constants -/
def dVar (i : Nat) : FE := fun ρ m => match look ρ i with | some d => .ok d m | none => .stuck
def dC (d : D) : FE := fun _ m => .ok d m
theorem de_var {i : Nat} {x : Str} {pos : Pos} (hN : X.N[i]? = some x := by rfl) (hv : Vis X.env.scope x := by first | exact Or.inl rfl | exact Or.inr (Or.inl rfl) | exact Or.inr (Or.inr rfl)) (hd : (x == ("__debug__" : Str)) = false := by decide)
    (hcd : (x == ("__classdict__" : Str)) = false := by decide) : DE X R E (.Name x pos) (dVar i) := ⟨⟨tVar i, pe_var hN hv hd hcd, fun S σ H ρ m Q hr he h => by
  unfold dVar at h
  cases e : look ρ i with
  | none => rw [e] at h; exact h.elim
  | some d =>
    rw [e] at h
    obtain ⟨v, e1, r⟩ := he.at_ i d (look_some e)
    exact ⟨v, e1, h.now hr v r⟩⟩⟩
theorem de_int {i : Int} {j : Nat} {pos : Pos} : DE X R E (.Constant (.int i) j pos) (dC (.int i)) := ⟨⟨_, pe_int, fun _ _ _ _ _ _ hr _ h => h.now hr _ (.int i)⟩⟩
theorem de_bl {b : Bool} {j : Nat} {pos : Pos} : DE X R E (.Constant (.bool b) j pos) (dC (.bl b)) := ⟨⟨_, pe_bl, fun _ _ _ _ _ _ hr _ h => h.now hr _ (.bl b)⟩⟩
theorem de_non {j : Nat} {pos : Pos} : DE X R E (.Constant .none j pos) (dC .non) := ⟨⟨_, pe_non, fun _ _ _ _ _ _ hr _ h => h.now hr _ .non⟩⟩
theorem de_str {x : Str} {j : Nat} {pos : Pos} : DE X R E (.Constant (.str x) j pos) (dC (.str x)) := ⟨⟨_, pe_str, fun _ _ _ _ _ _ hr _ h => h.now hr _ (.str x)⟩⟩
/-- what a module's name holds, once for all -/
def Glo (R : RC) (x : Str) (d : D) : Prop := ∃ u v, R.mg x = some u ∧ RelV v u ∧ ∀ S H, Rep R S H v d
theorem de_gl {x : Str} {d : D} {pos : Pos} (c : CxR X R E) (hg : Gl X x) (h : Glo R x d) (hdb : (x == ("__debug__" : Str)) = false := by decide) : DE X R E (.Name x pos) (dC d) := by
  obtain ⟨u, v, h1, h2, h3⟩ := h
  exact ⟨⟨tC v, pe_glob hg (by rw [c.mg]; exact h1) h2 hdb, fun _ _ _ _ _ _ hr _ h => h.now hr _ (h3 _ _)⟩⟩
/-- a built-in type as a value -/
theorem de_ty {x : Str} {n : Tn} {pos : Pos} (hg : Gl X x) (hm : X.mg x = none) (hv : bootBuiltins x = some (.type n.name)) (hn : x ≠ "__name__" := by decide) (hdb : (x == ("__debug__" : Str)) = false := by decide) : DE X R E (.Name x pos) (dC (.ty n)) :=
  ⟨⟨tC (.ty n.name), pe_bltn hg hm hv rfl hn hdb, fun _ _ _ _ _ _ hr _ h => h.now hr _ (.ty n)⟩⟩

/-! ### operations on values -/
/-- a two-place operation does g -/
def OpD (X : Cx) (R : RC) (E : XK) (f : Value → Value → Sem Value) (g : D → D → M D) : Prop :=
  ∃ r : R2, OpR X f r ∧ ∀ S H m x y a b Q, HR R S H m → Rep R S H x a → Rep R S H y b → RoutG R S H E (PV R Q) (g a b m) → r x y H Q
def dBin (g : D → D → M D) (fa fb : FE) : FE := fun ρ => M.bind (fa ρ) fun a => M.bind (fb ρ) fun b => g a b
def asB : D → M Bool
  | .bl b => fun m => .ok b m
  | _ => fun _ => .stuck
theorem asB_out {S : Sto} {H : Hp} {P : Bool → MS → Hp → Sto → Prop} {d : D} {m : MS} (h : RoutG R S H E P (asB d m)) : ∃ b, d = .bl b ∧ RoutG R S H E P (.ok b m) := by
  cases d with
  | bl b => exact ⟨b, rfl, h⟩
  | _ => exact h.elim
theorem rep_bl {S : Sto} {H : Hp} {v : V} {b : Bool} (r : Rep R S H v (.bl b)) : v = .bl b := by cases r; rfl
theorem rep_int {S : Sto} {H : Hp} {v : V} {b : Int} (r : Rep R S H v (.int b)) : v = .int b := by cases r; rfl
theorem rep_str {S : Sto} {H : Hp} {v : V} {b : Str} (r : Rep R S H v (.str b)) : v = .str b := by cases r; rfl
theorem rep_non {S : Sto} {H : Hp} {v : V} (r : Rep R S H v .non) : v = .non := by cases r; rfl
theorem rep_ty {S : Sto} {H : Hp} {v : V} {n : Tn} (r : Rep R S H v (.ty n)) : v = .ty n.name := by cases r; rfl
theorem rep_fn {S : Sto} {H : Hp} {v : V} {x : Str} (r : Rep R S H v (.fn x)) : ∃ a, v = .ref a ∧ R.mg x = some (.ref a) := by cases r with | fn h => exact ⟨_, rfl, h⟩

variable {a b c : Expr} {fa fb fc : FE} {pos : Pos}
theorem bin_out {r : R2} {ta tb : TE} {g : D → D → M D} (ro : R.Ok)
    (ha : ∀ S σ H ρ m Q, HR R S H m → ER R S H σ ρ → RoutG R S H E (PV R Q) (fa ρ m) → ta σ H Q) (hb : ∀ S σ H ρ m Q, HR R S H m → ER R S H σ ρ → RoutG R S H E (PV R Q) (fb ρ m) → tb σ H Q)
    (hg : ∀ S H m x y a b Q, HR R S H m → Rep R S H x a → Rep R S H y b → RoutG R S H E (PV R Q) (g a b m) → r x y H Q)
    {S : Sto} {σ : L2.St} {H : Hp} {ρ : Env'} {m : MS} {Q : VK} (hr : HR R S H m) (he : ER R S H σ ρ) (h : RoutG R S H E (PV R Q) (dBin g fa fb ρ m)) : tOp r ta tb σ H Q := by
  refine ha S σ H ρ m _ hr he (h.step fun x m1 H1 S1 e1 r1 q v rv => ?_)
  refine hb S1 σ H1 ρ m1 _ r1 (he.ext ro e1) (q.step fun y m2 H2 S2 e2 r2 q2 w rw' => ?_)
  exact hg S2 H2 m2 v w x y Q r2 (rv.ext ro e2) rw' q2
theorem de_op {op : Operator} {g : D → D → M D} (cx : CxR X R E) (ho : OpD X R E (binaryOp op) g) (ha : DE X R E a fa) (hb : DE X R E b fb) : DE X R E (.BinOp a op b pos) (dBin g fa fb) := by
  obtain ⟨r, h1, h2⟩ := ho
  obtain ⟨ta, a1, a2⟩ := ha.ex
  obtain ⟨tb, b1, b2⟩ := hb.ex
  exact ⟨⟨_, pe_op h1 a1 b1, fun S σ H ρ m Q hr he h => bin_out cx.ok a2 b2 h2 hr he h⟩⟩
theorem de_cmp {op : CmpOp} {g : D → D → M D} (cx : CxR X R E) (ho : OpD X R E (compareOp op) g) (ha : DE X R E a fa) (hb : DE X R E b fb) (hm : behindInMarks op b = false) : DE X R E (.Compare a [op] [b] pos) (dBin g fa fb) := by
  obtain ⟨r, h1, h2⟩ := ho
  obtain ⟨ta, a1, a2⟩ := ha.ex
  obtain ⟨tb, b1, b2⟩ := hb.ex
  exact ⟨⟨_, pe_cmpR h1 a1 b1 hm, fun S σ H ρ m Q hr he h => bin_out cx.ok a2 b2 h2 hr he h⟩⟩
def toB (f : FE) : FB := fun ρ => M.bind (f ρ) asB
/-- a bool's value wanted as a test -/
theorem pv_toB {S : Sto} {H : Hp} {r : Res D} {Q : Bool → Hp → Prop} (h : RoutG R S H E (PB Q) (M.bind (fun _ => r) asB ⟨[], none⟩)) : RoutG R S H E (PV R fun x H' => ∃ k, x = .bl k ∧ Q k H') r := by
  refine RoutG.step (x := fun _ => r) (m := ⟨[], none⟩) h fun d m1 H1 S1 e1 r1 q v rv => ?_
  obtain ⟨b, rfl, q'⟩ := asB_out q
  exact ⟨b, rep_bl rv, q'.now r1⟩
theorem toB_out {S : Sto} {H : Hp} {f : FE} {ρ : Env'} {m : MS} {Q : Bool → Hp → Prop} (h : RoutG R S H E (PB Q) (toB f ρ m)) : RoutG R S H E (PV R fun x H' => ∃ k, x = .bl k ∧ Q k H') (f ρ m) := by
  refine RoutG.step (x := f ρ) h fun d m1 H1 S1 e1 r1 q v rv => ?_
  obtain ⟨b, rfl, q'⟩ := asB_out q
  exact ⟨b, rep_bl rv, q'.now r1⟩
theorem dt_cmp {op : CmpOp} {g : D → D → M D} (cx : CxR X R E) (ho : OpD X R E (compareOp op) g) (ha : DE X R E a fa) (hb : DE X R E b fb) (hm : behindInMarks op b = false) : DT X R E (.Compare a [op] [b] pos) (toB (dBin g fa fb)) := by
  obtain ⟨r, h1, h2⟩ := ho
  obtain ⟨ta, a1, a2⟩ := ha.ex
  obtain ⟨tb, b1, b2⟩ := hb.ex
  exact ⟨⟨_, pt_cmpR h1 a1 b1 hm, fun S σ H ρ m Q hr he h => bin_out cx.ok a2 b2 h2 hr he (toB_out h)⟩⟩
/-- any expression whose value is a bool, as a test -/
theorem dt_val (ha : DE X R E a fa) (he : ∀ whole, isTrue a X.env whole = (do let v ← whole; standAt a.pos; holding [v] (truthy v)) := by intro _; rfl) : DT X R E a (toB fa) := by
  obtain ⟨ta, a1, a2⟩ := ha.ex
  exact ⟨⟨_, pt_val a1 he, fun S σ H ρ m Q hr he h => a2 S σ H ρ m _ hr he (toB_out h)⟩⟩
def dChain (g g' : D → D → M D) (fa fb fc : FE) : FE := fun ρ => M.bind (fa ρ) fun a => M.bind (fb ρ) fun b => M.bind (g a b) fun z => M.bind (asB z) fun k => if k then M.bind (fc ρ) fun c => g' b c else fun m => .ok (.bl false) m
theorem chain_out {r r' : R2} {ta tb tc : TE} {g g' : D → D → M D} (ro : R.Ok)
    (ha : ∀ S σ H ρ m Q, HR R S H m → ER R S H σ ρ → RoutG R S H E (PV R Q) (fa ρ m) → ta σ H Q) (hb : ∀ S σ H ρ m Q, HR R S H m → ER R S H σ ρ → RoutG R S H E (PV R Q) (fb ρ m) → tb σ H Q) (hc : ∀ S σ H ρ m Q, HR R S H m → ER R S H σ ρ → RoutG R S H E (PV R Q) (fc ρ m) → tc σ H Q)
    (hg : ∀ S H m x y a b Q, HR R S H m → Rep R S H x a → Rep R S H y b → RoutG R S H E (PV R Q) (g a b m) → r x y H Q) (hg' : ∀ S H m x y a b Q, HR R S H m → Rep R S H x a → Rep R S H y b → RoutG R S H E (PV R Q) (g' a b m) → r' x y H Q)
    {S : Sto} {σ : L2.St} {H : Hp} {ρ : Env'} {m : MS} {Q : VK} (hr : HR R S H m) (he : ER R S H σ ρ) (h : RoutG R S H E (PV R Q) (dChain g g' fa fb fc ρ m)) : tChain r r' ta tb tc σ H Q := by
  refine ha S σ H ρ m _ hr he (h.step fun x m1 H1 S1 e1 r1 q v rv => ?_)
  refine hb S1 σ H1 ρ m1 _ r1 (he.ext ro e1) (q.step fun y m2 H2 S2 e2 r2 q2 w rw' => ?_)
  refine hg S2 H2 m2 v w x y _ r2 (rv.ext ro e2) rw' (q2.step fun z m3 H3 S3 e3 r3 q3 u ru => ?_)
  have q4 := q3
  unfold M.bind at q4
  obtain ⟨k, rfl, _⟩ : ∃ k, z = .bl k ∧ True := by
    cases z with
    | bl k => exact ⟨k, rfl, trivial⟩
    | _ => exact q4.elim
  refine ⟨k, rep_bl ru, ?_⟩
  have q5 : RoutG R S3 H3 E (PV R Q) ((if k then M.bind (fc ρ) fun c => g' y c else fun m => .ok (.bl false) m) m3) := q4
  cases k with
  | false =>
    rw [if_neg Bool.false_ne_true] at q5 ⊢
    exact q5.now r3 _ (.bl false)
  | true =>
    rw [if_pos rfl] at q5 ⊢
    refine hc S3 σ H3 ρ m3 _ r3 (he.ext ro ((e1.trans e2).trans e3)) (q5.step fun z m4 H4 S4 e4 r4 q6 t rt => ?_)
    exact hg' S4 H4 m4 w t y z Q r4 ((rw'.ext ro e3).ext ro e4) rt q6
theorem de_chain {op op' : CmpOp} {g g' : D → D → M D} (cx : CxR X R E) (ho : OpD X R E (compareOp op) g) (ho' : OpD X R E (compareOp op') g') (ha : DE X R E a fa) (hb : DE X R E b fb) (hc : DE X R E c fc)
    (hm : lastMarks [op, op'] [b, c] = false := by with_unfolding_all rfl) : DE X R E (.Compare a [op, op'] [b, c] pos) (dChain g g' fa fb fc) := by
  obtain ⟨r, h1, h2⟩ := ho
  obtain ⟨r', h1', h2'⟩ := ho'
  obtain ⟨ta, a1, a2⟩ := ha.ex
  obtain ⟨tb, b1, b2⟩ := hb.ex
  obtain ⟨tc, c1, c2⟩ := hc.ex
  exact ⟨⟨_, pe_chain h1 h1' a1 b1 c1 hm, fun S σ H ρ m Q hr he h => chain_out cx.ok a2 b2 c2 h2 h2' hr he h⟩⟩
theorem dt_chain {op op' : CmpOp} {g g' : D → D → M D} (cx : CxR X R E) (ho : OpD X R E (compareOp op) g) (ho' : OpD X R E (compareOp op') g') (ha : DE X R E a fa) (hb : DE X R E b fb) (hc : DE X R E c fc)
    (hm : lastMarks [op, op'] [b, c] = false := by with_unfolding_all rfl) : DT X R E (.Compare a [op, op'] [b, c] pos) (toB (dChain g g' fa fb fc)) := by
  obtain ⟨r, h1, h2⟩ := ho
  obtain ⟨r', h1', h2'⟩ := ho'
  obtain ⟨ta, a1, a2⟩ := ha.ex
  obtain ⟨tb, b1, b2⟩ := hb.ex
  obtain ⟨tc, c1, c2⟩ := hc.ex
  exact ⟨⟨_, pt_chain h1 h1' a1 b1 c1 hm, fun S σ H ρ m Q hr he h => chain_out cx.ok a2 b2 c2 h2 h2' hr he (toB_out h)⟩⟩

/-! ### and, or, not, if -/
structure DW (X : Cx) (R : RC) (E : XK) (e : Expr) (f : FB) : Prop where
  ex : ∃ t, PW X e t ∧ ∀ S σ H ρ m Q, HR R S H m → ER R S H σ ρ → RoutG R S H E (PB Q) (f ρ m) → t σ H Q
theorem DW.dt {e : Expr} {f : FB} (h : DW X R E e f) : DT X R E e f := by
  obtain ⟨t, h1, h2⟩ := h.ex
  exact ⟨⟨t, h1.pt, h2⟩⟩
def bAnd (f g : FB) : FB := fun ρ => M.bind (f ρ) fun k => if k then g ρ else fun m => .ok false m
def bOr (f g : FB) : FB := fun ρ => M.bind (f ρ) fun k => if k then fun m => .ok true m else g ρ
def bNot (f : FB) : FB := fun ρ => M.bind (f ρ) fun k m => .ok (!k) m
variable {ga gb : FB} {rest : List Expr}
theorem dw_and1 (ha : DT X R E a ga) : DW X R E (.BoolOp .And [a] pos) ga := by
  obtain ⟨t, h1, h2⟩ := ha.ex
  exact ⟨⟨t, pw_and1 h1, h2⟩⟩
theorem dw_or1 (ha : DT X R E a ga) : DW X R E (.BoolOp .Or [a] pos) ga := by
  obtain ⟨t, h1, h2⟩ := ha.ex
  exact ⟨⟨t, pw_or1 h1, h2⟩⟩
theorem dw_and (cx : CxR X R E) (ha : DT X R E a ga) (hb : DW X R E (.BoolOp .And (b :: rest) pos) gb) : DW X R E (.BoolOp .And (a :: b :: rest) pos) (bAnd ga gb) := by
  obtain ⟨t, h1, h2⟩ := ha.ex
  obtain ⟨u, k1, k2⟩ := hb.ex
  refine ⟨⟨_, pw_and h1 k1, fun S σ H ρ m Q hr he h => h2 S σ H ρ m _ hr he (h.step fun k m1 H1 S1 e1 r1 q => ?_)⟩⟩
  cases k with
  | true => exact k2 S1 σ H1 ρ m1 Q r1 (he.ext cx.ok e1) q
  | false => exact (show PB Q false m1 H1 S1 from RoutG.now (R := R) (E := E) q r1)
theorem dw_or (cx : CxR X R E) (ha : DT X R E a ga) (hb : DW X R E (.BoolOp .Or (b :: rest) pos) gb) : DW X R E (.BoolOp .Or (a :: b :: rest) pos) (bOr ga gb) := by
  obtain ⟨t, h1, h2⟩ := ha.ex
  obtain ⟨u, k1, k2⟩ := hb.ex
  refine ⟨⟨_, pw_or h1 k1, fun S σ H ρ m Q hr he h => h2 S σ H ρ m _ hr he (h.step fun k m1 H1 S1 e1 r1 q => ?_)⟩⟩
  cases k with
  | false => exact k2 S1 σ H1 ρ m1 Q r1 (he.ext cx.ok e1) q
  | true => exact (show PB Q true m1 H1 S1 from RoutG.now (R := R) (E := E) q r1)
theorem dt_not (ha : DT X R E a ga) : DT X R E (.UnaryOp .Not a pos) (bNot ga) := by
  obtain ⟨t, h1, h2⟩ := ha.ex
  exact ⟨⟨_, pt_not h1, fun S σ H ρ m Q hr he h => h2 S σ H ρ m _ hr he (h.step fun k m1 H1 S1 e1 r1 q => (show PB Q (!k) m1 H1 S1 from RoutG.now (R := R) (E := E) q r1))⟩⟩
def dAnd (f g : FE) : FE := fun ρ => M.bind (toB f ρ) fun k => if k then g ρ else fun m => .ok (.bl false) m
def dOr (f g : FE) : FE := fun ρ => M.bind (toB f ρ) fun k => if k then fun m => .ok (.bl true) m else g ρ
def dNot (f : FE) : FE := fun ρ => M.bind (toB f ρ) fun k m => .ok (.bl (!k)) m
theorem de_one {op : BoolOp} (h : DE X R E a fa) : DE X R E (.BoolOp op [a] pos) fa := by
  obtain ⟨t, h1, h2⟩ := h.ex
  exact ⟨⟨t, pe_one h1, h2⟩⟩
theorem de_and (cx : CxR X R E) (ha : DE X R E a fa) (hb : DE X R E (.BoolOp .And (b :: rest) pos) fb) : DE X R E (.BoolOp .And (a :: b :: rest) pos) (dAnd fa fb) := by
  obtain ⟨t, h1, h2⟩ := ha.ex
  obtain ⟨u, k1, k2⟩ := hb.ex
  refine ⟨⟨_, pe_and h1 k1, fun S σ H ρ m Q hr he h => ?_⟩⟩
  have h' : RoutG R S H E (PB fun k H1 => if k = true then u σ H1 Q else Q (.bl false) H1) (toB fa ρ m) := h.step fun k m1 H1 S1 e1 r1 q => by
    cases k with
    | true => exact k2 S1 σ H1 ρ m1 Q r1 (he.ext cx.ok e1) q
    | false => exact RoutG.now (show RoutG R S1 H1 E (PV R Q) (.ok (.bl false) m1) from q) r1 _ (.bl false)
  exact h2 S σ H ρ m _ hr he (toB_out h')
theorem de_or (cx : CxR X R E) (ha : DE X R E a fa) (hb : DE X R E (.BoolOp .Or (b :: rest) pos) fb) : DE X R E (.BoolOp .Or (a :: b :: rest) pos) (dOr fa fb) := by
  obtain ⟨t, h1, h2⟩ := ha.ex
  obtain ⟨u, k1, k2⟩ := hb.ex
  refine ⟨⟨_, pe_or h1 k1, fun S σ H ρ m Q hr he h => ?_⟩⟩
  have h' : RoutG R S H E (PB fun k H1 => if k = true then Q (.bl true) H1 else u σ H1 Q) (toB fa ρ m) := h.step fun k m1 H1 S1 e1 r1 q => by
    cases k with
    | false => exact k2 S1 σ H1 ρ m1 Q r1 (he.ext cx.ok e1) q
    | true => exact RoutG.now (show RoutG R S1 H1 E (PV R Q) (.ok (.bl true) m1) from q) r1 _ (.bl true)
  exact h2 S σ H ρ m _ hr he (toB_out h')
theorem de_not (ha : DE X R E a fa) : DE X R E (.UnaryOp .Not a pos) (dNot fa) := by
  obtain ⟨t, h1, h2⟩ := ha.ex
  refine ⟨⟨_, pe_not h1, fun S σ H ρ m Q hr he h => ?_⟩⟩
  have h' : RoutG R S H E (PB fun k H1 => Q (.bl (!k)) H1) (toB fa ρ m) := h.step fun k m1 H1 S1 e1 r1 q => RoutG.now (show RoutG R S1 H1 E (PV R Q) (.ok (.bl (!k)) m1) from q) r1 _ (.bl _)
  exact h2 S σ H ρ m _ hr he (toB_out h')
def dIf (g : FB) (fa fb : FE) : FE := fun ρ => M.bind (g ρ) fun k => if k then fa ρ else fb ρ
theorem de_if (cx : CxR X R E) (hc : DT X R E c ga) (ha : DE X R E a fa) (hb : DE X R E b fb) : DE X R E (.IfExp c a b pos) (dIf ga fa fb) := by
  obtain ⟨tc, c1, c2⟩ := hc.ex
  obtain ⟨ta, a1, a2⟩ := ha.ex
  obtain ⟨tb, b1, b2⟩ := hb.ex
  refine ⟨⟨_, pe_ifExp c1 a1 b1, fun S σ H ρ m Q hr he h => c2 S σ H ρ m _ hr he (h.step fun k m1 H1 S1 e1 r1 q => ?_)⟩⟩
  cases k with
  | true => exact a2 S1 σ H1 ρ m1 Q r1 (he.ext cx.ok e1) q
  | false => exact b2 S1 σ H1 ρ m1 Q r1 (he.ext cx.ok e1) q

/-! ### argument lists, displays -/
def aNil : FA := fun _ m => .ok [] m
def aCons (f : FE) (g : FA) : FA := fun ρ => M.bind (f ρ) fun d => M.bind (g ρ) fun ds m => .ok (d :: ds) m
variable {e : Expr} {es : List Expr} {f : FE} {g : FA}
theorem da_nil : DA X R E [] aNil := ⟨⟨_, pa_nil, fun S σ H ρ m Q hr he h => h.now hr _ .nil⟩⟩
theorem da_cons (cx : CxR X R E) (h1 : DE X R E e f) (h2 : DA X R E es g) (hs : starEach (e :: es) X.env = (false, eval e X.env) :: starEach es X.env := by rfl) : DA X R E (e :: es) (aCons f g) := by
  obtain ⟨t, a1, a2⟩ := h1.ex
  obtain ⟨u, b1, b2⟩ := h2.ex
  refine ⟨⟨_, pa_cons a1 b1 hs, fun S σ H ρ m Q hr he h => a2 S σ H ρ m _ hr he (h.step fun d m1 H1 S1 e1 r1 q v rv => ?_)⟩⟩
  refine b2 S1 σ H1 ρ m1 _ r1 (he.ext cx.ok e1) (q.step fun ds m2 H2 S2 e2 r2 q2 vs rvs => ?_)
  exact q2.now r2 _ (.cons (rv.ext cx.ok e2) rvs)
def short (ds : List D) : Bool := decide (ds.length ≤ 1000000)
theorem short_line {ds : List D} (h : short ds = true) : ds.length ≤ sizeLine := Nat.le_trans (of_decide_eq_true h) (by decide)
theorem short_lt {ds : List D} (h : short ds = true) : ds.length < sizeLine := Nat.lt_of_le_of_lt (of_decide_eq_true h) (by decide)
def newT (ds : List D) : M D := fun m => if short ds then .ok (.tup ds) m else .stuck
def newL (fr : Bool) (ds : List D) : M D := fun m => if short ds then (if fr then .ok (.ref m.objs.length) { m with objs := m.objs ++ [.lst ds] } else .ok (.lst ds) m) else .stuck
section
variable {S : Sto} {H : Hp} {m : MS} {ds : List D} {vs : List V} {Q : VK}
theorem newT_out (ro : R.Ok) (hr : HR R S H m) (r : RepAll R S H vs ds) (h : RoutG R S H E (PV R Q) (newT ds m)) : vs.length ≤ sizeLine ∧ ∀ p, H p = none → Q (.ref p) (upd H p (.tup vs)) := by
  unfold newT at h
  by_cases hs : short ds = true
  · rw [if_pos hs] at h
    refine ⟨by rw [r.length]; exact short_line hs, fun p hp => ?_⟩
    refine h _ S (Ext.newObj hr hp) (hr.newObj ro hp) _ (.tup (.inl ⟨upd_same, hr.fresh hp⟩) (r.ext ro (Ext.newObj hr hp)))
  · rw [if_neg hs] at h
    exact h.elim
theorem newL_out (ro : R.Ok) {fr : Bool} (hr : HR R S H m) (r : RepAll R S H vs ds) (h : RoutG R S H E (PV R Q) (newL fr ds m)) : vs.length ≤ sizeLine ∧ ∀ p, H p = none → Q (.ref p) (upd H p (.lst vs)) := by
  unfold newL at h
  by_cases hs : short ds = true
  · rw [if_pos hs] at h
    refine ⟨by rw [r.length]; exact short_line hs, fun p hp => ?_⟩
    cases fr with
    | false =>
      rw [if_neg Bool.false_ne_true] at h
      exact h _ S (Ext.newObj hr hp) (hr.newObj ro hp) _ (.lst ⟨upd_same, hr.fresh hp⟩ (r.ext ro (Ext.newObj hr hp)))
    | true =>
      rw [if_pos rfl] at h
      refine h _ (S.add p) (Ext.newRef hr hp) (hr.newRef ro hp ⟨vs, upd_same, r.ext ro (Ext.newRef hr hp)⟩) _ (.ref ?_)
      show (S.refs ++ [p])[m.objs.length]? = some p
      rw [← hr.len, List.getElem?_concat_length]
  · rw [if_neg hs] at h
    exact h.elim
end
def dTup (g : FA) : FE := fun ρ => M.bind (g ρ) newT
def dLst (fr : Bool) (g : FA) : FE := fun ρ => M.bind (g ρ) (newL fr)
theorem de_tup {k : Nat} (cx : CxR X R E) (h : DA X R E es g) : DE X R E (.Tuple es k pos) (dTup g) := by
  obtain ⟨t, a1, a2⟩ := h.ex
  exact ⟨⟨_, pe_tup a1, fun S σ H ρ m Q hr he h => a2 S σ H ρ m _ hr he (h.step fun ds m1 H1 S1 e1 r1 q vs rv => newT_out cx.ok r1 rv q)⟩⟩
theorem de_lst (fr : Bool) (cx : CxR X R E) (h : DA X R E es g) : DE X R E (.List es pos) (dLst fr g) := by
  obtain ⟨t, a1, a2⟩ := h.ex
  exact ⟨⟨_, pe_lst a1, fun S σ H ρ m Q hr he h => a2 S σ H ρ m _ hr he (h.step fun ds m1 H1 S1 e1 r1 q vs rv => newL_out cx.ok r1 rv q)⟩⟩

/-! ### sequences read -/
/-- the items of a list, a tuple -/
def seqD (m : MS) : D → Option (List D)
  | .tup xs => some xs
  | .scr ns => some (ns.map D.int)
  | .lst xs => some xs
  | .ref n => match m.objs[n]? with | some (.lst xs) => some xs | _ => none
  | _ => none
def lstD (m : MS) : D → Option (List D)
  | .lst xs => some xs
  | .ref n => match m.objs[n]? with | some (.lst xs) => some xs | _ => none
  | _ => none
def scrD : D → Option (List D)
  | .scr ns => some (ns.map D.int)
  | _ => none
def tupD : D → Option (List D)
  | .tup xs => some xs
  | _ => none
section
variable {S : Sto} {H : Hp} {m : MS} {v : V} {d : D} {ds : List D}
theorem lstD_out (hr : HR R S H m) (r : Rep R S H v d) (h : lstD m d = some ds) : ∃ a vs, v = .ref a ∧ SqL R.K H a vs ∧ RepAll R S H vs ds ∧ H a = some (.lst vs) := by
  cases r with
  | lst hl ha => cases h; exact ⟨_, _, rfl, hl.sq, ha, hl.1⟩
  | @ref n a hn =>
    unfold lstD at h
    dsimp only at h
    cases e : m.objs[n]? with
    | none => rw [e] at h; cases h
    | some o =>
      rw [e] at h
      cases o with
      | lst xs =>
        cases h
        obtain ⟨vs, h1, h2⟩ := hr.obj n a _ hn e
        exact ⟨a, vs, rfl, SqL.of h1, h2, h1⟩
      | _ => cases h
  | _ => cases h
theorem tupD_out (r : Rep R S H v d) (h : tupD d = some ds) : ∃ a vs, v = .ref a ∧ SqT R.K H a vs ∧ RepAll R S H vs ds ∧ TupAt R S H a vs := by
  cases r with
  | tup hl ha => cases h; exact ⟨_, _, rfl, hl.sq, ha, hl⟩
  | _ => cases h
theorem scrD_out (r : Rep R S H v d) (h : scrD d = some ds) : ∃ a vs, v = .ref a ∧ SqL R.K H a vs ∧ RepAll R S H vs ds := by
  cases r with
  | scr hl n => cases h; exact ⟨_, _, rfl, .inl (.inr ⟨_, hl⟩), RepAll.ints _⟩
  | _ => cases h
theorem seqD_cases (h : seqD m d = some ds) : lstD m d = some ds ∨ tupD d = some ds ∨ scrD d = some ds := by
  cases d with
  | tup xs => exact .inr (.inl h)
  | scr ns => exact .inr (.inr h)
  | lst xs => exact .inl h
  | ref n => exact .inl h
  | _ => cases h
theorem seqD_out (hr : HR R S H m) (r : Rep R S H v d) (h : seqD m d = some ds) : ∃ a vs, v = .ref a ∧ (SqL R.K H a vs ∨ SqT R.K H a vs) ∧ RepAll R S H vs ds := by
  rcases seqD_cases h with h | h | h
  · obtain ⟨a, vs, h1, h2, h3, _⟩ := lstD_out hr r h
    exact ⟨a, vs, h1, .inl h2, h3⟩
  · obtain ⟨a, vs, h1, h2, h3, _⟩ := tupD_out r h
    exact ⟨a, vs, h1, .inr h2, h3⟩
  · obtain ⟨a, vs, h1, h2, h3⟩ := scrD_out r h
    exact ⟨a, vs, h1, .inl h2, h3⟩
end
theorem RepAll.atI {S : Sto} {H : Hp} {vs : List V} {ds : List D} {i : Int} {d : D} (r : RepAll R S H vs ds) (h : atI ds i = some d) : ∃ v, L2.atI vs i = some v ∧ Rep R S H v d := by
  unfold L2.atI at h ⊢
  rw [r.length]
  cases e : ixN ds.length i with
  | none => rw [e] at h; cases h
  | some j =>
    rw [e] at h
    obtain ⟨v, h1, h2⟩ := r.get (i := j) (d := d) h
    exact ⟨v, h1, h2⟩
def ixD (a b : D) : M D := fun m => match b with
  | .int i => match a with
    | .str s => if s.length ≤ 1000000 then (match atI s.cps.toList i with | some c => .ok (.str ⟨#[c]⟩) m | none => .stuck) else .stuck
    | a => match seqD m a with
      | some xs => (match atI xs i with | some d => .ok d m | none => .stuck)
      | none => .stuck
  | _ => .stuck
theorem ix_out (cx : CxR X R E) {S : Sto} {H : Hp} {m : MS} {x y : V} {a b : D} {Q : VK} (hr : HR R S H m) (ra : Rep R S H x a) (rb : Rep R S H y b) (h : RoutG R S H E (PV R Q) (ixD a b m)) : rIx X.K x y H Q := by
  rw [cx.K]
  unfold ixD at h
  cases b with
  | int i =>
    have ey := rep_int rb
    have main : ∀ xs, seqD m a = some xs → RoutG R S H E (PV R Q) (match atI xs i with | some d => Res.ok d m | none => .stuck) → rIx R.K x y H Q := fun xs hs h => by
      obtain ⟨p, vs, rfl, hq, rv⟩ := seqD_out hr ra hs
      cases e : atI xs i with
      | none => rw [e] at h; exact h.elim
      | some d =>
        rw [e] at h
        obtain ⟨v, h1, h2⟩ := rv.atI e
        have q := h.now hr v h2
        rcases hq with hq | hq
        · exact .inl ⟨p, vs, i, v, rfl, ey, hq, h1, q⟩
        · exact .inr (.inl ⟨p, vs, i, v, rfl, ey, hq, h1, q⟩)
    cases a with
    | str s =>
      dsimp only at h
      by_cases hs : s.length ≤ 1000000
      · rw [if_pos hs] at h
        cases e : atI s.cps.toList i with
        | none => rw [e] at h; exact h.elim
        | some c =>
          rw [e] at h
          exact .inr (.inr ⟨s, i, c, rep_str ra, ey, Nat.le_trans hs (by decide), e, h.now hr _ (.str _)⟩)
      · rw [if_neg hs] at h
        exact h.elim
    | tup xs => exact main xs rfl h
    | scr xs => exact main _ rfl h
    | lst xs => exact main xs rfl h
    | ref n =>
      dsimp only at h
      cases e : seqD m (.ref n) with
      | none => rw [e] at h; exact h.elim
      | some xs => rw [e] at h; exact main xs e h
    | _ => exact h.elim
  | _ => exact h.elim
theorem de_ix (cx : CxR X R E) (ha : DE X R E a fa) (hb : DE X R E b fb) (hs : PlainIx b := by intro _ _; rfl) : DE X R E (.Subscript a b pos) (dBin ixD fa fb) := by
  obtain ⟨ta, a1, a2⟩ := ha.ex
  obtain ⟨tb, b1, b2⟩ := hb.ex
  exact ⟨⟨_, pe_ix ix_seq a1 b1 hs, fun S σ H ρ m Q hr he h => bin_out cx.ok a2 b2 (fun S H m x y a b Q hr ra rb h => ix_out cx hr ra rb h) hr he h⟩⟩

/-! ### slices -/
structure DO (X : Cx) (R : RC) (E : XK) (e : Option Expr) (f : Env' → M (Option Int)) : Prop where
  ex : ∃ t, PO X e t ∧ ∀ S σ H ρ m Q, HR R S H m → ER R S H σ ρ → RoutG R S H E (fun i _ H' _ => Q i H') (f ρ m) → t σ H Q
def oNone : Env' → M (Option Int) := fun _ m => .ok none m
def asI : D → M (Option Int)
  | .int i => fun m => .ok (some i) m
  | _ => fun _ => .stuck
def oSome (f : FE) : Env' → M (Option Int) := fun ρ => M.bind (f ρ) asI
theorem do_none : DO X R E none oNone := ⟨⟨_, po_none, fun S σ H ρ m Q hr he h => h.now hr⟩⟩
theorem do_some (h : DE X R E e f) : DO X R E (some e) (oSome f) := by
  obtain ⟨t, a1, a2⟩ := h.ex
  refine ⟨⟨_, po_some a1, fun S σ H ρ m Q hr he h => a2 S σ H ρ m _ hr he (h.step fun d m1 H1 S1 e1 r1 q v rv => ?_)⟩⟩
  cases d with
  | int i => exact ⟨i, rep_int rv, q.now r1⟩
  | _ => exact q.elim
def cutD (xs : List D) (lo hi : Option Int) : List D := (xs.drop (HT.sIx xs.length 0 lo)).take (HT.sIx xs.length xs.length hi - HT.sIx xs.length 0 lo)
theorem cut_rep {S : Sto} {H : Hp} {vs : List V} {ds : List D} (r : RepAll R S H vs ds) (lo hi : Option Int) : RepAll R S H (cutV vs lo hi) (cutD ds lo hi) := by
  unfold cutV cutD
  rw [r.length]
  exact (r.drop _).take _
def slD (fr : Bool) (a : D) (lo hi : Option Int) : M D := fun m => match a with
  | .tup xs => if short xs then .ok (.tup (cutD xs lo hi)) m else .stuck
  | .str s => if s.length ≤ 1000000 then .ok (.str (cutS s lo hi)) m else .stuck
  | a => match lstD m a with | some xs => if short xs then newL fr (cutD xs lo hi) m else .stuck | none => .stuck
def dSl (fr : Bool) (fa : FE) (lo hi : Env' → M (Option Int)) : FE := fun ρ => M.bind (fa ρ) fun a => M.bind (lo ρ) fun l => M.bind (hi ρ) fun u => slD fr a l u
theorem short_cut {xs : List D} {lo hi : Option Int} (h : short xs = true) : short (cutD xs lo hi) = true := by
  unfold short at *
  have := of_decide_eq_true h
  refine decide_eq_true ?_
  unfold cutD
  rw [List.length_take, List.length_drop]
  omega
theorem sl_out (cx : CxR X R E) (fr : Bool) {S : Sto} {H : Hp} {m : MS} {x : V} {a : D} {lo hi : Option Int} {Q : VK} (hr : HR R S H m) (ra : Rep R S H x a) (h : RoutG R S H E (PV R Q) (slD fr a lo hi m)) :
    rSlA X.K x lo hi H Q ∨ rSlL X.K x lo hi H Q ∨ (∃ z, x = .str z ∧ z.length ≤ sizeLine ∧ Q (.str (cutS z lo hi)) H) := by
  rw [cx.K]
  unfold slD at h
  have main : ∀ xs, lstD m a = some xs → RoutG R S H E (PV R Q) (if short xs then newL fr (cutD xs lo hi) m else .stuck) → rSlL R.K x lo hi H Q := fun xs hs h => by
    obtain ⟨p, vs, rfl, hq, rv, _⟩ := lstD_out hr ra hs
    by_cases hz : short xs = true
    · rw [if_pos hz] at h
      exact ⟨p, vs, rfl, hq, (newL_out cx.ok hr (cut_rep rv lo hi) h).2⟩
    · rw [if_neg hz] at h
      exact h.elim
  cases a with
  | tup xs =>
    dsimp only at h
    by_cases hs : short xs = true
    · rw [if_pos hs] at h
      left
      obtain ⟨p, vs, rfl, hq, rv, ht⟩ := tupD_out ra rfl
      refine ⟨p, vs, rfl, hq, fun hw => ?_, fun hw q hp => ?_⟩
      · refine h.now hr _ (.tup ht ?_)
        have e := cut_rep rv lo hi
        have e2 : cutV vs lo hi = vs := by
          unfold cutV
          rw [hw.1, hw.2, List.drop_zero, Nat.sub_zero, List.take_length]
        rw [e2] at e
        exact e
      · have h' : RoutG R S H E (PV R Q) (newT (cutD xs lo hi) m) := by
          unfold newT
          rw [if_pos (short_cut hs)]
          exact h
        exact (newT_out cx.ok hr (cut_rep rv lo hi) h').2 q hp
    · rw [if_neg hs] at h
      exact h.elim
  | str s =>
    dsimp only at h
    by_cases hs : s.length ≤ 1000000
    · rw [if_pos hs] at h
      exact .inr (.inr ⟨s, rep_str ra, Nat.le_trans hs (by decide), h.now hr _ (.str _)⟩)
    · rw [if_neg hs] at h
      exact h.elim
  | lst xs => exact .inr (.inl (main xs rfl h))
  | ref n =>
    dsimp only at h
    cases e : lstD m (.ref n) with
    | none => rw [e] at h; exact h.elim
    | some xs => rw [e] at h; exact .inr (.inl (main xs e h))
  | _ => exact h.elim
theorem de_sl (fr : Bool) {lo hi : Option Expr} {p2 : Pos} {fl fh : Env' → M (Option Int)} (cx : CxR X R E) (he : DE X R E e f) (hl : DO X R E lo fl) (hh : DO X R E hi fh) : DE X R E (.Subscript e (.Slice lo hi none p2) pos) (dSl fr f fl fh) := by
  obtain ⟨t, a1, a2⟩ := he.ex
  obtain ⟨tl, b1, b2⟩ := hl.ex
  obtain ⟨th, c1, c2⟩ := hh.ex
  refine ⟨⟨_, pe_slice (sl_tupA.or (sl_list.or sl_str)) a1 b1 c1, fun S σ H ρ m Q hr he h => a2 S σ H ρ m _ hr he (h.step fun d m1 H1 S1 e1 r1 q v rv => ?_)⟩⟩
  refine b2 S1 σ H1 ρ m1 _ r1 (he.ext cx.ok e1) (q.step fun l m2 H2 S2 e2 r2 q2 => ?_)
  refine c2 S2 σ H2 ρ m2 _ r2 (he.ext cx.ok (e1.trans e2)) (q2.step fun u m3 H3 S3 e3 r3 q3 => ?_)
  exact sl_out cx fr r3 (rv.ext cx.ok (e2.trans e3)) q3
end
end TL
end
section
/-! The data layer: operators, built-in functions. -/
namespace TL
open PySem PySem.Spec PyProof.Rows L2

/-! ### == at any depth -/
mutual
/-- data that == and in are asked of: no reference, so deep -/
def okD : Nat → D → Bool
  | _, .non => true
  | _, .bl _ => true
  | _, .int _ => true
  | _, .str x => PyData.canLay0 (.str x)
  | k + 1, .tup xs => okAll k xs
  | k + 1, .lst xs => okAll k xs
  | _, _ => false
def okAll : Nat → List D → Bool
  | _, [] => true
  | k, x :: xs => okD k x && okAll k xs
end
mutual
def toP : D → PyData
  | .non => .none
  | .bl b => .bool b
  | .int i => .int i
  | .str x => .str x
  | .tup xs => .tuple (toPs xs)
  | .lst xs => .list (toPs xs)
  | _ => .none
def toPs : List D → List PyData
  | [] => []
  | x :: xs => toP x :: toPs xs
end
mutual
/-- == of data -/
def eqvD : D → D → Bool
  | .non, .non => true
  | .bl a, .bl b => a == b
  | .bl a, .int j => (if a then 1 else 0) == j
  | .int i, .bl b => i == (if b then 1 else 0)
  | .int i, .int j => i == j
  | .str x, .str y => x == y
  | .lst xs, .lst ys => eqvAll xs ys
  | .tup xs, .tup ys => eqvAll xs ys
  | _, _ => false
def eqvAll : List D → List D → Bool
  | [], [] => true
  | x :: xs, y :: ys => eqvD x y && eqvAll xs ys
  | _, _ => false
end
mutual
theorem okD_can : ∀ (k : Nat) (d : D), okD k d = true → (toP d).canLay0 = true ∧ (toP d).depth ≤ k
  | _, .non, _ => ⟨rfl, Nat.zero_le _⟩
  | _, .bl _, _ => ⟨rfl, Nat.zero_le _⟩
  | _, .int _, _ => ⟨rfl, Nat.zero_le _⟩
  | _, .str x, h => ⟨by simpa [okD, toP] using h, by simp [toP, PyData.depth]⟩
  | k + 1, .tup xs, h => by
    have q := okAll_can k xs (by simpa [okD] using h)
    exact ⟨by simpa [toP, PyData.canLay0] using q.1, by simpa [toP, PyData.depth] using q.2⟩
  | k + 1, .lst xs, h => by
    have q := okAll_can k xs (by simpa [okD] using h)
    exact ⟨by simpa [toP, PyData.canLay0] using q.1, by simpa [toP, PyData.depth] using q.2⟩
  | 0, .tup xs, h => by simp [okD] at h
  | 0, .lst xs, h => by simp [okD] at h
  | 0, .dct _, h => by simp [okD] at h
  | k + 1, .dct _, h => by simp [okD] at h
  | 0, .scr _, h => by simp [okD] at h
  | k + 1, .scr _, h => by simp [okD] at h
  | 0, .ref _, h => by simp [okD] at h
  | k + 1, .ref _, h => by simp [okD] at h
  | 0, .drw, h => by simp [okD] at h
  | k + 1, .drw, h => by simp [okD] at h
  | 0, .fn _, h => by simp [okD] at h
  | k + 1, .fn _, h => by simp [okD] at h
  | 0, .ty _, h => by simp [okD] at h
  | k + 1, .ty _, h => by simp [okD] at h
  | 0, .clo _, h => by simp [okD] at h
  | k + 1, .clo _, h => by simp [okD] at h
  | 0, .exn _ _, h => by simp [okD] at h
  | k + 1, .exn _ _, h => by simp [okD] at h
theorem okAll_can : ∀ (k : Nat) (ds : List D), okAll k ds = true → PyData.canLayAll0 (toPs ds) = true ∧ PyData.depthAll (toPs ds) ≤ k
  | _, [], _ => ⟨rfl, Nat.zero_le _⟩
  | k, x :: xs, h => by
    simp only [okAll, Bool.and_eq_true] at h
    have h1 := okD_can k x h.1
    have h2 := okAll_can k xs h.2
    refine ⟨?_, ?_⟩
    · simp only [toPs, PyData.canLayAll0, h1.1, h2.1, Bool.and_self]
    · simp only [toPs, PyData.depthAll]
      exact Nat.max_le.mpr ⟨h1.2, h2.2⟩
end
theorem ok_shaped {d : D} (h : okD 64 d = true) : SeqAt.shaped (toP d) = true := by
  obtain ⟨h1, h2⟩ := okD_can 64 d h
  unfold SeqAt.shaped
  rw [h1, decide_eq_true h2]
  rfl
section
variable {R : RC} {S : Sto} {H : Hp} {m : MS}
mutual
theorem rep_dp : ∀ (k : Nat) {v : V} {d : D}, Rep R S H v d → okD k d = true → Dp R.K H v (toP d)
  | _, _, _, .non, _ => .non
  | _, _, _, .bl b, _ => .bl b
  | _, _, _, .int i, _ => .int i
  | _, _, _, .str x, _ => .str x
  | k + 1, _, _, .tup h r, e => by
    simp only [toP]
    exact .tup h.sq (rep_dps k r (by simpa [okD] using e))
  | k + 1, _, _, .lst h r, e => by
    simp only [toP]
    exact .lst h.sq (rep_dps k r (by simpa [okD] using e))
  | 0, _, _, .tup _ _, e => by simp [okD] at e
  | 0, _, _, .lst _ _, e => by simp [okD] at e
  | 0, _, _, .dct .., e => by simp [okD] at e
  | k + 1, _, _, .dct .., e => by simp [okD] at e
  | 0, _, _, .scr .., e => by simp [okD] at e
  | k + 1, _, _, .scr .., e => by simp [okD] at e
  | 0, _, _, .ref _, e => by simp [okD] at e
  | k + 1, _, _, .ref _, e => by simp [okD] at e
  | 0, _, _, .drw _, e => by simp [okD] at e
  | k + 1, _, _, .drw _, e => by simp [okD] at e
  | 0, _, _, .fn _, e => by simp [okD] at e
  | k + 1, _, _, .fn _, e => by simp [okD] at e
  | 0, _, _, .ty _, e => by simp [okD] at e
  | k + 1, _, _, .ty _, e => by simp [okD] at e
  | 0, _, _, .clo .., e => by simp [okD] at e
  | k + 1, _, _, .clo .., e => by simp [okD] at e
  | 0, _, _, .exn .., e => by simp [okD] at e
  | k + 1, _, _, .exn .., e => by simp [okD] at e
  | 0, _, _, .exnd .., e => by simp [okD] at e
  | k + 1, _, _, .exnd .., e => by simp [okD] at e
theorem rep_dps : ∀ (k : Nat) {vs : List V} {ds : List D}, RepAll R S H vs ds → okAll k ds = true → DpAll R.K H vs (toPs ds)
  | _, _, _, .nil, _ => .nil
  | k, _, _, .cons h r, e => by
    simp only [okAll, Bool.and_eq_true] at e
    exact .cons (rep_dp k h e.1) (rep_dps k r e.2)
end
mutual
theorem eqv_toP : ∀ (k : Nat) (a b : D), okD k a = true → okD k b = true → PyData.eqv (toP a) (toP b) = eqvD a b
  | k, a, b, ha, hb => by
    cases a <;> cases b <;> first
      | rfl
      | (cases k <;> simp [okD] at ha; done)
      | (cases k <;> simp [okD] at hb; done)
      | (cases k with
         | zero => simp [okD] at ha
         | succ k =>
           simp only [okD] at ha hb
           simp only [toP, PyData.eqv, eqvD]
           exact eqv_toPs k _ _ ha hb)
theorem eqv_toPs : ∀ (k : Nat) (as bs : List D), okAll k as = true → okAll k bs = true → PyData.eqvAll (toPs as) (toPs bs) = eqvAll as bs
  | _, [], [], _, _ => rfl
  | _, [], _ :: _, _, _ => rfl
  | _, _ :: _, [], _, _ => rfl
  | k, a :: as, b :: bs, ha, hb => by
    simp only [okAll, Bool.and_eq_true] at ha hb
    simp only [toPs, PyData.eqvAll, eqvAll]
    rw [eqv_toP k a b ha.1 hb.1, eqv_toPs k as bs ha.2 hb.2]
end
theorem ok_mono : True := trivial
/-- a mutable list as what it holds -/
def flatR (m : MS) : D → D
  | .ref n => match m.objs[n]? with | some (.lst xs) => .lst xs | _ => .ref n
  | .drg => match m.dr with | some d => .lst (d.great.map D.int) | none => .drg
  | d => d
theorem flat_dp (hr : HR R S H m) {v : V} {d : D} (r : Rep R S H v d) (h : okD 64 (flatR m d) = true) : Dp R.K H v (toP (flatR m d)) := by
  cases d with
  | ref n =>
    unfold flatR at h ⊢
    dsimp only at h ⊢
    cases r with
    | ref hn =>
      cases e : m.objs[n]? with
      | none => rw [e] at h; simp [okD] at h
      | some o =>
        rw [e] at h
        cases o with
        | lst xs =>
          obtain ⟨vs, h1, h2⟩ := hr.obj n _ _ hn e
          simp only [toP]
          exact .lst (SqL.of h1) (rep_dps 63 h2 (by simpa [okD] using h))
        | _ => simp [okD] at h
  | drg =>
    unfold flatR at h ⊢
    dsimp only at h ⊢
    cases e : m.dr with
    | none => rw [e] at h; simp [okD] at h
    | some d =>
      rw [e] at h
      have q := hr.dr
      rw [e] at q
      obtain ⟨a, g, c, e0, h1, h2, h3⟩ := q
      cases r with
      | drg hd =>
        rw [hd] at e0
        cases e0
        simp only [toP]
        exact .lst (SqL.of h2) (rep_dps 63 (RepAll.ints (R := R) (S := S) (H := H) d.great) (by simpa [okD] using h))
  | _ => exact rep_dp 64 r h
end

section
variable {X : Cx} {R : RC} {E : XK}
/-! ### comparisons -/
def eqD (neg : Bool) (a b : D) : M D := fun m => if okD 64 (flatR m a) && okD 64 (flatR m b) then .ok (.bl (if neg then !eqvD (flatR m a) (flatR m b) else eqvD (flatR m a) (flatR m b))) m else .stuck
theorem opd_eq (cx : CxR X R E) (hu : X.A.units + 64 < cLine) : OpD X R E (compareOp .Eq) (eqD false) := ⟨_, op_eqD hu, fun S H m x y a b Q hr ra rb h => by
  unfold eqD at h
  by_cases hc : (okD 64 (flatR m a) && okD 64 (flatR m b)) = true
  · rw [if_pos hc] at h
    rw [Bool.and_eq_true] at hc
    rw [cx.K]
    refine ⟨_, _, flat_dp hr ra hc.1, flat_dp hr rb hc.2, ok_shaped hc.1, ok_shaped hc.2, ?_⟩
    rw [eqv_toP 64 _ _ hc.1 hc.2]
    exact h.now hr _ (.bl _)
  · rw [if_neg hc] at h
    exact h.elim⟩
theorem opd_ne (cx : CxR X R E) (hu : X.A.units + 64 < cLine) : OpD X R E (compareOp .NotEq) (eqD true) := ⟨_, op_neD hu, fun S H m x y a b Q hr ra rb h => by
  unfold eqD at h
  by_cases hc : (okD 64 (flatR m a) && okD 64 (flatR m b)) = true
  · rw [if_pos hc] at h
    rw [Bool.and_eq_true] at hc
    rw [cx.K]
    refine ⟨_, _, flat_dp hr ra hc.1, flat_dp hr rb hc.2, ok_shaped hc.1, ok_shaped hc.2, ?_⟩
    rw [eqv_toP 64 _ _ hc.1 hc.2]
    exact h.now hr _ (.bl _)
  · rw [if_neg hc] at h
    exact h.elim⟩
def intB (f : Int → Int → Bool) (a b : D) : M D := fun m => match a, b with
  | .int i, .int j => .ok (.bl (f i j)) m
  | _, _ => .stuck
def intI (f : Int → Int → Int) (c : Int → Int → Bool) (a b : D) : M D := fun m => match a, b with
  | .int i, .int j => if c i j then .ok (.int (f i j)) m else .stuck
  | _, _ => .stuck
theorem intB_out {f : Int → Int → Bool} {S : Sto} {H : Hp} {m : MS} {x y : V} {a b : D} {Q : VK} (hr : HR R S H m) (ra : Rep R S H x a) (rb : Rep R S H y b) (h : RoutG R S H E (PV R Q) (intB f a b m)) : ∃ i j, x = .int i ∧ y = .int j ∧ Q (.bl (f i j)) H := by
  cases a with
  | int i =>
    cases b with
    | int j => exact ⟨i, j, rep_int ra, rep_int rb, RoutG.now (E := E) (show RoutG R S H E (PV R Q) (.ok (.bl (f i j)) m) from h) hr _ (.bl _)⟩
    | _ => exact h.elim
  | _ => cases b <;> exact h.elim
theorem intI_out {f : Int → Int → Int} {c : Int → Int → Bool} {S : Sto} {H : Hp} {m : MS} {x y : V} {a b : D} {Q : VK} (hr : HR R S H m) (ra : Rep R S H x a) (rb : Rep R S H y b) (h : RoutG R S H E (PV R Q) (intI f c a b m)) :
    ∃ i j, x = .int i ∧ y = .int j ∧ c i j = true ∧ Q (.int (f i j)) H := by
  cases a with
  | int i =>
    cases b with
    | int j =>
      unfold intI at h
      dsimp only at h
      by_cases hc : c i j = true
      · rw [if_pos hc] at h
        exact ⟨i, j, rep_int ra, rep_int rb, hc, h.now hr _ (.int _)⟩
      · rw [if_neg hc] at h
        exact h.elim
    | _ => exact h.elim
  | _ => cases b <;> exact h.elim
theorem opd_lt : OpD X R E (compareOp .Lt) (intB fun i j => decide (i < j)) := ⟨_, op_lt, fun _ _ _ _ _ _ _ _ hr ra rb h => intB_out hr ra rb h⟩
theorem opd_le : OpD X R E (compareOp .LtE) (intB fun i j => decide (i ≤ j)) := ⟨_, op_le, fun _ _ _ _ _ _ _ _ hr ra rb h => intB_out hr ra rb h⟩
theorem opd_gt : OpD X R E (compareOp .Gt) (intB fun i j => decide (j < i)) := ⟨_, op_gt, fun _ _ _ _ _ _ _ _ hr ra rb h => intB_out hr ra rb h⟩
theorem opd_ge : OpD X R E (compareOp .GtE) (intB fun i j => decide (j ≤ i)) := ⟨_, op_ge, fun _ _ _ _ _ _ _ _ hr ra rb h => intB_out hr ra rb h⟩
/-- is None, is True, is False (of any value) -/
def isD (neg : Bool) (a b : D) : M D := fun m => match b with
  | .non => .ok (.bl (match a with | .non => !neg | _ => neg)) m
  | .bl k => match a with | .bl j => .ok (.bl (if neg then !decide (j = k) else decide (j = k))) m | _ => .stuck
  | _ => .stuck
theorem rep_is_non {S : Sto} {H : Hp} {x : V} {a : D} (r : Rep R S H x a) : decide (x = V.non) = (match a with | .non => true | _ => false) := by
  cases r <;> simp
theorem opd_is : OpD X R E (compareOp .Is) (isD false) := ⟨_, op_isN.or op_isBl, fun S H m x y a b Q hr ra rb h => by
  unfold isD at h
  cases b with
  | non =>
    refine .inl ⟨rep_non rb, ?_⟩
    have e := rep_is_non ra
    rw [e]
    have h2 := RoutG.now (E := E) h hr _ (.bl _)
    cases a <;> exact h2
  | bl k =>
    cases a with
    | bl j => exact .inr ⟨j, k, rep_bl ra, rep_bl rb, RoutG.now (E := E) h hr _ (.bl _)⟩
    | _ => exact h.elim
  | _ => exact h.elim⟩
theorem opd_isnot : OpD X R E (compareOp .IsNot) (isD true) := ⟨_, op_notN.or op_notBl, fun S H m x y a b Q hr ra rb h => by
  unfold isD at h
  cases b with
  | non =>
    refine .inl ⟨rep_non rb, ?_⟩
    have e := rep_is_non ra
    rw [e]
    have h2 := RoutG.now (E := E) h hr _ (.bl _)
    cases a <;> exact h2
  | bl k =>
    cases a with
    | bl j => exact .inr ⟨j, k, rep_bl ra, rep_bl rb, RoutG.now (E := E) h hr _ (.bl _)⟩
    | _ => exact h.elim
  | _ => exact h.elim⟩

/-! ### in -/
def occ (y x : Str) : Bool := !(Builtin.Str.occurrences y x 0 y.length 1).isEmpty
def inD (neg : Bool) (a b : D) : M D := fun m => match a, flatR m b with
  | .str x, .str y => .ok (.bl (if neg then !occ y x else occ y x)) m
  | a, .lst ys => if okD 63 a && okAll 63 ys then .ok (.bl (if neg then !ys.any (fun z => eqvD z a) else ys.any (fun z => eqvD z a))) m else .stuck
  | _, _ => .stuck
theorem toPs_any (k : Nat) (a : D) (ha : okD k a = true) : ∀ ys : List D, okAll k ys = true → ((toPs ys).any fun z => PyData.eqv z (toP a)) = ys.any fun z => eqvD z a
  | [], _ => rfl
  | y :: ys, h => by
    simp only [okAll, Bool.and_eq_true] at h
    simp only [toPs, List.any_cons]
    rw [eqv_toP k y a h.1 ha, toPs_any k a ha ys h.2]
mutual
theorem okD_succ : ∀ (k : Nat) (d : D), okD k d = true → okD (k + 1) d = true
  | k, d, h => by
    cases d with
    | tup xs =>
      cases k with
      | zero => simp [okD] at h
      | succ k => simp only [okD] at h ⊢; exact okAll_succ k xs h
    | lst xs =>
      cases k with
      | zero => simp [okD] at h
      | succ k => simp only [okD] at h ⊢; exact okAll_succ k xs h
    | str x => simpa [okD] using h
    | non => rfl
    | bl b => rfl
    | int i => rfl
    | _ => cases k <;> simp [okD] at h
theorem okAll_succ : ∀ (k : Nat) (ds : List D), okAll k ds = true → okAll (k + 1) ds = true
  | _, [], _ => rfl
  | k, d :: ds, h => by
    simp only [okAll, Bool.and_eq_true] at h ⊢
    exact ⟨okD_succ k d h.1, okAll_succ k ds h.2⟩
end
theorem inD_out (neg : Bool) (cx : CxR X R E) {S : Sto} {H : Hp} {m : MS} {x y : V} {a b : D} {Q : VK} (hr : HR R S H m) (ra : Rep R S H x a) (rb : Rep R S H y b) (h : RoutG R S H E (PV R Q) (inD neg a b m)) :
    (∃ i j, x = .str i ∧ y = .str j ∧ Q (.bl (if neg then !occ j i else occ j i)) H) ∨
    ∃ d ds, Dp X.K H x d ∧ Dp X.K H y (.list ds) ∧ SeqAt.shaped d = true ∧ SeqAt.shaped (.list ds) = true ∧ Q (.bl (if neg then !ds.any (fun z => PyData.eqv z d) else ds.any fun z => PyData.eqv z d)) H := by
  rw [cx.K]
  have main : ∀ ys, flatR m b = .lst ys → RoutG R S H E (PV R Q) (if okD 63 a && okAll 63 ys then .ok (.bl (if neg then !ys.any (fun z => eqvD z a) else ys.any (fun z => eqvD z a))) m else .stuck) →
      ∃ d ds, Dp R.K H x d ∧ Dp R.K H y (.list ds) ∧ SeqAt.shaped d = true ∧ SeqAt.shaped (.list ds) = true ∧ Q (.bl (if neg then !ds.any (fun z => PyData.eqv z d) else ds.any fun z => PyData.eqv z d)) H := fun ys e h => by
    by_cases hc : (okD 63 a && okAll 63 ys) = true
    · rw [if_pos hc] at h
      rw [Bool.and_eq_true] at hc
      have h64 : okD 64 (flatR m b) = true := by rw [e]; simpa [okD] using hc.2
      have hd := flat_dp hr rb h64
      have hs := ok_shaped h64
      rw [e] at hd hs
      simp only [toP] at hd hs
      refine ⟨toP a, toPs ys, rep_dp 63 ra hc.1, hd, ok_shaped (okD_succ 63 a hc.1), hs, ?_⟩
      rw [toPs_any 63 a hc.1 ys hc.2]
      exact h.now hr _ (.bl _)
    · rw [if_neg hc] at h
      exact h.elim
  unfold inD at h
  cases hb : flatR m b with
  | str yy =>
    rw [hb] at h
    have eb : b = .str yy := by
      cases b with
      | ref n =>
        unfold flatR at hb
        dsimp only at hb
        split at hb <;> cases hb
      | drg =>
        unfold flatR at hb
        dsimp only at hb
        split at hb <;> cases hb
      | _ => exact hb
    cases a with
    | str xx =>
      subst eb
      exact .inl ⟨xx, yy, rep_str ra, rep_str rb, RoutG.now (E := E) (show RoutG R S H E (PV R Q) (.ok (.bl (if neg then !occ yy xx else occ yy xx)) m) from h) hr _ (.bl _)⟩
    | _ => exact h.elim
  | lst ys =>
    rw [hb] at h
    right
    refine main ys hb ?_
    cases a <;> exact h
  | _ =>
    rw [hb] at h
    cases a <;> exact h.elim
theorem opd_in (cx : CxR X R E) (hu : X.A.units + 65 < cLine) : OpD X R E (compareOp .In) (inD false) := ⟨_, op_in_str.or (op_inD hu), fun S H m x y a b Q hr ra rb h => by
  rcases inD_out false cx hr ra rb h with ⟨i, j, h1, h2, h3⟩ | ⟨d, ds, h1, h2, h3, h4, h5⟩
  · exact .inl ⟨i, j, h1, h2, h3⟩
  · exact .inr ⟨d, ds, h1, h2, h3, h4, h5⟩⟩
theorem opd_notin (cx : CxR X R E) (hu : X.A.units + 65 < cLine) : OpD X R E (compareOp .NotIn) (inD true) := ⟨_, op_notIn_str.or (op_notInD hu), fun S H m x y a b Q hr ra rb h => by
  rcases inD_out true cx hr ra rb h with ⟨i, j, h1, h2, h3⟩ | ⟨d, ds, h1, h2, h3, h4, h5⟩
  · exact .inl ⟨i, j, h1, h2, h3⟩
  · exact .inr ⟨d, ds, h1, h2, h3, h4, h5⟩⟩

/-! ### arithmetic -/
def addD (fr : Bool) (a b : D) : M D := fun m => match a, b with
  | .int i, .int j => .ok (.int (i + j)) m
  | .str x, .str y => if x.length + y.length ≤ 1000000 then .ok (.str (x ++ y)) m else .stuck
  | .tup xs, .tup ys => if short (xs ++ ys) then .ok (.tup (xs ++ ys)) m else .stuck
  | a, b => match lstD m a, lstD m b with
    | some xs, some ys => newL fr (xs ++ ys) m
    | _, _ => .stuck
theorem repAll_nil_iff {S : Sto} {H : Hp} {vs : List V} {ds : List D} (r : RepAll R S H vs ds) : vs = [] ↔ ds = [] := by
  cases r <;> simp
theorem add_out (fr : Bool) (cx : CxR X R E) {S : Sto} {H : Hp} {m : MS} {x y : V} {a b : D} {Q : VK} (hr : HR R S H m) (ra : Rep R S H x a) (rb : Rep R S H y b) (h : RoutG R S H E (PV R Q) (addD fr a b m)) :
    (∃ i j, x = .int i ∧ y = .int j ∧ Q (.int (i + j)) H) ∨ (∃ i j, x = .str i ∧ y = .str j ∧ i.length + j.length ≤ sizeLine ∧ Q (.str (i ++ j)) H) ∨ rCatA X.K x y H Q ∨ rCat x y H Q := by
  rw [cx.K]
  have main : ∀ (o : Option (List D)) (o' : Option (List D)), lstD m a = o → lstD m b = o' → RoutG R S H E (PV R Q) (match o, o' with | some xs, some ys => newL fr (xs ++ ys) m | _, _ => .stuck) → rCat x y H Q := fun o o' e e' h => by
    cases o with
    | none => exact h.elim
    | some xs =>
      cases o' with
      | none => exact h.elim
      | some ys =>
        obtain ⟨p, vs, rfl, _, rv, h1⟩ := lstD_out hr ra e
        obtain ⟨q, ws, rfl, _, rw', h2⟩ := lstD_out hr rb e'
        obtain ⟨k1, k2⟩ := newL_out cx.ok hr (rv.app rw') h
        exact ⟨p, q, vs, ws, rfl, rfl, h1, h2, by rw [List.length_append] at k1; exact k1, k2⟩
  unfold addD at h
  cases a with
  | int i =>
    cases b with
    | int j => exact .inl ⟨i, j, rep_int ra, rep_int rb, RoutG.now (E := E) h hr _ (.int _)⟩
    | _ => exact h.elim
  | str i =>
    cases b with
    | str j =>
      dsimp only at h
      by_cases hs : i.length + j.length ≤ 1000000
      · rw [if_pos hs] at h
        exact .inr (.inl ⟨i, j, rep_str ra, rep_str rb, Nat.le_trans hs (by decide), h.now hr _ (.str _)⟩)
      · rw [if_neg hs] at h
        exact h.elim
    | _ => exact h.elim
  | tup xs =>
    cases b with
    | tup ys =>
      dsimp only at h
      by_cases hs : short (xs ++ ys) = true
      · rw [if_pos hs] at h
        refine .inr (.inr (.inl ?_))
        obtain ⟨p, vs, rfl, hq, rv, ht⟩ := tupD_out ra rfl
        obtain ⟨q, ws, rfl, hq', rw', ht'⟩ := tupD_out rb rfl
        have hl := short_line hs
        rw [List.length_append] at hl
        refine ⟨p, q, vs, ws, rfl, rfl, hq, hq', by rw [rv.length, rw'.length]; exact hl, fun e => ?_, fun _ e => ?_, fun _ _ z hz => ?_⟩
        · have : xs = [] := (repAll_nil_iff rv).mp e
          subst this
          exact h.now hr _ (.tup ht' rw')
        · have : ys = [] := (repAll_nil_iff rw').mp e
          subst this
          rw [List.append_nil] at h
          exact h.now hr _ (.tup ht rv)
        · have h' : RoutG R S H E (PV R Q) (newT (xs ++ ys) m) := by
            unfold newT
            rw [if_pos hs]
            exact h
          exact (newT_out cx.ok hr (rv.app rw') h').2 z hz
      · rw [if_neg hs] at h
        exact h.elim
    | _ => exact h.elim
  | lst xs => exact .inr (.inr (.inr (main _ _ rfl rfl (by cases b <;> exact h))))
  | ref n => exact .inr (.inr (.inr (main _ _ rfl rfl (by cases b <;> exact h))))
  | _ => cases b <;> exact h.elim
theorem opd_add (fr : Bool) (cx : CxR X R E) : OpD X R E (binaryOp .Add) (addD fr) := ⟨_, op_add.or (op_add_str.or (op_catA.or op_cat)), fun S H m x y a b Q hr ra rb h => add_out fr cx hr ra rb h⟩
def always : Int → Int → Bool := fun _ _ => true
theorem opd_sub : OpD X R E (binaryOp .Sub) (intI (fun i j => i - j) always) := ⟨_, op_sub, fun S H m x y a b Q hr ra rb h => by
  obtain ⟨i, j, h1, h2, _, h3⟩ := intI_out hr ra rb h
  exact ⟨i, j, h1, h2, h3⟩⟩
/-- may two ints be multiplied -/
def mulOk (i j : Int) : Bool := decide (Builtin.Int.intBits i ≤ 64) || decide (Builtin.Int.intBits j ≤ 64) || decide ((Builtin.Int.intBits i : Int) + (Builtin.Int.intBits j : Int) ≤ 134217728)
theorem op_mulA : OpR X (binaryOp .Mult) (rI (fun i j => mulOk i j = true) fun i j => .int (i * j)) := opI fun i j _ _ _ _ _ hc q => mul_int q (by
  unfold mulOk at hc
  rw [Bool.or_eq_true, Bool.or_eq_true] at hc
  rcases hc with (hc | hc) | hc
  · exact .of_left (of_decide_eq_true hc)
  · exact .of_right (of_decide_eq_true hc)
  · exact CMulX.ok (show CMulX i j from of_decide_eq_true (p := (Builtin.Int.intBits i : Int) + (Builtin.Int.intBits j : Int) ≤ 134217728) hc))
def rStrRep : R2 := fun x y H Q => ∃ z n, x = .str z ∧ y = .int n ∧ z.length ≤ 1000 ∧ n ≤ 1000 ∧ -1000 ≤ n ∧ Q (.str ⟨((List.replicate n.toNat z.cps.toList).flatten).toArray⟩) H
theorem foldl_cps (a : Array Nat) : ∀ (n : Nat) (b : Array Nat), (List.replicate n a).foldl (· ++ ·) b = b ++ ((List.replicate n a.toList).flatten).toArray
  | 0, b => by simp
  | n + 1, b => by
    rw [List.replicate_succ, List.foldl_cons, foldl_cps a n, List.replicate_succ, List.flatten_cons]
    apply Array.ext'
    simp
theorem op_strrep : OpR X (binaryOp .Mult) rStrRep := by
  intro pins s σ H x y v u Q I rx ry h
  obtain ⟨z, n, rfl, rfl, hz, hn, hn0, q⟩ := h
  obtain ⟨t, rfl⟩ := rx
  obtain ⟨t', rfl⟩ := ry
  have hlen : z.length = z.cps.size := rfl
  refine PySem.P.mul_str (by
    have h1 : ¬ n < -(2 ^ 63 : Int) := by omega
    have h2 : ¬ n ≥ 2 ^ 63 := by omega
    rw [decide_eq_false h1, decide_eq_false h2]; rfl) (fun h1 _ hgt => ?_) (fun h1 _ => ?_) ?_
  · have h3 : (2 ^ 63 - 1 : Int) / n ≥ 1000000 := by
      apply (Int.le_ediv_iff_mul_le (by omega)).mpr
      omega
    omega
  · show decide (z.length * n.toNat > sizeLine) = false
    refine decide_eq_false ?_
    have : z.length * n.toNat ≤ 1000 * 1000 := Nat.mul_le_mul hz (by omega)
    rw [sizeLine_eq]
    omega
  · by_cases h1 : n < 1
    · rw [if_pos h1]
      have e : n.toNat = 0 := by omega
      have e0 : (⟨((List.replicate n.toNat z.cps.toList).flatten).toArray⟩ : Str) = Str.empty := by rw [e]; rfl
      rw [e0] at q
      exact ⟨by decide, ⟨.str Str.empty, H, I.tok _, ⟨_, rfl⟩, q⟩⟩
    · rw [if_neg h1]
      by_cases h2 : (n == 1 || z.length == 0) = true
      · rw [if_pos h2]
        have e : (⟨((List.replicate n.toNat z.cps.toList).flatten).toArray⟩ : Str) = z := by
          rw [Bool.or_eq_true] at h2
          have : ((List.replicate n.toNat z.cps.toList).flatten).toArray = z.cps := by
            rcases h2 with h2 | h2
            · have : n = 1 := by simpa using h2
              subst this
              simp
            · have : z.cps.size = 0 := by simpa [hlen] using h2
              have e2 : z.cps = #[] := Array.eq_empty_of_size_eq_zero this
              rw [e2]
              simp
          rw [this]
        rw [e] at q
        exact ⟨.str z, H, I, ⟨_, rfl⟩, q⟩
      · rw [if_neg h2]
        have e := foldl_cps z.cps n.toNat #[]
        rw [Array.empty_append] at e
        show Made.post _ _ _
        rw [e]
        refine ⟨?_, ⟨.str _, H, I.tok _, ⟨_, rfl⟩, q⟩⟩
        show ((List.replicate n.toNat z.cps.toList).flatten).toArray.size ≤ _
        simp only [List.size_toArray, List.length_flatten, List.map_replicate, List.sum_replicate_nat, Array.length_toList]
        have : n.toNat * z.cps.size ≤ 1000 * 1000 := Nat.mul_le_mul (by omega) hz
        first
          | (rw [sizeLine_eq]; omega)
          | omega
end
end TL
end
section
/-! The data layer: more operators, built-in functions. -/
namespace L2
open PySem PySem.Spec PyProof.Rows
theorem tuple_mul1 (l : Addr) (items : Array Value) (n : Nat) (dd : Option Addr) (sl : Array (Option Value)) (x : Int) (u : Tok) (c0 : (decide (x < -(2 ^ 63)) || decide (x ≥ 2 ^ 63)) = false) (c1 : (items.isEmpty || x == 1) = true) :
    Meets (Builtin.«tuple.__mul__» ⟨[.ref l, .int x u], []⟩) (fun _ R s => s.heap.get? l = some { cls := .type "tuple", dict := dd, data := .seq items n, slots := sl } ∧
      R (.ok (.ret (Value.ref l))) s) :=
  .of_wp fun prog w A R s h => by
    obtain ⟨hp, g, d, tk, os⟩ := s
    obtain ⟨hl, h⟩ := h
    have f1 := AutoSeq1.idx_int
    wp_walk using wpAny_loadPart' hl
    repeat (first
      | (refine wpAny_ite_false (decide_eq_false (by rw [c0]; exact Bool.false_ne_true)) ?_; wp_walk using wpAny_loadPart' hl)
      | (refine wpAny_ite_true (decide_eq_true c1) ?_; wp_walk using wpAny_loadPart' hl))
    exact ⟨_, rfl, h⟩
theorem tuple_mul0 (l : Addr) (items : Array Value) (n : Nat) (dd : Option Addr) (sl : Array (Option Value)) (x : Int) (u : Tok) (c0 : (decide (x < -(2 ^ 63)) || decide (x ≥ 2 ^ 63)) = false) (c1 : (items.isEmpty || x == 1) = false) (c2 : (decide (x ≤ 0) || items.isEmpty) = true) :
    Meets (Builtin.«tuple.__mul__» ⟨[.ref l, .int x u], []⟩) (fun _ R s => s.heap.get? l = some { cls := .type "tuple", dict := dd, data := .seq items n, slots := sl } ∧
      R (.ok (.ret (Value.ref s.heap.objs.size))) { s with heap := s.heap.push { cls := Value.type "tuple", data := Data.seq #[] }, toks := s.toks }) :=
  .of_wp fun prog w A R s h => by
    obtain ⟨hp, g, d, tk, os⟩ := s
    obtain ⟨hl, h⟩ := h
    have f1 := AutoSeq1.idx_int
    wp_walk using wpAny_loadPart' hl
    repeat (first
      | (refine wpAny_ite_false (decide_eq_false (by rw [c0]; exact Bool.false_ne_true)) ?_; wp_walk using wpAny_loadPart' hl)
      | (refine wpAny_ite_false (decide_eq_false (by rw [c1]; exact Bool.false_ne_true)) ?_; wp_walk using wpAny_loadPart' hl)
      | (refine wpAny_ite_true (decide_eq_true c2) ?_; wp_walk using wpAny_loadPart' hl))
    exact ⟨_, rfl, h⟩
end L2
namespace L2
open PySem PySem.Spec PyProof.Rows
def rRepA (K : PySem.W.Frag) : R2 := fun x y H Q => ∃ l k xs, x = .ref l ∧ y = .int k ∧ SqT K H l xs ∧ -1000 ≤ k ∧ k ≤ 1000 ∧ xs.length ≤ 1000 ∧
  ((xs = [] ∨ k = 1) → Q (.ref l) H) ∧ (xs ≠ [] → k ≠ 1 → ∀ p, H p = none → Q (.ref p) (upd H p (.tup (List.replicate k.toNat xs).flatten)))
theorem op_repA {X : Cx} : OpR X (binaryOp .Mult) (rRepA X.K) := by
  intro pins s σ H x y v u Q I rx ry h
  obtain ⟨l, k, xs, rfl, rfl, hT, h0, h1, hz, q1, q2⟩ := h
  by_cases hbig : xs ≠ [] ∧ 2 ≤ k
  · exact op_repT pins s σ H _ _ v u Q I rx ry ⟨l, k, xs, rfl, rfl, hT, hbig.1, hbig.2, h1, hz, q2 hbig.1 (by omega)⟩
  · cases rx
    obtain ⟨t, rfl⟩ := ry
    obtain ⟨its, r, ⟨⟨cls, dd, data, sl⟩, ho, hc, n, hd⟩, hs⟩ := I.tuple hT
    simp only at hc hd
    subst hc hd
    have c0 : (decide (k < -(2 ^ 63)) || decide (k ≥ 2 ^ 63)) = false := by
      rw [decide_eq_false (by omega), decide_eq_false (by omega)] <;> rfl
    have hi : its.toArray.isEmpty = decide (xs = []) := by
      cases r <;> simp
    by_cases hsame : xs = [] ∨ k = 1
    · have c1 : (its.toArray.isEmpty || k == 1) = true := by
        rw [hi]
        rcases hsame with e | e
        · rw [decide_eq_true e]; rfl
        · rw [e]; simp
      exact wpAny_binaryOp_repeat_ref (T := "tuple") (U := "int") (by decide) ⟨_, ho, rfl⟩ (fun s' => typeIs_int s' k t) noFill_tuple_mul F.fills_int_mul F.slot_int_rmul repeat_tuple F.slot_int_index.lookup
        (call_meets F.slot_int_rmul (typeIs_int s k t) F.entry_int_rmul (F.args_int_rmul_2 _ _) (int_rmul_tuple k t l its.toArray n dd sl)
          ⟨ho, rfl, ⟨_, ho, rfl⟩, call_meets F.slot_tuple_mul ⟨_, ho, rfl⟩ F.entry_tuple_mul (F.args_tuple_mul_2 _ _) (tuple_mul1 l its.toArray n dd sl k t c0 c1) ⟨ho, .ref l, H, I, rfl, q1 hsame⟩⟩)
    · have hx : xs ≠ [] := fun e => hsame (.inl e)
      have hk1 : k ≠ 1 := fun e => hsame (.inr e)
      have hk : k ≤ 0 := by
        refine Int.not_lt.mp fun z => hbig ⟨hx, ?_⟩
        omega
      have c1 : (its.toArray.isEmpty || k == 1) = false := by
        rw [hi, decide_eq_false hx, Bool.false_or]
        exact beq_eq_false_iff_ne.mpr hk1
      have c2 : (decide (k ≤ 0) || its.toArray.isEmpty) = true := by rw [decide_eq_true hk]; rfl
      have e0 : (List.replicate k.toNat xs).flatten = [] := by
        have : k.toNat = 0 := by omega
        rw [this]; rfl
      have q := q2 hx hk1 s.heap.objs.size (I.hok.fresh (Nat.le_refl _))
      rw [e0] at q
      refine wpAny_binaryOp_repeat_ref (T := "tuple") (U := "int") (by decide) ⟨_, ho, rfl⟩ (fun s' => typeIs_int s' k t) noFill_tuple_mul F.fills_int_mul F.slot_int_rmul repeat_tuple F.slot_int_index.lookup
        (call_meets F.slot_int_rmul (typeIs_int s k t) F.entry_int_rmul (F.args_int_rmul_2 _ _) (int_rmul_tuple k t l its.toArray n dd sl)
          ⟨ho, rfl, ⟨_, ho, rfl⟩, call_meets F.slot_tuple_mul ⟨_, ho, rfl⟩ F.entry_tuple_mul (F.args_tuple_mul_2 _ _) (tuple_mul0 l its.toArray n dd sl k t c0 c1 c2) ⟨ho, ?_⟩⟩)
      refine ⟨.ref s.heap.objs.size, _, I.laid (t' := s.toks) (o := .tup []) (fun b ob q => Heap.get?_push_of_some _ q) (Nat.le_refl _) ?_, rfl, q⟩
      exact ⟨Nat.zero_le _, [], .nil, IsTup.new _ _⟩
end L2
namespace TL
open PySem PySem.Spec PyProof.Rows L2
section
variable {X : Cx} {R : RC} {E : XK}
theorem RepAll.rep {S : Sto} {H : Hp} {vs : List V} {ds : List D} (h : RepAll R S H vs ds) : ∀ k : Nat, RepAll R S H (List.replicate k vs).flatten (List.replicate k ds).flatten
  | 0 => .nil
  | k + 1 => by
    rw [List.replicate_succ, List.replicate_succ, List.flatten_cons, List.flatten_cons]
    exact h.app (RepAll.rep h k)
def mulD (fr : Bool) (a b : D) : M D := fun m => match b with
  | .int k => match a with
    | .int i => if mulOk i k then .ok (.int (i * k)) m else .stuck
    | .str z => if z.length ≤ 1000 ∧ -1000 ≤ k ∧ k ≤ 1000 then .ok (.str ⟨((List.replicate k.toNat z.cps.toList).flatten).toArray⟩) m else .stuck
    | .tup xs => if xs.length ≤ 1000 ∧ -1000 ≤ k ∧ k ≤ 1000 then .ok (.tup (List.replicate k.toNat xs).flatten) m else .stuck
    | a => match lstD m a with
      | some xs => if xs.length ≤ 1000 ∧ -1000 ≤ k ∧ k ≤ 1000 then newL fr (List.replicate k.toNat xs).flatten m else .stuck
      | none => .stuck
  | _ => .stuck
theorem flat_len {α : Type} {xs : List α} {k : Int} (h : xs.length ≤ 1000 ∧ -1000 ≤ k ∧ k ≤ 1000) : (List.replicate k.toNat xs).flatten.length ≤ 1000000 := by
  rw [PyProof.Rows.lm_len_rep_flat]
  exact Nat.mul_le_mul (show k.toNat ≤ 1000 by omega) h.1
theorem mul_out (fr : Bool) (cx : CxR X R E) {S : Sto} {H : Hp} {m : MS} {x y : V} {a b : D} {Q : VK} (hr : HR R S H m) (ra : Rep R S H x a) (rb : Rep R S H y b) (h : RoutG R S H E (PV R Q) (mulD fr a b m)) :
    (∃ i j, x = .int i ∧ y = .int j ∧ mulOk i j = true ∧ Q (.int (i * j)) H) ∨ rStrRep x y H Q ∨ rRepA X.K x y H Q ∨ rRep x y H Q := by
  rw [cx.K]
  unfold mulD at h
  cases b with
  | int k =>
    have ey := rep_int rb
    have main : ∀ (o : Option (List D)), lstD m a = o → RoutG R S H E (PV R Q) (match o with | some xs => (if xs.length ≤ 1000 ∧ -1000 ≤ k ∧ k ≤ 1000 then newL fr (List.replicate k.toNat xs).flatten m else .stuck) | none => .stuck) → rRep x y H Q := fun o e h => by
      cases o with
      | none => exact h.elim
      | some xs =>
        obtain ⟨p, vs, rfl, _, rv, h1⟩ := lstD_out hr ra e
        dsimp only at h
        by_cases hc : xs.length ≤ 1000 ∧ -1000 ≤ k ∧ k ≤ 1000
        · rw [if_pos hc] at h
          obtain ⟨k1, k2⟩ := newL_out cx.ok hr (rv.rep k.toNat) h
          refine ⟨p, k, vs, rfl, ey, h1, by omega, by omega, ?_, k2⟩
          rw [rv.length, sizeLine_eq]
          have := Nat.mul_le_mul hc.1 (show k.toNat ≤ 1000 by omega)
          omega
        · rw [if_neg hc] at h
          exact h.elim
    cases a with
    | int i =>
      dsimp only at h
      by_cases hc : mulOk i k = true
      · rw [if_pos hc] at h
        exact .inl ⟨i, k, rep_int ra, ey, hc, h.now hr _ (.int _)⟩
      · rw [if_neg hc] at h
        exact h.elim
    | str z =>
      dsimp only at h
      by_cases hc : z.length ≤ 1000 ∧ -1000 ≤ k ∧ k ≤ 1000
      · rw [if_pos hc] at h
        exact .inr (.inl ⟨z, k, rep_str ra, ey, hc.1, hc.2.2, hc.2.1, h.now hr _ (.str _)⟩)
      · rw [if_neg hc] at h
        exact h.elim
    | tup xs =>
      dsimp only at h
      by_cases hc : xs.length ≤ 1000 ∧ -1000 ≤ k ∧ k ≤ 1000
      · rw [if_pos hc] at h
        obtain ⟨p, vs, rfl, hq, rv, ht⟩ := tupD_out ra rfl
        refine .inr (.inr (.inl ⟨p, k, vs, rfl, ey, hq, hc.2.1, hc.2.2, by rw [rv.length]; exact hc.1, fun e => ?_, fun _ _ z hz => ?_⟩))
        · refine h.now hr _ ?_
          rcases e with e | e
          · have : xs = [] := (repAll_nil_iff rv).mp e
            subst this
            have e2 : (List.replicate k.toNat ([] : List D)).flatten = [] := by simp
            rw [e2]
            exact .tup ht rv
          · subst e
            have e2 : (List.replicate (1 : Int).toNat xs).flatten = xs := by simp
            rw [e2]
            exact .tup ht rv
        · have h' : RoutG R S H E (PV R Q) (newT (List.replicate k.toNat xs).flatten m) := by
            unfold newT
            rw [if_pos (show short _ = true from decide_eq_true (flat_len hc))]
            exact h
          exact (newT_out cx.ok hr (rv.rep _) h').2 z hz
      · rw [if_neg hc] at h
        exact h.elim
    | lst xs => exact .inr (.inr (.inr (main _ rfl h)))
    | ref n => exact .inr (.inr (.inr (main _ rfl h)))
    | _ => exact h.elim
  | _ => exact h.elim
theorem opd_mul (fr : Bool) (cx : CxR X R E) : OpD X R E (binaryOp .Mult) (mulD fr) := ⟨_, op_mulA.or (op_strrep.or (op_repA.or op_rep)), fun S H m x y a b Q hr ra rb h => mul_out fr cx hr ra rb h⟩
theorem op_fdivA (cx : CxR X R E) : OpR X (binaryOp .FloorDiv) (rI (fun _ j => j ≠ 0) fun i j => .int (i.fdiv j)) := by
  intro pins s σ H x y v u Q I rx ry h
  obtain ⟨i, j, rfl, rfl, hj, q⟩ := h
  obtain ⟨t, rfl⟩ := rx
  obtain ⟨t', rfl⟩ := ry
  exact floordiv_int hj ⟨.int (i.fdiv j), H, I.tok _, ⟨_, rfl⟩, q⟩ (.inr (cx.pyl s I.ok.frames I.nolimit I.bk))
def nz : Int → Int → Bool := fun _ j => j != 0
theorem opd_fdiv (cx : CxR X R E) : OpD X R E (binaryOp .FloorDiv) (intI Int.fdiv nz) := ⟨_, op_fdivA cx, fun S H m x y a b Q hr ra rb h => by
  obtain ⟨i, j, h1, h2, h3, h4⟩ := intI_out hr ra rb h
  exact ⟨i, j, h1, h2, by simpa [nz] using h3, h4⟩⟩
theorem opd_mod : OpD X R E (binaryOp .Mod) (intI Int.fmod nz) := ⟨_, op_modN, fun S H m x y a b Q hr ra rb h => by
  obtain ⟨i, j, h1, h2, h3, h4⟩ := intI_out hr ra rb h
  exact ⟨i, j, h1, h2, by simpa [nz] using h3, h4⟩⟩
def powOk (i j : Int) : Bool := decide (0 ≤ j) && decide (j ≤ 1000) && decide (i.natAbs < 2 ^ 64)
theorem opd_pow : OpD X R E (binaryOp .Pow) (intI (fun i j => i ^ j.toNat) powOk) := ⟨_, op_pow, fun S H m x y a b Q hr ra rb h => by
  obtain ⟨i, j, h1, h2, h3, h4⟩ := intI_out hr ra rb h
  unfold powOk at h3
  rw [Bool.and_eq_true, Bool.and_eq_true] at h3
  exact ⟨i, j, h1, h2, ⟨of_decide_eq_true h3.1.1, Int.le_trans (of_decide_eq_true h3.1.2) (by decide), of_decide_eq_true h3.2⟩, h4⟩⟩
def negD (a : D) : M D := fun m => match a with | .int i => .ok (.int (-i)) m | _ => .stuck
def dNeg (f : FE) : FE := fun ρ => M.bind (f ρ) negD
theorem de_neg {a : Expr} {f : FE} {pos : Pos} (ha : DE X R E a f) : DE X R E (.UnaryOp .USub a pos) (dNeg f) := by
  obtain ⟨t, h1, h2⟩ := ha.ex
  refine ⟨⟨_, pe_un un_neg h1, fun S σ H ρ m Q hr he h => h2 S σ H ρ m _ hr he (h.step fun d m1 H1 S1 e1 r1 q v rv => ?_)⟩⟩
  cases d with
  | int i => exact ⟨i, rep_int rv, RoutG.now (E := E) q r1 _ (.int _)⟩
  | _ => exact q.elim

/-! ### built-in functions -/
def CallD (X : Cx) (R : RC) (E : XK) (f : Value) (g : List D → M D) : Prop :=
  ∃ r, CallR X f r ∧ ∀ S H m xs ds Q, HR R S H m → RepAll R S H xs ds → RoutG R S H E (PV R Q) (g ds m) → r xs H Q
def dCallB (g : List D → M D) (fa : FA) : FE := fun ρ => M.bind (fa ρ) g
variable {x : Str} {p pos : Pos} {e : Expr} {es : List Expr} {fa : FA} {id T : String} {g : List D → M D}
theorem de_callB (hc : CallD X R E (.builtin id) g) (hg : Gl X x) (hm : X.mg x = none) (hv : bootBuiltins x = some (.builtin id)) (ha : DA X R E (e :: es) fa) (hn : x ≠ "__name__" := by decide) (hdb : (x == ("__debug__" : Str)) = false := by decide)
    (he : starEach (e :: es) X.env = (false, eval e X.env) :: starEach es X.env := by rfl) (hpl : (backTo pos (starEach es X.env)).any (·.1) = false := by rfl) : DE X R E (.Call (.Name x p) (e :: es) [] pos) (dCallB g fa) := by
  obtain ⟨r, h1, h2⟩ := hc
  obtain ⟨t, a1, a2⟩ := ha.ex
  exact ⟨⟨_, pe_callB h1 hg hm hv a1 hn hdb he hpl, fun S σ H ρ m Q hr hE h => a2 S σ H ρ m _ hr hE (h.step fun ds m1 H1 S1 e1 r1 q vs rv => h2 S1 H1 m1 vs ds Q r1 rv q)⟩⟩
theorem de_callTy (hc : CallD X R E (.type T) g) (hg : Gl X x) (hm : X.mg x = none) (hv : bootBuiltins x = some (.type T)) (ha : DA X R E (e :: es) fa) (hn : x ≠ "__name__" := by decide) (hdb : (x == ("__debug__" : Str)) = false := by decide)
    (he : starEach (e :: es) X.env = (false, eval e X.env) :: starEach es X.env := by rfl) (hpl : (backTo pos (starEach es X.env)).any (·.1) = false := by rfl) : DE X R E (.Call (.Name x p) (e :: es) [] pos) (dCallB g fa) := by
  obtain ⟨r, h1, h2⟩ := hc
  obtain ⟨t, a1, a2⟩ := ha.ex
  exact ⟨⟨_, pe_callTy h1 hg hm hv a1 hn hdb he hpl, fun S σ H ρ m Q hr hE h => a2 S σ H ρ m _ hr hE (h.step fun ds m1 H1 S1 e1 r1 q vs rv => h2 S1 H1 m1 vs ds Q r1 rv q)⟩⟩
theorem de_callBfun (hc : CallD X R E (.builtin id) g) (hg : Gl X x) (hm : X.mg x = some (.builtin id)) (ha : DA X R E (e :: es) fa) (hdb : (x == ("__debug__" : Str)) = false := by decide)
    (he : starEach (e :: es) X.env = (false, eval e X.env) :: starEach es X.env := by rfl) (hpl : (backTo pos (starEach es X.env)).any (·.1) = false := by rfl) : DE X R E (.Call (.Name x p) (e :: es) [] pos) (dCallB g fa) := by
  obtain ⟨r, h1, h2⟩ := hc
  obtain ⟨t, a1, a2⟩ := ha.ex
  exact ⟨⟨_, pe_callBfun h1 hg hm a1 hdb he hpl, fun S σ H ρ m Q hr hE h => a2 S σ H ρ m _ hr hE (h.step fun ds m1 H1 S1 e1 r1 q vs rv => h2 S1 H1 m1 vs ds Q r1 rv q)⟩⟩
theorem repAll1 {S : Sto} {H : Hp} {xs : List V} {d : D} (r : RepAll R S H xs [d]) : ∃ v, xs = [v] ∧ Rep R S H v d := by
  cases r with
  | cons h t => cases t; exact ⟨_, rfl, h⟩
theorem repAll2 {S : Sto} {H : Hp} {xs : List V} {d e : D} (r : RepAll R S H xs [d, e]) : ∃ v u, xs = [v, u] ∧ Rep R S H v d ∧ Rep R S H u e := by
  cases r with
  | cons h t =>
    cases t with
    | cons h' t' => cases t'; exact ⟨_, _, rfl, h, h'⟩
def arg1 (g : D → M D) (ds : List D) : M D := match ds with | [d] => g d | _ => fun _ => .stuck
def arg2 (g : D → D → M D) (ds : List D) : M D := match ds with | [d, e] => g d e | _ => fun _ => .stuck
theorem arg1_out {g : D → M D} {S : Sto} {H : Hp} {m : MS} {xs : List V} {ds : List D} {Q : VK} (r : RepAll R S H xs ds) (h : RoutG R S H E (PV R Q) (arg1 g ds m)) : ∃ v d, xs = [v] ∧ Rep R S H v d ∧ RoutG R S H E (PV R Q) (g d m) := by
  cases ds with
  | nil => exact h.elim
  | cons d t =>
    cases t with
    | nil => obtain ⟨v, e, rv⟩ := repAll1 r; exact ⟨v, d, e, rv, h⟩
    | cons _ _ => exact h.elim
theorem arg2_out {g : D → D → M D} {S : Sto} {H : Hp} {m : MS} {xs : List V} {ds : List D} {Q : VK} (r : RepAll R S H xs ds) (h : RoutG R S H E (PV R Q) (arg2 g ds m)) : ∃ v u d e, xs = [v, u] ∧ Rep R S H v d ∧ Rep R S H u e ∧ RoutG R S H E (PV R Q) (g d e m) := by
  cases ds with
  | nil => exact h.elim
  | cons d t =>
    cases t with
    | nil => exact h.elim
    | cons e t =>
      cases t with
      | nil => obtain ⟨v, u, e1, rv, ru⟩ := repAll2 r; exact ⟨v, u, d, e, e1, rv, ru, h⟩
      | cons _ _ => exact h.elim
/-- len -/
def lenD (d : D) : M D := fun m => match d with
  | .str s => if s.length ≤ 1000000 then .ok (.int s.length) m else .stuck
  | d => match seqD m d with | some xs => .ok (.int xs.length) m | none => .stuck
theorem call_len_d (cx : CxR X R E) : CallD X R E (.builtin "len") (arg1 lenD) := ⟨_, call_len, fun S H m xs ds Q hr r h => by
  obtain ⟨v, d, rfl, rv, h⟩ := arg1_out r h
  rw [cx.K]
  unfold lenD at h
  have main : ∀ o, seqD m d = o → RoutG R S H E (PV R Q) (match o with | some xs => .ok (.int xs.length) m | none => .stuck) → ∃ x n, [v] = [x] ∧ LenV R.K x H n ∧ Q (.int n) H := fun o e h => by
    cases o with
    | none => exact h.elim
    | some ys =>
      obtain ⟨a, vs, rfl, hq, rvs⟩ := seqD_out hr rv e
      have q := RoutG.now (E := E) h hr _ (.int _)
      refine ⟨_, ys.length, rfl, ?_, q⟩
      rcases hq with hq | hq
      · exact .inl ⟨vs, hq, rvs.length.symm⟩
      · exact .inr ⟨vs, hq, rvs.length.symm⟩
  cases d with
  | str s =>
    dsimp only at h
    by_cases hs : s.length ≤ 1000000
    · rw [if_pos hs] at h
      have e := rep_str rv
      subst e
      exact ⟨_, s.length, rfl, ⟨Nat.le_trans hs (by decide), rfl⟩, h.now hr _ (.int _)⟩
    · rw [if_neg hs] at h
      exact h.elim
  | tup xs => exact main _ rfl h
  | lst xs => exact main _ rfl h
  | scr xs => exact main _ rfl h
  | ref n => exact main _ rfl h
  | _ => exact h.elim⟩
/-- tuple(x) -/
def tupleD (d : D) : M D := fun m => match d with
  | .tup xs => .ok (.tup xs) m
  | d => match seqD m d with | some xs => newT xs m | none => .stuck
theorem call_tuple_d (cx : CxR X R E) : CallD X R E (.type "tuple") (arg1 tupleD) := ⟨_, call_tuple_of, fun S H m xs ds Q hr r h => by
  obtain ⟨v, d, rfl, rv, h⟩ := arg1_out r h
  rw [cx.K]
  unfold tupleD at h
  have main : ∀ o, seqD m d = o → RoutG R S H E (PV R Q) (match o with | some xs => newT xs m | none => .stuck) → (∀ ys, d ≠ .tup ys) → ∃ p ys, [v] = [V.ref p] ∧ ((SqL R.K H p ys ∧ ∀ l, H l = none → Q (.ref l) (upd H l (.tup ys))) ∨ (SqT R.K H p ys ∧ Q (.ref p) H)) := fun o e h hd => by
    cases o with
    | none => exact h.elim
    | some ys =>
      have e' := seqD_cases e
      rcases e' with e' | e' | e'
      · obtain ⟨a, vs, rfl, hq, rvs, _⟩ := lstD_out hr rv e'
        exact ⟨a, vs, rfl, .inl ⟨hq, (newT_out cx.ok hr rvs h).2⟩⟩
      · cases d with
        | tup zs => exact absurd rfl (hd zs)
        | _ => cases e'
      · obtain ⟨a, vs, rfl, hq, rvs⟩ := scrD_out rv e'
        exact ⟨a, vs, rfl, .inl ⟨hq, (newT_out cx.ok hr rvs h).2⟩⟩
  cases d with
  | tup xs =>
    obtain ⟨a, vs, rfl, hq, rvs, ht⟩ := tupD_out rv rfl
    exact ⟨a, vs, rfl, .inr ⟨hq, RoutG.now (E := E) h hr _ (.tup ht rvs)⟩⟩
  | lst xs => exact main _ rfl h (fun _ z => by cases z)
  | scr xs => exact main _ rfl h (fun _ z => by cases z)
  | ref n => exact main _ rfl h (fun _ z => by cases z)
  | _ => exact h.elim⟩
/-- list(x): of a list, a tuple, a text -/
theorem vals_signs : ∀ {vs : List Value} {cs : List Nat}, vs.length = cs.length → (∀ (j : Nat) (v : Value) (c : Nat), vs[j]? = some v → cs[j]? = some c → ∃ t, v = .str ⟨#[c]⟩ t) → Vals (cs.map fun c => V.str ⟨#[c]⟩) vs
  | [], [], _, _ => .nil
  | v :: vs, c :: cs, hl, h => by
    refine .cons (h 0 v c rfl rfl) (vals_signs (by simpa using hl) fun j u d h1 h2 => h (j + 1) u d (by simpa using h1) (by simpa using h2))
  | [], _ :: _, hl, _ => by simp at hl
  | _ :: _, [], hl, _ => by simp at hl
theorem call_list_text (hc : X.calm = true) : CallR X (.type "list") (fun xs H Q => ∃ z : Str, xs = [.str z] ∧ z.length ≤ sizeLine ∧ ∀ l, H l = none → Q (.ref l) (upd H l (.lst (z.cps.toList.map fun c => V.str ⟨#[c]⟩)))) := by
  intro pins s σ H xs us Q I r h
  obtain ⟨z, rfl, hz, q⟩ := h
  obtain ⟨u, rfl, rx⟩ := vals1 r
  obtain ⟨t, rfl⟩ := rx
  refine call_list_str (I.ok.hd hc) z t (fun h' tk acc' c' hk ho hi => ?_) hz
  have hV : Vals (z.cps.toList.map fun c => V.str ⟨#[c]⟩) acc'.toList := by
    refine vals_signs ?_ fun j v c h1 h2 => ?_
    · rw [Array.length_toList, Array.length_toList]
      exact hi.1
    · obtain ⟨c2, u, e1, e2⟩ := hi.2 j v (by simpa using h1)
      have h2' : z.cps[j]? = some c := by simpa using h2
      rw [h2'] at e1
      cases e1
      exact ⟨u, e2⟩
  refine ⟨.ref s.heap.objs.size, _, I.laid (t' := tk) (o := .lst (z.cps.toList.map fun c => V.str ⟨#[c]⟩)) hk (Nat.le_refl _) ?_, rfl, q _ (I.hok.fresh (Nat.le_refl _))⟩
  refine ⟨by rw [List.length_map, Array.length_toList]; exact hz, acc'.toList, c', hV, ?_⟩
  rw [ho]
def listD (fr : Bool) (d : D) : M D := fun m => match d with
  | .str z => newL fr (z.cps.toList.map fun c => D.str ⟨#[c]⟩) m
  | d => match seqD m d with | some xs => newL fr xs m | none => .stuck
theorem repAll_signs {S : Sto} {H : Hp} : ∀ cs : List Nat, RepAll R S H (cs.map fun c => V.str ⟨#[c]⟩) (cs.map fun c => D.str ⟨#[c]⟩)
  | [] => .nil
  | c :: cs => .cons (.str _) (repAll_signs cs)
theorem CallR.or {X : Cx} {f : Value} {r r' : List V → Hp → VK → Prop} (h : CallR X f r) (h' : CallR X f r') : CallR X f (fun xs H Q => r xs H Q ∨ r' xs H Q) := by
  intro pins s σ H xs us Q I rr q
  rcases q with q | q
  · exact h pins s σ H xs us Q I rr q
  · exact h' pins s σ H xs us Q I rr q
theorem call_list_d (fr : Bool) (cx : CxR X R E) : CallD X R E (.type "list") (arg1 (listD fr)) := ⟨_, CallR.or call_list_of (call_list_text cx.calm), fun S H m xs ds Q hr r h => by
  obtain ⟨v, d, rfl, rv, h⟩ := arg1_out r h
  rw [cx.K]
  unfold listD at h
  have main : ∀ o, seqD m d = o → RoutG R S H E (PV R Q) (match o with | some xs => newL fr xs m | none => .stuck) → ∃ p ys, [v] = [V.ref p] ∧ (SqL R.K H p ys ∨ SqT R.K H p ys) ∧ ∀ l, H l = none → Q (.ref l) (upd H l (.lst ys)) := fun o e h => by
    cases o with
    | none => exact h.elim
    | some ys =>
      obtain ⟨a, vs, rfl, hq, rvs⟩ := seqD_out hr rv e
      exact ⟨a, vs, rfl, hq, (newL_out cx.ok hr rvs h).2⟩
  cases d with
  | str z =>
    have e := rep_str rv
    subst e
    obtain ⟨k1, k2⟩ := newL_out cx.ok hr (repAll_signs z.cps.toList) h
    refine .inr ⟨z, rfl, ?_, k2⟩
    rw [List.length_map, Array.length_toList] at k1
    exact k1
  | tup xs => exact .inl (main _ rfl h)
  | lst xs => exact .inl (main _ rfl h)
  | scr xs => exact .inl (main _ rfl h)
  | ref n => exact .inl (main _ rfl h)
  | _ => exact h.elim⟩
def absD (d : D) : M D := fun m => match d with | .int i => .ok (.int (if i < 0 then -i else i)) m | _ => .stuck
theorem call_abs_d : CallD X R E (.builtin "abs") (arg1 absD) := ⟨_, call_abs, fun S H m xs ds Q hr r h => by
  obtain ⟨v, d, rfl, rv, h⟩ := arg1_out r h
  cases d with
  | int i => exact ⟨i, by rw [rep_int rv], RoutG.now (E := E) h hr _ (.int _)⟩
  | _ => exact h.elim⟩
def intD (d : D) : M D := fun m => match d with | .int i => .ok (.int i) m | _ => .stuck
theorem call_int_d : CallD X R E (.type "int") (arg1 intD) := ⟨_, call_int1, fun S H m xs ds Q hr r h => by
  obtain ⟨v, d, rfl, rv, h⟩ := arg1_out r h
  cases d with
  | int i => exact .inl ⟨i, by rw [rep_int rv], RoutG.now (E := E) h hr _ (.int _)⟩
  | _ => exact h.elim⟩
def min2D (a b : D) : M D := fun m => match a, b with | .int i, .int j => .ok (.int (if j < i then j else i)) m | _, _ => .stuck
def max2D (a b : D) : M D := fun m => match a, b with | .int i, .int j => .ok (.int (if j > i then j else i)) m | _, _ => .stuck
theorem call_min2_d (cx : CxR X R E) : CallD X R E (.builtin "min") (arg2 min2D) := ⟨_, call_min2 cx.calm, fun S H m xs ds Q hr r h => by
  obtain ⟨v, u, d, e, rfl, rv, ru, h⟩ := arg2_out r h
  cases d with
  | int i =>
    cases e with
    | int j => exact ⟨i, j, by rw [rep_int rv, rep_int ru], RoutG.now (E := E) (show RoutG R S H E (PV R Q) (.ok (.int (if j < i then j else i)) m) from h) hr _ (.int _)⟩
    | _ => exact h.elim
  | _ => cases e <;> exact h.elim⟩
theorem call_max2_d (cx : CxR X R E) : CallD X R E (.builtin "max") (arg2 max2D) := ⟨_, call_max2 cx.calm, fun S H m xs ds Q hr r h => by
  obtain ⟨v, u, d, e, rfl, rv, ru, h⟩ := arg2_out r h
  cases d with
  | int i =>
    cases e with
    | int j => exact ⟨i, j, by rw [rep_int rv, rep_int ru], RoutG.now (E := E) (show RoutG R S H E (PV R Q) (.ok (.int (if j > i then j else i)) m) from h) hr _ (.int _)⟩
    | _ => exact h.elim
  | _ => cases e <;> exact h.elim⟩
def gcdD (a b : D) : M D := fun m => match a, b with | .int i, .int j => .ok (.int ((Nat.gcd i.natAbs j.natAbs : Nat) : Int)) m | _, _ => .stuck
theorem call_gcd_d : CallD X R E (.builtin "math.gcd") (arg2 gcdD) := ⟨_, cr_gcd, fun S H m xs ds Q hr r h => by
  obtain ⟨v, u, d, e, rfl, rv, ru, h⟩ := arg2_out r h
  cases d with
  | int i =>
    cases e with
    | int j => exact ⟨i, j, by rw [rep_int rv, rep_int ru], RoutG.now (E := E) (show RoutG R S H E (PV R Q) (.ok (.int ((Nat.gcd i.natAbs j.natAbs : Nat) : Int)) m) from h) hr _ (.int _)⟩
    | _ => exact h.elim
  | _ => cases e <;> exact h.elim⟩
def strI (d : D) : M D := fun m => match d with | .int i => if i.natAbs.log2 < 1920 then .ok (.str (toString i : String)) m else .stuck | _ => .stuck
theorem call_str_d : CallD X R E (.type "str") (arg1 strI) := ⟨_, call_str_int, fun S H m xs ds Q hr r h => by
  obtain ⟨v, d, rfl, rv, h⟩ := arg1_out r h
  cases d with
  | int i =>
    unfold strI at h
    dsimp only at h
    by_cases hc : i.natAbs.log2 < 1920
    · rw [if_pos hc] at h
      exact ⟨i, by rw [rep_int rv], hc, h.now hr _ (.str _)⟩
    · rw [if_neg hc] at h
      exact h.elim
  | _ => exact h.elim⟩
/-- all bools, all ints of a list -/
def allB : List D → Option (List Bool)
  | [] => some []
  | .bl b :: r => (allB r).map (b :: ·)
  | _ => none
def allI : List D → Option (List Int)
  | [] => some []
  | .int b :: r => (allI r).map (b :: ·)
  | _ => none
theorem allB_out {S : Sto} {H : Hp} : ∀ {ds : List D} {vs : List V} {bs : List Bool}, RepAll R S H vs ds → allB ds = some bs → vs = bs.map V.bl
  | [], _, _, .nil, h => by cases h; rfl
  | .bl b :: r, _, _, .cons rv rt, h => by
    unfold allB at h
    cases e : allB r with
    | none => rw [e] at h; cases h
    | some cs =>
      rw [e] at h
      cases h
      rw [rep_bl rv, allB_out rt e]
      rfl
theorem allI_out {S : Sto} {H : Hp} : ∀ {ds : List D} {vs : List V} {bs : List Int}, RepAll R S H vs ds → allI ds = some bs → vs = bs.map V.int
  | [], _, _, .nil, h => by cases h; rfl
  | .int b :: r, _, _, .cons rv rt, h => by
    unfold allI at h
    cases e : allI r with
    | none => rw [e] at h; cases h
    | some cs =>
      rw [e] at h
      cases h
      rw [rep_int rv, allI_out rt e]
      rfl
def allD (d : D) : M D := fun m => match (lstD m d).bind allB with | some bs => .ok (.bl (bs.all _root_.id)) m | none => .stuck
def anyD (d : D) : M D := fun m => match (lstD m d).bind allB with | some bs => .ok (.bl (bs.any _root_.id)) m | none => .stuck
def sumD (d : D) : M D := fun m => match (lstD m d).bind allI with | some ns => .ok (.int ns.sum) m | none => .stuck
theorem lstB_out {S : Sto} {H : Hp} {m : MS} {v : V} {d : D} {bs : List Bool} (hr : HR R S H m) (r : Rep R S H v d) (h : (lstD m d).bind allB = some bs) : ∃ a, v = .ref a ∧ SqL R.K H a (bs.map V.bl) := by
  cases e : lstD m d with
  | none => rw [e] at h; cases h
  | some xs =>
    rw [e] at h
    obtain ⟨a, vs, h1, h2, h3, _⟩ := lstD_out hr r e
    have := allB_out h3 h
    subst this
    exact ⟨a, h1, h2⟩
theorem lstI_out {S : Sto} {H : Hp} {m : MS} {v : V} {d : D} {bs : List Int} (hr : HR R S H m) (r : Rep R S H v d) (h : (lstD m d).bind allI = some bs) : ∃ a, v = .ref a ∧ SqL R.K H a (bs.map V.int) := by
  cases e : lstD m d with
  | none => rw [e] at h; cases h
  | some xs =>
    rw [e] at h
    obtain ⟨a, vs, h1, h2, h3, _⟩ := lstD_out hr r e
    have := allI_out h3 h
    subst this
    exact ⟨a, h1, h2⟩
theorem call_all_d (cx : CxR X R E) : CallD X R E (.builtin "all") (arg1 allD) := ⟨_, cr_all cx.calm, fun S H m xs ds Q hr r h => by
  obtain ⟨v, d, rfl, rv, h⟩ := arg1_out r h
  rw [cx.K]
  unfold allD at h
  cases e : (lstD m d).bind allB with
  | none => rw [e] at h; exact h.elim
  | some bs =>
    rw [e] at h
    obtain ⟨a, rfl, hq⟩ := lstB_out hr rv e
    exact ⟨a, bs, rfl, hq, h.now hr _ (.bl _)⟩⟩
theorem call_any_d (cx : CxR X R E) : CallD X R E (.builtin "any") (arg1 anyD) := ⟨_, cr_any cx.calm, fun S H m xs ds Q hr r h => by
  obtain ⟨v, d, rfl, rv, h⟩ := arg1_out r h
  rw [cx.K]
  unfold anyD at h
  cases e : (lstD m d).bind allB with
  | none => rw [e] at h; exact h.elim
  | some bs =>
    rw [e] at h
    obtain ⟨a, rfl, hq⟩ := lstB_out hr rv e
    exact ⟨a, bs, rfl, hq, h.now hr _ (.bl _)⟩⟩
theorem call_sum_d (cx : CxR X R E) : CallD X R E (.builtin "sum") (arg1 sumD) := ⟨_, cr_sum cx.calm, fun S H m xs ds Q hr r h => by
  obtain ⟨v, d, rfl, rv, h⟩ := arg1_out r h
  rw [cx.K]
  unfold sumD at h
  cases e : (lstD m d).bind allI with
  | none => rw [e] at h; exact h.elim
  | some bs =>
    rw [e] at h
    obtain ⟨a, rfl, hq⟩ := lstI_out hr rv e
    exact ⟨a, bs, rfl, hq, h.now hr _ (.int _)⟩⟩
/-! ### isinstance with built-in types -/
def tyN (m : MS) : D → Option Tn
  | .non => some .non
  | .bl _ => some .bool
  | .int _ => some .int
  | .str _ => some .str
  | .tup _ => some .tuple
  | .lst _ => some .list
  | .scr _ => some .list
  | .dct _ => some .dict
  | .ref n => match m.objs[n]? with | some (.lst _) => some .list | some (.dct _) => some .dict | _ => none
  | _ => none
def isT (t T : Tn) : Bool := decide (t = T) || (decide (t = .bool) && decide (T = .int))
def isAny (t : Tn) : List D → Option Bool
  | [] => some false
  | .ty T :: r => (isAny t r).map (isT t T || ·)
  | _ => none
def isiD (d c : D) : M D := fun m => match tyN m d with
  | some t => match c with
    | .ty T => .ok (.bl (isT t T)) m
    | .tup cs => match isAny t cs with | some b => .ok (.bl b) m | none => .stuck
    | _ => .stuck
  | none => .stuck
theorem kit_isT (K : PySem.W.Frag) (t T : Tn) : PySem.W.kitOne K (.type t.name) (.type T.name) = some (isT t T) := by
  cases t <;> cases T <;> exact kit_ty (by decide +kernel)
theorem tyN_out {S : Sto} {H : Hp} {m : MS} {v : V} {d : D} {t : Tn} (hr : HR R S H m) (r : Rep R S H v d) (h : tyN m d = some t) : TyX R.K H v (.type t.name) := by
  cases r with
  | non => cases h; exact .base .non
  | bl b => cases h; exact .base (.bl b)
  | int i => cases h; exact .base (.int i)
  | str x => cases h; exact .base (.str x)
  | tup hl ha =>
    cases h
    rcases hl with hl | ⟨o, its, n, h1, h2, _⟩
    · exact .base (.tup hl.1)
    · exact .kTuple h1 h2
  | lst hl ha => cases h; exact .base (.lst hl.1)
  | dct h1 _ _ _ =>
    cases h
    rcases h1 with h1 | ⟨o, h1⟩
    · exact .base (.dK h1)
    · exact .fDict h1
  | scr h1 _ => cases h; exact .base (.frz h1)
  | @ref n a hn =>
    unfold tyN at h
    dsimp only at h
    cases e : m.objs[n]? with
    | none => rw [e] at h; cases h
    | some o =>
      rw [e] at h
      cases o with
      | lst xs => cases h; obtain ⟨vs, h1, _⟩ := hr.obj n a _ hn e; exact .base (.lst h1)
      | dct kvs => cases h; obtain ⟨vs, h1, _⟩ := hr.obj n a _ hn e; exact .base (.dK h1)
      | ins _ _ => cases h
  | _ => cases h
theorem isAny_out {S : Sto} {H : Hp} {t : Tn} : ∀ {cs : List D} {vs : List V} {b : Bool}, RepAll R S H vs cs → isAny t cs = some b → ∃ us, Paired ClsV vs us ∧ PySem.W.kitAny R.K (.type t.name) us = some b
  | [], _, b, .nil, h => by cases h; exact ⟨[], .nil, rfl⟩
  | .ty T :: r, _, b, .cons rv rt, h => by
    unfold isAny at h
    have e := rep_ty rv
    subst e
    cases e2 : isAny t r with
    | none => rw [e2] at h; cases h
    | some b' =>
      rw [e2] at h
      cases h
      obtain ⟨us, h1, h2⟩ := isAny_out rt e2
      refine ⟨.type T.name :: us, .cons (.ty _) h1, ?_⟩
      refine kitAny_cons (kit_isT _ t T) (fun z => ?_) (fun z => ?_)
      · rw [z]; exact h2
      · rw [z]; rfl
  | .non :: _, _, _, _, h => by cases h
  | .bl _ :: _, _, _, _, h => by cases h
  | .int _ :: _, _, _, _, h => by cases h
  | .str _ :: _, _, _, _, h => by cases h
  | .tup _ :: _, _, _, _, h => by cases h
  | .lst _ :: _, _, _, _, h => by cases h
  | .dct _ :: _, _, _, _, h => by cases h
  | .scr _ :: _, _, _, _, h => by cases h
  | .ref _ :: _, _, _, _, h => by cases h
  | .drw :: _, _, _, _, h => by cases h
  | .fn _ :: _, _, _, _, h => by cases h
  | .clo _ :: _, _, _, _, h => by cases h
  | .exn _ _ :: _, _, _, _, h => by cases h
theorem clsV_all : ∀ {vs : List V} {us ws : List Value}, Paired ClsV vs us → Vals vs ws → ws = us := ClsV.all
theorem call_isi_d (cx : CxR X R E) : CallD X R E (.builtin "isinstance") (arg2 isiD) := ⟨_, CallR.or call_isi (CallR.or call_isiT call_isiK), fun S H m xs ds Q hr r h => by
  obtain ⟨v, u, d, c, rfl, rv, ru, h⟩ := arg2_out r h
  rw [cx.K]
  unfold isiD at h
  cases e : tyN m d with
  | none => rw [e] at h; exact h.elim
  | some t =>
    rw [e] at h
    have ty := tyN_out hr rv e
    cases c with
    | ty T =>
      have e2 := rep_ty ru
      subst e2
      exact .inl ⟨v, _, _, _, isT t T, rfl, .ty _, ty, kit_isT _ t T, RoutG.now (E := E) h hr _ (.bl _)⟩
    | tup cs =>
      dsimp only at h
      cases e2 : isAny t cs with
      | none => rw [e2] at h; exact h.elim
      | some b =>
        rw [e2] at h
        have q := h.now hr _ (.bl b)
        obtain ⟨a, vs, rfl, hq, rvs, ht⟩ := tupD_out ru rfl
        obtain ⟨us, h1, h2⟩ := isAny_out rvs e2
        rcases ht with ht | ⟨o, its, n, k1, k2, k3, k4, k5⟩
        · exact .inr (.inl ⟨v, a, vs, _, us, b, rfl, ht.1, h1, ty, h2, q⟩)
        · have e3 := clsV_all h1 k5
          obtain ⟨oc, od, dt, sl⟩ := o
          simp only at k2 k3
          subst k2 k3
          exact .inr (.inr ⟨v, a, od, us, n, sl, _, b, rfl, by rw [← e3]; simpa using k1, ty, h2, q⟩)
    | _ => exact h.elim⟩
end
end TL
end
section
/-! The data layer: statements. -/
namespace TL
open PySem PySem.Spec PyProof.Rows L2

section
variable {X : Cx} {R : RC} {E : XK} {pos : Pos} {st : Stmt} {rest : List Stmt} {e a b c : Expr} {f fa fb fc : FE} {ga : FB} {u v w : FS}

/-! ### blocks -/
def sNext : FS := fun ρ m => .ok (.next ρ) m
def sSeq (u v : FS) : FS := fun ρ => M.bind (u ρ) fun fl => match fl with
  | .next ρ' => v ρ'
  | fl => fun m => .ok fl m
theorem dss_nil : DSs X R E [] sNext := ⟨⟨_, pss_nil, fun S σ H ρ m Z hr he h => h.now hr σ he⟩⟩
/-- the ends: next is what the rest wants -/
theorem PF_seq {S : Sto} {H : Hp} {m : MS} {Z : Ends} {fl : Fl} {v : FS} {t : TS} (h2 : ∀ S σ H ρ m Z, HR R S H m → ER R S H σ ρ → RoutG R S H E (PF R Z) (v ρ m) → t Z σ H) (hr : HR R S H m)
    (h : RoutG R S H E (PF R Z) ((match fl with | .next ρ' => v ρ' | fl => fun m => .ok fl m : M Fl) m)) : PF R { Z with nx := t Z } fl m H S := by
  cases fl with
  | next ρ' => exact fun σ' he => h2 S σ' H ρ' m Z hr he h
  | ret d => exact fun x r => h.now hr x r
  | brk ρ' => exact fun σ' r => h.now hr σ' r
  | cont ρ' => exact fun σ' r => h.now hr σ' r
theorem dss_cons (h1 : DS X R E st u) (h2 : DSs X R E rest v) : DSs X R E (st :: rest) (sSeq u v) := by
  obtain ⟨t, a1, a2⟩ := h1.ex
  obtain ⟨t', b1, b2⟩ := h2.ex
  exact ⟨⟨_, pss_cons a1 b1, fun S σ H ρ m Z hr he h => a2 S σ H ρ m _ hr he (h.step fun fl m1 H1 S1 e1 r1 q => PF_seq b2 r1 q)⟩⟩
theorem dss_one (h1 : DS X R E st u) : DSs X R E [st] u := by
  obtain ⟨t, a1, a2⟩ := h1.ex
  exact ⟨⟨_, pss_one a1, a2⟩⟩
theorem ds_pass : DS X R E (.Pass pos) sNext := ⟨⟨_, ps_pass, fun S σ H ρ m Z hr he h => h.now hr σ he⟩⟩
def sBrk : FS := fun ρ m => .ok (.brk ρ) m
def sCont : FS := fun ρ m => .ok (.cont ρ) m
theorem ds_brk : DS X R E (.Break pos) sBrk := ⟨⟨_, ps_break, fun S σ H ρ m Z hr he h => h.now hr σ he⟩⟩
theorem ds_cont : DS X R E (.Continue pos) sCont := ⟨⟨_, ps_continue, fun S σ H ρ m Z hr he h => h.now hr σ he⟩⟩
theorem ds_doc {x : Str} {j : Nat} {p : Pos} : DS X R E (.Expr (.Constant (.str x) j p) pos) sNext := ⟨⟨_, ps_doc, fun S σ H ρ m Z hr he h => h.now hr σ he⟩⟩
def sExpr (f : FE) : FS := fun ρ => M.bind (f ρ) fun _ m => .ok (.next ρ) m
theorem ds_expr (cx : CxR X R E) (he : DE X R E e f) (hs : swapsWith e none pos.line X.env = pure false := by rfl) : DS X R E (.Expr e pos) (sExpr f) := by
  obtain ⟨t, a1, a2⟩ := he.ex
  exact ⟨⟨_, ps_expr a1 hs, fun S σ H ρ m Z hr he h => a2 S σ H ρ m _ hr he (h.step fun d m1 H1 S1 e1 r1 q x rx => q.now r1 σ (he.ext cx.ok e1))⟩⟩
def sRet (f : FE) : FS := fun ρ => M.bind (f ρ) fun d m => .ok (.ret d) m
theorem ds_ret (he : DE X R E e f) : DS X R E (.Return (some e) pos) (sRet f) := by
  obtain ⟨t, a1, a2⟩ := he.ex
  exact ⟨⟨_, ps_ret a1, fun S σ H ρ m Z hr he h => a2 S σ H ρ m _ hr he (h.step fun d m1 H1 S1 e1 r1 q x rx => q.now r1 x rx)⟩⟩
def sRetN : FS := fun _ m => .ok (.ret .non) m
theorem ds_retN : DS X R E (.Return none pos) sRetN := ⟨⟨_, ps_retN, fun S σ H ρ m Z hr he h => h.now hr _ .non⟩⟩
def sIf (g : FB) (u v : FS) : FS := fun ρ => M.bind (g ρ) fun k => if k then u ρ else v ρ
theorem ds_if {p q : List Stmt} (cx : CxR X R E) (hc : DT X R E c ga) (ha : DSs X R E p u) (hb : DSs X R E q v) : DS X R E (.If c p q pos) (sIf ga u v) := by
  obtain ⟨tc, c1, c2⟩ := hc.ex
  obtain ⟨ta, a1, a2⟩ := ha.ex
  obtain ⟨tb, b1, b2⟩ := hb.ex
  refine ⟨⟨_, ps_if c1 a1 b1, fun S σ H ρ m Z hr he h => c2 S σ H ρ m _ hr he (h.step fun k m1 H1 S1 e1 r1 q => ?_)⟩⟩
  cases k with
  | true => exact a2 S1 σ H1 ρ m1 Z r1 (he.ext cx.ok e1) q
  | false => exact b2 S1 σ H1 ρ m1 Z r1 (he.ext cx.ok e1) q
/-- code that no run comes to -/
def sNever : FS := fun _ _ => .stuck
theorem ds_never : DS X R E st sNever := ⟨⟨_, ps_never, fun S σ H ρ m Z hr he h => h.elim⟩⟩

/-! ### targets -/
abbrev FG := D → Env' → M Env'
abbrev FGs := List D → Env' → M Env'
def PG' (R : RC) (Q : L2.St → Hp → Prop) : Env' → MS → Hp → Sto → Prop := fun ρ' _ H' S' => ∀ σ', ER R S' H' σ' ρ' → Q σ' H'
structure DG (X : Cx) (R : RC) (E : XK) (tg : Expr) (g : FG) : Prop where
  ex : ∃ t, PG X tg t ∧ ∀ S σ H ρ m v d Q, HR R S H m → ER R S H σ ρ → Rep R S H v d → RoutG R S H E (PG' R Q) (g d ρ m) → t v σ H Q
structure DGs (X : Cx) (R : RC) (E : XK) (tgs : List Expr) (g : FGs) : Prop where
  ex : ∃ t, PGs X tgs t ∧ ∀ S σ H ρ m vs ds Q, HR R S H m → ER R S H σ ρ → RepAll R S H vs ds → RoutG R S H E (PG' R Q) (g ds ρ m) → t vs σ H Q
def gN (i : Nat) : FG := fun d ρ m => .ok (ρ.set i (some d)) m
theorem dg_name {i : Nat} {x : Str} (cx : CxR X R E) (hi : X.N[i]? = some x := by rfl) (hx : Loc X.env.scope x := by first | exact .inl rfl | exact .inr rfl) (hf : X.fn x = true ∨ X.env.scope.names.lookup x = some .local := by first | exact .inl rfl | exact .inr rfl) : DG X R E (.Name x pos) (gN i) :=
  ⟨⟨_, pg_name cx.nd hi hx hf, fun S σ H ρ m v d Q hr he rv h => h.now hr _ (he.set rv)⟩⟩
def gsNil : FGs := fun ds ρ m => match ds with | [] => .ok ρ m | _ => .stuck
def gsCons (g : FG) (h : FGs) : FGs := fun ds ρ => match ds with | d :: ds => M.bind (g d ρ) fun ρ' => h ds ρ' | [] => fun _ => .stuck
theorem dgs_nil : DGs X R E [] gsNil := ⟨⟨_, pgs_nil, fun S σ H ρ m vs ds Q hr he rv h => by
  cases rv with
  | nil => exact ⟨rfl, h.now hr σ he⟩
  | cons _ _ => exact h.elim⟩⟩
theorem dgs_cons {tg : Expr} {tgs : List Expr} {g : FG} {gs : FGs} (cx : CxR X R E) (h1 : DG X R E tg g) (h2 : DGs X R E tgs gs)
    (hs : (assignEach (tg :: tgs) X.env).map (·.2) = assign tg X.env :: (assignEach tgs X.env).map (·.2) := by rfl) : DGs X R E (tg :: tgs) (gsCons g gs) := by
  obtain ⟨t, a1, a2⟩ := h1.ex
  obtain ⟨t', b1, b2⟩ := h2.ex
  refine ⟨⟨_, pgs_cons a1 b1 hs, fun S σ H ρ m vs ds Q hr he rv h => ?_⟩⟩
  cases rv with
  | nil => exact h.elim
  | cons r rr => exact ⟨_, _, rfl, a2 S σ H ρ m _ _ _ hr he r (h.step fun ρ' m1 H1 S1 e1 r1 q σ' he' => b2 S1 σ' H1 ρ' m1 _ _ Q r1 he' (rr.ext cx.ok e1) q)⟩
def gT (n : Nat) (gs : FGs) : FG := fun d ρ m => match tupD d with | some ds => if ds.length = n then gs ds ρ m else .stuck | none => .stuck
theorem dg_tup {es : List Expr} {k : Nat} {gs : FGs} (n : Nat) (cx : CxR X R E) (h : DGs X R E es gs) (hn : (assignEach es X.env).length = n := by rfl) (hst : (assignEach es X.env).findIdx? (·.1) = none := by rfl) : DG X R E (.Tuple es k pos) (gT n gs) := by
  obtain ⟨t, a1, a2⟩ := h.ex
  refine ⟨⟨_, pg_tup (n := n) cx.calm a1 hn hst, fun S σ H ρ m v d Q hr he rv h => ?_⟩⟩
  unfold gT at h
  cases e : tupD d with
  | none => rw [e] at h; exact h.elim
  | some ds =>
    rw [e] at h
    dsimp only at h
    by_cases hl : ds.length = n
    · rw [if_pos hl] at h
      obtain ⟨p, vs, rfl, hq, ra, _⟩ := tupD_out rv e
      rw [cx.K]
      exact ⟨p, vs, rfl, hq, by rw [ra.length]; exact hl, a2 S σ H ρ m _ _ _ hr he ra h⟩
    · rw [if_neg hl] at h
      exact h.elim
/-- l[i] = d, the list one of ours -/
def putD (o i d : D) : M Unit := fun m => match o, i with
  | .ref n, .int k => match m.objs[n]? with
    | some (.lst xs) => (match ixN xs.length k with | some j => .ok () { m with objs := m.objs.set n (.lst (xs.set j d)) } | none => .stuck)
    | _ => .stuck
  | _, _ => .stuck
def gSubD (fo fi : FE) : FG := fun d ρ => M.bind (fo ρ) fun o => M.bind (fi ρ) fun i => M.bind (putD o i d) fun _ m => .ok ρ m
theorem ref_out {S : Sto} {H : Hp} {m : MS} {v : V} {n : Nat} {xs : List D} (hr : HR R S H m) (rv : Rep R S H v (.ref n)) (h : m.objs[n]? = some (.lst xs)) : ∃ a vs, v = .ref a ∧ S.refs[n]? = some a ∧ H a = some (.lst vs) ∧ RepAll R S H vs xs := by
  cases rv with
  | ref hn =>
    obtain ⟨vs, h1, h2⟩ := hr.obj n _ _ hn h
    exact ⟨_, vs, rfl, hn, h1, h2⟩
theorem dg_sub {o i : Expr} {fo fi : FE} (cx : CxR X R E) (ho : DE X R E o fo) (hi : DE X R E i fi)
    (ha : ∀ v, assign (.Subscript o i pos) X.env v = (do
      let ov ← holding [v] (eval o X.env)
      let iv ← holding [v, ov] (eval i X.env)
      standAt pos
      holding [v, ov, iv] (setItem ov iv v)
      release [v, ov, iv] []) := by intro _; rfl) : DG X R E (.Subscript o i pos) (gSubD fo fi) := by
  obtain ⟨t, a1, a2⟩ := ho.ex
  obtain ⟨t', b1, b2⟩ := hi.ex
  refine ⟨⟨_, pg_sub a1 b1 set_list ha, fun S σ H ρ m v d Q hr he rv h => a2 S σ H ρ m _ hr he (h.step fun od m1 H1 S1 e1 r1 q x rx => ?_)⟩⟩
  refine b2 S1 σ H1 ρ m1 _ r1 (he.ext cx.ok e1) (q.step fun id m2 H2 S2 e2 r2 q2 y ry => ?_)
  have rx := rx.ext cx.ok e2
  have rv := rv.ext cx.ok (e1.trans e2)
  have he := he.ext cx.ok (e1.trans e2)
  unfold M.bind putD at q2
  cases od with
  | ref n =>
    cases id with
    | int k =>
      dsimp only at q2
      cases eo : m2.objs[n]? with
      | none => rw [eo] at q2; exact q2.elim
      | some u =>
        rw [eo] at q2
        cases u with
        | lst xs =>
          dsimp only at q2
          obtain ⟨p, vs, rfl, hn, hp, ra⟩ := ref_out r2 rx eo
          cases ej : ixN xs.length k with
          | none => rw [ej] at q2; exact q2.elim
          | some j =>
            rw [ej] at q2
            have ex := Ext.put (o := .lst (vs.set j v)) r2 hn
            refine ⟨p, vs, k, j, rfl, rep_int ry, hp, by rw [ra.length]; exact ej, ?_⟩
            exact q2 _ S2 ex (r2.put cx.ok hn ⟨_, upd_same, (ra.set rv j).ext cx.ok ex⟩) σ (he.ext cx.ok ex)
        | _ => exact q2.elim
    | _ => exact q2.elim
  | _ => exact q2.elim
/-- target = value -/
def sAsg (f : FE) (g : FG) : FS := fun ρ => M.bind (f ρ) fun d => M.bind (g d ρ) fun ρ' m => .ok (.next ρ') m
theorem asg_out {te : TE} {tg : TG} {g : FG} (cx : CxR X R E) (a2 : ∀ S σ H ρ m Q, HR R S H m → ER R S H σ ρ → RoutG R S H E (PV R Q) (f ρ m) → te σ H Q) (b2 : ∀ S σ H ρ m v d Q, HR R S H m → ER R S H σ ρ → Rep R S H v d → RoutG R S H E (PG' R Q) (g d ρ m) → tg v σ H Q)
    {S : Sto} {σ : L2.St} {H : Hp} {ρ : Env'} {m : MS} {Z : Ends} (hr : HR R S H m) (he : ER R S H σ ρ) (h : RoutG R S H E (PF R Z) (sAsg f g ρ m)) : tAsg te tg Z σ H :=
  a2 S σ H ρ m _ hr he (h.step fun d m1 H1 S1 e1 r1 q x rx => b2 S1 σ H1 ρ m1 _ _ _ r1 (he.ext cx.ok e1) rx (q.step fun ρ' m2 H2 S2 e2 r2 q2 σ' he' => q2.now r2 σ' he'))
theorem ds_asg {tg : Expr} {g : FG} (cx : CxR X R E) (he : DE X R E e f) (hg : DG X R E tg g) (hs : swapsWithSole [tg] e pos.line X.env = pure false := by rfl) (hw : swappedStores [tg] e X.env = pure none := by rfl)
    (h1 : (assignEach [tg] X.env).map (·.2) = [assign tg X.env] := by rfl) : DS X R E (.Assign [tg] e pos) (sAsg f g) := by
  obtain ⟨t, a1, a2⟩ := he.ex
  obtain ⟨t', b1, b2⟩ := hg.ex
  exact ⟨⟨_, ps_asg a1 b1 hs hw h1, fun S σ H ρ m Z hr he h => asg_out cx a2 b2 hr he h⟩⟩
theorem ds_set {i : Nat} {x : Str} {p : Pos} (cx : CxR X R E) (he : DE X R E e f) (hi : X.N[i]? = some x := by rfl) (hx : Loc X.env.scope x := by first | exact .inl rfl | exact .inr rfl) (hs : swapsWith e (some (.Name x p)) pos.line X.env = pure false := by rfl)
    (hf : X.fn x = true ∨ X.env.scope.names.lookup x = some .local := by first | exact .inl rfl | exact .inr rfl) : DS X R E (.Assign [.Name x p] e pos) (sAsg f (gN i)) := by
  obtain ⟨t, a1, a2⟩ := he.ex
  exact ⟨⟨_, ps_set cx.nd hi hx a1 hs hf, fun S σ H ρ m Z hr he h => asg_out cx a2 (fun S σ H ρ m v d Q hr he rv h => h.now hr _ (he.set rv)) hr he h⟩⟩
def sPar2 (i j : Nat) (g : FA) : FS := fun ρ => M.bind (g ρ) fun ds => match ds with
  | [d, d'] => fun m => .ok (.next ((ρ.set i (some d)).set j (some d'))) m
  | _ => fun _ => .stuck
theorem ds_par2 {i j : Nat} {x y : Str} {g : FA} {px py pt : Pos} {kt k2 : Nat} {pt2 : Pos} (cx : CxR X R E) (ha : DA X R E [a, b] g) (hi : X.N[i]? = some x := by rfl) (hj : X.N[j]? = some y := by rfl) (hij : i ≠ j := by decide)
    (hx : X.env.scope.names.lookup x = some .local := by rfl) (hy : X.env.scope.names.lookup y = some .local := by rfl)
    (hw : swappedStores [.Tuple [.Name x px, .Name y py] kt pt] (.Tuple [a, b] k2 pt2) X.env = pure (some [x, y]) := by rfl)
    (hs : swapsWithSole [.Tuple [.Name x px, .Name y py] kt pt] (.Tuple [a, b] k2 pt2) pos.line X.env = pure false := by rfl) :
    DS X R E (.Assign [.Tuple [.Name x px, .Name y py] kt pt] (.Tuple [a, b] k2 pt2) pos) (sPar2 i j g) := by
  obtain ⟨t, a1, a2⟩ := ha.ex
  refine ⟨⟨_, ps_par cx.calm cx.nd hi hj hij hx hy a1 hw hs, fun S σ H ρ m Z hr he h => a2 S σ H ρ m _ hr he (h.step fun ds m1 H1 S1 e1 r1 q vs rv => ?_)⟩⟩
  cases rv with
  | cons r rr =>
    cases rr with
    | cons r' rr =>
      cases rr with
      | nil => exact ⟨_, _, rfl, q.now r1 _ (((he.ext cx.ok e1).set r).set r')⟩
      | cons _ _ => exact q.elim
    | nil => exact q.elim
  | nil => exact q.elim
def sPar3 (i j l : Nat) (g : FA) : FS := fun ρ => M.bind (g ρ) fun ds => match ds with
  | [d, d', d2] => fun m => .ok (.next (((ρ.set i (some d)).set j (some d')).set l (some d2))) m
  | _ => fun _ => .stuck
theorem ds_par3 {i j l : Nat} {x y z : Str} {g : FA} {px py pz pt : Pos} {kt k2 : Nat} {pt2 : Pos} (cx : CxR X R E) (ha : DA X R E [a, b, c] g) (hi : X.N[i]? = some x := by rfl) (hj : X.N[j]? = some y := by rfl) (hl : X.N[l]? = some z := by rfl) (hij : i ≠ j := by decide) (hil : i ≠ l := by decide) (hjl : j ≠ l := by decide)
    (hx : X.env.scope.names.lookup x = some .local := by rfl) (hy : X.env.scope.names.lookup y = some .local := by rfl) (hz : X.env.scope.names.lookup z = some .local := by rfl)
    (hw : swappedStores [.Tuple [.Name x px, .Name y py, .Name z pz] kt pt] (.Tuple [a, b, c] k2 pt2) X.env = pure (some [x, y, z]) := by rfl)
    (hs : swapsWithSole [.Tuple [.Name x px, .Name y py, .Name z pz] kt pt] (.Tuple [a, b, c] k2 pt2) pos.line X.env = pure false := by rfl) :
    DS X R E (.Assign [.Tuple [.Name x px, .Name y py, .Name z pz] kt pt] (.Tuple [a, b, c] k2 pt2) pos) (sPar3 i j l g) := by
  obtain ⟨t, a1, a2⟩ := ha.ex
  refine ⟨⟨_, ps_par3 cx.calm cx.nd hi hj hl hij hil hjl hx hy hz a1 hw hs, fun S σ H ρ m Z hr he h => a2 S σ H ρ m _ hr he (h.step fun ds m1 H1 S1 e1 r1 q vs rv => ?_)⟩⟩
  cases rv with
  | cons r rr =>
    cases rr with
    | cons r' rr =>
      cases rr with
      | nil => exact q.elim
      | cons r2 rr =>
        cases rr with
        | nil => exact ⟨_, _, _, rfl, q.now r1 _ ((((he.ext cx.ok e1).set r).set r').set r2)⟩
        | cons _ _ => exact q.elim
    | nil => exact q.elim
  | nil => exact q.elim

/-! ### while -/
/-- turns with fuel n -/
def loopW (g : FB) (body : FS) : Nat → FS
  | 0, _, _ => .stuck
  | n + 1, ρ, m => M.bind (g ρ) (fun k => if k then M.bind (body ρ) (fun fl => match fl with
    | .next ρ' => loopW g body n ρ'
    | .cont ρ' => loopW g body n ρ'
    | .brk ρ' => fun m => .ok (.next ρ') m
    | .ret d => fun m => .ok (.ret d) m) else fun m => .ok (.next ρ) m) m
def isStuck {α : Type} : Res α → Bool
  | .stuck => true
  | _ => false
open Classical in
/-- a while: with the least fuel that is enough -/
noncomputable def sWhile (g : FB) (body : FS) : FS := fun ρ m => if h : ∃ n, loopW g body n ρ m ≠ .stuck then loopW g body (Classical.choose h) ρ m else .stuck
theorem bind_mono {α β : Type} {x : M α} {k k' : α → M β} {m : MS} (hk : ∀ a m', k a m' ≠ .stuck → k' a m' = k a m') (h : M.bind x k m ≠ .stuck) : M.bind x k' m = M.bind x k m := by
  unfold M.bind at *
  cases e : x m with
  | ok a m' => rw [e] at h; exact hk a m' h
  | raise c fs m' => rfl
  | stuck => rfl
theorem loopW_mono (g : FB) (body : FS) : ∀ (n k : Nat) (ρ : Env') (m : MS), loopW g body n ρ m ≠ .stuck → loopW g body (n + k) ρ m = loopW g body n ρ m
  | 0, _, _, _, h => absurd rfl h
  | n + 1, k, ρ, m, h => by
    rw [Nat.add_right_comm]
    unfold loopW at h ⊢
    refine bind_mono (fun b m1 h1 => ?_) h
    cases b with
    | false => rfl
    | true =>
      refine bind_mono (fun fl m2 h2 => ?_) h1
      cases fl with
      | next ρ' => exact loopW_mono g body n k ρ' m2 h2
      | cont ρ' => exact loopW_mono g body n k ρ' m2 h2
      | brk ρ' => rfl
      | ret d => rfl
theorem loopW_det {g : FB} {body : FS} {n k : Nat} {ρ : Env'} {m : MS} (h : loopW g body n ρ m ≠ .stuck) (h' : loopW g body k ρ m ≠ .stuck) : loopW g body n ρ m = loopW g body k ρ m := by
  rcases Nat.le_total n k with l | l
  · obtain ⟨j, rfl⟩ := Nat.le.dest l
    exact (loopW_mono g body n j ρ m h).symm
  · obtain ⟨j, rfl⟩ := Nat.le.dest l
    exact loopW_mono g body k j ρ m h'
/-- the while's value, by any fuel that is enough -/
theorem sWhile_eq {g : FB} {body : FS} (n : Nat) {ρ : Env'} {m : MS} {r : Res Fl} (h : loopW g body n ρ m = r) (hn : r ≠ .stuck) : sWhile g body ρ m = r := by
  have hx : ∃ n, loopW g body n ρ m ≠ .stuck := ⟨n, by rw [h]; exact hn⟩
  unfold sWhile
  rw [dif_pos hx, ← h]
  exact loopW_det (Classical.choose_spec hx) (by rw [h]; exact hn)
theorem ds_while {body : List Stmt} (cx : CxR X R E) (hc : DT X R E c ga) (hb : DSs X R E body u) : DS X R E (.While c body [] pos) (sWhile ga u) := by
  obtain ⟨tc, c1, c2⟩ := hc.ex
  obtain ⟨tb, b1, b2⟩ := hb.ex
  refine ⟨⟨_, ps_while cx.po c1 b1, fun S0 σ0 H0 ρ0 m0 Z hr0 he0 h0 => ?_⟩⟩
  unfold sWhile at h0
  by_cases hx : ∃ n, loopW ga u n ρ0 m0 ≠ .stuck
  · rw [dif_pos hx] at h0
    generalize Classical.choose hx = n0 at h0
    refine ⟨fun n σ H => ∃ S ρ m, HR R S H m ∧ ER R S H σ ρ ∧ RoutG R S H E (PF R Z) (loopW ga u n ρ m), ⟨n0, S0, ρ0, m0, hr0, he0, h0⟩, ?_⟩
    rintro n σ H ⟨S, ρ, m, hr, he, h⟩
    cases n with
    | zero => exact h.elim
    | succ n =>
      unfold loopW at h
      refine c2 S σ H ρ m _ hr he (h.step fun k m1 H1 S1 e1 r1 q => ?_)
      cases k with
      | false => exact RoutG.now (R := R) (E := E) q r1 σ (he.ext cx.ok e1)
      | true =>
        refine ⟨fun σ' H' => ∃ S ρ m, HR R S H' m ∧ ER R S H' σ' ρ ∧ RoutG R S H' E (PF R Z) (loopW ga u n ρ m), fun σ' H' w => ⟨n, Nat.lt_succ_self n, w⟩, ?_⟩
        refine b2 S1 σ H1 ρ m1 _ r1 (he.ext cx.ok e1) ((show RoutG R S1 H1 E (PF R Z) (M.bind (u ρ) _ m1) from q).step fun fl m2 H2 S2 e2 r2 q2 => ?_)
        cases fl with
        | next ρ' => exact fun σ' he' => ⟨S2, ρ', m2, r2, he', q2⟩
        | cont ρ' => exact fun σ' he' => ⟨S2, ρ', m2, r2, he', q2⟩
        | brk ρ' => exact fun σ' he' => q2.now r2 σ' he'
        | ret d => exact fun x rx => q2.now r2 x rx
  · rw [dif_neg hx] at h0
    exact h0.elim
end
end TL
end
section
/-! The data layer: what a loop walks; enumerate, zip of lists and tuples in any mix. -/
namespace TL
open PySem PySem.Spec PyProof.Rows L2

/-! ### a list or a tuple -/
inductive Kd where
  | l | t
def Kd.it : Kd → Heap → Addr → Addr → Nat → Prop
  | .l, h, i, a, n => h.IsListIter i a n
  | .t, h, i, a, n => h.IsTupleIter i a n
def Kd.isq : Kd → Heap → Addr → Array Value → Prop
  | .l, h, a, xs => h.IsList a xs
  | .t, h, a, xs => h.IsTuple a xs
def Kd.sq : Kd → PySem.W.Frag → Hp → Addr → List V → Prop
  | .l, K, H, a, xs => SqL K H a xs
  | .t, K, H, a, xs => SqT K H a xs
def Kd.obj : Kd → Addr → Obj
  | .l, a => { cls := .type "list_iterator", data := .fields #[.ref a, .int 0 0] }
  | .t, a => { cls := .type "tuple_iterator", data := .fields #[.ref a, .int 0 0] }
theorem Kd.it_new (k : Kd) {h : Heap} {i a : Addr} (e : h.get? i = some (k.obj a)) : k.it h i a 0 := by
  cases k
  · exact ⟨_, e, rfl, rfl⟩
  · exact ⟨_, e, rfl, rfl⟩
theorem Kd.it_at (k : Kd) {h h' : Heap} {i a : Addr} {n : Nat} (st : k.it h i a n) (f : ∀ o, h.get? i = some o → h'.get? i = some o) : k.it h' i a n := by
  cases k
  · obtain ⟨o, e, c, d⟩ := st
    exact ⟨o, f o e, c, d⟩
  · obtain ⟨o, e, c, d⟩ := st
    exact ⟨o, f o e, c, d⟩
theorem Kd.it_obj (k : Kd) {h : Heap} {i a : Addr} {n : Nat} (st : k.it h i a n) : ∃ o, h.get? i = some o ∧ ∀ v, o.data ≠ .cell v := by
  cases k
  · obtain ⟨o, e, c, d⟩ := st
    exact ⟨o, e, fun v z => by rw [d] at z; cases z⟩
  · obtain ⟨o, e, c, d⟩ := st
    exact ⟨o, e, fun v z => by rw [d] at z; cases z⟩
section
variable {X : Cx} {pins : List (Addr × Obj)} {σ : L2.St} {H : Hp} {s : Shared} {a : Addr} {xs ys : List V}
theorem Kd.reads (k : Kd) (I : Inv X pins σ H s) (h : k.sq X.K H a xs) : ∃ its : List Value, Vals xs its ∧ k.isq s.heap a its.toArray ∧ xs.length ≤ sizeLine ∧ a < s.heap.objs.size := by
  cases k
  · obtain ⟨its, rv, p, hz⟩ := I.list h
    exact ⟨its, rv, p.isList, hz, p.lt⟩
  · obtain ⟨its, rv, p, hz⟩ := I.tuple h
    obtain ⟨o, ho, _⟩ := id p
    exact ⟨its, rv, p, hz, Heap.lt_size ho⟩
theorem Kd.inj (k : Kd) (I : Inv X pins σ H s) (h : k.sq X.K H a xs) (h' : k.sq X.K H a ys) : xs = ys := by
  cases k
  · exact I.list_inj h h'
  · exact I.tuple_inj h h'
end
theorem Kd.draws (k : Kd) {prog : Program} {w : World} {A : Around} (hh : A.handled = none) (it l : Addr) (hne : l ≠ it) (items : Array Value) :
    Draws prog w A it [it, l] items.size (fun i v => items[i]? = some v) (fun i h => k.it h it l i ∧ k.isq h l items) := by
  cases k
  · exact Draws.list hh it l hne items
  · exact Draws.tuple hh it l hne items
theorem Kd.begins (k : Kd) (l : Addr) (items : Array Value) : Begins (.ref l) (k.obj l) fun h => k.isq h l items := by
  cases k
  · exact begins_list l items
  · exact begins_tuple l items

/-! ### enumerate -/
def ItE (K : PySem.W.Frag) (k : Kd) (a : Addr) : It :=
  ⟨fun i H => ∃ (xs : List V) (x : V), k.sq K H a xs ∧ xs[i]? = some x, fun i H v H' => ∃ T x, v = .ref T ∧ H T = none ∧ H' = upd H T (.tup [.int (i : Nat), x]) ∧ ∀ xs, k.sq K H a xs → xs[i]? = some x, fun i H => ∃ xs : List V, k.sq K H a xs ∧ xs.length = i⟩
theorem turn_enumD {P : Program} {w : World} {K : PySem.W.Frag} {elts : List Expr} {kk : Nat} {tpos : Pos} (k : Kd) (a e it : Addr) (hei : e ≠ it) (hea : e ≠ a) (hai : a ≠ it) :
    Turn P w K (.Tuple elts kk tpos) (ItE K k a) [e, it] e (fun i h => (∃ old, IsEnum h e it (0 + ((i : Nat) : Int)) old) ∧ k.it h it a i) where
  mem := by simp
  obj := fun i h st b hb => by
    obtain ⟨⟨old, he⟩, hi⟩ := st
    have e' : b = e ∨ b = it := by simpa using hb
    rcases e' with z | z
    · rw [z]; exact ⟨_, he, fun v q => nomatch q⟩
    · rw [z]; exact k.it_obj hi
  keep := fun i h h' st f => let ⟨⟨old, he⟩, hi⟩ := st; ⟨⟨old, f e (by simp) _ he⟩, k.it_at hi fun o q => f it (by simp) o q⟩
  item := by
    intro X hP hw hK hc i pins s σ H E I hf st hg
    subst hP hw hK
    obtain ⟨he, hit⟩ := st
    obtain ⟨xs, x, hq, hx⟩ := hg
    obtain ⟨its, rv, p, hz, _⟩ := k.reads I hq
    obtain ⟨u, hu, ru⟩ := rv.get hx
    have hlt : i < its.toArray.size := by
      have := (List.getElem?_eq_some_iff.mp hu).1
      simpa using this
    have hd := k.draws (prog := X.prog) (w := X.w) (A := X.A.in1) (I.ok.hd hc) it a hai its.toArray
    have W := GoesN.enumFrom (elts := elts) (x1 := kk) (pos := tpos) 0 hd e hei (by simp [hei, hea]) (by simp)
    refine W.goes i s _ _ hlt ⟨he, hit, p⟩ fun v h' tk hY st' hk htk => ?_
    obtain ⟨T, t, u', rfl, hT, hu', hTt⟩ := hY
    have eu : u' = u := by
      have hu2 : its.toArray[i]? = some u := by simpa using hu
      rw [hu2] at hu'
      exact (Option.some.inj hu').symm
    subst eu
    have new : ObjOk X.prog X.w (upd H T (.tup [.int (i : Nat), x])) h' T (.tup [.int (i : Nat), x]) :=
      ⟨by show 2 ≤ sizeLine; decide, [.int (0 + (i : Int)) t, u'], .cons ⟨_, by rw [Int.zero_add]⟩ (.cons ru .nil), hTt⟩
    have I1 : Inv X pins σ (upd H T (.tup [.int (i : Nat), x])) { s with heap := h', toks := tk } :=
      I.turnedNew (ch := [e, it]) (fun b o hb q => hk b o hb q) hf hT new
    refine ⟨.ref T, _, I1, rfl, ⟨T, x, rfl, I.hok.fresh hT, rfl, fun ys hy => by rw [k.inj I hy hq]; exact hx⟩, ⟨st'.1, st'.2.1⟩, fun b hb => ?_⟩
    have hb' : b < s.heap.objs.size := by
      have e' : b = e ∨ b = it := by simpa using hb
      rcases e' with z | z
      · rw [z]; obtain ⟨_, h⟩ := he; exact Heap.lt_size h
      · rw [z]; obtain ⟨_, h, _⟩ := k.it_obj hit; exact Heap.lt_size h
    rw [upd_ne (Nat.ne_of_lt (Nat.lt_of_lt_of_le hb' hT))]
    exact (hf b hb).1
  done := by
    intro X hP hw hK hc i pins s σ H E I hf st hg
    subst hP hw hK
    obtain ⟨he, hit⟩ := st
    obtain ⟨xs, hq, hx⟩ := hg
    obtain ⟨its, rv, p, hz, _⟩ := k.reads I hq
    have hl := rv.length
    have hd := k.draws (prog := X.prog) (w := X.w) (A := X.A.in1) (I.ok.hd hc) it a hai its.toArray
    have W := GoesN.enumFrom (elts := elts) (x1 := kk) (pos := tpos) 0 hd e hei (by simp [hei, hea]) (by simp)
    have hn : its.toArray.size = i := by simp; omega
    refine W.stops s (fun s1 => Inv X pins σ H s1) _ ?_ fun h' tk hk htk => I.turnedL (ch := [e, it]) (fun b o hb q => hk b o hb q) hf
    rw [hn]
    exact ⟨he, hit, p⟩
  self := fun A i s Q E st h => let ⟨⟨_, he⟩, _⟩ := st; wpAny_pyIter_enum he h
def iEnumD (K : PySem.W.Frag) (ta : TA) : TI := fun σ H R => ta σ H fun vs H1 => ∃ a xs k, vs = [.ref a] ∧ Kd.sq k K H1 a xs ∧ R (ItE K k a) H1
set_option maxHeartbeats 1000000 in
theorem meets_enum1 {v : Value} {o : Obj} {H : Heap → Prop} (B : Begins v o H) :
    Meets (Builtin.«enumerate.__new__» ⟨[.type "enumerate", v], []⟩) (fun _ R s => H s.heap ∧
      R (.ok (.ret (.ref (s.heap.push o).objs.size))) { s with heap := (s.heap.push o).push { cls := .type "enumerate", data := .fields #[.none, .bool false, .ref s.heap.objs.size, rawInt 0, .none, .none] } }) :=
  .of_wp fun prog w A R s h => by
    obtain ⟨hp, g, d, tk, os⟩ := s; obtain ⟨h1, h⟩ := h
    have hsub := sub_enumerate
    have q1 : ∀ {A' : Around} {E : Value → Shared → Prop} {Q : Value → Shared → Prop}, Q (.ref hp.objs.size) ⟨hp.push o, g, d, tk, os⟩ → wpAny (model prog w) A' (pyIter v) Q E ⟨hp, g, d, tk, os⟩ :=
      fun q => B.iter prog w _ _ ⟨hp, g, d, tk, os⟩ _ h1 q
    wp_walk using q1
    refine wpAny_stack_any fun st => wpAny_pure ?_
    split
    · rename_i c _ _ _ _ _
      cases (c == Value.type "enumerate")
      · wp_walk using q1
        exact ⟨_, rfl, h⟩
      · wp_walk using q1
        exact ⟨_, rfl, h⟩
    · wp_walk using q1
      exact ⟨_, rfl, h⟩
theorem call_enum1 {prog : Program} {w : World} {A : Around} {E : Value → Shared → Prop} {s : Shared} {v : Value} {o : Obj} {H : Heap → Prop} {Q : Value → Shared → Prop} (B : Begins v o H) (h1 : H s.heap)
    (h : ∀ h', IsEnum h' (s.heap.objs.size + 1) s.heap.objs.size 0 .none → h'.get? s.heap.objs.size = some o → h'.objs.size = s.heap.objs.size + 2 →
      (∀ b o, s.heap.get? b = some o → h'.get? b = some o) → Q (.ref (s.heap.objs.size + 1)) { s with heap := h' }) :
    wpAny (model prog w) A (call (.type "enumerate") [v]) Q E s := by
  refine callType_new F.called_enumerate (by decide) (F.typeCall_enumerate_1 _) (F.newCall_enumerate_1 _) (fun obj => F.args_object_init_2 obj _) F.entry_enumerate_new (meets_enum1 B) ⟨h1, ?_⟩
  have hz : (s.heap.push o).objs.size = s.heap.objs.size + 1 := Heap.size_push ..
  show _ ∧ _
  rw [hz]
  have he : IsEnum ((s.heap.push o).push { cls := .type "enumerate", data := .fields #[.none, .bool false, .ref s.heap.objs.size, rawInt 0, .none, .none] }) (s.heap.objs.size + 1) s.heap.objs.size 0 .none := by
    have := Heap.get?_push_size (s.heap.push o) (o := { cls := .type "enumerate", data := .fields #[.none, .bool false, .ref s.heap.objs.size, rawInt 0, .none, .none] }) rfl
    rw [hz] at this; exact this
  refine ⟨⟨_, he, rfl⟩, h _ he (Heap.get?_push_of_some _ (Heap.get?_push_size _ B.free)) (by rw [Heap.size_push, hz]) fun b o x => Heap.get?_push_of_some _ (Heap.get?_push_of_some _ x)⟩
theorem pi_enumD {X : Cx} {e : Expr} {ta : TA} {p pos tpos : Pos} {elts : List Expr} {kk : Nat} (hg : Gl X "enumerate") (hm : X.mg "enumerate" = none) (ha : PA X [e] ta) (hs : starEach [e] X.env = [(false, eval e X.env)] := by rfl) :
    PI X (.Tuple elts kk tpos) (.Call (.Name "enumerate" p) [e] [] pos) (iEnumD X.K ta) := by
  refine ⟨fun pins s σ H R I h => ?_⟩
  refine Call_ (ld_blt I hg hm boot_enumerate (PyProof.Rows.callWith_type1 (thn (ha.run pos pins s σ H _ I h) fun us s1 ⟨vs, H1, I1, r1, q1⟩ => ?_) hs rfl))
  obtain ⟨a, xs, k, ex, hq, q⟩ := q1
  subst ex
  cases r1 with
  | cons r rr =>
    cases rr
    cases r
    obtain ⟨its, rv, p', hz, hlt⟩ := k.reads I1 hq
    refine call_enum1 (k.begins a its.toArray) p' fun h' he hit hsz hk => wpAny_pyIter_enum he ?_
    have I2 : Inv X pins σ H1 { s1 with heap := h' } := I1.kept (t' := s1.toks) hk
    refine ⟨s1.heap.objs.size + 1, [s1.heap.objs.size + 1, s1.heap.objs.size], _, _, H1, rfl, I2, turn_enumD k a (s1.heap.objs.size + 1) s1.heap.objs.size (Nat.succ_ne_self _) (Nat.ne_of_gt (Nat.lt_succ_of_lt hlt)) (Nat.ne_of_lt hlt), ⟨⟨.none, he⟩, k.it_new hit⟩, fun b hb => ?_, q⟩
    have e' : b = s1.heap.objs.size + 1 ∨ b = s1.heap.objs.size := by simpa using hb
    have hle : s1.heap.objs.size ≤ b := by
      rcases e' with z | z
      · rw [z]; exact Nat.le_add_right _ _
      · rw [z]; exact Nat.le_refl _
    exact I1.fpOk hle (I1.hok.fresh hle)

/-! ### zip of two -/
def ItZ2 (K : PySem.W.Frag) (k1 k2 : Kd) (a b : Addr) : It :=
  ⟨fun i H => ∃ (xs ys : List V) (x y : V), k1.sq K H a xs ∧ k2.sq K H b ys ∧ xs[i]? = some x ∧ ys[i]? = some y,
    fun i H v H' => ∃ T x y, v = .ref T ∧ H T = none ∧ H' = upd H T (.tup [x, y]) ∧ (∀ xs, k1.sq K H a xs → xs[i]? = some x) ∧ ∀ ys, k2.sq K H b ys → ys[i]? = some y,
    fun i H => ∃ xs ys : List V, k1.sq K H a xs ∧ k2.sq K H b ys ∧ min xs.length ys.length = i⟩
theorem its_at {its : List Value} {i : Nat} {u u' : Value} (h : its[i]? = some u) (h' : its.toArray[i]? = some u') : u' = u := by
  have h2 : its.toArray[i]? = some u := by simpa using h
  rw [h2] at h'
  exact (Option.some.inj h').symm
theorem turn_zip2D {P : Program} {w : World} {K : PySem.W.Frag} {elts : List Expr} {kk : Nat} {tpos : Pos} (k1 k2 : Kd) {a b z TI TO i1 i2 : Addr} (D : ZipSep2 z TI TO i1 i2 [i1, a] [i2, b]) (ha : a ≠ i1) (hb : b ≠ i2) :
    Turn P w K (.Tuple elts kk tpos) (ItZ2 K k1 k2 a b) [z, TI, TO, i1, i2] z (fun i h => IsZip h z TI TO .none ∧ IsTupOf2 h TI (.ref i1) (.ref i2) ∧ (∃ x y, IsTupOf2 h TO x y) ∧ k1.it h i1 a i ∧ k2.it h i2 b i) where
  mem := by simp
  obj := fun i h st c hc => by
    obtain ⟨hz, hTI, ⟨x, y, hTO⟩, h1, h2⟩ := st
    have e' : c = z ∨ c = TI ∨ c = TO ∨ c = i1 ∨ c = i2 := by simpa using hc
    rcases e' with q | q | q | q | q
    · rw [q]; exact ⟨_, hz, fun v q => nomatch q⟩
    · rw [q]; exact ⟨_, hTI, fun v q => nomatch q⟩
    · rw [q]; exact ⟨_, hTO, fun v q => nomatch q⟩
    · rw [q]; exact k1.it_obj h1
    · rw [q]; exact k2.it_obj h2
  keep := fun i h h' st k => by
    obtain ⟨hz, hTI, ⟨x, y, hTO⟩, h1, h2⟩ := st
    exact ⟨k z (by simp) _ hz, k TI (by simp) _ hTI, ⟨x, y, k TO (by simp) _ hTO⟩, k1.it_at h1 fun o q => k i1 (by simp) o q, k2.it_at h2 fun o q => k i2 (by simp) o q⟩
  item := by
    intro X hP hw hK hc i pins s σ H E I hf st hg
    subst hP hw hK
    obtain ⟨hz, hTI, hTO, h1, h2⟩ := st
    obtain ⟨xs, ys, x, y, hqx, hqy, hx, hy⟩ := hg
    obtain ⟨its, rv, p, _, _⟩ := k1.reads I hqx
    obtain ⟨its2, rv2, p2, _, _⟩ := k2.reads I hqy
    obtain ⟨u, hu, ru⟩ := rv.get hx
    obtain ⟨u2, hu2, ru2⟩ := rv2.get hy
    have l1 : i < its.toArray.size := by simpa using (List.getElem?_eq_some_iff.mp hu).1
    have l2 : i < its2.toArray.size := by simpa using (List.getElem?_eq_some_iff.mp hu2).1
    have W := GoesN.zip2 (elts := elts) (x1 := kk) (pos := tpos) D (k1.draws (prog := X.prog) (w := X.w) (A := X.A.in1) (I.ok.hd hc) i1 a ha its.toArray) (k2.draws (prog := X.prog) (w := X.w) (A := X.A.in1) (I.ok.hd hc) i2 b hb its2.toArray)
    refine W.goes i s _ _ (Nat.lt_min.mpr ⟨l1, l2⟩) ⟨hz, hTI, hTO, ⟨h1, p⟩, h2, p2⟩ fun v h' tk hY st' hk htk => ?_
    obtain ⟨T, u', u2', rfl, hT, hu', hu2', hTt⟩ := hY
    cases its_at hu hu'
    cases its_at hu2 hu2'
    have new : ObjOk X.prog X.w (upd H T (.tup [x, y])) h' T (.tup [x, y]) := ⟨by show 2 ≤ sizeLine; decide, [u, u2], .cons ru (.cons ru2 .nil), hTt⟩
    have I1 : Inv X pins σ (upd H T (.tup [x, y])) { s with heap := h', toks := tk } :=
      I.turnedNew (ch := [z, TI, TO, i1, i2]) (fun c o hb q => hk c o (fun hb' => hb (by simp at hb' ⊢; rcases hb' with z | z | z | z <;> simp [z])) q) hf hT new
    refine ⟨.ref T, _, I1, rfl, ⟨T, x, y, rfl, I.hok.fresh hT, rfl, fun l hl => by rw [k1.inj I hl hqx]; exact hx, fun l hl => by rw [k2.inj I hl hqy]; exact hy⟩, ⟨st'.1, st'.2.1, st'.2.2.1, st'.2.2.2.1.1, st'.2.2.2.2.1⟩, fun c hcm => ?_⟩
    have hlt : c < s.heap.objs.size := by
      have e' : c = z ∨ c = TI ∨ c = TO ∨ c = i1 ∨ c = i2 := by simpa using hcm
      rcases e' with q | q | q | q | q
      · rw [q]; exact Heap.lt_size hz
      · rw [q]; exact Heap.lt_size hTI
      · rw [q]; obtain ⟨_, _, h⟩ := hTO; exact Heap.lt_size h
      · rw [q]; obtain ⟨_, h, _⟩ := k1.it_obj h1; exact Heap.lt_size h
      · rw [q]; obtain ⟨_, h, _⟩ := k2.it_obj h2; exact Heap.lt_size h
    rw [upd_ne (Nat.ne_of_lt (Nat.lt_of_lt_of_le hlt hT))]
    exact (hf c hcm).1
  done := by
    intro X hP hw hK hc i pins s σ H E I hf st hg
    subst hP hw hK
    obtain ⟨hz, hTI, hTO, h1, h2⟩ := st
    obtain ⟨xs, ys, hqx, hqy, hend⟩ := hg
    obtain ⟨its, rv, p, _, _⟩ := k1.reads I hqx
    obtain ⟨its2, rv2, p2, _, _⟩ := k2.reads I hqy
    have l1 := rv.length
    have l2 := rv2.length
    have W := GoesN.zip2 (elts := elts) (x1 := kk) (pos := tpos) D (k1.draws (prog := X.prog) (w := X.w) (A := X.A.in1) (I.ok.hd hc) i1 a ha its.toArray) (k2.draws (prog := X.prog) (w := X.w) (A := X.A.in1) (I.ok.hd hc) i2 b hb its2.toArray)
    have hn : min its.toArray.size its2.toArray.size = i := by simp; omega
    refine W.stops s (fun s1 => Inv X pins σ H s1) _ ?_ fun h' tk hk htk => I.turnedL (ch := [z, TI, TO, i1, i2]) (fun c o hb q => hk c o (fun hb' => hb (by simp at hb' ⊢; rcases hb' with z | z | z | z <;> simp [z])) q) hf
    rw [hn]
    exact ⟨hz, hTI, hTO, ⟨h1, p⟩, h2, p2⟩
  self := fun A i s Q E st h => wpAny_pyIter_zip st.1 h
def iZip2D (K : PySem.W.Frag) (ta : TA) : TI := fun σ H R => ta σ H fun vs H1 => ∃ a b xs ys k1 k2, vs = [.ref a, .ref b] ∧ Kd.sq k1 K H1 a xs ∧ Kd.sq k2 K H1 b ys ∧ R (ItZ2 K k1 k2 a b) H1
theorem pi_zip2D {X : Cx} {e e2 : Expr} {ta : TA} {p pos tpos : Pos} {elts : List Expr} {kk : Nat} (hg : Gl X "zip") (hm : X.mg "zip" = none) (ha : PA X [e, e2] ta)
    (hs : starEach [e, e2] X.env = (false, eval e X.env) :: starEach [e2] X.env := by rfl) (hpl : (backTo pos (starEach [e2] X.env)).any (·.1) = false := by rfl) :
    PI X (.Tuple elts kk tpos) (.Call (.Name "zip" p) [e, e2] [] pos) (iZip2D X.K ta) := by
  refine ⟨fun pins s σ H R I h => ?_⟩
  refine Call_ (ld_blt I hg hm PyProof.Rows.boot_zip (PyProof.Rows.callWith_type1 (thn (ha.run pos pins s σ H _ I h) fun us s1 ⟨vs, H1, I1, r1, q1⟩ => ?_) hs hpl))
  obtain ⟨a, b, xs, ys, k1, k2, ex, hqx, hqy, q⟩ := q1
  subst ex
  cases r1 with
  | cons r rr =>
    cases rr with
    | cons r' rr =>
      cases rr
      cases r
      cases r'
      obtain ⟨its, rv, p1, _, la⟩ := k1.reads I1 hqx
      obtain ⟨its2, rv2, p2, _, lb⟩ := k2.reads I1 hqy
      refine zip_begins2 (k1.begins a its.toArray) (k2.begins b its2.toArray) p1 p2 fun h' hz hTI hTO h1 h2 hsz hk => wpAny_pyIter_zip hz ?_
      have I2 : Inv X pins σ H1 { s1 with heap := h' } := I1.kept (t' := s1.toks) hk
      refine ⟨s1.heap.objs.size + 4, [s1.heap.objs.size + 4, s1.heap.objs.size + 2, s1.heap.objs.size + 3, s1.heap.objs.size, s1.heap.objs.size + 1], _, _, H1, rfl, I2,
        turn_zip2D k1 k2 (zip_sep2 (fp1 := [a]) (fp2 := [b]) (fun c hc => by rw [List.mem_singleton.mp hc]; exact la) (fun c hc => by rw [List.mem_singleton.mp hc]; exact lb)) (Nat.ne_of_lt la) (Nat.ne_of_lt (Nat.lt_succ_of_lt lb)), ⟨hz, hTI, ⟨_, _, hTO⟩, k1.it_new h1, k2.it_new h2⟩, fun c hcm => ?_, q⟩
      have e' : c = s1.heap.objs.size + 4 ∨ c = s1.heap.objs.size + 2 ∨ c = s1.heap.objs.size + 3 ∨ c = s1.heap.objs.size ∨ c = s1.heap.objs.size + 1 := by simpa using hcm
      have hle : s1.heap.objs.size ≤ c := by
        rcases e' with z | z | z | z | z
        · rw [z]; exact Nat.le_add_right _ _
        · rw [z]; exact Nat.le_add_right _ _
        · rw [z]; exact Nat.le_add_right _ _
        · rw [z]; exact Nat.le_refl _
        · rw [z]; exact Nat.le_add_right _ _
      exact I1.fpOk hle (I1.hok.fresh hle)

/-! ### a list or a tuple itself; a text -/
def ItS (K : PySem.W.Frag) (k : Kd) (a : Addr) : It := match k with | .l => Itl K a | .t => Itt K a
def iSeqA (K : PySem.W.Frag) (tl : TE) : TI := fun σ H R => tl σ H fun x H1 => (∃ a xs k, x = .ref a ∧ Kd.sq k K H1 a xs ∧ R (ItS K k a) H1) ∨ ∃ x', x = .str x' ∧ R (Its x') H1
theorem pi_seqA {X : Cx} {tg l : Expr} {tl : TE} (hl : PE X l tl) : PI X tg l (iSeqA X.K tl) := by
  refine ⟨fun pins s σ H R I h => ?_⟩
  have hl' : PE X l tl := hl
  refine thn (hl.run pins s σ H _ I h) fun v s1 ⟨x, H1, I1, r1, q1⟩ => ?_
  rcases q1 with ⟨a, xs, k, e, hq, q⟩ | ⟨x', e, q⟩
  · subst e
    cases r1
    cases k with
    | l =>
      obtain ⟨its, rv, p, hz⟩ := I1.list hq
      refine wpAny_pyIter_list p.isList ?_
      refine ⟨s1.heap.objs.size, [s1.heap.objs.size], _, _, H1, rfl, I1.kept (t' := s1.toks) fun b o e => Heap.get?_push_of_some _ e, turn_list a _, ⟨_, Heap.get?_push_size _ rfl, rfl, rfl⟩, fun b hb => ?_, q⟩
      have e : b = s1.heap.objs.size := by simpa using hb
      subst e
      exact I1.fpOk (Nat.le_refl _) (I1.hok.fresh (Nat.le_refl _))
    | t =>
      obtain ⟨its, rv, p, hz⟩ := I1.tuple hq
      refine wpAny_pyIter_tuple (show s1.heap.IsTuple a its.toArray from p) ?_
      refine ⟨s1.heap.objs.size, [s1.heap.objs.size], _, _, H1, rfl, I1.kept (t' := s1.toks) fun b o e => Heap.get?_push_of_some _ e, turn_tuple a _, ⟨_, Heap.get?_push_size _ rfl, rfl, rfl⟩, fun b hb => ?_, q⟩
      have e : b = s1.heap.objs.size := by simpa using hb
      subst e
      exact I1.fpOk (Nat.le_refl _) (I1.hok.fresh (Nat.le_refl _))
  · subst e
    obtain ⟨t, rfl⟩ := r1
    refine wpAny_pyIter_strU ?_
    exact pi_one I1 _ (turn_str _ x' t (strIterType x') (by unfold strIterType; split <;> simp)) ⟨_, Heap.get?_push_size _ rfl, rfl, rfl⟩ q
end TL
end
section
/-! The data layer: for loops, list comprehensions. -/
namespace TL
open PySem PySem.Spec PyProof.Rows L2

/-- what is walked: the items; the lists of ours that must stay as they are -/
structure ItD where
  items : List D
  gs : List (Nat × List D)
def ItD.Ok (it : ItD) (m : MS) : Prop := ∀ p ∈ it.gs, m.objs[p.1]? = some (.lst p.2)
structure WalkD (R : RC) (S : Sto) (H : Hp) (it : ItD) (J : It) : Prop where
  goes : ∀ S2 H2 m2 i, Ext0 S H S2 H2 → HR R S2 H2 m2 → it.Ok m2 → i < it.items.length → J.go i H2
  stops : ∀ S2 H2 m2, Ext0 S H S2 H2 → HR R S2 H2 m2 → it.Ok m2 → J.stop it.items.length H2
  yields : ∀ S2 H2 m2 i x H3, Ext0 S H S2 H2 → HR R S2 H2 m2 → it.Ok m2 → i < it.items.length → J.yld i H2 x H3 → ∃ d, it.items[i]? = some d ∧ Ext S2 H2 S2 H3 ∧ HR R S2 H3 m2 ∧ Rep R S2 H3 x d
def PI' (R : RC) (Q : It → Hp → Prop) : ItD → MS → Hp → Sto → Prop := fun it _ H' S' => ∀ J, WalkD R S' H' it J → Q J H'
structure DI (X : Cx) (R : RC) (E : XK) (tg iter : Expr) (f : Env' → M ItD) : Prop where
  ex : ∃ t, PI X tg iter t ∧ ∀ S σ H ρ m Q, HR R S H m → ER R S H σ ρ → RoutG R S H E (PI' R Q) (f ρ m) → t σ H Q

section
variable {X : Cx} {R : RC} {E : XK} {pos : Pos} {e a b c : Expr} {f fa fb fc : FE}

/-! ### sequences -/
def kdD : D → Kd
  | .tup _ => .t
  | _ => .l
def gsD (m : MS) (d : D) : List (Nat × List D) := match d with
  | .ref n => (match m.objs[n]? with | some (.lst xs) => [(n, xs)] | _ => [])
  | _ => []
theorem seqD_k {S : Sto} {H : Hp} {m : MS} {v : V} {d : D} {ds : List D} (hr : HR R S H m) (r : Rep R S H v d) (h : seqD m d = some ds) : ∃ p vs, v = .ref p ∧ (kdD d).sq R.K H p vs ∧ RepAll R S H vs ds := by
  rcases seqD_cases h with h' | h' | h'
  · obtain ⟨p, vs, h1, h2, h3, _⟩ := lstD_out hr r h'
    refine ⟨p, vs, h1, ?_, h3⟩
    cases d with
    | tup xs => cases h'
    | _ => exact h2
  · obtain ⟨p, vs, h1, h2, h3, _⟩ := tupD_out r h'
    refine ⟨p, vs, h1, ?_, h3⟩
    cases d with
    | tup xs => exact h2
    | _ => cases h'
  · obtain ⟨p, vs, h1, h2, h3⟩ := scrD_out r h'
    refine ⟨p, vs, h1, ?_, h3⟩
    cases d with
    | tup xs => cases h'
    | _ => exact h2
/-- a sequence stays what it is while its list is not written -/
theorem seqD_stay {m m2 : MS} {d : D} {ds : List D} (h : seqD m d = some ds) (hg : ∀ p ∈ gsD m d, m2.objs[p.1]? = some (.lst p.2)) : seqD m2 d = some ds := by
  cases d with
  | ref n =>
    unfold seqD gsD at *
    dsimp only at h hg
    cases e : m.objs[n]? with
    | none => rw [e] at h; cases h
    | some o =>
      rw [e] at h hg
      cases o with
      | lst xs =>
        have := hg (n, xs) (by simp)
        cases h
        dsimp only at this ⊢
        rw [this]
      | _ => cases h
  | _ => exact h
theorem sq_len {S : Sto} {H : Hp} {m : MS} {v : V} {d : D} {ds : List D} {vs : List V} (r : RepAll R S H vs ds) : vs.length = ds.length := r.length
theorem rep_get {S : Sto} {H : Hp} {vs : List V} {ds : List D} {i : Nat} {x : V} (r : RepAll R S H vs ds) (h : vs[i]? = some x) : ∃ d, ds[i]? = some d ∧ Rep R S H x d := r.getV h

/-! #### the thing itself -/
def iSeq (f : FE) : Env' → M ItD := fun ρ => M.bind (f ρ) fun d m => match d with
  | .str s => if s.length ≤ 1000000 then .ok ⟨s.cps.toList.map (fun c => .str ⟨#[c]⟩), []⟩ m else .stuck
  | d => match seqD m d with | some xs => .ok ⟨xs, gsD m d⟩ m | none => .stuck
theorem walkD_seq {S : Sto} {H : Hp} {m : MS} {p : Addr} {d : D} {ds : List D} (ro : R.Ok) (hr : HR R S H m) (r : Rep R S H (.ref p) d) (h : seqD m d = some ds) : WalkD R S H ⟨ds, gsD m d⟩ (ItS R.K (kdD d) p) := by
  have key : ∀ S2 H2 m2, Ext0 S H S2 H2 → HR R S2 H2 m2 → (ItD.mk ds (gsD m d)).Ok m2 → ∃ vs, (kdD d).sq R.K H2 p vs ∧ RepAll R S2 H2 vs ds := fun S2 H2 m2 e2 r2 ok => by
    obtain ⟨p', vs, h1, h2, h3⟩ := seqD_k r2 (r.ext0 ro e2) (seqD_stay h ok)
    cases h1
    exact ⟨vs, h2, h3⟩
  generalize kdD d = k at key
  cases k with
  | l =>
    refine ⟨fun S2 H2 m2 i e2 r2 ok hi => ?_, fun S2 H2 m2 e2 r2 ok => ?_, fun S2 H2 m2 i x H3 e2 r2 ok hi y => ?_⟩
    · obtain ⟨vs, h1, h2⟩ := key S2 H2 m2 e2 r2 ok
      have hl := h2.length
      exact ⟨vs, vs[i]'(by rw [hl]; exact hi), h1, List.getElem?_eq_getElem _⟩
    · obtain ⟨vs, h1, h2⟩ := key S2 H2 m2 e2 r2 ok
      exact ⟨vs, h1, by rw [h2.length]; exact Nat.le_refl _⟩
    · obtain ⟨vs, h1, h2⟩ := key S2 H2 m2 e2 r2 ok
      obtain ⟨rfl, y⟩ := y
      obtain ⟨d, q1, q2⟩ := h2.getV (y vs h1)
      exact ⟨d, q1, Ext.refl _ _, r2, q2⟩
  | t =>
    refine ⟨fun S2 H2 m2 i e2 r2 ok hi => ?_, fun S2 H2 m2 e2 r2 ok => ?_, fun S2 H2 m2 i x H3 e2 r2 ok hi y => ?_⟩
    · obtain ⟨vs, h1, h2⟩ := key S2 H2 m2 e2 r2 ok
      have hl := h2.length
      exact ⟨vs, vs[i]'(by rw [hl]; exact hi), h1, List.getElem?_eq_getElem _⟩
    · obtain ⟨vs, h1, h2⟩ := key S2 H2 m2 e2 r2 ok
      exact ⟨vs, h1, by rw [h2.length]; exact Nat.le_refl _⟩
    · obtain ⟨vs, h1, h2⟩ := key S2 H2 m2 e2 r2 ok
      obtain ⟨rfl, y⟩ := y
      obtain ⟨d, q1, q2⟩ := h2.getV (y vs h1)
      exact ⟨d, q1, Ext.refl _ _, r2, q2⟩
theorem di_seq {tg : Expr} (cx : CxR X R E) (h : DE X R E e f) : DI X R E tg e (iSeq f) := by
  obtain ⟨t, a1, a2⟩ := h.ex
  refine ⟨⟨_, pi_seqA a1, fun S σ H ρ m Q hr he h => a2 S σ H ρ m _ hr he (h.step fun d m1 H1 S1 e1 r1 q v rv => ?_)⟩⟩
  rw [cx.K]
  have main : ∀ xs, seqD m1 d = some xs → RoutG R S1 H1 E (PI' R Q) (match seqD m1 d with | some xs => Res.ok ⟨xs, gsD m1 d⟩ m1 | none => .stuck) → (∃ a xs k, v = .ref a ∧ Kd.sq k R.K H1 a xs ∧ Q (ItS R.K k a) H1) := fun xs hs q => by
    rw [hs] at q
    obtain ⟨p, vs, rfl, h1, h2⟩ := seqD_k r1 rv hs
    exact ⟨p, vs, kdD d, rfl, h1, q.now r1 _ (walkD_seq cx.ok r1 rv hs)⟩
  cases d with
  | str s =>
    dsimp only at q
    by_cases hs : s.length ≤ 1000000
    · rw [if_pos hs] at q
      refine .inr ⟨s, rep_str rv, q.now r1 _ ⟨fun S2 H2 m2 i e2 r2 ok hi => ?_, fun S2 H2 m2 e2 r2 ok => ?_, fun S2 H2 m2 i x H3 e2 r2 ok hi y => ?_⟩⟩
      · show i < s.cps.size
        simpa using hi
      · show s.cps.size ≤ _
        simp
      · obtain ⟨rfl, c, hc, rfl⟩ := y
        refine ⟨.str ⟨#[c]⟩, ?_, Ext.refl _ _, r2, .str _⟩
        have hc' : s.cps.toList[i]? = some c := by simpa using hc
        show (s.cps.toList.map _)[i]? = _
        rw [List.getElem?_map, hc']
        rfl
    · rw [if_neg hs] at q
      exact q.elim
  | tup xs => exact .inl (main xs rfl q)
  | scr xs => exact .inl (main _ rfl q)
  | lst xs => exact .inl (main xs rfl q)
  | ref n =>
    cases e : seqD m1 (.ref n) with
    | none => dsimp only at q; rw [e] at q; exact q.elim
    | some xs => exact .inl (main xs e q)
  | _ => exact q.elim

/-! #### range -/
def rng (lo : Int) (n : Nat) : List D := (List.range n).map fun i => .int (lo + (i : Nat))
theorem walkD_rng {S : Sto} {H : Hp} (lo : Int) (n : Nat) : WalkD R S H ⟨rng lo n, []⟩ (Itr lo n) := by
  have hl : (rng lo n).length = n := by unfold rng; simp
  refine ⟨fun S2 H2 m2 i e2 r2 ok hi => ?_, fun S2 H2 m2 e2 r2 ok => ?_, fun S2 H2 m2 i x H3 e2 r2 ok hi y => ?_⟩
  · show i < n
    rw [← hl]; exact hi
  · show n ≤ (rng lo n).length
    rw [hl]; exact Nat.le_refl _
  · obtain ⟨rfl, rfl⟩ := y
    refine ⟨.int (lo + i), ?_, Ext.refl _ _, r2, .int _⟩
    have hi' : i < n := by rw [← hl]; exact hi
    show (rng lo n)[i]? = _
    unfold rng
    rw [List.getElem?_map, List.getElem?_range hi']
    rfl
def iRange1 (g : FA) : Env' → M ItD := fun ρ => M.bind (g ρ) fun ds m => match ds with
  | [.int j] => if -(2 ^ 62) ≤ j ∧ j < 2 ^ 62 then .ok ⟨rng 0 j.toNat, []⟩ m else .stuck
  | _ => .stuck
theorem di_range1 {tg : Expr} {g : FA} {p : Pos} (hg : Gl X "range") (hm : X.mg "range" = none) (h : DA X R E [e] g) (hs : starEach [e] X.env = [(false, eval e X.env)] := by rfl) : DI X R E tg (.Call (.Name "range" p) [e] [] pos) (iRange1 g) := by
  obtain ⟨t, a1, a2⟩ := h.ex
  refine ⟨⟨_, pi_range1 hg hm a1 hs, fun S σ H ρ m Q hr he h => a2 S σ H ρ m _ hr he (h.step fun ds m1 H1 S1 e1 r1 q vs rv => ?_)⟩⟩
  cases rv with
  | nil => exact q.elim
  | @cons v d vs ds r rr =>
    cases rr with
    | cons _ _ => cases d <;> exact q.elim
    | nil =>
      cases d with
      | int j =>
        dsimp only at q
        by_cases hj : -(2 ^ 62) ≤ j ∧ j < 2 ^ 62
        · rw [if_pos hj] at q
          exact ⟨j, by rw [rep_int r], hj.1, hj.2, q.now r1 _ (walkD_rng 0 _)⟩
        · rw [if_neg hj] at q
          exact q.elim
      | _ => exact q.elim
def iRange2 (g : FA) : Env' → M ItD := fun ρ => M.bind (g ρ) fun ds m => match ds with
  | [.int i, .int j] => if -(2 ^ 62) ≤ i ∧ i < 2 ^ 62 ∧ -(2 ^ 62) ≤ j ∧ j < 2 ^ 62 then .ok ⟨rng i (j - i).toNat, []⟩ m else .stuck
  | _ => .stuck
theorem di_range2 {tg : Expr} {g : FA} {p : Pos} (hg : Gl X "range") (hm : X.mg "range" = none) (h : DA X R E [a, b] g) (hs : starEach [a, b] X.env = [(false, eval a X.env), (false, eval b X.env)] := by rfl) (hs2 : starEach [b] X.env = [(false, eval b X.env)] := by rfl) :
    DI X R E tg (.Call (.Name "range" p) [a, b] [] pos) (iRange2 g) := by
  obtain ⟨t, a1, a2⟩ := h.ex
  refine ⟨⟨_, pi_range2 hg hm a1 hs hs2, fun S σ H ρ m Q hr he h => a2 S σ H ρ m _ hr he (h.step fun ds m1 H1 S1 e1 r1 q vs rv => ?_)⟩⟩
  cases rv with
  | nil => exact q.elim
  | @cons v d vs ds r rr =>
    cases rr with
    | nil => cases d <;> exact q.elim
    | @cons v' d' vs' ds' r' rr =>
      cases rr with
      | cons _ _ => cases d <;> cases d' <;> exact q.elim
      | nil =>
        cases d with
        | int i =>
          cases d' with
          | int j =>
            dsimp only at q
            by_cases hj : -(2 ^ 62) ≤ i ∧ i < 2 ^ 62 ∧ -(2 ^ 62) ≤ j ∧ j < 2 ^ 62
            · rw [if_pos hj] at q
              exact ⟨i, j, by rw [rep_int r, rep_int r'], hj, q.now r1 _ (walkD_rng i _)⟩
            · rw [if_neg hj] at q
              exact q.elim
          | _ => exact q.elim
        | _ => cases d' <;> exact q.elim

/-! #### enumerate, zip -/
def enumG : Nat → List D → List D
  | _, [] => []
  | k, x :: xs => .tup [.int (k : Nat), x] :: enumG (k + 1) xs
theorem enumG_len : ∀ (k : Nat) (xs : List D), (enumG k xs).length = xs.length
  | _, [] => rfl
  | k, x :: xs => by unfold enumG; rw [List.length_cons, List.length_cons, enumG_len]
theorem enumG_get : ∀ (xs : List D) (k i : Nat) (d : D), xs[i]? = some d → (enumG k xs)[i]? = some (.tup [.int ((k + i : Nat) : Int), d])
  | [], _, _, _, h => by simp at h
  | x :: xs, k, 0, d, h => by
    simp at h
    subst h
    rfl
  | x :: xs, k, i + 1, d, h => by
    have h' : xs[i]? = some d := by simpa using h
    have := enumG_get xs (k + 1) i d h'
    unfold enumG
    rw [List.getElem?_cons_succ, this]
    congr 5
    omega
/-- a new pair -/
theorem pair_rep {S : Sto} {H : Hp} {m : MS} {T : Addr} {xs : List V} {ds : List D} (ro : R.Ok) (hr : HR R S H m) (hT : H T = none) (r : RepAll R S H xs ds) :
    Ext S H S (upd H T (.tup xs)) ∧ HR R S (upd H T (.tup xs)) m ∧ Rep R S (upd H T (.tup xs)) (.ref T) (.tup ds) :=
  ⟨Ext.newObj hr hT, hr.newObj ro hT, .tup (.inl ⟨upd_same, hr.fresh hT⟩) (r.ext ro (Ext.newObj hr hT))⟩
def iEnum (g : FA) : Env' → M ItD := fun ρ => M.bind (g ρ) fun ds m => match ds with
  | [d] => (match seqD m d with | some xs => .ok ⟨enumG 0 xs, gsD m d⟩ m | none => .stuck)
  | _ => .stuck
theorem di_enum {p tpos : Pos} {elts : List Expr} {kk : Nat} {g : FA} (cx : CxR X R E) (hg : Gl X "enumerate") (hm : X.mg "enumerate" = none) (h : DA X R E [e] g) (hs : starEach [e] X.env = [(false, eval e X.env)] := by rfl) :
    DI X R E (.Tuple elts kk tpos) (.Call (.Name "enumerate" p) [e] [] pos) (iEnum g) := by
  obtain ⟨t, a1, a2⟩ := h.ex
  refine ⟨⟨_, pi_enumD hg hm a1 hs, fun S σ H ρ m Q hr he h => a2 S σ H ρ m _ hr he (h.step fun ds m1 H1 S1 e1 r1 q vs rv => ?_)⟩⟩
  rw [cx.K]
  cases rv with
  | nil => exact q.elim
  | @cons v d vs ds r rr =>
    cases rr with
    | cons _ _ => exact q.elim
    | nil =>
      dsimp only at q
      cases hs : seqD m1 d with
      | none => rw [hs] at q; exact q.elim
      | some xs =>
        rw [hs] at q
        obtain ⟨p', vs, rfl, h1, h2⟩ := seqD_k r1 r hs
        have key : ∀ S2 H2 m2, Ext0 S1 H1 S2 H2 → HR R S2 H2 m2 → (ItD.mk (enumG 0 xs) (gsD m1 d)).Ok m2 → ∃ vs, (kdD d).sq R.K H2 p' vs ∧ RepAll R S2 H2 vs xs := fun S2 H2 m2 e2 r2 ok => by
          obtain ⟨_, vs, h1, h2, h3⟩ := seqD_k r2 (r.ext0 cx.ok e2) (seqD_stay hs ok)
          cases h1
          exact ⟨vs, h2, h3⟩
        refine ⟨p', vs, kdD d, rfl, h1, q.now r1 _ ⟨fun S2 H2 m2 i e2 r2 ok hi => ?_, fun S2 H2 m2 e2 r2 ok => ?_, fun S2 H2 m2 i x H3 e2 r2 ok hi y => ?_⟩⟩
        · obtain ⟨vs, h1, h2⟩ := key S2 H2 m2 e2 r2 ok
          rw [enumG_len] at hi
          exact ⟨vs, vs[i]'(by rw [h2.length]; exact hi), h1, List.getElem?_eq_getElem _⟩
        · obtain ⟨vs, h1, h2⟩ := key S2 H2 m2 e2 r2 ok
          exact ⟨vs, h1, by rw [enumG_len, h2.length]⟩
        · obtain ⟨vs, h1, h2⟩ := key S2 H2 m2 e2 r2 ok
          obtain ⟨T, x', rfl, hT, rfl, y⟩ := y
          obtain ⟨d', q1, q2⟩ := h2.getV (y vs h1)
          obtain ⟨z1, z2, z3⟩ := pair_rep cx.ok r2 hT (.cons (.int _) (.cons q2 .nil))
          exact ⟨_, by have := enumG_get xs 0 i d' q1; rw [Nat.zero_add] at this; exact this, z1, z2, z3⟩
def zipG (xs ys : List D) : List D := List.zipWith (fun x y => .tup [x, y]) xs ys
def iZip2 (g : FA) : Env' → M ItD := fun ρ => M.bind (g ρ) fun ds m => match ds with
  | [d, d'] => (match seqD m d, seqD m d' with | some xs, some ys => .ok ⟨zipG xs ys, gsD m d ++ gsD m d'⟩ m | _, _ => .stuck)
  | _ => .stuck
theorem di_zip2 {p tpos : Pos} {elts : List Expr} {kk : Nat} {g : FA} (cx : CxR X R E) (hg : Gl X "zip") (hm : X.mg "zip" = none) (h : DA X R E [a, b] g)
    (hs : starEach [a, b] X.env = (false, eval a X.env) :: starEach [b] X.env := by rfl) (hpl : (backTo pos (starEach [b] X.env)).any (·.1) = false := by rfl) :
    DI X R E (.Tuple elts kk tpos) (.Call (.Name "zip" p) [a, b] [] pos) (iZip2 g) := by
  obtain ⟨t, a1, a2⟩ := h.ex
  refine ⟨⟨_, pi_zip2D hg hm a1 hs hpl, fun S σ H ρ m Q hr he h => a2 S σ H ρ m _ hr he (h.step fun ds m1 H1 S1 e1 r1 q vs rv => ?_)⟩⟩
  rw [cx.K]
  cases rv with
  | nil => exact q.elim
  | @cons v d vs ds r rr =>
    cases rr with
    | nil => exact q.elim
    | @cons v' d' vs' ds' r' rr =>
      cases rr with
      | cons _ _ => exact q.elim
      | nil =>
        dsimp only at q
        cases hs : seqD m1 d with
        | none => rw [hs] at q; exact q.elim
        | some xs =>
          cases hs' : seqD m1 d' with
          | none => rw [hs, hs'] at q; exact q.elim
          | some ys =>
            rw [hs, hs'] at q
            obtain ⟨p1, vs1, rfl, h1, h2⟩ := seqD_k r1 r hs
            obtain ⟨p2, vs2, rfl, h1', h2'⟩ := seqD_k r1 r' hs'
            have key : ∀ S2 H2 m2, Ext0 S1 H1 S2 H2 → HR R S2 H2 m2 → (ItD.mk (zipG xs ys) (gsD m1 d ++ gsD m1 d')).Ok m2 → ∃ vs ws, (kdD d).sq R.K H2 p1 vs ∧ RepAll R S2 H2 vs xs ∧ (kdD d').sq R.K H2 p2 ws ∧ RepAll R S2 H2 ws ys := fun S2 H2 m2 e2 r2 ok => by
              obtain ⟨_, vs, h1, h2, h3⟩ := seqD_k r2 (r.ext0 cx.ok e2) (seqD_stay hs fun p hp => ok p (List.mem_append_left _ hp))
              obtain ⟨_, ws, h4, h5, h6⟩ := seqD_k r2 (r'.ext0 cx.ok e2) (seqD_stay hs' fun p hp => ok p (List.mem_append_right _ hp))
              cases h1
              cases h4
              exact ⟨vs, ws, h2, h3, h5, h6⟩
            have hl : (zipG xs ys).length = min xs.length ys.length := by unfold zipG; simp
            refine ⟨p1, p2, vs1, vs2, kdD d, kdD d', rfl, h1, h1', q.now r1 _ ⟨fun S2 H2 m2 i e2 r2 ok hi => ?_, fun S2 H2 m2 e2 r2 ok => ?_, fun S2 H2 m2 i x H3 e2 r2 ok hi y => ?_⟩⟩
            · obtain ⟨vs, ws, h1, h2, h3, h4⟩ := key S2 H2 m2 e2 r2 ok
              have hi' : i < min xs.length ys.length := by rw [← hl]; exact hi
              have l2 := h2.length
              have l4 := h4.length
              exact ⟨vs, ws, vs[i]'(by omega), ws[i]'(by omega), h1, h3, List.getElem?_eq_getElem _, List.getElem?_eq_getElem _⟩
            · obtain ⟨vs, ws, h1, h2, h3, h4⟩ := key S2 H2 m2 e2 r2 ok
              exact ⟨vs, ws, h1, h3, by rw [h2.length, h4.length, ← hl]⟩
            · obtain ⟨vs, ws, h1, h2, h3, h4⟩ := key S2 H2 m2 e2 r2 ok
              obtain ⟨T, x1, x2, rfl, hT, rfl, y1, y2⟩ := y
              obtain ⟨d1, q1, q2⟩ := h2.getV (y1 vs h1)
              obtain ⟨d2, q3, q4⟩ := h4.getV (y2 ws h3)
              obtain ⟨z1, z2, z3⟩ := pair_rep cx.ok r2 hT (.cons q2 (.cons q4 .nil))
              refine ⟨_, ?_, z1, z2, z3⟩
              show (zipG xs ys)[i]? = _
              unfold zipG
              rw [List.getElem?_zipWith, q1, q3]

/-! ### for -/
open Classical in
noncomputable def forW (ok : MS → Prop) (g : FG) (body : FS) : List D → FS
  | [], ρ, m => if ok m then .ok (.next ρ) m else .stuck
  | d :: ds, ρ, m => if ok m then M.bind (g d ρ) (fun ρ1 => M.bind (body ρ1) fun fl => match fl with
    | .next ρ2 => forW ok g body ds ρ2
    | .cont ρ2 => forW ok g body ds ρ2
    | .brk ρ2 => fun m => .ok (.next ρ2) m
    | .ret d => fun m => .ok (.ret d) m) m else .stuck
noncomputable def sFor (f : Env' → M ItD) (g : FG) (body : FS) : FS := fun ρ => M.bind (f ρ) fun it => forW it.Ok g body it.items ρ
theorem ds_for {tg iter : Expr} {body : List Stmt} {fi : Env' → M ItD} {g : FG} {u : FS} (cx : CxR X R E) (hi : DI X R E tg iter fi) (hg : DG X R E tg g) (hb : DSs X R E body u)
    (hs : ∀ x, foldedSetIterable iter X.env x = pure x := by intro _; rfl) : DS X R E (.For tg iter body [] pos) (sFor fi g u) := by
  obtain ⟨ti, i1, i2⟩ := hi.ex
  obtain ⟨tg, g1, g2⟩ := hg.ex
  obtain ⟨tb, b1, b2⟩ := hb.ex
  refine ⟨⟨_, ps_for cx.po cx.calm i1 g1 b1 hs, fun S σ H ρ m Z hr he h => i2 S σ H ρ m _ hr he (h.step fun it m1 H1 S1 e1 r1 q J W => ?_)⟩⟩
  refine ⟨fun i n σ2 H2 => n = it.items.length - i ∧ i ≤ it.items.length ∧ ∃ S2 ρ2 m2, Ext0 S1 H1 S2 H2 ∧ HR R S2 H2 m2 ∧ ER R S2 H2 σ2 ρ2 ∧ RoutG R S2 H2 E (PF R Z) (forW it.Ok g u (it.items.drop i) ρ2 m2), ⟨_, rfl, Nat.zero_le _, S1, ρ, m1, Ext0.refl _ _, r1, he.ext cx.ok e1, q⟩, ?_⟩
  rintro i n σ2 H2 ⟨rfl, hi, S2, ρ2, m2, e2, r2, he2, h2⟩
  by_cases hlt : i < it.items.length
  · right
    rw [List.drop_eq_getElem_cons hlt] at h2
    unfold forW at h2
    by_cases ok : it.Ok m2
    · rw [if_pos ok] at h2
      refine ⟨W.goes S2 H2 m2 i e2 r2 ok hlt, fun σ' H' => i + 1 ≤ it.items.length ∧ ∃ S3 ρ3 m3, Ext0 S1 H1 S3 H' ∧ HR R S3 H' m3 ∧ ER R S3 H' σ' ρ3 ∧ RoutG R S3 H' E (PF R Z) (forW it.Ok g u (it.items.drop (i + 1)) ρ3 m3), fun σ' H' w => ⟨it.items.length - (i + 1), by omega, rfl, w⟩, fun x H3 y => ?_⟩
      obtain ⟨d, hd, e3, r3, rx⟩ := W.yields S2 H2 m2 i x H3 e2 r2 ok hlt y
      have ed : it.items[i] = d := by
        rw [List.getElem?_eq_getElem hlt] at hd
        exact Option.some.inj hd
      rw [ed] at h2
      refine g2 S2 σ2 H3 ρ2 m2 x d _ r3 (he2.ext cx.ok e3) rx ((RoutG.ext e3 h2).step fun ρ1 m4 H4 S4 e4 r4 q4 σ4 he4 => ?_)
      refine b2 S4 σ4 H4 ρ1 m4 _ r4 he4 (q4.step fun fl m5 H5 S5 e5 r5 q5 => ?_)
      have e25 := e2.trans (e3.toExt0.trans (e4.toExt0.trans e5.toExt0))
      cases fl with
      | next ρ' => exact fun σ' he' => ⟨hlt, S5, ρ', m5, e25, r5, he', q5⟩
      | cont ρ' => exact fun σ' he' => ⟨hlt, S5, ρ', m5, e25, r5, he', q5⟩
      | brk ρ' => exact fun σ' he' => q5.now r5 σ' he'
      | ret d => exact fun x rx => q5.now r5 x rx
    · rw [if_neg ok] at h2
      exact h2.elim
  · left
    have hn : i = it.items.length := by omega
    subst hn
    rw [List.drop_length] at h2
    unfold forW at h2
    by_cases ok : it.Ok m2
    · rw [if_pos ok] at h2
      exact ⟨W.stops S2 H2 m2 e2 r2 ok, h2.now r2 σ2 he2⟩
    · rw [if_neg ok] at h2
      exact h2.elim
end
end TL
end
section
/-! The data layer: list comprehensions. -/
namespace TL
open PySem PySem.Spec PyProof.Rows L2

theorem wipe_at (σ : L2.St) : ∀ (vs : List Nat) (j : Nat), (wipe σ vs)[j]? = if j ∈ vs then (σ[j]?).map (fun _ => none) else σ[j]?
  | [], j => by simp [wipe]
  | v :: vs, j => by
    unfold wipe
    rw [List.getElem?_set, wipe_at σ vs j, wipe_length]
    by_cases h : v = j
    · subst h
      simp only [if_true, List.mem_cons, true_or]
      by_cases hl : v < σ.length
      · simp [hl]
      · simp [hl, List.getElem?_eq_none (Nat.le_of_not_lt hl)]
    · have h' : ¬ (j = v) := fun z => h z.symm
      simp only [h, if_false, List.mem_cons, h', false_or]
theorem wipe_set {σ : L2.St} {i : Nat} {x : Option V} {vs : List Nat} (h : i ∈ vs) : wipe (σ.set i x) vs = wipe σ vs := by
  refine List.ext_getElem? fun j => ?_
  rw [wipe_at, wipe_at, List.getElem?_set]
  by_cases hj : j ∈ vs
  · rw [if_pos hj, if_pos hj]
    by_cases e : i = j
    · subst e
      rw [if_pos rfl]
      by_cases hl : i < σ.length
      · simp [hl]
      · simp [hl, List.getElem?_eq_none (Nat.le_of_not_lt hl)]
    · rw [if_neg e]
  · have hne : ¬ i = j := fun e => hj (e ▸ h)
    rw [if_neg hj, if_neg hj, if_neg hne]
theorem wipe_wipe (σ : L2.St) (vs : List Nat) : wipe (wipe σ vs) vs = wipe σ vs := by
  refine List.ext_getElem? fun j => ?_
  rw [wipe_at (wipe σ vs), wipe_at σ]
  by_cases hj : j ∈ vs
  · rw [if_pos hj, if_pos hj]
    cases σ[j]? <;> rfl
  · rw [if_neg hj]

/-- a comprehension's target: it sets only slots of vs -/
def PGc (R : RC) (vs : List Nat) (σ : L2.St) (Q : L2.St → Hp → Prop) : Env' → MS → Hp → Sto → Prop := fun ρ' _ H' S' => ∀ σ', ER R S' H' σ' ρ' → wipe σ' vs = wipe σ vs → Q σ' H'
structure DGc (X : Cx) (R : RC) (E : XK) (vs : List Nat) (tg : Expr) (g : FG) : Prop where
  ex : ∃ t, PG X tg t ∧ ∀ S σ H ρ m v d Q, HR R S H m → ER R S H σ ρ → Rep R S H v d → RoutG R S H E (PGc R vs σ Q) (g d ρ m) → t v σ H Q
structure DGsc (X : Cx) (R : RC) (E : XK) (vs : List Nat) (tgs : List Expr) (g : FGs) : Prop where
  ex : ∃ t, PGs X tgs t ∧ ∀ S σ H ρ m us ds Q, HR R S H m → ER R S H σ ρ → RepAll R S H us ds → RoutG R S H E (PGc R vs σ Q) (g ds ρ m) → t us σ H Q
section
variable {X : Cx} {R : RC} {E : XK} {pos : Pos} {vs : List Nat}
theorem dgc_name {i : Nat} {x : Str} (cx : CxR X R E) (hv : i ∈ vs := by decide) (hi : X.N[i]? = some x := by rfl) (hx : Loc X.env.scope x := by first | exact .inl rfl | exact .inr rfl) (hf : X.fn x = true ∨ X.env.scope.names.lookup x = some .local := by first | exact .inl rfl | exact .inr rfl) : DGc X R E vs (.Name x pos) (gN i) :=
  ⟨⟨_, pg_name cx.nd hi hx hf, fun S σ H ρ m v d Q hr he rv h => h.now hr _ (he.set rv) (wipe_set hv)⟩⟩
theorem dgsc_nil : DGsc X R E vs [] gsNil := ⟨⟨_, pgs_nil, fun S σ H ρ m us ds Q hr he rv h => by
  cases rv with
  | nil => exact ⟨rfl, h.now hr σ he rfl⟩
  | cons _ _ => exact h.elim⟩⟩
theorem dgsc_cons {tg : Expr} {tgs : List Expr} {g : FG} {gs : FGs} (cx : CxR X R E) (h1 : DGc X R E vs tg g) (h2 : DGsc X R E vs tgs gs)
    (hs : (assignEach (tg :: tgs) X.env).map (·.2) = assign tg X.env :: (assignEach tgs X.env).map (·.2) := by rfl) : DGsc X R E vs (tg :: tgs) (gsCons g gs) := by
  obtain ⟨t, a1, a2⟩ := h1.ex
  obtain ⟨t', b1, b2⟩ := h2.ex
  refine ⟨⟨_, pgs_cons a1 b1 hs, fun S σ H ρ m us ds Q hr he rv h => ?_⟩⟩
  cases rv with
  | nil => exact h.elim
  | cons r rr => exact ⟨_, _, rfl, a2 S σ H ρ m _ _ _ hr he r (h.step fun ρ' m1 H1 S1 e1 r1 q σ' he' hw => b2 S1 σ' H1 ρ' m1 _ _ Q r1 he' (rr.ext cx.ok e1) (q.mono fun ρ2 m2 H2 S2 e2 r2 q2 σ2 he2 hw2 => q2 σ2 he2 (hw2.trans hw)))⟩
theorem dgc_tup {es : List Expr} {k : Nat} {gs : FGs} (n : Nat) (cx : CxR X R E) (h : DGsc X R E vs es gs) (hn : (assignEach es X.env).length = n := by rfl) (hst : (assignEach es X.env).findIdx? (·.1) = none := by rfl) : DGc X R E vs (.Tuple es k pos) (gT n gs) := by
  obtain ⟨t, a1, a2⟩ := h.ex
  refine ⟨⟨_, pg_tup (n := n) cx.calm a1 hn hst, fun S σ H ρ m v d Q hr he rv h => ?_⟩⟩
  unfold gT at h
  cases e : tupD d with
  | none => rw [e] at h; exact h.elim
  | some ds =>
    rw [e] at h
    dsimp only at h
    by_cases hl : ds.length = n
    · rw [if_pos hl] at h
      obtain ⟨p, us, rfl, hq, ra, _⟩ := tupD_out rv e
      rw [cx.K]
      exact ⟨p, us, rfl, hq, by rw [ra.length]; exact hl, a2 S σ H ρ m _ _ _ hr he ra h⟩
    · rw [if_neg hl] at h
      exact h.elim
end

/-! ### the list that is being made -/
section
variable {R : RC} {S S2 : Sto} {H H2 : Hp} {m : MS} {p : Addr} {o : HO}
def Sto.tm (S : Sto) (p : Addr) : Sto := { S with tmp := p :: S.tmp }
theorem mem_tm {a : Addr} : a ∈ (S.tm p).mut ↔ a ∈ S.mut ∨ a = p := by
  unfold Sto.mut Sto.tm Sto.rest Sto.drs
  simp only [List.mem_append, List.mem_cons]
  constructor
  · rintro (h | h | h | h)
    · exact .inl (.inl h)
    · exact .inl (.inr (.inl h))
    · exact .inr h
    · exact .inl (.inr (.inr h))
  · rintro ((h | h | h) | h)
    · exact .inl h
    · exact .inr (.inl h)
    · exact .inr (.inr (.inr h))
    · exact .inr (.inr (.inl h))
theorem Ext0.tm (hr : HR R S H m) (hp : H p = none) : Ext0 S H (S.tm p) (upd H p o) := by
  have e := Ext.newObj (o := o) hr hp
  refine ⟨⟨[], by simp [Sto.tm]⟩, fun _ h => h, fun a h => ?_, e.keep, e.there⟩
  rcases mem_tm.mp h with h | h
  · exact .inl h
  · exact .inr (h ▸ hp)
theorem HR.tmNew (ro : R.Ok) (hr : HR R S H m) (hp : H p = none) (vs : List V) : HR R (S.tm p) (upd H p (.lst vs)) m := by
  have hn := hr.fresh hp
  have k : ∀ a ∈ S.mut, upd H p (.lst vs) a = H a := fun a h => upd_ne fun z => hn (z ▸ h)
  have ex := Ext0.tm (o := .lst vs) hr hp
  refine ⟨?_, hr.len, fun n a u h1 h2 => (hr.obj n a u h1 h2).ext0 ro ex (k a (ref_mut h1)), hr.dr.ext0 ex rfl fun a h => k a (drs_mut h), fun a h => ?_, tabs_new hr.tb hp⟩
  · have h0 := hr.nd
    unfold Sto.mut Sto.rest at h0 hn
    show (S.refs ++ (S.drs ++ p :: S.tmp)).Nodup
    rw [List.nodup_append] at h0 ⊢
    simp only [List.mem_append, not_or] at hn
    rw [List.nodup_append] at h0 ⊢
    refine ⟨h0.1, ⟨h0.2.1.1, List.nodup_cons.mpr ⟨hn.2.2, h0.2.1.2.1⟩, fun a ha b hb => ?_⟩, fun a ha b hb => ?_⟩
    · rcases List.mem_cons.mp hb with z | z
      · rw [z]; exact fun q => hn.2.1 (q ▸ ha)
      · exact h0.2.1.2.2 a ha b z
    · rcases List.mem_append.mp hb with z | z
      · exact h0.2.2 a ha b (List.mem_append_left _ z)
      · rcases List.mem_cons.mp z with z | z
        · rw [z]; exact fun q => hn.1 (q ▸ ha)
        · exact h0.2.2 a ha b (List.mem_append_right _ z)
  · rcases List.mem_cons.mp (show a ∈ p :: S.tmp from h) with z | z
    · rw [z, upd_same]; exact ⟨vs, rfl⟩
    · rw [k a (tmp_mut z)]; exact hr.tm a z
theorem tmp_split (hr : HR R S H m) (h : p ∈ S.tmp) : p ∉ S.refs ∧ p ∉ S.drs := by
  have h0 := hr.nd
  unfold Sto.mut Sto.rest at h0
  rw [List.nodup_append] at h0
  refine ⟨fun z => h0.2.2 p z p (List.mem_append_right _ h) rfl, fun z => ?_⟩
  have h1 := h0.2.1
  rw [List.nodup_append] at h1
  exact h1.2.2 p z p h rfl
/-- it is written -/
theorem Ext0.tmPut (h : p ∈ S.tmp) : Ext0 S H S (upd H p o) := by
  refine ⟨⟨[], by simp⟩, fun _ h => h, fun _ h => .inl h, fun b u hb n _ => ?_, fun b u hb => ?_⟩
  · rw [upd_ne (a := p) (b := b) (fun z => n (z ▸ tmp_mut h))]; exact hb
  · by_cases e : b = p
    · rw [e, upd_same]; exact ⟨o, rfl⟩
    · rw [upd_ne e]; exact ⟨u, hb⟩
theorem HR.tmPut (ro : R.Ok) (hr : HR R S H m) (h : p ∈ S.tmp) (vs : List V) : HR R S (upd H p (.lst vs)) m := by
  obtain ⟨n1, n2⟩ := tmp_split hr h
  have ex := Ext0.tmPut (H := H) (o := .lst vs) h
  refine ⟨hr.nd, hr.len, fun n a u h1 h2 => (hr.obj n a u h1 h2).ext0 ro ex (upd_ne fun z => n1 (z ▸ List.mem_of_getElem? h1)), hr.dr.ext0 ex rfl fun a ha => upd_ne fun z => n2 (z ▸ ha), fun a ha => ?_, (fun ⟨o', h1, h2⟩ => tabs_put hr.tb h1 h2) (hr.tracked (tmp_mut h))⟩
  by_cases e : a = p
  · rw [e, upd_same]; exact ⟨vs, rfl⟩
  · rw [upd_ne e]; exact hr.tm a ha
/-- it is done -/
theorem tm_done (ro : R.Ok) {fr : Bool} {E : XK} {Q : VK} {zs : List D} {vs : List V} {m1 : MS} (e0 : Ext0 S H S2 H2) (tm : S2.tmp = p :: S.tmp) (tk : ∀ a ∈ S.tmp, H2 a = H a) (hp : H p = none) (hr : HR R S2 H2 m1) (hD : H2 p = some (.lst vs)) (ra : RepAll R S2 H2 vs zs)
    (h : RoutG R S H E (PV R Q) (newL fr zs m1)) : Q (.ref p) H2 := by
  have hpm : p ∈ S2.tmp := by rw [tm]; exact List.mem_cons_self
  obtain ⟨n1, n2⟩ := tmp_split hr hpm
  have hnd := hr.nd
  unfold Sto.mut Sto.rest at hnd
  rw [tm] at hnd
  have n3 : p ∉ S.tmp := by
    rw [List.nodup_append, List.nodup_append] at hnd
    exact (List.nodup_cons.mp hnd.2.1.2.1).1
  -- with the list dropped from tmp
  have nd0 : (S2.refs ++ (S2.drs ++ S.tmp)).Nodup := by
    rw [List.nodup_append, List.nodup_append] at hnd ⊢
    refine ⟨hnd.1, ⟨hnd.2.1.1, (List.nodup_cons.mp hnd.2.1.2.1).2, fun a ha b hb => hnd.2.1.2.2 a ha b (List.mem_cons_of_mem _ hb)⟩, fun a ha b hb => hnd.2.2 a ha b ?_⟩
    rcases List.mem_append.mp hb with z | z
    · exact List.mem_append_left _ z
    · exact List.mem_append_right _ (List.mem_cons_of_mem _ z)
  have mS : ∀ a, a ∈ S2.refs ∨ a ∈ S2.drs ∨ a ∈ S.tmp → a ∈ S2.mut := fun a z => by
    rcases z with z | z | z
    · exact List.mem_append_left _ z
    · exact drs_mut z
    · exact tmp_mut (by rw [tm]; exact List.mem_cons_of_mem _ z)
  have pS2 : p ∈ S2.mut := tmp_mut hpm
  unfold newL at h
  by_cases hs : short zs = true
  · rw [if_pos hs] at h
    cases fr with
    | false =>
      rw [if_neg Bool.false_ne_true] at h
      let S3 : Sto := { S2 with tmp := S.tmp }
      have m3 : ∀ a, a ∈ S3.mut → a ∈ S2.mut := fun a z => by
        have z : a ∈ S2.refs ++ (S2.drs ++ S.tmp) := z
        rcases List.mem_append.mp z with z | z
        · exact mS a (.inl z)
        · rcases List.mem_append.mp z with z | z
          · exact mS a (.inr (.inl z))
          · exact mS a (.inr (.inr z))
      have p3 : p ∉ S3.mut := fun z => by
        have z : p ∈ S2.refs ++ (S2.drs ++ S.tmp) := z
        rcases List.mem_append.mp z with z | z
        · exact n1 z
        · rcases List.mem_append.mp z with z | z
          · exact n2 z
          · exact n3 z
      have e3 : Ext0 S2 H2 S3 H2 := ⟨⟨[], by simp [S3]⟩, fun _ h => h, fun a z => .inl (m3 a z), fun b o h _ _ => h, fun b o h => ⟨o, h⟩⟩
      refine h H2 S3 ⟨e0.trans e3, rfl, tk⟩ ?_ _ (.lst ⟨hD, p3⟩ (ra.ext0 ro e3))
      exact ⟨nd0, hr.len, fun n a u h1 h2 => (hr.obj n a u h1 h2).ext0 ro e3 rfl, hr.dr.ext0 e3 rfl fun a h => rfl, fun a h => hr.tm a (by rw [tm]; exact List.mem_cons_of_mem _ h), hr.tb⟩
    | true =>
      rw [if_pos rfl] at h
      let S3 : Sto := { S2 with refs := S2.refs ++ [p], tmp := S.tmp }
      have m3 : ∀ a, a ∈ S3.mut → a ∈ S2.mut := fun a z => by
        have z : a ∈ (S2.refs ++ [p]) ++ (S2.drs ++ S.tmp) := z
        rcases List.mem_append.mp z with z | z
        · rcases List.mem_append.mp z with z | z
          · exact mS a (.inl z)
          · rw [List.mem_singleton.mp z]; exact pS2
        · rcases List.mem_append.mp z with z | z
          · exact mS a (.inr (.inl z))
          · exact mS a (.inr (.inr z))
      have e3 : Ext0 S2 H2 S3 H2 := ⟨⟨[p], rfl⟩, fun _ h => h, fun a z => .inl (m3 a z), fun b o h _ _ => h, fun b o h => ⟨o, h⟩⟩
      refine h H2 S3 ⟨e0.trans e3, rfl, tk⟩ ?_ _ (.ref ?_)
      · refine ⟨?_, by simp [S3, hr.len], fun n a u h1 h2 => ?_, hr.dr.ext0 e3 rfl fun a h => rfl, fun a h => hr.tm a (by rw [tm]; exact List.mem_cons_of_mem _ h), hr.tb⟩
        · show ((S2.refs ++ [p]) ++ (S2.drs ++ S.tmp)).Nodup
          rw [List.append_assoc]
          rw [List.nodup_append] at nd0 ⊢
          refine ⟨nd0.1, ?_, fun a ha b hb => ?_⟩
          · refine (List.nodup_cons.mpr ⟨fun z => ?_, nd0.2.1⟩ : (p :: (S2.drs ++ S.tmp)).Nodup)
            rcases List.mem_append.mp z with z | z
            · exact n2 z
            · exact n3 z
          · rcases List.mem_cons.mp hb with z | z
            · rw [z]; exact fun q => n1 (q ▸ ha)
            · exact nd0.2.2 a ha b z
        · by_cases hlt : n < S2.refs.length
          · have h1' : S2.refs[n]? = some a := by
              have : (S2.refs ++ [p])[n]? = some a := h1
              rwa [List.getElem?_append_left hlt] at this
            have h2' : m1.objs[n]? = some u := by
              have : (m1.objs ++ [.lst zs])[n]? = some u := h2
              rwa [List.getElem?_append_left (by rw [← hr.len]; exact hlt)] at this
            exact (hr.obj n a u h1' h2').ext0 ro e3 rfl
          · have hl : n = S2.refs.length := by
              have h1l := (List.getElem?_eq_some_iff.mp h1).1
              have : n < (S2.refs ++ [p]).length := h1l
              simp at this
              omega
            have h1' : (S2.refs ++ [p])[n]? = some a := h1
            have h2' : (m1.objs ++ [.lst zs])[n]? = some u := h2
            rw [hl, List.getElem?_concat_length] at h1'
            rw [hl, hr.len, List.getElem?_concat_length] at h2'
            cases h1'
            cases h2'
            exact ⟨vs, hD, ra.ext0 ro e3⟩
      · show (S2.refs ++ [p])[m1.objs.length]? = some p
        rw [← hr.len, List.getElem?_concat_length]
  · rw [if_neg hs] at h
    exact h.elim
end

/-! ### the comprehension -/
structure DPs (X : Cx) (R : RC) (E : XK) (ifs : List Expr) (f : FB) : Prop where
  ex : ∃ t, PTs X ifs t ∧ ∀ S σ H ρ m Q, HR R S H m → ER R S H σ ρ → RoutG R S H E (PB Q) (f ρ m) → t σ H Q
def bYes : FB := fun _ m => .ok true m
open Classical in
noncomputable def lcW (ok : MS → Prop) (g : FG) (tt : FB) (te : FE) (ρ : Env') : List D → M (List D)
  | [], m => if ok m then .ok [] m else .stuck
  | d :: ds, m => if ok m then M.bind (g d ρ) (fun ρ1 => M.bind (tt ρ1) fun k => if k then M.bind (te ρ1) (fun y => M.bind (lcW ok g tt te ρ ds) fun ys m => .ok (y :: ys) m) else lcW ok g tt te ρ ds) m else .stuck
/-- no exception inside -/
def noX {α : Type} : Res α → Res α
  | .ok a m => .ok a m
  | _ => .stuck
noncomputable def dLc (fr : Bool) (vs : List Nat) (fi : Env' → M ItD) (g : FG) (tt : FB) (te : FE) : FE := fun ρ => M.bind (fi ρ) fun it => M.bind (fun m => noX (lcW it.Ok g tt te (wipeD ρ vs) it.items m)) (newL fr)
theorem bind_inv {α β : Type} {x : M α} {k : α → M β} {m m' : MS} {b : β} (h : M.bind x k m = .ok b m') : ∃ a m1, x m = .ok a m1 ∧ k a m1 = .ok b m' := by
  unfold M.bind at h
  cases e : x m with
  | ok a m1 => rw [e] at h; exact ⟨a, m1, rfl, h⟩
  | raise c fs m1 => rw [e] at h; cases h
  | stuck => rw [e] at h; cases h
section
variable {X : Cx} {R : RC} {E : XK} {pos : Pos}
theorem dps_nil : DPs X R E [] bYes := ⟨⟨_, pts_nil, fun S σ H ρ m Q hr he h => (show PB Q true m H S from h.now hr)⟩⟩
theorem dps_one {c : Expr} {f : FB} (h : DT X R E c f) : DPs X R E [c] f := by
  obtain ⟨t, a1, a2⟩ := h.ex
  exact ⟨⟨_, pts_one a1, a2⟩⟩
theorem CxR.blk (cx : CxR X R E) (s : Shared) (H : Hp) (scope : Scope) (C : Addr) (cl : List (Str × Addr)) (fp : List Addr) : CxR (X.blk s H scope (compEnvC scope cl C X.env) fp) R EF :=
  ⟨cx.K, cx.mg, cx.ok, takes0, PassesOwn.never, cx.pyl, cx.un, cx.calm, cx.nd⟩
theorem lc_walk {own : List (Str × Nat)} {ti : TI} {t1 : TG} {t2 : TT} {t3 : TE} {fr : Bool} {fi : Env' → M ItD} {g : FG} {tt : FB} {te : FE} (ro : R.Ok)
    (i2 : ∀ S σ H ρ m Q, HR R S H m → ER R S H σ ρ → RoutG R S H E (PI' R Q) (fi ρ m) → ti σ H Q)
    (g2 : ∀ S σ H ρ m v d Q, HR R S H m → ER R S H σ ρ → Rep R S H v d → RoutG R S H EF (PGc R (own.map (·.2)) σ Q) (g d ρ m) → t1 v σ H Q)
    (b2 : ∀ S σ H ρ m Q, HR R S H m → ER R S H σ ρ → RoutG R S H EF (PB Q) (tt ρ m) → t2 σ H Q)
    (c2 : ∀ S σ H ρ m Q, HR R S H m → ER R S H σ ρ → RoutG R S H EF (PV R Q) (te ρ m) → t3 σ H Q)
    {S : Sto} {σ : L2.St} {H : Hp} {ρ : Env'} {m : MS} {Q : VK} (hr : HR R S H m) (he : ER R S H σ ρ) (h : RoutG R S H E (PV R Q) (dLc fr (own.map (·.2)) fi g tt te ρ m)) : tLc ti t1 t2 t3 (own.map (·.2)) σ H Q := by
  refine i2 S σ H ρ m _ hr he (h.step fun it m1 H1 S1 e1 r1 q J W p hp => ?_)
  generalize own.map (·.2) = vs at *
  -- the list is made
  unfold M.bind at q
  dsimp only at q
  cases ew : lcW it.Ok g tt te (wipeD ρ vs) it.items m1 with
  | stuck => rw [ew] at q; exact q.elim
  | raise c fs m2 => rw [ew] at q; exact q.elim
  | ok zs mE =>
    rw [ew] at q
    have q : RoutG R S1 H1 E (PV R Q) (newL fr zs mE) := q
    have hz : short zs = true := by
      unfold newL at q
      by_cases hs : short zs = true
      · exact hs
      · rw [if_neg hs] at q
        exact q.elim
    have he1 := he.ext ro e1
    refine ⟨fun i n H2 => n = it.items.length - i ∧ i ≤ it.items.length ∧ ∃ S2 m2 acc ws ys, Ext0 S1 H1 S2 H2 ∧ S2.tmp = p :: S1.tmp ∧ (∀ a ∈ S1.tmp, H2 a = H1 a) ∧ HR R S2 H2 m2 ∧ H2 p = some (.lst ws) ∧ RepAll R S2 H2 ws acc ∧
      lcW it.Ok g tt te (wipeD ρ vs) (it.items.drop i) m2 = .ok ys mE ∧ zs = acc ++ ys,
      ⟨_, rfl, Nat.zero_le _, S1.tm p, m1, [], [], zs, Ext0.tm r1 hp, rfl, fun a ha => upd_ne fun z => r1.fresh hp (z ▸ tmp_mut ha), r1.tmNew ro hp [], upd_same, .nil, ew, rfl⟩, ?_⟩
    rintro i n H2 ⟨rfl, hi, S2, m2, acc, ws, ys, e2, tm, tk, r2, hD, ra, hl, ez⟩
    have hpm : p ∈ S2.tmp := by rw [tm]; exact List.mem_cons_self
    by_cases hlt : i < it.items.length
    · right
      rw [List.drop_eq_getElem_cons hlt] at hl
      unfold lcW at hl
      by_cases ok : it.Ok m2
      · rw [if_pos ok] at hl
        refine ⟨W.goes S2 H2 m2 i e2 r2 ok hlt, fun H' => i + 1 ≤ it.items.length ∧ ∃ S2 m2 acc ws ys, Ext0 S1 H1 S2 H' ∧ S2.tmp = p :: S1.tmp ∧ (∀ a ∈ S1.tmp, H' a = H1 a) ∧ HR R S2 H' m2 ∧ H' p = some (.lst ws) ∧ RepAll R S2 H' ws acc ∧
          lcW it.Ok g tt te (wipeD ρ vs) (it.items.drop (i + 1)) m2 = .ok ys mE ∧ zs = acc ++ ys, fun H' w => ⟨it.items.length - (i + 1), by omega, rfl, w⟩, fun x H3 y => ?_⟩
        obtain ⟨d, hd, e3, r3, rx⟩ := W.yields S2 H2 m2 i x H3 e2 r2 ok hlt y
        have ed : it.items[i] = d := by
          rw [List.getElem?_eq_getElem hlt] at hd
          exact Option.some.inj hd
        rw [ed] at hl
        obtain ⟨ρ1, m3, hg, hl⟩ := bind_inv hl
        obtain ⟨k, m4, ht, hl⟩ := bind_inv hl
        have he3 : ER R S2 H3 (wipe σ vs) (wipeD ρ vs) := (he1.ext0 ro (e2.trans e3.toExt0)).wipe vs
        refine g2 S2 (wipe σ vs) H3 (wipeD ρ vs) m2 x d _ r3 he3 rx ?_
        rw [hg]
        intro H4 S4 e4 r4 σ4 he4 hw4
        refine ⟨hw4.trans (wipe_wipe σ vs), b2 S4 σ4 H4 ρ1 m3 _ r4 he4 ?_⟩
        rw [ht]
        intro H5 S5 e5 r5
        have e25 : Ext S2 H2 S5 H5 := e3.trans (e4.trans e5)
        cases k with
        | false =>
          unfold PB
          simp only []
          rw [if_neg Bool.false_ne_true]
          rw [if_neg Bool.false_ne_true] at hl
          refine ⟨hlt, S5, m4, acc, ws, ys, e2.trans e25.toExt0, e25.tmp.trans tm, fun a ha => (e25.tk a (by rw [tm]; exact List.mem_cons_of_mem _ ha)).trans (tk a ha), r5, (e25.tk p hpm).trans hD, ra.ext ro e25, hl, ez⟩
        | true =>
          unfold PB
          simp only []
          rw [if_pos trivial]
          rw [if_pos rfl] at hl
          obtain ⟨yd, m5, hy, hl⟩ := bind_inv hl
          obtain ⟨ys', m6, hl, hfin⟩ := bind_inv hl
          cases hfin
          refine c2 S5 σ4 H5 ρ1 m4 _ r5 (he4.ext ro e5) ?_
          rw [hy]
          intro H6 S6 e6 r6 yv ry
          have e26 : Ext S2 H2 S6 H6 := e25.trans e6
          have hD6 := (e26.tk p hpm).trans hD
          have tm6 := e26.tmp.trans tm
          have hpm6 : p ∈ S6.tmp := by rw [tm6]; exact List.mem_cons_self
          have ep := Ext0.tmPut (H := H6) (o := .lst (ws ++ [yv])) hpm6
          have ra6 := ra.ext ro e26
          refine ⟨ws, hD6, ?_, hlt, S6, m5, acc ++ [yd], ws ++ [yv], ys', (e2.trans e26.toExt0).trans ep, tm6, fun a ha => ?_, r6.tmPut ro hpm6 _, upd_same, (ra6.app (.cons ry .nil)).ext0 ro ep, hl, by rw [ez, List.append_assoc]; rfl⟩
          · have hzl := short_lt hz
            rw [ez, List.length_append, List.length_cons] at hzl
            rw [ra.length]
            omega
          · rw [upd_ne fun z => ?_]
            · exact (e26.tk a (by rw [tm]; exact List.mem_cons_of_mem _ ha)).trans (tk a ha)
            · have := r2.nd
              unfold Sto.mut Sto.rest at this
              rw [tm, List.nodup_append, List.nodup_append] at this
              exact (List.nodup_cons.mp this.2.1.2.1).1 (z ▸ ha)
      · rw [if_neg ok] at hl
        cases hl
    · left
      have hn : i = it.items.length := by omega
      subst hn
      rw [List.drop_length] at hl
      unfold lcW at hl
      by_cases ok : it.Ok m2
      · rw [if_pos ok] at hl
        cases hl
        rw [List.append_nil] at ez
        subst ez
        exact ⟨W.stops S2 H2 mE e2 r2 ok, tm_done ro e2 tm tk hp r2 hD ra q⟩
      · rw [if_neg ok] at hl
        cases hl
/-- one rule's state for a family of contexts -/
theorem DE.all {ι : Type} {Xs : ι → Cx} {e : Expr} {f : FE} (h : ∀ i, DE (Xs i) R E e f) : ∃ t, (∀ i, PE (Xs i) e t) ∧ ∀ S σ H ρ m Q, HR R S H m → ER R S H σ ρ → RoutG R S H E (PV R Q) (f ρ m) → t σ H Q := by
  refine ⟨fun σ H Q => ∀ i t, PE (Xs i) e t → (∀ S σ H ρ m Q, HR R S H m → ER R S H σ ρ → RoutG R S H E (PV R Q) (f ρ m) → t σ H Q) → t σ H Q, fun i => ⟨fun pins s σ H Q I hw => ?_⟩, fun S σ H ρ m Q hr he h i t h1 h2 => h2 S σ H ρ m Q hr he h⟩
  obtain ⟨t, h1, h2⟩ := (h i).ex
  exact h1.run pins s σ H Q I (hw i t h1 h2)
theorem DPs.all {ι : Type} {Xs : ι → Cx} {e : List Expr} {f : FB} (h : ∀ i, DPs (Xs i) R E e f) : ∃ t, (∀ i, PTs (Xs i) e t) ∧ ∀ S σ H ρ m Q, HR R S H m → ER R S H σ ρ → RoutG R S H E (PB Q) (f ρ m) → t σ H Q := by
  refine ⟨fun σ H Q => ∀ i t, PTs (Xs i) e t → (∀ S σ H ρ m Q, HR R S H m → ER R S H σ ρ → RoutG R S H E (PB Q) (f ρ m) → t σ H Q) → t σ H Q, fun i => ⟨fun pins s σ H Q I hw => ?_⟩, fun S σ H ρ m Q hr he h i t h1 h2 => h2 S σ H ρ m Q hr he h⟩
  obtain ⟨t, h1, h2⟩ := (h i).ex
  exact h1.run pins s σ H Q I (hw i t h1 h2)
theorem DGc.all {ι : Type} {Xs : ι → Cx} {e : Expr} {g : FG} {vs : List Nat} (h : ∀ i, DGc (Xs i) R E vs e g) : ∃ t, (∀ i, PG (Xs i) e t) ∧ ∀ S σ H ρ m v d Q, HR R S H m → ER R S H σ ρ → Rep R S H v d → RoutG R S H E (PGc R vs σ Q) (g d ρ m) → t v σ H Q := by
  refine ⟨fun v σ H Q => ∀ i t, PG (Xs i) e t → (∀ S σ H ρ m v d Q, HR R S H m → ER R S H σ ρ → Rep R S H v d → RoutG R S H E (PGc R vs σ Q) (g d ρ m) → t v σ H Q) → t v σ H Q, fun i => ⟨fun pins s σ H v u Q I r hw => ?_⟩, fun S σ H ρ m v d Q hr he rv h i t h1 h2 => h2 S σ H ρ m v d Q hr he rv h⟩
  obtain ⟨t, h1, h2⟩ := (h i).ex
  exact h1.run pins s σ H v u Q I r (hw i t h1 h2)
abbrev BlkI := Shared × Hp × Addr × List (Str × Addr) × List Addr
abbrev bk (X : Cx) (scope : Scope) (i : BlkI) : Cx := X.blk i.1 i.2.1 scope (compEnvC scope i.2.2.2.1 i.2.2.1 X.env) i.2.2.2.2
theorem CxR.bk (cx : CxR X R E) (scope : Scope) (i : BlkI) : CxR (bk X scope i) R EF := cx.blk i.1 i.2.1 scope i.2.2.1 i.2.2.2.1 i.2.2.2.2
theorem de_lc (fr : Bool) {tg iter elt : Expr} {ifs : List Expr} {scope : Scope} (own : List (Str × Nat)) {fi : Env' → M ItD} {g : FG} {tt : FB} {te : FE} (cx : CxR X R E) (hi : DI X R E tg iter fi) (ok : BlkOk X.N X.env.scope scope own)
    (h1 : ∀ i, CxR (bk X scope i) R EF → DGc (bk X scope i) R EF (own.map (·.2)) tg g) (h2 : ∀ i, CxR (bk X scope i) R EF → DPs (bk X scope i) R EF ifs tt) (h3 : ∀ i, CxR (bk X scope i) R EF → DE (bk X scope i) R EF elt te)
    (hs : ∀ x, foldedSetIterable iter X.env x = pure x := by intro _; rfl) : DE X R E (.ListComp elt [⟨tg, iter, ifs, 0⟩] scope pos) (dLc fr (own.map (·.2)) fi g tt te) := by
  obtain ⟨ti, i1, i2⟩ := hi.ex
  obtain ⟨t1, g1, g2⟩ := DGc.all fun i => h1 i (cx.bk scope i)
  obtain ⟨t2, b1, b2⟩ := DPs.all fun i => h2 i (cx.bk scope i)
  obtain ⟨t3, c1, c2⟩ := DE.all fun i => h3 i (cx.bk scope i)
  exact ⟨⟨_, pe_lc cx.calm cx.nd i1 ok (fun s H C cl fp => g1 (s, H, C, cl, fp)) (fun s H C cl fp => b1 (s, H, C, cl, fp)) (fun s H C cl fp => c1 (s, H, C, cl, fp)) hs, fun S σ H ρ m Q hr he h => lc_walk cx.ok i2 g2 b2 c2 hr he h⟩⟩
/-- name = [..] on one line -/
theorem ds_setLc (fr : Bool) {i : Nat} {y : Str} {py spos : Pos} {tg iter elt : Expr} {ifs : List Expr} {scope : Scope} (own : List (Str × Nat)) {fi : Env' → M ItD} {g : FG} {tt : FB} {te : FE} (cx : CxR X R E) (hi : DI X R E tg iter fi) (ok : BlkOk X.N X.env.scope scope own)
    (h1 : ∀ i, CxR (bk X scope i) R EF → DGc (bk X scope i) R EF (own.map (·.2)) tg g) (h2 : ∀ i, CxR (bk X scope i) R EF → DPs (bk X scope i) R EF ifs tt) (h3 : ∀ i, CxR (bk X scope i) R EF → DE (bk X scope i) R EF elt te)
    (hy : X.N[i]? = some y := by rfl) (hyl : X.env.scope.names.lookup y = some .local := by rfl) (hk : X.env.scope.kind = .function := by rfl) (hl : (py.line == pos.line) = true := by rfl) (ha : (scope.names.any fun (n, k) => n == y && (k == .local || k == .cell)) = false := by rfl)
    (hs : ∀ x, foldedSetIterable iter X.env x = pure x := by intro _; rfl) : DS X R E (.Assign [.Name y py] (.ListComp elt [⟨tg, iter, ifs, 0⟩] scope pos) spos) (sAsg (dLc fr (own.map (·.2)) fi g tt te) (gN i)) := by
  obtain ⟨ti, i1, i2⟩ := hi.ex
  obtain ⟨t1, g1, g2⟩ := DGc.all fun i => h1 i (cx.bk scope i)
  obtain ⟨t2, b1, b2⟩ := DPs.all fun i => h2 i (cx.bk scope i)
  obtain ⟨t3, c1, c2⟩ := DE.all fun i => h3 i (cx.bk scope i)
  refine ⟨⟨_, ps_setLc cx.calm cx.nd hy hyl (sw_true hk hyl hl ha) i1 ok (fun s H C cl fp => g1 (s, H, C, cl, fp)) (fun s H C cl fp => b1 (s, H, C, cl, fp)) (fun s H C cl fp => c1 (s, H, C, cl, fp)) hs, fun S σ H ρ m Z hr he h => ?_⟩⟩
  refine lc_walk (E := E) cx.ok i2 g2 b2 c2 hr he (h.step fun d m1 H1 S1 e1 r1 q x rx => ?_)
  exact RoutG.now (R := R) (E := E) (P := PF R Z) q r1 _ ((he.ext cx.ok e1).set rx)
end
end TL
end
section
/-! The data layer: methods; the dict of the draws. -/
namespace TL
open PySem PySem.Spec PyProof.Rows L2

section
variable {X : Cx} {R : RC} {E : XK}
/-- the receiver is of the type T -/
def chk (T : String) (d : D) : M Unit := fun m => match d with
  | .str _ => if T = "str" then .ok () m else .stuck
  | .drg => if T = "list" ∧ m.dr.isSome = true then .ok () m else .stuck
  | d => if T = "list" then (match lstD m d with | some _ => .ok () m | none => .stuck) else .stuck
theorem chk_out {T : String} {S : Sto} {H : Hp} {m : MS} {v : V} {d : D} {α : Type} {P : α → MS → Hp → Sto → Prop} {k : Unit → M α} (hr : HR R S H m) (r : Rep R S H v d) (h : RoutG R S H E P (M.bind (chk T d) k m)) : tyV R.K T v H ∧ RoutG R S H E P (k () m) := by
  have main : RoutG R S H E P (M.bind (fun m => if T = "list" then (match lstD m d with | some _ => Res.ok () m | none => .stuck) else .stuck) k m) → tyV R.K T v H ∧ RoutG R S H E P (k () m) := fun h => by
    unfold M.bind at h
    dsimp only at h
    by_cases hT : T = "list"
    · rw [if_pos hT] at h
      cases e : lstD m d with
      | none => rw [e] at h; exact h.elim
      | some xs =>
        rw [e] at h
        obtain ⟨a, vs, rfl, h1, h2, h3⟩ := lstD_out hr r e
        exact ⟨.inl ⟨hT, vs, h1⟩, h⟩
    · rw [if_neg hT] at h
      exact h.elim
  cases d with
  | str z =>
    unfold M.bind chk at h
    dsimp only at h
    by_cases hT : T = "str"
    · rw [if_pos hT] at h
      have e := rep_str r
      subst e
      exact ⟨hT, h⟩
    · rw [if_neg hT] at h
      exact h.elim
  | drg =>
    unfold M.bind chk at h
    dsimp only at h
    by_cases hT : T = "list" ∧ m.dr.isSome = true
    · rw [if_pos hT] at h
      have q := hr.dr
      cases e : m.dr with
      | none => rw [e] at hT; exact absurd hT.2 (by simp)
      | some dd =>
        rw [e] at q
        obtain ⟨a, g, c, e0, h1, h2, h3⟩ := q
        cases r with
        | drg hd =>
          rw [hd] at e0
          cases e0
          exact ⟨.inl ⟨hT.1, _, SqL.of h2⟩, h⟩
    · rw [if_neg hT] at h
      exact h.elim
  | _ => exact main h
/-- a method of the type T does g -/
def MtD (X : Cx) (R : RC) (E : XK) (id : String) (g : D → List D → M D) : Prop :=
  ∃ r, MtR X id r ∧ ∀ S H m x a vs ds Q, HR R S H m → Rep R S H x a → RepAll R S H vs ds → RoutG R S H E (PV R Q) (g a ds m) → r x vs H Q
def dMeth (T : String) (g : D → List D → M D) (fo : FE) (ga : FA) : FE := fun ρ => M.bind (fo ρ) fun o => M.bind (chk T o) fun _ => M.bind (ga ρ) fun ds => g o ds
variable {o e : Expr} {es : List Expr} {fo : FE} {ga : FA} {g : D → List D → M D} {name : Str} {apos cpos : Pos} {T id : String}
theorem de_meth (pa : PlainAttrs T) (slot : Slot T name id) (hty : typeOf (.builtin id) = pure (.type "method_descriptor")) (cx : CxR X R E) (hm : MtD X R E id g) (ho : DE X R E o fo) (ha : DA X R E (e :: es) ga)
    (hbase : attributeBase o name X.env (eval o X.env) = eval o X.env := by rfl)
    (hfew : ((backTo cpos (starEach (e :: es) X.env)).all (fun x => !x.1) && (backToKw cpos (keywordEach [] X.env)).all (fun x => x.1.isSome)
      && decide ((e :: es).length + ([] : List Keyword).length + (if ([] : List Keyword).isEmpty then 0 else 1) < 30)) = true := by rfl)
    (hline : (apos.endLine == cpos.line) = true := by rfl) (hs : starEach (e :: es) X.env = (false, eval e X.env) :: starEach es X.env := by rfl) (hplain : (backTo cpos (starEach es X.env)).any (·.1) = false := by rfl) :
    DE X R E (.Call (.Attribute o name apos) (e :: es) [] cpos) (dMeth T g fo ga) := by
  obtain ⟨r, h1, h2⟩ := hm
  obtain ⟨to, a1, a2⟩ := ho.ex
  obtain ⟨t, b1, b2⟩ := ha.ex
  refine ⟨⟨_, pe_bm pa slot hty h1 a1 b1 hbase hfew hline hs hplain, fun S σ H ρ m Q hr he h => a2 S σ H ρ m _ hr he (h.step fun d m1 H1 S1 e1 r1 q v rv => ?_)⟩⟩
  rw [cx.K]
  obtain ⟨hT, q⟩ := chk_out r1 rv q
  exact ⟨hT, b2 S1 σ H1 ρ m1 _ r1 (he.ext cx.ok e1) (q.step fun ds m2 H2 S2 e2 r2 q2 vs rvs => h2 S2 H2 m2 v d vs ds Q r2 (rv.ext cx.ok e2) rvs q2)⟩
theorem de_meth0 (pa : PlainAttrs T) (slot : Slot T name id) (hty : typeOf (.builtin id) = pure (.type "method_descriptor")) (cx : CxR X R E) (hm : MtD X R E id g) (ho : DE X R E o fo)
    (hbase : attributeBase o name X.env (eval o X.env) = eval o X.env := by rfl) (hline : (apos.endLine == cpos.line) = true := by rfl) :
    DE X R E (.Call (.Attribute o name apos) [] [] cpos) (dMeth T g fo aNil) := by
  obtain ⟨r, h1, h2⟩ := hm
  obtain ⟨to, a1, a2⟩ := ho.ex
  refine ⟨⟨_, pe_bm0 pa slot hty h1 a1 hbase hline, fun S σ H ρ m Q hr he h => a2 S σ H ρ m _ hr he (h.step fun d m1 H1 S1 e1 r1 q v rv => ?_)⟩⟩
  rw [cx.K]
  obtain ⟨hT, q⟩ := chk_out r1 rv q
  exact ⟨hT, h2 S1 H1 m1 v d [] [] Q r1 rv .nil q⟩

/-! ### lists -/
def appendD (o : D) (ds : List D) : M D := fun m => match o, ds with
  | .ref n, [d] => (match m.objs[n]? with | some (.lst xs) => if xs.length < 1000000 then .ok .non { m with objs := m.objs.set n (.lst (xs ++ [d])) } else .stuck | _ => .stuck)
  | _, _ => .stuck
theorem mil_lt {n : Nat} (h : n < 1000000) : n < sizeLine := Nat.lt_trans h (by decide)
theorem mt_append_d (cx : CxR X R E) : MtD X R E "list.append" appendD := ⟨_, mt_append, fun S H m x a vs ds Q hr ra rv h => by
  unfold appendD at h
  cases a with
  | ref n =>
    cases rv with
    | nil => exact h.elim
    | @cons y d ys ds' r rr =>
      cases rr with
      | cons _ _ => exact h.elim
      | nil =>
        dsimp only at h
        cases eo : m.objs[n]? with
        | none => rw [eo] at h; exact h.elim
        | some u =>
          rw [eo] at h
          cases u with
          | lst xs =>
            dsimp only at h
            by_cases hl : xs.length < 1000000
            · rw [if_pos hl] at h
              obtain ⟨p, vs, rfl, hn, hp, rx⟩ := ref_out hr ra eo
              have ex := Ext.put (o := .lst (vs ++ [y])) hr hn
              exact ⟨p, vs, y, rfl, rfl, hp, by rw [rx.length]; exact mil_lt hl, h _ S ex (hr.put cx.ok hn ⟨_, upd_same, (rx.app (.cons r .nil)).ext cx.ok ex⟩) _ .non⟩
            · rw [if_neg hl] at h
              exact h.elim
          | _ => exact h.elim
  | _ => cases ds <;> exact h.elim⟩
def extendD (o : D) (ds : List D) : M D := fun m => match o, ds with
  | .ref n, [d] => (match m.objs[n]?, lstD m d with | some (.lst xs), some ys => if xs.length + ys.length < 1000000 then .ok .non { m with objs := m.objs.set n (.lst (xs ++ ys)) } else .stuck | _, _ => .stuck)
  | _, _ => .stuck
theorem mt_extend_d (cx : CxR X R E) : MtD X R E "list.extend" extendD := ⟨_, mt_extend, fun S H m x a vs ds Q hr ra rv h => by
  unfold extendD at h
  cases a with
  | ref n =>
    cases rv with
    | nil => exact h.elim
    | @cons y d ys ds' r rr =>
      cases rr with
      | cons _ _ => exact h.elim
      | nil =>
        dsimp only at h
        cases eo : m.objs[n]? with
        | none => rw [eo] at h; exact h.elim
        | some u =>
          cases ey : lstD m d with
          | none => rw [eo, ey] at h; cases u <;> exact h.elim
          | some zs =>
            rw [eo, ey] at h
            cases u with
            | lst xs =>
              dsimp only at h
              by_cases hl : xs.length + zs.length < 1000000
              · rw [if_pos hl] at h
                obtain ⟨p, vs, rfl, hn, hp, rx⟩ := ref_out hr ra eo
                obtain ⟨b, ws, rfl, _, ry, hb⟩ := lstD_out hr r ey
                have ex := Ext.put (o := .lst (vs ++ ws)) hr hn
                exact ⟨p, b, vs, ws, rfl, rfl, hp, hb, by rw [rx.length, ry.length]; exact Nat.le_of_lt (mil_lt hl), h _ S ex (hr.put cx.ok hn ⟨_, upd_same, (rx.app ry).ext cx.ok ex⟩) _ .non⟩
              · rw [if_neg hl] at h
                exact h.elim
            | _ => exact h.elim
  | _ => cases ds <;> exact h.elim⟩
theorem RepAll.dropLast {S : Sto} {H : Hp} {vs : List V} {ds : List D} (r : RepAll R S H vs ds) : RepAll R S H vs.dropLast ds.dropLast := by
  rw [List.dropLast_eq_take, List.dropLast_eq_take, r.length]
  exact r.take _
def popD (o : D) (ds : List D) : M D := fun m => match o, ds with
  | .ref n, [] => (match m.objs[n]? with | some (.lst xs) => (match xs[xs.length - 1]? with | some d => .ok d { m with objs := m.objs.set n (.lst xs.dropLast) } | none => .stuck) | _ => .stuck)
  | _, _ => .stuck
theorem mt_pop_d (cx : CxR X R E) : MtD X R E "list.pop" popD := ⟨_, mt_pop, fun S H m x a vs ds Q hr ra rv h => by
  unfold popD at h
  cases a with
  | ref n =>
    cases rv with
    | cons _ _ => exact h.elim
    | nil =>
      dsimp only at h
      cases eo : m.objs[n]? with
      | none => rw [eo] at h; exact h.elim
      | some u =>
        rw [eo] at h
        cases u with
        | lst xs =>
          dsimp only at h
          cases ed : xs[xs.length - 1]? with
          | none => rw [ed] at h; exact h.elim
          | some d =>
            rw [ed] at h
            obtain ⟨p, vs, rfl, hn, hp, rx⟩ := ref_out hr ra eo
            obtain ⟨y, h1, h2⟩ := rx.get ed
            have ex := Ext.put (o := .lst vs.dropLast) hr hn
            exact ⟨p, vs, y, rfl, rfl, hp, by rw [rx.length]; exact h1, h _ S ex (hr.put cx.ok hn ⟨_, upd_same, rx.dropLast.ext cx.ok ex⟩) _ (h2.ext cx.ok ex)⟩
        | _ => exact h.elim
  | _ => cases ds <;> exact h.elim⟩
theorem RepAll.erase {S : Sto} {H : Hp} : ∀ {vs : List V} {ds : List D} (i : Nat), RepAll R S H vs ds → RepAll R S H (vs.eraseIdx i) (ds.eraseIdx i)
  | _, _, _, .nil => .nil
  | _, _, 0, .cons _ t => t
  | _, _, i + 1, .cons q t => .cons q (RepAll.erase i t)
theorem ints_erase (ns : List Int) (i : Nat) : (ns.map V.int).eraseIdx i = (ns.eraseIdx i).map V.int := by
  induction ns generalizing i with
  | nil => rfl
  | cons n ns ih =>
    cases i with
    | zero => rfl
    | succ i => simp [ih]
/-- l.pop(i), the list one of ours, or the draws' great ones -/
def popAtD (o : D) (ds : List D) : M D := fun m => match ds with
  | [.int i] => if -(2 ^ 63) ≤ i ∧ i < 2 ^ 63 then (match o with
    | .ref n => (match m.objs[n]? with
      | some (.lst xs) => (match seqIndex? i xs.length with
        | some k => (match xs[k]? with | some d => .ok d { m with objs := m.objs.set n (.lst (xs.eraseIdx k)) } | none => .stuck)
        | none => .stuck)
      | _ => .stuck)
    | .drg => (match m.dr with
      | some dr => (match seqIndex? i dr.great.length with
        | some k => (match dr.great[k]? with | some z => .ok (.int z) { m with dr := some { dr with great := dr.great.eraseIdx k } } | none => .stuck)
        | none => .stuck)
      | none => .stuck)
    | _ => .stuck) else .stuck
  | _ => .stuck
/-- the draws' objects are written -/
theorem drs_split {S : Sto} {H : Hp} {m : MS} {a g c : Addr} (hr : HR R S H m) (e : S.drw = some (a, g, c)) : a ≠ g ∧ (∀ p, p = a ∨ p = g → p ∉ S.refs ∧ p ∉ S.tmp) := by
  have nd := hr.nd
  unfold Sto.mut Sto.rest Sto.drs at nd
  rw [e] at nd
  dsimp only at nd
  rw [List.nodup_append, List.nodup_append] at nd
  refine ⟨fun z => ?_, fun p hp => ⟨fun z => ?_, fun z => ?_⟩⟩
  · have := (List.nodup_cons.mp nd.2.1.1).1
    exact this (by simp [z])
  · exact nd.2.2 p z p (List.mem_append_left _ (by simpa using hp)) rfl
  · exact nd.2.1.2.2 p (by simpa using hp) p z rfl
theorem Ext.drPut {S : Sto} {H : Hp} {m : MS} {a g c p : Addr} {o : HO} (hr : HR R S H m) (e : S.drw = some (a, g, c)) (hp : p = a ∨ p = g) : Ext S H S (upd H p o) := by
  obtain ⟨n0, n1⟩ := drs_split hr e
  have hm : p ∈ S.mut := drs_mut (by unfold Sto.drs; rw [e]; simpa using hp)
  refine ⟨⟨⟨[], by simp⟩, fun _ h => h, fun _ h => .inl h, fun b u h n _ => by rw [upd_ne (a := p) (b := b) (fun z => n (z ▸ hm))]; exact h, fun b u h => ?_⟩, rfl, fun b hb => upd_ne fun z => (n1 p hp).2 (z ▸ hb)⟩
  by_cases hb : b = p
  · rw [hb, upd_same]; exact ⟨o, rfl⟩
  · rw [upd_ne hb]; exact ⟨u, h⟩
theorem HR.drPut {S : Sto} {H : Hp} {m : MS} {a g c p : Addr} {o : HO} {dr' : Dr} (ro : R.Ok) (hr : HR R S H m) (e : S.drw = some (a, g, c)) (hp : p = a ∨ p = g) (hd : DrRep S (upd H p o) (some dr')) : HR R S (upd H p o) { m with dr := some dr' } := by
  obtain ⟨n0, n1⟩ := drs_split hr e
  have ex := (Ext.drPut (o := o) hr e hp).toExt0
  have hm : p ∈ S.mut := drs_mut (by unfold Sto.drs; rw [e]; simpa using hp)
  refine ⟨hr.nd, hr.len, fun k b u h1 h2 => (hr.obj k b u h1 h2).ext0 ro ex (upd_ne fun z => (n1 p hp).1 (z ▸ List.mem_of_getElem? h1)), hd, fun b hb => by rw [upd_ne (a := p) (b := b) (fun z => (n1 p hp).2 (z ▸ hb))]; exact hr.tm b hb,
    (fun ⟨o', h1, h2⟩ => tabs_put hr.tb h1 h2) (hr.tracked hm)⟩
theorem mt_popAt_d (cx : CxR X R E) : MtD X R E "list.pop" popAtD := ⟨_, mt_popAt, fun S H m x a vs ds Q hr ra rv h => by
  unfold popAtD at h
  cases rv with
  | nil => exact h.elim
  | @cons y d ys ds' r rr =>
    cases rr with
    | cons _ _ => cases d <;> exact h.elim
    | nil =>
      cases d with
      | int i =>
        dsimp only at h
        by_cases hi : -(2 ^ 63) ≤ i ∧ i < 2 ^ 63
        · rw [if_pos hi] at h
          have ey := rep_int r
          subst ey
          cases a with
          | ref n =>
            dsimp only at h
            cases eo : m.objs[n]? with
            | none => rw [eo] at h; exact h.elim
            | some u =>
              rw [eo] at h
              cases u with
              | lst xs =>
                dsimp only at h
                cases ek : seqIndex? i xs.length with
                | none => rw [ek] at h; exact h.elim
                | some k =>
                  rw [ek] at h
                  dsimp only at h
                  cases ed : xs[k]? with
                  | none => rw [ed] at h; exact h.elim
                  | some d =>
                    rw [ed] at h
                    obtain ⟨p, vs, rfl, hn, hp, rx⟩ := ref_out hr ra eo
                    obtain ⟨y, h1, h2⟩ := rx.get ed
                    have ex := Ext.put (o := .lst (vs.eraseIdx k)) hr hn
                    exact ⟨p, vs, i, k, y, rfl, rfl, hp, hi.1, hi.2, by rw [rx.length]; exact ek, h1, h _ S ex (hr.put cx.ok hn ⟨_, upd_same, (rx.erase k).ext cx.ok ex⟩) _ (h2.ext cx.ok ex)⟩
              | _ => exact h.elim
          | drg =>
            dsimp only at h
            cases eo : m.dr with
            | none => rw [eo] at h; exact h.elim
            | some dr =>
              rw [eo] at h
              dsimp only at h
              cases ek : seqIndex? i dr.great.length with
              | none => rw [ek] at h; exact h.elim
              | some k =>
                rw [ek] at h
                dsimp only at h
                cases ed : dr.great[k]? with
                | none => rw [ed] at h; exact h.elim
                | some z =>
                  rw [ed] at h
                  cases ra with
                  | @drg a g c hd =>
                    have q := hr.dr
                    rw [eo] at q
                    obtain ⟨a', g', c', e0, h1, h2, h3⟩ := q
                    rw [hd] at e0
                    cases e0
                    obtain ⟨n0, n1⟩ := drs_split hr hd
                    have ex := Ext.drPut (o := .lst ((dr.great.eraseIdx k).map V.int)) hr hd (.inr rfl)
                    refine ⟨g, dr.great.map V.int, i, k, .int z, rfl, rfl, h2, hi.1, hi.2, by rw [List.length_map]; exact ek, by rw [List.getElem?_map, ed]; rfl, ?_⟩
                    rw [ints_erase]
                    refine h _ S ex (hr.drPut cx.ok hd (.inr rfl) ⟨a, g, c, hd, ?_, upd_same, h3.ext ex.toExt0⟩) _ (.int z)
                    rw [upd_ne n0]
                    exact h1
          | _ => exact h.elim
        · rw [if_neg hi] at h
          exact h.elim
      | _ => exact h.elim⟩
/-! ### the dict of the draws -/
def ixDr (a b : D) : M D := fun m => match a, b with
  | .drw, .str k => (match m.dr with
    | some d => if k = ("rest" : Str) then .ok (.int d.rest) m else if k = ("turn" : Str) then .ok (.int d.turn) m else if k = ("great" : Str) then .ok .drg m else if k = ("cells" : Str) then .ok (.lst (d.cells.map D.int)) m else .stuck
    | none => .stuck)
  | _, _ => .stuck
theorem de_ixDr {a b : Expr} {fa fb : FE} {pos : Pos} (cx : CxR X R E) (hu : X.A.units + 1 < cLine) (ha : DE X R E a fa) (hb : DE X R E b fb) (hs : NoSl b := by intro _ _; rfl) : DE X R E (.Subscript a b pos) (dBin ixDr fa fb) := by
  obtain ⟨ta, a1, a2⟩ := ha.ex
  obtain ⟨tb, b1, b2⟩ := hb.ex
  refine ⟨⟨_, pe_dget hu a1 b1 hs, fun S σ H ρ m Q hr he h => a2 S σ H ρ m _ hr he (h.step fun d m1 H1 S1 e1 r1 q v rv => ?_)⟩⟩
  refine b2 S1 σ H1 ρ m1 _ r1 (he.ext cx.ok e1) (q.step fun d2 m2 H2 S2 e2 r2 q2 v2 rv2 => ?_)
  have rv := rv.ext cx.ok e2
  unfold ixDr at q2
  cases d with
  | drw =>
    cases d2 with
    | str k =>
      dsimp only at q2
      cases eo : m2.dr with
      | none => rw [eo] at q2; exact q2.elim
      | some dr =>
        rw [eo] at q2
        dsimp only at q2
        cases rv with
        | @drw a g c hd =>
          have q := r2.dr
          rw [eo] at q
          obtain ⟨a', g', c', e0, h1, h2, h3⟩ := q
          rw [hd] at e0
          cases e0
          have e2' := rep_str rv2
          subst e2'
          by_cases k1 : k = ("rest" : Str)
          · rw [if_pos k1] at q2
            subst k1
            exact ⟨a, .int dr.rest, rfl, .inl ⟨_, .inr "rest", .inl h1, rfl, by rfl⟩, q2.now r2 _ (.int _)⟩
          · rw [if_neg k1] at q2
            by_cases k2 : k = ("turn" : Str)
            · rw [if_pos k2] at q2
              subst k2
              exact ⟨a, .int dr.turn, rfl, .inl ⟨_, .inr "turn", .inl h1, rfl, by rfl⟩, q2.now r2 _ (.int _)⟩
            · rw [if_neg k2] at q2
              by_cases k3 : k = ("great" : Str)
              · rw [if_pos k3] at q2
                subst k3
                exact ⟨a, .ref g, rfl, .inl ⟨_, .inr "great", .inl h1, rfl, by rfl⟩, q2.now r2 _ (.drg hd)⟩
              · rw [if_neg k3] at q2
                by_cases k4 : k = ("cells" : Str)
                · rw [if_pos k4] at q2
                  subst k4
                  exact ⟨a, .ref c, rfl, .inl ⟨_, .inr "cells", .inl h1, rfl, by rfl⟩, q2.now r2 _ (.lst h3 (RepAll.ints _))⟩
                · rw [if_neg k4] at q2
                  exact q2.elim
    | _ => exact q2.elim
  | _ => cases d2 <;> exact q2.elim
def putDr (o i d : D) : M Unit := fun m => match o, i, d with
  | .drw, .str k, .int z => (match m.dr with
    | some dr => if k = ("rest" : Str) then .ok () { m with dr := some { dr with rest := z } } else if k = ("turn" : Str) then .ok () { m with dr := some { dr with turn := z } } else .stuck
    | none => .stuck)
  | _, _, _ => .stuck
def gSubDr (fo fi : FE) : FG := fun d ρ => M.bind (fo ρ) fun o => M.bind (fi ρ) fun i => M.bind (putDr o i d) fun _ m => .ok ρ m
theorem dg_subDr {o i : Expr} {fo fi : FE} {pos : Pos} (cx : CxR X R E) (hu : X.A.units + 1 < cLine) (ho : DE X R E o fo) (hi : DE X R E i fi)
    (ha : ∀ v, assign (.Subscript o i pos) X.env v = (do
      let ov ← holding [v] (eval o X.env)
      let iv ← holding [v, ov] (eval i X.env)
      standAt pos
      holding [v, ov, iv] (setItem ov iv v)
      release [v, ov, iv] []) := by intro _; rfl) : DG X R E (.Subscript o i pos) (gSubDr fo fi) := by
  obtain ⟨t, a1, a2⟩ := ho.ex
  obtain ⟨t', b1, b2⟩ := hi.ex
  refine ⟨⟨_, pg_sub a1 b1 (set_dict hu) ha, fun S σ H ρ m v d Q hr he rv h => a2 S σ H ρ m _ hr he (h.step fun od m1 H1 S1 e1 r1 q x rx => ?_)⟩⟩
  refine b2 S1 σ H1 ρ m1 _ r1 (he.ext cx.ok e1) (q.step fun id m2 H2 S2 e2 r2 q2 y ry => ?_)
  have rx := rx.ext cx.ok e2
  have rv := rv.ext cx.ok (e1.trans e2)
  have he := he.ext cx.ok (e1.trans e2)
  unfold M.bind putDr at q2
  cases od with
  | drw =>
    cases id with
    | str k =>
      cases d with
      | int z =>
        dsimp only at q2
        cases eo : m2.dr with
        | none => rw [eo] at q2; exact q2.elim
        | some dr =>
          rw [eo] at q2
          dsimp only at q2
          cases rx with
          | @drw a g c hd =>
            have q := r2.dr
            rw [eo] at q
            obtain ⟨a', g', c', e0, h1, h2, h3⟩ := q
            rw [hd] at e0
            cases e0
            obtain ⟨n0, n1⟩ := drs_split r2 hd
            have e1' := rep_int rv
            have e2' := rep_str ry
            subst e1'
            subst e2'
            have gg : ∀ o, upd H2 a o g = H2 g := fun o => upd_ne (Ne.symm n0)
            by_cases k1 : k = ("rest" : Str)
            · rw [if_pos k1] at q2
              subst k1
              have ex := Ext.drPut (o := .dK [(.inr "great", .ref g), (.inr "cells", .ref c), (.inr "rest", .int z), (.inr "turn", .int dr.turn)]) r2 hd (.inl rfl)
              refine ⟨a, _, rfl, .inl ⟨_, .inr "rest", h1, rfl, by show (4 : Nat) < sizeLine; decide, rfl⟩, ?_⟩
              exact q2 _ S2 ex (r2.drPut cx.ok hd (.inl rfl) ⟨a, g, c, hd, upd_same, (gg _).trans h2, h3.ext ex.toExt0⟩) σ (he.ext cx.ok ex)
            · rw [if_neg k1] at q2
              by_cases k2 : k = ("turn" : Str)
              · rw [if_pos k2] at q2
                subst k2
                have ex := Ext.drPut (o := .dK [(.inr "great", .ref g), (.inr "cells", .ref c), (.inr "rest", .int dr.rest), (.inr "turn", .int z)]) r2 hd (.inl rfl)
                refine ⟨a, _, rfl, .inl ⟨_, .inr "turn", h1, rfl, by show (4 : Nat) < sizeLine; decide, rfl⟩, ?_⟩
                exact q2 _ S2 ex (r2.drPut cx.ok hd (.inl rfl) ⟨a, g, c, hd, upd_same, (gg _).trans h2, h3.ext ex.toExt0⟩) σ (he.ext cx.ok ex)
              · rw [if_neg k2] at q2
                exact q2.elim
      | _ => exact q2.elim
    | _ => cases d <;> exact q2.elim
  | _ => cases id <;> cases d <;> exact q2.elim
end
end TL
end
section
/-! The data layer: the defs of the text and their calls. -/
namespace TL
open PySem PySem.Spec PyProof.Rows L2

/-- what a def promises: F of the arguments' data -/
def spD (R : RC) (n : Nat) (F : List D → M D) : Sp := fun vs H Q E => vs.length = n ∧ ∃ S m ds, HR R S H m ∧ RepAll R S H vs ds ∧ RoutG R S H E (PV R Q) (F ds m)
/-- the slots at the entry -/
def startD (n : Nat) (ds : List D) : Env' := ds.map some ++ List.replicate (n - ds.length) none
theorem er_start {R : RC} {S : Sto} {H : Hp} {N : List Str} {vs : List V} {ds : List D} (r : RepAll R S H vs ds) : ER R S H (L2.start N vs) (startD N.length ds) := by
  have hl := r.length
  refine ⟨by unfold L2.start startD; simp [hl], fun i d q => ?_⟩
  unfold startD at q
  by_cases hi : i < ds.length
  · rw [List.getElem?_append_left (by simpa using hi), List.getElem?_map] at q
    cases e : ds[i]? with
    | none => rw [e] at q; cases q
    | some d' =>
      rw [e] at q
      cases q
      obtain ⟨v, h1, h2⟩ := r.get e
      refine ⟨v, ?_, h2⟩
      unfold L2.start
      rw [List.getElem?_append_left (by simpa [hl] using hi), List.getElem?_map, h1]
      rfl
  · rw [List.getElem?_append_right (by simpa using hi), List.getElem?_replicate] at q
    split at q <;> cases q
def endF : Fl → M D
  | .ret d => fun m => .ok d m
  | .next _ => fun m => .ok .non m
  | _ => fun _ => .stuck
def bodyF (u : FS) (n : Nat) : List D → M D := fun ds => M.bind (u (startD n ds)) endF
/-- what is known of the base -/
structure Bs (P : Program) (w : World) (base : Heap) (R : RC) : Prop where
  ok : R.Ok
  seer : base.NoSeer
  tree : P.given.tree = none
structure FnD (P : Program) (w : World) (base : Heap) (R : RC) (x : Str) (k : Nat) (ps : List Str) (st : Stmt) (F : List D → M D) : Prop where
  ex : ∃ f fd, FnOk P w R.K R.mg base (L2.CX P w) k f fd ps (spD R ps.length F) ∧ R.mg x = some (.ref f) ∧ Fun R.K x x st f fd ∧ Binds R.K fd ps []
section
variable {P : Program} {w : World} {base : Heap} {R : RC}
theorem cxr_of (B : Bs P w base R) {N ps : List Str} {x : Str} {sc : Scope} {f : Addr} {cdv : Value} {A : Around} {outer : List Env} {s : Shared} {H : Hp} {E : XK} {k : Nat} (S : FnScope N ps sc) (hk : 40 ≤ k) (hr : Room k (A.deeper (envOfC x sc s.heap.objs.size f cdv))) :
    CxR (cxOf (L2.CX P w) P w R.K R.mg base N x sc f cdv A outer s H E) R E where
  K := rfl
  mg := rfl
  ok := B.ok
  tk := takes_of rfl rfl rfl rfl
  po := passes_of rfl
  pyl := fun s' hf hl hb => PylongRoom.of hl (by have := hr.dp; show (A.deeper (envOfC x sc s.heap.objs.size f cdv)).depth + 100 < _; omega) (SeerAt.of (B.seer.keeps hb) B.tree hf S.gen S.co rfl rfl)
  un := by have := hr.un; show (A.deeper (envOfC x sc s.heap.objs.size f cdv)).units + 65 < _; omega
  calm := rfl
  nd := S.nd
theorem endF_out {S : Sto} {H : Hp} {E : XK} {Q : VK} {n : Nat} {u : FS} {ds : List D} {m : MS} (h : RoutG R S H E (PV R Q) (bodyF u n ds m)) : RoutG R S H E (PF R { nx := fun _ H' => Q .non H', rt := Q }) (u (startD n ds) m) :=
  h.step fun fl m1 H1 S1 e1 r1 q => by
    cases fl with
    | ret d => exact fun v rv => q.now r1 v rv
    | next ρ' => exact fun σ' _ => q.now r1 _ .non
    | brk ρ' => exact q.elim
    | cont ρ' => exact q.elim
/-- THE RULE for a def -/
theorem fnD_of (B : Bs P w base R) {x : Str} {st : Stmt} {f : Addr} {fd : FuncData} {N ps : List Str} {k : Nat} {u : FS} {F : List D → M D} (Fu : Fun R.K x x st f fd) (hm : R.mg x = some (.ref f)) (S : FnScope N ps (defScope st)) (hk : 40 ≤ k) (hb : Binds R.K fd ps [])
    (hF : ∀ S H m ds E Q, HR R S H m → ds.length = ps.length → RoutG R S H E (PV R Q) (F ds m) → RoutG R S H E (PV R Q) (bodyF u N.length ds m))
    (h : ∀ (cdv : Value) (A : Around) (outer : List Env) (s : Shared) (H : Hp) (E : XK), Room k (A.deeper (envOfC x (defScope st) s.heap.objs.size f cdv)) → CxR (cxOf (L2.CX P w) P w R.K R.mg base N x (defScope st) f cdv A outer s H E) R E →
      DSs (cxOf (L2.CX P w) P w R.K R.mg base N x (defScope st) f cdv A outer s H E) R E (defBody st) u) : FnD P w base R x (k + 1) ps st F := by
  refine ⟨f, fd, Fu.okX S (fun vs H Q E h => h.1) fun cdv A outer s H vs Q E hr hsp => ?_, hm, Fu, hb⟩
  obtain ⟨hl, St, m, ds, h1, h2, h3⟩ := hsp
  obtain ⟨t, a1, a2⟩ := (h cdv A outer s H E hr (cxr_of B S hk hr)).ex
  exact ⟨t, a1, a2 St _ H _ m _ h1 (er_start h2) (endF_out (hF St H m ds E Q h1 (by rw [← h2.length]; exact hl) h3))⟩
theorem FnD.mono {x : Str} {j k : Nat} {ps : List Str} {st : Stmt} {F : List D → M D} (h : FnD P w base R x j ps st F) (hj : j ≤ k) : FnD P w base R x k ps st F := by
  obtain ⟨f, fd, h1, h2⟩ := h.ex
  exact ⟨f, fd, h1.mono hj, h2⟩
end
section
variable {X : Cx} {R : RC} {E : XK} {pos p : Pos} {x : Str} {k j : Nat} {ps : List Str} {st : Stmt} {F : List D → M D}
def dCall (F : List D → M D) (g : FA) : FE := fun ρ => M.bind (g ρ) F
def lenF (n : Nat) (F : List D → M D) : List D → M D := fun ds m => if ds.length = n then F ds m else .stuck
theorem lenF_out {S : Sto} {H : Hp} {Q : VK} {n : Nat} {ds : List D} {m : MS} (h : RoutG R S H E (PV R Q) (lenF n F ds m)) : ds.length = n ∧ RoutG R S H E (PV R Q) (F ds m) := by
  unfold lenF at h
  by_cases hl : ds.length = n
  · rw [if_pos hl] at h
    exact ⟨hl, h⟩
  · rw [if_neg hl] at h
    exact h.elim
theorem de_call {e : Expr} {es : List Expr} {g : FA} (cx : CxR X R E) (hf : FnD X.prog X.w X.base R x j ps st F) (hr : Room k X.A) (hj : j ≤ k) (hg : Gl X x) (ha : DA X R E (e :: es) g)
    (hdb : (x == ("__debug__" : Str)) = false := by decide) (he : starEach (e :: es) X.env = (false, eval e X.env) :: starEach es X.env := by rfl) (hpl : (backTo pos (starEach es X.env)).any (·.1) = false := by rfl) :
    DE X R E (.Call (.Name x p) (e :: es) [] pos) (dCall (lenF ps.length F) g) := by
  obtain ⟨f, fd, h1, h2, h3, h4⟩ := hf.ex
  obtain ⟨t, a1, a2⟩ := ha.ex
  have K := cx.K
  have G := cx.mg
  rw [← K, ← G] at h1
  refine ⟨⟨_, pe_call (E := E) h1 (hr.mono hj) hg (by rw [G]; exact h2) (by rw [K]; exact h3.kp) (by rw [K]; exact h4) .nil (passes_call cx.tk fun _ _ _ _ h => h) a1 hdb he hpl, fun S σ H ρ m Q hr' he' h => a2 S σ H ρ m _ hr' he' (h.step fun ds m1 H1 S1 e1 r1 q vs rv => ?_)⟩⟩
  obtain ⟨hl, q⟩ := lenF_out q
  rw [List.append_nil]
  exact ⟨by rw [rv.length]; exact hl, S1, m1, ds, r1, rv, q⟩
/-- the keywords' values, from the left -/
structure DK (X : Cx) (R : RC) (E : XK) (kws : List Keyword) (f : FA) : Prop where
  ex : ∃ t, PK X kws t ∧ ∀ S σ H ρ m Q, HR R S H m → ER R S H σ ρ → RoutG R S H E (PVs R Q) (f ρ m) → t σ H Q
theorem dk_nil : DK X R E [] aNil := ⟨⟨_, pk_nil, fun S σ H ρ m Q hr he h => h.now hr _ .nil⟩⟩
theorem dk_cons {e : Expr} {f : FE} {kws : List Keyword} {g : FA} {nm : Option Str} {kpos : Pos} (cx : CxR X R E) (h1 : DE X R E e f) (h2 : DK X R E kws g) : DK X R E (⟨nm, e, kpos⟩ :: kws) (aCons f g) := by
  obtain ⟨t, a1, a2⟩ := h1.ex
  obtain ⟨u, b1, b2⟩ := h2.ex
  refine ⟨⟨_, pk_cons a1 b1, fun S σ H ρ m Q hr he h => a2 S σ H ρ m _ hr he (h.step fun d m1 H1 S1 e1 r1 q v rv => ?_)⟩⟩
  refine b2 S1 σ H1 ρ m1 _ r1 (he.ext cx.ok e1) (q.step fun ds m2 H2 S2 e2 r2 q2 vs rvs => ?_)
  exact q2.now r2 _ (.cons (rv.ext cx.ok e2) rvs)
/-- the values put in the parameters' order: ix tells for each parameter which value is its own -/
def permV {α : Type} (ix : List Nat) (xs : List α) : List α := ix.filterMap fun i => xs[i]?
def permD (ix : List Nat) (F : List D → M D) : List D → M D := fun ds m => if ds.length = ix.length then F (permV ix ds) m else .stuck
theorem perm_rep {S : Sto} {H : Hp} {vs : List V} {ds : List D} (r : RepAll R S H vs ds) : ∀ ix : List Nat, RepAll R S H (permV ix vs) (permV ix ds)
  | [] => .nil
  | i :: ix => by
    unfold permV
    rw [List.filterMap_cons, List.filterMap_cons]
    cases e : ds[i]? with
    | none =>
      have e' : vs[i]? = none := by
        rw [List.getElem?_eq_none_iff] at e ⊢
        rw [r.length]; exact e
      rw [e']
      exact perm_rep r ix
    | some d =>
      obtain ⟨v, h1, h2⟩ := r.get e
      rw [h1]
      exact .cons h2 (perm_rep r ix)
theorem perm_vals {vs : List V} {us : List Value} (r : Vals vs us) : ∀ ix : List Nat, Vals (permV ix vs) (permV ix us)
  | [] => .nil
  | i :: ix => by
    unfold permV
    rw [List.filterMap_cons, List.filterMap_cons]
    cases e : vs[i]? with
    | none =>
      have e' : us[i]? = none := by
        rw [List.getElem?_eq_none_iff] at e ⊢
        rw [← r.length]; exact e
      rw [e']
      exact perm_vals r ix
    | some d =>
      obtain ⟨v, h1, h2⟩ := r.get e
      rw [h1]
      exact .cons h2 (perm_vals r ix)
/-- f(k = v, ..), all parameters by keyword -/
theorem de_callK0 {kws : List Keyword} {ks : List Str} {g : FA} (ix : List Nat) (cx : CxR X R E) (hf : FnD X.prog X.w X.base R x j ps st F) (hr : Room k X.A) (hj : j ≤ k) (hg : Gl X x) (hkw : DK X R E kws g)
    (hb : ∀ (kV doc pm : Value) (an : Option Addr) (cdv ct : Value) (ws : List Value), ws.length = ix.length → bindArgs (PySem.W.fnOf x x (defArgs st) (defBody st) (defScope st) .none kV doc pm an cdv ct) ⟨[], ks.zip ws⟩ = pure (ps.zip (permV ix ws)))
    (hix : ∀ ds : List D, ds.length = ix.length → (permV ix ds).length = ps.length)
    (hall : (backToKw pos (keywordEach kws X.env)).all (·.1.isSome) = true := by rfl) (hks : (backToKw pos (keywordEach kws X.env)).filterMap (·.1) = ks := by rfl)
    (hdb : (x == ("__debug__" : Str)) = false := by decide) (hpl : ((backTo pos (starEach [] X.env)).any (·.1) || (backToKw pos (keywordEach kws X.env)).any (·.1.isNone)) = false := by rfl) :
    DE X R E (.Call (.Name x p) [] kws pos) (dCall (permD ix F) g) := by
  obtain ⟨f, fd, h1, h2, h3, h4⟩ := hf.ex
  obtain ⟨t, a1, a2⟩ := hkw.ex
  have K := cx.K
  have G := cx.mg
  rw [← K, ← G] at h1
  obtain ⟨oc, od, kV, doc, pm, an, cdv, ct, osl, hfd, lk, hcd⟩ := h3.ex
  refine ⟨⟨fun σ H Q => t σ H fun zs H1 => zs.length = ix.length ∧ spD R ps.length F (permV ix zs) H1 Q E, ⟨fun pins s σ H Q I h => ?_⟩, fun S σ H ρ m Q hr' he' h => a2 S σ H ρ m _ hr' he' (h.step fun ds m1 H1 S1 e1 r1 q vs rv => ?_)⟩⟩
  · refine wpAny_Call_Name_kw (ld_glob I hg (by rw [G]; exact h2) ?_ hdb)
    refine PySem.W.callWith_KW0 (h₀ := X.base) I.ok.mod.kin (by rw [K]; exact h3.kp) hall (thn (a1.run pos pins s σ H _ I h) fun ws s2 ⟨zs, H2, I2, rz, hl, hsp⟩ => ⟨I2.kIn, ?_⟩) hpl
    rw [hks]
    have r2 := perm_vals rz ix
    have hlw : ws.length = ix.length := by rw [← rz.length]; exact hl
    have hb' : BindsTo s2 fd ⟨[], ks.zip ws⟩ (ps.zip (permV ix ws)) := by
      rw [hfd]
      exact .of_eq (hb kV doc pm an cdv ct ws hlw)
    refine wpAny_call (codeAny_mono (h1.run X.A X.stack s2 H2 ⟨[], ks.zip ws⟩ (permV ix ws) (permV ix zs) Q E (hr.mono hj) I2.env0 hb' r2 hsp) fun r s' hq => ?_)
    cases r with
    | error e => exact passes_call cx.tk (fun _ _ _ _ h => h) pins σ H2 s2 e s' I2 hq
    | ok fl =>
      cases fl with
      | ret u => exact I2.after hq
      | next => exact False.elim hq
      | brk => exact False.elim hq
      | cont => exact False.elim hq
  · unfold permD at q
    by_cases hl : ds.length = ix.length
    · rw [if_pos hl] at q
      refine ⟨by rw [rv.length]; exact hl, ?_, S1, m1, _, r1, perm_rep rv ix, q⟩
      rw [(perm_rep rv ix).length]
      exact hix ds hl
    · rw [if_neg hl] at q
      exact q.elim
end

/-! ### a def's own lists are let go at its end -/
mutual
/-- all numbers below n -/
def ltD (n : Nat) : D → Bool
  | .tup xs => ltAll n xs
  | .lst xs => ltAll n xs
  | .dct kvs => ltKV n kvs
  | .ref k => decide (k < n)
  | .exn _ fs => ltFs n fs
  | _ => true
def ltAll (n : Nat) : List D → Bool
  | [] => true
  | x :: xs => ltD n x && ltAll n xs
def ltKV (n : Nat) : List (Key × D) → Bool
  | [] => true
  | (_, x) :: xs => ltD n x && ltKV n xs
def ltFs (n : Nat) : List (Str × D) → Bool
  | [] => true
  | (_, x) :: xs => ltD n x && ltFs n xs
end
def ltMO (n : Nat) : MO → Bool
  | .lst xs => ltAll n xs
  | .dct kvs => ltKV n kvs
  | .ins _ fs => ltFs n fs
def optAll : List (Option D) → Option (List D)
  | [] => some []
  | some d :: r => (optAll r).map (d :: ·)
  | none :: _ => none
/-- with the new lists as they stand -/
def frz (n : Nat) (objs : List MO) : Nat → D → Option D
  | 0, d => if ltD n d then some d else none
  | f + 1, d => if ltD n d then some d else match d with
    | .tup xs => (optAll (xs.map (frz n objs f))).map .tup
    | .lst xs => (optAll (xs.map (frz n objs f))).map .lst
    | .ref k => (match objs[k]? with
      | some (.lst xs) => (optAll (xs.map (frz n objs f))).map .lst
      | _ => none)
    | _ => none
def okOld (m0 m1 : MS) : Prop := m1.objs.take m0.objs.length = m0.objs ∨ ∀ o ∈ m1.objs.take m0.objs.length, ltMO m0.objs.length o = true
open Classical in
noncomputable def trunc (m0 : MS) : Res D → Res D
  | .ok d m1 => if okOld m0 m1 then (match frz m0.objs.length m1.objs 8 d with | some d' => .ok d' { m1 with objs := m1.objs.take m0.objs.length } | none => .stuck) else .stuck
  | .raise c fs m1 => if okOld m0 m1 ∧ ltFs m0.objs.length fs = true then .raise c fs { m1 with objs := m1.objs.take m0.objs.length } else .stuck
  | .stuck => .stuck
section
variable {R : RC} {S S1 : Sto} {H H' : Hp}
theorem ltKV_of (n : Nat) : ∀ (ks : List Key) (ds : List D), ltAll n ds = true → ltKV n (ks.zip ds) = true
  | [], _, _ => by simp [ltKV]
  | _ :: _, [], _ => by simp [ltKV]
  | k :: ks, d :: ds, h => by
    simp only [ltAll, Bool.and_eq_true] at h
    simp only [List.zip_cons_cons, ltKV, Bool.and_eq_true]
    exact ⟨h.1, ltKV_of n ks ds h.2⟩
theorem ltAll_zip (n : Nat) : ∀ (ks : List Key) (ds : List D), ks.length = ds.length → ltKV n (ks.zip ds) = true → ltAll n ds = true
  | [], [], _, _ => rfl
  | [], _ :: _, h, _ => by cases h
  | _ :: _, [], h, _ => by cases h
  | k :: ks, d :: ds, h, q => by
    simp only [List.zip_cons_cons, ltKV, Bool.and_eq_true] at q
    simp only [ltAll, Bool.and_eq_true]
    exact ⟨q.1, ltAll_zip n ks ds (by simpa using h) q.2⟩
mutual
theorem Rep.lt : ∀ {v : V} {d : D}, Rep R S H v d → ltD S.refs.length d = true
  | _, _, .non => rfl
  | _, _, .bl b => rfl
  | _, _, .int i => rfl
  | _, _, .str x => rfl
  | _, _, .tup h r => by simpa [ltD] using RepAll.lt r
  | _, _, .lst h r => by simpa [ltD] using RepAll.lt r
  | _, _, .dct h n l r => by simpa [ltD] using ltKV_of _ _ _ (RepAll.lt r)
  | _, _, .scr h n => rfl
  | _, _, .ref h => by simpa [ltD] using (List.getElem?_eq_some_iff.mp h).1
  | _, _, .drw h => rfl
  | _, _, .drg h => rfl
  | _, _, .fn h => rfl
  | _, _, .ty n => rfl
  | _, _, .clo h k n q m => rfl
  | _, _, .exn h k n => rfl
  | _, _, .exnd h k n q m r => by simpa [ltD, ltFs] using Rep.lt r
theorem RepAll.lt : ∀ {vs : List V} {ds : List D}, RepAll R S H vs ds → ltAll S.refs.length ds = true
  | _, _, .nil => rfl
  | _, _, .cons h r => by simpa [ltAll] using ⟨Rep.lt h, RepAll.lt r⟩
end
theorem ltKV_map (n : Nat) : ∀ kvs : List (Key × D), ltKV n kvs = ltAll n (kvs.map (·.2))
  | [] => rfl
  | (k, d) :: r => by simp [ltKV, ltAll, ltKV_map n r]
theorem ltFs_map (n : Nat) : ∀ kvs : List (Str × D), ltFs n kvs = ltAll n (kvs.map (·.2))
  | [] => rfl
  | (k, d) :: r => by simp [ltFs, ltAll, ltFs_map n r]
theorem MRep.lt {a : Addr} {o : MO} (h : MRep R S H a o) : ltMO S.refs.length o = true := by
  cases o with
  | lst xs => obtain ⟨vs, _, r⟩ := h; exact r.lt
  | dct kvs => obtain ⟨vs, _, r⟩ := h; show ltKV _ kvs = true; rw [ltKV_map]; exact r.lt
  | ins c fs => obtain ⟨_, _, vs, _, _, r⟩ := h; show ltFs _ fs = true; rw [ltFs_map]; exact r.lt
/-- the store without the new ones -/
def Sto.cut (S1 S : Sto) : Sto := { S1 with refs := S.refs }
section
variable (e : Ext S H S1 H')
include e
theorem cut_mut {a : Addr} (h : a ∈ (S1.cut S).mut) : a ∈ S1.mut := by
  obtain ⟨more, q⟩ := e.refs
  rcases List.mem_append.mp h with h | h
  · refine List.mem_append_left _ ?_
    rw [q]
    exact List.mem_append_left _ h
  · exact List.mem_append_right _ h
theorem cut_ref {k : Nat} {a : Addr} (h : S1.refs[k]? = some a) (hk : k < S.refs.length) : (S1.cut S).refs[k]? = some a := by
  obtain ⟨more, q⟩ := e.refs
  rw [q, List.getElem?_append_left hk] at h
  exact h
mutual
theorem Rep.cut : ∀ {v : V} {d : D}, Rep R S1 H' v d → ltD S.refs.length d = true → Rep R (S1.cut S) H' v d
  | _, _, .non, _ => .non
  | _, _, .bl b, _ => .bl b
  | _, _, .int i, _ => .int i
  | _, _, .str x, _ => .str x
  | _, _, .tup h r, q => .tup (h.imp (fun z => ⟨z.1, fun k => z.2 (cut_mut e k)⟩) id) (RepAll.cut r (by simpa [ltD] using q))
  | _, _, .lst h r, q => .lst ⟨h.1, fun k => h.2 (cut_mut e k)⟩ (RepAll.cut r (by simpa [ltD] using q))
  | _, _, .dct h n l r, q => .dct h (fun k => n (cut_mut e k)) l (RepAll.cut r (ltAll_zip _ _ _ (l.trans r.length) (by simpa [ltD] using q)))
  | _, _, .scr h n, _ => .scr h (fun k => n (cut_mut e k))
  | _, _, .ref h, q => .ref (cut_ref e h (by simpa [ltD] using q))
  | _, _, .drw h, _ => .drw h
  | _, _, .drg h, _ => .drg h
  | _, _, .fn h, _ => .fn h
  | _, _, .ty n, _ => .ty n
  | _, _, .clo h k n q m, _ => .clo h k (fun z => n (cut_mut e z)) q (fun z => m (cut_mut e z))
  | _, _, .exn h k n, _ => .exn h k (fun z => n (cut_mut e z))
  | _, _, .exnd h k n q m r, z => .exnd h k (fun y => n (cut_mut e y)) q (fun y => m (cut_mut e y)) (Rep.cut r (by simpa [ltD, ltFs] using z))
theorem RepAll.cut : ∀ {vs : List V} {ds : List D}, RepAll R S1 H' vs ds → ltAll S.refs.length ds = true → RepAll R (S1.cut S) H' vs ds
  | _, _, .nil, _ => .nil
  | _, _, .cons h r, q => by
    simp only [ltAll, Bool.and_eq_true] at q
    exact .cons (Rep.cut h q.1) (RepAll.cut r q.2)
end
theorem MRep.cut {a : Addr} {o : MO} (h : MRep R S1 H' a o) (q : ltMO S.refs.length o = true) : MRep R (S1.cut S) H' a o := by
  cases o with
  | lst xs => obtain ⟨vs, h1, r⟩ := h; exact ⟨vs, h1, r.cut e q⟩
  | dct kvs => obtain ⟨vs, h1, r⟩ := h; exact ⟨vs, h1, r.cut e (by have q : ltKV _ kvs = true := q; rw [ltKV_map] at q; exact q)⟩
  | ins c fs => obtain ⟨C, dx, vs, h0, h1, r⟩ := h; exact ⟨C, dx, vs, h0, h1, r.cut e (by have q : ltFs _ fs = true := q; rw [ltFs_map] at q; exact q)⟩
theorem Ext.cut : Ext S H (S1.cut S) H' := ⟨⟨⟨[], by simp [Sto.cut]⟩, e.drw, fun a h => e.new a (cut_mut e h), fun b o h n t => e.keep b o h n t, e.there⟩, e.tmp, e.tk⟩
theorem HR.cut {m0 m1 : MS} (h0 : HR R S H m0) (h1 : HR R S1 H' m1) (ok : okOld m0 m1) : HR R (S1.cut S) H' { m1 with objs := m1.objs.take m0.objs.length } := by
  obtain ⟨more, q⟩ := e.refs
  have hl0 := h0.len
  have hl1 := h1.len
  rw [q, List.length_append] at hl1
  refine ⟨?_, ?_, fun n a o h2 h3 => ?_, ?_, h1.tm, h1.tb⟩
  · have nd := h1.nd
    unfold Sto.mut at nd ⊢
    show (S.refs ++ S1.rest).Nodup
    rw [q, List.append_assoc] at nd
    exact nd.sublist (List.Sublist.append_left (List.sublist_append_right _ _) _)
  · show S.refs.length = (m1.objs.take m0.objs.length).length
    rw [List.length_take]
    omega
  · have h2' : S.refs[n]? = some a := h2
    have hn : n < S.refs.length := (List.getElem?_eq_some_iff.mp h2').1
    have h3' : (m1.objs.take m0.objs.length)[n]? = some o := h3
    have h4 : m1.objs[n]? = some o := by rw [List.getElem?_take_of_lt (by omega)] at h3'; exact h3'
    have h5 : S1.refs[n]? = some a := by rw [q, List.getElem?_append_left hn]; exact h2'
    refine (h1.obj n a o h5 h4).cut e ?_
    rcases ok with ok | ok
    · rw [ok] at h3'
      exact (h0.obj n a o h2' h3').lt
    · rw [hl0]
      exact ok o (List.mem_of_getElem? h3')
  · have hd := h1.dr
    show DrRep (S1.cut S) H' m1.dr
    revert hd
    cases m1.dr with
    | none => exact fun h => h
    | some d => exact fun ⟨a, g, c, e0, q1, q2, q3⟩ => ⟨a, g, c, e0, q1, q2, q3.1, fun k => q3.2 (cut_mut e k)⟩
theorem optAll_cut {f : D → Option D} (hf : ∀ v d d', Rep R S1 H' v d → f d = some d' → Rep R (S1.cut S) H' v d') : ∀ {vs : List V} {xs ys : List D}, RepAll R S1 H' vs xs → optAll (xs.map f) = some ys → RepAll R (S1.cut S) H' vs ys
  | _, _, _, .nil, q => by cases q; exact .nil
  | _, x :: xs, ys, .cons h r, q => by
    rw [List.map_cons] at q
    cases e1 : f x with
    | none => rw [e1] at q; cases q
    | some d =>
      rw [e1] at q
      cases e2 : optAll (xs.map f) with
      | none =>
        have q' : (optAll (xs.map f)).map (d :: ·) = some ys := q
        rw [e2] at q'
        cases q'
      | some zs =>
        have q' : (optAll (xs.map f)).map (d :: ·) = some ys := q
        rw [e2] at q'
        cases q'
        exact .cons (hf _ _ _ h e1) (optAll_cut hf r e2)
theorem frz_cut {m1 : MS} (h1 : HR R S1 H' m1) : ∀ (f : Nat) (v : V) (d d' : D), Rep R S1 H' v d → frz S.refs.length m1.objs f d = some d' → Rep R (S1.cut S) H' v d'
  | 0, v, d, d', r, q => by
    unfold frz at q
    by_cases hl : ltD S.refs.length d = true
    · rw [if_pos hl] at q
      cases q
      exact r.cut e hl
    · rw [if_neg hl] at q
      cases q
  | f + 1, v, d, d', r, q => by
    unfold frz at q
    by_cases hl : ltD S.refs.length d = true
    · rw [if_pos hl] at q
      cases q
      exact r.cut e hl
    · rw [if_neg hl] at q
      cases r with
      | tup h ra =>
        dsimp only at q
        cases eo : optAll (List.map (frz S.refs.length m1.objs f) _) with
        | none => rw [eo] at q; cases q
        | some ys =>
          rw [eo] at q
          cases q
          exact .tup (h.imp (fun z => ⟨z.1, fun k => z.2 (cut_mut e k)⟩) id) (optAll_cut e (frz_cut h1 f) ra eo)
      | lst h ra =>
        dsimp only at q
        cases eo : optAll (List.map (frz S.refs.length m1.objs f) _) with
        | none => rw [eo] at q; cases q
        | some ys =>
          rw [eo] at q
          cases q
          exact .lst ⟨h.1, fun k => h.2 (cut_mut e k)⟩ (optAll_cut e (frz_cut h1 f) ra eo)
      | @ref k a hk =>
        dsimp only at q
        cases ek : m1.objs[k]? with
        | none => rw [ek] at q; cases q
        | some o =>
          rw [ek] at q
          cases o with
          | lst xs =>
            dsimp only at q
            cases eo : optAll (List.map (frz S.refs.length m1.objs f) xs) with
            | none => rw [eo] at q; cases q
            | some ys =>
              rw [eo] at q
              cases q
              obtain ⟨vs, h2, h3⟩ := h1.obj k a _ hk ek
              refine .lst ⟨h2, fun z => ?_⟩ (optAll_cut e (frz_cut h1 f) h3 eo)
              have hnk : ¬ k < S.refs.length := fun z => hl (by simpa [ltD] using z)
              obtain ⟨s1, s2⟩ := nd_split h1 hk
              rcases List.mem_append.mp z with z | z
              · obtain ⟨j, hj⟩ := List.mem_iff_getElem?.mp z
                have hj' : S.refs[j]? = some a := hj
                have hjl := (List.getElem?_eq_some_iff.mp hj').1
                exact hnk (by rw [← s2 j a (ref_ext e.toExt0 hj') rfl]; exact hjl)
              · exact s1 z
          | _ => cases q
      | _ => cases q
end
theorem trunc_out {E : XK} {Q : VK} {m0 : MS} {r : Res D} (h0 : HR R S H m0) (h : RoutG R S H E (PV R Q) (trunc m0 r)) : RoutG R S H E (PV R Q) r := by
  cases r with
  | stuck => exact h
  | ok d m1 =>
    intro H' S1 e h1 v rv
    unfold trunc at h
    dsimp only at h
    by_cases ok : okOld m0 m1
    · rw [if_pos ok] at h
      cases ef : frz m0.objs.length m1.objs 8 d with
      | none => rw [ef] at h; exact h.elim
      | some d' =>
        rw [ef] at h
        rw [← h0.len] at ef
        exact h H' (S1.cut S) e.cut (HR.cut e h0 h1 ok) v (frz_cut e h1 8 v d d' rv ef)
    · rw [if_neg ok] at h
      exact h.elim
  | raise c fs m1 =>
    intro H' S1 C e h1 g
    unfold trunc at h
    dsimp only at h
    by_cases ok : okOld m0 m1 ∧ ltFs m0.objs.length fs = true
    · rw [if_pos ok] at h
      obtain ⟨k1, k2⟩ := h H' (S1.cut S) C e.cut (HR.cut e h0 h1 ok.1) g
      refine ⟨k1, fun f d ef dx v hd hn rv => k2 f d ef dx v hd (fun z => hn (cut_mut e z)) (rv.cut e ?_)⟩
      have := ok.2
      rw [ef, ← h0.len] at this
      simpa [ltFs] using this
    · rw [if_neg ok] at h
      exact h.elim
/-- a def whose own lists are let go -/
noncomputable def bodyT (u : FS) (n : Nat) : List D → M D := fun ds m => trunc m (bodyF u n ds m)
end
end TL
end
section
/-! The data layer: lambdas, caught exceptions. -/
namespace TL
open PySem PySem.Spec PyProof.Rows L2
open LamX (Tabs TabS CodeO codeO_ne TabB LamS lamEnv lamCx lam_start2 inv_table among_app)

/-! ### an object that is there already, tracked from now on -/
section
variable {X : Cx} {pins : List (Addr × Obj)} {σ : L2.St} {H : Hp} {s : Shared} {a : Addr} {o : HO} {ob : Obj}
theorem Inv_track (I : Inv X pins σ H s) (hn : H a = none) (ha : s.heap.get? a = some ob) (hd : ∀ v, ob.data ≠ .cell v) (h0 : X.s_0.heap.get? a = none) (hL : a ≠ X.env.locals) (hp : ∀ p ∈ X.pn ++ pins, p.1 ≠ a)
    (new : ObjOk X.prog X.w (upd H a o) s.heap a o) : Inv X pins σ (upd H a o) s := by
  have ne : ∀ b u, H b = some u → b ≠ a := fun b u e => ne_of_none e hn
  refine ⟨I.ok, I.os, I.bare, ⟨I.base.keep, I.base.slot, fun b u q n hx => ?_, I.base.there, fun b xs q => ?_, fun b u v q => ?_, fun b ps q => ?_⟩, I.loc, I.cell, ?_, fun x c e => ?_, fun p hp' => ?_, fun b u e => ?_, I.len⟩
  · rw [upd_ne (fun z => by rw [z, h0] at q; cases q)]
    exact I.base.free b u q n hx
  · have z := I.base.tups b xs q
    rw [upd_ne (ne b _ z)]
    exact z
  · have z := I.base.frzs b u v q
    rw [upd_ne (ne b _ z)]
    exact z
  · obtain ⟨more, z⟩ := I.base.tbls b ps q
    exact ⟨more, by rw [upd_ne (ne b _ z)]; exact z⟩
  · rw [upd_ne (Ne.symm hL)]
    exact I.free
  · obtain ⟨v, o', e1, e2⟩ := I.cell x c e
    rw [upd_ne fun z => ?_]
    · exact I.freeC x c e
    · rw [z, ha] at e1
      cases e1
      exact hd v e2
  · obtain ⟨e1, e2, e3⟩ := I.pin p hp'
    exact ⟨e1, by rw [upd_ne (hp p hp')]; exact e2, e3⟩
  · by_cases hb : b = a
    · rw [hb, upd_same] at e
      cases e
      rw [hb]
      exact new
    · rw [upd_ne hb] at e
      exact (I.hok b u e).stay (fun c v _ q => q) (fun c q => by rw [upd_ne (ne c _ q)]; exact q) fun c xs q => by rw [upd_ne (ne c _ q)]; exact q
end

/-! ### the heap grew; tables of code objects may have grown -/
theorem HR.grow {R : RC} {S : Sto} {H H1 : Hp} {m : MS} (ro : R.Ok) (hr : HR R S H m) (k : ∀ b o, H b = some o → (∀ ps, o ≠ .tbl ps) → H1 b = some o) (th : ∀ b o, H b = some o → ∃ o', H1 b = some o') (tb : Tabs R.T H1) : Ext S H S H1 ∧ HR R S H1 m := by
  have km : ∀ a ∈ S.mut, H1 a = H a := fun a ha => by
    obtain ⟨o, e, nt⟩ := hr.tracked ha
    rw [e]
    exact k a o e nt.1
  have ex : Ext0 S H S H1 := ⟨⟨[], by simp⟩, fun _ h => h, fun _ h => .inl h, fun b o h _ t => k b o h t, th⟩
  exact ⟨⟨ex, rfl, fun a ha => km a (tmp_mut ha)⟩, hr.nd, hr.len, fun n a u h1 h2 => (hr.obj n a u h1 h2).ext0 ro ex (km a (ref_mut h1)), hr.dr.ext0 ex rfl fun a h => km a (drs_mut h), fun a h => by rw [km a (tmp_mut h)]; exact hr.tm a h, tb⟩

/-! ### a lambda's object -/
structure Lam where
  ps : Arguments
  body : Expr
  scope : Scope
def lamO (q : Str) (l : Lam) (cl : List (Str × Addr)) (f c' : Addr) : HO := .ext fun h => ∃ pm ctv, h.get? f = some (PySem.W.kla_obj "<lambda>" q l.ps l.body l.scope cl pm c' ctv)
theorem lamO_ok {P : Program} {w : World} {H : Hp} {h : Heap} {q : Str} {l : Lam} {cl : List (Str × Addr)} {f c' : Addr} {pm ctv : Value} (e : h.get? f = some (PySem.W.kla_obj "<lambda>" q l.ps l.body l.scope cl pm c' ctv)) : ObjOk P w H h f (lamO q l cl f c') :=
  ⟨⟨pm, ctv, e⟩, ⟨_, e⟩, fun _ _ ⟨pm, ctv, q⟩ k => ⟨pm, ctv, k _ q⟩⟩
theorem lamO_ne {q : Str} {l : Lam} {cl : List (Str × Addr)} {f c' : Addr} (ps : Array Value) : lamO q l cl f c' ≠ .tbl ps := fun z => by
  unfold lamO at z
  cases z
section
variable {X : Cx} {pins : List (Addr × Obj)} {σ : L2.St} {H : Hp} {s : Shared}
/-- the lambda is made, its object tracked -/
theorem lam_makeT {T : List (Addr × Str)} {c P : Addr} {l : Lam} {pos : Pos} {E : Value → Shared → Prop} {Q : Value → Shared → Prop} (I : Inv X pins σ H s) (TB : TabB X.base X.mg c P) (hcode : X.env.code = .ref c)
    (hm : (P, X.env.qual ++ "<lambda>") ∈ T) (hu : ∀ p ∈ T, p.1 = P → p.2 = X.env.qual ++ "<lambda>") (hT : Tabs T H) (hdef : defaultsOf l.ps X.env = ([], [])) (hfree : ∀ y ∈ l.scope.names, y.2 = .free → ∃ c, X.env.cells.lookup y.1 = some c)
    (h : ∀ (f c' : Addr) (H1 : Hp) (s' : Shared), Inv X pins σ H1 s' → (∀ b o, H b = some o → (∀ ps, o ≠ .tbl ps) → H1 b = some o) → (∀ b o, H b = some o → ∃ o', H1 b = some o') → Tabs T H1 → H f = none →
      H1 f = some (lamO (X.env.qual ++ "<lambda>") l (cloFrom X.env.cells l.scope.names []) f c') → H1 c' = some (CodeO c' (X.env.qual ++ "<lambda>")) → Q (.ref f) s') :
    wpAny (model X.prog X.w) X.A (eval (.Lambda l.ps l.body l.scope pos) X.env) Q E s := by
  obtain ⟨ps, hP, ht, ha⟩ := hT _ hm
  refine PySem.W.kla_eval hdef ?_
  have bP : s.heap.BuiltinsAt X.mg P := TB.bm.keeps I.bk
  have hP' : s.heap.get? P = some { cls := .none, data := .fields ps } := I.hok P _ hP
  cases hc : codeAmong pos ps.toList with
  | none =>
    refine PySem.W.kla_makeFunction (mg := X.mg) (c := c) (P := P) (ps := ps) (closure_ok hfree) I.ok.glob (I.mod.glob.keeps I.bk) hcode (TB.code.keeps I.bk) hP' ht hc TB.gP bP fun c' ctv h' tk hx hge hlt hrec htb => ?_
    obtain ⟨c2, oc, vs, t, e2, hoc, hd, hv⟩ := hrec
    cases e2
    have nC : H c' = none := I.hok.fresh hge
    have hsz : s.heap.objs.size ≤ h'.objs.size := Nat.le_trans hge (Nat.le_of_lt hlt)
    have nF : H h'.objs.size = none := I.hok.fresh hsz
    have I1 := inv_table (t' := tk) (more := #[rawInt pos.line, rawInt pos.col, .ref c']) (h' := h') I hP (fun b o hb e => hx b o hb e) htb hge ⟨oc, vs, t, hoc, hd, hv⟩
    generalize hH1 : upd (upd H P (.tbl (ps ++ #[rawInt pos.line, rawInt pos.col, .ref c']))) c' (CodeO c' (X.env.qual ++ "<lambda>")) = H1 at I1
    have hE : ∀ b o, H b = some o → (∀ ps, o ≠ .tbl ps) → H1 b = some o := fun b o e n => by
      rw [← hH1, upd_ne (ne_of_none e nC), upd_ne (fun z => n ps (Option.some.inj (e.symm.trans (by rw [z]; exact hP))))]
      exact e
    have hth : ∀ b o, H b = some o → ∃ o', H1 b = some o' := fun b o e => by
      rw [← hH1]
      by_cases h1 : b = c'
      · exact ⟨_, by rw [h1, upd_same]⟩
      · rw [upd_ne h1]
        by_cases h2 : b = P
        · exact ⟨_, by rw [h2, upd_same]⟩
        · exact ⟨o, by rw [upd_ne h2]; exact e⟩
    have eL : (ps ++ #[rawInt pos.line, rawInt pos.col, .ref c']).toList = ps.toList ++ [rawInt pos.line, rawInt pos.col, .ref c'] := by simp
    have hC1 : H1 c' = some (CodeO c' (X.env.qual ++ "<lambda>")) := by rw [← hH1, upd_same]
    have T1 : Tabs T H1 := fun p hp => by
      by_cases hb : p.1 = P
      · rw [hu p hp hb, hb]
        refine ⟨_, by rw [← hH1, upd_ne (ne_of_none hP nC), upd_same], by rw [eL]; exact PySem.TriplesOk_snoc _ _ _ _ ht, fun p' cv hcv => ?_⟩
        rw [eL] at hcv
        rcases among_app _ ht hcv with z | z
        · obtain ⟨c0, e1, e2⟩ := ha p' cv z
          exact ⟨c0, e1, hE _ _ e2 codeO_ne⟩
        · exact ⟨c', z, hC1⟩
      · obtain ⟨ps', a1, a2, a3⟩ := hT p hp
        refine ⟨ps', by rw [← hH1, upd_ne (ne_of_none a1 nC), upd_ne hb]; exact a1, a2, fun p' cv hcv => ?_⟩
        obtain ⟨c0, e1, e2⟩ := a3 p' cv hcv
        exact ⟨c0, e1, hE _ _ e2 codeO_ne⟩
    have hF1 : H1 h'.objs.size = none := I1.hok.fresh (Nat.le_refl _)
    have I2 := I1.laid (a := h'.objs.size) (o := lamO (X.env.qual ++ "<lambda>") l (cloFrom X.env.cells l.scope.names []) h'.objs.size c') (t' := tk)
      (h' := h'.push (PySem.W.kla_obj "<lambda>" (X.env.qual ++ "<lambda>") l.ps l.body l.scope (cloFrom X.env.cells l.scope.names []) ((X.mg "__name__").getD .none) c' ctv)) (fun b u e => Heap.get?_push_of_some _ e) (Nat.le_refl _) (lamO_ok (Heap.get?_push_size _ rfl))
    refine h h'.objs.size c' _ _ I2 (fun b o e n => ?_) (fun b o e => ?_) (tabs_new T1 hF1) nF upd_same ?_
    · rw [upd_ne (ne_of_none (hE b o e n) hF1)]
      exact hE b o e n
    · obtain ⟨o', e'⟩ := hth b o e
      exact ⟨o', by rw [upd_ne (ne_of_none e' hF1)]; exact e'⟩
    · rw [upd_ne (ne_of_none hC1 hF1)]
      exact hC1
  | some cv =>
    obtain ⟨c', e, hco⟩ := ha pos cv hc
    subst e
    refine PySem.W.kla_makeFunctionHit (mg := X.mg) (c := c) (P := P) (ps := ps) (closure_ok hfree) I.ok.glob (I.mod.glob.keeps I.bk) hcode (TB.code.keeps I.bk) hP' ht hc bP fun ctv h' tk hx hsz => ?_
    have nF : H h'.objs.size = none := I.hok.fresh hsz
    have I2 := I.laid (a := h'.objs.size) (o := lamO (X.env.qual ++ "<lambda>") l (cloFrom X.env.cells l.scope.names []) h'.objs.size c') (t' := tk)
      (h' := h'.push (PySem.W.kla_obj "<lambda>" (X.env.qual ++ "<lambda>") l.ps l.body l.scope (cloFrom X.env.cells l.scope.names []) ((X.mg "__name__").getD .none) c' ctv)) (fun b u e => Heap.get?_push_of_some _ (hx b u e)) hsz (lamO_ok (Heap.get?_push_size _ rfl))
    refine h h'.objs.size c' _ _ I2 (fun b o e n => ?_) (fun b o e => ?_) (tabs_new hT nF) nF upd_same ?_
    · rw [upd_ne (ne_of_none e nF)]
      exact e
    · exact ⟨o, by rw [upd_ne (ne_of_none e nF)]; exact e⟩
    · rw [upd_ne (ne_of_none hco nF)]
      exact hco
end
/-- the closures of the def that runs in X: R tells of them -/
structure CloR (X : Cx) (R : RC) (lams : List Lam) : Prop where
  cq : R.cq = X.env.qual ++ "<lambda>"
  clo : ∀ i f c', R.clo i f c' = (lams[i]?).map fun l => lamO (X.env.qual ++ "<lambda>") l (cloFrom X.env.cells l.scope.names []) f c'
section
variable {X : Cx} {R : RC} {E : XK} {pos : Pos}
theorem de_lam {lams : List Lam} {c P : Addr} {l : Lam} (i : Nat) (cx : CxR X R E) (C : CloR X R lams) (hi : lams[i]? = some l) (TB : TabB X.base X.mg c P) (hcode : X.env.code = .ref c) (hm : (P, X.env.qual ++ "<lambda>") ∈ R.T)
    (hu : ∀ p ∈ R.T, p.1 = P → p.2 = X.env.qual ++ "<lambda>") (L : LamS X.env.scope l.scope) (hdef : defaultsOf l.ps X.env = ([], []) := by rfl) : DE X R E (.Lambda l.ps l.body l.scope pos) (dC (.clo i)) := by
  refine ⟨⟨fun σ H Q => ∃ S m, HR R S H m ∧ ∀ H' S', Ext S H S' H' → HR R S' H' m → ∀ v, Rep R S' H' v (.clo i) → Q v H', ⟨fun pins s σ H Q I h => ?_⟩, fun S σ H ρ m Q hr he h => ⟨S, m, hr, h⟩⟩⟩
  obtain ⟨S, m, hr, h⟩ := h
  refine lam_makeT I TB hcode hm hu hr.tb hdef (L.has I.ok) fun f c' H1 s' I1 k th T1 nf hf hc => ?_
  obtain ⟨e1, r1⟩ := hr.grow cx.ok k th T1
  have nmf : f ∉ S.mut := hr.fresh nf
  have nmc : c' ∉ S.mut := fun z => by
    obtain ⟨o, e, nt⟩ := r1.tracked z
    rw [hc] at e
    cases e
    exact nt.2 c' _ rfl
  refine ⟨.ref f, H1, I1, rfl, h H1 S e1 r1 _ (.clo (c := c') (o := lamO (X.env.qual ++ "<lambda>") l (cloFrom X.env.cells l.scope.names []) f c') ?_ hf nmf ?_ nmc)⟩
  · rw [C.clo, hi]
    rfl
  · rw [C.cq]
    exact hc
end
end TL
end
section
/-! The data layer: a closure called in a def that catches what it raises. -/
namespace TL
open PySem PySem.Spec PyProof.Rows L2
open LamX (Tabs TabS CodeO codeO_ne TabB LamS lamEnv lamCx lam_start2)

/-- an exception object of the class cls with the dict d, at a -/
def ExT (cls : Value) (d : Option Addr) (a : Addr) : HO := .ext fun h => ∃ (oe : Obj) (vs : Array Value), h.get? a = some oe ∧ Zc cls d oe ∧ oe.data = .fields vs
theorem exT_ok {P : Program} {w : World} {H : Hp} {h : Heap} {a : Addr} {cls : Value} {d : Option Addr} {oe : Obj} {vs : Array Value} (e : h.get? a = some oe) (z : Zc cls d oe) (hd : oe.data = .fields vs) : ObjOk P w H h a (ExT cls d a) :=
  ⟨⟨oe, vs, e, z, hd⟩, ⟨oe, e⟩, fun _ _ ⟨o, v, q, r⟩ k => ⟨o, v, k o q, r⟩⟩
theorem exT_ne {cls : Value} {d : Option Addr} {a : Addr} (ps : Array Value) : ExT cls d a ≠ .tbl ps := fun z => by
  unfold ExT at z
  cases z

/-! ### x() in the def that got the closure -/
section
variable {X : Cx} {pins : List (Addr × Obj)} {σ : L2.St} {H HZ : Hp} {s s1 : Shared}
theorem pe_actT {CXg : CXT} {Eg : XK} {Ng : List Str} {qg : Str} {sg : Scope} {g f c' : Addr} {cdg : Value} {l : Lam} {k i : Nat} {a : Str} {pn : List (Addr × Obj)} {xe : Value → Shared → Prop} {W : WX} {E : XK} {tb : TE} {p1 p2 : Pos}
    (I : Inv X pins σ H s) (L : LamS X.env.scope l.scope)
    (hbind : ∀ (pm ctv : Value), bindArgs (PySem.W.kla_fn "<lambda>" (X.env.qual ++ "<lambda>") l.ps l.body l.scope (cloFrom X.env.cells l.scope.names []) pm (.ref c') ctv) ⟨[], []⟩ = pure [])
    (tk : Takes ((cxOf CXg X.prog X.w X.K X.mg X.base Ng qg sg g cdg X.A X.stack s H Eg).tr pn xe) W) (hW : ∀ cls d σ' H', E cls d H' → W cls d σ' H') (hr : Room (k + 1) (X.A.deeper (envOfC qg sg s.heap.objs.size g cdg)))
    (hbody : ∀ (A : Around) (outer : List Env) (s : Shared) (H : Hp), Room k (A.deeper (lamEnv X l.scope s.heap.objs.size f c')) → PE (lamCx X A outer s H E l.scope f c') l.body tb)
    (hN : Ng[i]? = some a) (hv : Vis sg a) (hd : (a == ("__debug__" : Str)) = false := by decide) (hcd : (a == ("__classdict__" : Str)) = false := by decide) :
    PE ((cxOf CXg X.prog X.w X.K X.mg X.base Ng qg sg g cdg X.A X.stack s H Eg).tr pn xe) (.Call (.Name a p1) [] [] p2)
      (fun σZ HZ Q => σZ[i]? = some (some (.ref f)) ∧ HZ f = some (lamO (X.env.qual ++ "<lambda>") l (cloFrom X.env.cells l.scope.names []) f c') ∧ HZ c' = some (CodeO c' (X.env.qual ++ "<lambda>")) ∧ tb σ HZ Q) := by
  refine ⟨fun pinsZ sZ σZ HZ Q IZ h => ?_⟩
  obtain ⟨hs, hf, hc, ht⟩ := h
  refine wpAny_Call_Name_kw (thn ((pe_var (pos := p1) (i := i) hN hv hd hcd).run pinsZ sZ σZ HZ (fun v H1 => v = .ref f ∧ H1 = HZ) IZ ⟨.ref f, hs, rfl, rfl⟩) fun u s1 ⟨v, H1, I1, r1, q1⟩ => ?_)
  obtain ⟨ev, eH⟩ := q1
  subst ev
  rw [eH] at I1
  obtain rfl : u = Value.ref f := r1
  obtain ⟨⟨pm, ctv, of1⟩, _, _⟩ := I1.hok f _ hf
  refine PySem.W.callWith_F0 ⟨_, _, _, _, of1⟩ ?_
  have un : Un (frs X.stack) [] H HZ s.heap s1.heap := I1.base
  obtain ⟨⟨oc, vs, t, hoc, hdc, hvc⟩, _, _⟩ := I1.hok c' _ hc
  have rc : codeAny (model X.prog X.w) (X.A.deeper (envOfC qg sg s.heap.objs.size g cdg)) (.call (.ref f) ⟨[], []⟩) (CR (L2.CX X.prog X.w) (envOfC qg sg s.heap.objs.size g cdg :: X.stack) X.prog X.w HZ s1 Q E) s1 := by
    refine PySem.W.kla_callFunE hr.depth of1 rfl L.co L.gen rfl ⟨c', oc, vs, t, rfl, hoc, hdc, hvc⟩ ?_
    rw [hbind pm ctv]
    refine wpAny_pure (wpAny_newFunctionEnv (fun y hy => (L.own y hy).2) (fun y hy => absurd hy (by simp)) (fun h₁ hns hsb => ⟨I1.nolimit.fresh _ hsb, ?_⟩) L.kind)
    show codeAny _ _ (.expr l.body (lamEnv X l.scope s1.heap.objs.size f c')) _ _
    have kp : ∀ b o, s1.heap.get? b = some o → h₁.get? b = some o := fun b o e => hsb.extBut b o (Nat.ne_of_lt (Heap.lt_size e)) (Heap.get?_push_of_some _ e)
    have J : Inv (lamCx X (X.A.deeper (envOfC qg sg s.heap.objs.size g cdg)) (envOfC qg sg s.heap.objs.size g cdg :: X.stack) s1 HZ E l.scope f c') [] σ HZ { s1 with heap := h₁, toks := s1.toks + ([] : List (Str × Value)).length } :=
      lam_start2 I L I1.env0 hr.hd un hns kp
    refine PySem.W.kla_codeExpr (wpAny_mono ((hbody _ _ s1 HZ (hr.deeper _)).run [] _ _ HZ Q J ht) (fun v s' hq => ?_) fun e s' hq => hq)
    obtain ⟨w', H', J', rv, q⟩ := hq
    exact ⟨w', H', J'.os, J'.bare, J'.base, J'.hok, rv, q⟩
  have hx : Passes (L2.CX X.prog X.w) ((cxOf CXg X.prog X.w X.K X.mg X.base Ng qg sg g cdg X.A X.stack s H Eg).tr pn xe) E := passes_call tk hW
  refine wpAny_call (codeAny_mono rc fun r s' hq => ?_)
  cases r with
  | error e => exact hx pinsZ σZ HZ s1 e s' I1 hq
  | ok fl =>
    cases fl with
    | ret u => exact I1.after hq
    | next => exact False.elim hq
    | brk => exact False.elim hq
    | cont => exact False.elim hq
end

/-! ### try: .. except x as n: keeps = n -/
section
variable {X : Cx} {x n fnd : Str} {c : Value} {i j : Nat} {body : List Stmt} {np p1 p2 p3 pos pos' : Pos} {tb : WX → TS}
/-- the wish: the class is the clause's; the object is kept in the slot j -/
def wKeep (K : PySem.W.Frag) (c : Value) (i j n : Nat) (D : Ends) : WX := fun cls d σ H => PySem.W.exmOne K cls c = some true ∧ ∀ a, H a = none → σ.length = n → D.nx (((σ.set i (some (.ref a))).set j (some (.ref a))).set i none) (upd H a (ExT cls d a))
theorem ps_tryK (hs : X.stack = X.env :: X.outer) (hf : X.env.frame = some X.env.locals) (hN : X.N.Nodup) (hi : X.N[i]? = some n) (hj : X.N[j]? = some fnd) (hiN : i < X.N.length) (hln : X.env.kindOf n = some .local) (hlf : X.env.kindOf fnd = some .local) (hc : Names X x c) (hst : X.ex = [])
    (hb : ∀ (W : WX) (pn : List (Addr × Obj)) (xe : Value → Shared → Prop), Takes (X.tr pn xe) W → PassesOwn (model X.prog X.w) X.A X.env xe → PSs (X.tr pn xe) body (tb W))
    (hsw : ∀ (A : Around) (pn : List (Addr × Obj)), swapsWith (.Name n p2) (some (.Name fnd p1)) p3.line X.env = pure false) (hd1 : (n == ("__debug__" : Str)) = false) (hd2 : (n == ("__classdict__" : Str)) = false) :
    PS X (.Try body [.ExceptHandler (some (.Name x np)) (some n) [.Assign [.Name fnd p1] (.Name n p2) p3] pos'] [] [] pos) (fun D σ H => tb (wKeep X.K c i j X.N.length D) D σ H) := by
  refine ⟨fun pins s σ H D I h => ?_⟩
  have ok := I.ok
  have hfr : X.A.frames = some (X.env :: X.outer) := by rw [ok.frames, hs]
  have hloc : Loc X.env.scope n := .inl hln
  refine wpAny_Try_except ?_
  refine wpAny_mono ((hb (wKeep X.K c i j X.N.length D) (X.pn ++ pins) (fun e s₁ => wpAny (model X.prog X.w) X.A (noteFrame e X.env) (fun _ s₂ => wpAny (model X.prog X.w) X.A (setFlight e none) (fun _ s₃ =>
    wpAny (model X.prog X.w) X.A (handleBy e X.env [.ExceptHandler (some (.Name x np)) (some n) [.Assign [.Name fnd p1] (.Name n p2) p3] pos']) (SP X pins D) X.xe s₃) X.xe s₂) X.xe s₁) (fun u s' xx => ?_) PassesOwn.looking).run [] s σ H D (I.toTry _) h) (fun f s1 hsp => ?_) (fun e s1 he => he)
  · -- caught
    obtain ⟨a, B, sI, pins', σ', H', cls, d, rfl, J', nb, up, sky, na, os, ag, hb1, hyes⟩ := xx
    have J : Inv X pins σ' H' sI := J'.ofTry ok
    have sky' : Sky B (X.env :: X.outer) a (Zc cls d) X.env.locals s'.heap := by rw [← hs]; exact sky
    show wpAny (model X.prog X.w) X.A (noteFrame (.ref a) X.env) _ _ _
    refine Sky.land Zc.steady hfr hf sky' fun h3 fl3 up3 => ?_
    have J3 : Inv X pins σ' H' { s' with heap := h3 } := J.landed nb fl3.1 (up.trans up3) os ag
    obtain ⟨oe3, vs3, he3, hz3, hd3⟩ := fl3.there
    have notFr : ∀ {h : Heap} {o : Obj} {vs : Array Value}, h.FunFrames B (X.env :: X.outer) → h.get? a = some o → o.data = .fields vs → a ∉ frs (X.env :: X.outer) := fun {h o vs} ff e dd hm => by
      obtain ⟨_, o', e', hnf⟩ := ff.mem hm
      rw [e] at e'
      cases e'
      exact hnf _ dd
    have nfr := notFr fl3.2.2.1 he3 hd3
    have nL : a ≠ X.env.locals := fun z => nfr (List.mem_filterMap.mpr ⟨X.env, List.mem_cons_self, by rw [hf, z]⟩)
    have nF : a ∉ X.fs := fun hm => by
      obtain ⟨e, he, q⟩ := List.mem_filterMap.mp hm
      exact nfr (List.mem_filterMap.mpr ⟨e, List.mem_cons_of_mem _ he, q⟩)
    have nB : B.get? a = none := fl3.2.1
    -- what stood ahead of the exception isn't the exception
    have old : ∀ b o, sI.heap.get? b = some o → b ≠ a := fun b o e z => by
      subst z
      have q := nb b o e (by rw [hs]; exact nfr)
      rw [nB] at q
      cases q
    have n0 : X.s_0.heap.get? a = none := by
      cases e : X.s_0.heap.get? a with
      | none => rfl
      | some o =>
        obtain ⟨o', q⟩ := J.base.there a o e (by rw [hst]; simp)
        exact absurd rfl (old a o' q)
    have np' : ∀ p ∈ X.pn ++ pins, p.1 ≠ a := fun p hp => old p.1 p.2 (J.pin p hp).1
    have S3 := J3.suite he3 hd3 na nL nF
    refine wpAny_handleBy_cons (codeAny_handlers_test ?_) (by intro q; cases q)
    have LT : PySem.W.Looks (model X.prog X.w) h3 (typeOf (.ref a)) cls := fun A Q E s k q => wpAny_typeOf_ref (k _ _ he3) (by rw [hz3.1]; exact q)
    have LM := PySem.W.exm_one (M := model X.prog X.w) (J3.kIn) LT hb1
    have test : ∀ {Q : Value → Shared → Prop} {E : Value → Shared → Prop}, Q c { s' with heap := h3 } → wpAny (model X.prog X.w) (X.A.mark (some (.ref a))) (eval (.Name x np) X.env) Q E { s' with heap := h3 } := fun {Q E} q => by
      obtain ⟨hg, hdbg, hm | ⟨hm, hv, hnn⟩⟩ := hc
      · exact ld_glob (X := X.suite a ((a, oe3) :: (X.pn ++ pins))) S3 hg hm q hdbg
      · exact ld_blt (X := X.suite a ((a, oe3) :: (X.pn ++ pins))) S3 hg hm hv q hnn hdbg
    refine test (LM.here ?_)
    refine codeAny_handlers_suite_as ?_
    refine HandSPX.lands_againZ fl3 fun h4 fl4 up4 => ?_
    have J4 : Inv X pins σ' H' { s' with heap := h4 } := J.landed nb fl4.1 ((up.trans up3).trans up4) os ag
    obtain ⟨oe4, vs4, he4, hz4, hd4⟩ := fl4.there
    have S4 := J4.suite he4 hd4 na nL nF
    refine store_ok (X := X.suite a ((a, oe4) :: (X.pn ++ pins))) (v := .ref a) S4 hN hi hloc rfl (fun s5 S5 => ?_) (.inr hln)
    have hsu : PSs (X.suite a ((a, oe4) :: (X.pn ++ pins))) [.Assign [.Name fnd p1] (.Name n p2) p3] (tAsg (tVar i) (gName j)) :=
      pss_one (ps_set hN hj (.inl hlf) (pe_var hi (.inl hln) hd1 hd2) (hsw X.A []) (.inr hlf))
    have hlen : σ'.length = X.N.length := J.len
    have hget : (σ'.set i (some (V.ref a)))[i]? = some (some (V.ref a)) := List.getElem?_set_self (by rw [hlen]; exact hiN)
    refine wpAny_mono (hsu.run [] s5 _ H' { nx := fun σ6 H6 => H6 = H' ∧ σ6 = (σ'.set i (some (.ref a))).set j (some (.ref a)), rt := fun _ _ => False } S5 ⟨.ref a, hget, rfl, rfl⟩) (fun f s6 hsp => ?_) (fun _ _ z => False.elim z)
    cases f with
    | ret u => obtain ⟨_, _, _, _, _, z⟩ := hsp; exact z.elim
    | brk => obtain ⟨_, _, _, z⟩ := hsp; exact z.elim
    | cont => obtain ⟨_, _, _, z⟩ := hsp; exact z.elim
    | next =>
      obtain ⟨σ6, H6, S6, e1, e2⟩ := hsp
      subst e1
      subst e2
      -- tracked from now on
      have ha6 : s6.heap.get? a = some oe4 := (S6.pin (a, oe4) (List.mem_append_left _ List.mem_cons_self)).1
      have U6 := S6.unsuite ok
      have U7 : Inv X pins _ (upd H6 a (ExT cls d a)) s6 := Inv_track U6 na ha6 (fun v z => by rw [hd4] at z; cases z) n0 nL np' (exT_ok ha6 hz4 hd4)
      exact gone_ok U7 hN hi hln fun s7 J7 => ⟨_, _, J7, hyes a na hlen⟩
  · cases f with
    | next =>
      obtain ⟨σ', H', J', q⟩ := hsp
      exact wpAny_execs_nil ⟨σ', H', J'.ofTry ok, q⟩
    | brk =>
      obtain ⟨σ', H', J', q⟩ := hsp
      exact ⟨σ', H', J'.ofTry ok, q⟩
    | cont =>
      obtain ⟨σ', H', J', q⟩ := hsp
      exact ⟨σ', H', J'.ofTry ok, q⟩
    | ret u =>
      obtain ⟨v, σ', H', J', r, q⟩ := hsp
      exact ⟨v, σ', H', J'.ofTry ok, r, q⟩
end
/-! ### `_law_caught` -/
/-- what a catch makes of an outcome -/
def caughtR (teach : Str → Bool) : Res D → Res D
  | .ok _ m => .ok .non m
  | .raise c fs m => if teach c then .ok (.exn c fs) m else .stuck
  | .stuck => .stuck
def dCaught (teach : Str → Bool) (bs : List FE) (fa : FE) : FE := fun ρ => M.bind (fa ρ) fun d m => match d with
  | .clo i => (match bs[i]? with | some b => caughtR teach (b ρ m) | none => .stuck)
  | _ => .stuck
/-- the wish -/
def Ec (K : PySem.W.Frag) (CT : Addr) (Q : VK) : XK := fun cls d H' => PySem.W.exmOne K cls (.ref CT) = some true ∧ ∀ a, H' a = none → Q (.ref a) (upd H' a (ExT cls d a))
theorem cxr_lam {X : Cx} {R : RC} {E E' : XK} {sc : Scope} {A : Around} {outer : List Env} {s : Shared} {H : Hp} {f c' : Addr} {k : Nat} (B : Bs X.prog X.w X.base R) (cx : CxR X R E) (L : LamS X.env.scope sc) (hk : 40 ≤ k) (hr : Room k (A.deeper (lamEnv X sc s.heap.objs.size f c'))) :
    CxR (lamCx X A outer s H E' sc f c') R E' where
  K := cx.K
  mg := cx.mg
  ok := cx.ok
  tk := takes_of rfl rfl rfl rfl
  po := passes_of rfl
  pyl := fun s' hf hl hb => PylongRoom.of hl (by have := hr.dp; show (A.deeper (lamEnv X sc s.heap.objs.size f c')).depth + 100 < _; omega) (SeerAt.of (B.seer.keeps hb) B.tree hf L.gen L.co rfl rfl)
  un := by have := hr.un; show (A.deeper (lamEnv X sc s.heap.objs.size f c')).units + 65 < _; omega
  calm := rfl
  nd := cx.nd
section
variable {X : Cx} {R : RC} {E : XK}
/-- what a def `_law_caught` is -/
structure CatchF (R : RC) (g : Addr) (CT : Addr) (st : Stmt) (teach : Str → Bool) : Prop where
  fn : ∃ fd, Fun R.K "_law_caught" "_law_caught" st g fd ∧ Binds R.K fd [("action" : Str)] []
  mg : R.mg "_law_caught" = some (.ref g)
  sc : FnScope ([("action" : Str), "found", "error"]) [("action" : Str)] (defScope st)
  bd : ∃ p1 p2 p3 p4 p5 p6 p7 p8 p9 p10 p11 p12 p13 p14 j, defBody st = [.Assign [.Name "found" p1] (.Constant .none j p2) p3, .Try [.Expr (.Call (.Name "action" p4) [] [] p5) p6] [.ExceptHandler (some (.Name "TeachError" p7)) (some "error") [.Assign [.Name "found" p8] (.Name "error" p9) p10] p11] [] [] p12, .Return (some (.Name "found" p13)) p14]
  lc : (defScope st).names.lookup ("action" : Str) = some .local ∧ (defScope st).names.lookup ("found" : Str) = some .local ∧ (defScope st).names.lookup ("error" : Str) = some .local ∧ (defScope st).names.lookup ("TeachError" : Str) = some .globalImplicit
  te : R.mg "TeachError" = some (.ref CT)
  ex : ∀ c C, teach c = true → R.mg c = some (.ref C) → PySem.W.exmOne R.K (.ref C) (.ref CT) = some true
  eo : ∀ C d a, R.exo C d a = ExT (.ref C) d a
theorem sw_name {n y : Str} {p1 p2 : Pos} {l : Nat} {env : Env} : swapsWith (.Name n p2) (some (.Name y p1)) l env = pure false := rfl
theorem de_caught {lams : List Lam} {bs : List FE} {g CT : Addr} {st : Stmt} {teach : Str → Bool} {j : Nat} {arg : Expr} {fa : FE} {p pos : Pos} (B : Bs X.prog X.w X.base R) (cx : CxR X R E) (C : CloR X R lams) (CF : CatchF R g CT st teach) (hj : 40 ≤ j) (hr : Room (j + 2) X.A) (hg : Gl X "_law_caught")
    (hbody : ∀ (i : Nat) (l : Lam) (fb : FE), lams[i]? = some l → bs[i]? = some fb → LamS X.env.scope l.scope ∧ (∀ (q : Str) (cl : List (Str × Addr)) (pm cv ctv : Value), bindArgs (PySem.W.kla_fn "<lambda>" q l.ps l.body l.scope cl pm cv ctv) ⟨[], []⟩ = pure []) ∧
      ∀ (A : Around) (outer : List Env) (s : Shared) (H : Hp) (E' : XK) (f c' : Addr), Room j (A.deeper (lamEnv X l.scope s.heap.objs.size f c')) → CxR (lamCx X A outer s H E' l.scope f c') R E' → DE (lamCx X A outer s H E' l.scope f c') R E' l.body fb)
    (ha : DE X R E arg fa) (he : starEach [arg] X.env = (false, eval arg X.env) :: starEach [] X.env := by rfl) (hpl : (backTo pos (starEach [] X.env)).any (·.1) = false := by rfl) :
    DE X R E (.Call (.Name "_law_caught" p) [arg] [] pos) (dCaught teach bs fa) := by
  obtain ⟨ta, a1, a2⟩ := ha.ex
  obtain ⟨fd, Fu, hb⟩ := CF.fn
  have K := cx.K
  have G := cx.mg
  refine ⟨⟨fun σ H Q => ta σ H fun x H1 => ∃ (i : Nat) (l : Lam) (fb : FE) (f c' : Addr) (S : Sto) (m : MS) (ρ : Env'), lams[i]? = some l ∧ bs[i]? = some fb ∧ x = .ref f ∧ H1 f = some (lamO (X.env.qual ++ "<lambda>") l (cloFrom X.env.cells l.scope.names []) f c') ∧ H1 c' = some (CodeO c' (X.env.qual ++ "<lambda>")) ∧ HR R S H1 m ∧ ER R S H1 σ ρ ∧
      RoutG R S H1 (Ec R.K CT Q) (PV R fun _ H2 => Q .non H2) (fb ρ m), ⟨fun pins s σ H Q I h => ?_⟩, fun S σ H ρ m Q hr' he' h => a2 S σ H ρ m _ hr' he' (h.step fun d m1 H1 S1 e1 r1 q v rv => ?_)⟩⟩
  · refine wpAny_Call_Name_kw (ld_glob I hg (by rw [G]; exact CF.mg) ?_ (by decide))
    refine PySem.W.callWith_K (h₀ := X.base) I.ok.mod.kin (by rw [K]; exact Fu.kp) ?_ he hpl
    rw [he]
    show wpAny _ _ (spliced ((false, eval arg X.env) :: backTo pos (starEach [] X.env))) _ _ s
    refine Calls.spliced_cons (thn (a1.run pins s σ H _ I h) fun u s1 ⟨x, H1, I1, rx, i, l, fb, f, c', S, m, ρ, hl, hfb, ex, hf, hc, hr1, he1, hq⟩ => ?_)
    subst ex
    obtain rfl : u = Value.ref f := rx
    refine Calls.spliced_nil ⟨I1.kIn, ?_⟩
    obtain ⟨L, hbind, hdb⟩ := hbody i l fb hl hfb
    obtain ⟨oc, od, kV, doc, pm, an, cdv, ct, osl, rfl, lk, hcd⟩ := Fu.ex
    -- the lambda's body, once for all entries
    obtain ⟨tb, t1, t2⟩ := DE.all (ι := { q : Around × List Env × Shared × Hp // Room j (q.1.deeper (lamEnv X l.scope q.2.2.1.heap.objs.size f c')) }) (Xs := fun q => lamCx X q.1.1 q.1.2.1 q.1.2.2.1 q.1.2.2.2 (Ec R.K CT Q) l.scope f c') fun q =>
      hdb q.1.1 q.1.2.1 q.1.2.2.1 q.1.2.2.2 (Ec R.K CT Q) f c' q.2 (cxr_lam B cx L hj q.2)
    have hq' := t2 S σ H1 ρ m _ hr1 he1 hq
    have rc : codeAny (model X.prog X.w) X.A (.call (.ref g) ⟨[.ref f], []⟩) (CR C8.CX0 X.stack X.prog X.w H1 s1 Q C8.E0) s1 := by
      refine LamX.run_ofS (N := ([("action" : Str), "found", "error"])) (ps := [("action" : Str)]) (us := [.ref f]) (vs := [.ref f]) (K := X.K) (mg := X.mg) (by rw [K]; exact lk) (by rw [K]; exact hcd) CF.sc hr I1.env0 (hb s1 [.ref f] (by rw [← K]; exact I1.kIn) rfl) (.cons rfl .nil) rfl fun hr' => ?_
      obtain ⟨p1, p2, p3, p4, p5, p6, p7, p8, p9, p10, p11, p12, p13, p14, jj, hbd⟩ := CF.bd
      obtain ⟨lc1, lc2, lc3, lc4⟩ := CF.lc
      rw [hbd]
      generalize hZ : (cxOf C8.CX0 X.prog X.w X.K X.mg X.base ([("action" : Str), "found", "error"]) "_law_caught" (defScope st) g cdv X.A X.stack s1 H1 C8.E0) = Z
      have zN : Z.N = ([("action" : Str), "found", "error"]) := by rw [← hZ]; rfl
      have zS : Z.env.scope = defScope st := by rw [← hZ]; rfl
      have v1 : Z.env.scope.names.lookup ("found" : Str) = some .local := by rw [zS]; exact lc2
      have v2 : Z.env.scope.names.lookup ("error" : Str) = some .local := by rw [zS]; exact lc3
      have n1 : Z.N[1]? = some ("found" : Str) := by rw [zN]; rfl
      have n2 : Z.N[2]? = some ("error" : Str) := by rw [zN]; rfl
      have nd : Z.N.Nodup := by rw [zN]; exact CF.sc.nd
      have act : ∀ (W : WX) (pn : List (Addr × Obj)) (xe : Value → Shared → Prop), Takes (Z.nox.tr pn xe) W → (∀ cls d σ' H', Ec R.K CT Q cls d H' → W cls d σ' H') →
          PE (Z.nox.tr pn xe) (.Call (.Name "action" p4) [] [] p5) (fun σZ HZ Q => σZ[0]? = some (some (.ref f)) ∧ HZ f = some (lamO (X.env.qual ++ "<lambda>") l (cloFrom X.env.cells l.scope.names []) f c') ∧ HZ c' = some (CodeO c' (X.env.qual ++ "<lambda>")) ∧ tb σ HZ Q) := fun W pn xe tk hW => by
        subst hZ
        exact pe_actT (CXg := C8.CX0) (Eg := C8.E0) (Ng := ([("action" : Str), "found", "error"])) (i := 0) I1 L (fun pm ctv => hbind _ _ _ _ _) tk hW hr' (fun A outer s H hr2 => t1 ⟨(A, outer, s, H), hr2⟩) rfl (.inl lc1) (by decide) (by decide)
      have tryS := ps_tryK (X := Z.nox) (x := "TeachError") (n := "error") (fnd := "found") (c := .ref CT) (i := 2) (j := 1) (np := p7) (p1 := p8) (p2 := p9) (p3 := p10) (pos := p12) (pos' := p11) (body := [.Expr (.Call (.Name "action" p4) [] [] p5) p6])
        (tb := fun W D σZ HZ => (∀ cls d σ' H', Ec R.K CT Q cls d H' → W cls d σ' H') ∧ σZ[0]? = some (some (.ref f)) ∧ HZ f = some (lamO (X.env.qual ++ "<lambda>") l (cloFrom X.env.cells l.scope.names []) f c') ∧ HZ c' = some (CodeO c' (X.env.qual ++ "<lambda>")) ∧ tb σ HZ (fun _ H2 => D.nx σZ H2))
        (by rw [← hZ]; rfl) (by rw [← hZ]; rfl) nd n2 n1 (by show 2 < Z.N.length; rw [zN]; decide) v2 v1 ⟨by show Z.env.scope.names.lookup ("TeachError" : Str) = some .globalImplicit; rw [zS]; exact lc4, by decide, .inl (by show Z.mg "TeachError" = _; rw [← hZ]; show X.mg "TeachError" = _; rw [G]; exact CF.te)⟩ (by rw [← hZ]; rfl)
        (fun W pn xe tk _ => ⟨fun pinsZ s' σZ HZ D IZ h' => by
          obtain ⟨hW, h1, h2, h3, h4⟩ := h'
          exact (pss_one (ps_expr (act W pn xe tk hW))).run pinsZ s' σZ HZ D IZ ⟨h1, h2, h3, h4⟩⟩)
        (fun _ _ => rfl) (by decide) (by decide)
      refine ⟨_, (pss_cons (ps_set (X := Z.nox) (i := 1) nd n1 (.inl v1) pe_non rfl (.inr v1)) (pss_cons tryS (pss_one (ps_ret (pe_var (X := Z.nox) (i := 1) n1 (.inl v1) (by decide) (by decide)))))).nox, ?_⟩
      refine ⟨fun cls d σ' H' hE => ?_, rfl, hf, hc, ?_⟩
      · have K' : Z.nox.K = R.K := by rw [← hZ]; exact K
        refine ⟨by rw [K']; exact hE.1, fun a hna hl => ⟨.ref a, ?_, hE.2 a hna⟩⟩
        have hl3 : σ'.length = 3 := by rw [hl]; show Z.N.length = 3; rw [zN]; rfl
        rw [List.getElem?_set_ne (by decide), List.getElem?_set_self (by rw [List.length_set, hl3]; decide)]
      · exact t2 S σ H1 ρ m _ hr1 he1 (hq.mono fun d m2 H2 S2 e2 r2 q v rv => ⟨.non, rfl, q v rv⟩)
    refine wpAny_call (codeAny_mono rc fun r s2 hq2 => ?_)
    cases r with
    | error e => exact (show False from hq2).elim
    | ok fl =>
      cases fl with
      | ret u => exact I1.after hq2
      | next => exact False.elim hq2
      | brk => exact False.elim hq2
      | cont => exact False.elim hq2
  · cases d with
    | clo i =>
      dsimp only at q
      cases rv with
      | @clo i f c' o h1 h2 h3 h4 h5 =>
        rw [C.clo] at h1
        cases el : lams[i]? with
        | none => rw [el] at h1; cases h1
        | some l =>
          rw [el] at h1
          cases h1
          cases eb : bs[i]? with
          | none => rw [eb] at q; exact q.elim
          | some fb =>
            rw [eb] at q
            dsimp only at q
            refine ⟨i, l, fb, f, c', S1, m1, ρ, el, eb, rfl, h2, by rw [← C.cq]; exact h4, r1, he'.ext cx.ok e1, ?_⟩
            cases er : fb ρ m1 with
            | stuck => rw [er] at q; exact q.elim
            | ok d2 m2 =>
              rw [er] at q
              exact fun H' S' e2 r2 v _ => q H' S' e2 r2 _ .non
            | raise c fs m2 =>
              rw [er] at q
              unfold caughtR at q
              dsimp only at q
              by_cases ht : teach c = true
              · rw [if_pos ht] at q
                intro H' S' Cc e2 r2 gC
                have hex := CF.ex c Cc ht gC
                refine ⟨fun efs => ⟨hex, fun a na => ?_⟩, fun f d efs dx v hd hn rv2 => ⟨hex, fun a na => ?_⟩⟩
                · subst efs
                  have ex := Ext.newObj (o := ExT (.ref Cc) none a) r2 na
                  exact q _ S' (e2.trans ex) (r2.newObj cx.ok na) _ (.exn gC (by rw [upd_same, CF.eo]) (r2.fresh na))
                · subst efs
                  have ex := Ext.newObj (o := ExT (.ref Cc) (some dx) a) r2 na
                  exact q _ S' (e2.trans ex) (r2.newObj cx.ok na) _ (.exnd gC (by rw [upd_same, CF.eo]) (r2.fresh na) (by rw [upd_ne (ne_of_none hd na)]; exact hd) hn (rv2.ext cx.ok ex))
              · rw [if_neg ht] at q
                exact q.elim
    | _ => exact q.elim
end
end TL
end
section
/-! The data layer: exceptions raised; classes whose __init__ says super().__init__(x) and keeps x in a field. -/
namespace TL
open PySem PySem.Spec PyProof.Rows L2
open PySem.W (findIn subIn typeIn keepIn mroIn clsIn nsIn alongIn looks_clsIn looks_mroIn looks_subIn looks_findIn bind_fn looks_opaque InstAt)

/-! ### __init__ that says super().__init__(x); self.f = x -/
/-- self, x at the entry: an exception that is being made; behind: with the field -/
def spSI (C : Addr) (f : Str) : Sp := fun vs H Q _ => ∃ a y, vs = [.ref a, y] ∧ H a = some (exo a C none) ∧ ∀ dx, H dx = none → dx ≠ a → Q .non (upd (upd H dx (exd dx [(f, y)])) a (exo a C (some dx)))
/-- what the written part says -/
structure SI (P : Program) (K : PySem.W.Frag) (C fI cc cda : Addr) (p f : Str) (fd : FuncData) : Prop where
  ox : OexC K C
  cv : ∃ cd, clsIn K C = some cd ∧ cd.hasDict = true ∧ PySem.HandSPX.refsVE cd.mro = true ∧ alongIn K "__init__" ((cd.mro.dropWhile (· != .ref C)).drop 1) = some (some (.builtin "ValueError.__init__"))
  no : findIn K (.ref C) f = some none
  subV : subIn K (.ref C) (.type "ValueError") = some true
  subC : mroIn K C (.ref C) = some true
  op : nsIn K cStatics "thirdparty.any" = some none
  sup : nsIn K mainGlobals "super" = some none
  fn : ∃ oc od osl, K.lookup fI = some ⟨oc, od, .func fd, osl⟩
  cell : ∃ cl cld csl, K.lookup cc = some ⟨cl, cld, .cell (some (.ref C)), csl⟩
  code : ∃ ccl cdd vs ccs file tf, K.lookup cda = some ⟨ccl, cdd, .fields vs, ccs⟩ ∧ vs[2]? = some (.str file tf) ∧ ((P.main.file : Str) == file) = true
  hcd : PySem.W.codeIn K fd.code fd.qualname = true
  fcode : fd.code = .ref cda
  top : (P.main.scope.names.lookup ("super" : Str)).isSome = false
  clo : fd.closure = [(("__class__" : Str), cc)]
  gl : fd.globals = mainGlobals
  bl : fd.builtins = builtinsNs
  sc : fd.scope.kind = .function ∧ fd.scope.isCoroutine = false ∧ fd.scope.isGenerator = false ∧ (∀ x ∈ fd.scope.names, x.2 ≠ .cell)
  ks : fd.scope.names.lookup ("super" : Str) = some .globalImplicit ∧ fd.scope.names.lookup ("__class__" : Str) = some .free ∧ fd.scope.names.lookup ("self" : Str) = some .local ∧ fd.scope.names.lookup p = some .local
  hd : ∃ ar, (fd.params.posonlyargs ++ fd.params.args).head? = some ar ∧ ar.arg = ("self" : Str)
  ps : p ≠ ("self" : Str)
  pd : (p == ("__debug__" : Str)) = false
  body : ∃ p1 p2 p3 p4 p5 p6 p7 p8 p9 p10, fd.body = .stmts [.Expr (.Call (.Attribute (.Call (.Name "super" p1) [] [] p2) "__init__" p3) [.Name p p4] [] p5) p6, .Assign [.Attribute (.Name "self" p7) f p8] (.Name p p9) p10] ∧
    (∀ env : Env, ∃ pl : Sem Bool, eval (.Call (.Attribute (.Call (.Name "super" p1) [] [] p2) "__init__" p3) [.Name p p4] [] p5) env = (do
      let ov ← attributeBase (.Call (.Name "super" p1) [] [] p2) "__init__" env (eval (.Call (.Name "super" p1) [] [] p2) env)
      standAt p3.atName
      let (f, first) ← holding [ov] (getMethod ov "__init__" pl)
      callWith p5 f first (backTo p5 (starEach [.Name p p4] env)) [])) ∧
    ∀ env : Env, swapsWith (.Name p p9) (some (.Attribute (.Name "self" p7) f p8)) p10.line env = pure false
theorem fn_superinit {P : Program} {w : World} {K : PySem.W.Frag} {mg : Str → Option Value} {base : Heap} {CX : CXT} {C fI cc cda : Addr} {p f : Str} {fd : FuncData} (T : SI P K C fI cc cda p f fd) : FnOk P w K mg base CX 1 fI fd [("self" : Str), p] (spSI C f) := by
  refine ⟨fun vs H Q E ⟨a, y, e, _⟩ => by rw [e]; rfl, fun A outer s H args us vs Q E hr e0 hb rv hsp => ?_⟩
  obtain ⟨a, y, rfl, hea, hq⟩ := hsp
  cases rv with
  | @cons _ u0 _ ur ra rr =>
    cases rr with
    | @cons _ u _ ur2 ry rn =>
      cases rn
      obtain rfl : u0 = Value.ref a := ra
      obtain ⟨cd, hcd, hdct, hve, hal⟩ := T.cv
      obtain ⟨oc, od, osl, hfI⟩ := T.fn
      obtain ⟨cl, cld, csl, hcell⟩ := T.cell
      obtain ⟨ccl, cdd, cvs, ccs, file, tf, hcode, hvs, hfile⟩ := T.code
      obtain ⟨sk, sco, sg, scl⟩ := T.sc
      obtain ⟨k1, k2, k3, k4⟩ := T.ks
      obtain ⟨ar, hh1, hh2⟩ := T.hd
      obtain ⟨p1, p2, p3, p4, p5, p6, p7, p8, p9, p10, hbd, hev, hsw2⟩ := T.body
      have hev := hev
      have KX : K.In s.heap := e0.mod.kin.keeps fun b o e => (e0.bs b o e).1
      have lim : s.heap.NoLimit := e0.mod.nolimit.keeps fun b o e => (e0.bs b o e).1
      have glb : s.heap.Ns mainGlobals mg := e0.mod.glob.keeps fun b o e => (e0.bs b o e).1
      obtain ⟨mb, hmb, hbb⟩ := e0.mod.blt
      have hmb : s.heap.Ns builtinsNs mb := hmb.keeps fun b o e => (e0.bs b o e).1
      obtain ⟨t1, hexo⟩ := exo_at e0.hok hea
      obtain ⟨hp, g, d, tk, os⟩ := s
      refine ks_codeAny_call_defAt (hr.depth) (KX _ _ hfI) rfl lim (PySem.W.codeRec_of KX T.hcd) hbd hb scl (fun x hx => ?_) (fun h₀ hns kp => ?_) sco sg sk
      · have hx' : x = (("self" : Str), Value.ref a) ∨ x = (p, u) := by simpa using hx
        rcases hx' with e | e
        · rw [e]; exact k3
        · rw [e]; exact k4
      change PySem.wpAt _ (A.deeper (callEnv fd hp.objs.size fI)) (.func _ (callEnv fd hp.objs.size fI)) (execs _ (callEnv fd hp.objs.size fI)) _ _ _
      obtain ⟨L, hL⟩ : ∃ L, hp.objs.size = L := ⟨_, rfl⟩
      have hns : h₀.Ns L (fun x => ([("self" : Str), p].zip [Value.ref a, u]).reverse.lookup x) := by rw [← hL]; exact hns
      have vSelf : (fun x => ([("self" : Str), p].zip [Value.ref a, u]).reverse.lookup x) ("self" : Str) = some (.ref a) := by
        show List.lookup ("self" : Str) [(p, u), (("self" : Str), Value.ref a)] = _
        have : (("self" : Str) == p) = false := by simpa using Ne.symm T.ps
        simp [List.lookup_cons, this]
      have vP : (fun x => ([("self" : Str), p].zip [Value.ref a, u]).reverse.lookup x) p = some u := by
        show List.lookup p [(p, u), (("self" : Str), Value.ref a)] = _
        simp [List.lookup_cons]
      generalize hm : (fun x => ([("self" : Str), p].zip [Value.ref a, u]).reverse.lookup x) = m at hns vSelf vP
      generalize henv : callEnv fd hp.objs.size fI = env
      have eL : env.locals = L := by rw [← henv, ← hL]; rfl
      have eS : env.scope = fd.scope := by rw [← henv]; rfl
      have eF : env.func = some fI := by rw [← henv]; rfl
      have eC : env.code = .ref cda := by rw [← henv]; exact T.fcode
      have eG : env.globals = mainGlobals := by rw [← henv]; exact T.gl
      have eB : env.builtins = builtinsNs := by rw [← henv]; exact T.bl
      have eCl : env.cells = [(("__class__" : Str), cc)] := by rw [← henv]; exact T.clo
      have kS : env.kindOf "super" = some .globalImplicit := by unfold Env.kindOf; rw [eS]; exact k1
      have kC : env.kindOf "__class__" = some .free := by unfold Env.kindOf; rw [eS]; exact k2
      have kSelf : env.kindOf "self" = some .local := by unfold Env.kindOf; rw [eS]; exact k3
      have kP : env.kindOf p = some .local := by unfold Env.kindOf; rw [eS]; exact k4
      have ek : env.scope.kind = .function := by rw [eS]; exact sk
      have hi : interactive env = false := by simp [interactive, ek]
      have X0 : K.In h₀ := KX.keeps kp
      have G0 : h₀.Ns env.globals mg := by rw [eG]; exact glb.keeps kp
      have N0 : h₀.Ns env.locals m := by rw [eL]; exact hns
      have B0 : h₀.Ns env.builtins mb := by rw [eB]; exact hmb.keeps kp
      have x0 : h₀.get? a = some (PySem.HandSPX.excO C t1) := kp _ _ hexo
      have I0 : InstAt h₀ a (PySem.HandSPX.excO C t1) C none := ⟨x0, rfl, rfl, trivial⟩
      have aL : a ≠ L := fun z => by
        have := Heap.lt_size hexo
        rw [z, ← hL] at this
        exact Nat.lt_irrefl _ this
      have hAlt : a < hp.objs.size := Heap.lt_size hexo
      have hsw : swapsWith (.Call (.Attribute (.Call (.Name "super" p1) [] [] p2) "__init__" p3) [.Name p p4] [] p5) none p6.line env = pure false := rfl
      obtain ⟨pl, hpl⟩ := hev env
      refine ks_wpAt_execs_cons (ks_wpAt_Expr_any (ks_wpAt_MethodCall (ks_wpAt_super_base kS kC (by decide) eF (X0 _ _ hfI) rfl hh1 eC (X0 _ _ hcode) rfl hvs hfile T.top ?_) hpl) hi hsw)
      refine PySem.W.ks_loadName_global ek kS (Calls.loadGlobal_builtin G0 (PySem.W.mg_none_of X0 (glb.keeps kp) T.sup) B0 ((hbb _ (by decide +kernel)).trans (by decide +kernel)) ⟨rfl, ?_⟩)
      refine wpAny_loadName_free ek kC (by rw [eCl]; rfl) ⟨_, X0 _ _ hcell, rfl⟩ ?_
      rw [hh2]
      refine wpAny_loadName_local ek kSelf N0 vSelf ?_
      obtain ⟨oD, hD1, hD2⟩ : ∃ oD, h₀.get? C = some oD ∧ oD.data = .cls cd := by
        have z := hcd
        unfold clsIn at z
        split at z
        · rename_i c' d' cd' sl ho
          cases z
          exact ⟨_, X0 _ _ ho, rfl⟩
        · cases z
      refine ks_wpAny_isType_cls hD1 hD2 ⟨rfl, ?_⟩
      refine ks_wpAny_call_super hD1 hD2 x0 rfl (fun c e => by cases e) (looks_mroIn X0 T.subC) fun h1 hso kp1 => ?_
      have X1 : K.In h1 := X0.keeps kp1
      have I1 : InstAt h1 a (PySem.HandSPX.excO C t1) C none := ⟨kp1 _ _ x0, rfl, rfl, trivial⟩
      refine PySem.W.kxs_getMethod PySem.W.kxs_ValueError hso (looks_opaque X1 T.op) (l₀ := cd.mro) (fun A Q E s k q => wpAny_bind ((looks_clsIn X1 hcd) A _ E s k (wpAny_pure q))) rfl X1 hal (I1.type.andThen (looks_subIn X1 T.subV)) (PySem.W.ks_ne X1 I1 hcd) (by decide) ?_
      -- the wrapper called
      generalize hu : h1.objs.size = um
      have hmw : (h1.push (PySem.W.kxs_mw "ValueError.__init__" a)).get? um = some (PySem.W.kxs_mw "ValueError.__init__" a) := by rw [← hu]; exact Heap.get?_push_size _ rfl
      have kp2 : ∀ b o, h₀.get? b = some o → (h1.push (PySem.W.kxs_mw "ValueError.__init__" a)).get? b = some o := fun b o e => Heap.get?_push_of_some _ (kp1 b o e)
      generalize hh2' : h1.push (PySem.W.kxs_mw "ValueError.__init__" a) = h2 at hmw kp2
      show wpAny _ _ (callWith p5 (.ref um) [] (backTo p5 (starEach [.Name p p4] env)) []) _ _ _
      have he1 : starEach [.Name p p4] env = [(false, eval (.Name p p4) env)] := rfl
      rw [he1]
      have N2 : h2.Ns env.locals m := N0.keeps kp2
      refine PySem.W.kxs_callWith (i := "ValueError.__init__") (x := a) rfl (PySem.Calls.evalArgs_plain (Calls.spliced_cons (wpAny_Name (wpAny_loadName_local ek kP N2 vP ?_) T.pd)))
      refine Calls.spliced_nil ⟨hmw, ?_⟩
      obtain ⟨nm, q, Nn, bs, bm, sn, sub, ab, col, dd, k0, kk1, kk2, kk3, kk5, hC, hbm⟩ := T.ox.cls
      refine wpAny_call (codeAny_of_tree ?_)
      show wpAny _ _ (callAny (.ref um) ⟨[u], []⟩) _ _ _
      simp only [callAny]
      refine wpAny_bind (wpAny_load hmw ?_)
      simp only [PySem.W.kxs_mw, show (Value.type "method-wrapper" == Value.type "method" || Value.type "method-wrapper" == Value.type "builtin_function_or_method" || Value.type "method-wrapper" == Value.type "method-wrapper") = true by decide, if_true]
      refine PySem.W.KFB.if_so (by decide) ?_
      refine wpAny_bind (PySem.W.check_bound_init PySem.F.excBase_ValueError.toExcCallFacts ((KX.keeps fun b o e => kp2 b o (kp b o e)) _ _ hC) (kp2 _ _ x0) rfl ?_)
      refine wpAny_bind (wpAny_pure (wpAny_pure ?_))
      refine ⟨plainId_quiet PySem.F.excBase_ValueError.init.plain _, codeAny_builtin PySem.F.excBase_ValueError.initEntry ?_⟩
      refine PySem.W.exc_init_tree (cls := .ref C) (t0 := t1) (dv := none) (c2 := .none) (c3 := .none) (b4 := .bool false) (kp2 _ _ x0) (by show 1 ≤ sizeLine; decide) fun h3 kp3 e3 _ => ?_
      -- self.f = x
      have up3 : ∀ b o, b ≠ a → hp.get? b = some o → h3.get? b = some o := fun b o hb e => kp3 b o hb (kp2 b o (kp b o e))
      have n0 : ∀ b o, base.get? b = some o → b ≠ a := fun b o e z => by
        have := (e0.bs b o e).2
        rw [z, hea] at this
        cases this
      have X3 : K.In h3 := e0.mod.kin.keeps fun b o e => up3 b o (n0 b o e) (e0.bs b o e).1
      have N3 : h3.Ns env.locals m := by
        obtain ⟨oL, es, ep, hoL, r⟩ := N2
        exact ⟨oL, es, ep, kp3 _ _ (by rw [eL]; exact Ne.symm aL) hoL, r⟩
      refine ks_wpAt_execs_cons (ks_wpAt_Assign_Attr (PySem.wpAt_of_wpAny (wpAny_Name (wpAny_loadName_local ek kP N3 vP ?_) T.pd)) (hsw2 env))
      refine wpAny_Name (wpAny_loadName_local ek kSelf N3 vSelf ?_) (by decide)
      refine PySem.W.set_plain X3 (ox := { cls := .ref C, dict := none, data := .fields #[.ref h2.objs.size, .none, .none, .none, .bool false, .none] }) (od := none) ⟨e3, rfl, rfl, trivial⟩ T.ox.sa ?_
      refine PySem.HandSPX.exc_osa X3 e3 hcd hve hdct T.no fun h4 tk4 dx kp4 hdx hne e4 hn4 => ?_
      -- the end
      show PySem.wpAt _ _ _ (execs [] env) _ _ _
      refine PySem.wpAt_of_wpAny (wpAny_execs_nil ?_)
      show CR CX outer P w H ⟨hp, g, d, tk, os⟩ Q E (.ok (.ret .none)) ⟨h4, g, d, tk4, os⟩
      have hle : hp.objs.size ≤ h3.objs.size := by
        rcases Nat.lt_or_ge h3.objs.size hp.objs.size with z | z
        · exfalso
          cases ee : hp.get? h3.objs.size with
          | some o =>
            by_cases hb : h3.objs.size = a
            · exact absurd (Heap.lt_size e3) (by rw [hb]; exact Nat.lt_irrefl _)
            · exact absurd (Heap.lt_size (up3 _ _ hb ee)) (Nat.lt_irrefl _)
          | none =>
            have hL3 : h3.get? L ≠ none := fun q => by
              obtain ⟨oL, es, ep, hoL, r⟩ := N3
              rw [eL, q] at hoL
              cases hoL
            cases qq : h3.get? L with
            | none => exact hL3 qq
            | some o =>
              have := Heap.lt_size qq
              rw [← hL] at this
              exact absurd (Nat.lt_trans this z) (Nat.lt_irrefl _)
        · exact z
      have up4 : ∀ b o, b ≠ a → hp.get? b = some o → h4.get? b = some o := fun b o hb e => kp4 b o hb (up3 b o hb e)
      have ndx : H dx = none := e0.hok.fresh (Nat.le_trans hle hdx)
      have nd : ∀ {b : Addr} {o : Obj}, hp.get? b = some o → b ≠ dx := fun {b o} q => Nat.ne_of_lt (Nat.lt_of_lt_of_le (Heap.lt_size q) (Nat.le_trans hle hdx))
      have na : ∀ {b : Addr}, H b = none → b ≠ a := fun {b} n z => by
        rw [z, hea] at n
        cases n
      refine ⟨.non, _, rfl, e0.bare, ?_, fun b o q => ?_, rfl, hq dx ndx hne⟩
      · exact {
          keep := fun b o q n _ _ => up4 b o (na n) q
          slot := fun b o q n _ _ => ⟨o.slots, up4 b o (na n) q⟩
          free := fun b o q n _ => by rw [upd_ne (na n), upd_ne (nd q)]; exact n
          there := fun b o q _ => by
            by_cases hb : b = a
            · exact ⟨_, by rw [hb]; exact e4⟩
            · exact ⟨o, up4 b o hb q⟩
          tups := fun b xs q => by rw [upd_ne (at_ne hea q exo_tup), upd_ne (ne_of_none q ndx)]; exact q
          frzs := fun b o v q => by rw [upd_ne (at_ne hea q exo_frz), upd_ne (ne_of_none q ndx)]; exact q
          tbls := fun b ps q => ⟨#[], by rw [upd_ne (at_ne hea q exo_tbl), upd_ne (ne_of_none q ndx), q]; simp⟩ }
      · by_cases hb : b = a
        · subst hb
          rw [upd_same] at q
          cases q
          exact exo_ok e4
        · rw [upd_ne hb] at q
          by_cases hd : b = dx
          · subst hd
            rw [upd_same] at q
            cases q
            exact exd_ok hn4 (relO_put (fs := []) ry fun g => True.intro)
          · rw [upd_ne hd] at q
            exact (e0.hok b o q).stay (fun c v hc z => up4 c v (by
                rcases hc with hc | hc
                · rw [hc]
                  exact hb
                · exact at_ne hea hc exo_own) z)
              (fun c hc => by rw [upd_ne (at_ne hea hc exo_own), upd_ne (ne_of_none hc ndx)]; exact hc) (fun c xs hc => by rw [upd_ne (at_ne hea hc exo_tup), upd_ne (ne_of_none hc ndx)]; exact hc)
end TL
end
section
/-! The data layer: raise of own classes; isinstance and fields of caught exceptions. -/
namespace TL
open PySem PySem.Spec PyProof.Rows L2
section
variable {X : Cx} {R : RC} {E : XK}
/-! ### raise C(e), C without own __init__ -/
def sRaise (c : Str) (f : FE) : FS := fun ρ => M.bind (f ρ) fun _ m => .raise c [] m
theorem ds_raise {C : Addr} {bmB : List Value} {B newId initId : String} {x : Str} {e : Expr} {f : FE} {p pos pos2 : Pos} (cx : CxR X R E) (F : ExcBaseFacts B newId initId bmB) (q : PySem.W.excIn R.K C bmB newId = true) (gC : R.mg x = some (.ref C)) (kC : PySem.W.keepIn R.K (.ref C) = true)
    (h1 : PySem.W.subIn R.K (.ref C) (.type "BaseException") = some true) (h2 : PySem.W.typeIn R.K (.ref C) = some (.type "type")) (hg : Gl X x)
    (he : DE X R E e f) (hs : starEach [e] X.env = (false, eval e X.env) :: starEach [] X.env := by rfl) (hdb : (x == ("__debug__" : Str)) = false := by decide) :
    DS X R E (.Raise (some (.Call (.Name x p) [e] [] pos)) none pos2) (sRaise x f) := by
  obtain ⟨t, a1, a2⟩ := he.ex
  refine ⟨⟨_, ps_raise cx.calm cx.tk (SkE.pmk_own1 F (by rw [cx.K]; exact q) (by rw [cx.mg]; exact gC) (by rw [cx.K]; exact kC) (raises_own (by rw [cx.K]; exact h1) (by rw [cx.K]; exact h2)) hg a1 hs hdb), fun S σ H ρ m Z hr he' h => a2 S σ H ρ m _ hr he' (h.step fun d m1 H1 S1 e1 r1 q v rv => ?_)⟩⟩
  exact (q H1 S1 C (Ext.refl _ _) r1 gC).1 rfl
/-! ### raise C(e), C's __init__ keeping e in the field f -/
def sRaiseF (c fld : Str) (f : FE) : FS := fun ρ => M.bind (f ρ) fun d m => .raise c [(fld, d)] m
theorem ds_raiseF {C fI cc cda : Addr} {pn fld : Str} {fd : FuncData} {x : Str} {k : Nat} {e : Expr} {f : FE} {p pos pos2 : Pos} (cx : CxR X R E) (T : SI X.prog R.K C fI cc cda pn fld fd)
    (iC : PySem.W.findIn R.K (.ref C) "__init__" = some (some (.ref fI))) (tI : PySem.W.typeIn R.K (.ref fI) = some (.type "function")) (hb : Binds R.K fd [("self" : Str), pn] []) (hr : Room (k + 2) X.A) (gC : R.mg x = some (.ref C)) (hg : Gl X x)
    (he : DE X R E e f) (hs : starEach [e] X.env = (false, eval e X.env) :: starEach [] X.env := by rfl) (hdb : (x == ("__debug__" : Str)) = false := by decide) :
    DS X R E (.Raise (some (.Call (.Name x p) [e] [] pos)) none pos2) (sRaiseF x fld f) := by
  obtain ⟨t, a1, a2⟩ := he.ex
  have TO := T.ox
  rw [← cx.K] at TO
  refine ⟨⟨_, ps_raise cx.calm cx.tk (pmk_oex (CX := C8.CX0) (k := 1) TO (by rw [cx.K]; exact iC) (by rw [cx.K]; exact tI) (by rw [cx.K]; exact fn_superinit T) (hr.mono (by omega)) (by rw [cx.K]; exact hb) .nil C8.pass0 hg (by rw [cx.mg]; exact gC) (pa_cons a1 pa_nil hs) hdb hs), fun S σ H ρ m Z hr' he' h => a2 S σ H ρ m _ hr' he' (h.step fun d m1 H1 S1 e1 r1 q v rv => ?_)⟩⟩
  refine ⟨by simp, fun a na => ⟨a, v, rfl, upd_same, fun dx hd hne => ⟨rfl, dx, [(fld, v)], upd_same, by rw [upd_ne hne, upd_same], by rw [upd_ne hne] at hd; exact hd, ?_⟩⟩⟩
  have hd1 : H1 dx = none := by rw [upd_ne hne] at hd; exact hd
  have eH : upd (del (upd (upd (upd H1 a (exo a C none)) dx (exd dx [(fld, v)])) a (exo a C (some dx))) a) dx (.xd [(fld, v)]) = upd H1 dx (.xd [(fld, v)]) := by
    funext b
    by_cases hb : b = dx
    · rw [hb, upd_same, upd_same]
    · rw [upd_ne hb, upd_ne hb]
      by_cases ha : b = a
      · rw [ha, del_same, na]
      · rw [del_ne ha, upd_ne ha, upd_ne hb, upd_ne ha]
  rw [eH]
  have ex := Ext.newObj (o := HO.xd [(fld, v)]) r1 hd1
  exact (q _ S1 C ex (r1.newObj cx.ok hd1) gC).2 fld d rfl dx v upd_same (r1.fresh hd1) (rv.ext cx.ok ex)
/-! ### isinstance of a caught exception -/
structure XkC (K : PySem.W.Frag) (C : Addr) : Prop where
  cl : (PySem.W.clsIn K C).isSome = true
  ga : PySem.W.findIn K (.ref C) "__getattribute__" = some (some (.builtin "BaseException.__getattribute__"))
  gt : PySem.W.findIn K (.ref C) "__getattr__" = some none
  sub : PySem.W.subIn K (.ref C) (.type "BaseException") = some true
  ca : PySem.W.findIn K (.ref C) "__class__" = some (some (.builtin "object.__class__"))
  nn : PySem.W.specialIn K (.builtin "object.__class__") "__get__" = some (some (.builtin "getset_descriptor.__get__"))
  tk : PySem.W.takesIn K (.builtin "object.__class__") = some true
  mro : PySem.W.mroIn K C (.type "object") = some true
/-- at a: an exception of the class at C -/
def AtX (H : Hp) (a C : Addr) : Prop := ∃ d : Option Addr, H a = some (ExT (.ref C) d a) ∧ ∀ dx, d = some dx → ∃ fs, H dx = some (.xd fs)
theorem AtX.inst {pins : List (Addr × Obj)} {σ : L2.St} {H : Hp} {s : Shared} {a C : Addr} (I : Inv X pins σ H s) (h : AtX H a C) : ∃ ox od, PySem.W.InstAt s.heap a ox C od ∧ ∀ d, H a = some (ExT (.ref C) (some d) a) → ox.dict = some d := by
  obtain ⟨d, h1, h2⟩ := h
  obtain ⟨⟨oe, vs, e1, e2, e3⟩, _, _⟩ := (show ObjOk X.prog X.w H s.heap a (ExT (.ref C) d a) from I.hok a _ h1)
  cases d with
  | none => exact ⟨oe, none, ⟨e1, e2.1, by unfold PySem.W.notCls; rw [e3] <;> rfl, by rw [e2.2]; trivial⟩, fun d' q => by
      rw [h1] at q
      have := HO.ext.inj (Option.some.inj q)
      have w : (fun h : Heap => ∃ (oe : Obj) (vs : Array Value), h.get? a = some oe ∧ Zc (.ref C) none oe ∧ oe.data = .fields vs) s.heap := ⟨oe, vs, e1, e2, e3⟩
      rw [this] at w
      obtain ⟨oe', vs', e1', e2', e3'⟩ := w
      rw [e1] at e1'
      cases e1'
      exact e2'.2⟩
  | some dx =>
    obtain ⟨fs, hx⟩ := h2 dx rfl
    obtain ⟨mA, hns, hr⟩ := (show ObjOk X.prog X.w H s.heap dx (.xd fs) from I.hok dx _ hx)
    obtain ⟨od, ho, hl⟩ := lookIn_ns hns
    exact ⟨oe, some od, ⟨e1, e2.1, by unfold PySem.W.notCls; rw [e3] <;> rfl, by rw [e2.2]; exact ho⟩, fun d' q => by
      rw [h1] at q
      have := HO.ext.inj (Option.some.inj q)
      have w : (fun h : Heap => ∃ (oe : Obj) (vs : Array Value), h.get? a = some oe ∧ Zc (.ref C) (some dx) oe ∧ oe.data = .fields vs) s.heap := ⟨oe, vs, e1, e2, e3⟩
      rw [this] at w
      obtain ⟨oe', vs', e1', e2', e3'⟩ := w
      rw [e1] at e1'
      cases e1'
      exact e2'.2⟩
def rIsX (K : PySem.W.Frag) (xs : List V) (H : Hp) (Q : VK) : Prop := ∃ a C c b, xs = [.ref a, .ref c] ∧ AtX H a C ∧ XkC K C ∧ PySem.W.kitOne K (.ref C) (.ref c) = some b ∧ Q (.bl b) H
theorem call_isiX : CallR X (.builtin "isinstance") (rIsX X.K) := by
  intro pins s σ H xs us Q I r h
  obtain ⟨a, C, c, b, rfl, hA, T, e, q⟩ := h
  obtain ⟨u1, u2, rfl, r1, r2⟩ := vals2 r
  cases (show u1 = Value.ref a from r1)
  cases (show u2 = Value.ref c from r2)
  obtain ⟨ox, od, J, _⟩ := hA.inst I
  exact PySem.W.kia_one (PySem.W.kitx_exc T.cl T.ga T.gt T.sub T.ca T.nn T.tk T.mro) I.kIn J e (by intro z; cases z) fun tk => ⟨.bl b, H, I.tok tk, rfl, q⟩
def isiX (sb : Str → Str → Option Bool) (d c : D) : M D := match d, c with
  | .exn k _, .fn k' => fun m => (match sb k k' with | some b => .ok (.bl b) m | none => .stuck)
  | d, c => isiD d c
/-- what the written part says of the exception classes -/
structure XsR (R : RC) (sb : Str → Str → Option Bool) : Prop where
  kit : ∀ k k' C C' b, sb k k' = some b → R.mg k = some (.ref C) → R.mg k' = some (.ref C') → PySem.W.kitOne R.K (.ref C) (.ref C') = some b
  xk : ∀ k k' C b, sb k k' = some b → R.mg k = some (.ref C) → XkC R.K C
  eo : ∀ C d a, R.exo C d a = ExT (.ref C) d a
theorem call_isi_x {sb : Str → Str → Option Bool} (cx : CxR X R E) (T : XsR R sb) : CallD X R E (.builtin "isinstance") (arg2 (isiX sb)) := by
  obtain ⟨r0, c1, c2⟩ := call_isi_d cx
  refine ⟨_, CallR.or c1 call_isiX, fun S H m xs ds Q hr r h => ?_⟩
  rcases xs_cases : ds with _ | ⟨d, _ | ⟨c, _ | _⟩⟩
  · subst xs_cases; exact h.elim
  · subst xs_cases; exact h.elim
  · subst xs_cases
    by_cases hd : ∃ k fs k', d = .exn k fs ∧ c = .fn k'
    · obtain ⟨k, fs, k', rfl, rfl⟩ := hd
      obtain ⟨v, u, rfl, rv, ru⟩ := repAll2 r
      change RoutG R S H E (PV R Q) ((match sb k k' with | some b => (.ok (.bl b) m : Res D) | none => .stuck)) at h
      cases e : sb k k' with
      | none => rw [e] at h; exact h.elim
      | some b =>
        rw [e] at h
        cases ru with
        | @fn _ c gc =>
          refine .inr ?_
          rw [cx.K]
          cases rv with
          | @exn a C _ g1 g2 g3 => exact ⟨a, C, c, b, rfl, ⟨none, by rw [← T.eo]; exact g2, fun dx z => by cases z⟩, T.xk _ _ _ _ e g1, T.kit _ _ _ _ _ e g1 gc, h.now hr _ (.bl b)⟩
          | @exnd a C dx _ f v d g1 g2 g3 g4 g5 g6 => exact ⟨a, C, c, b, rfl, ⟨some dx, by rw [← T.eo]; exact g2, fun dx' z => by cases z; exact ⟨_, g4⟩⟩, T.xk _ _ _ _ e g1, T.kit _ _ _ _ _ e g1 gc, h.now hr _ (.bl b)⟩
    · have e : isiX sb d c = isiD d c := by
        unfold isiX
        split
        · exact (hd ⟨_, _, _, rfl, rfl⟩).elim
        · rfl
      exact .inl (c2 S H m xs _ Q hr r (by show RoutG R S H E (PV R Q) (isiD d c m); rw [← e]; exact h))
  · subst xs_cases; exact h.elim
/-! ### a field of a caught exception -/
def fldX (ok : Str → Bool) (n : Str) (d : D) : M D := match d with
  | .exn c [(g, v)] => if g = n ∧ ok c = true then M.pure v else fun _ => .stuck
  | _ => fun _ => .stuck
def dFld (ok : Str → Bool) (n : Str) (f : FE) : FE := fun ρ => M.bind (f ρ) (fldX ok n)
theorem de_fld {ok : Str → Bool} {e : Expr} {f : FE} {n : Str} {pos : Pos} (cx : CxR X R E) (hx : ∀ c C, ok c = true → R.mg c = some (.ref C) → XfC R.K C ∧ PySem.W.findIn R.K (.ref C) n = some none) (eo : ∀ C d a, R.exo C d a = ExT (.ref C) d a)
    (he : DE X R E e f) (hb : attributeBase e n X.env (eval e X.env) = eval e X.env := by rfl) : DE X R E (.Attribute e n pos) (dFld ok n f) := by
  obtain ⟨te, a1, a2⟩ := he.ex
  refine ⟨⟨fun σ H Q => te σ H fun x H1 => ∃ a C dx fs v, x = .ref a ∧ H1 a = some (ExT (.ref C) (some dx) a) ∧ XfC X.K C ∧ PySem.W.findIn X.K (.ref C) n = some none ∧ H1 dx = some (.xd fs) ∧ fs.lookup n = some v ∧ Q v H1, ⟨fun pins s σ H Q I h => ?_⟩, fun S σ H ρ m Q hr he' h => a2 S σ H ρ m _ hr he' (h.step fun d m1 H1 S1 e1 r1 q v rv => ?_)⟩⟩
  · refine attr_of hb (thn (a1.run pins s σ H _ I h) fun u s1 hh => ?_)
    obtain ⟨x, H1, I1, rx, a, C, dx, fs, v, rfl, ha, T, hno, hd, l, q⟩ := hh
    obtain rfl : u = Value.ref a := rx
    obtain ⟨ox, od, J, hdict⟩ := AtX.inst I1 (a := a) (C := C) ⟨some dx, ha, fun dx' z => by cases z; exact ⟨_, hd⟩⟩
    obtain ⟨mA, hns, hr⟩ := (show ObjOk X.prog X.w H1 s1.heap dx (.xd fs) from I1.hok dx _ hd)
    obtain ⟨od', ho, hl⟩ := lookIn_ns hns
    obtain ⟨w, hu, ru⟩ := RelO.some_of (v := v) (o := mA n) (by rw [← l]; exact hr n)
    have J' : PySem.W.InstAt s1.heap a ox C (some od') := by
      obtain ⟨j1, j2, j3, j4⟩ := J
      exact ⟨j1, j2, j3, by rw [hdict _ ha]; exact ho⟩
    exact HandSPX.exc_get I1.kIn J' T.ga T.gg T.exC (PySem.W.findObj_own T.hdC hno rfl (by rw [hl, hu])) (handed_of ru) ⟨v, H1, I1.tok _, ru, q⟩
  · unfold fldX at q
    split at q
    · rename_i c g w
      split at q
      · rename_i hc
        obtain ⟨rfl, hok⟩ := hc
        cases rv with
        | @exnd a C dx _ f v d g1 g2 g3 g4 g5 g6 =>
          obtain ⟨k1, k2⟩ := hx _ _ hok g1
          exact ⟨a, C, dx, _, v, rfl, by rw [← eo]; exact g2, by rw [cx.K]; exact k1, by rw [cx.K]; exact k2, g4, by simp, (RoutG.now (E := E) (P := PV R Q) q r1) _ g6⟩
      · exact q.elim
    · exact q.elim
end
end TL
end
section
/-! The data layer: a def that makes lambdas. Its closures are told of inside alone. -/
namespace TL
open PySem PySem.Spec PyProof.Rows L2
/-- R with these closures -/
def RC.wth (R : RC) (clo : Nat → Addr → Addr → Option HO) (cq : Str) : RC := { R with clo := clo, cq := cq }
mutual
/-- no closure in it -/
def nc : D → Bool
  | .tup xs => ncAll xs
  | .lst xs => ncAll xs
  | .dct kvs => ncKV kvs
  | .clo _ => false
  | .exn _ fs => ncFs fs
  | _ => true
def ncAll : List D → Bool
  | [] => true
  | x :: xs => nc x && ncAll xs
def ncKV : List (Key × D) → Bool
  | [] => true
  | (_, x) :: xs => nc x && ncKV xs
def ncFs : List (Str × D) → Bool
  | [] => true
  | (_, x) :: xs => nc x && ncFs xs
end
def ncMO : MO → Bool
  | .lst xs => ncAll xs
  | .dct kvs => ncKV kvs
  | .ins _ fs => ncFs fs
def ncMS (m : MS) : Bool := m.objs.all ncMO
section
variable {R R' : RC} {S S' : Sto} {H H' : Hp}
theorem ncAll_zip : ∀ (ks : List Key) (ds : List D), ks.length = ds.length → ncKV (ks.zip ds) = ncAll ds
  | [], [], _ => rfl
  | [], _ :: _, h => by cases h
  | _ :: _, [], h => by cases h
  | k :: ks, d :: ds, h => by
    simp only [List.zip_cons_cons, ncKV, ncAll]
    rw [ncAll_zip ks ds (by simpa using h)]
theorem ncKV_map : ∀ kvs : List (Key × D), ncKV kvs = ncAll (kvs.map (·.2))
  | [] => rfl
  | (k, d) :: r => by simp [ncKV, ncAll, ncKV_map r]
theorem ncFs_map : ∀ kvs : List (Str × D), ncFs kvs = ncAll (kvs.map (·.2))
  | [] => rfl
  | (k, d) :: r => by simp [ncFs, ncAll, ncFs_map r]
/-- but for closures the two say the same -/
structure Alk (R R' : RC) : Prop where
  K : R'.K = R.K
  mg : R'.mg = R.mg
  exo : R'.exo = R.exo
  T : R'.T = R.T
theorem Alk.wth {clo : Nat → Addr → Addr → Option HO} {cq : Str} : Alk R (R.wth clo cq) := ⟨rfl, rfl, rfl, rfl⟩
theorem Alk.symm (h : Alk R R') : Alk R' R := ⟨h.K.symm, h.mg.symm, h.exo.symm, h.T.symm⟩
theorem TupAt.alk (A : Alk R R') {a : Addr} {vs : List V} (h : TupAt R S H a vs) : TupAt R' S H a vs := by
  unfold TupAt at *
  rw [A.K]
  exact h
mutual
theorem Rep.alk (A : Alk R R') : ∀ {v : V} {d : D}, Rep R S H v d → (nc d = true ∨ ∀ i f c, R.clo i f c = none) → Rep R' S H v d
  | _, _, .non, _ => .non
  | _, _, .bl b, _ => .bl b
  | _, _, .int i, _ => .int i
  | _, _, .str x, _ => .str x
  | _, _, .tup h r, q => .tup (h.alk A) (RepAll.alk A r (q.imp (fun z => by simpa [nc] using z) _root_.id))
  | _, _, .lst h r, q => .lst h (RepAll.alk A r (q.imp (fun z => by simpa [nc] using z) _root_.id))
  | _, _, .dct h n l r, q => .dct h n l (RepAll.alk A r (q.imp (fun z => by unfold nc at z; rw [ncAll_zip _ _ (l.trans r.length)] at z; exact z) _root_.id))
  | _, _, .scr h n, _ => .scr h n
  | _, _, .ref h, q => .ref h
  | _, _, .drw h, _ => .drw h
  | _, _, .drg h, _ => .drg h
  | _, _, .fn h, _ => .fn (by rw [A.mg]; exact h)
  | _, _, .ty n, _ => .ty n
  | _, _, .clo h k n q m, z => by
    rcases z with z | z
    · cases z
    · rw [z] at h
      cases h
  | _, _, .exn h k n, _ => .exn (by rw [A.mg]; exact h) (by rw [A.exo]; exact k) n
  | _, _, .exnd h k n q m r, z => .exnd (by rw [A.mg]; exact h) (by rw [A.exo]; exact k) n q m (Rep.alk A r (z.imp (fun z => by simpa [nc, ncFs] using z) _root_.id))
theorem RepAll.alk (A : Alk R R') : ∀ {vs : List V} {ds : List D}, RepAll R S H vs ds → (ncAll ds = true ∨ ∀ i f c, R.clo i f c = none) → RepAll R' S H vs ds
  | _, _, .nil, _ => .nil
  | _, _, .cons h r, q => .cons (Rep.alk A h (q.imp (fun z => by simp only [ncAll, Bool.and_eq_true] at z; exact z.1) _root_.id)) (RepAll.alk A r (q.imp (fun z => by simp only [ncAll, Bool.and_eq_true] at z; exact z.2) _root_.id))
end
theorem MRep.alk (A : Alk R R') {a : Addr} {o : MO} (h : MRep R S H a o) (q : ncMO o = true ∨ ∀ i f c, R.clo i f c = none) : MRep R' S H a o := by
  cases o with
  | lst xs => obtain ⟨vs, h1, r⟩ := h; exact ⟨vs, h1, r.alk A q⟩
  | dct kvs => obtain ⟨vs, h1, r⟩ := h; exact ⟨vs, h1, r.alk A (q.imp (fun z => by have z : ncKV kvs = true := z; rw [ncKV_map] at z; exact z) _root_.id)⟩
  | ins c fs => obtain ⟨C, dx, vs, h0, h1, r⟩ := h; exact ⟨C, dx, vs, by rw [A.mg]; exact h0, h1, r.alk A (q.imp (fun z => by have z : ncFs fs = true := z; rw [ncFs_map] at z; exact z) _root_.id)⟩
theorem HR.alk (A : Alk R R') {m : MS} (h : HR R S H m) (q : ncMS m = true ∨ ∀ i f c, R.clo i f c = none) : HR R' S H m :=
  ⟨h.nd, h.len, fun n a o h1 h2 => (h.obj n a o h1 h2).alk A (q.imp (fun z => List.all_eq_true.mp z o (List.mem_of_getElem? h2)) _root_.id), h.dr, h.tm, by rw [A.T]; exact h.tb⟩
/-- an outcome without closures -/
def ncRes : Res D → Res D
  | .ok d m => if nc d = true ∧ ncMS m = true then .ok d m else .stuck
  | .raise c fs m => if ncFs fs = true ∧ ncMS m = true then .raise c fs m else .stuck
  | .stuck => .stuck
theorem ncRes_out (A : Alk R R') {E : XK} {Q : VK} {r : Res D} (h : RoutG R S H E (PV R Q) (ncRes r)) : RoutG R' S H E (PV R' Q) r := by
  cases r with
  | stuck => exact h
  | ok d m =>
    unfold ncRes at h
    dsimp only at h
    by_cases k : nc d = true ∧ ncMS m = true
    · rw [if_pos k] at h
      exact fun H' S' e hr v rv => h H' S' e (hr.alk A.symm (.inl k.2)) v (rv.alk A.symm (.inl k.1))
    · rw [if_neg k] at h
      exact h.elim
  | raise c fs m =>
    unfold ncRes at h
    dsimp only at h
    by_cases k : ncFs fs = true ∧ ncMS m = true
    · rw [if_pos k] at h
      intro H' S' C e hr g
      obtain ⟨k1, k2⟩ := h H' S' C e (hr.alk A.symm (.inl k.2)) (by rw [← A.mg]; exact g)
      exact ⟨k1, fun f d ef dx v hd hn rv => k2 f d ef dx v hd hn (rv.alk A.symm (.inl (by have := k.1; rw [ef] at this; simpa [ncFs] using this)))⟩
    · rw [if_neg k] at h
      exact h.elim
end
/-- the closures of a def -/
def cloOf (lams : List Lam) (q : Str) (cells : List (Str × Addr)) : Nat → Addr → Addr → Option HO := fun i f c' => (lams[i]?).map fun l => lamO (q ++ "<lambda>") l (cloFrom cells l.scope.names []) f c'
/-- R inside a def of the qualified name q in X -/
def RC.ins (R : RC) (X : Cx) (lams : List Lam) : RC := R.wth (cloOf lams X.env.qual X.env.cells) (X.env.qual ++ "<lambda>")
theorem ok_ins {R : RC} {X : Cx} {lams : List Lam} (h : R.Ok) : (R.ins X lams).Ok := ⟨fun i a c o e ps z => by
  have e : cloOf lams X.env.qual X.env.cells i a c = some o := e
  unfold cloOf at e
  cases el : lams[i]? with
  | none => rw [el] at e; cases e
  | some l =>
    rw [el] at e
    cases e
    exact lamO_ne ps z, h.exo⟩
section
variable {P : Program} {w : World} {base : Heap} {R : RC}
theorem cloR_ins {X : Cx} {lams : List Lam} : CloR X (R.ins X lams) lams := ⟨rfl, fun _ _ _ => rfl⟩
theorem Bs.wth (B : Bs P w base R) (h : ∀ clo cq, (R.wth clo cq).Ok) {clo : Nat → Addr → Addr → Option HO} {cq : Str} : Bs P w base (R.wth clo cq) := ⟨h _ _, B.seer, B.tree⟩
/-- THE RULE for a def that makes lambdas; cdv, its code object, is fixed -/
theorem fnD_ofC (B : Bs P w base R) {lams : List Lam} {x : Str} {st : Stmt} {f : Addr} {fd : FuncData} {N ps : List Str} {k : Nat} {u : FS} {F : List D → M D} {cdv : Value} (h0 : ∀ i f c, R.clo i f c = none) (Fu : Fun R.K x x st f fd) (hcdv : fd.code = cdv) (hm : R.mg x = some (.ref f)) (S : FnScope N ps (defScope st)) (hk : 40 ≤ k) (hb : Binds R.K fd ps [])
    (hF : ∀ (R : RC) S H m ds E Q, HR R S H m → ds.length = ps.length → RoutG R S H E (PV R Q) (F ds m) → RoutG R S H E (PV R Q) (ncRes (bodyF u N.length ds m)))
    (h : ∀ (R' : RC) (A : Around) (outer : List Env) (s : Shared) (H : Hp) (E : XK), R' = R.ins (cxOf (L2.CX P w) P w R.K R.mg base N x (defScope st) f cdv A outer s H E) lams → Bs P w base R' → Room k (A.deeper (envOfC x (defScope st) s.heap.objs.size f cdv)) → CxR (cxOf (L2.CX P w) P w R.K R.mg base N x (defScope st) f cdv A outer s H E) R' E →
      CloR (cxOf (L2.CX P w) P w R.K R.mg base N x (defScope st) f cdv A outer s H E) R' lams → DSs (cxOf (L2.CX P w) P w R.K R.mg base N x (defScope st) f cdv A outer s H E) R' E (defBody st) u) : FnD P w base R x (k + 1) ps st F := by
  have Fu0 := Fu
  obtain ⟨oc, od, kV, doc, pm, an, cdv', ct, osl, rfl, lk, hcd⟩ := Fu.ex
  obtain rfl : cdv' = cdv := hcdv
  refine ⟨f, _, fn_of lk hcd S (fun vs H Q E h => h.1) fun A outer s H vs Q E hr hsp => ?_, hm, Fu0, hb⟩
  obtain ⟨hl, St, m, ds, h1, h2, h3⟩ := hsp
  have A1 : Alk R (R.ins (cxOf (L2.CX P w) P w R.K R.mg base N x (defScope st) f cdv' A outer s H E) lams) := Alk.wth
  have B' : Bs P w base (R.ins (cxOf (L2.CX P w) P w R.K R.mg base N x (defScope st) f cdv' A outer s H E) lams) := ⟨ok_ins B.ok, B.seer, B.tree⟩
  have C0 := cxr_of (H := H) (E := E) (outer := outer) B S hk hr
  obtain ⟨t, a1, a2⟩ := (h _ A outer s H E rfl B' hr ⟨C0.K, C0.mg, B'.ok, C0.tk, C0.po, C0.pyl, C0.un, C0.calm, C0.nd⟩ cloR_ins).ex
  refine ⟨t, a1, a2 St _ H _ m _ (h1.alk A1 (.inr h0)) (er_start (h2.alk A1 (.inr h0))) (endF_out (ncRes_out A1 (hF R St H m ds E Q h1 (by rw [← h2.length]; exact hl) h3)))⟩
/-- as bodyT, and without closures -/
noncomputable def bodyN (u : FS) (n : Nat) : List D → M D := fun ds m => trunc m (ncRes (bodyF u n ds m))
end
end TL
end
section
/-! The data layer: `_law_begun`, that makes the dict of the draws. -/
namespace TL
open PySem PySem.Spec PyProof.Rows L2
open Classical in
noncomputable def sBegun (f1 f2 : FE) (i : Nat) : FS := fun ρ m => if m.objs = [] ∧ m.dr = none ∧ i < ρ.length then (match f1 ρ m with
  | .ok (.ref 0) m1 => (match m1.objs with
    | [.lst gs] => (match f2 (ρ.set i (some (.ref 0))) m1 with
      | .ok (.lst cs) m2 => if m2 = m1 ∧ m1.dr = none then (match allI gs, allI cs with
        | some g, some c => .ok (.ret .drw) { objs := [], dr := some ⟨g, c, 0, 0⟩ }
        | _, _ => .stuck) else .stuck
      | _ => .stuck)
    | _ => .stuck)
  | _ => .stuck) else .stuck
section
variable {X : Cx} {R : RC} {E : XK}
theorem dss_begun {f1 f2 : FE} {i : Nat} {x : Str} {st : Stmt} {e2 : Expr} {k1 k2 k3 k4 j3 j4 : Nat} {p1 p2 p3 p4 q1 q3 q4 pos pos2 : Pos} (cx : CxR X R E) (h1 : DS X R E st (sAsg f1 (gN i))) (hi : X.N[i]? = some x) (hx : Vis X.env.scope x) (h2 : DE X R E e2 f2)
    (hd : (x == ("__debug__" : Str)) = false := by decide) (hcd : (x == ("__classdict__" : Str)) = false := by decide) :
    DSs X R E [st, .Return (some (.Dict [some (.Constant (.str "great") k1 p1), some (.Constant (.str "cells") k2 p2), some (.Constant (.str "rest") k3 p3), some (.Constant (.str "turn") k4 p4)] [.Name x q1, e2, .Constant (.int 0) j3 q3, .Constant (.int 0) j4 q4] pos)) pos2] (sBegun f1 f2 i) := by
  obtain ⟨t1, a1, a2⟩ := h1.ex
  obtain ⟨t2, b1, b2⟩ := h2.ex
  refine ⟨⟨_, pss_cons a1 (pss_one (ps_ret (pe_disp (pps_cons pe_str (pe_var (i := i) hi hx hd hcd) (pps_cons pe_str b1 (pps_cons pe_str pe_int (pps_cons pe_str pe_int pps_nil)))) rfl rfl (by simp) (by simp)))), fun S σ H ρ m Z hr he h => ?_⟩⟩
  unfold sBegun at h
  split at h
  case isFalse => exact h.elim
  rename_i hm
  obtain ⟨hm1, hm2, hlt⟩ := hm
  split at h
  case h_2 => exact h.elim
  rename_i m1 e1
  split at h
  case h_2 => exact h.elim
  rename_i gs eo
  split at h
  case h_2 => exact h.elim
  rename_i cs m2 e2'
  split at h
  case isFalse => exact h.elim
  rename_i hm3
  obtain ⟨rfl, hdr⟩ := hm3
  split at h
  case h_2 => exact h.elim
  rename_i g c eg ec
  refine a2 S σ H ρ m _ hr he ?_
  show RoutG R S H E (PF R _) (M.bind (f1 ρ) (fun d => M.bind (gN i d ρ) fun ρ' m => .ok (.next ρ') m) m)
  unfold M.bind
  rw [e1]
  show RoutG R S H E (PF R _) (.ok (.next (ρ.set i (some (.ref 0)))) m2)
  intro H1 S1 x1 r1 σ1 he1
  intro p hp
  have xp := Ext.newObj (o := HO.dK []) r1 hp
  have rp := r1.newObj (o := HO.dK []) cx.ok hp
  have hep := he1.ext cx.ok xp
  -- the list of the great ones
  have hl1 := r1.len
  have hl0 := hr.len
  rw [eo] at hl1
  rw [hm1] at hl0
  obtain ⟨ga, hga⟩ : ∃ ga, S1.refs = [ga] := by
    match hh : S1.refs, hl1 with
    | [ga], _ => exact ⟨ga, rfl⟩
  have hS : S.refs = [] := List.length_eq_zero_iff.mp hl0
  have hSd : S.drw = none := by have := hr.dr; rw [hm2] at this; exact this
  have hS1d : S1.drw = none := by have := r1.dr; rw [hdr] at this; exact this
  obtain ⟨vg, hgv, rg⟩ : ∃ v, σ1[i]? = some (some v) ∧ Rep R S1 H1 v (.ref 0) := he1.at_ i _ (by rw [List.getElem?_set_self hlt])
  obtain rfl : vg = .ref ga := by
    cases rg with
    | @ref n a hn =>
      rw [hga] at hn
      cases hn
      rfl
  refine ⟨_, hgv, ?_⟩
  refine b2 S1 σ1 _ (ρ.set i (some (.ref 0))) m2 _ rp hep ?_
  rw [e2']
  intro H2 S2 x2 r2 v2 rv2
  cases rv2 with
  | @lst c' vs ds hc rvs =>
  obtain rfl := allI_out rvs ec
  have hp1 : p ∉ S1.mut := r1.fresh hp
  have hp2 : H2 p = some (.dK []) := x2.keep p _ upd_same hp1 (fun _ z => by cases z)
  have hpm : p ∉ S2.mut := x2.nmut (b := p) upd_same hp1
  refine ⟨hp2, [(.inr "great", .ref ga), (.inr "cells", .ref c'), (.inr "rest", .int 0), (.inr "turn", .int 0)], rfl, by simp, ?_⟩
  have eM : mergeK [] [((.inr "great" : Key), V.ref ga), (.inr "cells", .ref c'), (.inr "rest", .int 0), (.inr "turn", .int 0)] = [(.inr "great", .ref ga), (.inr "cells", .ref c'), (.inr "rest", .int 0), (.inr "turn", .int 0)] := by
    simp only [mergeK, List.foldl, putK, List.any]
    rfl
  rw [eM]
  -- the stores
  have hS2 : S2.refs = [ga] := by
    obtain ⟨more, q⟩ := x2.refs
    have l2 := r2.len
    rw [eo] at l2
    rw [hga] at q
    cases more with
    | nil => simpa using q
    | cons a b => rw [q] at l2; simp at l2
  have hS2d : S2.drw = none := by have := r2.dr; rw [hdr] at this; exact this
  have ht1 : S1.tmp = S.tmp := x1.tmp
  have ht2 : S2.tmp = S.tmp := x2.tmp.trans ht1
  have m2' : S2.mut = ga :: S.tmp := by unfold Sto.mut Sto.rest Sto.drs; rw [hS2, hS2d, ht2]; rfl
  have m1' : S1.mut = ga :: S.tmp := by unfold Sto.mut Sto.rest Sto.drs; rw [hga, hS1d, ht1]; rfl
  have m0' : S.mut = S.tmp := by unfold Sto.mut Sto.rest Sto.drs; rw [hS, hSd]; rfl
  have m3' : ({ S with drw := some (p, ga, c') } : Sto).mut = p :: ga :: S.tmp := by unfold Sto.mut Sto.rest Sto.drs; dsimp only; rw [hS]; rfl
  rw [m2'] at hpm
  have nd2 := r2.nd
  rw [m2'] at nd2
  obtain ⟨vs, hgl, rgs⟩ := r2.obj 0 ga _ (by rw [hS2]; rfl) (by rw [eo]; rfl)
  obtain rfl := allI_out rgs eg
  have gp : ga ≠ p := fun z => hpm (by rw [← z]; exact List.mem_cons_self)
  have cp : c' ≠ p := fun z => by
    have := hc.1
    rw [z, hp2] at this
    cases this
  have tp : ∀ a ∈ S.tmp, a ≠ p := fun a ha z => hpm (by rw [← z]; exact List.mem_cons_of_mem _ ha)
  have hgm : H ga = none := by
    rcases x1.new ga (by rw [m1']; exact List.mem_cons_self) with z | z
    · rw [m0'] at z
      exact ((List.nodup_cons.mp nd2).1 z).elim
    · exact z
  have hpn : H p = none := by
    cases q : H p with
    | none => rfl
    | some o =>
      obtain ⟨o', q'⟩ := x1.there p o q
      rw [hp] at q'
      cases q'
  have Xt : Ext S H { S with drw := some (p, ga, c') } (upd H2 p (.dK [(.inr "great", .ref ga), (.inr "cells", .ref c'), (.inr "rest", .int 0), (.inr "turn", .int 0)])) := by
    refine ⟨⟨⟨[], by simp⟩, (fun q hq => by rw [hSd] at hq; cases hq), fun a ha => ?_, fun b o hb hn ht => ?_, fun b o hb => ?_⟩, rfl, fun a ha => ?_⟩
    · rw [m3'] at ha
      rcases List.mem_cons.mp ha with rfl | ha
      · exact .inr hpn
      · rcases List.mem_cons.mp ha with rfl | ha
        · exact .inr hgm
        · exact .inl (by rw [m0']; exact ha)
    · rw [upd_ne (ne_of_none hb hpn)]
      have k1 := x1.keep b o hb hn ht
      have k2 := x1.nmut hb hn
      exact x2.keep b o (xp.keep b o k1 k2 ht) k2 ht
    · obtain ⟨o1, k1⟩ := x1.there b o hb
      obtain ⟨o2, k2⟩ := xp.there b o1 k1
      obtain ⟨o3, k3⟩ := x2.there b o2 k2
      by_cases hbp : b = p
      · exact ⟨_, by rw [hbp, upd_same]⟩
      · exact ⟨o3, by rw [upd_ne hbp]; exact k3⟩
    · rw [upd_ne (tp a ha)]
      exact ((x2.tk a (by rw [ht1]; exact ha)).trans (xp.tk a (by rw [ht1]; exact ha))).trans (x1.tk a ha)
  refine h _ _ Xt ⟨by rw [m3']; exact List.nodup_cons.mpr ⟨hpm, nd2⟩, by show S.refs.length = 0; rw [hS]; rfl, (fun n a o h1 _ => by
      have h1 : S.refs[n]? = some a := h1
      rw [hS] at h1
      cases h1), ⟨p, ga, c', rfl, upd_same, by rw [upd_ne gp]; exact hgl, by rw [upd_ne cp]; exact hc.1, fun z => ?_⟩, fun a ha => ?_, ?_⟩ _ (.drw rfl)
  · rw [m3'] at z
    rcases List.mem_cons.mp z with z | z
    · exact cp z
    · exact hc.2 (by rw [m2']; exact z)
  · have ha : a ∈ S.tmp := ha
    rw [upd_ne (tp a ha)]
    exact r2.tm a (by rw [ht2]; exact ha)
  · exact tabs_put r2.tb hp2 ⟨(fun _ z => by cases z), (fun _ _ z => by cases z)⟩
end
end TL
end
section
/-! The data layer: more rules. -/
namespace TL
open PySem PySem.Spec PyProof.Rows L2
section
variable {X : Cx} {R : RC} {E : XK} {pos : Pos}
theorem CxR.u1 (cx : CxR X R E) : X.A.units + 1 < cLine := by have := cx.un; omega
theorem CxR.u64 (cx : CxR X R E) : X.A.units + 64 < cLine := by have := cx.un; omega
/-! ### if .. else as a test -/
def bIf (g fa fb : FB) : FB := fun ρ => M.bind (g ρ) fun k => if k then fa ρ else fb ρ
def tIfT (tc ta tb : TT) : TT := fun σ H Q => tc σ H fun c H1 => if c = true then ta σ H1 Q else tb σ H1 Q
theorem pt_ifE {c a b : Expr} {tc ta tb : TT} (hc : PT X c tc) (ha : PT X a ta) (hb : PT X b tb) : PT X (.IfExp c a b pos) (tIfT tc ta tb) := by
  refine ⟨fun pins s σ H Q I h => ?_⟩
  show wpAny _ _ (do if ← isTrue c X.env (eval c X.env) then isTrue a X.env (eval a X.env) else isTrue b X.env (eval b X.env)) _ _ _
  refine wpAny_bind (thn (hc.run pins s σ H _ I h) fun k s1 ⟨H1, I1, q1⟩ => ?_)
  cases k with
  | true =>
    rw [if_pos rfl] at q1
    exact ha.run pins s1 σ H1 Q I1 q1
  | false =>
    rw [if_neg Bool.false_ne_true] at q1
    exact hb.run pins s1 σ H1 Q I1 q1
theorem dt_if {c a b : Expr} {g fa fb : FB} (cx : CxR X R E) (hc : DT X R E c g) (ha : DT X R E a fa) (hb : DT X R E b fb) : DT X R E (.IfExp c a b pos) (bIf g fa fb) := by
  obtain ⟨tc, c1, c2⟩ := hc.ex
  obtain ⟨ta, a1, a2⟩ := ha.ex
  obtain ⟨tb, b1, b2⟩ := hb.ex
  refine ⟨⟨_, pt_ifE c1 a1 b1, fun S σ H ρ m Q hr he h => c2 S σ H ρ m _ hr he (h.step fun k m1 H1 S1 e1 r1 q => ?_)⟩⟩
  cases k with
  | true => exact a2 S1 σ H1 ρ m1 Q r1 (he.ext cx.ok e1) q
  | false => exact b2 S1 σ H1 ρ m1 Q r1 (he.ext cx.ok e1) q
/-! ### texts -/
def allS : List D → Option (List Str)
  | [] => some []
  | .str b :: r => (allS r).map (b :: ·)
  | _ => none
theorem allS_out {S : Sto} {H : Hp} : ∀ {ds : List D} {vs : List V} {bs : List Str}, RepAll R S H vs ds → allS ds = some bs → vs = bs.map V.str
  | [], _, _, .nil, h => by cases h; rfl
  | .str b :: r, _, _, .cons rv rt, h => by
    unfold allS at h
    have e := rep_str rv
    subst e
    cases e2 : allS r with
    | none => rw [e2] at h; cases h
    | some bs' =>
      rw [e2] at h
      cases h
      rw [allS_out rt e2]
      rfl
  | .non :: _, _, _, _, h => by cases h
  | .bl _ :: _, _, _, _, h => by cases h
  | .int _ :: _, _, _, _, h => by cases h
  | .tup _ :: _, _, _, _, h => by cases h
  | .lst _ :: _, _, _, _, h => by cases h
  | .dct _ :: _, _, _, _, h => by cases h
  | .scr _ :: _, _, _, _, h => by cases h
  | .ref _ :: _, _, _, _, h => by cases h
  | .drw :: _, _, _, _, h => by cases h
  | .drg :: _, _, _, _, h => by cases h
  | .fn _ :: _, _, _, _, h => by cases h
  | .ty _ :: _, _, _, _, h => by cases h
  | .clo _ :: _, _, _, _, h => by cases h
  | .exn _ _ :: _, _, _, _, h => by cases h
def joinD (o : D) (ds : List D) : M D := fun m => match o, ds with
  | .str a, [d] => (match (match d with | .tup xs => some xs | d => lstD m d).bind allS with
    | some ys => if (ys.map (·.length)).sum + ys.length * a.length ≤ 1000000 then .ok (.str (Txt.join a ys)) m else .stuck
    | none => .stuck)
  | _, _ => .stuck
theorem mt_join_d (cx : CxR X R E) : MtD X R E "str.join" joinD := ⟨_, mt_join, fun S H m x a vs ds Q hr ra rv h => by
  unfold joinD at h
  cases a with
  | str a =>
    cases rv with
    | nil => exact h.elim
    | @cons y d ys ds' r rr =>
      cases rr with
      | cons _ _ => exact h.elim
      | nil =>
        dsimp only at h
        have e := rep_str ra
        subst e
        have main : ∀ ys : List Str, RoutG R S H E (PV R Q) (if (ys.map (·.length)).sum + ys.length * a.length ≤ 1000000 then .ok (.str (Txt.join a ys)) m else .stuck) → (ys.map (·.length)).sum + ys.length * a.length ≤ 16777216 ∧ Q (.str (Txt.join a ys)) H := fun ys h => by
          split at h
          · rename_i hz
            exact ⟨Nat.le_trans hz (by decide), h.now hr _ (.str _)⟩
          · exact h.elim
        rw [cx.K]
        by_cases ht : ∃ xs, d = .tup xs
        · obtain ⟨xs, rfl⟩ := ht
          dsimp only [Option.bind] at h
          cases r with
          | @tup p vs _ hp hall =>
            cases e : allS xs with
            | none => rw [e] at h; exact h.elim
            | some ys =>
              rw [e] at h
              obtain rfl := allS_out hall e
              obtain ⟨k1, k2⟩ := main ys h
              exact ⟨a, p, ys, rfl, rfl, .inr hp.sq, k1, k2⟩
        · have h' : RoutG R S H E (PV R Q) (match (lstD m d).bind allS with
            | some ys => if (ys.map (·.length)).sum + ys.length * a.length ≤ 1000000 then .ok (.str (Txt.join a ys)) m else .stuck
            | none => .stuck) := by
            cases d with
            | tup xs => exact (ht ⟨xs, rfl⟩).elim
            | _ => exact h
          cases el : lstD m d with
          | none => rw [el] at h'; exact h'.elim
          | some xs =>
            rw [el] at h'
            dsimp only [Option.bind] at h'
            cases e : allS xs with
            | none => rw [e] at h'; exact h'.elim
            | some ys =>
              rw [e] at h'
              obtain ⟨p, vs, rfl, hp, hall, _⟩ := lstD_out hr r el
              obtain rfl := allS_out hall e
              obtain ⟨k1, k2⟩ := main ys h'
              exact ⟨a, p, ys, rfl, rfl, .inl hp, k1, k2⟩
  | _ => cases ds <;> exact h.elim⟩
def upperD (o : D) (ds : List D) : M D := fun m => match o, ds with
  | .str a, [] => if a.length ≤ 1000000 then .ok (.str (Txt.upper a)) m else .stuck
  | _, _ => .stuck
theorem mt_upper_d : MtD X R E "str.upper" upperD := ⟨_, mt_upper, fun S H m x a vs ds Q hr ra rv h => by
  unfold upperD at h
  cases a with
  | str a =>
    cases rv with
    | cons _ _ => exact h.elim
    | nil =>
      dsimp only at h
      have e := rep_str ra
      subst e
      split at h
      · rename_i hz
        exact ⟨a, rfl, rfl, Nat.le_trans hz (by decide), h.now hr _ (.str _)⟩
      · exact h.elim
  | _ => cases ds <;> exact h.elim⟩
/-! ### sorted texts -/
def srtS (xs ys : List Str) : Prop := ∀ zs : List Str, zs.Perm xs → sortedS zs = true → zs = ys
open Classical in
noncomputable def sortedD (d : D) : M D := fun m => match (lstD m d).bind allS with
  | some xs => if h : xs.length < 64 ∧ ∃ ys, srtS xs ys then .ok (.lst ((Classical.choose h.2).map D.str)) m else .stuck
  | none => .stuck
theorem repAll_strs {S : Sto} {H : Hp} : ∀ ys : List Str, RepAll R S H (ys.map V.str) (ys.map D.str)
  | [] => .nil
  | y :: ys => .cons (.str y) (repAll_strs ys)
theorem call_sorted_d (cx : CxR X R E) : CallD X R E (.builtin "sorted") (arg1 sortedD) := ⟨_, cr_sortedS, fun S H m xs ds Q hr r h => by
  obtain ⟨v, d, rfl, rv, h⟩ := arg1_out r h
  rw [cx.K]
  unfold sortedD at h
  cases el : lstD m d with
  | none => rw [el] at h; exact h.elim
  | some zs =>
    rw [el] at h
    dsimp only [Option.bind] at h
    cases e : allS zs with
    | none => rw [e] at h; exact h.elim
    | some ys =>
      rw [e] at h
      obtain ⟨p, vs, rfl, hp, hall, _⟩ := lstD_out hr rv el
      obtain rfl := allS_out hall e
      dsimp only at h
      split at h
      · rename_i hz
        refine ⟨p, ys, rfl, hp, hz.1, fun ws q hw hs hq => ?_⟩
        have e2 := Classical.choose_spec hz.2 ws hw hs
        rw [← e2] at h
        have ex := Ext.newObj (o := HO.lst (ws.map V.str)) hr hq
        exact h _ S ex (hr.newObj cx.ok hq) _ (.lst ⟨upd_same, hr.fresh hq⟩ (repAll_strs ws))
      · exact h.elim⟩
/-! ### {} -/
theorem de_dict0 (cx : CxR X R E) : DE X R E (.Dict [] [] pos) (dC (.dct [])) := by
  refine ⟨⟨_, pe_dnewK, fun S σ H ρ m Q hr he h p hp => ?_⟩⟩
  have ex := Ext.newObj (o := HO.dK []) hr hp
  exact h _ S ex (hr.newObj cx.ok hp) _ (Rep.dct (ks := []) (vs := []) (ds := []) (.inl upd_same) (hr.fresh hp) rfl .nil)
end
end TL
end
section
/-! The data layer: what a law's derivations lean on. -/
namespace TL
open PySem PySem.Spec PyProof.Rows L2
open LamX (Tabs CodeO TabB LamS lamEnv lamCx)
abbrev subD := intI (fun i j => i - j) always
abbrev fdivD := intI Int.fdiv nz
abbrev modD := intI Int.fmod nz
abbrev powD := intI (fun i j => i ^ j.toNat) powOk
abbrev ltI := intB fun i j => decide (i < j)
abbrev leI := intB fun i j => decide (i ≤ j)
abbrev gtI := intB fun i j => decide (j < i)
abbrev geI := intB fun i j => decide (j ≤ i)
/-- what a module constant holds -/
inductive CV where
  | int (i : Int) | str (x : Str) | tup (vs : List Int)
def CV.d : CV → D
  | .int i => .int i
  | .str x => .str x
  | .tup vs => .tup (vs.map D.int)
/-- a law's names -/
structure Cfg where
  top : Nat → Stmt
  free : List Str
  imps : List (Str × String)
  fns : List (Str × Nat)
  consts : List (Str × CV)
  excs : List Str
  exis : List (Str × Str × Str)
  subs : Str → Str → Option Bool
  fok : Str → Str → Bool
  teach : Str → Bool
  lamq : List Str
def CV.at_ (K : PySem.W.Frag) (mg : Str → Option Value) (x : Str) : CV → Prop
  | .int i => ∃ t, mg x = some (.int i t)
  | .str z => ∃ t, mg x = some (.str z t)
  | .tup vs => ∃ (a : Addr) (o : Obj) (its : Array Value) (n : Nat), mg x = some (.ref a) ∧ K.lookup a = some o ∧ o.cls = .type "tuple" ∧ o.data = .seq its n ∧ its.size ≤ sizeLine ∧ Vals (vs.map V.int) its.toList
structure ExcAt (R : RC) (x : Str) (C : Addr) : Prop where
  mg : R.mg x = some (.ref C)
  ex : PySem.W.excIn R.K C He.veBase "ValueError.__new__" = true
  kC : PySem.W.keepIn R.K (.ref C) = true
  sub : PySem.W.subIn R.K (.ref C) (.type "BaseException") = some true
  ty : PySem.W.typeIn R.K (.ref C) = some (.type "type")
structure ExiAt (P : Program) (R : RC) (x p f : Str) (C fI cc cda : Addr) (fd : FuncData) : Prop where
  mg : R.mg x = some (.ref C)
  si : SI P R.K C fI cc cda p f fd
  iC : PySem.W.findIn R.K (.ref C) "__init__" = some (some (.ref fI))
  tI : PySem.W.typeIn R.K (.ref fI) = some (.type "function")
  hb : Binds R.K fd [("self" : Str), p] []
/-- the facts -/
structure Ev (c : Cfg) (P : Program) (w : World) (base : Heap) (R : RC) : Prop where
  B : Bs P w base R
  eo : ∀ C d a, R.exo C d a = ExT (.ref C) d a
  free : ∀ (i : Nat) (x : Str), c.free[i]? = some x → R.mg x = none
  imps : ∀ (i : Nat) (x : Str) (id : String), c.imps[i]? = some (x, id) → R.mg x = some (.builtin id)
  fns : ∀ (i : Nat) (x : Str) (n : Nat), c.fns[i]? = some (x, n) → ∃ f fd, R.mg x = some (.ref f) ∧ Fun R.K x x (c.top n) f fd
  consts : ∀ (i : Nat) (x : Str) (v : CV), c.consts[i]? = some (x, v) → CV.at_ R.K R.mg x v
  excs : ∀ (i : Nat) (x : Str), c.excs[i]? = some x → ∃ C, ExcAt R x C
  exis : ∀ (i : Nat) (x p f : Str), c.exis[i]? = some (x, p, f) → ∃ C fI cc cda fd, ExiAt P R x p f C fI cc cda fd
  xs : XsR R c.subs
  fld : ∀ (f x : Str) (C : Addr), c.fok f x = true → R.mg x = some (.ref C) → XfC R.K C ∧ PySem.W.findIn R.K (.ref C) f = some none
  teach : ∃ CT, R.mg "TeachError" = some (.ref CT) ∧ ∀ (x : Str) (C : Addr), c.teach x = true → R.mg x = some (.ref C) → PySem.W.exmOne R.K (.ref C) (.ref CT) = some true
  lams : ∀ (i : Nat) (x : Str) (n : Nat) (f : Addr) (fd : FuncData), c.lamq[i]? = some x → (∃ j : Nat, c.fns[j]? = some (x, n)) → R.mg x = some (.ref f) → Fun R.K x x (c.top n) f fd → ∃ cd Pt : Addr, fd.code = .ref cd ∧ TabB base R.mg cd Pt ∧ (Pt, (x ++ ".<locals>.") ++ "<lambda>") ∈ R.T ∧ ∀ p ∈ R.T, p.1 = Pt → p.2 = (x ++ ".<locals>.") ++ "<lambda>"
section
variable {c : Cfg} {P : Program} {w : World} {base : Heap} {R : RC}
theorem Ev.wth {clo : Nat → Addr → Addr → Option HO} {cq : Str} (V : Ev c P w base R) (h : (R.wth clo cq).Ok) : Ev c P w base (R.wth clo cq) where
  B := ⟨h, V.B.seer, V.B.tree⟩
  eo := V.eo
  free := V.free
  imps := V.imps
  fns := V.fns
  consts := V.consts
  excs := fun i x h => by obtain ⟨C, T⟩ := V.excs i x h; exact ⟨C, ⟨T.mg, T.ex, T.kC, T.sub, T.ty⟩⟩
  exis := fun i x p f h => by obtain ⟨C, fI, cc, cda, fd, T⟩ := V.exis i x p f h; exact ⟨C, fI, cc, cda, fd, ⟨T.mg, T.si, T.iC, T.tI, T.hb⟩⟩
  xs := ⟨V.xs.kit, V.xs.xk, V.xs.eo⟩
  fld := V.fld
  teach := V.teach
  lams := V.lams
theorem Ev.glo (V : Ev c P w base R) {x : Str} {v : CV} (i : Nat) (h : c.consts[i]? = some (x, v)) : Glo R x v.d := by
  have q := V.consts i x v h
  cases v with
  | int i => obtain ⟨t, e⟩ := q; exact ⟨_, .int i, e, ⟨t, rfl⟩, fun S H => .int i⟩
  | str z => obtain ⟨t, e⟩ := q; exact ⟨_, .str z, e, ⟨t, rfl⟩, fun S H => .str z⟩
  | tup vs =>
    obtain ⟨a, o, its, n, e, h1, h2, h3, h4, h5⟩ := q
    refine ⟨_, .ref a, e, rfl, fun S H => .tup (.inr ⟨o, its, n, h1, h2, h3, h4, h5⟩) ?_⟩
    clear h5 h
    induction vs with
    | nil => exact .nil
    | cons v vs ih => exact .cons (.int v) ih
theorem Ev.gloX (V : Ev c P w base R) {x : Str} (i : Nat) (h : c.excs[i]? = some x) : Glo R x (.fn x) := by
  obtain ⟨C, T⟩ := V.excs i x h
  exact ⟨_, .ref C, T.mg, rfl, fun S H => .fn T.mg⟩
theorem Ev.gloI (V : Ev c P w base R) {x p f : Str} (i : Nat) (h : c.exis[i]? = some (x, p, f)) : Glo R x (.fn x) := by
  obtain ⟨C, fI, cc, cda, fd, T⟩ := V.exis i x p f h
  exact ⟨_, .ref C, T.mg, rfl, fun S H => .fn T.mg⟩
/-- THE RULE for a def without own lists -/
theorem Ev.def_ (V : Ev c P w base R) {x : Str} {n : Nat} (i : Nat) (hi : c.fns[i]? = some (x, n)) {N ps : List Str} {k : Nat} {u : FS} (S : FnScope N ps (defScope (c.top n))) (hk : 40 ≤ k)
    (hb : ∀ (kV doc pm : Value) (an : Option Addr) (cdv ct : Value) (us : List Value), us.length = ps.length → bindArgs (PySem.W.fnOf x x (defArgs (c.top n)) (defBody (c.top n)) (defScope (c.top n)) .none kV doc pm an cdv ct) ⟨us, []⟩ = pure (ps.zip us))
    (h : ∀ (f : Addr) (cdv : Value) (A : Around) (outer : List Env) (s : Shared) (H : Hp) (E : XK), Room k (A.deeper (envOfC x (defScope (c.top n)) s.heap.objs.size f cdv)) → CxR (cxOf (L2.CX P w) P w R.K R.mg base N x (defScope (c.top n)) f cdv A outer s H E) R E →
      DSs (cxOf (L2.CX P w) P w R.K R.mg base N x (defScope (c.top n)) f cdv A outer s H E) R E (defBody (c.top n)) u) : FnD P w base R x (k + 1) ps (c.top n) (bodyF u N.length) := by
  obtain ⟨f, fd, hm, Fu⟩ := V.fns i x n hi
  exact fnD_of V.B Fu hm S hk (Fu.binds hb) (fun S H m ds E Q hr hl h => h) (h f)
/-- .. with own lists -/
theorem Ev.defT (V : Ev c P w base R) {x : Str} {n : Nat} (i : Nat) (hi : c.fns[i]? = some (x, n)) {N ps : List Str} {k : Nat} {u : FS} (S : FnScope N ps (defScope (c.top n))) (hk : 40 ≤ k)
    (hb : ∀ (kV doc pm : Value) (an : Option Addr) (cdv ct : Value) (us : List Value), us.length = ps.length → bindArgs (PySem.W.fnOf x x (defArgs (c.top n)) (defBody (c.top n)) (defScope (c.top n)) .none kV doc pm an cdv ct) ⟨us, []⟩ = pure (ps.zip us))
    (h : ∀ (f : Addr) (cdv : Value) (A : Around) (outer : List Env) (s : Shared) (H : Hp) (E : XK), Room k (A.deeper (envOfC x (defScope (c.top n)) s.heap.objs.size f cdv)) → CxR (cxOf (L2.CX P w) P w R.K R.mg base N x (defScope (c.top n)) f cdv A outer s H E) R E →
      DSs (cxOf (L2.CX P w) P w R.K R.mg base N x (defScope (c.top n)) f cdv A outer s H E) R E (defBody (c.top n)) u) : FnD P w base R x (k + 1) ps (c.top n) (bodyT u N.length) := by
  obtain ⟨f, fd, hm, Fu⟩ := V.fns i x n hi
  exact fnD_of V.B Fu hm S hk (Fu.binds hb) (fun S H m ds E Q hr hl h => trunc_out hr h) (h f)
/-- .. that makes lambdas -/
theorem Ev.defC (V : Ev c P w base R) {x : Str} {n : Nat} (i : Nat) (hi : c.fns[i]? = some (x, n)) (iq : Nat) (hq : c.lamq[iq]? = some x) {lams : List Lam} {N ps : List Str} {k : Nat} {u : FS} (h0 : ∀ i f c, R.clo i f c = none) (S : FnScope N ps (defScope (c.top n))) (hk : 40 ≤ k)
    (hb : ∀ (kV doc pm : Value) (an : Option Addr) (cdv ct : Value) (us : List Value), us.length = ps.length → bindArgs (PySem.W.fnOf x x (defArgs (c.top n)) (defBody (c.top n)) (defScope (c.top n)) .none kV doc pm an cdv ct) ⟨us, []⟩ = pure (ps.zip us))
    (h : ∀ (R' : RC) (f cd Pt : Addr) (A : Around) (outer : List Env) (s : Shared) (H : Hp) (E : XK), Ev c P w base R' → R'.K = R.K → R'.mg = R.mg → TabB base R.mg cd Pt → (Pt, (cxOf (L2.CX P w) P w R.K R.mg base N x (defScope (c.top n)) f (.ref cd) A outer s H E).env.qual ++ "<lambda>") ∈ R'.T → (∀ p ∈ R'.T, p.1 = Pt → p.2 = (cxOf (L2.CX P w) P w R.K R.mg base N x (defScope (c.top n)) f (.ref cd) A outer s H E).env.qual ++ "<lambda>") →
      Room k (A.deeper (envOfC x (defScope (c.top n)) s.heap.objs.size f (.ref cd))) → CxR (cxOf (L2.CX P w) P w R.K R.mg base N x (defScope (c.top n)) f (.ref cd) A outer s H E) R' E → CloR (cxOf (L2.CX P w) P w R.K R.mg base N x (defScope (c.top n)) f (.ref cd) A outer s H E) R' lams →
      DSs (cxOf (L2.CX P w) P w R.K R.mg base N x (defScope (c.top n)) f (.ref cd) A outer s H E) R' E (defBody (c.top n)) u) : FnD P w base R x (k + 1) ps (c.top n) (bodyN u N.length) := by
  obtain ⟨f, fd, hm, Fu⟩ := V.fns i x n hi
  obtain ⟨cd, Pt, e1, TB, e2, e3⟩ := V.lams iq x n f fd hq ⟨i, hi⟩ hm Fu
  exact fnD_ofC (lams := lams) V.B h0 Fu e1 hm S hk (Fu.binds hb) (fun R S H m ds E Q hr hl h => trunc_out hr h) fun R' A outer s H E e B' hr cx C => by
    subst e
    exact h _ f cd Pt A outer s H E (V.wth B'.ok) rfl rfl TB e2 e3 hr cx C
end
section
variable {c : Cfg} {X : Cx} {R : RC} {E : XK}
/-- raise of a class without own __init__ -/
theorem Ev.raise (V : Ev c X.prog X.w X.base R) {x : Str} (i : Nat) (hi : c.excs[i]? = some x) {e : Expr} {f : FE} {p pos pos2 : Pos} (cx : CxR X R E) (hg : Gl X x) (he : DE X R E e f) (hs : starEach [e] X.env = (false, eval e X.env) :: starEach [] X.env := by rfl) (hdb : (x == ("__debug__" : Str)) = false := by decide) :
    DS X R E (.Raise (some (.Call (.Name x p) [e] [] pos)) none pos2) (sRaise x f) := by
  obtain ⟨C, T⟩ := V.excs i x hi
  exact ds_raise cx PySem.F.excBase_ValueError T.ex T.mg T.kC T.sub T.ty hg he hs hdb
theorem Ev.raiseF (V : Ev c X.prog X.w X.base R) {x pn fld : Str} (i : Nat) (hi : c.exis[i]? = some (x, pn, fld)) {k : Nat} {e : Expr} {f : FE} {p pos pos2 : Pos} (cx : CxR X R E) (hr : Room k X.A) (hk : 2 ≤ k) (hg : Gl X x) (he : DE X R E e f) (hs : starEach [e] X.env = (false, eval e X.env) :: starEach [] X.env := by rfl) (hdb : (x == ("__debug__" : Str)) = false := by decide) :
    DS X R E (.Raise (some (.Call (.Name x p) [e] [] pos)) none pos2) (sRaiseF x fld f) := by
  obtain ⟨C, fI, cc, cda, fd, T⟩ := V.exis i x pn fld hi
  obtain ⟨j, rfl⟩ : ∃ j, k = j + 2 := ⟨k - 2, by omega⟩
  exact ds_raiseF cx T.si T.iC T.tI T.hb hr T.mg hg he hs hdb
end
end TL
namespace TL
open PySem PySem.Spec PyProof.Rows L2
open LamX (Tabs CodeO TabB LamS lamEnv lamCx)
/-! ### the lambdas of a def, by their places -/
def kidsE : Expr → List Expr
  | .BoolOp _ vs _ => vs
  | .BinOp l _ r _ => [l, r]
  | .UnaryOp _ x _ => [x]
  | .Lambda _ b _ _ => [b]
  | .IfExp t b o _ => [t, b, o]
  | .ListComp e gs _ _ => e :: gs.map (·.iter)
  | .Compare l _ cs _ => l :: cs
  | .Call f as ks _ => f :: as ++ ks.map (·.value)
  | .Attribute v _ _ => [v]
  | .Subscript v s _ => [v, s]
  | .List es _ => es
  | .Tuple es _ _ => es
  | _ => []
def kidsS : Stmt → List Stmt
  | .FunctionDef _ _ b _ _ _ _ _ _ _ => b
  | .For _ _ b o _ => b ++ o
  | .While _ b o _ => b ++ o
  | .If _ b o _ => b ++ o
  | _ => []
def exprS : Stmt → Expr
  | .Return (some e) _ => e
  | .Assign _ e _ => e
  | .Expr e _ => e
  | .For _ i _ _ _ => i
  | .While t _ _ _ => t
  | .If t _ _ _ => t
  | _ => .Constant .none 0 ⟨0, 0, 0, 0⟩
def lamOf : Expr → Lam
  | .Lambda a b s _ => ⟨a, b, s⟩
  | _ => ⟨{ posonlyargs := [], args := [], vararg := none, kwonlyargs := [], kw_defaults := [], kwarg := none, defaults := [] }, .Constant .none 0 ⟨0, 0, 0, 0⟩, { kind := .function, names := [], isGenerator := false, isCoroutine := false }⟩
def goS (s : Stmt) : List Nat → Stmt
  | [] => s
  | i :: r => goS ((kidsS s).getD i s) r
def goE (e : Expr) : List Nat → Expr
  | [] => e
  | i :: r => goE ((kidsE e).getD i e) r
/-- the lambda at a place -/
abbrev lamAt (st : Stmt) (p q : List Nat) : Lam := lamOf (goE (exprS (goS st p)) q)
/-- the bodies of a def's lambdas -/
abbrev LamOk (X : Cx) (R : RC) (j : Nat) (lams : List Lam) (bs : List FE) : Prop := ∀ (i : Nat) (l : Lam) (fb : FE), lams[i]? = some l → bs[i]? = some fb → LamS X.env.scope l.scope ∧ (∀ (q : Str) (cl : List (Str × Addr)) (pm cv ctv : Value), bindArgs (PySem.W.kla_fn "<lambda>" q l.ps l.body l.scope cl pm cv ctv) ⟨[], []⟩ = pure []) ∧
  ∀ (A : Around) (outer : List Env) (s : Shared) (H : Hp) (E' : XK) (f c' : Addr), Room j (A.deeper (lamEnv X l.scope s.heap.objs.size f c')) → CxR (lamCx X A outer s H E' l.scope f c') R E' → DE (lamCx X A outer s H E' l.scope f c') R E' l.body fb
end TL
end
section
/-! The data layer: .. more: powers of great numbers, texts compared, isinstance of types alone. -/
namespace TL
open PySem PySem.Spec PyProof.Rows L2
/-- no classes -/
def sub0 : Str → Str → Option Bool := fun _ _ => none
theorem Ev.xs0 {c : Cfg} {P : Program} {w : World} {base : Heap} {R : RC} (V : Ev c P w base R) : XsR R sub0 := ⟨fun _ _ _ _ _ h => (by cases h), fun _ _ _ _ h => (by cases h), V.eo⟩
section
variable {X : Cx} {R : RC} {E : XK}
def powOkW (i j : Int) : Bool := decide (0 ≤ j) && decide ((Builtin.Int.intBits i : Int) * j ≤ 134217728)
theorem op_powW : OpR X (binaryOp .Pow) (rI (fun i j => 0 ≤ j ∧ (Builtin.Int.intBits i : Int) * j ≤ 2 ^ 27) fun i j => .int (i ^ j.toNat)) := opI fun _ _ _ _ _ _ _ hc q => pow_int hc.1 hc.2 q
theorem opd_powW : OpD X R E (binaryOp .Pow) (intI (fun i j => i ^ j.toNat) powOkW) := ⟨_, op_powW, fun S H m x y a b Q hr ra rb h => by
  obtain ⟨i, j, h1, h2, h3, h4⟩ := intI_out hr ra rb h
  unfold powOkW at h3
  rw [Bool.and_eq_true] at h3
  exact ⟨i, j, h1, h2, ⟨of_decide_eq_true h3.1, of_decide_eq_true h3.2⟩, h4⟩⟩
abbrev powW := intI (fun i j => i ^ j.toNat) powOkW
/-! ### numbers, texts compared -/
def cmpA (f : Int → Int → Bool) (g : List Nat → List Nat → Bool) (a b : D) : M D := fun m => match a, b with
  | .int i, .int j => .ok (.bl (f i j)) m
  | .str x, .str y => .ok (.bl (g x.cps.toList y.cps.toList)) m
  | _, _ => .stuck
def rStrB (g : List Nat → List Nat → Bool) : R2 := fun x y H Q => ∃ i j : Str, x = .str i ∧ y = .str j ∧ Q (.bl (g i.cps.toList j.cps.toList)) H
theorem cmpA_out {f : Int → Int → Bool} {g : List Nat → List Nat → Bool} {S : Sto} {H : Hp} {m : MS} {x y : V} {a b : D} {Q : VK} (hr : HR R S H m) (ra : Rep R S H x a) (rb : Rep R S H y b) (h : RoutG R S H E (PV R Q) (cmpA f g a b m)) :
    rI0 (fun i j => .bl (f i j)) x y H Q ∨ rStrB g x y H Q := by
  unfold cmpA at h
  cases a with
  | int i =>
    cases b with
    | int j =>
      cases ra
      cases rb
      exact .inl ⟨i, j, rfl, rfl, h.now hr _ (.bl _)⟩
    | _ => exact h.elim
  | str i =>
    cases b with
    | str j =>
      cases ra
      cases rb
      exact .inr ⟨i, j, rfl, rfl, h.now hr _ (.bl _)⟩
    | _ => exact h.elim
  | _ => exact h.elim
theorem opS_lt : OpR X (compareOp .Lt) (rStrB fun x y => decide (x < y)) := op_lt_str
theorem opS_ge : OpR X (compareOp .GtE) (rStrB fun x y => !decide (x < y)) := by
  intro pins s σ H x y v u Q I rx ry h
  obtain ⟨i, j, rfl, rfl, q⟩ := h
  obtain ⟨t, rfl⟩ := rx
  obtain ⟨t', rfl⟩ := ry
  exact PySem.P.ge_str (fin_bl I q rfl)
theorem opd_ltA : OpD X R E (compareOp .Lt) (cmpA (fun i j => decide (i < j)) fun x y => decide (x < y)) := ⟨_, op_lt.or opS_lt, fun S H m x y a b Q hr ra rb h => cmpA_out hr ra rb h⟩
theorem opd_geA : OpD X R E (compareOp .GtE) (cmpA (fun i j => decide (j ≤ i)) fun x y => !decide (x < y)) := ⟨_, op_ge.or opS_ge, fun S H m x y a b Q hr ra rb h => cmpA_out hr ra rb h⟩
abbrev ltA := cmpA (fun i j => decide (i < j)) fun x y => decide (x < y)
abbrev geA := cmpA (fun i j => decide (j ≤ i)) fun x y => !decide (x < y)
end
/-! ### calls with values by place, then by keyword -/
def dCallM (n : Nat) (ix : List Nat) (F : List D → M D) (g h : FA) : FE := fun ρ => M.bind (g ρ) fun xs => if xs.length = n then M.bind (h ρ) fun ys => if (xs ++ ys).length = ix.length then F (permV ix (xs ++ ys)) else M.fail else M.fail
section
variable {X : Cx} {R : RC} {E : XK} {x : Str} {p pos : Pos} {j k : Nat} {ps : List Str} {st : Stmt} {F : List D → M D}
theorem vals_app {vs vs' : List V} {us us' : List Value} (r : Vals vs us) (r' : Vals vs' us') : Vals (vs ++ vs') (us ++ us') := by
  induction r with
  | nil => exact r'
  | cons h _ ih => exact .cons h ih
theorem rep_app {S : Sto} {H : Hp} {vs vs' : List V} {ds ds' : List D} (r : RepAll R S H vs ds) (r' : RepAll R S H vs' ds') : RepAll R S H (vs ++ vs') (ds ++ ds') := by
  induction vs generalizing ds with
  | nil => cases r; exact r'
  | cons v vs ih => cases r with | cons h t => exact .cons h (ih t)
theorem de_callKM {e : Expr} {es : List Expr} {kws : List Keyword} {ks : List Str} {g h' : FA} (n : Nat) (ix : List Nat) (cx : CxR X R E) (hf : FnD X.prog X.w X.base R x j ps st F) (hr : Room k X.A) (hj : j ≤ k) (hg : Gl X x) (ha : DA X R E (e :: es) g) (hkw : DK X R E kws h')
    (hb : ∀ (kV doc pm : Value) (an : Option Addr) (cdv ct : Value) (us ws : List Value), us.length = n → (us ++ ws).length = ix.length → bindArgs (PySem.W.fnOf x x (defArgs st) (defBody st) (defScope st) .none kV doc pm an cdv ct) ⟨us, ks.zip ws⟩ = pure (ps.zip (permV ix (us ++ ws))))
    (hn : (e :: es).length = n) (hix : ∀ ds : List D, ds.length = ix.length → (permV ix ds).length = ps.length)
    (hall : (backToKw pos (keywordEach kws X.env)).all (·.1.isSome) = true := by rfl) (hks : (backToKw pos (keywordEach kws X.env)).filterMap (·.1) = ks := by rfl)
    (hdb : (x == ("__debug__" : Str)) = false := by decide) (hpl : ((backTo pos (starEach (e :: es) X.env)).any (·.1) || (backToKw pos (keywordEach kws X.env)).any (·.1.isNone)) = false := by rfl) (he : starEach (e :: es) X.env = (false, eval e X.env) :: starEach es X.env := by rfl) :
    DE X R E (.Call (.Name x p) (e :: es) kws pos) (dCallM n ix F g h') := by
  obtain ⟨f, fd, h1, h2, h3, h4⟩ := hf.ex
  obtain ⟨t, a1, a2⟩ := ha.ex
  obtain ⟨u, b1, b2⟩ := hkw.ex
  have K := cx.K
  have G := cx.mg
  rw [← K, ← G] at h1
  obtain ⟨oc, od, kV, doc, pm, an, cdv, ct, osl, hfd, lk, hcd⟩ := h3.ex
  refine ⟨⟨fun σ H Q => t σ H fun ys H1 => ys.length = n ∧ u σ H1 fun zs H2 => (ys ++ zs).length = ix.length ∧ spD R ps.length F (permV ix (ys ++ zs)) H2 Q E, ⟨fun pins s σ H Q I h => ?_⟩, fun S σ H ρ m Q hr' he' h => a2 S σ H ρ m _ hr' he' (h.step fun ds m1 H1 S1 e1 r1 q vs rv => ?_)⟩⟩
  · refine wpAny_Call_Name_kw (ld_glob I hg (by rw [G]; exact h2) ?_ hdb)
    refine PySem.W.callWith_KW (h₀ := X.base) I.ok.mod.kin (by rw [K]; exact h3.kp) hall (thn (a1.run pos pins s σ H _ I h) fun us s1 ⟨ys, H1, I1, r1, hl1, h5⟩ => thn (b1.run pos pins s1 σ H1 _ I1 h5) fun ws s2 ⟨zs, H2, I2, rz, hl, hsp⟩ => ⟨I2.kIn, ?_⟩) hpl he
    rw [hks]
    have rr := vals_app r1 rz
    have r2 := perm_vals rr ix
    have hlu : us.length = n := by rw [← r1.length]; exact hl1
    have hlw : (us ++ ws).length = ix.length := by rw [← rr.length]; exact hl
    have hb' : BindsTo s2 fd ⟨us, ks.zip ws⟩ (ps.zip (permV ix (us ++ ws))) := by
      rw [hfd]
      exact .of_eq (hb kV doc pm an cdv ct us ws hlu hlw)
    refine wpAny_call (codeAny_mono (h1.run X.A X.stack s2 H2 ⟨us, ks.zip ws⟩ (permV ix (us ++ ws)) (permV ix (ys ++ zs)) Q E (hr.mono hj) I2.env0 hb' r2 hsp) fun r s' hq => ?_)
    cases r with
    | error e => exact passes_call cx.tk (fun _ _ _ _ h => h) pins σ H2 s2 e s' I2 hq
    | ok fl =>
      cases fl with
      | ret u => exact I2.after hq
      | next => exact False.elim hq
      | brk => exact False.elim hq
      | cont => exact False.elim hq
  · split at q
    · rename_i hn2
      refine ⟨by rw [rv.length]; exact hn2, b2 S1 σ H1 ρ m1 _ r1 (he'.ext cx.ok e1) (q.step fun ds2 m2 H2 S2 e2 r2 q2 vs2 rv2 => ?_)⟩
      have rr := rep_app (rv.ext cx.ok e2) rv2
      split at q2
      · rename_i hl
        refine ⟨by rw [rr.length]; exact hl, ?_, S2, m2, _, r2, perm_rep rr ix, q2⟩
        rw [(perm_rep rr ix).length]
        exact hix _ hl
      · exact q2.elim
    · exact q.elim
end
end TL
namespace TL
open PySem PySem.Spec PyProof.Rows L2
/-- a def of which nothing is asked -/
theorem Ev.stuck {c : Cfg} {P : Program} {w : World} {base : Heap} {R : RC} (V : Ev c P w base R) {x : Str} {n : Nat} (i : Nat) (hi : c.fns[i]? = some (x, n)) {ps : List Str} {k : Nat}
    (hb : ∀ (kV doc pm : Value) (an : Option Addr) (cdv ct : Value) (us : List Value), us.length = ps.length → bindArgs (PySem.W.fnOf x x (defArgs (c.top n)) (defBody (c.top n)) (defScope (c.top n)) .none kV doc pm an cdv ct) ⟨us, []⟩ = pure (ps.zip us)) :
    FnD P w base R x k ps (c.top n) (fun _ _ => .stuck) := by
  obtain ⟨f, fd, hm, Fu⟩ := V.fns i x n hi
  exact ⟨f, fd, ⟨fun vs H Q E ⟨h, _⟩ => h, fun A outer s H args us vs Q E hr e0 hb rv ⟨_, _, _, _, _, _, z⟩ => z.elim⟩, hm, Fu, Fu.binds hb⟩
end TL
end
section
/-! The data layer: t[::-1] of a tuple. -/
namespace TL
open PySem PySem.Spec PyProof.Rows L2
section
variable {prog : Program} {w : World} {A : Around} {E : Value → Shared → Prop} {s : Shared}
theorem rev_adjust (n : Nat) : Builtin.Slice.sliceAdjust none none (-1) (n : Int) = ((n : Int) - 1, -1) := by
  unfold Builtin.Slice.sliceAdjust
  simp
theorem rev_places (n : Nat) : Builtin.Slice.slicePlaces ((n : Int) - 1) (-1) (-1) = n := by
  unfold Builtin.Slice.slicePlaces
  have h1 : ¬ ((-1 : Int) > 0) := by omega
  rw [if_neg h1]
  by_cases h : (n : Int) - 1 > -1
  · rw [if_pos h]
    have : ((n : Int) - 1 - -1 - 1) / (- -1) = (n : Int) - 1 := by
      rw [show (- -1 : Int) = 1 from rfl, Int.ediv_one]
      omega
    rw [this]
    omega
  · rw [if_neg h]
    omega
theorem rev_pick (xs : Array Value) : ((List.range xs.size).filterMap fun (m : Nat) => xs[(((xs.size : Int) - 1) + (m : Int) * (-1)).toNat]?).toArray = xs.toList.reverse.toArray := by
  have e : (fun (m : Nat) => xs[(((xs.size : Int) - 1) + (m : Int) * (-1)).toNat]?) = (fun k => xs[k]?) ∘ fun m => xs.size - 1 - m := by
    funext m
    show _ = xs[xs.size - 1 - m]?
    have : (((xs.size : Int) - 1) + (m : Int) * (-1)).toNat = xs.size - 1 - m := by omega
    rw [this]
  rw [e, ← List.filterMap_map, PySem.W.krv_range, List.filterMap_reverse, PySem.W.krv_all]
theorem rev_applied {sl : Addr} {u : Tok} {n : Nat} {Q : Int × Int × Nat → Shared → Prop} (hs : s.heap.IsSliceOf sl .none .none (.int (-1) u)) (h : Q ((n : Int) - 1, -1, n) s) : wpAny (model prog w) A (Builtin.Slice.sliceApplied (.ref sl) (pure (n : Int))) Q E s := by
  obtain ⟨o, ho, _, hd⟩ := id hs
  unfold Builtin.Slice.sliceApplied Builtin.Slice.sliceFields
  refine wpAny_bind (wpAny_bind (wpAny_field ho hd (x := .none) rfl (wpAny_bind (wpAny_field ho hd (x := .none) rfl (wpAny_bind (wpAny_field ho hd (x := .int (-1) u) rfl (wpAny_pure ?_)))))))
  refine wpAny_bind (HT.slicePart_ (.int (-1) u) ?_)
  show wpAny _ _ (if ((-1 : Int) == 0) = true then _ else _) _ _ s
  rw [if_neg (by decide)]
  refine wpAny_bind (HT.slicePart_ .none (wpAny_bind (HT.slicePart_ .none (wpAny_bind (wpAny_pure ?_)))))
  show wpAny _ _ (match Builtin.Slice.sliceAdjust none none (-1) (n : Int) with | (a, b) => pure (a, (-1 : Int), Builtin.Slice.slicePlaces a b (-1))) _ _ s
  rw [rev_adjust]
  show wpAny _ _ (pure ((n : Int) - 1, (-1 : Int), Builtin.Slice.slicePlaces ((n : Int) - 1) (-1) (-1))) _ _ s
  rw [rev_places]
  exact wpAny_pure h
theorem getItem_rev {t sl : Addr} {items : Array Value} {u : Tok} {Q : Value → Shared → Prop} (ht : IsTup s.heap t items) (hs : s.heap.IsSliceOf sl .none .none (.int (-1) u))
    (h : Q (.ref s.heap.objs.size) { s with heap := s.heap.push { cls := .type "tuple", data := .seq items.toList.reverse.toArray } }) (hsz : items.size ≤ sizeLine) : wpAny (model prog w) A (getItem (.ref t) (.ref sl)) Q E s := by
  have hsize : sizeOk (.seq items.toList.reverse.toArray) := by
    show items.toList.reverse.toArray.size ≤ sizeLine
    rw [List.size_toArray, List.length_reverse, Array.length_toList]
    exact hsz
  obtain ⟨o, ho, hc, _⟩ := id hs
  have hT : s.TypeIs (.ref sl) "slice" := ⟨o, ho, hc⟩
  unfold getItem
  (try with_reducible refine wpAny_holding ?_)
  (first | refine wpAny_bind (wpAny_pure ?_) | skip)
  refine wpAny_bind (wpAny_sequenceKey ht.typeIs (by decide) ?_)
  refine wpAny_bind (wpAny_callSpecial?_slot (name := Str.ofString "__getitem__") ht.typeIs PyProof.Rows.slot_tuple_getitem
    (wpAny_call_entry PyProof.Rows.slot_tuple_getitem ht.typeIs entry_tuple_getitem ?_ (args_tuple_getitem _ _)))
  show wpAny _ _ (Builtin.Tuple.tupleItemsOf (.ref t) >>= _) _ _ s
  refine wpAny_bind (tupleItemsOf_ ht ?_)
  refine wpAny_bind (wpAny_typeOf hT ?_)
  rw [if_pos (by decide)]
  refine wpAny_bind (rev_applied hs ?_)
  have hno : ¬ ((((items.size : Int) - 1) == 0 && (-1 : Int) == 1 && items.size == items.size) = true) := by
    intro q
    rw [Bool.and_eq_true, Bool.and_eq_true] at q
    exact absurd q.1.2 (by decide)
  show wpAny _ _ (if (((items.size : Int) - 1) == 0 && (-1 : Int) == 1 && items.size == items.size) = true then _ else _) _ _ s
  rw [if_neg hno, rev_pick]
  exact wpAny_bind (m := Builtin.Tuple.tupleExact _) (wpAny_newObj_type (wpAny_pure ⟨_, rfl, wpAny_pure h⟩) hsize)
end
/-- t[::-1] -/
def revD (a : D) : M D := fun m => match a with
  | .tup xs => if short xs then .ok (.tup xs.reverse) m else .stuck
  | _ => .stuck
def dRev (f : FE) : FE := fun ρ => M.bind (f ρ) revD
section
variable {X : Cx} {R : RC} {E : XK} {e : Expr} {te : TE} {f : FE} {k3 : Nat} {p2 p3 p4 pos : Pos}
theorem pe_rev (he : PE X e te) : PE X (.Subscript e (.Slice none none (some (.UnaryOp .USub (.Constant (.int 1) k3 p3) p4)) p2) pos) (fun σ H Q => te σ H fun x H1 => ∃ a xs, x = .ref a ∧ SqT X.K H1 a xs ∧ ∀ p, H1 p = none → Q (.ref p) (upd H1 p (.tup xs.reverse))) := by
  refine ⟨fun pins s σ H Q I h => ?_⟩
  refine Subscript_ (thn (he.run pins s σ H _ I h) fun v s1 ⟨x, H1, I1, r1, a, xs, ex, hx, q1⟩ => ?_)
  refine wpAny_Slice ?_
  rw [evalPart_none]
  refine wpAny_pure ?_
  refine wpAny_pure ?_
  rw [evalPart_some]
  have st : PE X (.UnaryOp .USub (.Constant (.int 1) k3 p3) p4) _ := pe_un un_neg pe_int
  refine thn (st.run pins s1 σ H1 (fun z H2 => z = .int (-1) ∧ H2 = H1) I1 ⟨_, rfl, rfl, rfl⟩) fun vs s2 ⟨z, H2, I2, r2, ez, eH⟩ => ?_
  subst ez eH ex
  obtain ⟨u, rfl⟩ := r2
  cases r1
  have I4 : Inv X pins σ H2 { s2 with heap := s2.heap.push { cls := .type "slice", data := .fields #[.none, .none, .int (-1) u] } } := I2.kept (t' := s2.toks) fun b ob q => Heap.get?_push_of_some _ q
  obtain ⟨its, r, ht, hz⟩ := I4.tuple hx
  have hlen : its.toArray.size = xs.length := by rw [List.size_toArray]; exact r.length.symm
  have hs : (s2.heap.push { cls := .type "slice", data := .fields #[.none, .none, .int (-1) u] }).IsSliceOf s2.heap.objs.size .none .none (.int (-1) u) := Heap.IsSliceOf.new ..
  show wpAny (model X.prog X.w) X.A (subscriptTail e (.Slice none none (some (.UnaryOp .USub (.Constant (.int 1) k3 p3) p4)) p2) (.ref a) (.ref s2.heap.objs.size)) (EP X pins σ Q) X.xe { s2 with heap := s2.heap.push { cls := .type "slice", data := .fields #[.none, .none, .int (-1) u] } }
  refine tail_any (ops := [.ref a, .ref s2.heap.objs.size]) ht.typeIs PyProof.Rows.slot_tuple_getitem.lookup (getItem_rev ht hs ?_ (by rw [hlen]; exact hz)) (by with_unfolding_all rfl)
  refine ⟨.ref _, _, I4.laid (t' := s2.toks) (o := .tup xs.reverse) (fun b ob q => Heap.get?_push_of_some _ q) (Nat.le_refl _) ?_, rfl, q1 _ (I4.hok.fresh (Nat.le_refl _))⟩
  exact ⟨by rw [List.length_reverse]; exact hz, _, r.reverse, IsTup.new _ _⟩
theorem rep_rev {S : Sto} {H : Hp} {vs : List V} {ds : List D} (r : RepAll R S H vs ds) : RepAll R S H vs.reverse ds.reverse := by
  induction vs generalizing ds with
  | nil => cases r; exact .nil
  | cons v vs ih =>
    cases r with
    | cons h t =>
      rw [List.reverse_cons, List.reverse_cons]
      exact rep_app (ih t) (.cons h .nil)
theorem de_rev (cx : CxR X R E) (he : DE X R E e f) : DE X R E (.Subscript e (.Slice none none (some (.UnaryOp .USub (.Constant (.int 1) k3 p3) p4)) p2) pos) (dRev f) := by
  obtain ⟨t, a1, a2⟩ := he.ex
  refine ⟨⟨_, pe_rev a1, fun S σ H ρ m Q hr he h => a2 S σ H ρ m _ hr he (h.step fun d m1 H1 S1 e1 r1 q v rv => ?_)⟩⟩
  unfold revD at q
  cases d with
  | tup xs =>
    dsimp only at q
    split at q
    · rename_i hs
      obtain ⟨a, vs, rfl, hq, rvs, ht⟩ := tupD_out rv rfl
      refine ⟨a, vs, rfl, by rw [cx.K]; exact hq, fun p hp => ?_⟩
      have rr : RepAll R S1 H1 vs.reverse xs.reverse := rep_rev rvs
      have h' : RoutG R S1 H1 E (PV R Q) (newT xs.reverse m1) := by
        unfold newT
        rw [if_pos (by unfold short at *; rw [List.length_reverse]; exact hs)]
        exact q
      exact (newT_out cx.ok r1 rr h').2 p hp
    · exact q.elim
  | _ => exact q.elim
end
end TL
end
section
/-! The data layer: what the data functions give (no program in sight). -/
namespace TL
open PySem PySem.Spec PyProof.Rows L2
/-- the outcome is a value with P -/
def wp {α : Type} (x : Res α) (P : α → MS → Prop) : Prop := match x with | .ok a m => P a m | _ => False
section
variable {α β : Type} {P : α → MS → Prop} {m : MS} {ρ : Env'}
@[simp] theorem wp_ok {a : α} : wp (.ok a m) P ↔ P a m := Iff.rfl
@[simp] theorem wp_stuck : wp (.stuck : Res α) P ↔ False := Iff.rfl
theorem wp_elim {x : Res α} (h : wp x P) : ∃ a m', x = .ok a m' ∧ P a m' := by
  cases x with
  | ok a m' => exact ⟨a, m', rfl, h⟩
  | _ => exact h.elim
theorem wp_eq {x : Res α} {a : α} {m' : MS} (e : x = .ok a m') (h : P a m') : wp x P := by rw [e]; exact h
theorem wp_mono {x : Res α} {Q : α → MS → Prop} (h : wp x P) (k : ∀ a m', P a m' → Q a m') : wp x Q := by
  cases x with
  | ok a m' => exact k _ _ h
  | _ => exact h.elim
@[simp] theorem wp_bind {x : M β} {k : β → M α} : wp (M.bind x k m) P ↔ wp (x m) fun b m' => wp (k b m') P := by
  unfold M.bind
  cases x m <;> exact Iff.rfl
@[simp] theorem wp_ite {c : Prop} [Decidable c] {x y : Res α} : wp (if c then x else y) P ↔ (if c then wp x P else wp y P) := by
  split <;> exact Iff.rfl
/-! expressions -/
variable {PD : D → MS → Prop} {PB' : Bool → MS → Prop} {PA' : List D → MS → Prop} {PF' : Fl → MS → Prop}
@[simp] theorem wp_var {i : Nat} : wp (dVar i ρ m) PD ↔ (match look ρ i with | some d => PD d m | none => False) := by
  unfold dVar
  cases look ρ i <;> exact Iff.rfl
@[simp] theorem wp_c {d : D} : wp (dC d ρ m) PD ↔ PD d m := Iff.rfl
@[simp] theorem wp_bin {g : D → D → M D} {fa fb : FE} : wp (dBin g fa fb ρ m) PD ↔ wp (fa ρ m) fun a m1 => wp (fb ρ m1) fun b m2 => wp (g a b m2) PD := by
  unfold dBin
  simp only [wp_bind]
@[simp] theorem wp_toB {f : FE} : wp (toB f ρ m) PB' ↔ wp (f ρ m) fun d m' => match d with | .bl k => PB' k m' | _ => False := by
  unfold toB
  simp only [wp_bind]
  constructor
  · exact fun h => wp_mono h fun a m' k => by cases a <;> first | exact k | exact k.elim
  · exact fun h => wp_mono h fun a m' k => by cases a <;> first | exact k | exact k.elim
@[simp] theorem wp_bAnd {f g : FB} : wp (bAnd f g ρ m) PB' ↔ wp (f ρ m) fun k m' => if k then wp (g ρ m') PB' else PB' false m' := by
  unfold bAnd
  simp only [wp_bind]
  constructor <;> exact fun h => wp_mono h fun k m' q => by cases k <;> exact q
@[simp] theorem wp_bOr {f g : FB} : wp (bOr f g ρ m) PB' ↔ wp (f ρ m) fun k m' => if k then PB' true m' else wp (g ρ m') PB' := by
  unfold bOr
  simp only [wp_bind]
  constructor <;> exact fun h => wp_mono h fun k m' q => by cases k <;> exact q
@[simp] theorem wp_bNot {f : FB} : wp (bNot f ρ m) PB' ↔ wp (f ρ m) fun k m' => PB' (!k) m' := by
  unfold bNot
  simp only [wp_bind, wp_ok]
@[simp] theorem wp_bIf {g f h : FB} : wp (bIf g f h ρ m) PB' ↔ wp (g ρ m) fun k m' => if k then wp (f ρ m') PB' else wp (h ρ m') PB' := by
  unfold bIf
  simp only [wp_bind]
  constructor <;> exact fun h => wp_mono h fun k m' q => by cases k <;> exact q
@[simp] theorem wp_bYes : wp (bYes ρ m) PB' ↔ PB' true m := Iff.rfl
@[simp] theorem wp_dAnd {f g : FE} : wp (dAnd f g ρ m) PD ↔ wp (toB f ρ m) fun k m' => if k then wp (g ρ m') PD else PD (.bl false) m' := by
  unfold dAnd
  rw [wp_bind]
  constructor <;> exact fun h => wp_mono h fun k m' q => by cases k <;> exact q
@[simp] theorem wp_dOr {f g : FE} : wp (dOr f g ρ m) PD ↔ wp (toB f ρ m) fun k m' => if k then PD (.bl true) m' else wp (g ρ m') PD := by
  unfold dOr
  rw [wp_bind]
  constructor <;> exact fun h => wp_mono h fun k m' q => by cases k <;> exact q
@[simp] theorem wp_dNot {f : FE} : wp (dNot f ρ m) PD ↔ wp (toB f ρ m) fun k m' => PD (.bl (!k)) m' := by
  unfold dNot
  simp only [wp_bind, wp_ok]
@[simp] theorem wp_dIf {g : FB} {f h : FE} : wp (dIf g f h ρ m) PD ↔ wp (g ρ m) fun k m' => if k then wp (f ρ m') PD else wp (h ρ m') PD := by
  unfold dIf
  simp only [wp_bind]
  constructor <;> exact fun h => wp_mono h fun k m' q => by cases k <;> exact q
@[simp] theorem wp_dNeg {f : FE} : wp (dNeg f ρ m) PD ↔ wp (f ρ m) fun d m' => wp (negD d m') PD := by
  unfold dNeg
  simp only [wp_bind]
@[simp] theorem wp_negD {i : Int} : wp (negD (.int i) m) PD ↔ PD (.int (-i)) m := Iff.rfl
@[simp] theorem wp_chain {g g' : D → D → M D} {fa fb fc : FE} : wp (dChain g g' fa fb fc ρ m) PD ↔ wp (fa ρ m) fun a m1 => wp (fb ρ m1) fun b m2 => wp (g a b m2) fun z m3 => match z with
    | .bl k => if k then wp (fc ρ m3) fun c m4 => wp (g' b c m4) PD else PD (.bl false) m3
    | _ => False := by
  unfold dChain
  simp only [wp_bind]
  constructor
  · exact fun h => wp_mono h fun a m1 h => wp_mono h fun b m2 h => wp_mono h fun z m3 h => by
      cases z with
      | bl k => cases k <;> simpa [asB] using h
      | _ => exact h.elim
  · exact fun h => wp_mono h fun a m1 h => wp_mono h fun b m2 h => wp_mono h fun z m3 h => by
      cases z with
      | bl k => cases k <;> simpa [asB] using h
      | _ => exact h.elim
@[simp] theorem wp_aNil : wp (aNil ρ m) PA' ↔ PA' [] m := Iff.rfl
@[simp] theorem wp_aCons {f : FE} {g : FA} : wp (aCons f g ρ m) PA' ↔ wp (f ρ m) fun d m1 => wp (g ρ m1) fun ds m2 => PA' (d :: ds) m2 := by
  unfold aCons
  simp only [wp_bind, wp_ok]
@[simp] theorem wp_dTup {g : FA} : wp (dTup g ρ m) PD ↔ wp (g ρ m) fun ds m' => wp (newT ds m') PD := by
  unfold dTup
  simp only [wp_bind]
@[simp] theorem wp_dLst {fr : Bool} {g : FA} : wp (dLst fr g ρ m) PD ↔ wp (g ρ m) fun ds m' => wp (newL fr ds m') PD := by
  unfold dLst
  simp only [wp_bind]
@[simp] theorem wp_newT {ds : List D} : wp (newT ds m) PD ↔ (ds.length ≤ 1000000 ∧ PD (.tup ds) m) := by
  unfold newT short
  simp
@[simp] theorem wp_newLf {ds : List D} : wp (newL false ds m) PD ↔ (ds.length ≤ 1000000 ∧ PD (.lst ds) m) := by
  unfold newL short
  simp
@[simp] theorem wp_newLt {ds : List D} : wp (newL true ds m) PD ↔ (ds.length ≤ 1000000 ∧ PD (.ref m.objs.length) { m with objs := m.objs ++ [.lst ds] }) := by
  unfold newL short
  simp
@[simp] theorem wp_callB {g : List D → M D} {fa : FA} : wp (dCallB g fa ρ m) PD ↔ wp (fa ρ m) fun ds m' => wp (g ds m') PD := by
  unfold dCallB
  simp only [wp_bind]
@[simp] theorem wp_call {F : List D → M D} {g : FA} : wp (dCall F g ρ m) PD ↔ wp (g ρ m) fun ds m' => wp (F ds m') PD := by
  unfold dCall
  simp only [wp_bind]
@[simp] theorem wp_lenF {n : Nat} {F : List D → M D} {ds : List D} (h : ds.length = n) : wp (lenF n F ds m) PD ↔ wp (F ds m) PD := by
  unfold lenF
  rw [if_pos h]
@[simp] theorem wp_permF {ix : List Nat} {F : List D → M D} {ds : List D} (h : ds.length = ix.length) : wp (permD ix F ds m) PD ↔ wp (F (permV ix ds) m) PD := by
  unfold permD
  rw [if_pos h]
@[simp] theorem wp_dMeth {T : String} {g : D → List D → M D} {fo : FE} {ga : FA} : wp (dMeth T g fo ga ρ m) PD ↔ wp (fo ρ m) fun o m1 => wp (chk T o m1) fun _ m2 => wp (ga ρ m2) fun ds m3 => wp (g o ds m3) PD := by
  unfold dMeth
  simp only [wp_bind]
@[simp] theorem wp_arg1 {g : D → M D} {d : D} : wp (arg1 g [d] m) PD ↔ wp (g d m) PD := Iff.rfl
@[simp] theorem wp_arg2 {g : D → D → M D} {d e : D} : wp (arg2 g [d, e] m) PD ↔ wp (g d e m) PD := Iff.rfl
@[simp] theorem wp_intI {f : Int → Int → Int} {c : Int → Int → Bool} {i j : Int} : wp (intI f c (.int i) (.int j) m) PD ↔ (c i j = true ∧ PD (.int (f i j)) m) := by
  unfold intI
  simp
@[simp] theorem wp_intB {f : Int → Int → Bool} {i j : Int} : wp (intB f (.int i) (.int j) m) PD ↔ PD (.bl (f i j)) m := Iff.rfl
@[simp] theorem wp_add {fr : Bool} {i j : Int} : wp (addD fr (.int i) (.int j) m) PD ↔ PD (.int (i + j)) m := Iff.rfl
@[simp] theorem wp_mul {fr : Bool} {i j : Int} : wp (mulD fr (.int i) (.int j) m) PD ↔ (mulOk i j = true ∧ PD (.int (i * j)) m) := by
  unfold mulD
  simp
@[simp] theorem always_eq {i j : Int} : always i j = true := rfl
/-! statements -/
@[simp] theorem wp_sNext : wp (sNext ρ m) PF' ↔ PF' (.next ρ) m := Iff.rfl
@[simp] theorem wp_seq {u v : FS} : wp (sSeq u v ρ m) PF' ↔ wp (u ρ m) fun fl m' => match fl with | .next ρ' => wp (v ρ' m') PF' | fl => PF' fl m' := by
  unfold sSeq
  simp only [wp_bind]
  constructor <;> exact fun h => wp_mono h fun fl m' q => by cases fl <;> exact q
@[simp] theorem wp_sRet {f : FE} : wp (sRet f ρ m) PF' ↔ wp (f ρ m) fun d m' => PF' (.ret d) m' := by
  unfold sRet
  simp only [wp_bind, wp_ok]
@[simp] theorem wp_sRetN : wp (sRetN ρ m) PF' ↔ PF' (.ret .non) m := Iff.rfl
@[simp] theorem wp_sExpr {f : FE} : wp (sExpr f ρ m) PF' ↔ wp (f ρ m) fun _ m' => PF' (.next ρ) m' := by
  unfold sExpr
  simp only [wp_bind, wp_ok]
@[simp] theorem wp_sIf {g : FB} {u v : FS} : wp (sIf g u v ρ m) PF' ↔ wp (g ρ m) fun k m' => if k then wp (u ρ m') PF' else wp (v ρ m') PF' := by
  unfold sIf
  simp only [wp_bind]
  constructor <;> exact fun h => wp_mono h fun k m' q => by cases k <;> exact q
@[simp] theorem wp_sAsg {f : FE} {g : FG} : wp (sAsg f g ρ m) PF' ↔ wp (f ρ m) fun d m1 => wp (g d ρ m1) fun ρ' m2 => PF' (.next ρ') m2 := by
  unfold sAsg
  simp only [wp_bind, wp_ok]
@[simp] theorem wp_gN {i : Nat} {d : D} {PE' : Env' → MS → Prop} : wp (gN i d ρ m) PE' ↔ PE' (ρ.set i (some d)) m := Iff.rfl
@[simp] theorem wp_par2 {i j : Nat} {g : FA} : wp (sPar2 i j g ρ m) PF' ↔ wp (g ρ m) fun ds m' => match ds with | [d, d'] => PF' (.next ((ρ.set i (some d)).set j (some d'))) m' | _ => False := by
  unfold sPar2
  simp only [wp_bind]
  constructor
  · exact fun h => wp_mono h fun ds m' q => by
      split at q
      · exact q
      · exact q.elim
  · exact fun h => wp_mono h fun ds m' q => by
      split at q
      · exact q
      · exact q.elim
/-- a def's body -/
theorem wp_bodyF {u : FS} {n : Nat} {ds : List D} (h : wp (u (startD n ds) m) fun fl m' => match fl with | .ret d => PD d m' | .next _ => PD .non m' | _ => False) : wp (bodyF u n ds m) PD := by
  unfold bodyF
  rw [wp_bind]
  exact wp_mono h fun fl m' q => by cases fl <;> exact q
@[simp] theorem wp_bodyF' {u : FS} {n : Nat} {ds : List D} : wp (bodyF u n ds m) PD ↔ wp (u (startD n ds) m) fun fl m' => match fl with | .ret d => PD d m' | .next _ => PD .non m' | _ => False := by
  unfold bodyF
  rw [wp_bind]
  constructor <;> exact fun h => wp_mono h fun fl m' q => by cases fl <;> exact q

/-! loops -/
theorem wp_lcW {ok : MS → Prop} {g : FG} {tt : FB} {te : FE} (I : List D → List D → MS → Prop) {PL : List D → MS → Prop}
    (step : ∀ d ds acc m, I (d :: ds) acc m → ok m ∧ wp (g d ρ m) fun ρ1 m1 => wp (tt ρ1 m1) fun k m2 => if k then wp (te ρ1 m2) fun y m3 => I ds (acc ++ [y]) m3 else I ds acc m2)
    (done : ∀ acc m, I [] acc m → ok m ∧ PL acc m) : ∀ (items acc : List D) (m : MS), I items acc m → wp (lcW ok g tt te ρ items m) fun ys m' => PL (acc ++ ys) m'
  | [], acc, m, h => by
    obtain ⟨h1, h2⟩ := done acc m h
    unfold lcW
    rw [if_pos h1]
    simpa using h2
  | d :: ds, acc, m, h => by
    obtain ⟨h1, h2⟩ := step d ds acc m h
    unfold lcW
    rw [if_pos h1]
    rw [wp_bind]
    refine wp_mono h2 fun ρ1 m1 h3 => ?_
    rw [wp_bind]
    refine wp_mono h3 fun k m2 h4 => ?_
    cases k with
    | false => exact wp_lcW I step done ds acc m2 h4
    | true =>
      rw [if_pos rfl] at h4 ⊢
      rw [wp_bind]
      refine wp_mono h4 fun y m3 h5 => ?_
      rw [wp_bind]
      refine wp_mono (wp_lcW I step done ds (acc ++ [y]) m3 h5) fun ys m4 h6 => ?_
      simpa using h6
theorem wp_lcW_all {ok : MS → Prop} {g : FG} {tt : FB} {te : FE} (I : List D → List D → MS → Prop) {PL : List D → MS → Prop} {items : List D} (h0 : I items [] m)
    (step : ∀ d ds acc m, I (d :: ds) acc m → ok m ∧ wp (g d ρ m) fun ρ1 m1 => wp (tt ρ1 m1) fun k m2 => if k then wp (te ρ1 m2) fun y m3 => I ds (acc ++ [y]) m3 else I ds acc m2)
    (done : ∀ acc m, I [] acc m → ok m ∧ PL acc m) : wp (lcW ok g tt te ρ items m) PL := by
  simpa using wp_lcW I step done items [] m h0
/-- nothing written; some left out -/
theorem wp_lcW_filter {ok : MS → Prop} {g : FG} {tt : FB} {te : FE} (p : D → Bool) (f : D → D) {PL : List D → MS → Prop} {items : List D} (hok : ok m)
    (step : ∀ d ∈ items, wp (g d ρ m) fun ρ1 m1 => m1 = m ∧ wp (tt ρ1 m) fun k m2 => k = p d ∧ m2 = m ∧ (p d = true → wp (te ρ1 m) fun y m3 => y = f d ∧ m3 = m)) (done : PL ((items.filter p).map f) m) : wp (lcW ok g tt te ρ items m) PL := by
  refine wp_lcW_all (fun ds acc m' => m' = m ∧ ∃ pre, items = pre ++ ds ∧ acc = (pre.filter p).map f) ⟨rfl, [], rfl, rfl⟩ ?_ ?_
  · rintro d ds acc m' ⟨rfl, pre, e, ea⟩
    refine ⟨hok, wp_mono (step d (by rw [e]; simp)) fun ρ1 m1 h => ?_⟩
    obtain ⟨rfl, h⟩ := h
    refine wp_mono h fun k m2 h => ?_
    obtain ⟨rfl, rfl, h⟩ := h
    cases hp : p d with
    | false =>
      rw [if_neg Bool.false_ne_true]
      exact ⟨rfl, pre ++ [d], by rw [e]; simp, by rw [ea]; simp [hp]⟩
    | true =>
      rw [if_pos rfl]
      refine wp_mono (h hp) fun y m3 h => ?_
      obtain ⟨rfl, rfl⟩ := h
      exact ⟨rfl, pre ++ [d], by rw [e]; simp, by rw [ea]; simp [hp]⟩
  · rintro acc m' ⟨rfl, pre, e, ea⟩
    rw [List.append_nil] at e
    subst e
    exact ⟨hok, by rw [ea]; exact done⟩
theorem wp_lcW_map {ok : MS → Prop} {g : FG} {te : FE} (f : D → D) {PL : List D → MS → Prop} {items : List D} (hok : ok m)
    (step : ∀ d ∈ items, wp (g d ρ m) fun ρ1 m1 => m1 = m ∧ wp (te ρ1 m) fun y m3 => y = f d ∧ m3 = m) (done : PL (items.map f) m) : wp (lcW ok g bYes te ρ items m) PL := by
  refine wp_lcW_filter (fun _ => true) f hok (fun d hd => wp_mono (step d hd) fun ρ1 m1 h => ⟨h.1, ?_⟩) (by rw [show items.filter (fun _ => true) = items from List.filter_eq_self.mpr fun _ _ => rfl]; exact done)
  simpa using h.2
@[simp] theorem wp_noX {x : Res α} : wp (noX x) P ↔ wp x P := by
  cases x <;> exact Iff.rfl
@[simp] theorem wp_dLc {fr : Bool} {vs : List Nat} {fi : Env' → M ItD} {g : FG} {tt : FB} {te : FE} : wp (dLc fr vs fi g tt te ρ m) PD ↔ wp (fi ρ m) fun it m1 => wp (lcW it.Ok g tt te (wipeD ρ vs) it.items m1) fun zs m2 => wp (newL fr zs m2) PD := by
  unfold dLc
  simp only [wp_bind, wp_noX]
theorem wp_forW {ok : MS → Prop} {g : FG} {body : FS} (I : List D → Env' → MS → Prop)
    (step : ∀ d ds ρ m, I (d :: ds) ρ m → ok m ∧ wp (g d ρ m) fun ρ1 m1 => wp (body ρ1 m1) fun fl m2 => match fl with | .next ρ2 => I ds ρ2 m2 | .cont ρ2 => I ds ρ2 m2 | .brk ρ2 => PF' (.next ρ2) m2 | .ret d => PF' (.ret d) m2)
    (done : ∀ ρ m, I [] ρ m → ok m ∧ PF' (.next ρ) m) : ∀ (items : List D) (ρ : Env') (m : MS), I items ρ m → wp (forW ok g body items ρ m) PF'
  | [], ρ, m, h => by
    obtain ⟨h1, h2⟩ := done ρ m h
    unfold forW
    rw [if_pos h1]
    exact h2
  | d :: ds, ρ, m, h => by
    obtain ⟨h1, h2⟩ := step d ds ρ m h
    unfold forW
    rw [if_pos h1]
    rw [wp_bind]
    refine wp_mono h2 fun ρ1 m1 h3 => ?_
    rw [wp_bind]
    refine wp_mono h3 fun fl m2 h4 => ?_
    cases fl with
    | next ρ2 => exact wp_forW I step done ds ρ2 m2 h4
    | cont ρ2 => exact wp_forW I step done ds ρ2 m2 h4
    | brk ρ2 => exact h4
    | ret d => exact h4
@[simp] theorem wp_sFor {fi : Env' → M ItD} {g : FG} {body : FS} : wp (sFor fi g body ρ m) PF' ↔ wp (fi ρ m) fun it m1 => wp (forW it.Ok g body it.items ρ m1) PF' := by
  unfold sFor
  simp only [wp_bind]
theorem loopW_wp {g : FB} {body : FS} (I : Nat → Env' → MS → Prop)
    (step : ∀ n ρ m, I n ρ m → wp (g ρ m) fun k m1 => if k then wp (body ρ m1) fun fl m2 => match fl with | .next ρ2 => ∃ n', n' < n ∧ I n' ρ2 m2 | .cont ρ2 => ∃ n', n' < n ∧ I n' ρ2 m2 | .brk ρ2 => PF' (.next ρ2) m2 | .ret d => PF' (.ret d) m2 else PF' (.next ρ) m1) :
    ∀ (b n : Nat) (ρ : Env') (m : MS), n < b → I n ρ m → wp (loopW g body b ρ m) PF'
  | 0, _, _, _, h, _ => absurd h (Nat.not_lt_zero _)
  | b + 1, n, ρ, m, hb, h => by
    unfold loopW
    rw [wp_bind]
    refine wp_mono (step n ρ m h) fun k m1 h1 => ?_
    cases k with
    | false => exact h1
    | true =>
      rw [if_pos rfl] at h1 ⊢
      rw [wp_bind]
      refine wp_mono h1 fun fl m2 h2 => ?_
      cases fl with
      | next ρ2 =>
        obtain ⟨n', l, q⟩ := h2
        exact loopW_wp I step b n' ρ2 m2 (by omega) q
      | cont ρ2 =>
        obtain ⟨n', l, q⟩ := h2
        exact loopW_wp I step b n' ρ2 m2 (by omega) q
      | brk ρ2 => exact h2
      | ret d => exact h2
theorem wp_while {g : FB} {body : FS} (I : Nat → Env' → MS → Prop) {n : Nat}
    (step : ∀ n ρ m, I n ρ m → wp (g ρ m) fun k m1 => if k then wp (body ρ m1) fun fl m2 => match fl with | .next ρ2 => ∃ n', n' < n ∧ I n' ρ2 m2 | .cont ρ2 => ∃ n', n' < n ∧ I n' ρ2 m2 | .brk ρ2 => PF' (.next ρ2) m2 | .ret d => PF' (.ret d) m2 else PF' (.next ρ) m1) (h : I n ρ m) :
    wp (sWhile g body ρ m) PF' := by
  have q := loopW_wp I step (n + 1) n ρ m (Nat.lt_succ_self n) h
  have e := sWhile_eq (g := g) (body := body) (ρ := ρ) (m := m) (n + 1) rfl (fun z => by rw [z] at q; exact q)
  rw [e]
  exact q
end
end TL
end
section
/-! The data layer: what the data functions give: the built-in parts. -/
namespace TL
open PySem PySem.Spec PyProof.Rows L2
section
variable {P : D → MS → Prop} {PI : ItD → MS → Prop} {PU : Unit → MS → Prop} {m : MS} {ρ : Env'}
@[simp] theorem wp_isiX_ty {sb : Str → Str → Option Bool} {d : D} {T : Tn} : wp (isiX sb d (.ty T) m) P ↔ (match tyN m d with | some t => P (.bl (isT t T)) m | none => False) := by
  rw [show isiX sb d (.ty T) = isiD d (.ty T) by cases d <;> rfl]
  unfold isiD
  dsimp only
  cases tyN m d <;> exact Iff.rfl
@[simp] theorem wp_isiX_tup {sb : Str → Str → Option Bool} {d : D} {cs : List D} : wp (isiX sb d (.tup cs) m) P ↔ (match tyN m d with | some t => (match isAny t cs with | some b => P (.bl b) m | none => False) | none => False) := by
  rw [show isiX sb d (.tup cs) = isiD d (.tup cs) by cases d <;> rfl]
  unfold isiD
  dsimp only
  cases tyN m d with
  | none => exact Iff.rfl
  | some t =>
    dsimp only
    cases isAny t cs <;> exact Iff.rfl
@[simp] theorem wp_isiX_exn {sb : Str → Str → Option Bool} {k k' : Str} {fs : List (Str × D)} : wp (isiX sb (.exn k fs) (.fn k') m) P ↔ (match sb k k' with | some b => P (.bl b) m | none => False) := by
  show wp (match sb k k' with | some b => Res.ok (D.bl b) m | none => .stuck) P ↔ _
  cases sb k k' <;> exact Iff.rfl
@[simp] theorem wp_fldX {ok : Str → Bool} {n c g : Str} {v : D} : wp (fldX ok n (.exn c [(g, v)]) m) P ↔ (g = n ∧ ok c = true) ∧ P v m := by
  show wp ((if g = n ∧ ok c = true then M.pure v else fun _ => .stuck) m) P ↔ _
  split
  · rename_i h
    exact ⟨fun q => ⟨h, q⟩, fun q => q.2⟩
  · rename_i h
    exact ⟨fun q => q.elim, fun q => (h q.1).elim⟩
@[simp] theorem wp_dFld {ok : Str → Bool} {n : Str} {f : FE} : wp (dFld ok n f ρ m) P ↔ wp (f ρ m) fun d m' => wp (fldX ok n d m') P := by
  unfold dFld
  simp only [wp_bind]
@[simp] theorem wp_len_tup {xs : List D} : wp (lenD (.tup xs) m) P ↔ P (.int xs.length) m := Iff.rfl
@[simp] theorem wp_len_lst {xs : List D} : wp (lenD (.lst xs) m) P ↔ P (.int xs.length) m := Iff.rfl
@[simp] theorem wp_len_scr {xs : List Int} : wp (lenD (.scr xs) m) P ↔ P (.int xs.length) m := by
  show wp (Res.ok (D.int (xs.map D.int).length) m) P ↔ _
  rw [List.length_map]
  exact Iff.rfl
@[simp] theorem wp_len_str {s : Str} : wp (lenD (.str s) m) P ↔ (s.length ≤ 1000000 ∧ P (.int s.length) m) := by
  unfold lenD
  simp
@[simp] theorem wp_len_ref {n : Nat} : wp (lenD (.ref n) m) P ↔ (match m.objs[n]? with | some (.lst xs) => P (.int xs.length) m | _ => False) := by
  show wp (match seqD m (.ref n) with | some xs => Res.ok (D.int xs.length) m | none => .stuck) P ↔ _
  rw [show seqD m (.ref n) = (match m.objs[n]? with | some (.lst xs) => some xs | _ => none) from rfl]
  generalize m.objs[n]? = o
  cases o with
  | none => exact Iff.rfl
  | some o => cases o <;> exact Iff.rfl
@[simp] theorem wp_eq_int {neg : Bool} {i j : Int} : wp (eqD neg (.int i) (.int j) m) P ↔ P (.bl (if neg then !decide (i = j) else decide (i = j))) m := by
  show wp (if okD 64 (.int i) && okD 64 (.int j) then Res.ok (.bl (if neg then !(i == j) else (i == j))) m else .stuck) P ↔ _
  rw [show okD 64 (.int i) = true from rfl, show okD 64 (.int j) = true from rfl]
  rfl
/-- == in general -/
theorem wp_eq_gen {neg : Bool} {a b : D} (h1 : okD 64 (flatR m a) = true) (h2 : okD 64 (flatR m b) = true) : wp (eqD neg a b m) P ↔ P (.bl (if neg then !eqvD (flatR m a) (flatR m b) else eqvD (flatR m a) (flatR m b))) m := by
  unfold eqD
  rw [h1, h2]
  exact Iff.rfl
@[simp] theorem wp_is_non {neg : Bool} {a : D} : wp (isD neg a .non m) P ↔ P (.bl (match a with | .non => !neg | _ => neg)) m := Iff.rfl
@[simp] theorem wp_is_bl {neg : Bool} {j k : Bool} : wp (isD neg (.bl j) (.bl k) m) P ↔ P (.bl (if neg then !decide (j = k) else decide (j = k))) m := Iff.rfl
@[simp] theorem wp_ix_tup {xs : List D} {i : Int} : wp (ixD (.tup xs) (.int i) m) P ↔ (match atI xs i with | some d => P d m | none => False) := by
  show wp (match atI xs i with | some d => Res.ok d m | none => .stuck) P ↔ _
  cases atI xs i <;> exact Iff.rfl
@[simp] theorem wp_ix_lst {xs : List D} {i : Int} : wp (ixD (.lst xs) (.int i) m) P ↔ (match atI xs i with | some d => P d m | none => False) := by
  show wp (match atI xs i with | some d => Res.ok d m | none => .stuck) P ↔ _
  cases atI xs i <;> exact Iff.rfl
@[simp] theorem wp_tuple_tup {xs : List D} : wp (tupleD (.tup xs) m) P ↔ P (.tup xs) m := Iff.rfl
@[simp] theorem wp_tuple_lst {xs : List D} : wp (tupleD (.lst xs) m) P ↔ (xs.length ≤ 1000000 ∧ P (.tup xs) m) := wp_newT
@[simp] theorem wp_list_tup {fr : Bool} {xs : List D} : wp (listD fr (.tup xs) m) P ↔ wp (newL fr xs m) P := Iff.rfl
@[simp] theorem wp_list_lst {fr : Bool} {xs : List D} : wp (listD fr (.lst xs) m) P ↔ wp (newL fr xs m) P := Iff.rfl
@[simp] theorem wp_list_str {fr : Bool} {z : Str} : wp (listD fr (.str z) m) P ↔ wp (newL fr (z.cps.toList.map fun c => D.str ⟨#[c]⟩) m) P := Iff.rfl
@[simp] theorem wp_abs {i : Int} : wp (absD (.int i) m) P ↔ P (.int (if i < 0 then -i else i)) m := Iff.rfl
@[simp] theorem wp_int {i : Int} : wp (intD (.int i) m) P ↔ P (.int i) m := Iff.rfl
@[simp] theorem wp_min2 {i j : Int} : wp (min2D (.int i) (.int j) m) P ↔ P (.int (if j < i then j else i)) m := Iff.rfl
@[simp] theorem wp_max2 {i j : Int} : wp (max2D (.int i) (.int j) m) P ↔ P (.int (if j > i then j else i)) m := Iff.rfl
@[simp] theorem wp_gcd {i j : Int} : wp (gcdD (.int i) (.int j) m) P ↔ P (.int ((Nat.gcd i.natAbs j.natAbs : Nat) : Int)) m := Iff.rfl
@[simp] theorem wp_all {xs : List D} : wp (allD (.lst xs) m) P ↔ (match allB xs with | some bs => P (.bl (bs.all _root_.id)) m | none => False) := by
  show wp (match allB xs with | some bs => Res.ok (.bl (bs.all _root_.id)) m | none => .stuck) P ↔ _
  cases allB xs <;> exact Iff.rfl
theorem allB_map {α : Type} (f : α → Bool) : ∀ xs : List α, allB (xs.map fun x => D.bl (f x)) = some (xs.map f)
  | [] => rfl
  | x :: xs => by
    show (allB (xs.map fun x => D.bl (f x))).map (f x :: ·) = _
    rw [allB_map f xs]
    rfl
@[simp] theorem wp_all_map {α : Type} {f : α → Bool} {xs : List α} : wp (allD (.lst (xs.map fun x => D.bl (f x))) m) P ↔ P (.bl (xs.all f)) m := by
  rw [wp_all, allB_map]
  dsimp only
  rw [List.all_map]
  rfl
@[simp] theorem wp_any {xs : List D} : wp (anyD (.lst xs) m) P ↔ (match allB xs with | some bs => P (.bl (bs.any _root_.id)) m | none => False) := by
  show wp (match allB xs with | some bs => Res.ok (.bl (bs.any _root_.id)) m | none => .stuck) P ↔ _
  cases allB xs <;> exact Iff.rfl
/-! iterables -/
@[simp] theorem wp_iSeq {f : FE} : wp (iSeq f ρ m) PI ↔ wp (f ρ m) fun d m' => match d with
  | .str s => s.length ≤ 1000000 ∧ PI ⟨s.cps.toList.map (fun c => .str ⟨#[c]⟩), []⟩ m'
  | d => (match seqD m' d with | some xs => PI ⟨xs, gsD m' d⟩ m' | none => False) := by
  unfold iSeq
  rw [wp_bind]
  constructor
  · exact fun h => wp_mono h fun d m' q => by
      cases d with
      | str s => simpa using q
      | _ =>
        dsimp only at q ⊢
        revert q
        generalize seqD m' _ = o
        cases o <;> exact fun z => z
  · exact fun h => wp_mono h fun d m' q => by
      cases d with
      | str s => simpa using q
      | _ =>
        dsimp only at q ⊢
        revert q
        generalize seqD m' _ = o
        cases o <;> exact fun z => z
@[simp] theorem wp_iRange1 {g : FA} : wp (iRange1 g ρ m) PI ↔ wp (g ρ m) fun ds m' => match ds with | [.int j] => (-(2 ^ 62) ≤ j ∧ j < 2 ^ 62) ∧ PI ⟨rng 0 j.toNat, []⟩ m' | _ => False := by
  unfold iRange1
  rw [wp_bind]
  constructor
  · exact fun h => wp_mono h fun ds m' q => by
      split at q
      · split at q
        · rename_i hh
          exact ⟨hh, q⟩
        · exact q.elim
      · exact q.elim
  · exact fun h => wp_mono h fun ds m' q => by
      split at q
      · (try dsimp only)
        rw [if_pos q.1]
        exact q.2
      · exact q.elim
@[simp] theorem wp_iZip2 {g : FA} : wp (iZip2 g ρ m) PI ↔ wp (g ρ m) fun ds m' => match ds with | [d, d'] => (match seqD m' d, seqD m' d' with | some xs, some ys => PI ⟨zipG xs ys, gsD m' d ++ gsD m' d'⟩ m' | _, _ => False) | _ => False := by
  unfold iZip2
  rw [wp_bind]
  constructor <;> exact fun h => wp_mono h fun ds m' q => by
    rcases ds with _ | ⟨d, _ | ⟨d', _ | _⟩⟩
    · exact q.elim
    · exact q.elim
    · revert q
      dsimp only
      cases seqD m' d <;> cases seqD m' d' <;> exact fun z => z
    · exact q.elim
@[simp] theorem wp_iEnum {g : FA} : wp (iEnum g ρ m) PI ↔ wp (g ρ m) fun ds m' => match ds with | [d] => (match seqD m' d with | some xs => PI ⟨enumG 0 xs, gsD m' d⟩ m' | none => False) | _ => False := by
  unfold iEnum
  rw [wp_bind]
  constructor <;> exact fun h => wp_mono h fun ds m' q => by
    rcases ds with _ | ⟨d, _ | _⟩
    · exact q.elim
    · revert q
      dsimp only
      cases seqD m' d <;> exact fun z => z
    · exact q.elim
@[simp] theorem seq_tup {xs : List D} : seqD m (.tup xs) = some xs := rfl
@[simp] theorem seq_lst {xs : List D} : seqD m (.lst xs) = some xs := rfl
@[simp] theorem seq_scr {xs : List Int} : seqD m (.scr xs) = some (xs.map D.int) := rfl
@[simp] theorem gs_tup {xs : List D} : gsD m (.tup xs) = [] := rfl
@[simp] theorem gs_lst {xs : List D} : gsD m (.lst xs) = [] := rfl
@[simp] theorem gs_scr {xs : List Int} : gsD m (.scr xs) = [] := rfl
@[simp] theorem ok_nil {xs : List D} : (ItD.mk xs []).Ok m ↔ True := ⟨fun _ => trivial, fun _ p hp => by cases hp⟩
theorem ok_nil' {xs : List D} : (ItD.mk xs []).Ok m := fun p hp => by cases hp
/-! the draws -/
theorem wp_ixDr {k : Str} : wp (ixDr .drw (.str k) m) P ↔ (match m.dr with | some d => (if k = ("rest" : Str) then P (.int d.rest) m else if k = ("turn" : Str) then P (.int d.turn) m else if k = ("great" : Str) then P .drg m else if k = ("cells" : Str) then P (.lst (d.cells.map D.int)) m else False) | none => False) := by
  unfold ixDr
  dsimp only
  cases m.dr with
  | none => exact Iff.rfl
  | some d =>
    dsimp only
    repeat' split
    all_goals exact Iff.rfl
@[simp] theorem wp_ixDr_rest : wp (ixDr .drw (.str "rest") m) P ↔ (match m.dr with | some d => P (.int d.rest) m | none => False) := by
  rw [wp_ixDr]
  exact Iff.rfl
@[simp] theorem wp_ixDr_turn : wp (ixDr .drw (.str "turn") m) P ↔ (match m.dr with | some d => P (.int d.turn) m | none => False) := by
  rw [wp_ixDr]
  cases m.dr with
  | none => exact Iff.rfl
  | some d =>
    dsimp only
    rw [if_neg (by decide), if_pos rfl]
@[simp] theorem wp_ixDr_great : wp (ixDr .drw (.str "great") m) P ↔ (match m.dr with | some d => P .drg m | none => False) := by
  rw [wp_ixDr]
  cases m.dr with
  | none => exact Iff.rfl
  | some d =>
    dsimp only
    rw [if_neg (by decide), if_neg (by decide), if_pos rfl]
@[simp] theorem wp_ixDr_cells : wp (ixDr .drw (.str "cells") m) P ↔ (match m.dr with | some d => P (.lst (d.cells.map D.int)) m | none => False) := by
  rw [wp_ixDr]
  cases m.dr with
  | none => exact Iff.rfl
  | some d =>
    dsimp only
    rw [if_neg (by decide), if_neg (by decide), if_neg (by decide), if_pos rfl]
@[simp] theorem wp_putDr_rest {z : Int} : wp (putDr .drw (.str "rest") (.int z) m) PU ↔ (match m.dr with | some dr => PU () { m with dr := some { dr with rest := z } } | none => False) := by
  unfold putDr
  dsimp only
  cases m.dr with
  | none => exact Iff.rfl
  | some d =>
    dsimp only
    rw [if_pos rfl]
    exact Iff.rfl
@[simp] theorem wp_putDr_turn {z : Int} : wp (putDr .drw (.str "turn") (.int z) m) PU ↔ (match m.dr with | some dr => PU () { m with dr := some { dr with turn := z } } | none => False) := by
  unfold putDr
  dsimp only
  cases m.dr with
  | none => exact Iff.rfl
  | some d =>
    dsimp only
    rw [if_neg (by decide), if_pos rfl]
    exact Iff.rfl
theorem okAll_ints (k : Nat) : ∀ xs : List Int, okAll k (xs.map D.int) = true
  | [] => rfl
  | x :: xs => by
    show (okD k (.int x) && okAll k (xs.map D.int)) = true
    rw [okAll_ints k xs]
    cases k <;> rfl
@[simp] theorem wp_drg_nil {neg : Bool} : wp (eqD neg .drg (.lst []) m) P ↔ (match m.dr with | some d => P (.bl (if neg then !d.great.isEmpty else d.great.isEmpty)) m | none => False) := by
  cases e : m.dr with
  | none =>
    unfold eqD flatR
    rw [e]
    simp [okD]
  | some d =>
    rw [wp_eq_gen (by unfold flatR; rw [e]; exact okAll_ints 63 d.great) rfl]
    unfold flatR
    rw [e]
    dsimp only
    cases d.great <;> simp [eqvD, eqvAll]
@[simp] theorem wp_chk_drg : wp (chk "list" .drg m) PU ↔ (m.dr.isSome = true ∧ PU () m) := by
  unfold chk
  simp
@[simp] theorem wp_chk_lst {xs : List D} : wp (chk "list" (.lst xs) m) PU ↔ PU () m := Iff.rfl
@[simp] theorem wp_chk_str {s : Str} : wp (chk "str" (.str s) m) PU ↔ PU () m := Iff.rfl
@[simp] theorem wp_chk_ref {n : Nat} : wp (chk "list" (.ref n) m) PU ↔ (match m.objs[n]? with | some (.lst _) => PU () m | _ => False) := by
  show wp (match lstD m (.ref n) with | some _ => Res.ok () m | none => .stuck) PU ↔ _
  rw [show lstD m (.ref n) = (match m.objs[n]? with | some (.lst xs) => some xs | _ => none) from rfl]
  generalize m.objs[n]? = o
  cases o with
  | none => exact Iff.rfl
  | some o => cases o <;> exact Iff.rfl
@[simp] theorem wp_pop0_drg : wp (popAtD .drg [.int 0] m) P ↔ (match m.dr with | some dr => (match dr.great with | z :: r => P (.int z) { m with dr := some { dr with great := r } } | [] => False) | none => False) := by
  unfold popAtD
  dsimp only
  rw [if_pos (by decide)]
  cases m.dr with
  | none => exact Iff.rfl
  | some dr =>
    dsimp only
    cases hg : dr.great with
    | nil => simp [seqIndex?]
    | cons z r =>
      have e : seqIndex? 0 (z :: r).length = some 0 := by
        unfold seqIndex?
        simp
      rw [e]
      simp
@[simp] theorem wp_gSubDr {fo fi : FE} {d : D} {PE' : Env' → MS → Prop} : wp (gSubDr fo fi d ρ m) PE' ↔ wp (fo ρ m) fun o m1 => wp (fi ρ m1) fun i m2 => wp (putDr o i d m2) fun _ m3 => PE' ρ m3 := by
  unfold gSubDr
  simp only [wp_bind, wp_ok]
end
end TL
end
section
/-! The data layer: what the data functions give: targets, maps. -/
namespace TL
open PySem PySem.Spec PyProof.Rows L2
section
variable {PE' : Env' → MS → Prop} {m : MS} {ρ : Env'} {α : Type}
@[simp] theorem wp_gT {n : Nat} {gs : FGs} {ds : List D} : wp (gT n gs (.tup ds) ρ m) PE' ↔ (ds.length = n ∧ wp (gs ds ρ m) PE') := by
  unfold gT tupD
  dsimp only
  split
  · rename_i h
    exact ⟨fun q => ⟨h, q⟩, fun q => q.2⟩
  · rename_i h
    exact ⟨fun q => q.elim, fun q => (h q.1).elim⟩
@[simp] theorem wp_gsNil : wp (gsNil [] ρ m) PE' ↔ PE' ρ m := Iff.rfl
@[simp] theorem wp_gsCons {g : FG} {h : FGs} {d : D} {ds : List D} : wp (gsCons g h (d :: ds) ρ m) PE' ↔ wp (g d ρ m) fun ρ' m' => wp (h ds ρ' m') PE' := by
  unfold gsCons
  simp only [wp_bind]
theorem wp_lcW_mapA {ok : MS → Prop} {g : FG} {te : FE} (e r : α → D) {PL : List D → MS → Prop} {xs : List α} (hok : ok m)
    (step : ∀ x ∈ xs, wp (g (e x) ρ m) fun ρ1 m1 => m1 = m ∧ wp (te ρ1 m) fun y m3 => y = r x ∧ m3 = m) (done : PL (xs.map r) m) : wp (lcW ok g bYes te ρ (xs.map e) m) PL := by
  refine wp_lcW_all (fun ds acc m' => m' = m ∧ ∃ pre suf, xs = pre ++ suf ∧ ds = suf.map e ∧ acc = pre.map r) ⟨rfl, [], xs, rfl, rfl, rfl⟩ ?_ ?_
  · rintro d ds acc m' ⟨rfl, pre, suf, ex, es, ea⟩
    cases suf with
    | nil => cases es
    | cons y suf =>
      obtain ⟨rfl, rfl⟩ := List.cons.inj es
      refine ⟨hok, wp_mono (step y (by rw [ex]; simp)) fun ρ1 m1 h => ?_⟩
      obtain ⟨rfl, h⟩ := h
      simp
      refine wp_mono h fun y' m3 h => ?_
      obtain ⟨rfl, rfl⟩ := h
      exact ⟨rfl, pre ++ [y], suf, by rw [ex]; simp, rfl, by rw [ea]; simp⟩
  · rintro acc m' ⟨rfl, pre, suf, ex, es, ea⟩
    cases suf with
    | cons y suf => cases es
    | nil =>
      rw [List.append_nil] at ex
      subst ex
      exact ⟨hok, by rw [ea]; exact done⟩
/-- .. made with writes at the draws alone: each value is one of P, the invariant goes on -/
theorem wp_lcW_each {ok : MS → Prop} {g : FG} {te : FE} {PL : List D → MS → Prop} {xs : List D} (I : Nat → MS → Prop) (P : D → D → Prop) (hok : ∀ n m, I n m → ok m)
    (step : ∀ x ∈ xs, ∀ n m, I (n + 1) m → wp (g x ρ m) fun ρ1 m1 => m1 = m ∧ wp (te ρ1 m) fun y m3 => P x y ∧ I n m3) (h0 : I xs.length m)
    (done : ∀ ys m', Paired P xs ys → I 0 m' → PL ys m') : wp (lcW ok g bYes te ρ xs m) PL := by
  refine wp_lcW_all (fun ds acc m' => I ds.length m' ∧ ∃ pre, xs = pre ++ ds ∧ Paired P pre acc) ⟨h0, [], rfl, .nil⟩ ?_ ?_
  · rintro d ds acc m' ⟨hi, pre, ex, ea⟩
    refine ⟨hok _ _ hi, wp_mono (step d (by rw [ex]; simp) ds.length m' hi) fun ρ1 m1 h => ?_⟩
    obtain ⟨rfl, h⟩ := h
    simp
    refine wp_mono h fun y' m3 h => ?_
    refine ⟨h.2, pre ++ [d], by rw [ex]; simp, ?_⟩
    have : ∀ {as bs : List D}, Paired P as bs → Paired P (as ++ [d]) (bs ++ [y']) := by
      intro as bs q
      induction q with
      | nil => exact .cons h.1 .nil
      | cons a b ih => exact .cons a ih
    exact this ea
  · rintro acc m' ⟨hi, pre, ex, ea⟩
    rw [List.append_nil] at ex
    subst ex
    exact ⟨hok _ _ hi, done _ _ ea hi⟩
theorem zipG_map {β : Type} (f : α → D) (g : β → D) : ∀ (xs : List α) (ys : List β), zipG (xs.map f) (ys.map g) = (xs.zip ys).map fun p => .tup [f p.1, g p.2]
  | [], _ => by simp [zipG]
  | _ :: _, [] => by simp [zipG]
  | x :: xs, y :: ys => by
    have := zipG_map f g xs ys
    unfold zipG at *
    simp only [List.map_cons, List.zipWith_cons_cons, List.zip_cons_cons]
    rw [this]
theorem rng_length (lo : Int) (n : Nat) : (rng lo n).length = n := by unfold rng; simp
theorem rng_map (n : Nat) : rng 0 n = (List.range n).map fun (i : Nat) => D.int (i : Int) := by
  unfold rng
  simp
end
end TL
end
section
/-! The data layer: what the data functions give: mutable lists, a def's end. -/
namespace TL
open PySem PySem.Spec PyProof.Rows L2
section
variable {P : D → MS → Prop} {m m1 : MS}
/-- a def with own lists: they are let go -/
theorem bodyT_of {u : FS} {n : Nat} {ds : List D} {d : D} (h : wp (bodyF u n ds m) fun v m1 => v = d ∧ ∃ more, m1.objs = m.objs ++ more ∧ P v { m1 with objs := m.objs }) (hd : ∀ k, ltD k d = true) : wp (bodyT u n ds m) P := by
  obtain ⟨v, m1, e, rfl, more, eo, q⟩ := wp_elim h
  unfold bodyT
  rw [e]
  unfold trunc
  have ok : okOld m m1 := .inl (by rw [eo]; simp)
  have f : frz m.objs.length m1.objs 8 v = some v := by
    unfold frz
    rw [if_pos (hd _)]
  simp only [ok, if_true, f]
  rw [eo, List.take_left]
  exact q
mutual
theorem okD_mono : ∀ {k : Nat} {d : D}, okD k d = true → okD (k + 1) d = true
  | _, .non, _ => rfl
  | _, .bl _, _ => rfl
  | _, .int _, _ => rfl
  | _, .str x, h => by simpa [okD] using h
  | k + 1, .tup xs, h => by
    have := okAll_mono (k := k) (xs := xs) (by simpa [okD] using h)
    simpa [okD] using this
  | k + 1, .lst xs, h => by
    have := okAll_mono (k := k) (xs := xs) (by simpa [okD] using h)
    simpa [okD] using this
  | 0, .tup _, h => by simp [okD] at h
  | 0, .lst _, h => by simp [okD] at h
  | k, .dct _, h => by cases k <;> simp [okD] at h
  | k, .scr _, h => by cases k <;> simp [okD] at h
  | k, .ref _, h => by cases k <;> simp [okD] at h
  | k, .drw, h => by cases k <;> simp [okD] at h
  | k, .drg, h => by cases k <;> simp [okD] at h
  | k, .fn _, h => by cases k <;> simp [okD] at h
  | k, .ty _, h => by cases k <;> simp [okD] at h
  | k, .clo _, h => by cases k <;> simp [okD] at h
  | k, .exn _ _, h => by cases k <;> simp [okD] at h
theorem okAll_mono : ∀ {k : Nat} {xs : List D}, okAll k xs = true → okAll (k + 1) xs = true
  | _, [], _ => rfl
  | k, x :: xs, h => by
    simp only [okAll, Bool.and_eq_true] at h ⊢
    exact ⟨okD_mono h.1, okAll_mono h.2⟩
end
theorem okAll_all {k : Nat} : ∀ {xs : List D}, okAll k xs = true ↔ ∀ x ∈ xs, okD k x = true
  | [] => by simp [okAll]
  | x :: xs => by
    simp only [okAll, Bool.and_eq_true, List.forall_mem_cons]
    rw [okAll_all]
mutual
theorem eqv_refl : ∀ {k : Nat} {d : D}, okD k d = true → eqvD d d = true
  | _, .non, _ => rfl
  | _, .bl _, _ => by simp [eqvD]
  | _, .int _, _ => by simp [eqvD]
  | _, .str x, h => by simp [eqvD]
  | k + 1, .tup xs, h => by
    have := eqvAll_refl (k := k) (xs := xs) (by simpa [okD] using h)
    simpa [eqvD] using this
  | k + 1, .lst xs, h => by
    have := eqvAll_refl (k := k) (xs := xs) (by simpa [okD] using h)
    simpa [eqvD] using this
  | 0, .tup _, h => by simp [okD] at h
  | 0, .lst _, h => by simp [okD] at h
  | k, .dct _, h => by cases k <;> simp [okD] at h
  | k, .scr _, h => by cases k <;> simp [okD] at h
  | k, .ref _, h => by cases k <;> simp [okD] at h
  | k, .drw, h => by cases k <;> simp [okD] at h
  | k, .drg, h => by cases k <;> simp [okD] at h
  | k, .fn _, h => by cases k <;> simp [okD] at h
  | k, .ty _, h => by cases k <;> simp [okD] at h
  | k, .clo _, h => by cases k <;> simp [okD] at h
  | k, .exn _ _, h => by cases k <;> simp [okD] at h
theorem eqvAll_refl : ∀ {k : Nat} {xs : List D}, okAll k xs = true → eqvAll xs xs = true
  | _, [], _ => rfl
  | k, x :: xs, h => by
    simp only [okAll, Bool.and_eq_true] at h
    simp only [eqvAll, Bool.and_eq_true]
    exact ⟨eqv_refl h.1, eqvAll_refl h.2⟩
end
/-! a mutable list -/
theorem wp_pop_ref {n : Nat} {xs : List D} {d : D} (h : m.objs[n]? = some (.lst (xs ++ [d]))) : wp (popD (.ref n) [] m) P ↔ P d { m with objs := m.objs.set n (.lst xs) } := by
  unfold popD
  dsimp only
  rw [h]
  simp
theorem wp_ext_ref {n : Nat} {xs ys : List D} (h : m.objs[n]? = some (.lst xs)) (hl : xs.length + ys.length < 1000000) : wp (extendD (.ref n) [.lst ys] m) P ↔ P .non { m with objs := m.objs.set n (.lst (xs ++ ys)) } := by
  unfold extendD
  dsimp only
  rw [h]
  show wp (if xs.length + ys.length < 1000000 then _ else _) P ↔ _
  rw [if_pos hl]
  exact Iff.rfl
theorem flat_ref {n : Nat} {xs : List D} (h : m.objs[n]? = some (.lst xs)) : flatR m (.ref n) = .lst xs := by
  unfold flatR
  dsimp only
  rw [h]
end
end TL
end
section
/-! The data layer: what the data functions give: exceptions. -/
namespace TL
open PySem PySem.Spec PyProof.Rows L2
/-- the outcome is an exception with P -/
def wr {α : Type} (x : Res α) (P : Str → List (Str × D) → MS → Prop) : Prop := match x with | .raise c fs m => P c fs m | _ => False
section
variable {α β : Type} {P : Str → List (Str × D) → MS → Prop} {m m' : MS} {ρ : Env'}
@[simp] theorem wr_raise {c : Str} {fs : List (Str × D)} : wr (.raise c fs m : Res α) P ↔ P c fs m := Iff.rfl
theorem eq_of_wr {x : Res α} {c : Str} {fs : List (Str × D)} (h : wr x fun c' fs' m' => c' = c ∧ fs' = fs ∧ m' = m) : x = .raise c fs m := by
  cases x with
  | raise c' fs' m' => obtain ⟨rfl, rfl, rfl⟩ := h; rfl
  | _ => exact h.elim
/-- ahead a value -/
theorem wr_bind {x : M β} {k : β → M α} (h : wp (x m) fun b m' => wr (k b m') P) : wr (M.bind x k m) P := by
  unfold M.bind
  cases e : x m with
  | ok b m' => rw [e] at h; exact h
  | _ => rw [e] at h; exact h.elim
/-- ahead the exception -/
theorem wr_bind0 {x : M β} {k : β → M α} (h : wr (x m) P) : wr (M.bind x k m) P := by
  unfold M.bind
  cases e : x m with
  | raise c fs m' => rw [e] at h; exact h
  | _ => rw [e] at h; exact h.elim
theorem wr_body {u : FS} {n : Nat} {ds : List D} (h : wr (u (startD n ds) m) P) : wr (bodyF u n ds m) P := wr_bind0 h
theorem wr_seq {u v : FS} (h : wp (u ρ m) fun fl m' => match fl with | .next ρ' => wr (v ρ' m') P | _ => False) : wr (sSeq u v ρ m) P := by
  refine wr_bind (wp_mono h fun fl m' q => ?_)
  cases fl with
  | next ρ' => exact q
  | _ => exact q.elim
theorem wr_seq0 {u v : FS} (h : wr (u ρ m) P) : wr (sSeq u v ρ m) P := wr_bind0 h
theorem wr_if {g : FB} {u v : FS} (h : wp (g ρ m) fun k m' => if k then wr (u ρ m') P else wr (v ρ m') P) : wr (sIf g u v ρ m) P := by
  refine wr_bind (wp_mono h fun k m' q => ?_)
  cases k <;> exact q
theorem wr_sRaise {c : Str} {f : FE} (h : wp (f ρ m) fun _ m' => P c [] m') : wr (sRaise c f ρ m) P := wr_bind (wp_mono h fun _ _ q => q)
theorem wr_sRaiseF {c fld : Str} {f : FE} (h : wp (f ρ m) fun d m' => P c [(fld, d)] m') : wr (sRaiseF c fld f ρ m) P := wr_bind (wp_mono h fun _ _ q => q)
theorem wr_expr0 {f : FE} (h : wr (f ρ m) P) : wr (sExpr f ρ m) P := wr_bind0 h
theorem wr_ret0 {f : FE} (h : wr (f ρ m) P) : wr (sRet f ρ m) P := wr_bind0 h
theorem wr_call {F : List D → M D} {g : FA} (h : wp (g ρ m) fun ds m' => wr (F ds m') P) : wr (dCall F g ρ m) P := wr_bind h
theorem wr_lenF {n : Nat} {F : List D → M D} {ds : List D} (hl : ds.length = n) (h : wr (F ds m) P) : wr (lenF n F ds m) P := by
  unfold lenF
  rw [if_pos hl]
  exact h
theorem wr_for {fi : Env' → M ItD} {g : FG} {body : FS} (h : wp (fi ρ m) fun it m' => wr (forW it.Ok g body it.items ρ m') P) : wr (sFor fi g body ρ m) P := wr_bind h
theorem wr_forW {ok : MS → Prop} {g : FG} {body : FS} (J : List D → Env' → Prop) {d : D} {post : List D} (hok : ok m)
    (step : ∀ x pre ρ, J (x :: pre) ρ → wp (g x ρ m) fun ρ1 m1 => m1 = m ∧ wp (body ρ1 m) fun fl m2 => m2 = m ∧ match fl with | .next ρ2 => J pre ρ2 | _ => False)
    (last : ∀ ρ, J [] ρ → wp (g d ρ m) fun ρ1 m1 => m1 = m ∧ wr (body ρ1 m) P) : ∀ (pre : List D) (ρ : Env'), J pre ρ → wr (forW ok g body (pre ++ d :: post) ρ m) P
  | [], ρ, h => by
    show wr (forW ok g body (d :: post) ρ m) P
    unfold forW
    rw [if_pos hok]
    refine wr_bind (wp_mono (last ρ h) fun ρ1 m1 ⟨e, q⟩ => ?_)
    subst e
    exact wr_bind0 q
  | x :: pre, ρ, h => by
    show wr (forW ok g body (x :: (pre ++ d :: post)) ρ m) P
    unfold forW
    rw [if_pos hok]
    refine wr_bind (wp_mono (step x pre ρ h) fun ρ1 m1 ⟨e, q⟩ => ?_)
    subst m1
    refine wr_bind (wp_mono q fun fl m2 ⟨e, q⟩ => ?_)
    subst m2
    cases fl with
    | next ρ2 => exact wr_forW J hok step last pre ρ2 q
    | _ => exact q.elim
/-- a caught exception -/
@[simp] theorem wp_caughtR {teach : Str → Bool} {c : Str} {fs : List (Str × D)} {PD : D → MS → Prop} (h : teach c = true) : wp (caughtR teach (.raise c fs m)) PD ↔ PD (.exn c fs) m := by
  unfold caughtR
  dsimp only
  rw [if_pos h]
  exact Iff.rfl
theorem wp_dCaught {teach : Str → Bool} {bs : List FE} {fa : FE} {PD : D → MS → Prop} : wp (dCaught teach bs fa ρ m) PD ↔ wp (fa ρ m) fun d m' => match d with
    | .clo i => (match bs[i]? with | some b => wp (caughtR teach (b ρ m')) PD | none => False)
    | _ => False := by
  unfold dCaught
  rw [wp_bind]
  constructor
  · exact fun h => wp_mono h fun d m' q => by
      cases d with
      | clo i =>
        dsimp only at q ⊢
        cases e : bs[i]? <;> rw [e] at q <;> exact q
      | _ => exact q.elim
  · exact fun h => wp_mono h fun d m' q => by
      cases d with
      | clo i =>
        dsimp only at q ⊢
        cases e : bs[i]? <;> rw [e] at q <;> exact q
      | _ => exact q.elim
end
end TL
end
section
/-! The data layer: .. more: a text in a tuple of texts. -/
namespace TL
open PySem PySem.Spec PyProof.Rows L2
def strsD : List D → Option (List Str)
  | [] => some []
  | .str z :: ds => (strsD ds).map (z :: ·)
  | _ :: _ => none
theorem strsD_map : ∀ zs : List Str, strsD (zs.map D.str) = some zs
  | [] => rfl
  | z :: zs => by
    show (strsD (zs.map D.str)).map (z :: ·) = _
    rw [strsD_map zs]
    rfl
def inT (neg : Bool) (a b : D) : M D := fun m => match a, b with
  | .str x, .tup ys => (match strsD ys with | some zs => .ok (.bl (if neg then !zs.any (fun z => z == x) else zs.any fun z => z == x)) m | none => .stuck)
  | _, _ => .stuck
section
variable {X : Cx} {R : RC} {E : XK}
theorem strsD_rep {S : Sto} {H : Hp} : ∀ {vs : List V} {ds : List D} {zs : List Str}, RepAll R S H vs ds → strsD ds = some zs → vs = zs.map V.str
  | _, _, _, .nil, h => by
    cases h
    rfl
  | _, _, _, .cons (v := v) (d := d) (ds := ds) r t, h => by
    cases d with
    | str z =>
      unfold strsD at h
      cases e : strsD ds with
      | none => rw [e] at h; cases h
      | some ws =>
        rw [e] at h
        cases h
        rw [rep_str r, strsD_rep t e]
        rfl
    | _ => cases h
theorem flat_strs (zs : List Str) : (zs.map V.str).all flatV = true := by
  rw [List.all_map]
  exact List.all_eq_true.mpr fun _ _ => rfl
theorem inV_strs (x : Str) (zs : List Str) : inV (.str x) (zs.map V.str) = zs.any fun z => z == x := by
  unfold inV
  rw [List.any_map]
  rfl
theorem inT_out (neg : Bool) (cx : CxR X R E) {S : Sto} {H : Hp} {m : MS} {x y : V} {a b : D} {Q : VK} (hr : HR R S H m) (ra : Rep R S H x a) (rb : Rep R S H y b) (h : RoutG R S H E (PV R Q) (inT neg a b m)) : rIn X.K neg x y H Q := by
  rw [cx.K]
  unfold inT at h
  cases a with
  | str i =>
    cases b with
    | tup ys =>
      dsimp only at h
      cases e : strsD ys with
      | none => rw [e] at h; exact h.elim
      | some zs =>
        rw [e] at h
        obtain ⟨p, vs, rfl, hq, rv, _⟩ := tupD_out rb rfl
        have ev := strsD_rep rv e
        subst ev
        rw [rep_str ra]
        refine ⟨p, _, rfl, .inr hq, rfl, flat_strs zs, ?_⟩
        rw [inV_strs]
        exact RoutG.now (E := E) h hr _ (.bl _)
    | _ => exact h.elim
  | _ => exact h.elim
theorem opd_inT (cx : CxR X R E) : OpD X R E (compareOp .In) (inT false) := ⟨_, op_in_seq, fun S H m x y a b Q hr ra rb h => inT_out false cx hr ra rb h⟩
theorem opd_notinT (cx : CxR X R E) : OpD X R E (compareOp .NotIn) (inT true) := ⟨_, op_notIn_seq, fun S H m x y a b Q hr ra rb h => inT_out true cx hr ra rb h⟩
theorem wp_inT {neg : Bool} {x : Str} {zs : List Str} {m : MS} {P : D → MS → Prop} : wp (inT neg (.str x) (.tup (zs.map D.str)) m) P ↔ P (.bl (if neg then !zs.any (fun z => z == x) else zs.any fun z => z == x)) m := by
  unfold inT
  dsimp only
  rw [strsD_map]
  exact Iff.rfl
end
end TL
end
section
/-! Printed by gen2.py: the data functions that laws share. -/
namespace TL
namespace Cm
open PySem PySem.Spec PyProof.Rows L2
noncomputable def u_is_whole : FS := (sRet (dAnd (dCallB (arg2 (isiX sub0)) (aCons (dVar 0) (aCons (dC (.ty .int)) aNil))) (dNot (dCallB (arg2 (isiX sub0)) (aCons (dVar 0) (aCons (dC (.ty .bool)) aNil))))))
@[irreducible] noncomputable def F_is_whole : List D → M D := bodyF u_is_whole 1
noncomputable def u_is_ratio : FS := (sSeq (sIf (bOr (bNot (toB (dCallB (arg2 (isiX sub0)) (aCons (dVar 0) (aCons (dC (.ty .tuple)) aNil))))) (bOr (toB (dBin (eqD true) (dCallB (arg1 lenD) (aCons (dVar 0) aNil)) (dC (.int 2)))) (bNot (toB (dCallB (arg1 allD) (aCons (dLc false [1] (iSeq (dVar 0)) (gN 1) bYes (dCall (lenF 1 F_is_whole) (aCons (dVar 1) aNil))) aNil))))))
  (sRet (dC (.bl false)))
  sNext)
  (sRet (dAnd (dBin (gtI) (dBin ixD (dVar 0) (dC (.int 1))) (dC (.int 0))) (dBin (eqD false) (dCallB (arg2 gcdD) (aCons (dBin ixD (dVar 0) (dC (.int 0))) (aCons (dBin ixD (dVar 0) (dC (.int 1))) aNil))) (dC (.int 1))))))
@[irreducible] noncomputable def F_is_ratio : List D → M D := bodyF u_is_ratio 2
noncomputable def u_lowest : FS := (sSeq (sAsg (dIf (toB (dBin (gtI) (dVar 1) (dC (.int 0)))) (dCallB (arg2 gcdD) (aCons (dVar 0) (aCons (dVar 1) aNil))) (dNeg (dCallB (arg2 gcdD) (aCons (dVar 0) (aCons (dVar 1) aNil))))) (gN 2))
  (sRet (dTup (aCons (dBin (fdivD) (dVar 0) (dVar 2)) (aCons (dBin (fdivD) (dVar 1) (dVar 2)) aNil)))))
@[irreducible] noncomputable def F_lowest : List D → M D := bodyF u_lowest 3
noncomputable def u_plus : FS := (sRet (dCall (lenF 2 F_lowest) (aCons (dBin (addD false) (dBin (mulD false) (dBin ixD (dVar 0) (dC (.int 0))) (dBin ixD (dVar 1) (dC (.int 1)))) (dBin (mulD false) (dBin ixD (dVar 1) (dC (.int 0))) (dBin ixD (dVar 0) (dC (.int 1))))) (aCons (dBin (mulD false) (dBin ixD (dVar 0) (dC (.int 1))) (dBin ixD (dVar 1) (dC (.int 1)))) aNil))))
@[irreducible] noncomputable def F_plus : List D → M D := bodyF u_plus 2
noncomputable def u_times : FS := (sRet (dCall (lenF 2 F_lowest) (aCons (dBin (mulD false) (dBin ixD (dVar 0) (dC (.int 0))) (dBin ixD (dVar 1) (dC (.int 0)))) (aCons (dBin (mulD false) (dBin ixD (dVar 0) (dC (.int 1))) (dBin ixD (dVar 1) (dC (.int 1)))) aNil))))
@[irreducible] noncomputable def F_times : List D → M D := bodyF u_times 2
noncomputable def u_total : FS := (sSeq (sAsg (dC (.tup [(.int 0), (.int 1)])) (gN 1))
  (sSeq (sFor (iSeq (dVar 0)) (gN 2)
  (sAsg (dCall (lenF 2 F_plus) (aCons (dVar 1) (aCons (dVar 2) aNil))) (gN 1)))
  (sRet (dVar 1))))
@[irreducible] noncomputable def F_total : List D → M D := bodyF u_total 3
noncomputable def u_is_vector : FS := (sRet (dAnd (dCallB (arg2 (isiX sub0)) (aCons (dVar 0) (aCons (dC (.ty .tuple)) aNil))) (dAnd (dChain (leI) (leI) (dC (.int 1)) (dCallB (arg1 lenD) (aCons (dVar 0) aNil)) (dC (.int 200))) (dCallB (arg1 allD) (aCons (dLc false [1] (iSeq (dVar 0)) (gN 1) bYes (dCall (lenF 1 F_is_ratio) (aCons (dVar 1) aNil))) aNil)))))
@[irreducible] noncomputable def F_is_vector : List D → M D := bodyF u_is_vector 2
noncomputable def u_dot : FS := (sRet (dCall (lenF 1 F_total) (aCons (dLc false [2, 3] (iZip2 (aCons (dVar 0) (aCons (dVar 1) aNil))) (gT 2 (gsCons (gN 2) (gsCons (gN 3) gsNil))) bYes (dCall (lenF 2 F_times) (aCons (dVar 2) (aCons (dVar 3) aNil)))) aNil)))
@[irreducible] noncomputable def F_dot : List D → M D := bodyF u_dot 4
noncomputable def u_scaled : FS := (sRet (dCallB (arg1 tupleD) (aCons (dLc false [2] (iSeq (dVar 1)) (gN 2) bYes (dCall (lenF 2 F_times) (aCons (dVar 0) (aCons (dVar 2) aNil)))) aNil)))
@[irreducible] noncomputable def F_scaled : List D → M D := bodyF u_scaled 3
noncomputable def u_added : FS := (sRet (dCallB (arg1 tupleD) (aCons (dLc false [2, 3] (iZip2 (aCons (dVar 0) (aCons (dVar 1) aNil))) (gT 2 (gsCons (gN 2) (gsCons (gN 3) gsNil))) bYes (dCall (lenF 2 F_plus) (aCons (dVar 2) (aCons (dVar 3) aNil)))) aNil)))
@[irreducible] noncomputable def F_added : List D → M D := bodyF u_added 4
noncomputable def u_mixed : FS := (sSeq (sAsg (dBin (mulD false) (dTup (aCons (dC (.tup [(.int 0), (.int 1)])) aNil)) (dCallB (arg1 lenD) (aCons (dBin ixD (dVar 1) (dC (.int 0))) aNil))) (gN 2))
  (sSeq (sFor (iZip2 (aCons (dVar 0) (aCons (dVar 1) aNil))) (gT 2 (gsCons (gN 3) (gsCons (gN 4) gsNil)))
  (sAsg (dCall (lenF 2 F_added) (aCons (dVar 2) (aCons (dCall (lenF 2 F_scaled) (aCons (dVar 3) (aCons (dVar 4) aNil))) aNil))) (gN 2)))
  (sRet (dVar 2))))
@[irreducible] noncomputable def F_mixed : List D → M D := bodyF u_mixed 5
noncomputable def u_is_word : FS := (sRet (dAnd (dCallB (arg2 (isiX sub0)) (aCons (dVar 0) (aCons (dC (.ty .str)) aNil))) (dAnd (dChain (leI) (leI) (dC (.int 1)) (dCallB (arg1 lenD) (aCons (dVar 0) aNil)) (dC (.int 8))) (dCallB (arg1 allD) (aCons (dLc false [1] (iSeq (dVar 0)) (gN 1) bYes (dBin (inD false) (dVar 1) (dC (.str "abcdefghijklmnopqrstuvwxyz")))) aNil)))))
@[irreducible] noncomputable def F_is_word : List D → M D := bodyF u_is_word 2
noncomputable def u__law_begun : FS := sBegun (dLc true [2] (iSeq (dVar 0)) (gN 2) (toB (dBin (geI) (dCallB (arg1 absD) (aCons (dVar 2) aNil)) (dBin (powW) (dC (.int 10)) (dC (.int 18))))) (dBin (subD) (dCallB (arg1 absD) (aCons (dVar 2) aNil)) (dBin (powW) (dC (.int 10)) (dC (.int 18))))) (dLc false [2] (iSeq (dVar 0)) (gN 2) bYes (dCallB (arg1 absD) (aCons (dVar 2) aNil))) 1
@[irreducible] noncomputable def F__law_begun : List D → M D := bodyF u__law_begun 3
noncomputable def u__law_blended : FS := (sSeq (sPar2 1 2 (aCons (dBin (addD false) (dBin ixDr (dVar 0) (dC (.str "turn"))) (dC (.int 1))) (aCons (dC (.int 0)) aNil)))
  (sSeq (sAsg (dVar 1) (gSubDr (dVar 0) (dC (.str "turn"))))
  (sSeq (sFor (iSeq (dLst false (aCons (dC (.int 2147483579)) (aCons (dC (.int 2147483629)) (aCons (dC (.int 2147483563)) aNil))))) (gN 3)
  (sSeq (sAsg (dBin (addD false) (dBin (mulD false) (dC (.int 48271)) (dVar 1)) (dBin (fdivD) (dVar 3) (dC (.int 53)))) (gN 4))
  (sSeq (sFor (iSeq (dBin ixDr (dVar 0) (dC (.str "cells")))) (gN 5)
  (sAsg (dBin (modD) (dCallB (arg1 intD) (aCons (dBin (addD false) (dBin (addD false) (dBin (mulD false) (dVar 4) (dC (.int 69621))) (dVar 5)) (dVar 1)) aNil)) (dVar 3)) (gN 4)))
  (sAsg (dBin (addD false) (dBin (mulD false) (dVar 2) (dC (.int 2147483647))) (dBin (modD) (dCallB (arg1 intD) (aCons (dBin (powW) (dVar 4) (dC (.int 5))) aNil)) (dVar 3))) (gN 2)))))
  (sRet (dVar 2)))))
@[irreducible] noncomputable def F__law_blended : List D → M D := bodyF u__law_blended 6
noncomputable def u__law_draw : FS := (sSeq (sIf (toB (dBin (eqD false) (dBin ixDr (dVar 0) (dC (.str "rest"))) (dC (.int 0))))
  (sAsg (dIf (toB (dBin (eqD true) (dBin ixDr (dVar 0) (dC (.str "great"))) (dLst false aNil))) (dMeth "list" popAtD (dBin ixDr (dVar 0) (dC (.str "great"))) (aCons (dC (.int 0)) aNil)) (dCall (lenF 1 F__law_blended) (aCons (dVar 0) aNil))) (gSubDr (dVar 0) (dC (.str "rest"))))
  sNext)
  (sSeq (sAsg (dBin (modD) (dCallB (arg1 intD) (aCons (dBin ixDr (dVar 0) (dC (.str "rest"))) aNil)) (dVar 1)) (gN 2))
  (sSeq (sAsg (dBin (fdivD) (dBin ixDr (dVar 0) (dC (.str "rest"))) (dVar 1)) (gSubDr (dVar 0) (dC (.str "rest"))))
  (sRet (dVar 2)))))
@[irreducible] noncomputable def F__law_draw : List D → M D := bodyF u__law_draw 3
noncomputable def u__law_pick : FS := (sRet (dBin ixD (dVar 1) (dCall (lenF 2 F__law_draw) (aCons (dVar 0) (aCons (dCallB (arg1 lenD) (aCons (dVar 1) aNil)) aNil)))))
@[irreducible] noncomputable def F__law_pick : List D → M D := bodyF u__law_pick 2
noncomputable def u__law_is_truth : FS := (sRet (dIf (toB (dVar 1)) (dBin (isD false) (dVar 0) (dC (.bl true))) (dBin (isD false) (dVar 0) (dC (.bl false)))))
@[irreducible] noncomputable def F__law_is_truth : List D → M D := bodyF u__law_is_truth 2
noncomputable def u__law_same : FS := (sSeq (sAsg (dLst true (aCons (dTup (aCons (dVar 0) (aCons (dVar 1) aNil))) aNil)) (gN 2))
  (sSeq (sWhile (toB (dBin (eqD true) (dVar 2) (dLst false aNil)))
  (sSeq (sAsg (dMeth "list" popD (dVar 2) aNil) (gT 2 (gsCons (gN 3) (gsCons (gN 4) gsNil))))
  (sIf (bOr (toB (dBin (isD false) (dVar 4) (dC .non))) (toB (dCallB (arg2 (isiX sub0)) (aCons (dVar 4) (aCons (dC (.ty .bool)) aNil)))))
  (sIf (bIf (toB (dBin (isD false) (dVar 4) (dC .non))) (toB (dBin (isD true) (dVar 3) (dC .non))) (bNot (toB (dCall (lenF 2 F__law_is_truth) (aCons (dVar 3) (aCons (dVar 4) aNil))))))
  (sRet (dC (.bl false)))
  sNext)
  (sIf (toB (dCallB (arg2 (isiX sub0)) (aCons (dVar 4) (aCons (dTup (aCons (dC (.ty .int)) (aCons (dC (.ty .str)) aNil))) aNil))))
  (sIf (bOr (toB (dCallB (arg2 (isiX sub0)) (aCons (dVar 3) (aCons (dC (.ty .bool)) aNil)))) (bOr (toB (dBin (eqD true) (dCallB (arg2 (isiX sub0)) (aCons (dVar 3) (aCons (dC (.ty .int)) aNil))) (dCallB (arg2 (isiX sub0)) (aCons (dVar 4) (aCons (dC (.ty .int)) aNil))))) (toB (dBin (eqD true) (dVar 3) (dVar 4)))))
  (sRet (dC (.bl false)))
  sNext)
  (sIf (toB (dCallB (arg2 (isiX sub0)) (aCons (dVar 4) (aCons (dC (.ty .dict)) aNil))))
  (sSeq sNever
  (sSeq sNever
  sNever))
  (sSeq (sAsg (dLst false (aCons (dAnd (dCallB (arg2 (isiX sub0)) (aCons (dVar 3) (aCons (dC (.ty .tuple)) aNil))) (dCallB (arg2 (isiX sub0)) (aCons (dVar 4) (aCons (dC (.ty .tuple)) aNil)))) (aCons (dAnd (dCallB (arg2 (isiX sub0)) (aCons (dVar 3) (aCons (dC (.ty .list)) aNil))) (dCallB (arg2 (isiX sub0)) (aCons (dVar 4) (aCons (dC (.ty .list)) aNil)))) aNil))) (gN 5))
  (sSeq (sIf (bOr (toB (dBin (inD true) (dC (.bl true)) (dVar 5))) (toB (dBin (eqD true) (dCallB (arg1 lenD) (aCons (dVar 3) aNil)) (dCallB (arg1 lenD) (aCons (dVar 4) aNil)))))
  (sRet (dC (.bl false)))
  sNext)
  (sExpr (dMeth "list" extendD (dVar 2) (aCons (dLc false [7, 8] (iZip2 (aCons (dVar 3) (aCons (dVar 4) aNil))) (gT 2 (gsCons (gN 7) (gsCons (gN 8) gsNil))) bYes (dTup (aCons (dVar 7) (aCons (dVar 8) aNil)))) aNil))))))))))
  (sRet (dC (.bl true)))))
@[irreducible] noncomputable def F__law_same : List D → M D := bodyT u__law_same 9
noncomputable def u__law_q : FS := (sSeq (sPar2 2 3 (aCons (dCallB (arg1 absD) (aCons (dVar 0) aNil)) (aCons (dCallB (arg1 absD) (aCons (dVar 1) aNil)) aNil)))
  (sSeq (sWhile (toB (dBin (gtI) (dVar 3) (dC (.int 0))))
  (sPar2 2 3 (aCons (dVar 3) (aCons (dBin (modD) (dCallB (arg1 intD) (aCons (dVar 2) aNil)) (dVar 3)) aNil))))
  (sRet (dIf (toB (dBin (gtI) (dVar 1) (dC (.int 0)))) (dTup (aCons (dBin (fdivD) (dVar 0) (dVar 2)) (aCons (dBin (fdivD) (dVar 1) (dVar 2)) aNil))) (dTup (aCons (dBin (fdivD) (dNeg (dVar 0)) (dVar 2)) (aCons (dBin (fdivD) (dNeg (dVar 1)) (dVar 2)) aNil)))))))
@[irreducible] noncomputable def F__law_q : List D → M D := bodyF u__law_q 4
noncomputable def u__law_plus : FS := (sRet (dCall (lenF 2 F__law_q) (aCons (dBin (addD false) (dBin (mulD false) (dBin ixD (dVar 0) (dC (.int 0))) (dBin ixD (dVar 1) (dC (.int 1)))) (dBin (mulD false) (dBin ixD (dVar 1) (dC (.int 0))) (dBin ixD (dVar 0) (dC (.int 1))))) (aCons (dBin (mulD false) (dBin ixD (dVar 0) (dC (.int 1))) (dBin ixD (dVar 1) (dC (.int 1)))) aNil))))
@[irreducible] noncomputable def F__law_plus : List D → M D := bodyF u__law_plus 2
noncomputable def u__law_times : FS := (sRet (dCall (lenF 2 F__law_q) (aCons (dBin (mulD false) (dBin ixD (dVar 0) (dC (.int 0))) (dBin ixD (dVar 1) (dC (.int 0)))) (aCons (dBin (mulD false) (dBin ixD (dVar 0) (dC (.int 1))) (dBin ixD (dVar 1) (dC (.int 1)))) aNil))))
@[irreducible] noncomputable def F__law_times : List D → M D := bodyF u__law_times 2
noncomputable def u__law_sum : FS := (sSeq (sAsg (dTup (aCons (dC (.int 0)) (aCons (dC (.int 1)) aNil))) (gN 1))
  (sSeq (sFor (iSeq (dVar 0)) (gN 2)
  (sAsg (dCall (lenF 2 F__law_plus) (aCons (dVar 1) (aCons (dVar 2) aNil))) (gN 1)))
  (sRet (dVar 1))))
@[irreducible] noncomputable def F__law_sum : List D → M D := bodyF u__law_sum 3
noncomputable def u__law_words : FS := (sSeq (sAsg (dLst false aNil) (gN 2))
  (sSeq (sWhile (toB (dBin (ltI) (dCallB (arg1 lenD) (aCons (dVar 2) aNil)) (dVar 1)))
  (sSeq (sAsg (dMeth "str" joinD (dC (.str "")) (aCons (dLc false [4] (iRange1 (aCons (dBin (addD false) (dC (.int 1)) (dCall (lenF 2 F__law_draw) (aCons (dVar 0) (aCons (dC (.int 8)) aNil)))) aNil)) (gN 4) bYes (dCall (lenF 2 F__law_pick) (aCons (dVar 0) (aCons (dCallB (arg1 (listD false)) (aCons (dC (.str "abcdefghijklmnopqrstuvwxyz")) aNil)) aNil)))) aNil)) (gN 3))
  (sAsg (dBin (addD false) (dVar 2) (dIf (toB (dBin (inD true) (dVar 3) (dVar 2))) (dLst false (aCons (dVar 3) aNil)) (dIf (bAnd (toB (dBin (inD true) (dBin (addD false) (dSl false (dVar 3) oNone (oSome (dC (.int 1)))) (dBin (mulD false) (dC (.str "q")) (dCallB (arg1 lenD) (aCons (dVar 2) aNil)))) (dVar 2))) (toB (dBin (ltI) (dCallB (arg1 lenD) (aCons (dVar 2) aNil)) (dC (.int 8))))) (dLst false (aCons (dBin (addD false) (dSl false (dVar 3) oNone (oSome (dC (.int 1)))) (dBin (mulD false) (dC (.str "q")) (dCallB (arg1 lenD) (aCons (dVar 2) aNil)))) aNil)) (dLst false aNil)))) (gN 2))))
  (sRet (dCallB (arg1 sortedD) (aCons (dVar 2) aNil)))))
@[irreducible] noncomputable def F__law_words : List D → M D := bodyF u__law_words 5
noncomputable def u__law_number : FS := (sSeq (sPar2 2 3 (aCons (dCall (lenF 2 F__law_draw) (aCons (dVar 0) (aCons (dBin (addD false) (dVar 1) (dC (.int 1))) aNil))) (aCons (dBin (addD false) (dC (.int 1)) (dCall (lenF 2 F__law_draw) (aCons (dVar 0) (aCons (dCall (lenF 2 F__law_pick) (aCons (dVar 0) (aCons (dLst false (aCons (dC (.int 1)) (aCons (dC (.int 1)) (aCons (dC (.int 3)) (aCons (dVar 1) aNil))))) aNil))) aNil)))) aNil)))
  (sRet (dCall (lenF 2 F__law_q) (aCons (dIf (toB (dBin (eqD false) (dCall (lenF 2 F__law_draw) (aCons (dVar 0) (aCons (dC (.int 2)) aNil))) (dC (.int 0)))) (dVar 2) (dBin (subD) (dC (.int 0)) (dVar 2))) (aCons (dVar 3) aNil)))))
@[irreducible] noncomputable def F__law_number : List D → M D := bodyF u__law_number 4
noncomputable def u__law_vector : FS := (sRet (dCallB (arg1 tupleD) (aCons (dLc false [3] (iRange1 (aCons (dVar 1) aNil)) (gN 3) bYes (dCall (lenF 2 F__law_pick) (aCons (dVar 0) (aCons (dLst false (aCons (dTup (aCons (dC (.int 0)) (aCons (dC (.int 1)) aNil))) (aCons (dCall (lenF 2 F__law_number) (aCons (dVar 0) (aCons (dVar 2) aNil))) (aCons (dCall (lenF 2 F__law_number) (aCons (dVar 0) (aCons (dVar 2) aNil))) aNil)))) aNil)))) aNil)))
@[irreducible] noncomputable def F__law_vector : List D → M D := bodyF u__law_vector 4
noncomputable def u__law_dot : FS := (sRet (dCall (lenF 1 F__law_sum) (aCons (dLc false [2, 3] (iZip2 (aCons (dVar 0) (aCons (dVar 1) aNil))) (gT 2 (gsCons (gN 2) (gsCons (gN 3) gsNil))) bYes (dCall (lenF 2 F__law_times) (aCons (dVar 2) (aCons (dVar 3) aNil)))) aNil)))
@[irreducible] noncomputable def F__law_dot : List D → M D := bodyF u__law_dot 4
noncomputable def u__law_mixed : FS := (sRet (dCallB (arg1 tupleD) (aCons (dLc false [3] (iRange1 (aCons (dVar 2) aNil)) (gN 3) bYes (dCall (lenF 1 F__law_sum) (aCons (dLc false [4, 5] (iZip2 (aCons (dVar 0) (aCons (dVar 1) aNil))) (gT 2 (gsCons (gN 4) (gsCons (gN 5) gsNil))) bYes (dCall (lenF 2 F__law_times) (aCons (dVar 4) (aCons (dBin ixD (dVar 5) (dVar 3)) aNil)))) aNil))) aNil)))
@[irreducible] noncomputable def F__law_mixed : List D → M D := bodyF u__law_mixed 6
noncomputable def u_minus : FS := (sRet (dCall (lenF 2 F_lowest) (aCons (dBin (subD) (dBin (mulD false) (dBin ixD (dVar 0) (dC (.int 0))) (dBin ixD (dVar 1) (dC (.int 1)))) (dBin (mulD false) (dBin ixD (dVar 1) (dC (.int 0))) (dBin ixD (dVar 0) (dC (.int 1))))) (aCons (dBin (mulD false) (dBin ixD (dVar 0) (dC (.int 1))) (dBin ixD (dVar 1) (dC (.int 1)))) aNil))))
@[irreducible] noncomputable def F_minus : List D → M D := bodyF u_minus 2
noncomputable def u_is_less : FS := (sRet (dBin (ltI) (dBin (mulD false) (dBin ixD (dVar 0) (dC (.int 0))) (dBin ixD (dVar 1) (dC (.int 1)))) (dBin (mulD false) (dBin ixD (dVar 1) (dC (.int 0))) (dBin ixD (dVar 0) (dC (.int 1))))))
@[irreducible] noncomputable def F_is_less : List D → M D := bodyF u_is_less 2
noncomputable def u_greatest_of : FS := (sSeq (sAsg (dBin ixD (dVar 0) (dC (.int 0))) (gN 1))
  (sSeq (sFor (iSeq (dSl false (dVar 0) (oSome (dC (.int 1))) oNone)) (gN 2)
  (sAsg (dIf (toB (dCall (lenF 2 F_is_less) (aCons (dVar 1) (aCons (dVar 2) aNil)))) (dVar 2) (dVar 1)) (gN 1)))
  (sRet (dVar 1))))
@[irreducible] noncomputable def F_greatest_of : List D → M D := bodyF u_greatest_of 3
noncomputable def u_apart : FS := (sRet (dCallB (arg1 tupleD) (aCons (dLc false [2, 3] (iZip2 (aCons (dVar 0) (aCons (dVar 1) aNil))) (gT 2 (gsCons (gN 2) (gsCons (gN 3) gsNil))) bYes (dCall (lenF 2 F_minus) (aCons (dVar 2) (aCons (dVar 3) aNil)))) aNil)))
@[irreducible] noncomputable def F_apart : List D → M D := bodyF u_apart 4
noncomputable def u_is_line : FS := (sSeq (sIf (bOr (bNot (toB (dCallB (arg2 (isiX sub0)) (aCons (dVar 0) (aCons (dC (.ty .tuple)) aNil))))) (bOr (toB (dBin (eqD true) (dCallB (arg1 lenD) (aCons (dVar 0) aNil)) (dC (.int 2)))) (bOr (bNot (toB (dCall (lenF 1 F_is_word) (aCons (dBin ixD (dVar 0) (dC (.int 0))) aNil)))) (bNot (toB (dCall (lenF 1 F_is_vector) (aCons (dBin ixD (dVar 0) (dC (.int 1))) aNil)))))))
  (sRet (dC (.bl false)))
  sNext)
  (sRet (dChain (leI) (leI) (dC (.int 2)) (dCallB (arg1 lenD) (aCons (dBin ixD (dVar 0) (dC (.int 1))) aNil)) (dBin (addD false) (dC (.int 3)) (dC (.int 1))))))
@[irreducible] noncomputable def F_is_line : List D → M D := bodyF u_is_line 1
noncomputable def u_is_lines : FS := (sSeq (sIf (bOr (bNot (toB (dCallB (arg2 (isiX sub0)) (aCons (dVar 0) (aCons (dC (.ty .tuple)) aNil))))) (bOr (toB (dBin (eqD true) (dCallB (arg1 lenD) (aCons (dVar 0) aNil)) (dC (.int 2)))) (bOr (bNot (toB (dCallB (arg2 (isiX sub0)) (aCons (dBin ixD (dVar 0) (dC (.int 0))) (aCons (dC (.ty .str)) aNil))))) (toB (dBin (eqD true) (dBin ixD (dVar 0) (dC (.int 0))) (dC (.str "lines")))))))
  (sRet (dC (.bl false)))
  sNext)
  (sSeq (sAsg (dBin ixD (dVar 0) (dC (.int 1))) (gN 1))
  (sSeq (sIf (bOr (bNot (toB (dCallB (arg2 (isiX sub0)) (aCons (dVar 1) (aCons (dC (.ty .tuple)) aNil))))) (bOr (bNot (toB (dChain (leI) (leI) (dC (.int 1)) (dCallB (arg1 lenD) (aCons (dVar 1) aNil)) (dC (.int 6))))) (bNot (toB (dCallB (arg1 allD) (aCons (dLc false [2] (iSeq (dVar 1)) (gN 2) bYes (dCall (lenF 1 F_is_line) (aCons (dVar 2) aNil))) aNil))))))
  (sRet (dC (.bl false)))
  sNext)
  (sSeq (sIf (toB (dCallB (arg1 anyD) (aCons (dLc false [2] (iSeq (dVar 1)) (gN 2) bYes (dBin (eqD true) (dCallB (arg1 lenD) (aCons (dBin ixD (dVar 2) (dC (.int 1))) aNil)) (dCallB (arg1 lenD) (aCons (dBin ixD (dBin ixD (dVar 1) (dC (.int 0))) (dC (.int 1))) aNil)))) aNil)))
  (sRet (dC (.bl false)))
  sNext)
  (sRet (dCallB (arg1 allD) (aCons (dLc false [3] (iRange1 (aCons (dBin (subD) (dCallB (arg1 lenD) (aCons (dVar 1) aNil)) (dC (.int 1))) aNil)) (gN 3) bYes (dBin (ltA) (dBin ixD (dBin ixD (dVar 1) (dVar 3)) (dC (.int 0))) (dBin ixD (dBin ixD (dVar 1) (dBin (addD false) (dVar 3) (dC (.int 1)))) (dC (.int 0))))) aNil)))))))
@[irreducible] noncomputable def F_is_lines : List D → M D := bodyF u_is_lines 4
noncomputable def u_places_of_lines : FS := (sRet (dBin (subD) (dCallB (arg1 lenD) (aCons (dBin ixD (dBin ixD (dBin ixD (dVar 0) (dC (.int 1))) (dC (.int 0))) (dC (.int 1))) aNil)) (dC (.int 1))))
@[irreducible] noncomputable def F_places_of_lines : List D → M D := bodyF u_places_of_lines 1
noncomputable def u_limits_of : FS := (sSeq (sAsg (dBin ixD (dLc false [4, 5] (iSeq (dBin ixD (dVar 0) (dC (.int 1)))) (gT 2 (gsCons (gN 4) (gsCons (gN 5) gsNil))) (toB (dBin (eqD false) (dVar 4) (dVar 1))) (dVar 5)) (dC (.int 0))) (gN 2))
  (sSeq (sAsg (dLst true aNil) (gN 3))
  (sSeq (sFor (iSeq (dBin ixD (dVar 0) (dC (.int 1)))) (gT 2 (gsCons (gN 4) (gsCons (gN 5) gsNil)))
  (sIf (toB (dBin (eqD true) (dVar 4) (dVar 1)))
  (sExpr (dMeth "list" appendD (dVar 3) (aCons (dTup (aCons (dCall (lenF 2 F_apart) (aCons (dSl false (dVar 2) oNone (oSome (dNeg (dC (.int 1))))) (aCons (dSl false (dVar 5) oNone (oSome (dNeg (dC (.int 1))))) aNil))) (aCons (dCall (lenF 2 F_minus) (aCons (dBin ixD (dVar 5) (dNeg (dC (.int 1)))) (aCons (dBin ixD (dVar 2) (dNeg (dC (.int 1)))) aNil))) aNil))) aNil)))
  sNext))
  (sRet (dCallB (arg1 tupleD) (aCons (dVar 3) aNil))))))
@[irreducible] noncomputable def F_limits_of : List D → M D := bodyT u_limits_of 6
noncomputable def u__law_minus : FS := (sRet (dCall (lenF 2 F__law_q) (aCons (dBin (subD) (dBin (mulD false) (dBin ixD (dVar 0) (dC (.int 0))) (dBin ixD (dVar 1) (dC (.int 1)))) (dBin (mulD false) (dBin ixD (dVar 1) (dC (.int 0))) (dBin ixD (dVar 0) (dC (.int 1))))) (aCons (dBin (mulD false) (dBin ixD (dVar 0) (dC (.int 1))) (dBin ixD (dVar 1) (dC (.int 1)))) aNil))))
@[irreducible] noncomputable def F__law_minus : List D → M D := bodyF u__law_minus 2
noncomputable def u__law_over : FS := (sRet (dCall (lenF 2 F__law_q) (aCons (dBin (mulD false) (dBin ixD (dVar 0) (dC (.int 0))) (dBin ixD (dVar 1) (dC (.int 1)))) (aCons (dBin (mulD false) (dBin ixD (dVar 0) (dC (.int 1))) (dBin ixD (dVar 1) (dC (.int 0)))) aNil))))
@[irreducible] noncomputable def F__law_over : List D → M D := bodyF u__law_over 2
noncomputable def u__law_less : FS := (sRet (dBin (ltI) (dBin (mulD false) (dBin ixD (dVar 0) (dC (.int 0))) (dBin ixD (dVar 1) (dC (.int 1)))) (dBin (mulD false) (dBin ixD (dVar 1) (dC (.int 0))) (dBin ixD (dVar 0) (dC (.int 1))))))
@[irreducible] noncomputable def F__law_less : List D → M D := bodyF u__law_less 2
noncomputable def u__law_odd : FS := (sSeq (sAsg (dLst false (aCons (dC .non) (aCons (dC (.bl true)) (aCons (dC (.int 0)) (aCons (dC (.int 5)) (aCons (dC (.str "")) (aCons (dC (.str "table")) (aCons (dTup aNil) (aCons (dLst false aNil) (aCons (dC (.dct [])) (aCons (dTup (aCons (dTup (aCons (dC (.int 0)) (aCons (dC (.int 1)) aNil))) (aCons (dTup (aCons (dC (.int 1)) (aCons (dC (.int 1)) aNil))) aNil))) (aCons (dTup (aCons (dC (.str "table")) aNil)) (aCons (dTup (aCons (dC (.str "program")) (aCons (dTup aNil) aNil))) (aCons (dTup (aCons (dC (.str "table")) (aCons (dTup aNil) aNil))) (aCons (dTup (aCons (dC (.str "standin")) (aCons (dTup aNil) aNil))) aNil))))))))))))))) (gN 1))
  (sRet (dCall (lenF 2 F__law_pick) (aCons (dVar 0) (aCons (dBin (addD false) (dVar 1) (dLst false (aCons (dTup (aCons (dC (.str "program")) (aCons (dTup (aCons (dTup (aCons (dC (.int 1)) (aCons (dC (.int 1)) aNil))) aNil)) aNil))) (aCons (dTup (aCons (dC (.str "table")) (aCons (dTup (aCons (dTup (aCons (dC (.str "a")) (aCons (dTup (aCons (dTup (aCons (dC (.int 1)) (aCons (dC (.int 1)) aNil))) aNil)) aNil))) aNil)) aNil))) (aCons (dTup (aCons (dC (.str "standin")) (aCons (dTup (aCons (dTup aNil) (aCons (dTup aNil) aNil))) aNil))) aNil))))) aNil)))))
@[irreducible] noncomputable def F__law_odd : List D → M D := bodyF u__law_odd 2
noncomputable def u__law_ph_is_ratio : FS := (sSeq (sIf (bOr (bNot (toB (dCallB (arg2 (isiX sub0)) (aCons (dVar 0) (aCons (dC (.ty .tuple)) aNil))))) (bOr (toB (dBin (eqD true) (dCallB (arg1 lenD) (aCons (dVar 0) aNil)) (dC (.int 2)))) (toB (dBin (eqD true) (dLc false [1] (iSeq (dVar 0)) (gN 1) (bOr (bNot (toB (dCallB (arg2 (isiX sub0)) (aCons (dVar 1) (aCons (dC (.ty .int)) aNil))))) (toB (dCallB (arg2 (isiX sub0)) (aCons (dVar 1) (aCons (dC (.ty .bool)) aNil))))) (dC (.int 1))) (dLst false aNil)))))
  (sRet (dC (.bl false)))
  sNext)
  (sRet (dAnd (dBin (gtI) (dBin ixD (dVar 0) (dC (.int 1))) (dC (.int 0))) (dBin (eqD false) (dCall (lenF 2 F__law_q) (aCons (dBin ixD (dVar 0) (dC (.int 0))) (aCons (dBin ixD (dVar 0) (dC (.int 1))) aNil))) (dVar 0)))))
@[irreducible] noncomputable def F__law_ph_is_ratio : List D → M D := bodyF u__law_ph_is_ratio 2
noncomputable def u__law_ph_is_vector : FS := (sRet (dAnd (dCallB (arg2 (isiX sub0)) (aCons (dVar 0) (aCons (dC (.ty .tuple)) aNil))) (dAnd (dBin (eqD false) (dCallB (arg1 lenD) (aCons (dVar 0) aNil)) (dVar 1)) (dBin (eqD false) (dLc false [2] (iSeq (dVar 0)) (gN 2) (bNot (toB (dCall (lenF 1 F__law_ph_is_ratio) (aCons (dVar 2) aNil)))) (dC (.int 1))) (dLst false aNil)))))
@[irreducible] noncomputable def F__law_ph_is_vector : List D → M D := bodyF u__law_ph_is_vector 3
noncomputable def u__law_ph_keeps : FS := (sRet (dBin (eqD false) (dLc false [2, 3] (iSeq (dVar 0)) (gT 2 (gsCons (gN 2) (gsCons (gN 3) gsNil))) (toB (dCall (lenF 2 F__law_less) (aCons (dCall (lenF 2 F__law_dot) (aCons (dVar 2) (aCons (dVar 1) aNil))) (aCons (dVar 3) aNil)))) (dC (.int 1))) (dLst false aNil)))
@[irreducible] noncomputable def F__law_ph_keeps : List D → M D := bodyF u__law_ph_keeps 4
noncomputable def u__law_ph_turned : FS := (sRet (dCallB (arg1 tupleD) (aCons (dLc false [1] (iSeq (dVar 0)) (gN 1) bYes (dTup (aCons (dBin (subD) (dC (.int 0)) (dBin ixD (dVar 1) (dC (.int 0)))) (aCons (dBin ixD (dVar 1) (dC (.int 1))) aNil)))) aNil)))
@[irreducible] noncomputable def F__law_ph_turned : List D → M D := bodyF u__law_ph_turned 2
noncomputable def u__law_ph_bent (F_rec : List D → M D) : FS := (sSeq (sIf (bOr (bNot (toB (dCallB (arg2 (isiX sub0)) (aCons (dVar 1) (aCons (dC (.ty .tuple)) aNil))))) (bOr (toB (dBin (eqD false) (dVar 1) (dTup aNil))) (toB (dBin (eqD false) (dCall (lenF 2 F__law_draw) (aCons (dVar 0) (aCons (dC (.int 6)) aNil))) (dC (.int 0))))))
  (sSeq (sAsg (dLst false (aCons (dC .non) (aCons (dC (.bl true)) (aCons (dC (.int 0)) (aCons (dTup aNil) (aCons (dLst false aNil) (aCons (dC (.str "some")) (aCons (dTup (aCons (dC (.int 0)) (aCons (dC (.int 1)) aNil))) (aCons (dTup (aCons (dC (.int 1)) (aCons (dC (.int 1)) aNil))) (aCons (dTup (aCons (dNeg (dC (.int 1))) (aCons (dC (.int 1)) aNil))) (aCons (dTup (aCons (dC (.int 2)) (aCons (dC (.int 4)) aNil))) (aCons (dTup (aCons (dC (.bl true)) (aCons (dC (.int 1)) aNil))) (aCons (dTup (aCons (dC (.int 1)) (aCons (dC (.int 0)) aNil))) (aCons (dTup (aCons (dTup (aCons (dC (.int 0)) (aCons (dC (.int 1)) aNil))) aNil)) aNil)))))))))))))) (gN 2))
  (sSeq (sIf (toB (dCall (lenF 1 F__law_ph_is_ratio) (aCons (dVar 1) aNil)))
  (sAsg (dBin (addD false) (dVar 2) (dLst false (aCons (dCall (lenF 2 F__law_plus) (aCons (dVar 1) (aCons (dTup (aCons (dC (.int 1)) (aCons (dC (.int 1)) aNil))) aNil))) (aCons (dCall (lenF 2 F__law_minus) (aCons (dVar 1) (aCons (dTup (aCons (dC (.int 1)) (aCons (dC (.int 7)) aNil))) aNil))) (aCons (dTup (aCons (dBin (subD) (dC (.int 0)) (dBin ixD (dVar 1) (dC (.int 0)))) (aCons (dBin ixD (dVar 1) (dC (.int 1))) aNil))) (aCons (dTup (aCons (dBin (mulD false) (dC (.int 2)) (dBin ixD (dVar 1) (dC (.int 0)))) (aCons (dBin (mulD false) (dC (.int 2)) (dBin ixD (dVar 1) (dC (.int 1)))) aNil))) aNil)))))) (gN 2))
  sNext)
  (sSeq (sIf (toB (dCallB (arg2 (isiX sub0)) (aCons (dVar 1) (aCons (dC (.ty .tuple)) aNil))))
  (sAsg (dBin (addD false) (dVar 2) (dLst false (aCons (dSl false (dVar 1) (oSome (dC (.int 1))) oNone) (aCons (dSl false (dVar 1) oNone (oSome (dNeg (dC (.int 1))))) (aCons (dBin (addD false) (dVar 1) (dSl false (dVar 1) (oSome (dNeg (dC (.int 1)))) oNone)) (aCons (dCallB (arg1 (listD false)) (aCons (dVar 1) aNil)) (aCons (dRev (dVar 1)) aNil))))))) (gN 2))
  sNext)
  (sRet (dCall (lenF 2 F__law_pick) (aCons (dVar 0) (aCons (dVar 2) aNil)))))))
  sNext)
  (sSeq (sAsg (dCall (lenF 2 F__law_draw) (aCons (dVar 0) (aCons (dCallB (arg1 lenD) (aCons (dVar 1) aNil)) aNil))) (gN 3))
  (sRet (dBin (addD false) (dBin (addD false) (dSl false (dVar 1) oNone (oSome (dVar 3))) (dTup (aCons (dCall (lenF 2 F_rec) (aCons (dVar 0) (aCons (dBin ixD (dVar 1) (dVar 3)) aNil))) aNil))) (dSl false (dVar 1) (oSome (dBin (addD false) (dVar 3) (dC (.int 1)))) oNone)))))
@[irreducible] noncomputable def F__law_ph_bent : Nat → List D → M D := fun n => Nat.rec (fun _ _ => .stuck) (fun _ F => bodyF (u__law_ph_bent F) 4) n
noncomputable def u__law_lines : FS := (sSeq (sPar2 1 2 (aCons (dBin (addD false) (dC (.int 1)) (dCall (lenF 2 F__law_draw) (aCons (dVar 0) (aCons (dC (.int 3)) aNil)))) (aCons (dCall (lenF 2 F__law_words) (aCons (dVar 0) (aCons (dBin (addD false) (dC (.int 1)) (dCall (lenF 2 F__law_draw) (aCons (dVar 0) (aCons (dC (.int 6)) aNil)))) aNil))) aNil)))
  (sSeq (sPar2 3 4 (aCons (dLst true aNil) (aCons (dCall (lenF 2 F__law_pick) (aCons (dVar 0) (aCons (dLst false (aCons (dC (.int 1)) (aCons (dC (.int 2)) (aCons (dC (.int 9)) (aCons (dBin (powW) (dC (.int 10)) (dC (.int 6))) aNil))))) aNil))) aNil)))
  (sSeq (sFor (iSeq (dVar 2)) (gN 5)
  (sSeq (sAsg (dLst false (aCons (dCall (lenF 3 F__law_vector) (aCons (dVar 0) (aCons (dBin (addD false) (dVar 1) (dC (.int 1))) (aCons (dVar 4) aNil)))) (aCons (dCall (lenF 3 F__law_vector) (aCons (dVar 0) (aCons (dBin (addD false) (dVar 1) (dC (.int 1))) (aCons (dVar 4) aNil)))) aNil))) (gN 6))
  (sSeq (sIf (toB (dBin (eqD true) (dVar 3) (dLst false aNil)))
  (sSeq (sAsg (dCall (lenF 2 F__law_pick) (aCons (dVar 0) (aCons (dVar 3) aNil))) (gN 7))
  (sAsg (dBin (addD false) (dVar 6) (dLst false (aCons (dVar 7) (aCons (dBin (addD false) (dSl false (dVar 7) oNone (oSome (dNeg (dC (.int 1))))) (dTup (aCons (dCall (lenF 2 F__law_minus) (aCons (dBin ixD (dVar 7) (dNeg (dC (.int 1)))) (aCons (dTup (aCons (dC (.int 1)) (aCons (dC (.int 1)) aNil))) aNil))) aNil))) (aCons (dCall (lenF 1 F__law_ph_turned) (aCons (dVar 7) aNil)) aNil))))) (gN 6)))
  sNext)
  (sExpr (dMeth "list" appendD (dVar 3) (aCons (dCall (lenF 2 F__law_pick) (aCons (dVar 0) (aCons (dVar 6) aNil))) aNil))))))
  (sRet (dTup (aCons (dC (.str "lines")) (aCons (dCallB (arg1 tupleD) (aCons (dLc false [5, 8] (iZip2 (aCons (dVar 2) (aCons (dVar 3) aNil))) (gT 2 (gsCons (gN 5) (gsCons (gN 8) gsNil))) bYes (dTup (aCons (dVar 5) (aCons (dVar 8) aNil)))) aNil)) aNil)))))))
@[irreducible] noncomputable def F__law_lines : List D → M D := bodyT u__law_lines 9
end Cm
end TL
end
section
/-! The shared functions: the draws, just what they give. -/
namespace TL
open L2 (atI ixN)
theorem mulOk_r {i j : Int} (h : PySem.Builtin.Int.intBits j ≤ 64) : mulOk i j = true := by
  unfold mulOk
  simp [h]
theorem mulOk_l {i j : Int} (h : PySem.Builtin.Int.intBits i ≤ 64) : mulOk i j = true := by
  unfold mulOk
  simp [h]
theorem powOkW_5 {i : Int} (h : i.natAbs < 2 ^ 250) : powOkW i 5 = true := by
  have hb : PySem.Builtin.Int.intBits i ≤ 251 := by
    unfold PySem.Builtin.Int.intBits
    split
    · omega
    · rename_i hz
      have hz' : i.natAbs ≠ 0 := fun z => hz (by
        have : i = 0 := by omega
        rw [this]; rfl)
      have := (Nat.log2_lt hz').mpr h
      omega
  unfold powOkW
  have : (PySem.Builtin.Int.intBits i : Int) * 5 ≤ 134217728 := by omega
  simp [this]
theorem atI_nat {α : Type} {xs : List α} {j : Nat} (h : j < xs.length) : atI xs (j : Int) = some xs[j] := by
  unfold atI ixN
  simp [h]
theorem eq_of_wp {α : Type} {x : Res α} {r : α} {m : MS} (h : wp x fun a m' => a = r ∧ m' = m) : x = .ok r m := by
  cases x with
  | ok a m' => obtain ⟨rfl, rfl⟩ := h; rfl
  | _ => exact h.elim
/-- a sound state of the draws, n turns may still be made -/
structure DrOk (d : Dr) (n : Nat) : Prop where
  t0 : 0 ≤ d.turn
  t1 : d.turn + n ≤ 2 ^ 200
  r0 : 0 ≤ d.rest
  g0 : ∀ z ∈ d.great, 0 ≤ z
  c0 : d.cells.length ≤ 63
theorem DrOk.mono {d : Dr} {n k : Nat} (h : DrOk d n) (l : k ≤ n) : DrOk d k := ⟨h.t0, by have := h.t1; omega, h.r0, h.g0, h.c0⟩
/-- n draws may still be made -/
def DrB (n : Nat) (m : MS) : Prop := ∃ d, m.dr = some d ∧ DrOk d n
theorem DrB.mono {n k : Nat} {m : MS} (h : DrB n m) (l : k ≤ n) : DrB k m := by
  obtain ⟨d, h1, h2⟩ := h
  exact ⟨d, h1, h2.mono l⟩
/-! ### the plain functions -/
def blend1 (cs : List Int) (t p : Int) : Int := cs.foldl (fun b c => (b * 69621 + c + t).fmod p) (48271 * t + p.fdiv 53)
def piece (cs : List Int) (t p : Int) : Int := (blend1 cs t p ^ 5).fmod p
def blendP (cs : List Int) (t : Int) : Int := ((0 * 2147483647 + piece cs t 2147483579) * 2147483647 + piece cs t 2147483629) * 2147483647 + piece cs t 2147483563
def fresh (d : Dr) : Dr := if d.rest = 0 then (match d.great with
  | z :: r => { d with great := r, rest := z }
  | [] => { d with turn := d.turn + 1, rest := blendP d.cells (d.turn + 1) }) else d
def drawV (room : Int) (d : Dr) : Int := (fresh d).rest.fmod room
def drawS (room : Int) (d : Dr) : Dr := { fresh d with rest := (fresh d).rest.fdiv room }
theorem blend1_lt {t p : Int} (hp : 0 < p) (hp1 : p < 2 ^ 31) (h0 : 0 ≤ t) (h1 : t ≤ 2 ^ 200) : ∀ cs : List Int, 0 ≤ blend1 cs t p ∧ blend1 cs t p < 2 ^ 250 := by
  have step : ∀ (cs : List Int) (b : Int), 0 ≤ b ∧ b < 2 ^ 250 → 0 ≤ cs.foldl (fun b c => (b * 69621 + c + t).fmod p) b ∧ cs.foldl (fun b c => (b * 69621 + c + t).fmod p) b < 2 ^ 250 := by
    intro cs
    induction cs with
    | nil => exact fun b h => h
    | cons c cs ih =>
      intro b h
      refine ih _ ⟨Int.fmod_nonneg_of_pos _ hp, ?_⟩
      have := Int.fmod_lt_of_pos (b * 69621 + c + t) hp
      show (b * 69621 + c + t).fmod p < 2 ^ 250
      omega
  intro cs
  refine step cs _ ?_
  have h53 : 0 ≤ p.fdiv 53 := Int.fdiv_nonneg (by omega) (by decide)
  have : p.fdiv 53 ≤ p := by
    have := Int.fdiv_mul_add_fmod p 53
    have := Int.fmod_nonneg_of_pos p (b := 53) (by decide)
    omega
  omega
theorem piece_lt {cs : List Int} {t p : Int} (hp : 0 < p) : 0 ≤ piece cs t p ∧ piece cs t p < p := ⟨Int.fmod_nonneg_of_pos _ hp, Int.fmod_lt_of_pos _ hp⟩
theorem blendP_nn (cs : List Int) (t : Int) : 0 ≤ blendP cs t := by
  have h1 := piece_lt (cs := cs) (t := t) (p := 2147483579) (by decide)
  have h2 := piece_lt (cs := cs) (t := t) (p := 2147483629) (by decide)
  have h3 := piece_lt (cs := cs) (t := t) (p := 2147483563) (by decide)
  unfold blendP
  omega
namespace Cm
open PySem PySem.Spec PyProof.Rows L2
theorem e_blended {d : Dr} {m : MS} (hd : m.dr = some d) (h0 : 0 ≤ d.turn) (h1 : d.turn + 1 ≤ 2 ^ 200) : F__law_blended [.drw] m = .ok (.int (blendP d.cells (d.turn + 1))) { m with dr := some { d with turn := d.turn + 1 } } := by
  refine eq_of_wp ?_
  simp [F__law_blended, u__law_blended, startD, look, hd]
  generalize hm : ({ objs := m.objs, dr := some { great := d.great, cells := d.cells, rest := d.rest, turn := d.turn + 1 } } : MS) = m1
  have hdr : m1.dr = some { great := d.great, cells := d.cells, rest := d.rest, turn := d.turn + 1 } := by rw [← hm]
  refine wp_forW (fun ds ρ m' => m' = m1 ∧ ∃ (ps : List Int) (f : Int) (a b c : Option D), ds = ps.map D.int ∧ (∀ p ∈ ps, 0 < p ∧ p < 2 ^ 31) ∧ ρ = [some .drw, some (.int (d.turn + 1)), some (.int f), a, b, c] ∧ ps.foldl (fun f p => f * 2147483647 + piece d.cells (d.turn + 1) p) f = blendP d.cells (d.turn + 1)) ?_ ?_ _ _ _ ⟨rfl, [2147483579, 2147483629, 2147483563], 0, _, _, _, rfl, by decide, rfl, rfl⟩
  · rintro x ds ρ m' ⟨em, ps, f, a, b, c, e1, hp, rfl, e2⟩
    subst m'
    refine ⟨by simp, ?_⟩
    cases ps with
    | nil => cases e1
    | cons p ps =>
      obtain ⟨rfl, rfl⟩ := List.cons.inj e1
      have hp1 := hp p (by simp)
      simp [look, hdr]
      refine ⟨mulOk_l (by decide), by simp [nz], ?_⟩
      refine wp_forW (fun ds ρ m' => m' = m1 ∧ ∃ (cs : List Int) (z : Int) (a : Option D), ds = cs.map D.int ∧ (0 ≤ z ∧ z < 2 ^ 250) ∧ ρ = [some .drw, some (.int (d.turn + 1)), some (.int f), some (.int p), some (.int z), a] ∧ cs.foldl (fun b c => (b * 69621 + c + (d.turn + 1)).fmod p) z = blend1 d.cells (d.turn + 1) p) ?_ ?_ _ _ _ ⟨rfl, d.cells, _, _, rfl, ?_, rfl, rfl⟩
      · rintro x ds ρ m' ⟨em, cs, z, a, e3, hz, rfl, e4⟩
        subst m'
        refine ⟨by simp, ?_⟩
        cases cs with
        | nil => cases e3
        | cons q cs =>
          obtain ⟨rfl, rfl⟩ := List.cons.inj e3
          simp [look]
          refine ⟨mulOk_r (by decide), by simp [nz]; omega, cs, rfl, _, ⟨Int.fmod_nonneg_of_pos _ hp1.1, ?_⟩, rfl, e4⟩
          have := Int.fmod_lt_of_pos (z * 69621 + q + (d.turn + 1)) hp1.1
          omega
      · rintro ρ m' ⟨em, cs, z, a, e3, hz, rfl, e4⟩
        subst m'
        refine ⟨by simp, ?_⟩
        have : cs = [] := by
          cases cs with
          | nil => rfl
          | cons _ _ => cases e3
        subst this
        have e5 : z = blend1 d.cells (d.turn + 1) p := e4
        simp [look]
        refine ⟨mulOk_r (by decide), powOkW_5 (by omega), by simp [nz]; omega, ps, rfl, fun q hq => hp q (by simp [hq]), ?_⟩
        rw [e5]
        exact e2
      · exact blend1_lt (cs := []) hp1.1 hp1.2 (by omega) h1
  · rintro ρ m' ⟨em, ps, f, a, b, c, e1, hp, rfl, e2⟩
    subst m'
    refine ⟨by simp, ?_⟩
    have : ps = [] := by
      cases ps with
      | nil => rfl
      | cons _ _ => cases e1
    subst this
    have e5 : f = blendP d.cells (d.turn + 1) := e2
    simp [look, e5]
theorem e_draw {d : Dr} {m : MS} {n : Nat} {room : Int} (hd : m.dr = some d) (h : DrOk d (n + 1)) (hr : 0 < room) : F__law_draw [.drw, .int room] m = .ok (.int (drawV room d)) { m with dr := some (drawS room d) } := by
  refine eq_of_wp ?_
  have hb := e_blended hd h.t0 (by have := h.t1; omega)
  simp [F__law_draw, u__law_draw, startD, look, hd]
  have hz : ∀ x : Int, nz x room = true := fun x => by simp [nz]; omega
  by_cases h0 : d.rest = 0
  · cases hg : d.great with
    | nil => simp [h0, hg, hb, look, hz, drawV, drawS, fresh]
    | cons z r => simp [h0, hg, hz, drawV, drawS, fresh]
  · simp [h0, hz, drawV, drawS, fresh]
end Cm
end TL
end
section
/-! The draws: within p1 p2 p3 turns a wanted number comes. -/
namespace TL
def q1 : Int := 2147483579
def q2 : Int := 2147483629
def q3 : Int := 2147483563
def aff : Nat → Int → Int
  | 0, a => a
  | n + 1, a => aff n (a * 69621 + 1)
theorem fmod_dvd (x p : Int) : p ∣ x.fmod p - x := by
  rw [Int.fmod_def]
  exact ⟨-(x.fdiv p), by rw [Int.mul_neg]; omega⟩
theorem blend_aff (p : Int) : ∀ (cs : List Int) (a b0 : Int), ∃ b', ∀ t b : Int, p ∣ b - (a * t + b0) → p ∣ cs.foldl (fun b c => (b * 69621 + c + t).fmod p) b - (aff cs.length a * t + b')
  | [], a, b0 => ⟨b0, fun t b h => h⟩
  | c :: cs, a, b0 => by
    obtain ⟨b', hb⟩ := blend_aff p cs (a * 69621 + 1) (b0 * 69621 + c)
    refine ⟨b', fun t b h => hb t _ ?_⟩
    obtain ⟨j, hj⟩ := fmod_dvd (b * 69621 + c + t) p
    obtain ⟨k, hk⟩ := h
    refine ⟨j + 69621 * k, ?_⟩
    have e1 : (a * 69621 + 1) * t = 69621 * (a * t) + t := by rw [Int.add_mul, Int.one_mul, Int.mul_comm a 69621, Int.mul_assoc]
    have e2 : p * (j + 69621 * k) = p * j + 69621 * (p * k) := by rw [Int.mul_add, Int.mul_left_comm]
    rw [e1, e2]
    show (b * 69621 + c + t).fmod p - _ = _
    omega
theorem blend1_aff (cs : List Int) (p : Int) : ∃ B, ∀ t, p ∣ blend1 cs t p - (aff cs.length 48271 * t + B) := by
  obtain ⟨B, h⟩ := blend_aff p cs 48271 (p.fdiv 53)
  exact ⟨B, fun t => h t _ ⟨0, by omega⟩⟩
theorem pow_cong {p x c : Int} (h : p ∣ x - c) : ∀ n : Nat, p ∣ x ^ n - c ^ n
  | 0 => ⟨0, by simp⟩
  | n + 1 => by
    obtain ⟨k, hk⟩ := pow_cong h n
    obtain ⟨j, hj⟩ := h
    refine ⟨k * x + c ^ n * j, ?_⟩
    have e1 : x ^ (n + 1) = x ^ n * x := Int.pow_succ ..
    have e2 : c ^ (n + 1) = c ^ n * c := Int.pow_succ ..
    have e3 : x ^ n = c ^ n + p * k := by omega
    have e4 : p * (k * x + c ^ n * j) = p * k * x + c ^ n * (p * j) := by rw [Int.mul_add, Int.mul_assoc, Int.mul_left_comm p (c ^ n) j]
    rw [e1, e2, e4, ← hj, e3, Int.add_mul, Int.mul_sub]
    omega
theorem fmod_cong {p x y : Int} (hp : 0 < p) (h : p ∣ x - y) : x.fmod p = y.fmod p := by
  rw [Int.fmod_eq_emod_of_nonneg _ (by omega), Int.fmod_eq_emod_of_nonneg _ (by omega)]
  exact Int.emod_eq_emod_iff_emod_sub_eq_zero.mpr (Int.emod_eq_zero_of_dvd h)
theorem piece_cong {cs : List Int} {t p c : Int} (hp : 0 < p) (h : p ∣ blend1 cs t p - c) : piece cs t p = (c ^ 5).fmod p := fmod_cong hp (pow_cong h 5)
def tab1 : List Int := [1205582182, 779941293, 591703458, 1502032532, 288865675, 880587422, 1352831449, 962017802, 1432699554, 927904781, 128666634, 2063716673, 1877152965, 632197543, 867546538, 638220818, 679381320, 1781127643, 605640528, 2005910369, 1586226135, 2078812342, 1214818027, 1273300047, 947589524, 763901756, 1109188843, 504948053, 1049393938, 1064720707, 802780748, 937220269, 134488313, 938179489, 1650834894, 220938279, 1030310235, 1626523555, 504514476, 361031968, 1145181942, 1867883861, 926760588, 1291869796, 1002280941, 789255486, 1780437747, 710068898, 1553164491, 137339503, 1506768713, 1180438773, 444518459, 1542741782, 1216358227, 1004919072, 66226505, 1331952165, 1913162870, 227089903, 476209765, 132778796, 1776867450, 1632882210]
def tab2 : List Int := [275025249, 1140029759, 709356420, 1725644089, 42849082, 1137780967, 545856801, 556070778, 1665992313, 2005717227, 357387723, 542361775, 1455788297, 1946898299, 1957794201, 221409741, 1935166767, 1315911684, 1184215216, 1582920764, 1892912217, 537463907, 581587346, 237745208, 1111030566, 1662203127, 38578365, 866765837, 333295158, 1366951581, 1545534075, 820580757, 1111396485, 1390543369, 1204509690, 791796526, 361742855, 590040259, 897645098, 357370255, 2037655455, 21233134, 1224694070, 1067888065, 1497828202, 1805991292, 30414441, 1146293843, 1919963558, 1784081882, 1059171993, 602173631, 1478438251, 1788902492, 1619219956, 103174550, 1556244951, 1603773266, 724851864, 284764003, 374027230, 1091836693, 551701441, 430413945]
def tab3 : List Int := [1419347343, 347557379, 1590066861, 847256278, 1462761509, 1774704950, 487534935, 1971304333, 408940469, 1302925771, 1870179674, 1631053694, 55381432, 2049974403, 667679734, 9873746, 1055874355, 781851530, 474388795, 1520512293, 652726122, 1635078249, 1404607963, 860444482, 1590609095, 1887491724, 2090243197, 112718994, 1304194969, 1093210966, 99323286, 782266491, 1448097156, 1990463639, 1070898647, 211107409, 1224110375, 418275916, 2133384192, 1100529630, 996446619, 2067029230, 1546842161, 1271545874, 297140261, 899193807, 279846889, 1493099733, 1387551531, 885615159, 814974700, 1457353183, 1443336335, 1761273202, 2088426005, 1590067037, 1935868037, 1297077803, 188786117, 25712268, 1481326497, 1260127301, 1238946965, 1915669160]
theorem tabs_ok : ∀ n : Fin 64, (aff n.val 48271 * tab1.getD n.val 0 - 1) % q1 = 0 ∧ (aff n.val 48271 * tab2.getD n.val 0 - 1) % q2 = 0 ∧ (aff n.val 48271 * tab3.getD n.val 0 - 1) % q3 = 0 := by decide +kernel
theorem lin {p A B c t s i : Int} (hs : s = (c - B) * i) (h1 : p ∣ A * i - 1) (h2 : p ∣ t - s) : p ∣ A * t + B - c := by
  obtain ⟨k1, e1⟩ := h1
  obtain ⟨k2, e2⟩ := h2
  refine ⟨A * k2 + k1 * (c - B), ?_⟩
  have e3 : t = s + p * k2 := by omega
  have e4 : A * t = A * s + A * (p * k2) := by rw [e3, Int.mul_add]
  have e5 : A * s = (A * i) * (c - B) := by rw [hs, Int.mul_comm (c - B) i, Int.mul_assoc]
  have e6 : A * i = 1 + p * k1 := by omega
  have e7 : p * (A * k2 + k1 * (c - B)) = A * (p * k2) + p * k1 * (c - B) := by rw [Int.mul_add, Int.mul_left_comm, Int.mul_assoc]
  rw [e4, e5, e6, e7, Int.add_mul, Int.one_mul]
  omega
theorem crt (s1 s2 s3 t0 : Int) : ∃ t, t0 < t ∧ t ≤ t0 + 9903519516461379889783524533 ∧ q1 ∣ t - s1 ∧ q2 ∣ t - s2 ∧ q3 ∣ t - s3 := by
  have h2 : q2 ∣ q1 * 816043779 - 1 := by decide +kernel
  have h3 : q3 ∣ q1 * q2 * 1816006460 - 1 := by decide +kernel
  obtain ⟨w, a1, a2⟩ : ∃ w, q1 ∣ w - s1 ∧ q2 ∣ w - s2 := by
    refine ⟨s1 + q1 * (816043779 * (s2 - s1)), ⟨816043779 * (s2 - s1), by omega⟩, ?_⟩
    obtain ⟨k, hk⟩ := h2
    refine ⟨k * (s2 - s1), ?_⟩
    rw [← Int.mul_assoc, ← Int.mul_assoc, ← hk, Int.sub_mul, Int.one_mul]
    omega
  obtain ⟨y, b1, b2, b3⟩ : ∃ y, q1 ∣ y - s1 ∧ q2 ∣ y - s2 ∧ q3 ∣ y - s3 := by
    refine ⟨w + q1 * q2 * (1816006460 * (s3 - w)), ?_, ?_, ?_⟩
    · obtain ⟨k, hk⟩ := a1
      refine ⟨k + q2 * (1816006460 * (s3 - w)), ?_⟩
      have e := Int.mul_assoc q1 q2 (1816006460 * (s3 - w))
      rw [Int.mul_add, ← hk]
      omega
    · obtain ⟨k, hk⟩ := a2
      refine ⟨k + q1 * (1816006460 * (s3 - w)), ?_⟩
      have e := Int.mul_assoc q1 q2 (1816006460 * (s3 - w))
      have e' := Int.mul_left_comm q1 q2 (1816006460 * (s3 - w))
      rw [Int.mul_add, ← hk]
      omega
    · obtain ⟨k, hk⟩ := h3
      refine ⟨k * (s3 - w), ?_⟩
      rw [← Int.mul_assoc, ← Int.mul_assoc, ← hk, Int.sub_mul, Int.one_mul]
      omega
  have hM : (0 : Int) < 9903519516461379889783524533 := by decide
  have key : ∀ p s : Int, p ∣ 9903519516461379889783524533 → p ∣ y - s → p ∣ (t0 + 1 + (y - (t0 + 1)) % 9903519516461379889783524533) - s := fun p s hp hy => by
    obtain ⟨k, hk⟩ := hy
    obtain ⟨l, hl⟩ := hp
    have e := Int.emod_def (y - (t0 + 1)) 9903519516461379889783524533
    refine ⟨k - l * ((y - (t0 + 1)) / 9903519516461379889783524533), ?_⟩
    rw [Int.mul_sub, ← hk, ← Int.mul_assoc, ← hl, e]
    omega
  have g1 := Int.emod_nonneg (y - (t0 + 1)) (Int.ne_of_gt hM)
  have g2 := Int.emod_lt_of_pos (y - (t0 + 1)) hM
  exact ⟨t0 + 1 + (y - (t0 + 1)) % 9903519516461379889783524533, by omega, by omega, key _ _ (by decide +kernel) b1, key _ _ (by decide +kernel) b2, key _ _ (by decide +kernel) b3⟩
def cTab : List Nat := [26, 1242, 1221, 3117, 1404, 193, 5902, 808, 128, 1203, 288, 139, 1592, 508, 3808, 1289, 768, 3467, 1740, 2474, 1015, 4785, 239, 767, 1946, 1650, 118, 371, 515, 3013, 1325, 476, 1865, 1873, 291, 3382, 233, 3081, 624, 800, 578, 456, 1318, 823, 1057, 1427, 1817, 448, 989, 2877, 2488, 1921, 100, 566, 2761, 2890, 62, 1394, 166, 3357, 98, 717, 330, 222, 12, 102, 740, 498, 858, 604, 658, 359, 50, 2911, 438, 43, 1008, 185, 1107, 1524, 214, 1165, 915, 1565, 1162, 1727, 1642, 634, 2854, 765, 5755, 161, 245, 1244, 437, 2682, 5814, 797, 4647, 3911, 878, 769, 176, 1963, 4049, 3376, 917, 2673, 1838, 1422, 929, 171, 34, 136, 1575, 194, 352, 2059, 616, 92, 1131, 265, 727, 1851, 4206, 2108, 1944, 156, 72, 25, 3677, 27, 292, 148, 356, 4754, 54, 1264, 1273, 1328, 2337, 778, 1400, 1201, 687, 426, 1402, 1845, 1655, 3708, 324, 956, 42, 425, 183, 500, 2729, 2972, 1029, 295, 1007, 1522, 2138, 11, 2885, 610, 607, 534, 1046, 65, 844, 429, 2622, 654, 81, 1169, 5514, 213, 1651, 273, 641, 1403, 983, 300, 4671, 3018, 912, 671, 2365, 2868, 3132, 1362, 327, 2657, 725, 1754, 920, 2906, 742, 120, 771, 2043, 366, 364, 711, 2222, 927, 351, 957, 1090, 4663, 487, 411, 2542, 1640, 1802, 1413, 3727, 596, 59, 1699, 1205, 2399, 71, 663, 3020, 597, 1123, 894, 205, 445, 1482, 2347, 2570, 305, 186, 6798, 76, 251, 1276, 1222, 278, 652, 950, 270, 84, 885, 246, 83, 1253, 822, 839, 5071, 82, 2461, 2969, 256, 17, 2514, 51, 1847, 53, 518, 85, 1190, 201, 1050, 1676, 235, 427, 1129, 589, 321, 1246, 1079, 4762, 2508, 1388, 556, 162, 676, 1368, 326, 1794, 133, 397, 210, 2131, 549, 353, 240, 2168, 3075, 2185, 4963, 860, 1295, 3519, 132, 328, 648, 80, 1848, 2612, 963, 1448, 216, 555, 1075, 723, 388, 5246, 5639, 1016, 1263, 2160, 999, 1054, 2617, 1680, 8, 1720, 1445, 529, 702, 1316, 119, 333, 1082, 1743, 1200, 67, 4619, 140, 234, 1245, 3527, 3741, 516, 289, 2403, 600, 1451, 316, 926, 157, 1695, 1012, 2394, 252, 684, 706, 375, 259, 5258, 2262, 819, 586, 3200, 1868, 408, 1151, 1735, 385, 1906, 718, 418, 190, 1028, 343, 563, 151, 801, 1370, 4361, 1161, 402, 751, 226, 2495, 696, 3242, 2226, 6969, 3551, 689, 879, 657, 236, 4200, 3218, 1639, 112, 760, 2874, 220, 1498, 763, 2644, 340, 846, 33, 3547, 110, 441, 45, 1183, 1081, 70, 1908, 105, 1724, 2156, 1320, 168, 1899, 1023, 101, 2299, 1313, 153, 5, 409, 1223, 533, 581, 296, 299, 5409, 4041, 3254, 3313, 3772, 217, 3002, 2827, 1894, 3917, 267, 891, 345, 1728, 2904, 1501, 2903, 1061, 392, 315, 753, 423, 393, 257, 2102, 739, 785, 1580, 355, 2314, 159, 125, 4499, 1557, 1120, 603, 776, 827, 1333, 504, 619, 192, 1495, 1518, 908, 310, 1823, 2352, 1581, 2296, 2110, 1820, 309, 2625, 1089, 951, 523, 895, 369, 2101, 980, 237, 2434, 1986, 281, 3381, 250, 150, 32, 869, 1473, 1386, 144, 1217, 2931, 223, 30, 1143, 994, 553, 341, 954, 4779, 2289, 1433, 932, 2713, 5294, 349, 7165, 262, 565, 3228, 1051, 6569, 1610, 3125, 3434, 1796, 1520, 605, 2080, 170, 3861, 1953, 243, 362, 1045, 1624, 49, 667, 484, 1526, 173, 730, 435, 131, 8705, 1793, 414, 307, 61, 928, 31, 2920, 1174, 244, 164, 551, 1115, 1896, 1500, 521, 337, 716, 750, 1417, 2070, 721, 865, 880, 1210, 1132, 1878, 2582, 365, 1330, 2368, 3779, 473, 1546, 1930, 2348, 1405, 564, 7, 1836, 1124, 2545, 19, 1702, 745, 3543, 617, 384, 87, 1092, 440, 395, 331, 3198, 3309, 1576, 1714, 308, 1122, 3335, 378, 293, 909, 680, 5894, 142, 3133, 813, 480, 1859, 1297, 44, 41, 249, 301, 263, 2144, 4226, 117, 160, 1322, 6087, 135, 453, 280, 1269, 238, 422, 2018, 1319, 334, 660, 401, 1432, 382, 48, 169, 4316, 2258, 3040, 387, 748, 207, 46, 525, 2092, 2044, 123, 1480, 1446, 1334, 1710, 200, 2604, 6094, 1052, 1248, 126, 3027, 66, 231, 1234, 1311, 746, 446, 857, 2078, 3395, 630, 3156, 377, 1497, 1257, 757, 4282, 36, 57, 1584, 2037, 134, 1009, 1053, 253, 2396, 2279, 1447, 1044, 403, 225, 2948, 2094, 24, 158, 127, 180, 261, 759, 5568, 2499, 379, 5296, 2630, 1637, 254, 306, 460, 6330, 115, 152, 1111, 451, 620, 1095, 2814, 567, 719, 1532, 145, 412, 542, 486, 95, 1177, 3152, 609, 1527, 35, 1697, 91, 229, 1375, 793, 2428, 2056, 710, 389, 165, 6473, 1832, 154, 837, 4065, 1349, 163, 787, 1814, 4487, 2870, 502, 2473, 3753, 1843, 1809, 2041, 627, 28, 454, 570, 2003, 413, 5204, 2194, 1803, 2953, 363, 1901, 4908, 546, 602, 1583, 322, 16, 743, 391, 1770, 1026, 840, 651, 1472, 517, 946, 1178, 1096, 2371, 78, 1631, 845, 303, 720, 1365, 691, 5769, 629, 2155, 1816, 465, 1000, 1638, 443, 1212, 191, 621, 137, 1437, 424, 510, 1887, 524, 2217, 221, 149, 2207, 1646, 642, 1614, 4153, 255, 147, 23, 18, 2578, 1434, 2154, 2211, 572, 3978, 2651, 2897, 2424, 612, 415, 283, 390, 2019, 669, 1509, 513, 977, 1324, 573, 13, 1371, 1149, 850, 198, 8303, 1361, 2435, 543, 143, 511, 773, 2733, 336, 360, 1554, 1633, 507, 2285, 1067, 1306, 1035, 784, 2083, 2404, 582, 5045, 40, 5106, 798, 247, 2815, 1268, 2210, 2163, 68, 3406, 141, 89, 1706, 121, 172, 3981, 215, 585, 444, 522, 206, 1216, 3826, 2833, 1559, 2933, 481, 3114, 758, 1011, 973, 15, 1703, 188, 675, 673, 548, 74, 338, 962, 900, 9, 318, 820, 1927, 2786, 106, 1164, 5161, 968, 1025, 1476, 1357, 116, 3620, 1613, 1669, 420, 1562, 872, 182, 987, 228, 1228, 1688, 540, 1338, 3356, 1284, 701, 467, 63, 520, 583, 1258, 2313, 2945, 211, 1723, 1141, 903, 1435, 358, 1957, 538, 325, 726, 1457, 681, 1786, 1279, 2277, 1627, 764, 3407, 1204, 1280, 1671, 3899, 868, 535, 260, 108, 197, 6929, 346, 1519, 4280, 266, 276, 703, 381, 2842, 2453, 1377, 2125, 503, 3203, 209, 275, 399, 1382, 568, 1812, 417, 811, 2574, 527, 64, 1761, 4227, 1345, 1047, 6144, 468, 2022, 383, 370, 88, 1237, 1849, 2105, 432, 1142, 6, 314, 90, 2359, 1099, 4147, 4892, 55, 4, 738, 2197, 227, 925, 490, 3300, 439, 1126, 3197, 2416, 470, 2233, 699, 2822, 2034, 75, 2248, 2240, 1499, 2616, 1199, 146, 1134, 734, 816, 1018, 1299, 284, 633, 224, 455, 97, 287, 828, 2193, 93, 21, 747, 373, 114, 528, 545, 1140, 693, 805, 298, 5084, 1444, 2537, 342, 2576, 3049, 921, 934, 1687, 14, 2487, 4557, 1167, 1449, 1243, 1516, 580, 1749, 113, 2075, 736, 1301, 552, 672, 404, 3684, 2785, 4222, 212, 635, 1996, 2095, 1304, 1396, 129, 562, 593, 1709, 1828, 449, 777, 831, 1213, 195, 3234, 258, 2106, 916, 2441, 2899, 761, 2512, 203, 1380, 434, 2521, 592, 905, 107, 1965, 469, 477, 622, 2346, 271, 1366, 5744, 514, 2113, 856, 187, 2183, 290, 1101, 2475, 4613, 4770, 3731, 189, 644, 1296, 436, 1214, 1194, 274, 248, 653, 1856, 9121, 22, 1929, 3225, 457, 419, 674, 2950, 1698, 20, 3016, 1475, 167, 199, 452, 2692, 824, 2001, 1154, 77, 464, 79, 749, 2525, 39, 3398, 1206, 1170, 483, 354, 772, 1347, 47, 1059, 1353, 1905, 695, 2024, 3130, 1942, 1692, 2242, 1707, 2381, 138, 2167, 5385, 4043, 728, 38, 1021, 1464, 2309, 1628, 1781, 1719, 96, 232, 350, 1542, 1635, 323, 531, 1267, 1623, 804, 2593, 961, 789, 576, 37, 1824, 1964, 677, 124, 2179, 1185, 2267, 623, 670, 2015, 406, 104, 1505, 1881, 3664, 69, 196, 1055, 1218, 625, 410, 1020, 1748, 6874, 3634, 1867, 60, 272, 569, 2159, 587, 2187, 396, 4374, 631, 1922, 1364, 3230, 4969, 380, 2082, 94, 849, 430, 86, 870, 179, 1971, 463, 532, 2366, 795, 709, 1547, 471, 618, 2982, 1211, 461, 955, 2895, 1049, 2042, 1560, 386, 1109, 1068, 3740, 1202, 2141, 1351, 893, 294, 1731, 10, 3688, 2609, 1599, 1083, 29, 1935, 286, 877, 2731, 678, 1063, 1436, 1360, 2780, 3709, 5929, 73, 111, 175, 361, 942, 368, 2011, 58, 601, 184, 428, 958, 219, 1626, 178, 56, 639, 588, 685, 3121, 462, 1429, 1348, 974, 394, 405, 3546, 122, 1931, 1354, 313]
theorem cTab_ok : cTab.map (fun c => c ^ 5 % 2147483563 % 1352) = List.range 1352 ∧ cTab.all (fun c => decide (676 ≤ c ^ 5 % 2147483563)) = true := by decide +kernel
theorem residue {r : Nat} (h : r < 1352) : ∃ c : Nat, c ^ 5 % 2147483563 % 1352 = r ∧ 676 ≤ c ^ 5 % 2147483563 := by
  have e := congrArg (fun l : List Nat => l[r]?) cTab_ok.1
  have e2 : (List.range 1352)[r]? = some r := by simp [h]
  have e3 : (cTab.map (fun c => c ^ 5 % 2147483563 % 1352))[r]? = some r := e.trans e2
  rw [List.getElem?_map] at e3
  cases hc : cTab[r]? with
  | none => rw [hc] at e3; cases e3
  | some c =>
    rw [hc] at e3
    have e4 : c ^ 5 % 2147483563 % 1352 = r := Option.some.inj e3
    exact ⟨c, e4, of_decide_eq_true (List.all_eq_true.mp cTab_ok.2 c (List.mem_of_getElem? hc))⟩
/-- a wanted number comes -/
theorem reach {cs : List Int} (hl : cs.length ≤ 63) (t0 : Int) {r : Nat} (hr : r < 1352) : ∃ (t : Int) (N : Nat), t0 < t ∧ t ≤ t0 + 9903519516461379889783524533 ∧ blendP cs t = N ∧ N % 1352 = r ∧ 676 ≤ N := by
  obtain ⟨c, c1, c2⟩ := residue hr
  obtain ⟨B1, f1⟩ := blend1_aff cs q1
  obtain ⟨B2, f2⟩ := blend1_aff cs q2
  obtain ⟨B3, f3⟩ := blend1_aff cs q3
  obtain ⟨i1, i2, i3⟩ := tabs_ok ⟨cs.length, by omega⟩
  obtain ⟨t, t1, t2, k1, k2, k3⟩ := crt ((0 - B1) * tab1.getD cs.length 0) ((0 - B2) * tab2.getD cs.length 0) (((c : Int) - B3) * tab3.getD cs.length 0) t0
  have g1 := lin rfl (Int.dvd_of_emod_eq_zero i1) k1
  have g2 := lin rfl (Int.dvd_of_emod_eq_zero i2) k2
  have g3 := lin rfl (Int.dvd_of_emod_eq_zero i3) k3
  have comb : ∀ (p A B x c : Int), p ∣ x - (A * t + B) → p ∣ A * t + B - c → p ∣ x - c := fun p A B x c h1 h2 => by
    obtain ⟨k, hk⟩ := h1
    obtain ⟨j, hj⟩ := h2
    exact ⟨k + j, by rw [Int.mul_add]; omega⟩
  have e1 : piece cs t 2147483579 = 0 := (piece_cong (p := q1) (by decide) (comb _ _ _ _ _ (f1 t) g1)).trans (by decide +kernel)
  have e2 : piece cs t 2147483629 = 0 := (piece_cong (p := q2) (by decide) (comb _ _ _ _ _ (f2 t) g2)).trans (by decide +kernel)
  have e3 : piece cs t 2147483563 = ((c ^ 5 % 2147483563 : Nat) : Int) := (piece_cong (p := q3) (by decide) (comb _ _ _ _ _ (f3 t) g3)).trans (by
    rw [Int.fmod_eq_emod_of_nonneg _ (by decide)]
    show ((c : Int) ^ 5) % 2147483563 = _
    rw [Int.natCast_emod, Int.natCast_pow]
    rfl)
  refine ⟨t, c ^ 5 % 2147483563, t1, t2, ?_, c1, c2⟩
  unfold blendP
  rw [e1, e2, e3]
  omega
end TL
end
section
/-! The draws: a number that spells no known word; a lap of the drawing of words. -/
namespace TL
/-- N, drawn somewhere while w is drawn -/
def Spells (N : Nat) (w : List Nat) : Prop := w.length = 1 + N % 8 ∨ ∃ i, w[i]? = some (N % 26) ∧ (i + 1 < w.length → w[i + 1]? = some (N / 26 % 26))
theorem nodup_len {α : Type} [DecidableEq α] : ∀ {l m : List α}, l.Nodup → (∀ x ∈ l, x ∈ m) → l.length ≤ m.length
  | [], m, _, _ => Nat.zero_le _
  | x :: l, m, hn, hs => by
    obtain ⟨h1, h2⟩ := List.nodup_cons.mp hn
    have hx := hs x List.mem_cons_self
    have := nodup_len (l := l) (m := m.erase x) h2 fun y hy => (List.mem_erase_of_ne (fun e => h1 (by rw [← e]; exact hy))).mpr (hs y (List.mem_cons_of_mem _ hy))
    rw [List.length_erase_of_mem hx] at this
    have hp : 0 < m.length := List.length_pos_of_mem hx
    rw [List.length_cons]
    omega
def cands (L : Nat) : List (Nat × Nat) := ((List.range 26).filter fun a => a % 2 == L % 2).flatMap fun a => ((List.range 26).filter fun b => (a + 26 * b) % 4 == L % 4).map fun b => (a, b)
theorem cands_ok : ∀ L : Fin 8, (cands L.val).Nodup ∧ (cands L.val).length = 169 ∧ (∀ x ∈ cands L.val, x.1 < 26 ∧ x.2 < 26 ∧ (x.1 + 26 * x.2) % 4 = L.val % 4) ∧ ∀ l : Fin 26, ((cands L.val).filter fun x => x.1 == l.val).length ≤ 13 := by decide +kernel
theorem filter_split {α : Type} (p q : α → Bool) : ∀ C : List α, (C.filter p).length ≤ (C.filter fun x => p x && !q x).length + (C.filter q).length
  | [] => Nat.le_refl _
  | x :: C => by
    have ih := filter_split p q C
    simp only [List.filter_cons]
    cases p x <;> cases q x <;> simp <;> omega
theorem cand_left (L : Fin 8) : ∀ ls : List Nat, 169 ≤ ((cands L.val).filter fun x => !ls.contains x.1).length + 13 * ls.length
  | [] => by
    have h := (cands_ok L).2.1
    have e : ((cands L.val).filter fun x => !([] : List Nat).contains x.1) = cands L.val := List.filter_eq_self.mpr fun _ _ => rfl
    rw [e, h]
    decide
  | l :: ls => by
    have ih := cand_left L ls
    have h := filter_split (fun x : Nat × Nat => !ls.contains x.1) (fun x => x.1 == l) (cands L.val)
    have e : (fun x : Nat × Nat => !(l :: ls).contains x.1) = fun x => (!ls.contains x.1) && !(x.1 == l) := by
      funext x
      rw [List.contains_cons, Bool.not_or, Bool.and_comm]
    have hl : ((cands L.val).filter fun x => x.1 == l).length ≤ 13 := by
      by_cases h26 : l < 26
      · exact (cands_ok L).2.2.2 ⟨l, h26⟩
      · have : ((cands L.val).filter fun x => x.1 == l) = [] := List.filter_eq_nil_iff.mpr fun x hx => by
          have := ((cands_ok L).2.2.1 x hx).1
          simp
          omega
        rw [this]
        exact Nat.zero_le _
    rw [e, List.length_cons]
    omega
theorem avoid (S : List (List Nat)) (hk : S.length ≤ 6) (hw : ∀ w ∈ S, w.length ≤ 8) : ∃ r, r < 1352 ∧ ∀ N, N % 1352 = r → ∀ w ∈ S, w ≠ [] → ¬ Spells N w := by
  obtain ⟨L, hL, hl⟩ : ∃ L, L < 8 ∧ L ∉ S.map fun w => w.length - 1 := by
    by_cases h : ∃ L, L < 8 ∧ L ∉ S.map fun w => w.length - 1
    · exact h
    · exfalso
      have := nodup_len (l := List.range 8) (m := S.map fun w => w.length - 1) List.nodup_range fun x hx => by
        by_cases hx2 : x ∈ S.map fun w => w.length - 1
        · exact hx2
        · exact (h ⟨x, List.mem_range.mp hx, hx2⟩).elim
      rw [List.length_range, List.length_map] at this
      omega
  have hp : (S.flatMap fun w => w.zip (w.drop 1)).length ≤ 42 := by
    have : ∀ S : List (List Nat), (∀ w ∈ S, w.length ≤ 8) → (S.flatMap fun w => w.zip (w.drop 1)).length ≤ 7 * S.length := by
      intro S
      induction S with
      | nil => intro _; exact Nat.le_refl _
      | cons w S ih =>
        intro h
        have h1 := h w List.mem_cons_self
        have h2 := ih fun v hv => h v (List.mem_cons_of_mem _ hv)
        rw [List.flatMap_cons, List.length_append, List.length_cons, List.length_zip, List.length_drop]
        omega
    have := this S hw
    omega
  obtain ⟨⟨a, b⟩, hx, hx1, hx2⟩ : ∃ x, x ∈ cands L ∧ x.1 ∉ (S.map fun w => w.getLastD 0) ∧ x ∉ S.flatMap fun w => w.zip (w.drop 1) := by
    by_cases h : ∃ x, x ∈ cands L ∧ x.1 ∉ (S.map fun w => w.getLastD 0) ∧ x ∉ S.flatMap fun w => w.zip (w.drop 1)
    · exact h
    · exfalso
      have c := cand_left ⟨L, hL⟩ (S.map fun w => w.getLastD 0)
      have := nodup_len (l := (cands L).filter fun x => !(S.map fun w => w.getLastD 0).contains x.1) (m := S.flatMap fun w => w.zip (w.drop 1)) ((cands_ok ⟨L, hL⟩).1.filter _) fun x hx => by
        obtain ⟨h1, h2⟩ := List.mem_filter.mp hx
        by_cases hx2 : x ∈ S.flatMap fun w => w.zip (w.drop 1)
        · exact hx2
        · exact (h ⟨x, h1, by simpa using h2, hx2⟩).elim
      rw [List.length_map] at c
      have c' : 169 ≤ ((cands L).filter fun x => !(S.map fun w => w.getLastD 0).contains x.1).length + 13 * S.length := c
      omega
  obtain ⟨h1, h2, h3⟩ := (cands_ok ⟨L, hL⟩).2.2.1 (a, b) hx
  have h1 : a < 26 := h1
  have h2 : b < 26 := h2
  have h3 : (a + 26 * b) % 4 = L % 4 := h3
  have fin : ∀ N, N % 8 = L → N % 26 = a → N / 26 % 26 = b → ∀ w ∈ S, w ≠ [] → ¬ Spells N w := by
    rintro N n1 n2 n3 w hw' hne (h | ⟨i, h, h'⟩)
    · exact hl (List.mem_map.mpr ⟨w, hw', by omega⟩)
    · rw [n2] at h
      rw [n3] at h'
      have hi : i < w.length := by
        by_cases q : i < w.length
        · exact q
        · rw [List.getElem?_eq_none (by omega)] at h
          cases h
      by_cases q : i + 1 < w.length
      · refine hx2 (List.mem_flatMap.mpr ⟨w, hw', ?_⟩)
        have hz : (w.zip (w.drop 1))[i]? = some (a, b) := by
          rw [List.getElem?_zip_eq_some]
          refine ⟨h, ?_⟩
          rw [List.getElem?_drop, Nat.add_comm]
          exact h' q
        exact List.mem_of_getElem? hz
      · refine hx1 (List.mem_map.mpr ⟨w, hw', ?_⟩)
        have : i = w.length - 1 := by omega
        rw [this] at h
        rw [List.getLastD_eq_getLast?, List.getLast?_eq_getElem?, h]
        rfl
  by_cases q : (a + 26 * b) % 8 = L
  · exact ⟨a + 26 * b, by omega, fun N hN => fin N (by omega) (by omega) (by omega)⟩
  · exact ⟨a + 26 * b + 676, by omega, fun N hN => fin N (by omega) (by omega) (by omega)⟩
/-! ### a lap -/
def iterD (d : Dr) : Nat → Dr
  | 0 => d
  | j + 1 => drawS 26 (iterD d j)
def lenW (d : Dr) : Nat := 1 + (drawV 8 d).toNat
def wordN (d : Dr) : List Nat := (List.range (lenW d)).map fun j => (drawV 26 (iterD (drawS 8 d) j)).toNat
def afterD (d : Dr) : Dr := iterD (drawS 8 d) (lenW d)
theorem fresh_cases (d : Dr) : (fresh d).cells = d.cells ∧ ((fresh d).turn = d.turn ∨ ((fresh d).turn = d.turn + 1 ∧ (fresh d).rest = blendP d.cells (d.turn + 1))) := by
  unfold fresh
  split
  · split
    · exact ⟨rfl, .inl rfl⟩
    · exact ⟨rfl, .inr ⟨rfl, rfl⟩⟩
  · exact ⟨rfl, .inl rfl⟩
theorem fresh_id {d : Dr} (h : d.rest ≠ 0) : fresh d = d := if_neg h
theorem draw_turn (room : Int) (d : Dr) : d.turn ≤ (drawS room d).turn ∧ (drawS room d).turn ≤ d.turn + 1 ∧ (drawS room d).cells = d.cells := by
  obtain ⟨h1, h2⟩ := fresh_cases d
  have e : (drawS room d).turn = (fresh d).turn := rfl
  refine ⟨?_, ?_, h1⟩ <;> rw [e] <;> rcases h2 with h | ⟨h, _⟩ <;> omega
theorem draw_step {d : Dr} {t room : Int} {N : Nat} (ht : d.turn < t) (hN : blendP d.cells t = N) : (drawS room d).turn < t ∨ ((drawS room d).turn = t ∧ drawV room d = (N : Int).fmod room ∧ (drawS room d).rest = (N : Int).fdiv room) := by
  obtain ⟨h1, h2⟩ := fresh_cases d
  have e : (drawS room d).turn = (fresh d).turn := rfl
  rcases h2 with h | ⟨h, hr⟩
  · exact .inl (by rw [e]; omega)
  · by_cases q : d.turn + 1 < t
    · exact .inl (by rw [e]; omega)
    · have et : d.turn + 1 = t := by omega
      rw [et, hN] at hr
      refine .inr ⟨by rw [e]; omega, ?_, ?_⟩
      · unfold drawV
        rw [hr]
      · unfold drawS
        rw [hr]
theorem iter_turn (d : Dr) : ∀ j, d.turn ≤ (iterD d j).turn ∧ (iterD d j).turn ≤ d.turn + j ∧ (iterD d j).cells = d.cells
  | 0 => ⟨Int.le_refl _, by simp [iterD], rfl⟩
  | j + 1 => by
    obtain ⟨a, b, c⟩ := iter_turn d j
    obtain ⟨x, y, z⟩ := draw_turn 26 (iterD d j)
    have e : iterD d (j + 1) = drawS 26 (iterD d j) := rfl
    rw [e]
    exact ⟨by omega, by omega, z.trans c⟩
theorem letters_step {d : Dr} {t : Int} {N : Nat} (ht : d.turn < t) (hN : blendP d.cells t = N) : ∀ n, (iterD d n).turn < t ∨ ∃ i, i < n ∧ drawV 26 (iterD d i) = (N : Int).fmod 26 ∧ (iterD d (i + 1)).rest = (N : Int).fdiv 26
  | 0 => .inl ht
  | n + 1 => by
    rcases letters_step ht hN n with h | ⟨i, h1, h2⟩
    · rcases draw_step (room := 26) h (by rw [(iter_turn d n).2.2]; exact hN) with q | ⟨_, q1, q2⟩
      · exact .inl q
      · exact .inr ⟨n, by omega, q1, q2⟩
    · exact .inr ⟨i, by omega, h2⟩
theorem lap {d : Dr} {t : Int} {N : Nat} (ht : d.turn < t) (hN : blendP d.cells t = N) (h6 : 676 ≤ N) : (afterD d).turn < t ∨ Spells N (wordN d) := by
  have hlen : (wordN d).length = lenW d := by simp [wordN]
  rcases draw_step (room := 8) ht hN with h | ⟨_, h, _⟩
  · rcases letters_step h (by rw [(draw_turn 8 d).2.2]; exact hN) (lenW d) with q | ⟨i, hi, q1, q2⟩
    · exact .inl q
    · refine .inr (.inr ⟨i, ?_, fun hi2 => ?_⟩)
      · unfold wordN
        rw [List.getElem?_map, List.getElem?_range hi, Option.map_some, q1, Int.fmod_eq_emod_of_nonneg _ (by decide)]
        congr 1
      · rw [hlen] at hi2
        unfold wordN
        rw [List.getElem?_map, List.getElem?_range hi2, Option.map_some]
        have q3 : (N : Int).fdiv 26 = ((N / 26 : Nat) : Int) := by rw [Int.fdiv_eq_ediv_of_nonneg _ (by decide)]; omega
        have q4 : (iterD (drawS 8 d) (i + 1)).rest ≠ 0 := by rw [q2, q3]; omega
        unfold drawV
        rw [fresh_id q4, q2, q3, Int.fmod_eq_emod_of_nonneg _ (by decide)]
        congr 1
  · refine .inr (.inl ?_)
    rw [hlen]
    unfold lenW
    rw [h, Int.fmod_eq_emod_of_nonneg _ (by decide)]
    omega
/-! ### the laps end -/
def R3 : Nat × Nat × Nat → Nat × Nat × Nat → Prop := Prod.Lex (· < ·) (Prod.Lex (· < ·) (· < ·))
theorem R3_wf : WellFounded R3 := (Prod.lex ⟨(· < ·), Nat.lt_wfRel.wf⟩ (Prod.lex ⟨(· < ·), Nat.lt_wfRel.wf⟩ ⟨(· < ·), Nat.lt_wfRel.wf⟩)).wf
def meas (t : Int) (d : Dr) : Nat × Nat × Nat := ((t - d.turn).toNat, d.great.length, d.rest.toNat)
theorem draw_less {t room : Int} {d : Dr} (hr : 2 ≤ room) (h0 : 0 ≤ d.rest) (ht : d.turn < t) : R3 (meas t (drawS room d)) (meas t d) := by
  by_cases hz : d.rest = 0
  · cases hg : d.great with
    | nil =>
      refine Prod.Lex.left _ _ ?_
      have e : (drawS room d).turn = d.turn + 1 := by simp [drawS, fresh, hz, hg]
      show (t - (drawS room d).turn).toNat < (t - d.turn).toNat
      omega
    | cons z r =>
      have e : (drawS room d).turn = d.turn := by simp [drawS, fresh, hz, hg]
      have e2 : (drawS room d).great = r := by simp [drawS, fresh, hz, hg]
      unfold meas
      rw [e, e2]
      exact Prod.Lex.right _ (Prod.Lex.left _ _ (by rw [hg]; simp))
  · have e : fresh d = d := fresh_id hz
    have e1 : (drawS room d).turn = d.turn := by simp [drawS, e]
    have e2 : (drawS room d).great = d.great := by simp [drawS, e]
    have e3 : (drawS room d).rest = d.rest.fdiv room := by simp [drawS, e]
    unfold meas
    rw [e1, e2, e3]
    refine Prod.Lex.right _ (Prod.Lex.right _ ?_)
    rw [Int.fdiv_eq_ediv_of_nonneg _ (by omega)]
    have h1 := Int.ediv_lt_self_of_pos_of_ne_one (x := d.rest) (y := room) (by omega) (by omega)
    have h2 := Int.ediv_nonneg (a := d.rest) (b := room) h0 (by omega)
    omega
theorem draw_rest {room : Int} {d : Dr} {n : Nat} (hr : 0 < room) (h : DrOk d (n + 1)) : DrOk (drawS room d) n := by
  have key : 0 ≤ (fresh d).rest ∧ (∀ z ∈ (fresh d).great, 0 ≤ z) ∧ (fresh d).cells = d.cells ∧ d.turn ≤ (fresh d).turn ∧ (fresh d).turn ≤ d.turn + 1 := by
    unfold fresh
    split
    · split
      · rename_i z r e
        have := h.g0
        rw [e] at this
        exact ⟨this z List.mem_cons_self, fun y hy => this y (List.mem_cons_of_mem _ hy), rfl, Int.le_refl _, by show d.turn ≤ d.turn + 1; omega⟩
      · exact ⟨blendP_nn _ _, h.g0, rfl, by show d.turn ≤ d.turn + 1; omega, Int.le_refl _⟩
    · exact ⟨h.r0, h.g0, rfl, Int.le_refl _, by omega⟩
  obtain ⟨k1, k2, k3, k4, k5⟩ := key
  have t0 := h.t0
  have t1 := h.t1
  refine ⟨?_, ?_, Int.fdiv_nonneg k1 (by omega), k2, ?_⟩
  · show 0 ≤ (fresh d).turn
    omega
  · show (fresh d).turn + n ≤ 2 ^ 200
    omega
  · show (fresh d).cells.length ≤ 63
    rw [k3]
    exact h.c0
theorem iter_ok {d : Dr} : ∀ {n j : Nat}, DrOk d (n + j) → DrOk (iterD d j) n
  | n, 0, h => h
  | n, j + 1, h => draw_rest (by decide) (iter_ok (n := n + 1) (j := j) (by rw [show n + 1 + j = n + (j + 1) by omega]; exact h))
theorem R3_trans {a b c : Nat × Nat × Nat} (h1 : R3 a b) (h2 : R3 b c) : R3 a c := by
  obtain ⟨a1, a2, a3⟩ := a
  obtain ⟨b1, b2, b3⟩ := b
  obtain ⟨c1, c2, c3⟩ := c
  have f : ∀ x1 x2 x3 y1 y2 y3 : Nat, R3 (x1, x2, x3) (y1, y2, y3) ↔ (x1 < y1 ∨ x1 = y1 ∧ (x2 < y2 ∨ x2 = y2 ∧ x3 < y3)) := by
    intro x1 x2 x3 y1 y2 y3
    unfold R3
    rw [Prod.lex_def, Prod.lex_def]
  rw [f] at h1 h2 ⊢
  omega
theorem lap_less {t : Int} {d : Dr} {n : Nat} (h : DrOk d (n + lenW d + 1)) (ht : (afterD d).turn < t) : R3 (meas t (afterD d)) (meas t d) := by
  have o1 : DrOk (drawS 8 d) (n + lenW d) := draw_rest (by decide) h
  have hm := iter_turn (drawS 8 d)
  have m1 := draw_turn 8 d
  have hd : d.turn < t := by
    have := (hm (lenW d)).1
    have e : (afterD d).turn = (iterD (drawS 8 d) (lenW d)).turn := rfl
    omega
  have first : R3 (meas t (drawS 8 d)) (meas t d) := draw_less (by decide) h.r0 hd
  have rest : ∀ j, j ≤ lenW d → (iterD (drawS 8 d) j).turn < t → R3 (meas t (iterD (drawS 8 d) j)) (meas t d) := by
    intro j
    induction j with
    | zero => exact fun _ _ => first
    | succ j ih =>
      intro hj hjt
      have hlt : (iterD (drawS 8 d) j).turn < t := by
        have := (draw_turn 26 (iterD (drawS 8 d) j)).1
        have e : (iterD (drawS 8 d) (j + 1)).turn = (drawS 26 (iterD (drawS 8 d) j)).turn := rfl
        omega
      have ok : DrOk (iterD (drawS 8 d) j) (n + lenW d - j) := iter_ok (by rw [show n + lenW d - j + j = n + lenW d by omega]; exact o1)
      exact R3_trans (draw_less (by decide) ok.r0 hlt) (ih (by omega) hlt)
  exact rest _ (Nat.le_refl _) ht
end TL
end
section
/-! The shared functions: picks, just; a while by a well-founded measure; words' drawing ends. -/
namespace TL
open L2 (atI ixN)
open PySem PySem.Spec PyProof.Rows L2
section
variable {PF' : Fl → MS → Prop}
theorem loop_wf {α : Type} {r : α → α → Prop} (wf : WellFounded r) {g : FB} {body : FS} (I : α → Env' → MS → Prop)
    (step : ∀ x ρ m, I x ρ m → wp (g ρ m) fun k m1 => if k then wp (body ρ m1) fun fl m2 => match fl with | .next ρ2 => ∃ y, r y x ∧ I y ρ2 m2 | .cont ρ2 => ∃ y, r y x ∧ I y ρ2 m2 | .brk ρ2 => PF' (.next ρ2) m2 | .ret d => PF' (.ret d) m2 else PF' (.next ρ) m1) :
    ∀ x ρ m, I x ρ m → ∃ b, wp (loopW g body b ρ m) PF' := by
  intro x
  induction x using wf.induction with
  | _ x ih =>
    intro ρ m hI
    obtain ⟨k, m1, e, h⟩ := wp_elim (step x ρ m hI)
    cases k with
    | false =>
      refine ⟨1, ?_⟩
      unfold loopW
      rw [wp_bind, e]
      exact h
    | true =>
      obtain ⟨fl, m2, e2, h2⟩ := wp_elim (show wp (body ρ m1) _ from h)
      have go : ∀ ρ2, (∃ y, r y x ∧ I y ρ2 m2) → ∃ b, wp (loopW g body b ρ2 m2) PF' := fun ρ2 ⟨y, hr, hy⟩ => ih y hr ρ2 m2 hy
      cases fl with
      | next ρ2 =>
        obtain ⟨b, hb⟩ := go ρ2 h2
        refine ⟨b + 1, ?_⟩
        unfold loopW
        rw [wp_bind, e]
        show wp (M.bind _ _ m1) PF'
        rw [wp_bind, e2]
        exact hb
      | cont ρ2 =>
        obtain ⟨b, hb⟩ := go ρ2 h2
        refine ⟨b + 1, ?_⟩
        unfold loopW
        rw [wp_bind, e]
        show wp (M.bind _ _ m1) PF'
        rw [wp_bind, e2]
        exact hb
      | brk ρ2 =>
        refine ⟨1, ?_⟩
        unfold loopW
        rw [wp_bind, e]
        show wp (M.bind _ _ m1) PF'
        rw [wp_bind, e2]
        exact h2
      | ret d =>
        refine ⟨1, ?_⟩
        unfold loopW
        rw [wp_bind, e]
        show wp (M.bind _ _ m1) PF'
        rw [wp_bind, e2]
        exact h2
theorem wp_while_wf {α : Type} {r : α → α → Prop} (wf : WellFounded r) {g : FB} {body : FS} {ρ : Env'} {m : MS} (I : α → Env' → MS → Prop) {x : α}
    (step : ∀ x ρ m, I x ρ m → wp (g ρ m) fun k m1 => if k then wp (body ρ m1) fun fl m2 => match fl with | .next ρ2 => ∃ y, r y x ∧ I y ρ2 m2 | .cont ρ2 => ∃ y, r y x ∧ I y ρ2 m2 | .brk ρ2 => PF' (.next ρ2) m2 | .ret d => PF' (.ret d) m2 else PF' (.next ρ) m1) (h : I x ρ m) :
    wp (sWhile g body ρ m) PF' := by
  obtain ⟨b, q⟩ := loop_wf wf I step x ρ m h
  have e := sWhile_eq (g := g) (body := body) (ρ := ρ) (m := m) b rfl (fun z => by rw [z] at q; exact q)
  rw [e]
  exact q
end
/-! ### words as lists of letters -/
def strW (l : List Nat) : Str := ⟨(l.map (97 + ·)).toArray⟩
def dW (l : List Nat) : D := .str (strW l)
def WOk (l : List Nat) : Prop := 1 ≤ l.length ∧ l.length ≤ 8 ∧ ∀ x ∈ l, x < 26
theorem strW_inj {a b : List Nat} (h : strW a = strW b) : a = b := by
  have e : a.map (97 + ·) = b.map (97 + ·) := by
    have := congrArg (fun s : Str => s.cps.toList) h
    simpa [strW] using this
  have inj : ∀ a b : List Nat, a.map (97 + ·) = b.map (97 + ·) → a = b := by
    intro a
    induction a with
    | nil => intro b h; cases b with | nil => rfl | cons _ _ => cases h
    | cons x a ih =>
      intro b h
      cases b with
      | nil => cases h
      | cons y b =>
        rw [List.map_cons, List.map_cons] at h
        obtain ⟨h1, h2⟩ := List.cons.inj h
        rw [ih b h2, show x = y by omega]
  exact inj a b e
theorem can_strW {l : List Nat} (h : ∀ x ∈ l, x < 26) : PyData.canLay0 (.str (strW l)) = true := by
  show (strW l).cps.all (· < 0x110000) = true
  rw [← Array.all_toList, List.all_eq_true]
  intro c hc
  have hc' : c ∈ l.map (97 + ·) := by simpa [strW] using hc
  obtain ⟨x, hx, rfl⟩ := List.mem_map.mp hc'
  have := h x hx
  simp
  omega
theorem okD_dW {k : Nat} {l : List Nat} (h : ∀ x ∈ l, x < 26) : okD k (dW l) = true := by
  have := can_strW h
  cases k <;> simpa [okD, dW] using this
theorem eqv_dW {a b : List Nat} : eqvD (dW a) (dW b) = decide (a = b) := by
  show (strW a == strW b) = decide (a = b)
  by_cases h : a = b
  · subst h
    simp
  · rw [decide_eq_false h]
    exact Bool.eq_false_iff.mpr fun q => h (strW_inj (eq_of_beq q))
theorem wp_in_ws {neg : Bool} {l : List Nat} {fs : List (List Nat)} {m : MS} {P : D → MS → Prop} (hl : ∀ x ∈ l, x < 26) (hf : ∀ f ∈ fs, WOk f) : wp (inD neg (dW l) (.lst (fs.map dW)) m) P ↔ P (.bl (if neg then !decide (l ∈ fs) else decide (l ∈ fs))) m := by
  have ha : okAll 63 (fs.map dW) = true := okAll_all.mpr fun z hz => by
    obtain ⟨f, hf', rfl⟩ := List.mem_map.mp hz
    exact okD_dW (hf f hf').2.2
  have e : ((fs.map dW).any fun z => eqvD z (dW l)) = decide (l ∈ fs) := by
    rw [List.any_map]
    by_cases h : l ∈ fs
    · rw [decide_eq_true h]
      exact List.any_eq_true.mpr ⟨l, h, by show eqvD (dW l) (dW l) = true; rw [eqv_dW]; simp⟩
    · rw [decide_eq_false h]
      refine Bool.eq_false_iff.mpr fun q => ?_
      obtain ⟨f, hf', e⟩ := List.any_eq_true.mp q
      have e : eqvD (dW f) (dW l) = true := e
      rw [eqv_dW] at e
      exact h (of_decide_eq_true e ▸ hf')
  show wp (if okD 63 (dW l) && okAll 63 (fs.map dW) then Res.ok (.bl (if neg then !(fs.map dW).any (fun z => eqvD z (dW l)) else (fs.map dW).any (fun z => eqvD z (dW l)))) m else .stuck) P ↔ _
  rw [okD_dW hl, ha, e]
  exact Iff.rfl
theorem glue_letters : ∀ ls : List Nat, Txt.join ("" : Str) (ls.map fun c => (⟨#[c]⟩ : Str)) = ⟨ls.toArray⟩ := by
  have fold : ∀ (ls : List Nat) (acc : Array Nat), (ls.map fun c => (⟨#[c]⟩ : Str)).foldl (fun acc p => acc ++ ("" : Str).cps ++ p.cps) acc = acc ++ ls.toArray := by
    intro ls
    induction ls with
    | nil => intro acc; simp
    | cons c ls ih =>
      intro acc
      rw [List.map_cons, List.foldl_cons, ih]
      refine Array.toList_inj.mp ?_
      have e0 : ("" : Str).cps = #[] := rfl
      simp [e0]
  intro ls
  cases ls with
  | nil => rfl
  | cons c ls =>
    show (⟨((ls.map fun c => (⟨#[c]⟩ : Str))).foldl (fun acc p => acc ++ ("" : Str).cps ++ p.cps) #[c]⟩ : Str) = _
    rw [fold]
    congr 1
    refine Array.toList_inj.mp ?_
    simp
theorem strW_app (a b : List Nat) : strW a ++ strW b = strW (a ++ b) := by
  show (⟨(strW a).cps ++ (strW b).cps⟩ : Str) = _
  unfold strW
  congr 1
  refine Array.toList_inj.mp ?_
  simp
theorem strW_cut (l : List Nat) : cutS (strW l) none (some 1) = strW (l.take 1) := by
  have hn : (strW l).length = l.length := by
    show (l.map (97 + ·)).toArray.size = l.length
    simp
  have hl : (strW l).cps.toList = l.map (97 + ·) := by simp [strW]
  unfold cutS
  rw [hn, hl]
  have e1 : HT.sIx l.length 0 none = 0 := rfl
  have e2 : HT.sIx l.length l.length (some 1) = min 1 l.length := HT.sIx_nat l.length l.length 1
  rw [e1, e2, List.drop_zero, Nat.sub_zero]
  show (⟨((l.map (97 + ·)).take (min 1 l.length)).toArray⟩ : Str) = ⟨((l.take 1).map (97 + ·)).toArray⟩
  congr 2
  cases l with
  | nil => rfl
  | cons x l => simp
theorem strW_q (k : Nat) : (⟨((List.replicate k (Str.ofString "q").cps.toList).flatten).toArray⟩ : Str) = strW (List.replicate k 16) := by
  have e : (Str.ofString "q").cps.toList = [113] := by decide +kernel
  rw [e]
  unfold strW
  congr 2
  induction k with
  | zero => rfl
  | succ k ih => rw [List.replicate_succ, List.flatten_cons, ih, List.replicate_succ, List.map_cons]; rfl
theorem strW_len (l : List Nat) : (strW l).length = l.length := by
  show (l.map (97 + ·)).toArray.size = l.length
  simp
end TL
end
section
/-! The shared functions: picks, just; words. -/
namespace TL
open L2 (atI ixN)
open PySem PySem.Spec PyProof.Rows L2
theorem drawV_lt {room : Int} {d : Dr} (h : 0 < room) : 0 ≤ drawV room d ∧ drawV room d < room := ⟨Int.fmod_nonneg_of_pos _ h, Int.fmod_lt_of_pos _ h⟩
def abc : PySem.Str := "abcdefghijklmnopqrstuvwxyz"
theorem abc_eq : abc.cps.toList = (List.range 26).map (97 + ·) := by decide +kernel
theorem wordN_ok (d : Dr) : WOk (wordN d) := by
  have h8 := drawV_lt (room := 8) (d := d) (by decide)
  refine ⟨?_, ?_, fun x hx => ?_⟩
  · simp [wordN, lenW]
  · simp [wordN, lenW]
    omega
  · obtain ⟨j, _, rfl⟩ := List.mem_map.mp hx
    have := drawV_lt (room := 26) (d := iterD (drawS 8 d) j) (by decide)
    omega
theorem allS_map : ∀ ys : List Str, allS (ys.map D.str) = some ys
  | [] => rfl
  | y :: ys => by
    rw [List.map_cons]
    unfold allS
    rw [allS_map ys]
    rfl
theorem sum_len1 : ∀ ys : List Str, (∀ y ∈ ys, y.length = 1) → (ys.map (·.length)).sum = ys.length := by
  intro ys h1
  induction ys with
  | nil => rfl
  | cons y ys ih =>
    rw [List.map_cons, List.sum_cons, h1 y (by simp), ih fun z hz => h1 z (by simp [hz]), List.length_cons]
    omega
theorem join_ok {m : MS} {ys : List Str} (h : ys.length ≤ 1000) (h1 : ∀ y ∈ ys, y.length = 1) : joinD (.str "") [.lst (ys.map D.str)] m = .ok (.str (Txt.join "" ys)) m := by
  unfold joinD
  dsimp only
  rw [show (lstD m (.lst (ys.map D.str))).bind allS = some ys from allS_map ys]
  dsimp only
  rw [if_pos]
  rw [sum_len1 ys h1]
  show ys.length + ys.length * 0 ≤ 1000000
  omega
namespace Cm
theorem e_pick {d : Dr} {m : MS} {n : Nat} {xs : List D} (hd : m.dr = some d) (h : DrOk d (n + 1)) (hx : xs ≠ []) : ∃ (i : Nat) (x : D), xs[i]? = some x ∧ (i : Int) = drawV xs.length d ∧ F__law_pick [.drw, .lst xs] m = .ok x { m with dr := some (drawS xs.length d) } := by
  have hl : 0 < (xs.length : Int) := by
    have := List.length_pos_iff.mpr hx
    omega
  have hv := drawV_lt (d := d) hl
  obtain ⟨j, hj⟩ := Int.eq_ofNat_of_zero_le hv.1
  have hj2 : j < xs.length := by omega
  refine ⟨j, xs[j], List.getElem?_eq_getElem hj2, hj.symm, ?_⟩
  refine eq_of_wp ?_
  simp [F__law_pick, u__law_pick, startD, look, e_draw hd h hl, hj, atI_nat hj2]
theorem lc_letters {d : Dr} {m : MS} {n : Nat} (hd : m.dr = some d) (h : DrOk d n) (hn : n ≤ 1000) {x1 x2 x3 x4 : Option D} {P : List D → MS → Prop} (done : P ((List.range n).map fun j => D.str ⟨#[97 + (drawV 26 (iterD d j)).toNat]⟩) { m with dr := some (iterD d n) }) :
    wp (lcW (ItD.mk (rng 0 n) []).Ok (gN 4) bYes (dCall (lenF 2 F__law_pick) (aCons (dVar 0) (aCons (dCallB (arg1 (listD false)) (aCons (dC (.str "abcdefghijklmnopqrstuvwxyz")) aNil)) aNil))) (wipeD [some .drw, x1, x2, x3, x4] [4]) (rng 0 n) m) P := by
  refine wp_lcW_all (fun ds acc m' => acc.length + ds.length = n ∧ acc = ((List.range acc.length).map fun j => D.str ⟨#[97 + (drawV 26 (iterD d j)).toNat]⟩) ∧ m' = { m with dr := some (iterD d acc.length) }) ⟨by rw [rng_length]; simp, rfl, ?_⟩ ?_ ?_
  · cases m
    simp at hd
    simp [iterD, hd]
  · rintro x ds acc m' ⟨h1, h2, h3⟩
    subst h3
    rw [List.length_cons] at h1
    have ok : DrOk (iterD d acc.length) (ds.length + 1) := iter_ok (by rw [show ds.length + 1 + acc.length = n by omega]; exact h)
    have ha : abc.cps.toList.map (fun c => D.str ⟨#[c]⟩) ≠ [] := by
      intro z
      have := congrArg List.length z
      rw [List.length_map] at this
      exact absurd this (by decide +kernel)
    have hlen : (abc.cps.toList.map fun c => D.str ⟨#[c]⟩).length = 26 := by
      rw [List.length_map, abc_eq]
      rfl
    obtain ⟨i, y, hy, hi, he⟩ := e_pick (m := { m with dr := some (iterD d acc.length) }) (xs := abc.cps.toList.map fun c => D.str ⟨#[c]⟩) rfl ok ha
    rw [hlen, show ((26 : Nat) : Int) = 26 from rfl] at hi he
    refine ⟨ok_nil', ?_⟩
    have hv := drawV_lt (room := 26) (d := iterD d acc.length) (by decide)
    have hy2 : y = D.str ⟨#[97 + (drawV 26 (iterD d acc.length)).toNat]⟩ := by
      rw [abc_eq, List.map_map] at hy
      have hi26 : i < 26 := by omega
      rw [List.getElem?_map, List.getElem?_range hi26] at hy
      cases hy
      have : i = (drawV 26 (iterD d acc.length)).toNat := by omega
      rw [← this]
      rfl
    have hab : (Str.ofString "abcdefghijklmnopqrstuvwxyz") = abc := rfl
    simp [look, wipeD, hab, he]
    refine ⟨by decide +kernel, by omega, ?_, ?_⟩
    · rw [List.range_succ, List.map_append, ← h2, hy2]
      rfl
    · rfl
  · rintro acc m' ⟨h1, h2, h3⟩
    have e : acc.length = n := by simpa using h1
    subst h3
    rw [e] at h2 ⊢
    rw [h2]
    exact ⟨ok_nil', done⟩
end Cm
end TL
end
section
/-! The shared functions: a lap of `_law_words`. -/
namespace TL
open L2 (atI ixN)
open PySem PySem.Spec PyProof.Rows L2
section
variable {m : MS} {P : D → MS → Prop} {ρ : Env'}
@[simp] theorem wp_oNone {PO : Option Int → MS → Prop} : wp (oNone ρ m) PO ↔ PO none m := Iff.rfl
@[simp] theorem wp_oSome {f : FE} {PO : Option Int → MS → Prop} : wp (oSome f ρ m) PO ↔ wp (f ρ m) fun d m' => wp (asI d m') PO := by
  unfold oSome
  rw [wp_bind]
@[simp] theorem wp_asI {i : Int} {PO : Option Int → MS → Prop} : wp (asI (.int i) m) PO ↔ PO (some i) m := Iff.rfl
@[simp] theorem wp_add_lst {fr : Bool} {xs ys : List D} : wp (addD fr (.lst xs) (.lst ys) m) P ↔ wp (newL fr (xs ++ ys) m) P := Iff.rfl
theorem wp_add_str {fr : Bool} {x y : Str} : wp (addD fr (.str x) (.str y) m) P ↔ x.length + y.length ≤ 1000000 ∧ P (.str (x ++ y)) m := by
  show wp (if x.length + y.length ≤ 1000000 then Res.ok (.str (x ++ y)) m else .stuck) P ↔ _
  split
  · rename_i h; exact ⟨fun q => ⟨h, q⟩, fun q => q.2⟩
  · rename_i h; exact ⟨fun q => q.elim, fun q => (h q.1).elim⟩
theorem wp_mul_str {fr : Bool} {z : Str} {k : Int} : wp (mulD fr (.str z) (.int k) m) P ↔ (z.length ≤ 1000 ∧ -1000 ≤ k ∧ k ≤ 1000) ∧ P (.str ⟨((List.replicate k.toNat z.cps.toList).flatten).toArray⟩) m := by
  show wp (if z.length ≤ 1000 ∧ -1000 ≤ k ∧ k ≤ 1000 then Res.ok (.str ⟨((List.replicate k.toNat z.cps.toList).flatten).toArray⟩) m else .stuck) P ↔ _
  split
  · rename_i h; exact ⟨fun q => ⟨h, q⟩, fun q => q.2⟩
  · rename_i h; exact ⟨fun q => q.elim, fun q => (h q.1).elim⟩
theorem wp_slD_str {fr : Bool} {z : Str} {lo hi : Option Int} : wp (slD fr (.str z) lo hi m) P ↔ z.length ≤ 1000000 ∧ P (.str (cutS z lo hi)) m := by
  show wp (if z.length ≤ 1000000 then Res.ok (.str (cutS z lo hi)) m else .stuck) P ↔ _
  split
  · rename_i h; exact ⟨fun q => ⟨h, q⟩, fun q => q.2⟩
  · rename_i h; exact ⟨fun q => q.elim, fun q => (h q.1).elim⟩
end
namespace Cm
noncomputable def uJoin : FE := (dMeth "str" joinD (dC (.str "")) (aCons (dLc false [4] (iRange1 (aCons (dBin (addD false) (dC (.int 1)) (dCall (lenF 2 F__law_draw) (aCons (dVar 0) (aCons (dC (.int 8)) aNil)))) aNil)) (gN 4) bYes (dCall (lenF 2 F__law_pick) (aCons (dVar 0) (aCons (dCallB (arg1 (listD false)) (aCons (dC (.str "abcdefghijklmnopqrstuvwxyz")) aNil)) aNil)))) aNil))
noncomputable def uFound : FE := (dBin (addD false) (dVar 2) (dIf (toB (dBin (inD true) (dVar 3) (dVar 2))) (dLst false (aCons (dVar 3) aNil)) (dIf (bAnd (toB (dBin (inD true) (dBin (addD false) (dSl false (dVar 3) oNone (oSome (dC (.int 1)))) (dBin (mulD false) (dC (.str "q")) (dCallB (arg1 lenD) (aCons (dVar 2) aNil)))) (dVar 2))) (toB (dBin (ltI) (dCallB (arg1 lenD) (aCons (dVar 2) aNil)) (dC (.int 8))))) (dLst false (aCons (dBin (addD false) (dSl false (dVar 3) oNone (oSome (dC (.int 1)))) (dBin (mulD false) (dC (.str "q")) (dCallB (arg1 lenD) (aCons (dVar 2) aNil)))) aNil)) (dLst false aNil))))
theorem sp_join {d : Dr} {m : MS} {x1 x2 x3 x4 : Option D} {P : D → MS → Prop} (hd : m.dr = some d) (ok : DrOk d 9) (h : P (dW (wordN d)) { m with dr := some (afterD d) }) : wp (uJoin [some .drw, x1, x2, x3, x4] m) P := by
  have h8 := drawV_lt (room := 8) (d := d) (by decide)
  have e8 := e_draw (room := 8) hd (n := 8) ok (by decide)
  simp [uJoin, look, e8]
  refine ⟨by omega, ?_⟩
  have en : (1 + drawV 8 d).toNat = lenW d := by unfold lenW; omega
  rw [en]
  have hl : lenW d ≤ 8 := by unfold lenW; omega
  refine lc_letters rfl ((draw_rest (n := 8) (by decide) ok).mono hl) (by omega) ?_
  have e1 : ((List.range (lenW d)).map fun j => D.str ⟨#[97 + (drawV 26 (iterD (drawS 8 d) j)).toNat]⟩) = (((wordN d).map (97 + ·)).map fun c => (⟨#[c]⟩ : Str)).map D.str := by
    unfold wordN
    rw [List.map_map, List.map_map, List.map_map]
    rfl
  rw [e1, List.length_map, List.length_map, List.length_map]
  have hw := wordN_ok d
  refine ⟨by have := hw.2.1; omega, ?_⟩
  rw [join_ok (by rw [List.length_map, List.length_map]; have := hw.2.1; omega) (fun y hy => by
    obtain ⟨c, _, rfl⟩ := List.mem_map.mp hy
    rfl), wp_ok, glue_letters]
  exact h
theorem sp_found {m : MS} {l : List Nat} {fs : List (List Nat)} {x1 x4 : Option D} {P : D → MS → Prop} (hl : WOk l) (hf : ∀ f ∈ fs, WOk f) (hk : fs.length ≤ 7)
    (h1 : l ∉ fs → P (.lst ((fs ++ [l]).map dW)) m) (h2 : l ∈ fs → ∀ c, c ∉ fs → WOk c → P (.lst ((fs ++ [c]).map dW)) m) (h3 : l ∈ fs → P (.lst (fs.map dW)) m) : wp (uFound [some .drw, x1, some (.lst (fs.map dW)), some (dW l), x4] m) P := by
  have hi := fun (neg : Bool) (P : D → MS → Prop) => wp_in_ws (neg := neg) (m := m) (P := P) hl.2.2 hf
  simp [uFound, look]
  rw [hi]
  by_cases hm : l ∈ fs
  · rw [decide_eq_true hm]
    have hlen := strW_len l
    have c1 : dSl false (dVar 3) oNone (oSome (dC (D.int 1))) [some D.drw, x1, some (D.lst (List.map dW fs)), some (dW l), x4] m = .ok (dW (l.take 1)) m := by
      refine eq_of_wp ?_
      unfold dSl
      simp [look]
      show wp (slD false (.str (strW l)) none (some 1) m) _
      rw [wp_slD_str, strW_cut]
      exact ⟨by rw [hlen]; have := hl.2.1; omega, rfl, rfl⟩
    have c2 : mulD false (D.str (Str.ofString "q")) (D.int fs.length) m = .ok (dW (List.replicate fs.length 16)) m := by
      refine eq_of_wp ?_
      rw [wp_mul_str]
      refine ⟨⟨by decide +kernel, by omega, by omega⟩, ?_, rfl⟩
      rw [show ((fs.length : Int)).toNat = fs.length from by omega, strW_q]
      rfl
    have c3 : addD false (dW (l.take 1)) (dW (List.replicate fs.length 16)) m = .ok (dW (l.take 1 ++ List.replicate fs.length 16)) m := by
      refine eq_of_wp ?_
      show wp (addD false (.str (strW _)) (.str (strW _)) m) _
      rw [wp_add_str, strW_app, strW_len, strW_len, List.length_take, List.length_replicate]
      exact ⟨by omega, rfl, rfl⟩
    have hc : WOk (l.take 1 ++ List.replicate fs.length 16) := by
      obtain ⟨w1, w2, w3⟩ := hl
      refine ⟨by rw [List.length_append, List.length_take, List.length_replicate]; omega, by rw [List.length_append, List.length_take, List.length_replicate]; omega, fun x hx => ?_⟩
      rcases List.mem_append.mp hx with h | h
      · exact w3 x (List.mem_of_mem_take h)
      · rw [(List.mem_replicate.mp h).2]
        decide
    have hi2 := fun (neg : Bool) (P : D → MS → Prop) => wp_in_ws (neg := neg) (m := m) (P := P) hc.2.2 hf
    simp [c1, c2, c3]
    rw [hi2]
    by_cases hm2 : l.take 1 ++ List.replicate fs.length 16 ∈ fs
    · rw [decide_eq_true hm2]
      simp
      exact ⟨by omega, h3 hm⟩
    · rw [decide_eq_false hm2]
      have h8 : ((fs.length : Int) < 8) := by omega
      simp [h8, c1, c2, c3]
      refine ⟨by omega, ?_⟩
      have := h2 hm _ hm2 hc
      simpa using this
  · rw [decide_eq_false hm]
    simp
    refine ⟨by omega, ?_⟩
    have := h1 hm
    simpa using this
end Cm
end TL
end
section
/-! The shared functions: `_law_words` ends, with unlike words. -/
namespace TL
open L2 (atI ixN)
open PySem PySem.Spec PyProof.Rows L2
/-- a statement, then the rest -/
theorem wp_seqN {m : MS} {ρ : Env'} {u v : FS} {PF' : Fl → MS → Prop} (J : Env' → MS → Prop) (h : wp (u ρ m) fun fl m' => ∃ ρ', fl = .next ρ' ∧ J ρ' m') (k : ∀ ρ' m', J ρ' m' → wp (v ρ' m') PF') : wp (sSeq u v ρ m) PF' := by
  rw [wp_seq]
  refine wp_mono h fun fl m' ⟨ρ', e, j⟩ => ?_
  subst e
  exact k ρ' m' j
theorem target {d : Dr} {fs : List (List Nat)} (h : DrOk d 0) (hf : ∀ f ∈ fs, WOk f) (hk : fs.length ≤ 6) : ∃ (t : Int) (N : Nat), d.turn < t ∧ t ≤ d.turn + 9903519516461379889783524533 ∧ blendP d.cells t = N ∧ 676 ≤ N ∧ ∀ w ∈ fs, ¬ Spells N w := by
  obtain ⟨r, hr, ha⟩ := avoid fs hk fun w hw => (hf w hw).2.1
  obtain ⟨t, N, h1, h2, h3, h4, h5⟩ := reach h.c0 d.turn hr
  refine ⟨t, N, h1, h2, h3, h5, fun w hw => ha N h4 w hw fun e => ?_⟩
  have := (hf w hw).1
  rw [e] at this
  simp at this
theorem after_turn (d : Dr) : d.turn ≤ (afterD d).turn ∧ (afterD d).turn ≤ d.turn + 9 ∧ (afterD d).cells = d.cells := by
  have h8 := drawV_lt (room := 8) (d := d) (by decide)
  obtain ⟨a, b, c⟩ := iter_turn (drawS 8 d) (lenW d)
  obtain ⟨x, y, z⟩ := draw_turn 8 d
  have hl : lenW d ≤ 8 := by unfold lenW; omega
  exact ⟨by unfold afterD; omega, by unfold afterD; omega, c.trans z⟩
theorem after_ok {d : Dr} (h : DrOk d 9) : DrOk (afterD d) 0 := by
  have h8 := drawV_lt (room := 8) (d := d) (by decide)
  have hl : lenW d ≤ 8 := by unfold lenW; omega
  exact iter_ok (n := 0) ((draw_rest (n := 8) (by decide) h).mono (by omega))
def RW : Nat × (Nat × Nat × Nat) → Nat × (Nat × Nat × Nat) → Prop := Prod.Lex (· < ·) R3
theorem RW_wf : WellFounded RW := (Prod.lex ⟨(· < ·), Nat.lt_wfRel.wf⟩ ⟨R3, R3_wf⟩).wf
/-- where the drawing of words stands -/
structure Stage (n many : Nat) (m0 : MS) (fs : List (List Nat)) (d : Dr) (t : Int) : Prop where
  ok : ∀ f ∈ fs, WOk f
  nd : fs.Nodup
  le : fs.length ≤ many
  dr : DrOk d 0
  go : fs.length < many → d.turn < t ∧ t + 20 + n + ((many - fs.length - 1 : Nat) : Int) * 9903519516461379889783524600 ≤ 2 ^ 200 ∧ ∃ N : Nat, blendP d.cells t = N ∧ 676 ≤ N ∧ ∀ w ∈ fs, ¬ Spells N w
  fin : fs.length = many → d.turn + n ≤ 2 ^ 200
/-- more words -/
theorem Stage.next {n many : Nat} {m0 : MS} {fs : List (List Nat)} {d d' : Dr} {t : Int} {c : List Nat} (hm : many ≤ 7) (S : Stage n many m0 fs d t) (hlt : fs.length < many) (hc : c ∉ fs) (hw : WOk c) (ok' : DrOk d' 0) (ht : d'.turn ≤ d.turn + 9) : ∃ t', Stage n many m0 (fs ++ [c]) d' t' := by
  obtain ⟨g1, g2, _⟩ := S.go hlt
  have ok2 : ∀ f ∈ fs ++ [c], WOk f := fun f hf => by
    rcases List.mem_append.mp hf with h | h
    · exact S.ok f h
    · rw [List.mem_singleton.mp h]
      exact hw
  have nd2 : (fs ++ [c]).Nodup := by
    rw [List.nodup_append]
    refine ⟨S.nd, by simp, fun a ha b hb => ?_⟩
    rw [List.mem_singleton.mp hb]
    exact fun e => hc (by rw [← e]; exact ha)
  have hl : (fs ++ [c]).length = fs.length + 1 := by simp
  by_cases hq : fs.length + 1 < many
  · obtain ⟨t', N, h1, h2, h3, h4, h5⟩ := target ok' ok2 (by rw [hl]; omega)
    refine ⟨t', ok2, nd2, by rw [hl]; omega, ok', fun _ => ⟨h1, ?_, N, h3, h4, h5⟩, fun e => by rw [hl] at e; omega⟩
    rw [hl]
    have e : ((many - fs.length - 1 : Nat) : Int) = ((many - (fs.length + 1) - 1 : Nat) : Int) + 1 := by omega
    rw [e, Int.add_mul] at g2
    omega
  · refine ⟨0, ok2, nd2, by rw [hl]; omega, ok', fun e => by rw [hl] at e; omega, fun _ => ?_⟩
    have : (0 : Int) ≤ ((many - fs.length - 1 : Nat) : Int) * 9903519516461379889783524600 := Int.mul_nonneg (by omega) (by decide)
    omega
theorem DrOk.of0 {d : Dr} {n : Nat} (h : DrOk d 0) (b : d.turn + n ≤ 2 ^ 200) : DrOk d n := ⟨h.t0, b, h.r0, h.g0, h.c0⟩
namespace Cm
theorem sp_loop {n many : Nat} {m : MS} (hm : many ≤ 7) (h : DrB (n + 79228156131691039118268196800) m) :
    wp (sWhile (toB (dBin (ltI) (dCallB (arg1 lenD) (aCons (dVar 2) aNil)) (dVar 1))) (sSeq (sAsg uJoin (gN 3)) (sAsg uFound (gN 2))) [some .drw, some (.int many), some (.lst []), none, none] m)
      fun fl m' => ∃ ρ', fl = .next ρ' ∧ ∃ (fs : List (List Nat)) (x3 x4 : Option D), ρ' = [some .drw, some (.int many), some (.lst (fs.map dW)), x3, x4] ∧ (∀ f ∈ fs, WOk f) ∧ fs.Nodup ∧ fs.length = many ∧ m'.objs = m.objs ∧ DrB n m' := by
  obtain ⟨d0, hd0, ok0⟩ := h
  have b0 := ok0.t1
  have start : ∃ t, Stage n many m [] d0 t := by
    by_cases hq : 0 < many
    · obtain ⟨t, N, h1, h2, h3, h4, h5⟩ := target (fs := []) (ok0.mono (Nat.zero_le _)) (by simp) (by simp)
      refine ⟨t, by simp, List.nodup_nil, by simp, ok0.mono (Nat.zero_le _), fun _ => ⟨h1, ?_, N, h3, h4, h5⟩, fun e => by simp at e; omega⟩
      have e : ((many - ([] : List (List Nat)).length - 1 : Nat) : Int) ≤ 6 := by simp; omega
      omega
    · exact ⟨0, by simp, List.nodup_nil, by simp, ok0.mono (Nat.zero_le _), fun e => by simp at e; omega, fun _ => by omega⟩
  obtain ⟨t0, S0⟩ := start
  refine wp_while_wf RW_wf (fun x ρ m' => ∃ (fs : List (List Nat)) (d : Dr) (t : Int) (x3 x4 : Option D), x = (many - fs.length, meas t d) ∧ ρ = [some .drw, some (.int many), some (.lst (fs.map dW)), x3, x4] ∧ Stage n many m fs d t ∧ m' = { m with dr := some d }) (x := (many - 0, meas t0 d0)) ?_ ⟨[], d0, t0, none, none, rfl, rfl, S0, by cases m; simp at hd0; rw [hd0]⟩
  rintro x ρ m' ⟨fs, d, t, x3, x4, rfl, rfl, S, rfl⟩
  have hle := S.le
  have hg : (toB (dBin (ltI) (dCallB (arg1 lenD) (aCons (dVar 2) aNil)) (dVar 1))) [some .drw, some (.int many), some (.lst (fs.map dW)), x3, x4] { m with dr := some d } = .ok (decide ((fs.length : Int) < many)) { m with dr := some d } := eq_of_wp (by simp [look])
  rw [hg, wp_ok]
  by_cases hlt : fs.length < many
  · have hlt' : (fs.length : Int) < many := by omega
    obtain ⟨g1, g2, N, n1, n2, n3⟩ := S.go hlt
    have hnn : (0 : Int) ≤ ((many - fs.length - 1 : Nat) : Int) * 9903519516461379889783524600 := Int.mul_nonneg (by omega) (by decide)
    have ok9 : DrOk d 9 := S.dr.of0 (by omega)
    have at_ := after_turn d
    have aok := after_ok ok9
    rw [decide_eq_true hlt', if_pos rfl, wp_seq, wp_sAsg]
    refine sp_join rfl ok9 ?_
    show wp (sAsg uFound (gN 2) [some .drw, some (.int many), some (.lst (fs.map dW)), some (dW (wordN d)), x4] { m with dr := some (afterD d) }) _
    rw [wp_sAsg]
    show wp (uFound [some .drw, some (.int many), some (.lst (fs.map dW)), some (dW (wordN d)), x4] { m with dr := some (afterD d) }) _
    have more : ∀ c, c ∉ fs → WOk c → ∃ y, RW y (many - fs.length, meas t d) ∧ ∃ (fs' : List (List Nat)) (d' : Dr) (t' : Int) (x3' x4' : Option D), y = (many - fs'.length, meas t' d') ∧ [some D.drw, some (D.int many), some (D.lst ((fs ++ [c]).map dW)), some (dW (wordN d)), x4] = [some .drw, some (.int many), some (.lst (fs'.map dW)), x3', x4'] ∧ Stage n many m fs' d' t' ∧ ({ m with dr := some (afterD d) } : MS) = { m with dr := some d' } := fun c hc hw => by
      obtain ⟨t', S'⟩ := S.next hm hlt hc hw aok at_.2.1
      refine ⟨(many - (fs ++ [c]).length, meas t' (afterD d)), Prod.Lex.left _ _ ?_, fs ++ [c], afterD d, t', _, _, rfl, rfl, S', rfl⟩
      rw [List.length_append, List.length_singleton]
      omega
    refine sp_found (wordN_ok d) S.ok (by omega) (fun hn => ?_) (fun _ c hc hw => ?_) (fun hin => ?_)
    · exact more _ hn (wordN_ok d)
    · exact more c hc hw
    · rcases lap g1 n1 n2 with q | q
      · have hl : lenW d ≤ 8 := by
          have h8 := drawV_lt (room := 8) (d := d) (by decide)
          unfold lenW
          omega
        refine ⟨(many - fs.length, meas t (afterD d)), Prod.Lex.right _ (lap_less (n := 0) (ok9.mono (by omega)) q), fs, afterD d, t, _, _, rfl, rfl, ⟨S.ok, S.nd, S.le, aok, fun _ => ⟨q, g2, N, by rw [at_.2.2]; exact n1, n2, n3⟩, fun e => by omega⟩, rfl⟩
      · exact (n3 _ hin q).elim
  · have e : fs.length = many := by omega
    have hlt' : ¬ (fs.length : Int) < many := by omega
    rw [decide_eq_false hlt', if_neg (by decide)]
    exact ⟨_, rfl, fs, _, _, rfl, S.ok, S.nd, e, rfl, ⟨d, rfl, S.dr.of0 (S.fin e)⟩⟩
end Cm
end TL
end
section
/-! The shared functions: sorted words. -/
namespace TL
open L2 (atI ixN)
open PySem PySem.Spec PyProof.Rows L2
def leS (x y : Str) : Bool := !ltCps y.cps.toList x.cps.toList
theorem leS_iff {x y : Str} : leS x y = true ↔ x.cps.toList ≤ y.cps.toList := by
  unfold leS
  rw [ltCps_eq]
  simp
theorem leS_trans (x y z : Str) (h1 : leS x y = true) (h2 : leS y z = true) : leS x z = true := leS_iff.mpr (List.le_trans (leS_iff.mp h1) (leS_iff.mp h2))
theorem leS_total (x y : Str) : (leS x y || leS y x) = true := by
  rcases List.le_total x.cps.toList y.cps.toList with h | h
  · rw [leS_iff.mpr h]; rfl
  · rw [leS_iff.mpr h, Bool.or_true]
theorem leS_anti {x y : Str} (h1 : leS x y = true) (h2 : leS y x = true) : x = y := by
  have e := List.le_antisymm (leS_iff.mp h1) (leS_iff.mp h2)
  obtain ⟨a⟩ := x
  obtain ⟨b⟩ := y
  exact congrArg Str.mk (Array.toList_inj.mp e)
theorem rising_pw : ∀ (r : List Str) (p : Str), risingS p r = true → (p :: r).Pairwise fun a b => leS a b = true
  | [], p, _ => List.pairwise_singleton _ _
  | x :: r, p, h => by
    have h2 : (!ltCps x.cps.toList p.cps.toList && risingS x r) = true := h
    obtain ⟨h3, h4⟩ := Bool.and_eq_true_iff.mp h2
    have ih := rising_pw r x h4
    have h3 : leS p x = true := h3
    refine List.pairwise_cons.mpr ⟨fun y hy => ?_, ih⟩
    rcases List.mem_cons.mp hy with rfl | hy
    · exact h3
    · exact leS_trans _ _ _ h3 ((List.pairwise_cons.mp ih).1 y hy)
theorem sorted_pw : ∀ {zs : List Str}, sortedS zs = true → zs.Pairwise fun a b => leS a b = true
  | [], _ => .nil
  | x :: r, h => rising_pw r x h
theorem srt_ok (xs : List Str) : srtS xs (xs.mergeSort leS) := fun zs hp hs => by
  have p2 : (xs.mergeSort leS).Pairwise fun a b => leS a b = true := List.pairwise_mergeSort leS_trans leS_total xs
  exact List.Perm.eq_of_pairwise (le := fun a b => leS a b = true) (fun a b _ _ h1 h2 => leS_anti h1 h2) (sorted_pw hs) p2 (hp.trans (List.mergeSort_perm xs leS).symm)
theorem sorted_ok {m : MS} {xs : List Str} (h : xs.length < 64) : sortedD (.lst (xs.map D.str)) m = .ok (.lst ((xs.mergeSort leS).map D.str)) m := by
  unfold sortedD
  rw [show (lstD m (.lst (xs.map D.str))).bind allS = some xs from allS_map xs]
  dsimp only
  have hz : xs.length < 64 ∧ ∃ ys, srtS xs ys := ⟨h, _, srt_ok xs⟩
  rw [dif_pos hz]
  have p2 : sortedS (xs.mergeSort leS) = true := sortedS_of_pairwise _ ((List.pairwise_mergeSort leS_trans leS_total xs).imp fun h => by
    have : (!ltCps _ _) = true := h
    simpa using this)
  have e := Classical.choose_spec hz.2 (xs.mergeSort leS) (List.mergeSort_perm xs leS) p2
  rw [e]
/-- words, ascending -/
structure Wds (many : Nat) (gs : List (List Nat)) : Prop where
  ok : ∀ f ∈ gs, WOk f
  len : gs.length = many
  asc : gs.Pairwise fun a b => (strW a).cps.toList < (strW b).cps.toList
theorem map_perm {fs : List (List Nat)} : ∀ {ys : List Str}, ys.Perm (fs.map strW) → ∃ gs : List (List Nat), ys = gs.map strW ∧ gs.Perm fs := fun {ys} h => by
  have hx : ∀ y ∈ ys, ∃ g, strW g = y := fun y hy => by
    obtain ⟨g, _, e⟩ := List.mem_map.mp (h.mem_iff.mp hy)
    exact ⟨g, e⟩
  obtain ⟨gs, e⟩ : ∃ gs : List (List Nat), ys = gs.map strW := by
    clear h
    induction ys with
    | nil => exact ⟨[], rfl⟩
    | cons y ys ih =>
      obtain ⟨gs, e⟩ := ih fun z hz => hx z (List.mem_cons_of_mem _ hz)
      obtain ⟨g, eg⟩ := hx y List.mem_cons_self
      exact ⟨g :: gs, by rw [List.map_cons, eg, e]⟩
  refine ⟨gs, e, ?_⟩
  rw [e] at h
  have inj : ∀ l : List (List Nat), (l.map strW).map (fun s : Str => s.cps.toList.map (· - 97)) = l := by
    intro l
    rw [List.map_map]
    have e : ((fun s : Str => s.cps.toList.map (· - 97)) ∘ strW) = id := by
      funext a
      show (strW a).cps.toList.map (· - 97) = a
      have : (strW a).cps.toList = a.map (97 + ·) := by simp [strW]
      rw [this, List.map_map]
      have e2 : ((fun x : Nat => x - 97) ∘ fun x => 97 + x) = id := by
        funext x
        show 97 + x - 97 = x
        omega
      rw [e2, List.map_id]
    rw [e, List.map_id]
  have h2 := h.map (fun s : Str => s.cps.toList.map (· - 97))
  rw [inj, inj] at h2
  exact h2
namespace Cm
theorem sp_words {n many : Nat} {m : MS} (hm : many ≤ 7) (h : DrB (n + 79228156131691039118268196800) m) : wp (F__law_words [.drw, .int many] m) fun v m' => (∃ gs, v = .lst (gs.map dW) ∧ Wds many gs) ∧ m'.objs = m.objs ∧ DrB n m' := by
  unfold F__law_words u__law_words
  rw [wp_bodyF']
  refine wp_seqN (fun ρ m' => m' = m ∧ ρ = [some .drw, some (.int many), some (.lst []), none, none]) (by simp [look, startD]) ?_
  rintro _ m' ⟨em, rfl⟩
  subst m'
  refine wp_seqN _ (sp_loop hm h) ?_
  rintro _ m' ⟨fs, x3, x4, rfl, hok, hnd, hl, ho, hb⟩
  have e1 : fs.map dW = (fs.map strW).map D.str := by rw [List.map_map]; rfl
  have e2 := sorted_ok (m := m') (xs := fs.map strW) (by rw [List.length_map]; omega)
  rw [← e1] at e2
  simp [look, e2]
  refine ⟨?_, ho, hb⟩
  obtain ⟨gs, e3, hp⟩ := map_perm (List.mergeSort_perm (fs.map strW) leS)
  have hnd2 : gs.Nodup := hp.nodup_iff.mpr hnd
  refine ⟨gs, ?_, fun f hf => hok f (hp.mem_iff.mp hf), by rw [hp.length_eq, hl], ?_⟩
  · show ((fs.map strW).mergeSort leS).map D.str = _
    rw [e3, List.map_map]
    rfl
  · have p2 : ((fs.map strW).mergeSort leS).Pairwise fun a b => leS a b = true := List.pairwise_mergeSort leS_trans leS_total _
    rw [e3, List.pairwise_map] at p2
    have p3 := p2.and hnd2
    refine p3.imp fun {a b} ⟨h1, h2⟩ => ?_
    have h3 := leS_iff.mp h1
    by_cases q : (strW a).cps.toList < (strW b).cps.toList
    · exact q
    · exact (h2 (strW_inj (leS_anti h1 (leS_iff.mpr (List.not_lt.mp q))))).elim
end Cm
end TL
end
section
/-! The shared functions: draws, picks, in the short form. -/
namespace TL
open L2 (atI ixN)
namespace Cm
open PySem PySem.Spec PyProof.Rows L2
theorem sp_draw {n : Nat} {m : MS} {room : Int} (h : DrB (n + 1) m) (hr : 0 < room) : wp (F__law_draw [.drw, .int room] m) fun v m' => (∃ i, v = .int i ∧ 0 ≤ i ∧ i < room) ∧ m'.objs = m.objs ∧ DrB n m' := by
  obtain ⟨d, hd, ok⟩ := h
  rw [e_draw hd ok hr]
  exact ⟨⟨_, rfl, drawV_lt hr⟩, rfl, _, rfl, draw_rest hr ok⟩
theorem sp_pick {n : Nat} {m : MS} {xs : List D} (h : DrB (n + 1) m) (hx : xs ≠ []) : wp (F__law_pick [.drw, .lst xs] m) fun v m' => v ∈ xs ∧ m'.objs = m.objs ∧ DrB n m' := by
  obtain ⟨d, hd, ok⟩ := h
  obtain ⟨i, x, h1, h2, h3⟩ := e_pick hd ok hx
  rw [h3]
  have hl : 0 < (xs.length : Int) := by
    have := List.length_pos_iff.mpr hx
    omega
  exact ⟨List.mem_of_getElem? h1, rfl, _, rfl, draw_rest hl ok⟩
end Cm
end TL
end
section
namespace TL
open L2 (atI ixN)
/-- a ratio's value -/
def R2 (p : Int × Int) : D := .tup [.int p.1, .int p.2]
def V2 (xs : List (Int × Int)) : D := .tup (xs.map R2)
def qn (n d : Int) : Int × Int := if 0 < d then (n.fdiv (Nat.gcd n.natAbs d.natAbs : Nat), d.fdiv (Nat.gcd n.natAbs d.natAbs : Nat)) else ((-n).fdiv (Nat.gcd n.natAbs d.natAbs : Nat), (-d).fdiv (Nat.gcd n.natAbs d.natAbs : Nat))
@[simp] theorem atI_0 {α : Type} {x : α} {xs : List α} : atI (x :: xs) 0 = some x := by
  have := atI_nat (xs := x :: xs) (j := 0) (by simp)
  simpa using this
@[simp] theorem atI_1 {α : Type} {x y : α} {xs : List α} : atI (x :: y :: xs) 1 = some y := by
  have := atI_nat (xs := x :: y :: xs) (j := 1) (by simp)
  simpa using this
theorem fdiv_negg {n g : Int} : n.fdiv (-g) = (-n).fdiv g := by
  rw [← Int.neg_fdiv_neg]
  simp
theorem gcd_pos {n d : Int} (h : d ≠ 0) : 0 < Nat.gcd n.natAbs d.natAbs := Nat.gcd_pos_of_pos_right _ (Int.natAbs_pos.mpr h)
theorem natAbs_if (x : Int) : (if x < 0 then -x else x) = (x.natAbs : Int) := by split <;> omega
namespace Cm
open PySem PySem.Spec PyProof.Rows L2
theorem e_lowest {n d : Int} {m : MS} (h : d ≠ 0) : F_lowest [.int n, .int d] m = .ok (R2 (qn n d)) m := by
  have g0 := gcd_pos (n := n) h
  refine eq_of_wp ?_
  simp [F_lowest, u_lowest, startD, look, R2, qn]
  by_cases hd : 0 < d
  · simp [hd, nz]
    omega
  · simp [hd, nz, fdiv_negg]
    omega
theorem e_q {n d : Int} {m : MS} (h : d ≠ 0) : F__law_q [.int n, .int d] m = .ok (R2 (qn n d)) m := by
  have g0 := gcd_pos (n := n) h
  refine eq_of_wp ?_
  simp [F__law_q, u__law_q, startD, look, natAbs_if]
  refine wp_while (n := d.natAbs) (fun k ρ m' => m' = m ∧ ∃ a b : Nat, b = k ∧ Nat.gcd a b = Nat.gcd n.natAbs d.natAbs ∧ ρ = [some (.int n), some (.int d), some (.int a), some (.int b)]) ?_ ⟨rfl, _, _, rfl, rfl, rfl⟩
  rintro k ρ m' ⟨rfl, a, b, rfl, hg, rfl⟩
  simp [look]
  by_cases hb : b = 0
  · subst hb
    rw [Nat.gcd_zero_right] at hg
    subst hg
    simp [R2, qn, nz]
    split <;> rename_i hd <;> simp [hd] <;> omega
  · have hb' : (0 : Int) < (b : Int) := by omega
    have hb2 : 0 < b := by omega
    simp [hb', look, nz, hb, hb2]
    refine ⟨a % b, Nat.mod_lt _ hb2, b, ?_, rfl, ?_⟩
    · rw [← hg, Nat.gcd_comm a b, Nat.gcd_rec b a, Nat.gcd_comm]
    · rw [Int.fmod_eq_emod_of_nonneg _ (by omega)]
      rfl
theorem e_plus {a b : Int × Int} {m : MS} (h1 : mulOk a.1 b.2 = true) (h2 : mulOk b.1 a.2 = true) (h3 : mulOk a.2 b.2 = true) (h : a.2 * b.2 ≠ 0) : F_plus [R2 a, R2 b] m = .ok (R2 (qn (a.1 * b.2 + b.1 * a.2) (a.2 * b.2))) m := by
  refine eq_of_wp ?_
  simp [F_plus, u_plus, startD, look, R2, h1, h2, h3, e_lowest h]
theorem e_times {a b : Int × Int} {m : MS} (h1 : mulOk a.1 b.1 = true) (h3 : mulOk a.2 b.2 = true) (h : a.2 * b.2 ≠ 0) : F_times [R2 a, R2 b] m = .ok (R2 (qn (a.1 * b.1) (a.2 * b.2))) m := by
  refine eq_of_wp ?_
  simp [F_times, u_times, startD, look, R2, h1, h3, e_lowest h]
theorem e_lplus {a b : Int × Int} {m : MS} (h1 : mulOk a.1 b.2 = true) (h2 : mulOk b.1 a.2 = true) (h3 : mulOk a.2 b.2 = true) (h : a.2 * b.2 ≠ 0) : F__law_plus [R2 a, R2 b] m = .ok (R2 (qn (a.1 * b.2 + b.1 * a.2) (a.2 * b.2))) m := by
  refine eq_of_wp ?_
  simp [F__law_plus, u__law_plus, startD, look, R2, h1, h2, h3, e_q h]
theorem e_ltimes {a b : Int × Int} {m : MS} (h1 : mulOk a.1 b.1 = true) (h3 : mulOk a.2 b.2 = true) (h : a.2 * b.2 ≠ 0) : F__law_times [R2 a, R2 b] m = .ok (R2 (qn (a.1 * b.1) (a.2 * b.2))) m := by
  refine eq_of_wp ?_
  simp [F__law_times, u__law_times, startD, look, R2, h1, h3, e_q h]
end Cm
end TL
end
section
namespace TL
open L2 (atI ixN)
open PySem in
theorem bits_le {i : Int} {a : Nat} (h : i.natAbs < 2 ^ a) : Builtin.Int.intBits i ≤ a := by
  unfold Builtin.Int.intBits
  split
  · omega
  · rename_i hi
    have hn : i.natAbs ≠ 0 := by
      intro z
      apply hi
      simp
      omega
    have := (Nat.log2_lt hn).mpr h
    omega
theorem mulOk_of {i j : Int} {a b : Nat} (h1 : i.natAbs < 2 ^ a) (h2 : j.natAbs < 2 ^ b) (h : a + b ≤ 134217728) : mulOk i j = true := by
  have k1 := bits_le h1
  have k2 := bits_le h2
  unfold mulOk
  simp
  omega
/-- of size k, its denominator above 0 -/
def Sz (k : Nat) (p : Int × Int) : Prop := p.1.natAbs < 2 ^ k ∧ p.2.natAbs < 2 ^ k ∧ 0 < p.2
theorem Sz.mono {k j : Nat} {p : Int × Int} (h : Sz k p) (l : k ≤ j) : Sz j p :=
  ⟨Nat.lt_of_lt_of_le h.1 (Nat.pow_le_pow_right (by decide) l), Nat.lt_of_lt_of_le h.2.1 (Nat.pow_le_pow_right (by decide) l), h.2.2⟩
theorem natAbs_fdiv {x : Int} {g : Nat} (hg : (g : Int) ∣ x) : (x.fdiv g).natAbs ≤ x.natAbs := by
  rw [Int.fdiv_eq_ediv_of_dvd hg]
  obtain ⟨y, rfl⟩ := hg
  by_cases h : g = 0
  · subst h
    simp
  · rw [Int.mul_ediv_cancel_left _ (by omega), Int.natAbs_mul]
    exact Nat.le_mul_of_pos_left _ (by omega)
theorem gcd_dvd1 {n d : Int} : ((Nat.gcd n.natAbs d.natAbs : Nat) : Int) ∣ n := Int.ofNat_dvd_left.mpr (Nat.gcd_dvd_left _ _)
theorem gcd_dvd2 {n d : Int} : ((Nat.gcd n.natAbs d.natAbs : Nat) : Int) ∣ d := Int.ofNat_dvd_left.mpr (Nat.gcd_dvd_right _ _)
theorem Sz.qn {k : Nat} {n d : Int} (h1 : n.natAbs < 2 ^ k) (h2 : d.natAbs < 2 ^ k) (h : 0 < d) : Sz k (qn n d) := by
  unfold TL.qn
  rw [if_pos h]
  refine ⟨Nat.lt_of_le_of_lt (natAbs_fdiv gcd_dvd1) h1, Nat.lt_of_le_of_lt (natAbs_fdiv gcd_dvd2) h2, ?_⟩
  show 0 < d.fdiv _
  rw [Int.fdiv_eq_ediv_of_dvd gcd_dvd2]
  obtain ⟨y, hy⟩ := gcd_dvd2 (n := n) (d := d)
  have g0 := gcd_pos (n := n) (d := d) (by omega)
  generalize hg : ((Nat.gcd n.natAbs d.natAbs : Nat) : Int) = g at *
  have gp : 0 < g := by omega
  rw [hy, Int.mul_ediv_cancel_left _ (by omega)]
  rw [hy] at h
  exact Int.pos_of_mul_pos_right h (by omega)
def qplus (a b : Int × Int) : Int × Int := qn (a.1 * b.2 + b.1 * a.2) (a.2 * b.2)
def qtimes (a b : Int × Int) : Int × Int := qn (a.1 * b.1) (a.2 * b.2)
theorem lt_mul_pow {x y a b : Nat} (h1 : x < 2 ^ a) (h2 : y < 2 ^ b) : x * y < 2 ^ (a + b) := by
  rw [Nat.pow_add]
  exact Nat.mul_lt_mul'' h1 h2
theorem Sz.times {a b : Nat} {p q : Int × Int} (h1 : Sz a p) (h2 : Sz b q) : Sz (a + b) (qtimes p q) :=
  Sz.qn (by rw [Int.natAbs_mul]; exact lt_mul_pow h1.1 h2.1) (by rw [Int.natAbs_mul]; exact lt_mul_pow h1.2.1 h2.2.1) (Int.mul_pos h1.2.2 h2.2.2)
theorem Sz.plus {a b : Nat} {p q : Int × Int} (h1 : Sz a p) (h2 : Sz b q) : Sz (a + b + 1) (qplus p q) := by
  refine Sz.qn ?_ ?_ (Int.mul_pos h1.2.2 h2.2.2)
  · refine Nat.lt_of_le_of_lt (Int.natAbs_add_le _ _) ?_
    rw [Int.natAbs_mul, Int.natAbs_mul, Nat.pow_succ]
    have k1 := lt_mul_pow h1.1 h2.2.1
    have k2 := lt_mul_pow h2.1 h1.2.1
    rw [Nat.add_comm b a] at k2
    omega
  · rw [Int.natAbs_mul]
    exact Nat.lt_trans (lt_mul_pow h1.2.1 h2.2.1) (Nat.pow_lt_pow_right (by decide) (by omega))
def qsum (xs : List (Int × Int)) : Int × Int := xs.foldl qplus (0, 1)
namespace Cm
open PySem PySem.Spec PyProof.Rows L2
section
variable {a b : Nat} {p q : Int × Int} {m : MS}
theorem f_plus (h1 : Sz a p) (h2 : Sz b q) (h : a + b ≤ 134217728) : F_plus [R2 p, R2 q] m = .ok (R2 (qplus p q)) m :=
  e_plus (mulOk_of h1.1 h2.2.1 h) (mulOk_of h2.1 h1.2.1 (by omega)) (mulOk_of h1.2.1 h2.2.1 h) (by have := Int.mul_pos h1.2.2 h2.2.2; omega)
theorem f_times (h1 : Sz a p) (h2 : Sz b q) (h : a + b ≤ 134217728) : F_times [R2 p, R2 q] m = .ok (R2 (qtimes p q)) m :=
  e_times (mulOk_of h1.1 h2.1 h) (mulOk_of h1.2.1 h2.2.1 h) (by have := Int.mul_pos h1.2.2 h2.2.2; omega)
theorem f_lplus (h1 : Sz a p) (h2 : Sz b q) (h : a + b ≤ 134217728) : F__law_plus [R2 p, R2 q] m = .ok (R2 (qplus p q)) m :=
  e_lplus (mulOk_of h1.1 h2.2.1 h) (mulOk_of h2.1 h1.2.1 (by omega)) (mulOk_of h1.2.1 h2.2.1 h) (by have := Int.mul_pos h1.2.2 h2.2.2; omega)
theorem f_ltimes (h1 : Sz a p) (h2 : Sz b q) (h : a + b ≤ 134217728) : F__law_times [R2 p, R2 q] m = .ok (R2 (qtimes p q)) m :=
  e_ltimes (mulOk_of h1.1 h2.1 h) (mulOk_of h1.2.1 h2.2.1 h) (by have := Int.mul_pos h1.2.2 h2.2.2; omega)
end
theorem f_total {k : Nat} {xs : List (Int × Int)} {m : MS} (hk : ∀ x ∈ xs, Sz k x) (hl : 1 + (xs.length + 1) * (k + 1) ≤ 134217728) : F_total [.lst (xs.map R2)] m = .ok (R2 (qsum xs)) m := by
  refine eq_of_wp ?_
  simp [F_total, u_total, startD, look]
  refine wp_forW (fun ds ρ m' => m' = m ∧ ∃ pre suf, xs = pre ++ suf ∧ ds = suf.map R2 ∧ Sz (1 + pre.length * (k + 1)) (qsum pre) ∧ ∃ a, ρ = [some (.lst (xs.map R2)), some (R2 (qsum pre)), a]) ?_ ?_ _ _ _ ⟨rfl, [], xs, rfl, rfl, ⟨by simp [qsum], by simp [qsum], by simp [qsum]⟩, _, rfl⟩
  · rintro x ds ρ m' ⟨rfl, pre, suf, e, es, hs, a, rfl⟩
    cases suf with
    | nil => cases es
    | cons y suf =>
      obtain ⟨rfl, rfl⟩ := List.cons.inj es
      refine ⟨by simp, ?_⟩
      have hy : Sz k y := hk y (by rw [e]; simp)
      have hlen : xs.length = pre.length + (suf.length + 1) := by rw [e]; simp
      have e1 := f_plus (m := m') hs hy (by
        have : pre.length * (k + 1) + k ≤ (xs.length + 1) * (k + 1) := by
          rw [hlen, Nat.add_mul, Nat.add_mul]
          omega
        omega)
      simp [look, e1]
      refine ⟨pre ++ [y], suf, by rw [e]; simp, rfl, ?_, ?_⟩
      · have e2 : qsum (pre ++ [y]) = qplus (qsum pre) y := by unfold qsum; simp
        rw [e2]
        refine (hs.plus hy).mono ?_
        rw [List.length_append, Nat.add_mul]
        simp
        omega
      · unfold qsum
        simp
  · rintro ρ m' ⟨rfl, pre, suf, e, es, hs, a, rfl⟩
    refine ⟨by simp, ?_⟩
    cases suf with
    | cons y suf => cases es
    | nil =>
      simp at e
      subst e
      simp [look]
end Cm
end TL
end
section
namespace TL
open L2 (atI ixN)
def qdot (xs ys : List (Int × Int)) : Int × Int := qsum ((xs.zip ys).map fun p => qtimes p.1 p.2)
theorem zip_len {α β : Type} {xs : List α} {ys : List β} : (xs.zip ys).length ≤ xs.length := by
  rw [List.length_zip]
  exact Nat.min_le_left _ _
namespace Cm
open PySem PySem.Spec PyProof.Rows L2
theorem f_sum {k : Nat} {xs : List (Int × Int)} {m : MS} (hk : ∀ x ∈ xs, Sz k x) (hl : 1 + (xs.length + 1) * (k + 1) ≤ 134217728) : F__law_sum [.lst (xs.map R2)] m = .ok (R2 (qsum xs)) m := by
  refine eq_of_wp ?_
  simp [F__law_sum, u__law_sum, startD, look]
  refine wp_forW (fun ds ρ m' => m' = m ∧ ∃ pre suf, xs = pre ++ suf ∧ ds = suf.map R2 ∧ Sz (1 + pre.length * (k + 1)) (qsum pre) ∧ ∃ a, ρ = [some (.lst (xs.map R2)), some (R2 (qsum pre)), a]) ?_ ?_ _ _ _ ⟨rfl, [], xs, rfl, rfl, ⟨by simp [qsum], by simp [qsum], by simp [qsum]⟩, _, rfl⟩
  · rintro x ds ρ m' ⟨rfl, pre, suf, e, es, hs, a, rfl⟩
    cases suf with
    | nil => cases es
    | cons y suf =>
      obtain ⟨rfl, rfl⟩ := List.cons.inj es
      refine ⟨by simp, ?_⟩
      have hy : Sz k y := hk y (by rw [e]; simp)
      have hlen : xs.length = pre.length + (suf.length + 1) := by rw [e]; simp
      have e1 := f_lplus (m := m') hs hy (by
        have : pre.length * (k + 1) + k ≤ (xs.length + 1) * (k + 1) := by
          rw [hlen, Nat.add_mul, Nat.add_mul]
          omega
        omega)
      simp [look, e1]
      refine ⟨pre ++ [y], suf, by rw [e]; simp, rfl, ?_, ?_⟩
      · have e2 : qsum (pre ++ [y]) = qplus (qsum pre) y := by unfold qsum; simp
        rw [e2]
        refine (hs.plus hy).mono ?_
        rw [List.length_append, Nat.add_mul]
        simp
        omega
      · unfold qsum
        simp
  · rintro ρ m' ⟨rfl, pre, suf, e, es, hs, a, rfl⟩
    refine ⟨by simp, ?_⟩
    cases suf with
    | cons y suf => cases es
    | nil =>
      simp at e
      subst e
      simp [look]
section
variable {a b : Nat} {xs ys : List (Int × Int)} {m : MS} (hx : ∀ x ∈ xs, Sz a x) (hy : ∀ y ∈ ys, Sz b y) (hl : xs.length ≤ 1000) (hb : 1 + (xs.length + 1) * (a + b + 1) ≤ 134217728)
include hx hy hl hb
theorem dot_sz : ∀ z ∈ ((xs.zip ys).map fun p => qtimes p.1 p.2), Sz (a + b) z := by
  intro z hz
  obtain ⟨p, hp, rfl⟩ := List.mem_map.mp hz
  exact (hx p.1 (List.of_mem_zip hp).1).times (hy p.2 (List.of_mem_zip hp).2)
theorem dot_len : 1 + (((xs.zip ys).map fun p => qtimes p.1 p.2).length + 1) * (a + b + 1) ≤ 134217728 := by
  refine Nat.le_trans ?_ hb
  rw [List.length_map]
  have := zip_len (xs := xs) (ys := ys)
  exact Nat.add_le_add_left (Nat.mul_le_mul_right _ (by omega)) _
theorem dot_ab : a + b ≤ 134217728 := by
  have : 1 * (a + b + 1) ≤ (xs.length + 1) * (a + b + 1) := Nat.mul_le_mul_right _ (by omega)
  omega
theorem f_dot : F_dot [V2 xs, V2 ys] m = .ok (R2 (qdot xs ys)) m := by
  refine eq_of_wp ?_
  simp [F_dot, u_dot, startD, look, V2, zipG_map]
  refine wp_lcW_mapA _ (fun p : (Int × Int) × (Int × Int) => R2 (qtimes p.1 p.2)) ok_nil' (fun p hp => ?_) ?_
  · simp [look, wipeD, f_times (m := m) (hx p.1 (List.of_mem_zip hp).1) (hy p.2 (List.of_mem_zip hp).2) (dot_ab hx hy hl hb)]
  · have e := f_total (m := m) (dot_sz hx hy hl hb) (dot_len hx hy hl hb)
    rw [List.map_map] at e
    have e2 : ((xs.zip ys).map (R2 ∘ fun p => qtimes p.1 p.2)) = (xs.zip ys).map (fun p => R2 (qtimes p.1 p.2)) := rfl
    rw [e2] at e
    simp [e, qdot]
    have := zip_len (xs := xs) (ys := ys)
    omega
theorem f_ldot : F__law_dot [V2 xs, V2 ys] m = .ok (R2 (qdot xs ys)) m := by
  refine eq_of_wp ?_
  simp [F__law_dot, u__law_dot, startD, look, V2, zipG_map]
  refine wp_lcW_mapA _ (fun p : (Int × Int) × (Int × Int) => R2 (qtimes p.1 p.2)) ok_nil' (fun p hp => ?_) ?_
  · simp [look, wipeD, f_ltimes (m := m) (hx p.1 (List.of_mem_zip hp).1) (hy p.2 (List.of_mem_zip hp).2) (dot_ab hx hy hl hb)]
  · have e := f_sum (m := m) (dot_sz hx hy hl hb) (dot_len hx hy hl hb)
    rw [List.map_map] at e
    have e2 : ((xs.zip ys).map (R2 ∘ fun p => qtimes p.1 p.2)) = (xs.zip ys).map (fun p => R2 (qtimes p.1 p.2)) := rfl
    rw [e2] at e
    simp [e, qdot]
    have := zip_len (xs := xs) (ys := ys)
    omega
end
end Cm
end TL
end
section
namespace TL
open L2 (atI ixN)
@[simp] theorem wp_mul_tup {P : D → MS → Prop} {m : MS} {fr : Bool} {xs : List D} {k : Int} : wp (mulD fr (.tup xs) (.int k) m) P ↔ ((xs.length ≤ 1000 ∧ -1000 ≤ k ∧ k ≤ 1000) ∧ P (.tup (List.replicate k.toNat xs).flatten) m) := by
  show wp (if xs.length ≤ 1000 ∧ -1000 ≤ k ∧ k ≤ 1000 then Res.ok (.tup (List.replicate k.toNat xs).flatten) m else .stuck) P ↔ _
  split
  · rename_i h
    exact ⟨fun q => ⟨h, q⟩, fun q => q.2⟩
  · rename_i h
    exact ⟨fun q => q.elim, fun q => (h q.1).elim⟩
abbrev QV := List (Int × Int)
/-- one place of a mixture -/
def mixAt (ps : List ((Int × Int) × QV)) (i : Nat) : Int × Int := qsum (ps.map fun p => qtimes p.1 (p.2.getD i (0, 1)))
def mixV (ps : List ((Int × Int) × QV)) (n : Nat) : QV := (List.range n).map (mixAt ps)
/-- a sequence: a list | a tuple -/
def sqD (t : Bool) (xs : List D) : D := if t then .tup xs else .lst xs
theorem rep_flat {α : Type} (x : α) : ∀ k : Nat, (List.replicate k [x]).flatten = List.replicate k x
  | 0 => rfl
  | k + 1 => by
    rw [List.replicate_succ, List.flatten_cons, rep_flat x k, List.replicate_succ]
    rfl
theorem mix_step {ps : List ((Int × Int) × QV)} {w : Int × Int} {row : QV} {n : Nat} (h : row.length = n) : List.zipWith qplus (mixV ps n) (row.map (qtimes w)) = mixV (ps ++ [(w, row)]) n := by
  subst h
  apply List.ext_getElem
  · simp [mixV]
  · intro i h1 h2
    have hi : i < row.length := by simpa [mixV] using h2
    simp [mixV, mixAt, qsum, hi]
namespace Cm
open PySem PySem.Spec PyProof.Rows L2
theorem f_scaled {a b : Nat} {w : Int × Int} {xs : QV} {m : MS} (hw : Sz a w) (hx : ∀ x ∈ xs, Sz b x) (hl : xs.length ≤ 1000000) (h : a + b ≤ 134217728) : F_scaled [R2 w, V2 xs] m = .ok (V2 (xs.map (qtimes w))) m := by
  refine eq_of_wp ?_
  simp [F_scaled, u_scaled, startD, look, V2]
  refine wp_lcW_mapA _ (fun x => R2 (qtimes w x)) ok_nil' (fun x hp => ?_) ?_
  · simp [look, wipeD, f_times (m := m) hw (hx x hp) h]
  · simp [hl]
theorem f_added {a b : Nat} {xs ys : QV} {m : MS} (hx : ∀ x ∈ xs, Sz a x) (hy : ∀ y ∈ ys, Sz b y) (hl : xs.length ≤ 1000000) (h : a + b ≤ 134217728) : F_added [V2 xs, V2 ys] m = .ok (V2 (List.zipWith qplus xs ys)) m := by
  refine eq_of_wp ?_
  simp [F_added, u_added, startD, look, V2, zipG_map]
  refine wp_lcW_mapA _ (fun p : (Int × Int) × (Int × Int) => R2 (qplus p.1 p.2)) ok_nil' (fun p hp => ?_) ?_
  · simp [look, wipeD, f_plus (m := m) (hx p.1 (List.of_mem_zip hp).1) (hy p.2 (List.of_mem_zip hp).2) h]
  · have := zip_len (xs := xs) (ys := ys)
    simp
    refine ⟨by omega, ?_⟩
    rw [List.zip, List.map_zipWith]
section
variable {a b n : Nat} {ws : QV} {rows : List QV} {m : MS} {t : Bool} (hw : ∀ x ∈ ws, Sz a x) (hr : ∀ r ∈ rows, r.length = n ∧ ∀ x ∈ r, Sz b x) (hn : n ≤ 1000) (hb1 : 1 ≤ b) (hne : rows ≠ []) (hb : 1 + (ws.length + 2) * (a + b + 1) ≤ 134217728)
include hw hr hn hb1 hne hb
theorem f_mixed : F_mixed [V2 ws, sqD t (rows.map V2)] m = .ok (V2 (mixV (ws.zip rows) n)) m := by
  refine eq_of_wp ?_
  have hab : a + b ≤ 134217728 := by
    have : 1 * (a + b + 1) ≤ (ws.length + 2) * (a + b + 1) := Nat.mul_le_mul_right _ (by omega)
    omega
  obtain ⟨r0, rest, rfl⟩ : ∃ r0 rest, rows = r0 :: rest := by
    cases rows with
    | nil => exact (hne rfl).elim
    | cons r0 rest => exact ⟨r0, rest, rfl⟩
  have h0 := (hr r0 (by simp)).1
  have hz : V2 (mixV [] n) = .tup (List.replicate n [D.tup [.int 0, .int 1]]).flatten := by
    rw [rep_flat]
    unfold V2 mixV
    rw [List.map_map]
    congr 1
    apply List.ext_getElem
    · simp
    · intro i h1 h2
      simp [mixAt, qsum, R2]
  have key : ∀ (rd : D) (g : List (Nat × List D)), wp (forW (ItD.mk (zipG (ws.map R2) ((r0 :: rest).map V2)) []).Ok (gT 2 (gsCons (gN 3) (gsCons (gN 4) gsNil)))
      (sAsg (dCall (lenF 2 F_added) (aCons (dVar 2) (aCons (dCall (lenF 2 F_scaled) (aCons (dVar 3) (aCons (dVar 4) aNil))) aNil))) (gN 2)) (zipG (ws.map R2) ((r0 :: rest).map V2))
      [some (.tup (ws.map R2)), some rd, some (.tup (List.replicate n [D.tup [.int 0, .int 1]]).flatten), none, none] m)
      fun fl m' => (∃ (x y : Option D) (z : Option D × Option D), fl = .next [x, y, some (V2 (mixV (ws.zip (r0 :: rest)) n)), z.1, z.2]) ∧ m' = m := by
    intro rd g
    rw [zipG_map]
    refine wp_forW (fun ds ρ m' => m' = m ∧ ∃ pre suf, ws.zip (r0 :: rest) = pre ++ suf ∧ ds = suf.map (fun p => D.tup [R2 p.1, V2 p.2]) ∧ (∀ i, Sz (1 + pre.length * (a + b + 1)) (mixAt pre i)) ∧ ∃ x y z u, ρ = [x, y, some (V2 (mixV pre n)), z, u]) ?_ ?_ _ _ _ ⟨rfl, [], _, rfl, rfl, fun i => ⟨by simp [mixAt, qsum], by simp [mixAt, qsum], by simp [mixAt, qsum]⟩, _, _, _, _, by rw [hz]⟩
    · rintro x ds ρ m' ⟨rfl, pre, suf, e, es, hs, x1, x2, x3, x4, rfl⟩
      cases suf with
      | nil => cases es
      | cons p suf =>
        obtain ⟨rfl, rfl⟩ := List.cons.inj es
        refine ⟨ok_nil', ?_⟩
        have hp : p ∈ ws.zip (r0 :: rest) := by rw [e]; simp
        have hpw := hw p.1 (List.of_mem_zip hp).1
        have hpr := hr p.2 (List.of_mem_zip hp).2
        have hlen : pre.length + 1 ≤ ws.length := by
          have h1 := zip_len (xs := ws) (ys := r0 :: rest)
          rw [e] at h1
          simp at h1
          omega
        have e1 := f_scaled (m := m') hpw hpr.2 (by omega) hab
        have hsz : 1 + pre.length * (a + b + 1) + (a + b) ≤ 134217728 := by
          have : pre.length * (a + b + 1) + (a + b) ≤ (ws.length + 2) * (a + b + 1) := by
            have := Nat.mul_le_mul_right (a + b + 1) hlen
            rw [Nat.add_mul] at this
            rw [Nat.add_mul]
            omega
          omega
        have e2 := f_added (a := 1 + pre.length * (a + b + 1)) (b := a + b) (xs := mixV pre n) (ys := p.2.map (qtimes p.1)) (m := m') (by
          intro y hy
          obtain ⟨i, _, rfl⟩ := List.mem_map.mp hy
          exact hs i) (by
          intro y hy
          obtain ⟨z, hz, rfl⟩ := List.mem_map.mp hy
          exact hpw.times (hpr.2 z hz)) (by simp [mixV]; omega) hsz
        rw [mix_step hpr.1] at e2
        simp [look, e1, e2]
        refine ⟨pre ++ [p], suf, by rw [e]; simp, rfl, fun i => ?_, rfl⟩
        have e3 : mixAt (pre ++ [p]) i = qplus (mixAt pre i) (qtimes p.1 (p.2.getD i (0, 1))) := by simp [mixAt, qsum]
        rw [e3]
        have hq : Sz b (p.2.getD i (0, 1)) := by
          by_cases hi : i < p.2.length
          · have e4 : p.2.getD i (0, 1) = p.2[i] := by simp [hi]
            rw [e4]
            exact hpr.2 _ (List.getElem_mem hi)
          · have e4 : p.2.getD i (0, 1) = (0, 1) := by simp [List.getElem?_eq_none (Nat.le_of_not_lt hi)]
            rw [e4]
            have : 2 ^ 1 ≤ 2 ^ b := Nat.pow_le_pow_right (by decide) hb1
            exact ⟨by show 0 < 2 ^ b; omega, by show 1 < 2 ^ b; omega, by decide⟩
        refine ((hs i).plus (hpw.times hq)).mono ?_
        rw [List.length_append, Nat.add_mul]
        simp
        omega
    · rintro ρ m' ⟨rfl, pre, suf, e, es, hs, x1, x2, x3, x4, rfl⟩
      refine ⟨ok_nil', ?_⟩
      cases suf with
      | cons y suf => cases es
      | nil =>
        rw [List.append_nil] at e
        rw [e]
        exact ⟨⟨x1, x2, (x3, x4), rfl⟩, rfl⟩
  have fin : ∀ rd, wp (forW (ItD.mk (zipG (ws.map R2) ((r0 :: rest).map V2)) []).Ok (gT 2 (gsCons (gN 3) (gsCons (gN 4) gsNil)))
      (sAsg (dCall (lenF 2 F_added) (aCons (dVar 2) (aCons (dCall (lenF 2 F_scaled) (aCons (dVar 3) (aCons (dVar 4) aNil))) aNil))) (gN 2)) (zipG (ws.map R2) ((r0 :: rest).map V2))
      [some (.tup (ws.map R2)), some rd, some (.tup (List.replicate n [D.tup [.int 0, .int 1]]).flatten), none, none] m) fun fl m' => match fl with
        | .next ρ' => (match look ρ' 2 with | some d => d = V2 (mixV (ws.zip (r0 :: rest)) n) ∧ m' = m | none => False)
        | _ => False := fun rd => wp_mono (key rd []) fun fl m' ⟨⟨x, y, z, e⟩, em⟩ => by subst e; subst em; exact ⟨rfl, rfl⟩
  cases t with
  | true =>
    have f := fin (.tup ((r0 :: rest).map V2))
    simp [F_mixed, u_mixed, startD, look, sqD, V2, h0] at f ⊢
    refine ⟨by omega, wp_mono f fun fl m' h => ?_⟩
    cases fl <;> first | exact h | exact h.elim
  | false =>
    have f := fin (.lst ((r0 :: rest).map V2))
    simp [F_mixed, u_mixed, startD, look, sqD, V2, h0] at f ⊢
    refine ⟨by omega, wp_mono f fun fl m' h => ?_⟩
    cases fl <;> first | exact h | exact h.elim
end
end Cm
end TL
end
section
namespace TL
open L2 (atI ixN)
/-- of a type that isinstance knows -/
def ty1 : D → Bool
  | .non | .bl _ | .int _ | .str _ | .tup _ | .lst _ | .scr _ | .dct _ => true
  | _ => false
def isW : D → Bool
  | .int _ => true
  | _ => false
def isRat : D → Bool
  | .tup [.int n, .int q] => decide (0 < q) && decide (Nat.gcd n.natAbs q.natAbs = 1)
  | _ => false
/-- .. its parts too, if it is a tuple -/
def ty2 : D → Bool
  | .tup xs => xs.all ty1
  | d => ty1 d
def ty3 : D → Bool
  | .tup xs => xs.all ty2
  | d => ty1 d
def isVec : D → Bool
  | .tup xs => decide (1 ≤ xs.length) && decide (xs.length ≤ 200) && xs.all isRat
  | _ => false
def tyOf : D → Tn
  | .non => .non
  | .bl _ => .bool
  | .int _ => .int
  | .str _ => .str
  | .tup _ => .tuple
  | .dct _ => .dict
  | _ => .list
theorem tyN_1 {d : D} {m : MS} (h : ty1 d = true) : tyN m d = some (tyOf d) := by
  cases d <;> first | rfl | cases h
theorem ty2_1 {d : D} (h : ty2 d = true) : ty1 d = true := by
  cases d <;> first | rfl | exact h
theorem ty3_1 {d : D} (h : ty3 d = true) : ty1 d = true := by
  cases d <;> first | rfl | exact h
theorem isT_tuple {d : D} : isT (tyOf d) .tuple = (match d with | .tup _ => true | _ => false) := by
  cases d <;> simp [isT, tyOf]
theorem isT_whole {d : D} (h : ty1 d = true) : (isT (tyOf d) .int && !isT (tyOf d) .bool) = isW d := by
  cases d <;> first | (simp [isT, tyOf, isW]; done) | cases h
namespace Cm
open PySem PySem.Spec PyProof.Rows L2
theorem e_is_whole {d : D} {m : MS} (h : ty1 d = true) : F_is_whole [d] m = .ok (.bl (isW d)) m := by
  refine eq_of_wp ?_
  have e := isT_whole h
  simp [F_is_whole, u_is_whole, startD, look, tyN_1 h]
  cases h1 : isT (tyOf d) .int with
  | false => rw [h1] at e; simpa using e
  | true => rw [h1] at e; simpa using e
theorem e_is_ratio {d : D} {m : MS} (h : ty2 d = true) : F_is_ratio [d] m = .ok (.bl (isRat d)) m := by
  refine eq_of_wp ?_
  have h1 := ty2_1 h
  simp [F_is_ratio, u_is_ratio, startD, look, tyN_1 h1, isT_tuple]
  cases d with
  | tup xs =>
    have hall : ∀ x ∈ xs, ty1 x = true := List.all_eq_true.mp h
    simp
    by_cases hl : xs.length = 2
    · simp [hl]
      match xs, hl, hall with
      | [x, y], _, hall =>
        refine wp_lcW_map (fun x => .bl (isW x)) ok_nil' (fun x hx => ?_) ?_
        · simp [look, wipeD, e_is_whole (m := m) (hall x hx)]
        · have hx := hall x (by simp)
          have hy := hall y (by simp)
          simp [allB]
          cases x <;> cases y <;> simp [isW, isRat]
          split
          · rename_i hj
            simp [hj]
            congr 1
            exact ⟨fun q => by omega, fun q => by omega⟩
          · rename_i hj
            exact fun q => (hj q).elim
    · have hl' : ¬ (xs.length : Int) = 2 := by omega
      simp [hl']
      match xs, hl with
      | [], _ => rfl
      | [x], _ => cases x <;> rfl
      | x :: y :: z :: r, _ => cases x <;> cases y <;> rfl
      | [x, y], h => exact (h rfl).elim
  | _ => simp [isRat]
theorem e_is_vector {d : D} {m : MS} (h : ty3 d = true) (hl : ∀ xs, d = .tup xs → xs.length ≤ 1000000) : F_is_vector [d] m = .ok (.bl (isVec d)) m := by
  refine eq_of_wp ?_
  have h1 := ty3_1 h
  simp [F_is_vector, u_is_vector, startD, look, tyN_1 h1, isT_tuple]
  cases d with
  | tup xs =>
    have hall : ∀ x ∈ xs, ty2 x = true := List.all_eq_true.mp h
    have hlen := hl xs rfl
    simp
    by_cases h0 : 1 ≤ xs.length
    · have h0' : (1 : Int) ≤ xs.length := by omega
      simp [h0']
      by_cases h2 : xs.length ≤ 200
      · have h2' : (xs.length : Int) ≤ 200 := by omega
        simp [h2']
        refine wp_lcW_map (fun x => .bl (isRat x)) ok_nil' (fun x hx => ?_) ?_
        · simp [look, wipeD, e_is_ratio (m := m) (hall x hx)]
        · simp [allB_map, isVec, h0, h2, hlen]
      · have h2' : ¬ (xs.length : Int) ≤ 200 := by omega
        simp [h2', isVec, h2]
    · have h0' : ¬ (1 : Int) ≤ xs.length := by omega
      simp [h0', isVec, h0]
  | _ => simp [isVec]
/-- two places in lowest terms -/
theorem qn_self {n q : Int} (hq : 0 < q) : (qn n q = (n, q)) ↔ Nat.gcd n.natAbs q.natAbs = 1 := by
  unfold qn
  rw [if_pos hq]
  constructor
  · intro h
    have h2 := congrArg Prod.snd h
    simp only at h2
    rw [Int.fdiv_eq_ediv_of_dvd gcd_dvd2] at h2
    obtain ⟨y, hy⟩ := gcd_dvd2 (n := n) (d := q)
    have g0 := gcd_pos (n := n) (d := q) (by omega)
    generalize hg : Nat.gcd n.natAbs q.natAbs = g at *
    rw [hy, Int.mul_ediv_cancel_left _ (by omega)] at h2
    have y0 : 0 < y := by
      rw [hy] at hq
      exact Int.pos_of_mul_pos_right hq (by omega)
    have : (g : Int) * y = 1 * y := by omega
    have := Int.eq_of_mul_eq_mul_right (by omega) this
    omega
  · intro h
    rw [h]
    simp
theorem e_lis_ratio {d : D} {m : MS} (h : ty2 d = true) : F__law_ph_is_ratio [d] m = .ok (.bl (isRat d)) m := by
  refine eq_of_wp ?_
  have h1 := ty2_1 h
  simp [F__law_ph_is_ratio, u__law_ph_is_ratio, startD, look, tyN_1 h1, isT_tuple]
  cases d with
  | tup xs =>
    have hall : ∀ x ∈ xs, ty1 x = true := List.all_eq_true.mp h
    simp
    by_cases hl : xs.length = 2
    · simp [hl]
      match xs, hl, hall with
      | [x, y], _, hall =>
        refine wp_lcW_filter (fun x => !isW x) (fun _ => .int 1) ok_nil' (fun x hx => ?_) ?_
        · have e := isT_whole (hall x hx)
          simp [look, wipeD, tyN_1 (hall x hx)]
          cases h1 : isT (tyOf x) .int with
          | false => rw [h1] at e; simp at e; simp [e]
          | true => rw [h1] at e; simp at e; simp [← e]
        · have hx := hall x (by simp)
          have hy := hall y (by simp)
          have okn : ∀ (zs : List D), (∀ z ∈ zs, z = .int 1) → okD 64 (.lst zs) = true := fun zs hz => by
            show okAll 63 zs = true
            induction zs with
            | nil => rfl
            | cons z zs ih =>
              have := hz z (by simp)
              subst this
              show (okD 63 (.int 1) && okAll 63 zs) = true
              rw [ih fun z hz' => hz z (by simp [hz'])]
              rfl
          have eqn : wp (eqD true (.lst (List.map (fun _ => D.int 1) (List.filter (fun x => !isW x) [x, y]))) (.lst []) m) = fun (P : D → MS → Prop) => P (.bl (!(isW x && isW y))) m := by
            funext P
            rw [wp_eq_gen (by exact okn _ (by simp)) rfl]
            cases h1 : isW x <;> cases h2 : isW y <;> simp [h1, h2, flatR, eqvD, eqvAll]
          simp only [wp_newLf, eqn]
          cases x <;> cases y <;> simp [isW, isRat]
          split
          · rename_i i _ j _ hj
            rw [e_q (by omega)]
            simp only [wp_ok]
            rw [wp_eq_gen rfl rfl]
            simp [hj, flatR, R2, eqvD, eqvAll]
            rw [Bool.eq_iff_iff]
            simp
            rw [← qn_self hj]
            constructor
            · exact fun q => Prod.ext q.1 q.2
            · intro q
              rw [q]
              exact ⟨rfl, rfl⟩
          · rename_i hj
            exact fun q => (hj q).elim
    · have hl' : ¬ (xs.length : Int) = 2 := by omega
      simp [hl']
      match xs, hl with
      | [], _ => rfl
      | [x], _ => cases x <;> rfl
      | x :: y :: z :: r, _ => cases x <;> cases y <;> rfl
      | [x, y], h => exact (h rfl).elim
  | _ => simp [isRat]
end Cm
end TL
end
section
namespace TL
open L2 (atI ixN)
mutual
def szD : D → Nat
  | .tup xs => 1 + szAll xs
  | .lst xs => 1 + szAll xs
  | _ => 1
def szAll : List D → Nat
  | [] => 0
  | x :: xs => szD x + szAll xs
end
theorem szAll_app : ∀ xs ys : List D, szAll (xs ++ ys) = szAll xs + szAll ys
  | [], ys => by simp [szAll]
  | x :: xs, ys => by
    simp only [List.cons_append, szAll, szAll_app xs ys]
    omega
theorem sz_pos (d : D) : 1 ≤ szD d := by cases d <;> simp [szD]
theorem len_sz : ∀ xs : List D, xs.length ≤ szAll xs
  | [] => by simp [szAll]
  | x :: xs => by
    have := len_sz xs
    have := sz_pos x
    simp only [List.length_cons, szAll]
    omega
theorem okD_62_63 {x : D} (h : okD 62 x = true) : okD 63 (.tup [x, x]) = true := by
  show okAll 62 [x, x] = true
  simp [okAll, h]
theorem ok_parts {k : Nat} {x : D} {xs : List D} (h : okAll k xs = true) (hx : x ∈ xs) : okD (k + 1) x = true := okD_mono (okAll_all.mp h x hx)
def dup (x : D) : D := .tup [x, x]
theorem zip_self {α : Type} : ∀ xs : List α, xs.zip xs = xs.map fun x => (x, x)
  | [] => rfl
  | x :: xs => by simp [zip_self xs]
section
variable {P : D → MS → Prop} {m : MS} {neg : Bool}
@[simp] theorem wp_eq_bl {a b : Bool} : wp (eqD neg (.bl a) (.bl b) m) P ↔ P (.bl (if neg then !(a == b) else (a == b))) m := by
  rw [wp_eq_gen rfl rfl]
  rfl
theorem wp_eq_str {x y : PySem.Str} (hx : okD 62 (.str x) = true) (hy : okD 62 (.str y) = true) : wp (eqD neg (.str x) (.str y) m) P ↔ P (.bl (if neg then !(x == y) else (x == y))) m := by
  rw [wp_eq_gen (by simpa [okD, flatR] using hx) (by simpa [okD, flatR] using hy)]
  rfl
@[simp] theorem wp_in_2bl {a b c : Bool} : wp (inD neg (.bl c) (.lst [.bl a, .bl b]) m) P ↔ P (.bl (if neg then !((a == c) || (b == c)) else ((a == c) || (b == c)))) m := by
  unfold inD
  simp [flatR, okD, okAll, eqvD]
end
namespace Cm
open PySem PySem.Spec PyProof.Rows L2
theorem e_is_truth {a b : Bool} {m : MS} : F__law_is_truth [.bl a, .bl b] m = .ok (.bl (decide (a = b))) m := by
  refine eq_of_wp ?_
  cases a <;> cases b <;> simp [F__law_is_truth, u__law_is_truth, startD, look]
theorem e_same {d : D} {m : MS} (hd : okD 62 d = true) (hs : szD d < 1000000) : F__law_same [d, d] m = .ok (.bl true) m := by
  unfold F__law_same
  refine eq_of_wp (bodyT_of (d := .bl true) ?_ fun k => rfl)
  simp [u__law_same, startD, look]
  refine wp_while (n := szD d) (fun n ρ m' => ∃ ws : List D, m' = { m with objs := m.objs ++ [.lst (ws.map dup)] } ∧ (∀ x ∈ ws, okD 62 x = true) ∧ n = szAll ws ∧ n < 1000000 ∧ ∃ a b c e f g, ρ = [some d, some d, some (.ref m.objs.length), a, b, c, e, f, g]) ?_
    ⟨[d], rfl, by simpa using hd, by simp [szAll], hs, _, _, _, _, _, _, rfl⟩
  rintro n ρ m' ⟨ws, rfl, hok, rfl, hlt, a, b, c, e, f, g, rfl⟩
  have hget : (m.objs ++ [MO.lst (ws.map dup)])[m.objs.length]? = some (.lst (ws.map dup)) := by simp
  have hfl : flatR { m with objs := m.objs ++ [MO.lst (ws.map dup)] } (.ref m.objs.length) = .lst (ws.map dup) := flat_ref hget
  have hok2 : okD 64 (.lst (ws.map dup)) = true := by
    show okAll 63 (ws.map dup) = true
    refine okAll_all.mpr fun x hx => ?_
    obtain ⟨y, hy, rfl⟩ := List.mem_map.mp hx
    exact okD_62_63 (hok y hy)
  simp [look]
  rw [wp_eq_gen (by rw [hfl]; exact hok2) rfl, hfl]
  rcases List.eq_nil_or_concat ws with rfl | ⟨pre, x, rfl⟩
  · simp [flatR, eqvD, eqvAll, look]
  · have hne : eqvD (.lst ((pre.concat x).map dup)) (.lst []) = false := by
      cases pre <;> simp [eqvD, eqvAll, dup]
    simp only [List.concat_eq_append] at *
    have hx := hok x (by simp)
    simp [flatR, hne, look, hget]
    rw [wp_pop_ref (xs := pre.map dup) (d := dup x) (by simp [dup])]
    have hsz : szAll (pre ++ [x]) = szAll pre + szD x := by rw [szAll_app]; simp [szAll]
    have hxp := sz_pos x
    have go : ∃ n', n' < szAll (pre ++ [x]) ∧ ∃ ws : List D, pre.map dup = ws.map dup ∧ (∀ y ∈ ws, okD 62 y = true) ∧ n' = szAll ws ∧ n' < 1000000 :=
      ⟨szAll pre, by omega, pre, rfl, fun y hy => hok y (by simp [hy]), rfl, by omega⟩
    have go2 : ∀ xs : List D, (∀ y ∈ xs, okD 62 y = true) → szAll xs < szD x → ∃ n', n' < szAll (pre ++ [x]) ∧ ∃ ws : List D, pre.map dup ++ xs.map dup = ws.map dup ∧ (∀ y ∈ ws, okD 62 y = true) ∧ n' = szAll ws ∧ n' < 1000000 := fun xs h1 h2 =>
      ⟨szAll (pre ++ xs), by rw [szAll_app]; omega, pre ++ xs, by simp, fun y hy => by
        rcases List.mem_append.mp hy with h | h
        · exact hok y (by simp [h])
        · exact h1 y h, rfl, by rw [szAll_app]; omega⟩
    have goX : ∀ (xs : List D) (zs : List D), (∀ y ∈ xs, okD 62 y = true) → szAll xs < szD x → pre.length + xs.length < 1000000 → wp
      (lcW (ItD.mk (List.map (fun a => D.tup [a, a]) xs) []).Ok (gT 2 (gsCons (gN 7) (gsCons (gN 8) gsNil))) bYes (dTup (aCons (dVar 7) (aCons (dVar 8) aNil)))
        (wipeD [some d, some d, some (D.ref m.objs.length), some x, some x, some (D.lst zs), e, f, g] [7, 8])
        (List.map (fun a => D.tup [a, a]) xs) { objs := m.objs ++ [MO.lst (List.map dup pre)], dr := m.dr })
      fun zs m2 =>
      zs.length ≤ 1000000 ∧
        wp (extendD (D.ref m.objs.length) [D.lst zs] m2) fun x' m' =>
          ∃ n', n' < szAll (pre ++ [x]) ∧ ∃ ws : List D, m' = { objs := m.objs ++ [MO.lst (List.map dup ws)], dr := m.dr } ∧ (∀ (x : D), x ∈ ws → okD 62 x = true) ∧ n' = szAll ws ∧ n' < 1000000 := by
      intro xs zs h1 h2 h3
      refine wp_lcW_mapA _ dup ok_nil' (fun y hy => ?_) ?_
      · simp [look, wipeD, dup]
      · refine ⟨by rw [List.length_map]; omega, ?_⟩
        rw [wp_ext_ref (xs := pre.map dup) (by simp) (by simpa using h3)]
        obtain ⟨n', k1, ws, k2, k3, k4, k5⟩ := go2 xs h1 h2
        refine ⟨n', k1, ws, ?_, k3, k4, k5⟩
        simp [k2]
    cases x with
    | non =>
      simp [look, dup]
      exact fun _ => go
    | bl k =>
      simp [look, dup, tyN, isT, e_is_truth]
      exact fun _ => go
    | int i =>
      simp [look, dup, tyN, isT, isAny]
      exact fun _ => go
    | str z =>
      simp [look, dup, tyN, isT, isAny, wp_eq_str hx hx]
      exact fun _ => go
    | tup xs =>
      have hlen : pre.length + xs.length < 1000000 := by
        have := len_sz pre
        have := len_sz xs
        simp [szD] at hsz
        omega
      simp [look, dup, tyN, isT, isAny, zipG, List.zipWith_self]
      exact fun _ => goX xs _ (fun y hy => ok_parts (k := 61) hx hy) (by simp [szD]) hlen
    | lst xs =>
      have hlen : pre.length + xs.length < 1000000 := by
        have := len_sz pre
        have := len_sz xs
        simp [szD] at hsz
        omega
      simp [look, dup, tyN, isT, isAny, zipG, List.zipWith_self]
      exact fun _ => goX xs _ (fun y hy => ok_parts (k := 61) hx hy) (by simp [szD]) hlen
    | _ => simp [okD] at hx
end Cm
end TL
end
section
namespace TL
open L2 (atI ixN)
theorem natAbs_fdiv_eq {x : Int} {g : Nat} (hg : (g : Int) ∣ x) : (x.fdiv g).natAbs = x.natAbs / g := by
  rw [Int.fdiv_eq_ediv_of_dvd hg]
  obtain ⟨y, rfl⟩ := hg
  by_cases h : g = 0
  · subst h
    simp
  · rw [Int.mul_ediv_cancel_left _ (by omega), Int.natAbs_mul, Int.natAbs_natCast, Nat.mul_div_cancel_left _ (by omega)]
theorem isRat_qn {n d : Int} (h : 0 < d) : isRat (R2 (qn n d)) = true := by
  have s := (Sz.qn (k := n.natAbs + d.natAbs + 1) (n := n) (d := d) (Nat.lt_of_lt_of_le (Nat.lt_two_pow_self) (Nat.pow_le_pow_right (by decide) (by omega))) (Nat.lt_of_lt_of_le (Nat.lt_two_pow_self) (Nat.pow_le_pow_right (by decide) (by omega))) h).2.2
  have g0 := gcd_pos (n := n) (d := d) (by omega)
  simp [R2, isRat, s]
  unfold qn
  rw [if_pos h]
  simp only
  rw [natAbs_fdiv_eq gcd_dvd1, natAbs_fdiv_eq gcd_dvd2]
  exact Nat.gcd_div_gcd_div_gcd_of_pos_right (by omega)
/-- a drawn ratio -/
def Good (p : Int × Int) : Prop := Sz 21 p ∧ isRat (R2 p) = true
/-- a drawn ratio's value; a drawn vector's -/
def IsQ (v : D) : Prop := ∃ p, v = R2 p ∧ Good p
def IsV (n : Nat) (v : D) : Prop := ∃ qs : QV, v = V2 qs ∧ qs.length = n ∧ ∀ q ∈ qs, Good q
open PySem PySem.Spec PyProof.Rows L2 in
theorem paired_good {ys : List D} : ∀ {xs : List D}, Paired (fun _ y => IsQ y) xs ys → ∃ qs : QV, ys = qs.map R2 ∧ qs.length = xs.length ∧ ∀ q ∈ qs, Good q := by
  intro xs h
  induction h with
  | nil => exact ⟨[], rfl, rfl, by simp⟩
  | cons h t ih =>
    obtain ⟨p, rfl, hp⟩ := h
    obtain ⟨qs, rfl, hl, hq⟩ := ih
    exact ⟨p :: qs, rfl, by simp [hl], by
      intro q h
      rcases List.mem_cons.mp h with rfl | h
      · exact hp
      · exact hq q h⟩
namespace Cm
open PySem PySem.Spec PyProof.Rows L2
theorem sp_number {n : Nat} {m : MS} {size : Int} (h : DrB (n + 4) m) (h1 : 1 ≤ size) (h2 : size ≤ 1000000) : wp (F__law_number [.drw, .int size] m) fun v m' => IsQ v ∧ m'.objs = m.objs ∧ DrB n m' := by
  simp [F__law_number, u__law_number, startD, look]
  refine wp_mono (sp_draw (n := n + 3) h (by omega)) fun v1 m1 ⟨⟨i, e1, i0, i1⟩, o1, b1⟩ => ?_
  subst e1
  refine wp_mono (sp_pick (n := n + 2) b1 (by simp)) fun v2 m2 ⟨hv2, o2, b2⟩ => ?_
  obtain ⟨s, e2, s0, s1⟩ : ∃ s : Int, v2 = .int s ∧ 1 ≤ s ∧ s ≤ 1000000 := by
    simp at hv2
    rcases hv2 with h | h | h
    · exact ⟨_, h, by omega, by omega⟩
    · exact ⟨_, h, by omega, by omega⟩
    · exact ⟨_, h, by omega, by omega⟩
  subst e2
  refine wp_mono (sp_draw (n := n + 1) b2 (by omega)) fun v3 m3 ⟨⟨d, e3, d0, d1⟩, o3, b3⟩ => ?_
  subst e3
  simp [look]
  refine wp_mono (sp_draw (n := n) b3 (by omega)) fun v4 m4 ⟨⟨k, e4, k0, k1⟩, o4, b4⟩ => ?_
  subst e4
  have hd : (0 : Int) < 1 + d := by omega
  have hd' : (1 + d : Int) ≠ 0 := by omega
  have fin : ∀ z : Int, z.natAbs < 2 ^ 21 → Good (qn z (1 + d)) := fun z hz => ⟨Sz.qn hz (by omega) hd, isRat_qn hd⟩
  simp only [wp_eq_int]
  simp
  split
  · rw [e_q hd']
    exact ⟨⟨_, rfl, fin _ (by omega)⟩, by rw [o4, o3, o2, o1], b4⟩
  · rw [e_q hd']
    exact ⟨⟨_, rfl, fin _ (by omega)⟩, by rw [o4, o3, o2, o1], b4⟩
theorem sp_vector {n many : Nat} {m : MS} {size : Int} (h : DrB (n + 9 * many) m) (hm : many ≤ 1000) (h1 : 1 ≤ size) (h2 : size ≤ 1000000) : wp (F__law_vector [.drw, .int many, .int size] m) fun v m' => IsV many v ∧ m'.objs = m.objs ∧ DrB n m' := by
  simp [F__law_vector, u__law_vector, startD, look]
  refine ⟨by omega, ?_⟩
  refine wp_lcW_each (fun k m' => m'.objs = m.objs ∧ DrB (n + 9 * k) m') (fun _ y => IsQ y) (fun k m' _ => ok_nil') ?_ ⟨rfl, by rw [rng_length]; exact h⟩ ?_
  · rintro x hx k m' ⟨ho, hb⟩
    simp [look, wipeD]
    refine wp_mono (sp_number (n := n + 9 * k + 5) (hb.mono (by omega)) h1 h2) fun v1 m1 ⟨⟨p, e1, gp⟩, o1, b1⟩ => ?_
    subst e1
    refine wp_mono (sp_number (n := n + 9 * k + 1) b1 h1 h2) fun v2 m2 ⟨⟨q, e2, gq⟩, o2, b2⟩ => ?_
    subst e2
    refine wp_mono (sp_pick (n := n + 9 * k) b2 (by simp)) fun v3 m3 ⟨hv, o3, b3⟩ => ?_
    refine ⟨?_, by rw [o3, o2, o1, ho], b3⟩
    simp at hv
    rcases hv with e | e | e
    · exact ⟨(0, 1), e, ⟨by decide, by decide, by decide⟩, by simp [R2, isRat]⟩
    · exact ⟨p, e, gp⟩
    · exact ⟨q, e, gq⟩
  · rintro ys m' hp ⟨ho, hb⟩
    obtain ⟨qs, rfl, hl, hq⟩ := paired_good hp
    rw [rng_length] at hl
    simp
    exact ⟨by omega, ⟨qs, rfl, hl, hq⟩, ho, by simpa using hb⟩
end Cm
end TL
end
section
/-! Plain values of any kind: what the judging functions say of them. -/
namespace TL
open L2 (atI ixN)
open PySem PySem.Spec PyProof.Rows L2
mutual
/-- a plain value, no list or tuple in it longer than n -/
def okV (n : Nat) : D → Bool
  | .non => true
  | .bl _ => true
  | .int _ => true
  | .str s => decide (s.length ≤ 1000000) && PyData.canLay0 (.str s)
  | .tup xs => decide (xs.length ≤ n) && okVs n xs
  | .lst xs => decide (xs.length ≤ n) && okVs n xs
  | .dct kvs => kvs.isEmpty
  | _ => false
def okVs (n : Nat) : List D → Bool
  | [] => true
  | x :: xs => okV n x && okVs n xs
end
theorem okVs_all {n : Nat} : ∀ {xs : List D}, okVs n xs = true ↔ ∀ x ∈ xs, okV n x = true
  | [] => by simp [okVs]
  | x :: xs => by
    simp only [okVs, Bool.and_eq_true, List.mem_cons, forall_eq_or_imp]
    rw [okVs_all]
mutual
theorem okV_mono {n k : Nat} (h : n ≤ k) : ∀ {d : D}, okV n d = true → okV k d = true
  | .non, _ => rfl
  | .bl _, _ => rfl
  | .int _, _ => rfl
  | .str _, q => q
  | .tup xs, q => by
    simp only [okV, Bool.and_eq_true, decide_eq_true_eq] at q ⊢
    exact ⟨by omega, okVs_mono h q.2⟩
  | .lst xs, q => by
    simp only [okV, Bool.and_eq_true, decide_eq_true_eq] at q ⊢
    exact ⟨by omega, okVs_mono h q.2⟩
  | .dct _, q => q
theorem okVs_mono {n k : Nat} (h : n ≤ k) : ∀ {xs : List D}, okVs n xs = true → okVs k xs = true
  | [], _ => rfl
  | x :: xs, q => by
    simp only [okVs, Bool.and_eq_true] at q ⊢
    exact ⟨okV_mono h q.1, okVs_mono h q.2⟩
end
theorem okV_tup {n : Nat} {xs : List D} : okV n (.tup xs) = true ↔ xs.length ≤ n ∧ ∀ x ∈ xs, okV n x = true := by
  simp only [okV, Bool.and_eq_true, decide_eq_true_eq, okVs_all]
theorem okV_lst {n : Nat} {xs : List D} : okV n (.lst xs) = true ↔ xs.length ≤ n ∧ ∀ x ∈ xs, okV n x = true := by
  simp only [okV, Bool.and_eq_true, decide_eq_true_eq, okVs_all]
section
variable {n : Nat} {d : D}
theorem okV.ty1 (h : okV n d = true) : ty1 d = true := by
  cases d <;> first | rfl | cases h
theorem okV.ty2 (h : okV n d = true) : ty2 d = true := by
  cases d with
  | tup xs => exact List.all_eq_true.mpr fun x hx => okV.ty1 ((okV_tup.mp h).2 x hx)
  | _ => first | rfl | cases h
theorem okV.ty3 (h : okV n d = true) : ty3 d = true := by
  cases d with
  | tup xs => exact List.all_eq_true.mpr fun x hx => okV.ty2 ((okV_tup.mp h).2 x hx)
  | _ => first | rfl | cases h
theorem okV.len (h : okV n d = true) (hn : n ≤ 1000000) : ∀ xs, d = .tup xs → xs.length ≤ 1000000 := by
  rintro xs rfl
  exact Nat.le_trans (okV_tup.mp h).1 hn
end
def isWd : D → Bool
  | .str s => decide (1 ≤ s.length) && (decide (s.length ≤ 8) && s.cps.toList.all fun c => occ abc ⟨#[c]⟩)
  | _ => false
def isLine : D → Bool
  | .tup [w, v] => isWd w && (isVec v && (match v with | .tup xs => decide (2 ≤ xs.length) && decide (xs.length ≤ 4) | _ => false))
  | _ => false
def isVecN (k : Nat) : D → Bool
  | .tup xs => decide (xs.length = k) && xs.all isRat
  | _ => false
namespace Cm
section
variable {m : MS} {n : Nat}
@[simp] theorem wp_in_str {neg : Bool} {x y : Str} {P : D → MS → Prop} : wp (inD neg (.str x) (.str y) m) P ↔ P (.bl (if neg then !occ y x else occ y x)) m := Iff.rfl
theorem allB_map2 (p : D → Bool) : ∀ l : List D, allB (l.map fun x => D.bl (p x)) = some (l.map p)
  | [] => rfl
  | x :: l => by
    rw [List.map_cons, List.map_cons]
    unfold allB
    rw [allB_map2 p l]
    rfl
theorem e_is_word {d : D} (h : okV n d = true) : F_is_word [d] m = .ok (.bl (isWd d)) m := by
  refine eq_of_wp ?_
  simp [F_is_word, u_is_word, startD, look, tyN_1 (okV.ty1 h)]
  cases d with
  | str s =>
    have hl : s.length ≤ 1000000 := of_decide_eq_true (Bool.and_eq_true_iff.mp h).1
    simp [tyOf, isT, look, hl]
    by_cases h0 : 1 ≤ s.length
    · have h0' : (1 : Int) ≤ s.length := by omega
      simp [h0']
      by_cases h2 : s.length ≤ 8
      · have h2' : (s.length : Int) ≤ 8 := by omega
        simp [h2']
        have hz : s.cps.toList.length ≤ 1000000 := hl
        refine wp_lcW_map (fun x => .bl (match x with | .str y => occ abc y | _ => false)) ok_nil' (fun x hx => ?_) ?_
        · obtain ⟨c, _, rfl⟩ := List.mem_map.mp hx
          simp [look, wipeD, abc]
        · rw [allB_map2]
          refine ⟨by simpa using hz, ?_, rfl⟩
          simp [isWd, h0, h2]
      · have h2' : ¬ (s.length : Int) ≤ 8 := by omega
        simp [h2', isWd, h2]
    · have h0' : ¬ (1 : Int) ≤ s.length := by omega
      simp [h0', isWd, h0]
  | dct kvs => simp [tyOf, isT, isWd]
  | _ => first | (simp [tyOf, isT, isWd]; done) | cases h
theorem e_is_line {d : D} (h : okV n d = true) (hn : n ≤ 1000000) : F_is_line [d] m = .ok (.bl (isLine d)) m := by
  refine eq_of_wp ?_
  simp [F_is_line, u_is_line, startD, look, tyN_1 (okV.ty1 h)]
  cases d with
  | tup xs =>
    obtain ⟨hl, hx⟩ := okV_tup.mp h
    simp [tyOf, isT, look]
    match xs, hl, hx with
    | [], _, _ => simp [isLine]
    | [w], _, _ => simp [isLine]
    | [w, v], _, hx =>
      have hw := hx w (by simp)
      have hv := hx v (by simp)
      have e1 := e_is_word (m := m) hw
      have e2 := e_is_vector (m := m) (okV.ty3 hv) (okV.len hv hn)
      simp [look, e1, e2]
      cases h1 : isWd w with
      | false => simp [isLine, h1]
      | true =>
        simp
        cases h2 : isVec v with
        | false => simp [isLine, h2]
        | true =>
          cases v with
          | tup ys =>
            simp [isLine, h1, h2, look]
            split
            · rename_i a
              have a' : 2 ≤ ys.length := by omega
              have : ((ys.length : Int) ≤ 4) ↔ ys.length ≤ 4 := by omega
              simp [a', this]
            · intro q
              omega
          | _ => cases h2
    | x :: y :: z :: r, _, _ =>
      have : ¬ ((r.length : Int) + 1 + 1 + 1 = 2) := by omega
      simp [isLine, this]
  | dct kvs => simp [tyOf, isT, isLine]
  | _ => first | (simp [tyOf, isT, isLine]; done) | cases h
theorem e_ph_vec {d : D} {k : Nat} (h : okV n d = true) (hn : n ≤ 1000000) : F__law_ph_is_vector [d, .int k] m = .ok (.bl (isVecN k d)) m := by
  refine eq_of_wp ?_
  simp [F__law_ph_is_vector, u__law_ph_is_vector, startD, look, tyN_1 (okV.ty1 h)]
  cases d with
  | tup xs =>
    obtain ⟨hl, hx⟩ := okV_tup.mp h
    simp [tyOf, isT, look]
    by_cases hk : (xs.length : Int) = k
    · have hk' : xs.length = k := by omega
      simp [hk]
      refine wp_lcW_filter (fun x => !isRat x) (fun _ => .int 1) ok_nil' (fun x hx' => ?_) ?_
      · simp [look, wipeD, e_lis_ratio (m := m) (okV.ty2 (hx x hx'))]
      · have okn : ∀ (zs : List D), (∀ z ∈ zs, z = .int 1) → okD 64 (flatR m (.lst zs)) = true := fun zs hz => by
          show okAll 63 zs = true
          refine okAll_all.mpr fun z hz' => ?_
          rw [hz z hz']
          rfl
        refine ⟨by rw [List.length_map]; exact Nat.le_trans (List.length_filter_le _ _) (by omega), ?_⟩
        rw [wp_eq_gen (okn _ (fun z hz => by obtain ⟨_, _, e⟩ := List.mem_map.mp hz; exact e.symm)) rfl]
        have e : eqvD (flatR m (.lst (List.map (fun _ => D.int 1) (List.filter (fun x => !isRat x) xs)))) (flatR m (.lst [])) = xs.all isRat := by
          simp only [flatR, eqvD]
          clear hk hk' hx hl h
          induction xs with
          | nil => rfl
          | cons x xs ih =>
            rw [List.all_cons]
            cases hr : isRat x with
            | true => rw [List.filter_cons_of_neg (by simp [hr]), ih, Bool.true_and]
            | false => rw [List.filter_cons_of_pos (by simp [hr]), Bool.false_and]; rfl
        rw [e]
        simp [isVecN, hk']
    · have hk' : ¬ xs.length = k := by omega
      simp [hk, isVecN, hk']
  | dct kvs => simp [tyOf, isT, isVecN]
  | _ => first | (simp [tyOf, isT, isVecN]; done) | cases h
end
end Cm
end TL
end
section
/-! The data layer: what the data functions give: slices, sums of tuples, left-out items, calls by place and keyword. -/
namespace TL
open L2 (atI ixN)
open PySem PySem.Spec PyProof.Rows L2
section
variable {P : D → MS → Prop} {m : MS} {ρ : Env'} {α : Type}
@[simp] theorem wp_add_tup {fr : Bool} {xs ys : List D} : wp (addD fr (.tup xs) (.tup ys) m) P ↔ ((xs ++ ys).length ≤ 1000000 ∧ P (.tup (xs ++ ys)) m) := by
  show wp (if short (xs ++ ys) = true then Res.ok (.tup (xs ++ ys)) m else .stuck) P ↔ _
  unfold short
  split
  · rename_i h
    exact ⟨fun q => ⟨of_decide_eq_true h, q⟩, fun q => q.2⟩
  · rename_i h
    exact ⟨fun q => q.elim, fun q => (h (decide_eq_true q.1)).elim⟩
@[simp] theorem wp_sl {fr : Bool} {f : FE} {lo hi : Env' → M (Option Int)} : wp (dSl fr f lo hi ρ m) P ↔ wp (f ρ m) fun d m1 => wp (lo ρ m1) fun l m2 => wp (hi ρ m2) fun u m3 => wp (slD fr d l u m3) P := by
  unfold dSl
  simp only [wp_bind]
@[simp] theorem wp_slD_tup {fr : Bool} {xs : List D} {lo hi : Option Int} : wp (slD fr (.tup xs) lo hi m) P ↔ (xs.length ≤ 1000000 ∧ P (.tup (cutD xs lo hi)) m) := by
  show wp (if short xs = true then Res.ok (.tup (cutD xs lo hi)) m else .stuck) P ↔ _
  unfold short
  split
  · rename_i h
    exact ⟨fun q => ⟨of_decide_eq_true h, q⟩, fun q => q.2⟩
  · rename_i h
    exact ⟨fun q => q.elim, fun q => (h (decide_eq_true q.1)).elim⟩
@[simp] theorem wp_slD_lst {fr : Bool} {xs : List D} {lo hi : Option Int} : wp (slD fr (.lst xs) lo hi m) P ↔ xs.length ≤ 1000000 ∧ wp (newL fr (cutD xs lo hi) m) P := by
  show wp ((if short xs then newL fr (cutD xs lo hi) m else .stuck)) P ↔ _
  unfold short
  by_cases h : xs.length ≤ 1000000
  · rw [decide_eq_true h, if_pos rfl]
    exact ⟨fun z => ⟨h, z⟩, fun z => z.2⟩
  · rw [decide_eq_false h]
    exact ⟨fun z => z.elim, fun z => (h z.1).elim⟩
@[simp] theorem wp_dRev {f : FE} : wp (dRev f ρ m) P ↔ wp (f ρ m) fun d m' => wp (revD d m') P := by
  unfold dRev
  rw [wp_bind]
@[simp] theorem wp_revD {xs : List D} : wp (revD (.tup xs) m) P ↔ xs.length ≤ 1000000 ∧ P (.tup xs.reverse) m := by
  show wp (if short xs = true then Res.ok (.tup xs.reverse) m else .stuck) P ↔ _
  unfold short
  split
  · rename_i h
    exact ⟨fun q => ⟨of_decide_eq_true h, q⟩, fun q => q.2⟩
  · rename_i h
    exact ⟨fun q => q.elim, fun q => (h (decide_eq_true q.1)).elim⟩
@[simp] theorem wp_append_ref {n : Nat} {d : D} : wp (appendD (.ref n) [d] m) P ↔ (match m.objs[n]? with | some (.lst xs) => xs.length < 1000000 ∧ P .non { m with objs := m.objs.set n (.lst (xs ++ [d])) } | _ => False) := by
  unfold appendD
  dsimp only
  generalize m.objs[n]? = o
  cases o with
  | none => exact Iff.rfl
  | some o =>
    cases o with
    | lst xs =>
      dsimp only
      by_cases h : xs.length < 1000000
      · rw [if_pos h]
        exact ⟨fun q => ⟨h, q⟩, fun q => q.2⟩
      · rw [if_neg h]
        exact ⟨fun q => q.elim, fun q => (h q.1).elim⟩
    | _ => exact Iff.rfl
theorem wp_dCallM {k : Nat} {ix : List Nat} {F : List D → M D} {g h : FA} : wp (dCallM k ix F g h ρ m) P ↔ wp (g ρ m) fun xs m1 => xs.length = k ∧ wp (h ρ m1) fun ys m2 => (xs ++ ys).length = ix.length ∧ wp (F (permV ix (xs ++ ys)) m2) P := by
  unfold dCallM
  rw [wp_bind]
  have e : ∀ (xs : List D) (m1 : MS), wp ((if xs.length = k then M.bind (h ρ) fun ys => if (xs ++ ys).length = ix.length then F (permV ix (xs ++ ys)) else M.fail else M.fail) m1) P ↔ (xs.length = k ∧ wp (h ρ m1) fun ys m2 => (xs ++ ys).length = ix.length ∧ wp (F (permV ix (xs ++ ys)) m2) P) := by
    intro xs m1
    by_cases hx : xs.length = k
    · rw [if_pos hx, wp_bind]
      have e2 : ∀ (ys : List D) (m2 : MS), wp ((if (xs ++ ys).length = ix.length then F (permV ix (xs ++ ys)) else M.fail) m2) P ↔ ((xs ++ ys).length = ix.length ∧ wp (F (permV ix (xs ++ ys)) m2) P) := by
        intro ys m2
        by_cases hy : (xs ++ ys).length = ix.length
        · rw [if_pos hy]
          exact ⟨fun q => ⟨hy, q⟩, fun q => q.2⟩
        · rw [if_neg hy]
          exact ⟨fun q => q.elim, fun q => (hy q.1).elim⟩
      exact ⟨fun q => ⟨hx, wp_mono q fun ys m2 z => (e2 ys m2).mp z⟩, fun q => wp_mono q.2 fun ys m2 z => (e2 ys m2).mpr z⟩
    · rw [if_neg hx]
      exact ⟨fun q => q.elim, fun q => (hx q.1).elim⟩
  exact ⟨fun q => wp_mono q fun xs m1 z => (e xs m1).mp z, fun q => wp_mono q fun xs m1 z => (e xs m1).mpr z⟩
/-- nothing written; some left out; items that are made of others -/
theorem wp_lcW_filterA {ok : MS → Prop} {g : FG} {tt : FB} {te : FE} (e : α → D) (p : α → Bool) (f : α → D) {PL : List D → MS → Prop} {items : List α} (hok : ok m)
    (step : ∀ d ∈ items, wp (g (e d) ρ m) fun ρ1 m1 => m1 = m ∧ wp (tt ρ1 m) fun k m2 => k = p d ∧ m2 = m ∧ (p d = true → wp (te ρ1 m) fun y m3 => y = f d ∧ m3 = m)) (done : PL ((items.filter p).map f) m) : wp (lcW ok g tt te ρ (items.map e) m) PL := by
  refine wp_lcW_all (fun ds acc m' => m' = m ∧ ∃ pre suf, items = pre ++ suf ∧ ds = suf.map e ∧ acc = (pre.filter p).map f) ⟨rfl, [], items, rfl, rfl, rfl⟩ ?_ ?_
  · rintro d ds acc m' ⟨rfl, pre, suf, ex, es, ea⟩
    cases suf with
    | nil => cases es
    | cons y suf =>
      obtain ⟨rfl, rfl⟩ := List.cons.inj es
      refine ⟨hok, wp_mono (step y (by rw [ex]; simp)) fun ρ1 m1 h => ?_⟩
      obtain ⟨rfl, h⟩ := h
      refine wp_mono h fun k m2 h => ?_
      obtain ⟨rfl, rfl, h⟩ := h
      cases hp : p y with
      | false =>
        rw [if_neg Bool.false_ne_true]
        exact ⟨rfl, pre ++ [y], suf, by rw [ex]; simp, rfl, by rw [ea]; simp [hp]⟩
      | true =>
        rw [if_pos rfl]
        refine wp_mono (h hp) fun z m3 h => ?_
        obtain ⟨rfl, rfl⟩ := h
        exact ⟨rfl, pre ++ [y], suf, by rw [ex]; simp, rfl, by rw [ea]; simp [hp]⟩
  · rintro acc m' ⟨rfl, pre, suf, ex, es, ea⟩
    cases suf with
    | cons y suf => cases es
    | nil =>
      rw [List.append_nil] at ex
      subst ex
      exact ⟨hok, by rw [ea]; exact done⟩
end
/-! parts of a sequence -/
theorem sIx_m1 {n d : Nat} : HT.sIx (n + 1) d (some (-1)) = n := by
  unfold HT.sIx
  dsimp only
  rw [if_pos (by decide)]
  omega
@[simp] theorem cut_init {xs : List D} {b : D} : cutD (xs ++ [b]) none (some (-1)) = xs := by
  unfold cutD
  rw [List.length_append, List.length_singleton, sIx_m1]
  show ((xs ++ [b]).drop 0).take (xs.length - 0) = xs
  simp
@[simp] theorem cut_last {xs : List D} {b : D} : cutD (xs ++ [b]) (some (-1)) none = [b] := by
  unfold cutD
  rw [List.length_append, List.length_singleton, sIx_m1]
  show ((xs ++ [b]).drop xs.length).take (xs.length + 1 - xs.length) = [b]
  simp
theorem cut_to {xs : List D} {k : Nat} : cutD xs none (some (k : Int)) = xs.take k := by
  unfold cutD
  rw [HT.sIx_nat]
  show (xs.drop 0).take (min k xs.length - 0) = _
  rw [List.drop_zero, Nat.sub_zero]
  rcases Nat.le_total k xs.length with h | h
  · rw [Nat.min_eq_left h]
  · rw [Nat.min_eq_right h, List.take_of_length_le (Nat.le_refl _), List.take_of_length_le h]
theorem cut_from {xs : List D} {k : Nat} : cutD xs (some (k : Int)) none = xs.drop k := by
  unfold cutD
  rw [HT.sIx_nat]
  show (xs.drop (min k xs.length)).take (xs.length - min k xs.length) = _
  rw [List.take_of_length_le (by rw [List.length_drop]; omega)]
  rcases Nat.le_total k xs.length with h | h
  · rw [Nat.min_eq_left h]
  · rw [Nat.min_eq_right h, List.drop_of_length_le (Nat.le_refl _), List.drop_of_length_le h]
@[simp] theorem atI_last {α : Type} {xs : List α} {b : α} : atI (xs ++ [b]) (-1) = some b := by
  unfold atI ixN
  simp
  have : (-1 + ((xs.length : Int) + 1)).toNat = xs.length := by omega
  have h2 : (1 : Int) ≤ xs.length + 1 := by omega
  rw [if_pos h2, this]
  simp
end TL
end
section
/-! The shared functions: ratios taken away, divided, compared; the greatest. -/
namespace TL
open L2 (atI ixN)
def qminus (a b : Int × Int) : Int × Int := qn (a.1 * b.2 - b.1 * a.2) (a.2 * b.2)
def qover (a b : Int × Int) : Int × Int := qn (a.1 * b.2) (a.2 * b.1)
def qless (a b : Int × Int) : Bool := decide (a.1 * b.2 < b.1 * a.2)
theorem qn_neg {n d : Int} (h : d < 0) : qn n d = qn (-n) (-d) := by
  unfold qn
  rw [if_neg (by omega), if_pos (by omega), Int.natAbs_neg, Int.natAbs_neg]
theorem Sz.qn' {k : Nat} {n d : Int} (h1 : n.natAbs < 2 ^ k) (h2 : d.natAbs < 2 ^ k) (h : d ≠ 0) : Sz k (TL.qn n d) := by
  by_cases hd : 0 < d
  · exact Sz.qn h1 h2 hd
  · rw [qn_neg (by omega)]
    exact Sz.qn (by rwa [Int.natAbs_neg]) (by rwa [Int.natAbs_neg]) (by omega)
theorem isRat_qn' {n d : Int} (h : d ≠ 0) : isRat (R2 (qn n d)) = true := by
  by_cases hd : 0 < d
  · exact isRat_qn hd
  · rw [qn_neg (by omega)]
    exact isRat_qn (by omega)
theorem Sz.minus {a b : Nat} {p q : Int × Int} (h1 : Sz a p) (h2 : Sz b q) : Sz (a + b + 1) (qminus p q) := by
  refine Sz.qn ?_ ?_ (Int.mul_pos h1.2.2 h2.2.2)
  · refine Nat.lt_of_le_of_lt (Int.natAbs_sub_le _ _) ?_
    rw [Int.natAbs_mul, Int.natAbs_mul, Nat.pow_succ]
    have k1 := lt_mul_pow h1.1 h2.2.1
    have k2 := lt_mul_pow h2.1 h1.2.1
    rw [Nat.add_comm b a] at k2
    omega
  · rw [Int.natAbs_mul]
    exact Nat.lt_trans (lt_mul_pow h1.2.1 h2.2.1) (Nat.pow_lt_pow_right (by decide) (by omega))
theorem Sz.over {a b : Nat} {p q : Int × Int} (h1 : Sz a p) (h2 : Sz b q) (h : q.1 ≠ 0) : Sz (a + b) (qover p q) :=
  Sz.qn' (by rw [Int.natAbs_mul]; exact lt_mul_pow h1.1 h2.2.1) (by rw [Int.natAbs_mul]; exact lt_mul_pow h1.2.1 h2.1) (Int.mul_ne_zero (by have := h1.2.2; omega) h)
theorem rat_plus {p q : Int × Int} (h1 : 0 < p.2) (h2 : 0 < q.2) : isRat (R2 (qplus p q)) = true := isRat_qn (Int.mul_pos h1 h2)
theorem rat_minus {p q : Int × Int} (h1 : 0 < p.2) (h2 : 0 < q.2) : isRat (R2 (qminus p q)) = true := isRat_qn (Int.mul_pos h1 h2)
def gmax : QV → Int × Int
  | [] => (0, 1)
  | x :: xs => xs.foldl (fun f e => if qless f e then e else f) x
theorem gmax_mem_from {P : Int × Int → Prop} : ∀ (xs : QV) (x : Int × Int), P x → (∀ y ∈ xs, P y) → P (xs.foldl (fun f e => if qless f e then e else f) x)
  | [], x, h, _ => h
  | y :: ys, x, h, hy => by
    refine gmax_mem_from ys _ ?_ fun z hz => hy z (by simp [hz])
    show P (if qless x y then y else x)
    split
    · exact hy y (by simp)
    · exact h
namespace Cm
open PySem PySem.Spec PyProof.Rows L2
section
variable {a b : Nat} {p q : Int × Int} {m : MS}
theorem f_minus (h1 : Sz a p) (h2 : Sz b q) (h : a + b ≤ 134217728) : F_minus [R2 p, R2 q] m = .ok (R2 (qminus p q)) m := by
  have hd : p.2 * q.2 ≠ 0 := by have := Int.mul_pos h1.2.2 h2.2.2; omega
  refine eq_of_wp ?_
  simp [F_minus, u_minus, startD, look, R2, mulOk_of h1.1 h2.2.1 h, mulOk_of h2.1 h1.2.1 (by omega), mulOk_of h1.2.1 h2.2.1 h, e_lowest hd, qminus]
theorem f_lminus (h1 : Sz a p) (h2 : Sz b q) (h : a + b ≤ 134217728) : F__law_minus [R2 p, R2 q] m = .ok (R2 (qminus p q)) m := by
  have hd : p.2 * q.2 ≠ 0 := by have := Int.mul_pos h1.2.2 h2.2.2; omega
  refine eq_of_wp ?_
  simp [F__law_minus, u__law_minus, startD, look, R2, mulOk_of h1.1 h2.2.1 h, mulOk_of h2.1 h1.2.1 (by omega), mulOk_of h1.2.1 h2.2.1 h, e_q hd, qminus]
theorem f_lover (h1 : Sz a p) (h2 : Sz b q) (h : a + b ≤ 134217728) (hz : q.1 ≠ 0) : F__law_over [R2 p, R2 q] m = .ok (R2 (qover p q)) m := by
  have hd : p.2 * q.1 ≠ 0 := Int.mul_ne_zero (by have := h1.2.2; omega) hz
  refine eq_of_wp ?_
  simp [F__law_over, u__law_over, startD, look, R2, mulOk_of h1.1 h2.2.1 h, mulOk_of h1.2.1 h2.1 h, e_q hd, qover]
theorem f_isless (h1 : Sz a p) (h2 : Sz b q) (h : a + b ≤ 134217728) : F_is_less [R2 p, R2 q] m = .ok (.bl (qless p q)) m := by
  refine eq_of_wp ?_
  simp [F_is_less, u_is_less, startD, look, R2, mulOk_of h1.1 h2.2.1 h, mulOk_of h2.1 h1.2.1 (by omega), qless]
theorem f_lless (h1 : Sz a p) (h2 : Sz b q) (h : a + b ≤ 134217728) : F__law_less [R2 p, R2 q] m = .ok (.bl (qless p q)) m := by
  refine eq_of_wp ?_
  simp [F__law_less, u__law_less, startD, look, R2, mulOk_of h1.1 h2.2.1 h, mulOk_of h2.1 h1.2.1 (by omega), qless]
end
theorem f_greatest {k : Nat} {xs : QV} {m : MS} (hk : ∀ x ∈ xs, Sz k x) (hne : xs ≠ []) (hl : xs.length ≤ 1000000) (h : k + k ≤ 134217728) : F_greatest_of [.lst (xs.map R2)] m = .ok (R2 (gmax xs)) m := by
  cases xs with
  | nil => exact (hne rfl).elim
  | cons x xs =>
    refine eq_of_wp ?_
    simp [F_greatest_of, u_greatest_of, startD, look]
    have hc : cutD (R2 x :: xs.map R2) (some 1) none = xs.map R2 := cut_from (k := 1)
    rw [hc]
    simp at hl
    refine ⟨by omega, by rw [List.length_map]; omega, ?_⟩
    refine wp_forW (fun ds ρ m' => m' = m ∧ ∃ pre suf, xs = pre ++ suf ∧ ds = suf.map R2 ∧ ∃ a, ρ = [some (.lst (R2 x :: xs.map R2)), some (R2 (gmax (x :: pre))), a]) ?_ ?_ _ _ _ ⟨rfl, [], xs, rfl, rfl, _, rfl⟩
    · rintro d ds ρ m' ⟨rfl, pre, suf, e, es, a, rfl⟩
      cases suf with
      | nil => cases es
      | cons y suf =>
        obtain ⟨rfl, rfl⟩ := List.cons.inj es
        refine ⟨by simp, ?_⟩
        have hg : Sz k (gmax (x :: pre)) := gmax_mem_from (P := Sz k) pre x (hk x (by simp)) fun z hz => hk z (by rw [e]; simp [hz])
        have hy : Sz k y := hk y (by rw [e]; simp)
        have eg : gmax (x :: (pre ++ [y])) = if qless (gmax (x :: pre)) y then y else gmax (x :: pre) := by unfold gmax; simp
        simp [look, f_isless (m := m') hg hy h]
        split
        · rename_i hq
          exact ⟨pre ++ [y], suf, by rw [e]; simp, rfl, by rw [eg, if_pos hq]⟩
        · rename_i hq
          exact ⟨pre ++ [y], suf, by rw [e]; simp, rfl, by rw [eg, if_neg hq]⟩
    · rintro ρ m' ⟨rfl, pre, suf, e, es, a, rfl⟩
      refine ⟨by simp, ?_⟩
      cases suf with
      | cons y suf => cases es
      | nil =>
        simp at e
        subst e
        simp [look]
/-! ### as rational numbers -/
end Cm
def qv (p : Int × Int) : Rat := Rat.divInt p.1 p.2
theorem qv_qn {n d : Int} (h : d ≠ 0) : qv (qn n d) = Rat.divInt n d := by
  have main : ∀ n d : Int, 0 < d → qv (qn n d) = Rat.divInt n d := by
    intro n d h
    have g0 := gcd_pos (n := n) (d := d) (by omega)
    unfold qn qv
    rw [if_pos h]
    dsimp only
    rw [Int.fdiv_eq_ediv_of_dvd gcd_dvd1, Int.fdiv_eq_ediv_of_dvd gcd_dvd2]
    have e1 := Int.mul_ediv_cancel' (gcd_dvd1 (n := n) (d := d))
    have e2 := Int.mul_ediv_cancel' (gcd_dvd2 (n := n) (d := d))
    have := Rat.divInt_mul_left (n := n / ((Nat.gcd n.natAbs d.natAbs : Nat) : Int)) (d := d / ((Nat.gcd n.natAbs d.natAbs : Nat) : Int)) (a := ((Nat.gcd n.natAbs d.natAbs : Nat) : Int)) (by omega)
    rw [e1, e2] at this
    exact this.symm
  by_cases hd : 0 < d
  · exact main n d hd
  · rw [qn_neg (by omega), main _ _ (by omega), Rat.neg_divInt_neg]
section
variable {p q : Int × Int}
theorem qv_plus (h1 : 0 < p.2) (h2 : 0 < q.2) : qv (qplus p q) = qv p + qv q := by
  have := Int.mul_pos h1 h2
  unfold qplus
  rw [qv_qn (by omega)]
  exact (Rat.divInt_add_divInt _ _ (by omega) (by omega)).symm
theorem qv_minus (h1 : 0 < p.2) (h2 : 0 < q.2) : qv (qminus p q) = qv p - qv q := by
  have := Int.mul_pos h1 h2
  unfold qminus
  rw [qv_qn (by omega)]
  exact (Rat.divInt_sub_divInt _ _ (by omega) (by omega)).symm
theorem qv_times (h1 : 0 < p.2) (h2 : 0 < q.2) : qv (qtimes p q) = qv p * qv q := by
  have := Int.mul_pos h1 h2
  unfold qtimes
  rw [qv_qn (by omega)]
  exact (Rat.divInt_mul_divInt _ _).symm
theorem qless_iff (h1 : 0 < p.2) (h2 : 0 < q.2) : qless p q = true ↔ qv p < qv q := by
  have h3 := Int.mul_pos h2 h1
  have : qv q ≤ qv p ↔ q.1 * p.2 ≤ p.1 * q.2 := by
    rw [Rat.le_iff_sub_nonneg]
    unfold qv
    rw [Rat.divInt_sub_divInt _ _ (by omega) (by omega), Rat.divInt_nonneg_iff_of_pos_right (Int.mul_pos h1 h2)]
    omega
  rw [← Rat.not_le, this]
  unfold qless
  rw [decide_eq_true_iff]
  omega
theorem isRat_iff : isRat (R2 p) = true ↔ 0 < p.2 ∧ Nat.gcd p.1.natAbs p.2.natAbs = 1 := by
  simp [R2, isRat]
theorem qv_inj (h1 : isRat (R2 p) = true) (h2 : isRat (R2 q) = true) (h : qv p = qv q) : p = q := by
  obtain ⟨a1, a2⟩ := isRat_iff.mp h1
  obtain ⟨b1, b2⟩ := isRat_iff.mp h2
  unfold qv at h
  rw [Rat.divInt_eq_divInt_iff (by omega) (by omega)] at h
  have e := congrArg Int.natAbs h
  rw [Int.natAbs_mul, Int.natAbs_mul] at e
  have d1 : p.2.natAbs ∣ q.2.natAbs := (Nat.Coprime.dvd_of_dvd_mul_left (Nat.Coprime.symm a2) (by rw [e]; exact Nat.dvd_mul_left _ _))
  have d2 : q.2.natAbs ∣ p.2.natAbs := (Nat.Coprime.dvd_of_dvd_mul_left (Nat.Coprime.symm b2) (by rw [← e]; exact Nat.dvd_mul_left _ _))
  have e2 : p.2 = q.2 := by
    have := Nat.dvd_antisymm d1 d2
    omega
  rw [e2] at h
  have e1 : p.1 = q.1 := Int.eq_of_mul_eq_mul_right (by omega) h
  exact Prod.ext e1 e2
theorem qv_eq_iff (h1 : isRat (R2 p) = true) (h2 : isRat (R2 q) = true) : qv p = qv q ↔ p = q := ⟨qv_inj h1 h2, fun h => by rw [h]⟩
end
/-- the greatest is one of them, and none is greater -/
theorem gmax_ge : ∀ (xs : QV) (x : Int × Int), (∀ y ∈ x :: xs, 0 < y.2) → ∀ y ∈ x :: xs, qv y ≤ qv (gmax (x :: xs))
  | [], x, _, y, hy => by
    rcases List.mem_cons.mp hy with rfl | h
    · exact Rat.le_refl
    · cases h
  | z :: zs, x, h, y, hy => by
    have hx := h x (by simp)
    have hz := h z (by simp)
    have e : gmax (x :: z :: zs) = gmax ((if qless x z then z else x) :: zs) := rfl
    rw [e]
    have hp : ∀ y ∈ (if qless x z then z else x) :: zs, 0 < y.2 := by
      intro y hy
      rcases List.mem_cons.mp hy with rfl | hy
      · split
        · exact hz
        · exact hx
      · exact h y (by simp [hy])
    have ih := gmax_ge zs _ hp
    have top := ih _ (by simp : (if qless x z then z else x) ∈ _)
    have hle : qv x ≤ qv (if qless x z then z else x) ∧ qv z ≤ qv (if qless x z then z else x) := by
      cases hq : qless x z with
      | true =>
        rw [if_pos rfl]
        exact ⟨Rat.le_of_lt ((qless_iff hx hz).mp hq), Rat.le_refl⟩
      | false =>
        rw [if_neg Bool.false_ne_true]
        refine ⟨Rat.le_refl, Rat.not_lt.mp fun q => ?_⟩
        rw [(qless_iff hx hz).mpr q] at hq
        cases hq
    rcases List.mem_cons.mp hy with rfl | hy
    · exact Rat.le_trans hle.1 top
    · rcases List.mem_cons.mp hy with rfl | hy
      · exact Rat.le_trans hle.2 top
      · exact ih y (by simp [hy])
theorem gmax_mem : ∀ (xs : QV) (x : Int × Int), gmax (x :: xs) ∈ x :: xs
  | [], x => by simp [gmax]
  | z :: zs, x => by
    have e : gmax (x :: z :: zs) = gmax ((if qless x z then z else x) :: zs) := rfl
    rw [e]
    have := gmax_mem zs (if qless x z then z else x)
    rcases List.mem_cons.mp this with h | h
    · rw [h]
      split <;> simp
    · simp [h]
end TL
end
section
/-! Sums and dots as rational numbers; their sizes. -/
namespace TL
open L2 (atI ixN)
open PySem PySem.Spec PyProof.Rows L2
theorem qn_pos {n d : Int} (h : d ≠ 0) : 0 < (qn n d).2 := by
  have h1 := Nat.lt_two_pow_self (n := n.natAbs + d.natAbs)
  exact (Sz.qn' (k := n.natAbs + d.natAbs) (n := n) (d := d) (by omega) (by omega) h).2.2
section
variable {p q : Int × Int}
theorem qplus_pos (h1 : 0 < p.2) (h2 : 0 < q.2) : 0 < (qplus p q).2 := qn_pos (by have := Int.mul_pos h1 h2; omega)
theorem qminus_pos (h1 : 0 < p.2) (h2 : 0 < q.2) : 0 < (qminus p q).2 := qn_pos (by have := Int.mul_pos h1 h2; omega)
theorem qtimes_pos (h1 : 0 < p.2) (h2 : 0 < q.2) : 0 < (qtimes p q).2 := qn_pos (by have := Int.mul_pos h1 h2; omega)
end
def rsum : QV → Rat
  | [] => 0
  | x :: xs => qv x + rsum xs
theorem qv_fold : ∀ (xs : QV) (a : Int × Int), 0 < a.2 → (∀ x ∈ xs, 0 < x.2) → qv (xs.foldl qplus a) = qv a + rsum xs ∧ 0 < (xs.foldl qplus a).2
  | [], a, h, _ => ⟨by simp [rsum, Rat.add_zero], h⟩
  | x :: xs, a, h, hx => by
    have h1 := hx x (by simp)
    obtain ⟨e, p⟩ := qv_fold xs (qplus a x) (qplus_pos h h1) fun y hy => hx y (by simp [hy])
    refine ⟨?_, p⟩
    rw [List.foldl_cons, e, qv_plus h h1, rsum, Rat.add_assoc]
theorem qv_01 : qv (0, 1) = 0 := by simp [qv]
theorem qv_qsum {xs : QV} (h : ∀ x ∈ xs, 0 < x.2) : qv (qsum xs) = rsum xs := by
  have := (qv_fold xs (0, 1) (by decide) h).1
  rw [qv_01, Rat.zero_add] at this
  exact this
theorem qsum_pos {xs : QV} (h : ∀ x ∈ xs, 0 < x.2) : 0 < (qsum xs).2 := (qv_fold xs (0, 1) (by decide) h).2
def rdot : QV → QV → Rat
  | x :: xs, y :: ys => qv x * qv y + rdot xs ys
  | _, _ => 0
section
variable {xs ys : QV}
theorem dot_pos (hx : ∀ x ∈ xs, 0 < x.2) (hy : ∀ y ∈ ys, 0 < y.2) : ∀ z ∈ ((xs.zip ys).map fun p => qtimes p.1 p.2), 0 < z.2 := by
  intro z hz
  obtain ⟨p, hp, rfl⟩ := List.mem_map.mp hz
  exact qtimes_pos (hx p.1 (List.of_mem_zip hp).1) (hy p.2 (List.of_mem_zip hp).2)
theorem qdot_pos (hx : ∀ x ∈ xs, 0 < x.2) (hy : ∀ y ∈ ys, 0 < y.2) : 0 < (qdot xs ys).2 := qsum_pos (dot_pos hx hy)
end
theorem qv_qdot {xs ys : QV} (hx : ∀ x ∈ xs, 0 < x.2) (hy : ∀ y ∈ ys, 0 < y.2) : qv (qdot xs ys) = rdot xs ys := by
  unfold qdot
  rw [qv_qsum (dot_pos hx hy)]
  induction xs generalizing ys with
  | nil => rfl
  | cons x xs ih =>
    cases ys with
    | nil => rfl
    | cons y ys =>
      rw [List.zip_cons_cons, List.map_cons, rsum, rdot, qv_times (hx x (by simp)) (hy y (by simp)), ih (fun z hz => hx z (by simp [hz])) fun z hz => hy z (by simp [hz])]
theorem rdot_sub : ∀ {a b y : QV}, a.length = b.length → (∀ x ∈ a, 0 < x.2) → (∀ x ∈ b, 0 < x.2) → rdot (List.zipWith qminus a b) y = rdot a y - rdot b y
  | [], [], y, _, _, _ => by simp [rdot, Rat.sub_self]
  | x :: a, z :: b, [], _, _, _ => by simp [rdot, Rat.sub_self]
  | x :: a, z :: b, y :: ys, h, ha, hb => by
    have ih := rdot_sub (a := a) (b := b) (y := ys) (by simpa using h) (fun w hw => ha w (by simp [hw])) fun w hw => hb w (by simp [hw])
    rw [List.zipWith_cons_cons, rdot, rdot, rdot, ih, qv_minus (ha x (by simp)) (hb z (by simp))]
    generalize qv x = x1
    generalize qv z = z1
    generalize qv y = y1
    generalize rdot a ys = u
    generalize rdot b ys = v
    grind
theorem qsum_sz {k : Nat} {xs : QV} (hk : ∀ x ∈ xs, Sz k x) : Sz (1 + xs.length * (k + 1)) (qsum xs) := by
  have main : ∀ (xs : QV) (a : Int × Int) (j : Nat), Sz j a → (∀ x ∈ xs, Sz k x) → Sz (j + xs.length * (k + 1)) (xs.foldl qplus a) := by
    intro xs
    induction xs with
    | nil => intro a j h _; simpa using h
    | cons x xs ih =>
      intro a j h hx
      have := ih (qplus a x) (j + k + 1) (h.plus (hx x (by simp))) fun y hy => hx y (by simp [hy])
      refine this.mono ?_
      rw [List.length_cons, Nat.add_mul]
      omega
  exact main xs (0, 1) 1 ⟨by decide, by decide, by decide⟩ hk
theorem qdot_sz {a b : Nat} {xs ys : QV} (hx : ∀ x ∈ xs, Sz a x) (hy : ∀ y ∈ ys, Sz b y) : Sz (1 + xs.length * (a + b + 1)) (qdot xs ys) := by
  unfold qdot
  have h := qsum_sz (k := a + b) (xs := (xs.zip ys).map fun p => qtimes p.1 p.2) fun z hz => by
    obtain ⟨p, hp, rfl⟩ := List.mem_map.mp hz
    exact (hx p.1 (List.of_mem_zip hp).1).times (hy p.2 (List.of_mem_zip hp).2)
  refine h.mono ?_
  rw [List.length_map]
  have := Nat.mul_le_mul_right (a + b + 1) (zip_len (xs := xs) (ys := ys))
  omega
theorem eqv_R2 {p q : Int × Int} : eqvD (R2 p) (R2 q) = decide (p = q) := by
  obtain ⟨a, b⟩ := p
  obtain ⟨c, d⟩ := q
  simp only [R2, eqvD, eqvAll]
  rw [Bool.eq_iff_iff]
  simp
end TL
end
section
/-! The shared functions: `_law_begun`. -/
namespace TL
open L2 (atI ixN)
open PySem PySem.Spec PyProof.Rows L2
theorem allI_map : ∀ g : List Int, allI (g.map D.int) = some g
  | [] => rfl
  | x :: g => by
    rw [List.map_cons]
    unfold allI
    rw [allI_map g]
    rfl
theorem wp_begun {f1 f2 : FE} {i : Nat} {ρ : Env'} {P : Fl → MS → Prop} {g c : List Int} (hi : i < ρ.length)
    (h1 : wp (f1 ρ ⟨[], none⟩) fun d m1 => d = .ref 0 ∧ m1 = ⟨[.lst (g.map D.int)], none⟩)
    (h2 : wp (f2 (ρ.set i (some (.ref 0))) ⟨[.lst (g.map D.int)], none⟩) fun d m2 => d = .lst (c.map D.int) ∧ m2 = ⟨[.lst (g.map D.int)], none⟩)
    (h3 : P (.ret .drw) ⟨[], some ⟨g, c, 0, 0⟩⟩) : wp (sBegun f1 f2 i ρ ⟨[], none⟩) P := by
  unfold sBegun
  rw [if_pos ⟨rfl, rfl, hi⟩]
  obtain ⟨d, m1, e1, rfl, rfl⟩ := wp_elim h1
  rw [e1]
  obtain ⟨d2, m2, e2, rfl, rfl⟩ := wp_elim h2
  show wp (match f2 (ρ.set i (some (.ref 0))) ⟨[.lst (g.map D.int)], none⟩ with | .ok (.lst cs) m2 => _ | _ => _) P
  rw [e2]
  dsimp only
  rw [allI_map, allI_map, if_pos ⟨rfl, rfl⟩]
  exact h3
def IsScr (ns : List Int) (s : D) : Prop := s = .scr ns ∨ s = .lst (ns.map D.int)
theorem pow18 : powOkW 10 18 = true := by decide
namespace Cm
theorem sp_begun {ns : List Int} {s : D} (hs : IsScr ns s) (hl : ns.length ≤ 63) : wp (F__law_begun [s] ⟨[], none⟩) fun v m' => v = .drw ∧ m'.objs = [] ∧ DrB (2 ^ 200) m' := by
  unfold F__law_begun u__law_begun
  rw [wp_bodyF']
  have hseq : ∀ m : MS, seqD m s = some (ns.map D.int) ∧ gsD m s = [] := fun m => by
    rcases hs with rfl | rfl <;> exact ⟨rfl, rfl⟩
  have hstr : ∀ z, s ≠ .str z := fun z => by rcases hs with rfl | rfl <;> exact fun e => by cases e
  let ab : Int → Int := fun i => if i < 0 then -i else i
  refine wp_begun (i := 1) (g := ((ns.filter fun i => decide (1000000000000000000 ≤ ab i)).map fun i => ab i - 1000000000000000000)) (c := ns.map ab) (by simp [startD]) ?_ ?_ ?_
  · have key : ∀ d : D, wp (lcW (ItD.mk (List.map D.int ns) []).Ok (gN 2) (toB (dBin geI (dCallB (arg1 absD) (aCons (dVar 2) aNil)) (dBin powW (dC (D.int 10)) (dC (D.int 18)))))
      (dBin subD (dCallB (arg1 absD) (aCons (dVar 2) aNil)) (dBin powW (dC (D.int 10)) (dC (D.int 18)))) (wipeD [some d, none, none] [2]) (List.map D.int ns) ⟨[], none⟩) fun zs m2 => zs = ((ns.filter fun i => decide (1000000000000000000 ≤ ab i)).map fun i => D.int (ab i - 1000000000000000000)) ∧ m2 = ⟨[], none⟩ := fun d => by
      refine wp_lcW_filterA _ (fun i => decide (1000000000000000000 ≤ ab i)) (fun i => D.int (ab i - 1000000000000000000)) ok_nil' (fun i _ => ?_) ⟨rfl, rfl⟩
      simp [look, wipeD, pow18, ab]
    have hlen : ((ns.filter fun i => decide (1000000000000000000 ≤ ab i)).map fun i => D.int (ab i - 1000000000000000000)).length ≤ 1000000 := by
      rw [List.length_map]
      exact Nat.le_trans (List.length_filter_le _ _) (by omega)
    have fin : ∀ d : D, wp (lcW (ItD.mk (List.map D.int ns) []).Ok (gN 2) (toB (dBin geI (dCallB (arg1 absD) (aCons (dVar 2) aNil)) (dBin powW (dC (D.int 10)) (dC (D.int 18)))))
      (dBin subD (dCallB (arg1 absD) (aCons (dVar 2) aNil)) (dBin powW (dC (D.int 10)) (dC (D.int 18)))) (wipeD [some d, none, none] [2]) (List.map D.int ns) ⟨[], none⟩) fun zs m2 => wp (newL true zs m2) fun d m1 => d = .ref 0 ∧ m1 = ⟨[.lst (((ns.filter fun i => decide (1000000000000000000 ≤ ab i)).map fun i => ab i - 1000000000000000000).map D.int)], none⟩ := fun d =>
      wp_mono (key d) fun zs m2 ⟨e1, e2⟩ => by
        subst e1 e2
        rw [wp_newLt]
        refine ⟨hlen, rfl, ?_⟩
        rw [List.map_map]
        rfl
    rcases hs with rfl | rfl
    · rw [wp_dLc]
      simp only [wp_iSeq, wp_var, startD, look]
      exact fin _
    · rw [wp_dLc]
      simp only [wp_iSeq, wp_var, startD, look]
      exact fin _
  · have key2 : ∀ (d : D) (m : MS), wp (lcW (ItD.mk (List.map D.int ns) []).Ok (gN 2) bYes (dCallB (arg1 absD) (aCons (dVar 2) aNil)) (wipeD [some d, some (D.ref 0), none] [2]) (List.map D.int ns) m) fun zs m2 => wp (newL false zs m2) fun d m1 => d = .lst ((ns.map ab).map D.int) ∧ m1 = m := fun d m => by
      refine wp_lcW_mapA _ (fun i => D.int (ab i)) ok_nil' (fun i _ => ?_) ?_
      · simp [look, wipeD, ab]
      · rw [wp_newLf]
        refine ⟨by rw [List.length_map]; omega, ?_, rfl⟩
        rw [List.map_map]
        rfl
    rcases hs with rfl | rfl
    · rw [wp_dLc]
      simp only [wp_iSeq, wp_var, startD, look]
      exact key2 _ _
    · rw [wp_dLc]
      simp only [wp_iSeq, wp_var, startD, look]
      exact key2 _ _
  · refine ⟨rfl, rfl, _, rfl, Int.le_refl 0, Int.le_refl _, Int.le_refl 0, ?_, ?_⟩
    · intro z hz
      obtain ⟨i, hi, rfl⟩ := List.mem_map.mp hz
      have := of_decide_eq_true (List.mem_filter.mp hi).2
      omega
    · show (ns.map ab).length ≤ 63
      rw [List.length_map]
      exact hl
end Cm
end TL
end
section
/-! Printed by gen.py: the data functions of the law. -/
namespace TL
namespace K90
open PySem PySem.Spec PyProof.Rows L2 Cm
/-- isinstance among the classes -/
def subs (x y : Str) : Option Bool := if (x = "BadPoint" ∨ x = "BadWord" ∨ x = "BadLines") ∧ (y = "BadPoint" ∨ y = "BadWord" ∨ y = "BadLines") then some (decide (x = y)) else none
def fok (f x : Str) : Bool := false
def teach (x : Str) : Bool := decide (x = "BadPoint") || decide (x = "BadWord") || decide (x = "BadLines")
noncomputable def u_need_lines : FS := (sIf (bNot (toB (dCall (lenF 1 F_is_lines) (aCons (dVar 0) aNil))))
  (sRaise "BadLines" (dC (.str "lines are needed")))
  sNext)
@[irreducible] noncomputable def F_need_lines : List D → M D := bodyF u_need_lines 1
noncomputable def u_need_line_word : FS := (sIf (bOr (bNot (toB (dCall (lenF 1 F_is_word) (aCons (dVar 1) aNil)))) (toB (dBin (inD true) (dVar 1) (dLc false [2] (iSeq (dBin ixD (dVar 0) (dC (.int 1)))) (gN 2) bYes (dBin ixD (dVar 2) (dC (.int 0)))))))
  (sRaise "BadWord" (dC (.str "a word of the lines is needed")))
  sNext)
@[irreducible] noncomputable def F_need_line_word : List D → M D := bodyF u_need_line_word 3
noncomputable def u_worth_of : FS := (sRet (dCall (lenF 2 F_plus) (aCons (dCall (lenF 2 F_dot) (aCons (dSl false (dVar 0) oNone (oSome (dNeg (dC (.int 1))))) (aCons (dVar 1) aNil))) (aCons (dBin ixD (dVar 0) (dNeg (dC (.int 1)))) aNil))))
@[irreducible] noncomputable def F_worth_of : List D → M D := bodyF u_worth_of 2
noncomputable def u_greatest_words : FS := (sSeq (sAsg (dLc false [4, 5] (iSeq (dBin ixD (dVar 0) (dC (.int 1)))) (gT 2 (gsCons (gN 4) (gsCons (gN 5) gsNil))) bYes (dCall (lenF 2 F_worth_of) (aCons (dVar 5) (aCons (dVar 1) aNil)))) (gN 2))
  (sSeq (sAsg (dCall (lenF 1 F_greatest_of) (aCons (dVar 2) aNil)) (gN 3))
  (sRet (dCallB (arg1 tupleD) (aCons (dLc false [6, 7] (iZip2 (aCons (dBin ixD (dVar 0) (dC (.int 1))) (aCons (dVar 2) aNil))) (gT 2 (gsCons (gN 6) (gsCons (gN 7) gsNil))) (toB (dBin (eqD false) (dVar 7) (dVar 3))) (dBin ixD (dVar 6) (dC (.int 0)))) aNil)))))
@[irreducible] noncomputable def F_greatest_words : List D → M D := bodyF u_greatest_words 8
noncomputable def u_chosen : FS := (sSeq (sExpr (dCall (lenF 1 F_need_lines) (aCons (dVar 0) aNil)))
  (sSeq (sIf (bOr (bNot (toB (dCall (lenF 1 F_is_vector) (aCons (dVar 1) aNil)))) (toB (dBin (eqD true) (dCallB (arg1 lenD) (aCons (dVar 1) aNil)) (dCall (lenF 1 F_places_of_lines) (aCons (dVar 0) aNil)))))
  (sRaise "BadPoint" (dC (.str "a point of the lines is needed")))
  sNext)
  (sRet (dCall (lenF 2 F_greatest_words) (aCons (dVar 0) (aCons (dVar 1) aNil))))))
@[irreducible] noncomputable def F_chosen : List D → M D := bodyF u_chosen 2
noncomputable def u_region : FS := (sSeq (sExpr (dCall (lenF 1 F_need_lines) (aCons (dVar 0) aNil)))
  (sSeq (sExpr (dCall (lenF 2 F_need_line_word) (aCons (dVar 0) (aCons (dVar 1) aNil))))
  (sRet (dTup (aCons (dC (.str "polyhedron")) (aCons (dCall (lenF 1 F_places_of_lines) (aCons (dVar 0) aNil)) (aCons (dCall (lenF 2 F_limits_of) (aCons (dVar 0) (aCons (dVar 1) aNil))) aNil)))))))
@[irreducible] noncomputable def F_region : List D → M D := bodyF u_region 2
noncomputable def u__law_ln_worths : FS := (sRet (dLc false [2, 3] (iSeq (dBin ixD (dVar 0) (dC (.int 1)))) (gT 2 (gsCons (gN 2) (gsCons (gN 3) gsNil))) bYes (dCall (lenF 2 F__law_plus) (aCons (dCall (lenF 2 F__law_dot) (aCons (dSl false (dVar 3) oNone (oSome (dNeg (dC (.int 1))))) (aCons (dVar 1) aNil))) (aCons (dBin ixD (dVar 3) (dNeg (dC (.int 1)))) aNil)))))
@[irreducible] noncomputable def F__law_ln_worths : List D → M D := bodyF u__law_ln_worths 4
noncomputable def u__law_ln_chosen : FS := (sSeq (sAsg (dCall (lenF 2 F__law_ln_worths) (aCons (dVar 0) (aCons (dVar 1) aNil))) (gN 2))
  (sRet (dCallB (arg1 tupleD) (aCons (dLc false [3] (iRange1 (aCons (dCallB (arg1 lenD) (aCons (dVar 2) aNil)) aNil)) (gN 3) (toB (dBin (eqD false) (dLc false [4] (iSeq (dVar 2)) (gN 4) (toB (dCall (lenF 2 F__law_less) (aCons (dBin ixD (dVar 2) (dVar 3)) (aCons (dVar 4) aNil)))) (dC (.int 1))) (dLst false aNil))) (dBin ixD (dBin ixD (dBin ixD (dVar 0) (dC (.int 1))) (dVar 3)) (dC (.int 0)))) aNil))))
@[irreducible] noncomputable def F__law_ln_chosen : List D → M D := bodyF u__law_ln_chosen 5
noncomputable def u__law_ln_limits : FS := (sSeq (sAsg (dBin ixD (dLc false [4, 5] (iSeq (dBin ixD (dVar 0) (dC (.int 1)))) (gT 2 (gsCons (gN 4) (gsCons (gN 5) gsNil))) (toB (dBin (eqD false) (dVar 4) (dVar 1))) (dVar 5)) (dC (.int 0))) (gN 2))
  (sSeq (sAsg (dLst true aNil) (gN 3))
  (sSeq (sFor (iSeq (dBin ixD (dVar 0) (dC (.int 1)))) (gT 2 (gsCons (gN 4) (gsCons (gN 5) gsNil)))
  (sIf (toB (dBin (eqD true) (dVar 4) (dVar 1)))
  (sExpr (dMeth "list" appendD (dVar 3) (aCons (dTup (aCons (dCallB (arg1 tupleD) (aCons (dLc false [6, 7] (iZip2 (aCons (dSl false (dVar 2) oNone (oSome (dNeg (dC (.int 1))))) (aCons (dSl false (dVar 5) oNone (oSome (dNeg (dC (.int 1))))) aNil))) (gT 2 (gsCons (gN 6) (gsCons (gN 7) gsNil))) bYes (dCall (lenF 2 F__law_minus) (aCons (dVar 6) (aCons (dVar 7) aNil)))) aNil)) (aCons (dCall (lenF 2 F__law_minus) (aCons (dBin ixD (dVar 5) (dNeg (dC (.int 1)))) (aCons (dBin ixD (dVar 2) (dNeg (dC (.int 1)))) aNil))) aNil))) aNil)))
  sNext))
  (sRet (dCallB (arg1 tupleD) (aCons (dVar 3) aNil))))))
@[irreducible] noncomputable def F__law_ln_limits : List D → M D := bodyT u__law_ln_limits 8
noncomputable def u__law_is_word : FS := (sRet (dAnd (dCallB (arg2 (isiX sub0)) (aCons (dVar 0) (aCons (dC (.ty .str)) aNil))) (dAnd (dChain (leI) (leI) (dC (.int 1)) (dCallB (arg1 lenD) (aCons (dVar 0) aNil)) (dC (.int 8))) (dBin (eqD false) (dLc false [1] (iSeq (dVar 0)) (gN 1) (toB (dBin (inD true) (dVar 1) (dC (.str "abcdefghijklmnopqrstuvwxyz")))) (dVar 1)) (dLst false aNil)))))
@[irreducible] noncomputable def F__law_is_word : List D → M D := bodyF u__law_is_word 2
noncomputable def u__law_is_lines : FS := (sSeq (sIf (bOr (bNot (toB (dCallB (arg2 (isiX sub0)) (aCons (dVar 0) (aCons (dC (.ty .tuple)) aNil))))) (bOr (toB (dBin (eqD true) (dCallB (arg1 lenD) (aCons (dVar 0) aNil)) (dC (.int 2)))) (bOr (bNot (toB (dCallB (arg2 (isiX sub0)) (aCons (dBin ixD (dVar 0) (dC (.int 0))) (aCons (dC (.ty .str)) aNil))))) (bOr (toB (dBin (eqD true) (dBin ixD (dVar 0) (dC (.int 0))) (dC (.str "lines")))) (bNot (toB (dCallB (arg2 (isiX sub0)) (aCons (dBin ixD (dVar 0) (dC (.int 1))) (aCons (dC (.ty .tuple)) aNil)))))))))
  (sRet (dC (.bl false)))
  sNext)
  (sSeq (sAsg (dBin ixD (dVar 0) (dC (.int 1))) (gN 1))
  (sSeq (sIf (bOr (bNot (toB (dChain (leI) (leI) (dC (.int 1)) (dCallB (arg1 lenD) (aCons (dVar 1) aNil)) (dC (.int 6))))) (toB (dBin (eqD true) (dLc false [3] (iSeq (dVar 1)) (gN 3) (bOr (bNot (toB (dCallB (arg2 (isiX sub0)) (aCons (dVar 3) (aCons (dC (.ty .tuple)) aNil))))) (bOr (toB (dBin (eqD true) (dCallB (arg1 lenD) (aCons (dVar 3) aNil)) (dC (.int 2)))) (bOr (bNot (toB (dCall (lenF 1 F__law_is_word) (aCons (dBin ixD (dVar 3) (dC (.int 0))) aNil)))) (bNot (toB (dCallB (arg2 (isiX sub0)) (aCons (dBin ixD (dVar 3) (dC (.int 1))) (aCons (dC (.ty .tuple)) aNil)))))))) (dC (.int 1))) (dLst false aNil))))
  (sRet (dC (.bl false)))
  sNext)
  (sSeq (sAsg (dCallB (arg1 lenD) (aCons (dBin ixD (dBin ixD (dVar 1) (dC (.int 0))) (dC (.int 1))) aNil)) (gN 2))
  (sSeq (sIf (bOr (bNot (toB (dChain (leI) (leI) (dC (.int 2)) (dVar 2) (dC (.int 4))))) (toB (dBin (eqD true) (dLc false [3] (iSeq (dVar 1)) (gN 3) (bNot (toB (dCall (lenF 2 F__law_ph_is_vector) (aCons (dBin ixD (dVar 3) (dC (.int 1))) (aCons (dVar 2) aNil))))) (dC (.int 1))) (dLst false aNil))))
  (sRet (dC (.bl false)))
  sNext)
  (sRet (dBin (eqD false) (dLc false [4] (iRange1 (aCons (dBin (subD) (dCallB (arg1 lenD) (aCons (dVar 1) aNil)) (dC (.int 1))) aNil)) (gN 4) (toB (dBin (geA) (dBin ixD (dBin ixD (dVar 1) (dVar 4)) (dC (.int 0))) (dBin ixD (dBin ixD (dVar 1) (dBin (addD false) (dVar 4) (dC (.int 1)))) (dC (.int 0))))) (dVar 4)) (dLst false aNil))))))))
@[irreducible] noncomputable def F__law_is_lines : List D → M D := bodyF u__law_is_lines 5
noncomputable def u__law_near : FS := (sSeq (sPar2 2 3 (aCons (dBin ixD (dVar 1) (dC (.int 1))) (aCons (dCallB (arg1 lenD) (aCons (dBin ixD (dBin ixD (dBin ixD (dVar 1) (dC (.int 1))) (dC (.int 0))) (dC (.int 1))) aNil)) aNil)))
  (sSeq (sAsg (dBin (mulD false) (dTup (aCons (dTup (aCons (dC (.int 0)) (aCons (dC (.int 1)) aNil))) aNil)) (dVar 3)) (gN 4))
  (sSeq (sAsg (dLst false (aCons (dTup (aCons (dC (.str "lines")) (aCons (dRev (dVar 2)) aNil))) (aCons (dTup (aCons (dC (.str "lines")) (aCons (dBin (addD false) (dVar 2) (dSl false (dVar 2) (oSome (dNeg (dC (.int 1)))) oNone)) aNil))) (aCons (dTup (aCons (dC (.str "lines")) (aCons (dTup aNil) aNil))) (aCons (dCallB (arg1 (listD false)) (aCons (dVar 1) aNil)) (aCons (dTup (aCons (dC (.str "line")) (aCons (dVar 2) aNil))) (aCons (dTup (aCons (dC (.str "lines")) (aCons (dCallB (arg1 (listD false)) (aCons (dVar 2) aNil)) aNil))) aNil))))))) (gN 5))
  (sSeq (sAsg (dBin (addD false) (dVar 5) (dLst false (aCons (dTup (aCons (dC (.str "lines")) (aCons (dTup (aCons (dTup (aCons (dC (.str "a")) (aCons (dTup (aCons (dTup (aCons (dC (.int 1)) (aCons (dC (.int 1)) aNil))) aNil)) aNil))) aNil)) aNil))) (aCons (dTup (aCons (dC (.str "lines")) (aCons (dTup (aCons (dTup (aCons (dC (.str "a")) (aCons (dBin (mulD false) (dTup (aCons (dTup (aCons (dC (.int 1)) (aCons (dC (.int 1)) aNil))) aNil)) (dC (.int 5))) aNil))) aNil)) aNil))) (aCons (dCall (lenF 1 F__law_odd) (aCons (dVar 0) aNil)) aNil))))) (gN 5))
  (sSeq (sAsg (dBin (addD false) (dVar 5) (dLst false (aCons (dTup (aCons (dC (.str "lines")) (aCons (dCallB (arg1 tupleD) (aCons (dLc false [6] (iSeq (dSl false (dLst false (aCons (dC (.str "a")) (aCons (dC (.str "b")) (aCons (dC (.str "c")) (aCons (dC (.str "d")) (aCons (dC (.str "e")) (aCons (dC (.str "f")) (aCons (dC (.str "g")) aNil)))))))) oNone (oSome (dBin (addD false) (dC (.int 6)) (dCall (lenF 2 F__law_draw) (aCons (dVar 0) (aCons (dC (.int 2)) aNil))))))) (gN 6) bYes (dTup (aCons (dVar 6) (aCons (dVar 4) aNil)))) aNil)) aNil))) (aCons (dTup (aCons (dC (.str "lines")) (aCons (dBin (addD false) (dVar 2) (dTup (aCons (dTup (aCons (dC (.str "zzzzzzzz")) (aCons (dBin (addD false) (dVar 4) (dTup (aCons (dTup (aCons (dC (.int 0)) (aCons (dC (.int 1)) aNil))) aNil))) aNil))) aNil))) aNil))) aNil)))) (gN 5))
  (sRet (dCall (lenF 2 F__law_pick) (aCons (dVar 0) (aCons (dBin (addD false) (dVar 5) (dBin (mulD false) (dLst false (aCons (dCall (lenF 2 (F__law_ph_bent 8)) (aCons (dVar 0) (aCons (dVar 1) aNil))) aNil)) (dC (.int 12)))) aNil)))))))))
@[irreducible] noncomputable def F__law_near : List D → M D := bodyF u__law_near 7
noncomputable def u__law_meeting : FS := (sSeq (sAsg (dBin (subD) (dCallB (arg1 lenD) (aCons (dBin ixD (dBin ixD (dBin ixD (dVar 1) (dC (.int 1))) (dC (.int 0))) (dC (.int 1))) aNil)) (dC (.int 1))) (gN 2))
  (sSeq (sPar2 3 4 (aCons (dBin ixD (dCall (lenF 2 F__law_pick) (aCons (dVar 0) (aCons (dBin ixD (dVar 1) (dC (.int 1))) aNil))) (dC (.int 1))) (aCons (dBin ixD (dCall (lenF 2 F__law_pick) (aCons (dVar 0) (aCons (dBin ixD (dVar 1) (dC (.int 1))) aNil))) (dC (.int 1))) aNil)))
  (sSeq (sAsg (dTup (aCons (dCallB (arg1 tupleD) (aCons (dLc false [10, 11] (iZip2 (aCons (dSl false (dVar 3) oNone (oSome (dNeg (dC (.int 1))))) (aCons (dSl false (dVar 4) oNone (oSome (dNeg (dC (.int 1))))) aNil))) (gT 2 (gsCons (gN 10) (gsCons (gN 11) gsNil))) bYes (dCall (lenF 2 F__law_minus) (aCons (dVar 10) (aCons (dVar 11) aNil)))) aNil)) (aCons (dCall (lenF 3 F__law_vector) (aCons (dVar 0) (aCons (dVar 2) (aCons (dC (.int 4)) aNil)))) aNil))) (gT 2 (gsCons (gN 5) (gsCons (gN 6) gsNil))))
  (sSeq (sAsg (dLc false [9] (iRange1 (aCons (dVar 2) aNil)) (gN 9) (toB (dBin (eqD true) (dBin ixD (dBin ixD (dVar 5) (dVar 9)) (dC (.int 0))) (dC (.int 0)))) (dVar 9)) (gN 7))
  (sSeq (sIf (bOr (toB (dBin (eqD false) (dVar 7) (dLst false aNil))) (toB (dBin (eqD false) (dCall (lenF 2 F__law_draw) (aCons (dVar 0) (aCons (dC (.int 3)) aNil))) (dC (.int 0)))))
  (sRet (dVar 6))
  sNext)
  (sSeq (sAsg (dCall (lenF 2 F__law_plus) (aCons (dCall (lenF 2 F__law_dot) (aCons (dVar 5) (aCons (dVar 6) aNil))) (aCons (dCall (lenF 2 F__law_minus) (aCons (dBin ixD (dVar 3) (dNeg (dC (.int 1)))) (aCons (dBin ixD (dVar 4) (dNeg (dC (.int 1)))) aNil))) aNil))) (gN 8))
  (sSeq (sAsg (dBin ixD (dVar 7) (dC (.int 0))) (gN 9))
  (sRet (dBin (addD false) (dBin (addD false) (dSl false (dVar 6) oNone (oSome (dVar 9))) (dTup (aCons (dCall (lenF 2 F__law_minus) (aCons (dBin ixD (dVar 6) (dVar 9)) (aCons (dCall (lenF 2 F__law_over) (aCons (dVar 8) (aCons (dBin ixD (dVar 5) (dVar 9)) aNil))) aNil))) aNil))) (dSl false (dVar 6) (oSome (dBin (addD false) (dVar 9) (dC (.int 1)))) oNone))))))))))
@[irreducible] noncomputable def F__law_meeting : List D → M D := bodyF u__law_meeting 12
noncomputable def u__law_points_right : FS := (sSeq (sAsg (dBin (subD) (dCallB (arg1 lenD) (aCons (dBin ixD (dBin ixD (dBin ixD (dVar 1) (dC (.int 1))) (dC (.int 0))) (dC (.int 1))) aNil)) (dC (.int 1))) (gN 2))
  (sSeq (sFor (iRange1 (aCons (dC (.int 4)) aNil)) (gN 3)
  (sSeq (sAsg (dCall (lenF 2 F__law_meeting) (aCons (dVar 0) (aCons (dVar 1) aNil))) (gN 4))
  (sSeq (sAsg (dCall (lenF 2 F__law_ln_chosen) (aCons (dVar 1) (aCons (dVar 4) aNil))) (gN 5))
  (sSeq (sIf (bNot (toB (dCall (lenF 2 F__law_same) (aCons (dCall (permD [1, 0] F_chosen) (aCons (dVar 4) (aCons (dVar 1) aNil))) (aCons (dVar 5) aNil)))))
  (sRet (dC (.bl false)))
  sNext)
  (sFor (iSeq (dBin ixD (dVar 1) (dC (.int 1)))) (gT 2 (gsCons (gN 6) (gsCons (gN 7) gsNil)))
  (sSeq (sAsg (dCall (lenF 2 F__law_ln_limits) (aCons (dVar 1) (aCons (dVar 6) aNil))) (gN 8))
  (sIf (bOr (bNot (toB (dCall (lenF 2 F__law_same) (aCons (dCallM 1 [0, 1] F_region (aCons (dVar 1) aNil) (aCons (dVar 6) aNil)) (aCons (dTup (aCons (dC (.str "polyhedron")) (aCons (dVar 2) (aCons (dVar 8) aNil)))) aNil))))) (toB (dBin (eqD true) (dCall (lenF 2 F__law_ph_keeps) (aCons (dVar 8) (aCons (dVar 4) aNil))) (dBin (inT false) (dVar 6) (dVar 5)))))
  (sRet (dC (.bl false)))
  sNext)))))))
  (sRet (dC (.bl true)))))
@[irreducible] noncomputable def F__law_points_right : List D → M D := bodyF u__law_points_right 9
noncomputable def bs__law_refused : List FE := [(dCall (lenF 2 F_region) (aCons (dVar 2) (aCons (dC .non) aNil))),
  (dCall (lenF 2 F_chosen) (aCons (dVar 2) (aCons (dC .non) aNil))),
  (dCall (lenF 2 F_region) (aCons (dVar 1) (aCons (dVar 7) aNil))),
  (dCall (lenF 2 F_chosen) (aCons (dVar 1) (aCons (dVar 6) aNil)))]
noncomputable def u__law_refused : FS := (sSeq (sPar2 3 4 (aCons (dBin (subD) (dCallB (arg1 lenD) (aCons (dBin ixD (dBin ixD (dBin ixD (dVar 1) (dC (.int 1))) (dC (.int 0))) (dC (.int 1))) aNil)) (dC (.int 1))) (aCons (dLc false [8] (iSeq (dBin ixD (dVar 1) (dC (.int 1)))) (gN 8) bYes (dBin ixD (dVar 8) (dC (.int 0)))) aNil)))
  (sSeq (sAsg (dBin (mulD false) (dTup (aCons (dTup (aCons (dC (.int 0)) (aCons (dC (.int 1)) aNil))) aNil)) (dVar 3)) (gN 5))
  (sSeq (sAsg (dCall (lenF 2 F__law_pick) (aCons (dVar 0) (aCons (dLst false (aCons (dC .non) (aCons (dCallB (arg1 (listD false)) (aCons (dVar 5) aNil)) (aCons (dBin (addD false) (dVar 5) (dTup (aCons (dTup (aCons (dC (.int 0)) (aCons (dC (.int 1)) aNil))) aNil))) (aCons (dBin (mulD false) (dTup (aCons (dTup (aCons (dC (.int 2)) (aCons (dC (.int 4)) aNil))) aNil)) (dVar 3)) (aCons (dBin (mulD false) (dTup (aCons (dC (.int 0)) aNil)) (dVar 3)) (aCons (dTup aNil) aNil))))))) aNil))) (gN 6))
  (sSeq (sAsg (dCall (lenF 2 F__law_pick) (aCons (dVar 0) (aCons (dLst false (aCons (dC .non) (aCons (dC (.str "")) (aCons (dC (.int 5)) (aCons (dC (.str "A")) (aCons (dTup (aCons (dBin ixD (dVar 4) (dC (.int 0))) aNil)) (aCons (dBin (mulD false) (dC (.str "a")) (dC (.int 9))) aNil))))))) aNil))) (gN 7))
  (sSeq (sIf (bNot (toB (dCallB (arg2 (isiX subs)) (aCons (dCaught teach bs__law_refused (dC (.clo 3))) (aCons (dC (.fn "BadPoint")) aNil)))))
  (sRet (dC (.bl false)))
  sNext)
  (sSeq (sIf (bNot (toB (dCallB (arg2 (isiX subs)) (aCons (dCaught teach bs__law_refused (dC (.clo 2))) (aCons (dC (.fn "BadWord")) aNil)))))
  (sRet (dC (.bl false)))
  sNext)
  (sSeq (sIf (toB (dCall (lenF 1 F__law_is_lines) (aCons (dVar 2) aNil)))
  (sRet (dC (.bl true)))
  sNext)
  (sSeq (sIf (bNot (toB (dCallB (arg2 (isiX subs)) (aCons (dCaught teach bs__law_refused (dC (.clo 1))) (aCons (dC (.fn "BadLines")) aNil)))))
  (sRet (dC (.bl false)))
  sNext)
  (sRet (dCallB (arg2 (isiX subs)) (aCons (dCaught teach bs__law_refused (dC (.clo 0))) (aCons (dC (.fn "BadLines")) aNil))))))))))))
@[irreducible] noncomputable def F__law_refused : List D → M D := bodyN u__law_refused 9
noncomputable def u_law : FS := (sSeq (sAsg (dCall (lenF 1 F__law_begun) (aCons (dVar 0) aNil)) (gN 1))
  (sSeq (sFor (iRange1 (aCons (dBin (addD false) (dC (.int 10)) (dCallB (arg2 min2D) (aCons (dCallB (arg1 lenD) (aCons (dVar 0) aNil)) (aCons (dC (.int 8)) aNil)))) aNil)) (gN 2)
  (sSeq (sAsg (dCall (lenF 1 F__law_lines) (aCons (dVar 1) aNil)) (gN 3))
  (sSeq (sAsg (dCall (lenF 2 F__law_near) (aCons (dVar 1) (aCons (dVar 3) aNil))) (gN 4))
  (sSeq (sIf (bOr (bNot (toB (dCall (lenF 2 F__law_is_truth) (aCons (dCall (lenF 1 F_is_lines) (aCons (dVar 3) aNil)) (aCons (dC (.bl true)) aNil))))) (bNot (toB (dCall (lenF 2 F__law_is_truth) (aCons (dCall (permD [0] F_is_lines) (aCons (dVar 4) aNil)) (aCons (dCall (lenF 1 F__law_is_lines) (aCons (dVar 4) aNil)) aNil))))))
  (sRet (dC (.bl false)))
  sNext)
  (sIf (bOr (bNot (toB (dCall (lenF 2 F__law_points_right) (aCons (dVar 1) (aCons (dVar 3) aNil))))) (bNot (toB (dCall (lenF 3 F__law_refused) (aCons (dVar 1) (aCons (dVar 3) (aCons (dVar 4) aNil)))))))
  (sRet (dC (.bl false)))
  sNext)))))
  (sRet (dC (.bl true)))))
@[irreducible] noncomputable def F_law : List D → M D := bodyF u_law 5
end K90
end TL
end
section
/-! Printed by gen.py: the data functions of the law and their derivations. -/
namespace TL
namespace K90
open PySem PySem.Spec PyProof.Rows L2 Cm
open LamX (Tabs CodeO TabB LamS lamEnv lamCx lamS_by)
def top (i : Nat) : Stmt := PySem.Challenge.pw_taughtloss_k90_lines_and_what_they_choos.main.body.getD i (.Pass ⟨0, 0, 0, 0⟩)
def cfg : Cfg where
  top := top
  free := [("abs" : Str), ("all" : Str), ("any" : Str), ("bool" : Str), ("dict" : Str), ("int" : Str), ("isinstance" : Str), ("len" : Str), ("list" : Str), ("min" : Str), ("range" : Str), ("sorted" : Str), ("str" : Str), ("tuple" : Str), ("zip" : Str)]
  imps := [(("gcd" : Str), "math.gcd")]
  fns := [(("is_whole" : Str), (8 : Nat)), (("is_ratio" : Str), (9 : Nat)), (("lowest" : Str), (10 : Nat)), (("plus" : Str), (11 : Nat)), (("minus" : Str), (12 : Nat)), (("times" : Str), (13 : Nat)), (("is_less" : Str), (14 : Nat)), (("total" : Str), (15 : Nat)), (("greatest_of" : Str), (16 : Nat)), (("is_vector" : Str), (19 : Nat)), (("dot" : Str), (20 : Nat)), (("apart" : Str), (21 : Nat)), (("is_word" : Str), (24 : Nat)), (("is_line" : Str), (28 : Nat)), (("is_lines" : Str), (29 : Nat)), (("need_lines" : Str), (30 : Nat)), (("places_of_lines" : Str), (31 : Nat)), (("need_line_word" : Str), (32 : Nat)), (("worth_of" : Str), (33 : Nat)), (("greatest_words" : Str), (34 : Nat)), (("chosen" : Str), (35 : Nat)), (("limits_of" : Str), (36 : Nat)), (("region" : Str), (37 : Nat)), (("_law_begun" : Str), (39 : Nat)), (("_law_blended" : Str), (40 : Nat)), (("_law_draw" : Str), (41 : Nat)), (("_law_pick" : Str), (42 : Nat)), (("_law_caught" : Str), (43 : Nat)), (("_law_is_truth" : Str), (44 : Nat)), (("_law_same" : Str), (45 : Nat)), (("_law_q" : Str), (46 : Nat)), (("_law_plus" : Str), (47 : Nat)), (("_law_minus" : Str), (48 : Nat)), (("_law_times" : Str), (49 : Nat)), (("_law_over" : Str), (50 : Nat)), (("_law_less" : Str), (51 : Nat)), (("_law_sum" : Str), (52 : Nat)), (("_law_words" : Str), (53 : Nat)), (("_law_number" : Str), (54 : Nat)), (("_law_vector" : Str), (55 : Nat)), (("_law_dot" : Str), (56 : Nat)), (("_law_odd" : Str), (57 : Nat)), (("_law_ph_is_ratio" : Str), (58 : Nat)), (("_law_ph_is_vector" : Str), (59 : Nat)), (("_law_ph_keeps" : Str), (60 : Nat)), (("_law_ph_turned" : Str), (61 : Nat)), (("_law_ph_bent" : Str), (62 : Nat)), (("_law_ln_worths" : Str), (63 : Nat)), (("_law_ln_chosen" : Str), (64 : Nat)), (("_law_ln_limits" : Str), (65 : Nat)), (("_law_is_word" : Str), (66 : Nat)), (("_law_is_lines" : Str), (67 : Nat)), (("_law_lines" : Str), (68 : Nat)), (("_law_near" : Str), (69 : Nat)), (("_law_meeting" : Str), (70 : Nat)), (("_law_points_right" : Str), (71 : Nat)), (("_law_refused" : Str), (72 : Nat)), (("law" : Str), (73 : Nat))]
  consts := [("LETTERS", .str "abcdefghijklmnopqrstuvwxyz"), ("MOST", .int 200), ("MOST_LINES", .int 6), ("MOST_PLACES", .int 3), ("ZERO", .tup [0, 1])]
  excs := ["TeachError", "BadPoint", "BadWord", "BadLines"]
  exis := []
  subs := subs
  fok := fok
  teach := teach
  lamq := ["_law_refused"]
theorem catchF {P : Program} {w : World} {base : Heap} {R : RC} (V : Ev cfg P w base R) : ∃ g CT, CatchF R g CT (top 43) teach := by
  obtain ⟨f, fd, hm, Fu⟩ := V.fns 27 "_law_caught" 43 rfl
  obtain ⟨CT, t1, t2⟩ := V.teach
  exact ⟨f, CT, ⟨fd, Fu, Fu.binds (fun _ _ _ _ _ _ us hl => match us, hl with | [_], _ => rfl)⟩, hm, ⟨rfl, rfl, rfl, by decide +kernel, rfl, by decide +kernel, by decide +kernel⟩, ⟨_, _, _, _, _, _, _, _, _, _, _, _, _, _, _, rfl⟩, ⟨rfl, rfl, rfl, rfl⟩, t1, t2, V.eo⟩
theorem sc_is_whole : FnScope (["value"] : List Str) (["value"] : List Str) (defScope (top 8)) := ⟨rfl, rfl, rfl, by decide +kernel, rfl, by decide +kernel, by decide +kernel⟩
theorem d_is_whole {P : Program} {w : World} {base : Heap} {R : RC} (V : Ev cfg P w base R) : FnD P w base R "is_whole" 41 ["value"] (top 8) F_is_whole := by
  unfold F_is_whole
  exact V.def_ 0 rfl sc_is_whole (by decide) (fun _ _ _ _ _ _ us hl => match us, hl with | [_], _ => rfl) fun f cdv A outer s H E hr cx =>
  (dss_one (ds_ret (de_and cx (de_callB (call_isi_x cx V.xs0) (by rfl) (V.free 6 _ (by rfl)) (by rfl) (da_cons cx (de_var (i := 0)) (da_cons cx (de_ty (n := .int) (by rfl) (V.free 5 _ (by rfl)) (by rfl)) da_nil))) (de_one (de_not (de_callB (call_isi_x cx V.xs0) (by rfl) (V.free 6 _ (by rfl)) (by rfl) (da_cons cx (de_var (i := 0)) (da_cons cx (de_ty (n := .bool) (by rfl) (V.free 3 _ (by rfl)) (by rfl)) da_nil))))))))
theorem sc_is_ratio : FnScope (["value", "part"] : List Str) (["value"] : List Str) (defScope (top 9)) := ⟨rfl, rfl, rfl, by decide +kernel, rfl, by decide +kernel, by decide +kernel⟩
theorem d_is_ratio {P : Program} {w : World} {base : Heap} {R : RC} (V : Ev cfg P w base R) : FnD P w base R "is_ratio" 42 ["value"] (top 9) F_is_ratio := by
  unfold F_is_ratio
  exact V.def_ 1 rfl sc_is_ratio (by decide) (fun _ _ _ _ _ _ us hl => match us, hl with | [_], _ => rfl) fun f cdv A outer s H E hr cx =>
  (dss_cons (ds_if cx (DW.dt (dw_or cx (dt_not (dt_val (de_callB (call_isi_x cx V.xs0) (by rfl) (V.free 6 _ (by rfl)) (by rfl) (da_cons cx (de_var (i := 0)) (da_cons cx (de_ty (n := .tuple) (by rfl) (V.free 13 _ (by rfl)) (by rfl)) da_nil))))) (dw_or cx (dt_cmp cx (opd_ne cx cx.u64) (de_callB (call_len_d cx) (by rfl) (V.free 7 _ (by rfl)) (by rfl) (da_cons cx (de_var (i := 0)) da_nil)) de_int (by rfl)) (dw_or1 (dt_not (dt_val (de_callB (call_all_d cx) (by rfl) (V.free 1 _ (by rfl)) (by rfl) (da_cons cx (de_lc false [("part", 1)] cx (di_seq cx (de_var (i := 0))) (blkOk_by (by rfl)) (fun _ cx => (dgc_name cx)) (fun _ cx => dps_nil) (fun _ cx => (de_call cx (d_is_whole V) hr (by decide) (by rfl) (da_cons cx (de_var (i := 1)) da_nil)))) da_nil))))))))
  (dss_one (ds_ret de_bl))
  dss_nil)
  (dss_one (ds_ret (de_and cx (de_cmp cx opd_gt (de_ix cx (de_var (i := 0)) de_int) de_int (by rfl)) (de_one (de_cmp cx (opd_eq cx cx.u64) (de_callBfun call_gcd_d (by rfl) (V.imps 0 _ _ (by rfl)) (da_cons cx (de_ix cx (de_var (i := 0)) de_int) (da_cons cx (de_ix cx (de_var (i := 0)) de_int) da_nil))) de_int (by rfl)))))))
theorem sc_lowest : FnScope (["n", "d", "common"] : List Str) (["n", "d"] : List Str) (defScope (top 10)) := ⟨rfl, rfl, rfl, by decide +kernel, rfl, by decide +kernel, by decide +kernel⟩
theorem d_lowest {P : Program} {w : World} {base : Heap} {R : RC} (V : Ev cfg P w base R) : FnD P w base R "lowest" 41 ["n", "d"] (top 10) F_lowest := by
  unfold F_lowest
  exact V.def_ 2 rfl sc_lowest (by decide) (fun _ _ _ _ _ _ us hl => match us, hl with | [_, _], _ => rfl) fun f cdv A outer s H E hr cx =>
  (dss_cons (ds_set (i := 2) cx (de_if cx (dt_cmp cx opd_gt (de_var (i := 1)) de_int (by rfl)) (de_callBfun call_gcd_d (by rfl) (V.imps 0 _ _ (by rfl)) (da_cons cx (de_var (i := 0)) (da_cons cx (de_var (i := 1)) da_nil))) (de_neg (de_callBfun call_gcd_d (by rfl) (V.imps 0 _ _ (by rfl)) (da_cons cx (de_var (i := 0)) (da_cons cx (de_var (i := 1)) da_nil))))))
  (dss_one (ds_ret (de_tup cx (da_cons cx (de_op cx (opd_fdiv cx) (de_var (i := 0)) (de_var (i := 2))) (da_cons cx (de_op cx (opd_fdiv cx) (de_var (i := 1)) (de_var (i := 2))) da_nil))))))
theorem sc_plus : FnScope (["one", "other"] : List Str) (["one", "other"] : List Str) (defScope (top 11)) := ⟨rfl, rfl, rfl, by decide +kernel, rfl, by decide +kernel, by decide +kernel⟩
theorem d_plus {P : Program} {w : World} {base : Heap} {R : RC} (V : Ev cfg P w base R) : FnD P w base R "plus" 42 ["one", "other"] (top 11) F_plus := by
  unfold F_plus
  exact V.def_ 3 rfl sc_plus (by decide) (fun _ _ _ _ _ _ us hl => match us, hl with | [_, _], _ => rfl) fun f cdv A outer s H E hr cx =>
  (dss_one (ds_ret (de_call cx (d_lowest V) hr (by decide) (by rfl) (da_cons cx (de_op cx (opd_add false cx) (de_op cx (opd_mul false cx) (de_ix cx (de_var (i := 0)) de_int) (de_ix cx (de_var (i := 1)) de_int)) (de_op cx (opd_mul false cx) (de_ix cx (de_var (i := 1)) de_int) (de_ix cx (de_var (i := 0)) de_int))) (da_cons cx (de_op cx (opd_mul false cx) (de_ix cx (de_var (i := 0)) de_int) (de_ix cx (de_var (i := 1)) de_int)) da_nil)))))
theorem sc_minus : FnScope (["one", "other"] : List Str) (["one", "other"] : List Str) (defScope (top 12)) := ⟨rfl, rfl, rfl, by decide +kernel, rfl, by decide +kernel, by decide +kernel⟩
theorem d_minus {P : Program} {w : World} {base : Heap} {R : RC} (V : Ev cfg P w base R) : FnD P w base R "minus" 42 ["one", "other"] (top 12) F_minus := by
  unfold F_minus
  exact V.def_ 4 rfl sc_minus (by decide) (fun _ _ _ _ _ _ us hl => match us, hl with | [_, _], _ => rfl) fun f cdv A outer s H E hr cx =>
  (dss_one (ds_ret (de_call cx (d_lowest V) hr (by decide) (by rfl) (da_cons cx (de_op cx opd_sub (de_op cx (opd_mul false cx) (de_ix cx (de_var (i := 0)) de_int) (de_ix cx (de_var (i := 1)) de_int)) (de_op cx (opd_mul false cx) (de_ix cx (de_var (i := 1)) de_int) (de_ix cx (de_var (i := 0)) de_int))) (da_cons cx (de_op cx (opd_mul false cx) (de_ix cx (de_var (i := 0)) de_int) (de_ix cx (de_var (i := 1)) de_int)) da_nil)))))
theorem sc_times : FnScope (["one", "other"] : List Str) (["one", "other"] : List Str) (defScope (top 13)) := ⟨rfl, rfl, rfl, by decide +kernel, rfl, by decide +kernel, by decide +kernel⟩
theorem d_times {P : Program} {w : World} {base : Heap} {R : RC} (V : Ev cfg P w base R) : FnD P w base R "times" 42 ["one", "other"] (top 13) F_times := by
  unfold F_times
  exact V.def_ 5 rfl sc_times (by decide) (fun _ _ _ _ _ _ us hl => match us, hl with | [_, _], _ => rfl) fun f cdv A outer s H E hr cx =>
  (dss_one (ds_ret (de_call cx (d_lowest V) hr (by decide) (by rfl) (da_cons cx (de_op cx (opd_mul false cx) (de_ix cx (de_var (i := 0)) de_int) (de_ix cx (de_var (i := 1)) de_int)) (da_cons cx (de_op cx (opd_mul false cx) (de_ix cx (de_var (i := 0)) de_int) (de_ix cx (de_var (i := 1)) de_int)) da_nil)))))
theorem sc_is_less : FnScope (["one", "other"] : List Str) (["one", "other"] : List Str) (defScope (top 14)) := ⟨rfl, rfl, rfl, by decide +kernel, rfl, by decide +kernel, by decide +kernel⟩
theorem d_is_less {P : Program} {w : World} {base : Heap} {R : RC} (V : Ev cfg P w base R) : FnD P w base R "is_less" 41 ["one", "other"] (top 14) F_is_less := by
  unfold F_is_less
  exact V.def_ 6 rfl sc_is_less (by decide) (fun _ _ _ _ _ _ us hl => match us, hl with | [_, _], _ => rfl) fun f cdv A outer s H E hr cx =>
  (dss_one (ds_ret (de_cmp cx opd_lt (de_op cx (opd_mul false cx) (de_ix cx (de_var (i := 0)) de_int) (de_ix cx (de_var (i := 1)) de_int)) (de_op cx (opd_mul false cx) (de_ix cx (de_var (i := 1)) de_int) (de_ix cx (de_var (i := 0)) de_int)) (by rfl))))
theorem sc_total : FnScope (["ratios", "found", "each"] : List Str) (["ratios"] : List Str) (defScope (top 15)) := ⟨rfl, rfl, rfl, by decide +kernel, rfl, by decide +kernel, by decide +kernel⟩
theorem d_total {P : Program} {w : World} {base : Heap} {R : RC} (V : Ev cfg P w base R) : FnD P w base R "total" 43 ["ratios"] (top 15) F_total := by
  unfold F_total
  exact V.def_ 7 rfl sc_total (by decide) (fun _ _ _ _ _ _ us hl => match us, hl with | [_], _ => rfl) fun f cdv A outer s H E hr cx =>
  (dss_cons (ds_set (i := 1) cx (de_gl cx (by rfl) (V.glo 4 rfl)))
  (dss_cons (ds_for cx (di_seq cx (de_var (i := 0))) (dg_name cx)
  (dss_one (ds_set (i := 1) cx (de_call cx (d_plus V) hr (by decide) (by rfl) (da_cons cx (de_var (i := 1)) (da_cons cx (de_var (i := 2)) da_nil))))))
  (dss_one (ds_ret (de_var (i := 1))))))
theorem sc_greatest_of : FnScope (["ratios", "found", "each"] : List Str) (["ratios"] : List Str) (defScope (top 16)) := ⟨rfl, rfl, rfl, by decide +kernel, rfl, by decide +kernel, by decide +kernel⟩
theorem d_greatest_of {P : Program} {w : World} {base : Heap} {R : RC} (V : Ev cfg P w base R) : FnD P w base R "greatest_of" 42 ["ratios"] (top 16) F_greatest_of := by
  unfold F_greatest_of
  exact V.def_ 8 rfl sc_greatest_of (by decide) (fun _ _ _ _ _ _ us hl => match us, hl with | [_], _ => rfl) fun f cdv A outer s H E hr cx =>
  (dss_cons (ds_set (i := 1) cx (de_ix cx (de_var (i := 0)) de_int))
  (dss_cons (ds_for cx (di_seq cx (de_sl false cx (de_var (i := 0)) (do_some de_int) do_none)) (dg_name cx)
  (dss_one (ds_set (i := 1) cx (de_if cx (dt_val (de_call cx (d_is_less V) hr (by decide) (by rfl) (da_cons cx (de_var (i := 1)) (da_cons cx (de_var (i := 2)) da_nil)))) (de_var (i := 2)) (de_var (i := 1))))))
  (dss_one (ds_ret (de_var (i := 1))))))
theorem sc_is_vector : FnScope (["value", "part"] : List Str) (["value"] : List Str) (defScope (top 19)) := ⟨rfl, rfl, rfl, by decide +kernel, rfl, by decide +kernel, by decide +kernel⟩
theorem d_is_vector {P : Program} {w : World} {base : Heap} {R : RC} (V : Ev cfg P w base R) : FnD P w base R "is_vector" 43 ["value"] (top 19) F_is_vector := by
  unfold F_is_vector
  exact V.def_ 9 rfl sc_is_vector (by decide) (fun _ _ _ _ _ _ us hl => match us, hl with | [_], _ => rfl) fun f cdv A outer s H E hr cx =>
  (dss_one (ds_ret (de_and cx (de_callB (call_isi_x cx V.xs0) (by rfl) (V.free 6 _ (by rfl)) (by rfl) (da_cons cx (de_var (i := 0)) (da_cons cx (de_ty (n := .tuple) (by rfl) (V.free 13 _ (by rfl)) (by rfl)) da_nil))) (de_and cx (de_chain cx opd_le opd_le de_int (de_callB (call_len_d cx) (by rfl) (V.free 7 _ (by rfl)) (by rfl) (da_cons cx (de_var (i := 0)) da_nil)) (de_gl cx (by rfl) (V.glo 1 rfl))) (de_one (de_callB (call_all_d cx) (by rfl) (V.free 1 _ (by rfl)) (by rfl) (da_cons cx (de_lc false [("part", 1)] cx (di_seq cx (de_var (i := 0))) (blkOk_by (by rfl)) (fun _ cx => (dgc_name cx)) (fun _ cx => dps_nil) (fun _ cx => (de_call cx (d_is_ratio V) hr (by decide) (by rfl) (da_cons cx (de_var (i := 1)) da_nil)))) da_nil)))))))
theorem sc_dot : FnScope (["one", "other", "left", "right"] : List Str) (["one", "other"] : List Str) (defScope (top 20)) := ⟨rfl, rfl, rfl, by decide +kernel, rfl, by decide +kernel, by decide +kernel⟩
theorem d_dot {P : Program} {w : World} {base : Heap} {R : RC} (V : Ev cfg P w base R) : FnD P w base R "dot" 44 ["one", "other"] (top 20) F_dot := by
  unfold F_dot
  exact V.def_ 10 rfl sc_dot (by decide) (fun _ _ _ _ _ _ us hl => match us, hl with | [_, _], _ => rfl) fun f cdv A outer s H E hr cx =>
  (dss_one (ds_ret (de_call cx (d_total V) hr (by decide) (by rfl) (da_cons cx (de_lc false [("left", 2), ("right", 3)] cx (di_zip2 cx (by rfl) (V.free 14 _ (by rfl)) (da_cons cx (de_var (i := 0)) (da_cons cx (de_var (i := 1)) da_nil))) (blkOk_by (by rfl)) (fun _ cx => (dgc_tup 2 cx (dgsc_cons cx (dgc_name cx) (dgsc_cons cx (dgc_name cx) dgsc_nil)))) (fun _ cx => dps_nil) (fun _ cx => (de_call cx (d_times V) hr (by decide) (by rfl) (da_cons cx (de_var (i := 2)) (da_cons cx (de_var (i := 3)) da_nil))))) da_nil))))
theorem sc_apart : FnScope (["one", "other", "left", "right"] : List Str) (["one", "other"] : List Str) (defScope (top 21)) := ⟨rfl, rfl, rfl, by decide +kernel, rfl, by decide +kernel, by decide +kernel⟩
theorem d_apart {P : Program} {w : World} {base : Heap} {R : RC} (V : Ev cfg P w base R) : FnD P w base R "apart" 43 ["one", "other"] (top 21) F_apart := by
  unfold F_apart
  exact V.def_ 11 rfl sc_apart (by decide) (fun _ _ _ _ _ _ us hl => match us, hl with | [_, _], _ => rfl) fun f cdv A outer s H E hr cx =>
  (dss_one (ds_ret (de_callTy (call_tuple_d cx) (by rfl) (V.free 13 _ (by rfl)) (by rfl) (da_cons cx (de_lc false [("left", 2), ("right", 3)] cx (di_zip2 cx (by rfl) (V.free 14 _ (by rfl)) (da_cons cx (de_var (i := 0)) (da_cons cx (de_var (i := 1)) da_nil))) (blkOk_by (by rfl)) (fun _ cx => (dgc_tup 2 cx (dgsc_cons cx (dgc_name cx) (dgsc_cons cx (dgc_name cx) dgsc_nil)))) (fun _ cx => dps_nil) (fun _ cx => (de_call cx (d_minus V) hr (by decide) (by rfl) (da_cons cx (de_var (i := 2)) (da_cons cx (de_var (i := 3)) da_nil))))) da_nil))))
theorem sc_is_word : FnScope (["value", "letter"] : List Str) (["value"] : List Str) (defScope (top 24)) := ⟨rfl, rfl, rfl, by decide +kernel, rfl, by decide +kernel, by decide +kernel⟩
theorem d_is_word {P : Program} {w : World} {base : Heap} {R : RC} (V : Ev cfg P w base R) : FnD P w base R "is_word" 41 ["value"] (top 24) F_is_word := by
  unfold F_is_word
  exact V.def_ 12 rfl sc_is_word (by decide) (fun _ _ _ _ _ _ us hl => match us, hl with | [_], _ => rfl) fun f cdv A outer s H E hr cx =>
  (dss_one (ds_ret (de_and cx (de_callB (call_isi_x cx V.xs0) (by rfl) (V.free 6 _ (by rfl)) (by rfl) (da_cons cx (de_var (i := 0)) (da_cons cx (de_ty (n := .str) (by rfl) (V.free 12 _ (by rfl)) (by rfl)) da_nil))) (de_and cx (de_chain cx opd_le opd_le de_int (de_callB (call_len_d cx) (by rfl) (V.free 7 _ (by rfl)) (by rfl) (da_cons cx (de_var (i := 0)) da_nil)) de_int) (de_one (de_callB (call_all_d cx) (by rfl) (V.free 1 _ (by rfl)) (by rfl) (da_cons cx (de_lc false [("letter", 1)] cx (di_seq cx (de_var (i := 0))) (blkOk_by (by rfl)) (fun _ cx => (dgc_name cx)) (fun _ cx => dps_nil) (fun _ cx => (de_cmp cx (opd_in cx cx.un) (de_var (i := 1)) (de_gl cx (by rfl) (V.glo 0 rfl)) (by rfl)))) da_nil)))))))
theorem sc_is_line : FnScope (["value"] : List Str) (["value"] : List Str) (defScope (top 28)) := ⟨rfl, rfl, rfl, by decide +kernel, rfl, by decide +kernel, by decide +kernel⟩
theorem d_is_line {P : Program} {w : World} {base : Heap} {R : RC} (V : Ev cfg P w base R) : FnD P w base R "is_line" 44 ["value"] (top 28) F_is_line := by
  unfold F_is_line
  exact V.def_ 13 rfl sc_is_line (by decide) (fun _ _ _ _ _ _ us hl => match us, hl with | [_], _ => rfl) fun f cdv A outer s H E hr cx =>
  (dss_cons (ds_if cx (DW.dt (dw_or cx (dt_not (dt_val (de_callB (call_isi_x cx V.xs0) (by rfl) (V.free 6 _ (by rfl)) (by rfl) (da_cons cx (de_var (i := 0)) (da_cons cx (de_ty (n := .tuple) (by rfl) (V.free 13 _ (by rfl)) (by rfl)) da_nil))))) (dw_or cx (dt_cmp cx (opd_ne cx cx.u64) (de_callB (call_len_d cx) (by rfl) (V.free 7 _ (by rfl)) (by rfl) (da_cons cx (de_var (i := 0)) da_nil)) de_int (by rfl)) (dw_or cx (dt_not (dt_val (de_call cx (d_is_word V) hr (by decide) (by rfl) (da_cons cx (de_ix cx (de_var (i := 0)) de_int) da_nil)))) (dw_or1 (dt_not (dt_val (de_call cx (d_is_vector V) hr (by decide) (by rfl) (da_cons cx (de_ix cx (de_var (i := 0)) de_int) da_nil)))))))))
  (dss_one (ds_ret de_bl))
  dss_nil)
  (dss_one (ds_ret (de_chain cx opd_le opd_le de_int (de_callB (call_len_d cx) (by rfl) (V.free 7 _ (by rfl)) (by rfl) (da_cons cx (de_ix cx (de_var (i := 0)) de_int) da_nil)) (de_op cx (opd_add false cx) (de_gl cx (by rfl) (V.glo 3 rfl)) de_int)))))
theorem sc_is_lines : FnScope (["value", "rows", "row", "at"] : List Str) (["value"] : List Str) (defScope (top 29)) := ⟨rfl, rfl, rfl, by decide +kernel, rfl, by decide +kernel, by decide +kernel⟩
theorem d_is_lines {P : Program} {w : World} {base : Heap} {R : RC} (V : Ev cfg P w base R) : FnD P w base R "is_lines" 45 ["value"] (top 29) F_is_lines := by
  unfold F_is_lines
  exact V.def_ 14 rfl sc_is_lines (by decide) (fun _ _ _ _ _ _ us hl => match us, hl with | [_], _ => rfl) fun f cdv A outer s H E hr cx =>
  (dss_cons (ds_if cx (DW.dt (dw_or cx (dt_not (dt_val (de_callB (call_isi_x cx V.xs0) (by rfl) (V.free 6 _ (by rfl)) (by rfl) (da_cons cx (de_var (i := 0)) (da_cons cx (de_ty (n := .tuple) (by rfl) (V.free 13 _ (by rfl)) (by rfl)) da_nil))))) (dw_or cx (dt_cmp cx (opd_ne cx cx.u64) (de_callB (call_len_d cx) (by rfl) (V.free 7 _ (by rfl)) (by rfl) (da_cons cx (de_var (i := 0)) da_nil)) de_int (by rfl)) (dw_or cx (dt_not (dt_val (de_callB (call_isi_x cx V.xs0) (by rfl) (V.free 6 _ (by rfl)) (by rfl) (da_cons cx (de_ix cx (de_var (i := 0)) de_int) (da_cons cx (de_ty (n := .str) (by rfl) (V.free 12 _ (by rfl)) (by rfl)) da_nil))))) (dw_or1 (dt_cmp cx (opd_ne cx cx.u64) (de_ix cx (de_var (i := 0)) de_int) de_str (by rfl)))))))
  (dss_one (ds_ret de_bl))
  dss_nil)
  (dss_cons (ds_set (i := 1) cx (de_ix cx (de_var (i := 0)) de_int))
  (dss_cons (ds_if cx (DW.dt (dw_or cx (dt_not (dt_val (de_callB (call_isi_x cx V.xs0) (by rfl) (V.free 6 _ (by rfl)) (by rfl) (da_cons cx (de_var (i := 1)) (da_cons cx (de_ty (n := .tuple) (by rfl) (V.free 13 _ (by rfl)) (by rfl)) da_nil))))) (dw_or cx (dt_not (dt_chain cx opd_le opd_le de_int (de_callB (call_len_d cx) (by rfl) (V.free 7 _ (by rfl)) (by rfl) (da_cons cx (de_var (i := 1)) da_nil)) (de_gl cx (by rfl) (V.glo 2 rfl)))) (dw_or1 (dt_not (dt_val (de_callB (call_all_d cx) (by rfl) (V.free 1 _ (by rfl)) (by rfl) (da_cons cx (de_lc false [("row", 2)] cx (di_seq cx (de_var (i := 1))) (blkOk_by (by rfl)) (fun _ cx => (dgc_name cx)) (fun _ cx => dps_nil) (fun _ cx => (de_call cx (d_is_line V) hr (by decide) (by rfl) (da_cons cx (de_var (i := 2)) da_nil)))) da_nil))))))))
  (dss_one (ds_ret de_bl))
  dss_nil)
  (dss_cons (ds_if cx (dt_val (de_callB (call_any_d cx) (by rfl) (V.free 2 _ (by rfl)) (by rfl) (da_cons cx (de_lc false [("row", 2)] cx (di_seq cx (de_var (i := 1))) (blkOk_by (by rfl)) (fun _ cx => (dgc_name cx)) (fun _ cx => dps_nil) (fun _ cx => (de_cmp cx (opd_ne cx cx.u64) (de_callB (call_len_d cx) (by rfl) (V.free 7 _ (by rfl)) (by rfl) (da_cons cx (de_ix cx (de_var (i := 2)) de_int) da_nil)) (de_callB (call_len_d cx) (by rfl) (V.free 7 _ (by rfl)) (by rfl) (da_cons cx (de_ix cx (de_ix cx (de_var (i := 1)) de_int) de_int) da_nil)) (by rfl)))) da_nil)))
  (dss_one (ds_ret de_bl))
  dss_nil)
  (dss_one (ds_ret (de_callB (call_all_d cx) (by rfl) (V.free 1 _ (by rfl)) (by rfl) (da_cons cx (de_lc false [("at", 3)] cx (di_range1 (by rfl) (V.free 10 _ (by rfl)) (da_cons cx (de_op cx opd_sub (de_callB (call_len_d cx) (by rfl) (V.free 7 _ (by rfl)) (by rfl) (da_cons cx (de_var (i := 1)) da_nil)) de_int) da_nil)) (blkOk_by (by rfl)) (fun _ cx => (dgc_name cx)) (fun _ cx => dps_nil) (fun _ cx => (de_cmp cx opd_ltA (de_ix cx (de_ix cx (de_var (i := 1)) (de_var (i := 3))) de_int) (de_ix cx (de_ix cx (de_var (i := 1)) (de_op cx (opd_add false cx) (de_var (i := 3)) de_int)) de_int) (by rfl)))) da_nil))))))))
theorem sc_need_lines : FnScope (["value"] : List Str) (["value"] : List Str) (defScope (top 30)) := ⟨rfl, rfl, rfl, by decide +kernel, rfl, by decide +kernel, by decide +kernel⟩
theorem d_need_lines {P : Program} {w : World} {base : Heap} {R : RC} (V : Ev cfg P w base R) : FnD P w base R "need_lines" 46 ["value"] (top 30) F_need_lines := by
  unfold F_need_lines
  exact V.def_ 15 rfl sc_need_lines (by decide) (fun _ _ _ _ _ _ us hl => match us, hl with | [_], _ => rfl) fun f cdv A outer s H E hr cx =>
  (dss_one (ds_if cx (dt_not (dt_val (de_call cx (d_is_lines V) hr (by decide) (by rfl) (da_cons cx (de_var (i := 0)) da_nil))))
  (dss_one (V.raise 3 rfl cx (by rfl) de_str))
  dss_nil))
theorem sc_places_of_lines : FnScope (["lines"] : List Str) (["lines"] : List Str) (defScope (top 31)) := ⟨rfl, rfl, rfl, by decide +kernel, rfl, by decide +kernel, by decide +kernel⟩
theorem d_places_of_lines {P : Program} {w : World} {base : Heap} {R : RC} (V : Ev cfg P w base R) : FnD P w base R "places_of_lines" 41 ["lines"] (top 31) F_places_of_lines := by
  unfold F_places_of_lines
  exact V.def_ 16 rfl sc_places_of_lines (by decide) (fun _ _ _ _ _ _ us hl => match us, hl with | [_], _ => rfl) fun f cdv A outer s H E hr cx =>
  (dss_one (ds_ret (de_op cx opd_sub (de_callB (call_len_d cx) (by rfl) (V.free 7 _ (by rfl)) (by rfl) (da_cons cx (de_ix cx (de_ix cx (de_ix cx (de_var (i := 0)) de_int) de_int) de_int) da_nil)) de_int)))
theorem sc_need_line_word : FnScope (["lines", "word", "row"] : List Str) (["lines", "word"] : List Str) (defScope (top 32)) := ⟨rfl, rfl, rfl, by decide +kernel, rfl, by decide +kernel, by decide +kernel⟩
theorem d_need_line_word {P : Program} {w : World} {base : Heap} {R : RC} (V : Ev cfg P w base R) : FnD P w base R "need_line_word" 42 ["lines", "word"] (top 32) F_need_line_word := by
  unfold F_need_line_word
  exact V.def_ 17 rfl sc_need_line_word (by decide) (fun _ _ _ _ _ _ us hl => match us, hl with | [_, _], _ => rfl) fun f cdv A outer s H E hr cx =>
  (dss_one (ds_if cx (DW.dt (dw_or cx (dt_not (dt_val (de_call cx (d_is_word V) hr (by decide) (by rfl) (da_cons cx (de_var (i := 1)) da_nil)))) (dw_or1 (dt_cmp cx (opd_notin cx cx.un) (de_var (i := 1)) (de_lc false [("row", 2)] cx (di_seq cx (de_ix cx (de_var (i := 0)) de_int)) (blkOk_by (by rfl)) (fun _ cx => (dgc_name cx)) (fun _ cx => dps_nil) (fun _ cx => (de_ix cx (de_var (i := 2)) de_int))) (by rfl)))))
  (dss_one (V.raise 2 rfl cx (by rfl) de_str))
  dss_nil))
theorem sc_worth_of : FnScope (["f", "point"] : List Str) (["f", "point"] : List Str) (defScope (top 33)) := ⟨rfl, rfl, rfl, by decide +kernel, rfl, by decide +kernel, by decide +kernel⟩
theorem d_worth_of {P : Program} {w : World} {base : Heap} {R : RC} (V : Ev cfg P w base R) : FnD P w base R "worth_of" 45 ["f", "point"] (top 33) F_worth_of := by
  unfold F_worth_of
  exact V.def_ 18 rfl sc_worth_of (by decide) (fun _ _ _ _ _ _ us hl => match us, hl with | [_, _], _ => rfl) fun f cdv A outer s H E hr cx =>
  (dss_one (ds_ret (de_call cx (d_plus V) hr (by decide) (by rfl) (da_cons cx (de_call cx (d_dot V) hr (by decide) (by rfl) (da_cons cx (de_sl false cx (de_var (i := 0)) do_none (do_some (de_neg de_int))) (da_cons cx (de_var (i := 1)) da_nil))) (da_cons cx (de_ix cx (de_var (i := 0)) (de_neg de_int)) da_nil)))))
theorem sc_greatest_words : FnScope (["lines", "point", "worths", "high", "word", "f", "row", "worth"] : List Str) (["lines", "point"] : List Str) (defScope (top 34)) := ⟨rfl, rfl, rfl, by decide +kernel, rfl, by decide +kernel, by decide +kernel⟩
theorem d_greatest_words {P : Program} {w : World} {base : Heap} {R : RC} (V : Ev cfg P w base R) : FnD P w base R "greatest_words" 46 ["lines", "point"] (top 34) F_greatest_words := by
  unfold F_greatest_words
  exact V.def_ 19 rfl sc_greatest_words (by decide) (fun _ _ _ _ _ _ us hl => match us, hl with | [_, _], _ => rfl) fun f cdv A outer s H E hr cx =>
  (dss_cons (ds_setLc (i := 2) false [("word", 4), ("f", 5)] cx (di_seq cx (de_ix cx (de_var (i := 0)) de_int)) (blkOk_by (by rfl)) (fun _ cx => (dgc_tup 2 cx (dgsc_cons cx (dgc_name cx) (dgsc_cons cx (dgc_name cx) dgsc_nil)))) (fun _ cx => dps_nil) (fun _ cx => (de_call cx (d_worth_of V) hr (by decide) (by rfl) (da_cons cx (de_var (i := 5)) (da_cons cx (de_var (i := 1)) da_nil)))))
  (dss_cons (ds_set (i := 3) cx (de_call cx (d_greatest_of V) hr (by decide) (by rfl) (da_cons cx (de_var (i := 2)) da_nil)))
  (dss_one (ds_ret (de_callTy (call_tuple_d cx) (by rfl) (V.free 13 _ (by rfl)) (by rfl) (da_cons cx (de_lc false [("row", 6), ("worth", 7)] cx (di_zip2 cx (by rfl) (V.free 14 _ (by rfl)) (da_cons cx (de_ix cx (de_var (i := 0)) de_int) (da_cons cx (de_var (i := 2)) da_nil))) (blkOk_by (by rfl)) (fun _ cx => (dgc_tup 2 cx (dgsc_cons cx (dgc_name cx) (dgsc_cons cx (dgc_name cx) dgsc_nil)))) (fun _ cx => (dps_one (dt_cmp cx (opd_eq cx cx.u64) (de_var (i := 7)) (de_var (i := 3)) (by rfl)))) (fun _ cx => (de_ix cx (de_var (i := 6)) de_int))) da_nil))))))
theorem sc_chosen : FnScope (["lines", "point"] : List Str) (["lines", "point"] : List Str) (defScope (top 35)) := ⟨rfl, rfl, rfl, by decide +kernel, rfl, by decide +kernel, by decide +kernel⟩
theorem d_chosen {P : Program} {w : World} {base : Heap} {R : RC} (V : Ev cfg P w base R) : FnD P w base R "chosen" 47 ["lines", "point"] (top 35) F_chosen := by
  unfold F_chosen
  exact V.def_ 20 rfl sc_chosen (by decide) (fun _ _ _ _ _ _ us hl => match us, hl with | [_, _], _ => rfl) fun f cdv A outer s H E hr cx =>
  (dss_cons (ds_expr cx (de_call cx (d_need_lines V) hr (by decide) (by rfl) (da_cons cx (de_var (i := 0)) da_nil)))
  (dss_cons (ds_if cx (DW.dt (dw_or cx (dt_not (dt_val (de_call cx (d_is_vector V) hr (by decide) (by rfl) (da_cons cx (de_var (i := 1)) da_nil)))) (dw_or1 (dt_cmp cx (opd_ne cx cx.u64) (de_callB (call_len_d cx) (by rfl) (V.free 7 _ (by rfl)) (by rfl) (da_cons cx (de_var (i := 1)) da_nil)) (de_call cx (d_places_of_lines V) hr (by decide) (by rfl) (da_cons cx (de_var (i := 0)) da_nil)) (by rfl)))))
  (dss_one (V.raise 1 rfl cx (by rfl) de_str))
  dss_nil)
  (dss_one (ds_ret (de_call cx (d_greatest_words V) hr (by decide) (by rfl) (da_cons cx (de_var (i := 0)) (da_cons cx (de_var (i := 1)) da_nil)))))))
theorem sc_limits_of : FnScope (["lines", "word", "own", "found", "other", "f"] : List Str) (["lines", "word"] : List Str) (defScope (top 36)) := ⟨rfl, rfl, rfl, by decide +kernel, rfl, by decide +kernel, by decide +kernel⟩
theorem d_limits_of {P : Program} {w : World} {base : Heap} {R : RC} (V : Ev cfg P w base R) : FnD P w base R "limits_of" 44 ["lines", "word"] (top 36) F_limits_of := by
  unfold F_limits_of
  exact V.defT 21 rfl sc_limits_of (by decide) (fun _ _ _ _ _ _ us hl => match us, hl with | [_, _], _ => rfl) fun f cdv A outer s H E hr cx =>
  (dss_cons (ds_set (i := 2) cx (de_ix cx (de_lc false [("other", 4), ("f", 5)] cx (di_seq cx (de_ix cx (de_var (i := 0)) de_int)) (blkOk_by (by rfl)) (fun _ cx => (dgc_tup 2 cx (dgsc_cons cx (dgc_name cx) (dgsc_cons cx (dgc_name cx) dgsc_nil)))) (fun _ cx => (dps_one (dt_cmp cx (opd_eq cx cx.u64) (de_var (i := 4)) (de_var (i := 1)) (by rfl)))) (fun _ cx => (de_var (i := 5)))) de_int))
  (dss_cons (ds_set (i := 3) cx (de_lst true cx da_nil))
  (dss_cons (ds_for cx (di_seq cx (de_ix cx (de_var (i := 0)) de_int)) (dg_tup 2 cx (dgs_cons cx (dg_name cx) (dgs_cons cx (dg_name cx) dgs_nil)))
  (dss_one (ds_if cx (dt_cmp cx (opd_ne cx cx.u64) (de_var (i := 4)) (de_var (i := 1)) (by rfl))
  (dss_one (ds_expr cx (de_meth (PySem.F.plainAttrs_list) PySem.F.slot_list_append PySem.F.type_list_append cx (mt_append_d cx) (de_var (i := 3)) (da_cons cx (de_tup cx (da_cons cx (de_call cx (d_apart V) hr (by decide) (by rfl) (da_cons cx (de_sl false cx (de_var (i := 2)) do_none (do_some (de_neg de_int))) (da_cons cx (de_sl false cx (de_var (i := 5)) do_none (do_some (de_neg de_int))) da_nil))) (da_cons cx (de_call cx (d_minus V) hr (by decide) (by rfl) (da_cons cx (de_ix cx (de_var (i := 5)) (de_neg de_int)) (da_cons cx (de_ix cx (de_var (i := 2)) (de_neg de_int)) da_nil))) da_nil))) da_nil))))
  dss_nil)))
  (dss_one (ds_ret (de_callTy (call_tuple_d cx) (by rfl) (V.free 13 _ (by rfl)) (by rfl) (da_cons cx (de_var (i := 3)) da_nil)))))))
theorem sc_region : FnScope (["lines", "word"] : List Str) (["lines", "word"] : List Str) (defScope (top 37)) := ⟨rfl, rfl, rfl, by decide +kernel, rfl, by decide +kernel, by decide +kernel⟩
theorem d_region {P : Program} {w : World} {base : Heap} {R : RC} (V : Ev cfg P w base R) : FnD P w base R "region" 47 ["lines", "word"] (top 37) F_region := by
  unfold F_region
  exact V.def_ 22 rfl sc_region (by decide) (fun _ _ _ _ _ _ us hl => match us, hl with | [_, _], _ => rfl) fun f cdv A outer s H E hr cx =>
  (dss_cons (ds_expr cx (de_call cx (d_need_lines V) hr (by decide) (by rfl) (da_cons cx (de_var (i := 0)) da_nil)))
  (dss_cons (ds_expr cx (de_call cx (d_need_line_word V) hr (by decide) (by rfl) (da_cons cx (de_var (i := 0)) (da_cons cx (de_var (i := 1)) da_nil))))
  (dss_one (ds_ret (de_tup cx (da_cons cx de_str (da_cons cx (de_call cx (d_places_of_lines V) hr (by decide) (by rfl) (da_cons cx (de_var (i := 0)) da_nil)) (da_cons cx (de_call cx (d_limits_of V) hr (by decide) (by rfl) (da_cons cx (de_var (i := 0)) (da_cons cx (de_var (i := 1)) da_nil))) da_nil))))))))
theorem sc__law_begun : FnScope (["script", "great", "cell"] : List Str) (["script"] : List Str) (defScope (top 39)) := ⟨rfl, rfl, rfl, by decide +kernel, rfl, by decide +kernel, by decide +kernel⟩
theorem d__law_begun {P : Program} {w : World} {base : Heap} {R : RC} (V : Ev cfg P w base R) : FnD P w base R "_law_begun" 41 ["script"] (top 39) F__law_begun := by
  unfold F__law_begun
  exact V.def_ 23 rfl sc__law_begun (by decide) (fun _ _ _ _ _ _ us hl => match us, hl with | [_], _ => rfl) fun f cdv A outer s H E hr cx =>
  (dss_begun (i := 1) cx (ds_setLc (i := 1) true [("cell", 2)] cx (di_seq cx (de_var (i := 0))) (blkOk_by (by rfl)) (fun _ cx => (dgc_name cx)) (fun _ cx => (dps_one (dt_cmp cx opd_ge (de_callB call_abs_d (by rfl) (V.free 0 _ (by rfl)) (by rfl) (da_cons cx (de_var (i := 2)) da_nil)) (de_op cx opd_powW de_int de_int) (by rfl)))) (fun _ cx => (de_op cx opd_sub (de_callB call_abs_d (by rfl) (V.free 0 _ (by rfl)) (by rfl) (da_cons cx (de_var (i := 2)) da_nil)) (de_op cx opd_powW de_int de_int)))) (by rfl) (Or.inl (by rfl)) (de_lc false [("cell", 2)] cx (di_seq cx (de_var (i := 0))) (blkOk_by (by rfl)) (fun _ cx => (dgc_name cx)) (fun _ cx => dps_nil) (fun _ cx => (de_callB call_abs_d (by rfl) (V.free 0 _ (by rfl)) (by rfl) (da_cons cx (de_var (i := 2)) da_nil)))))
theorem sc__law_blended : FnScope (["state", "turn", "found", "prime", "blend", "cell"] : List Str) (["state"] : List Str) (defScope (top 40)) := ⟨rfl, rfl, rfl, by decide +kernel, rfl, by decide +kernel, by decide +kernel⟩
theorem d__law_blended {P : Program} {w : World} {base : Heap} {R : RC} (V : Ev cfg P w base R) : FnD P w base R "_law_blended" 41 ["state"] (top 40) F__law_blended := by
  unfold F__law_blended
  exact V.def_ 24 rfl sc__law_blended (by decide) (fun _ _ _ _ _ _ us hl => match us, hl with | [_], _ => rfl) fun f cdv A outer s H E hr cx =>
  (dss_cons (ds_par2 (i := 1) (j := 2) cx (da_cons cx (de_op cx (opd_add false cx) (de_ixDr cx cx.u1 (de_var (i := 0)) de_str) de_int) (da_cons cx de_int da_nil)))
  (dss_cons (ds_asg cx (de_var (i := 1)) (dg_subDr cx cx.u1 (de_var (i := 0)) de_str (fun _ => rfl)))
  (dss_cons (ds_for cx (di_seq cx (de_lst false cx (da_cons cx de_int (da_cons cx de_int (da_cons cx de_int da_nil))))) (dg_name cx)
  (dss_cons (ds_set (i := 4) cx (de_op cx (opd_add false cx) (de_op cx (opd_mul false cx) de_int (de_var (i := 1))) (de_op cx (opd_fdiv cx) (de_var (i := 3)) de_int)))
  (dss_cons (ds_for cx (di_seq cx (de_ixDr cx cx.u1 (de_var (i := 0)) de_str)) (dg_name cx)
  (dss_one (ds_set (i := 4) cx (de_op cx opd_mod (de_callTy call_int_d (by rfl) (V.free 5 _ (by rfl)) (by rfl) (da_cons cx (de_op cx (opd_add false cx) (de_op cx (opd_add false cx) (de_op cx (opd_mul false cx) (de_var (i := 4)) de_int) (de_var (i := 5))) (de_var (i := 1))) da_nil)) (de_var (i := 3))))))
  (dss_one (ds_set (i := 2) cx (de_op cx (opd_add false cx) (de_op cx (opd_mul false cx) (de_var (i := 2)) de_int) (de_op cx opd_mod (de_callTy call_int_d (by rfl) (V.free 5 _ (by rfl)) (by rfl) (da_cons cx (de_op cx opd_powW (de_var (i := 4)) de_int) da_nil)) (de_var (i := 3)))))))))
  (dss_one (ds_ret (de_var (i := 2)))))))
theorem sc__law_draw : FnScope (["state", "room", "found"] : List Str) (["state", "room"] : List Str) (defScope (top 41)) := ⟨rfl, rfl, rfl, by decide +kernel, rfl, by decide +kernel, by decide +kernel⟩
theorem d__law_draw {P : Program} {w : World} {base : Heap} {R : RC} (V : Ev cfg P w base R) : FnD P w base R "_law_draw" 42 ["state", "room"] (top 41) F__law_draw := by
  unfold F__law_draw
  exact V.def_ 25 rfl sc__law_draw (by decide) (fun _ _ _ _ _ _ us hl => match us, hl with | [_, _], _ => rfl) fun f cdv A outer s H E hr cx =>
  (dss_cons (ds_if cx (dt_cmp cx (opd_eq cx cx.u64) (de_ixDr cx cx.u1 (de_var (i := 0)) de_str) de_int (by rfl))
  (dss_one (ds_asg cx (de_if cx (dt_cmp cx (opd_ne cx cx.u64) (de_ixDr cx cx.u1 (de_var (i := 0)) de_str) (de_lst false cx da_nil) (by rfl)) (de_meth (PySem.F.plainAttrs_list) PySem.F.slot_list_pop PySem.F.type_list_pop cx (mt_popAt_d cx) (de_ixDr cx cx.u1 (de_var (i := 0)) de_str) (da_cons cx de_int da_nil)) (de_call cx (d__law_blended V) hr (by decide) (by rfl) (da_cons cx (de_var (i := 0)) da_nil))) (dg_subDr cx cx.u1 (de_var (i := 0)) de_str (fun _ => rfl))))
  dss_nil)
  (dss_cons (ds_set (i := 2) cx (de_op cx opd_mod (de_callTy call_int_d (by rfl) (V.free 5 _ (by rfl)) (by rfl) (da_cons cx (de_ixDr cx cx.u1 (de_var (i := 0)) de_str) da_nil)) (de_var (i := 1))))
  (dss_cons (ds_asg cx (de_op cx (opd_fdiv cx) (de_ixDr cx cx.u1 (de_var (i := 0)) de_str) (de_var (i := 1))) (dg_subDr cx cx.u1 (de_var (i := 0)) de_str (fun _ => rfl)))
  (dss_one (ds_ret (de_var (i := 2)))))))
theorem sc__law_pick : FnScope (["state", "some"] : List Str) (["state", "some"] : List Str) (defScope (top 42)) := ⟨rfl, rfl, rfl, by decide +kernel, rfl, by decide +kernel, by decide +kernel⟩
theorem d__law_pick {P : Program} {w : World} {base : Heap} {R : RC} (V : Ev cfg P w base R) : FnD P w base R "_law_pick" 43 ["state", "some"] (top 42) F__law_pick := by
  unfold F__law_pick
  exact V.def_ 26 rfl sc__law_pick (by decide) (fun _ _ _ _ _ _ us hl => match us, hl with | [_, _], _ => rfl) fun f cdv A outer s H E hr cx =>
  (dss_one (ds_ret (de_ix cx (de_var (i := 1)) (de_call cx (d__law_draw V) hr (by decide) (by rfl) (da_cons cx (de_var (i := 0)) (da_cons cx (de_callB (call_len_d cx) (by rfl) (V.free 7 _ (by rfl)) (by rfl) (da_cons cx (de_var (i := 1)) da_nil)) da_nil))))))
theorem sc__law_is_truth : FnScope (["found", "due"] : List Str) (["found", "due"] : List Str) (defScope (top 44)) := ⟨rfl, rfl, rfl, by decide +kernel, rfl, by decide +kernel, by decide +kernel⟩
theorem d__law_is_truth {P : Program} {w : World} {base : Heap} {R : RC} (V : Ev cfg P w base R) : FnD P w base R "_law_is_truth" 41 ["found", "due"] (top 44) F__law_is_truth := by
  unfold F__law_is_truth
  exact V.def_ 28 rfl sc__law_is_truth (by decide) (fun _ _ _ _ _ _ us hl => match us, hl with | [_, _], _ => rfl) fun f cdv A outer s H E hr cx =>
  (dss_one (ds_ret (de_if cx (dt_val (de_var (i := 1))) (de_cmp cx opd_is (de_var (i := 0)) de_bl (by rfl)) (de_cmp cx opd_is (de_var (i := 0)) de_bl (by rfl)))))
theorem sc__law_same : FnScope (["found", "due", "waiting", "one", "other", "alike", "key", "left", "right"] : List Str) (["found", "due"] : List Str) (defScope (top 45)) := ⟨rfl, rfl, rfl, by decide +kernel, rfl, by decide +kernel, by decide +kernel⟩
theorem d__law_same {P : Program} {w : World} {base : Heap} {R : RC} (V : Ev cfg P w base R) : FnD P w base R "_law_same" 42 ["found", "due"] (top 45) F__law_same := by
  unfold F__law_same
  exact V.defT 29 rfl sc__law_same (by decide) (fun _ _ _ _ _ _ us hl => match us, hl with | [_, _], _ => rfl) fun f cdv A outer s H E hr cx =>
  (dss_cons (ds_set (i := 2) cx (de_lst true cx (da_cons cx (de_tup cx (da_cons cx (de_var (i := 0)) (da_cons cx (de_var (i := 1)) da_nil))) da_nil)))
  (dss_cons (ds_while cx (dt_cmp cx (opd_ne cx cx.u64) (de_var (i := 2)) (de_lst false cx da_nil) (by rfl))
  (dss_cons (ds_asg cx (de_meth0 (PySem.F.plainAttrs_list) PySem.F.slot_list_pop PySem.F.type_list_pop cx (mt_pop_d cx) (de_var (i := 2))) (dg_tup 2 cx (dgs_cons cx (dg_name cx) (dgs_cons cx (dg_name cx) dgs_nil))))
  (dss_one (ds_if cx (DW.dt (dw_or cx (dt_cmp cx opd_is (de_var (i := 4)) de_non (by rfl)) (dw_or1 (dt_val (de_callB (call_isi_x cx V.xs0) (by rfl) (V.free 6 _ (by rfl)) (by rfl) (da_cons cx (de_var (i := 4)) (da_cons cx (de_ty (n := .bool) (by rfl) (V.free 3 _ (by rfl)) (by rfl)) da_nil)))))))
  (dss_one (ds_if cx (dt_if cx (dt_cmp cx opd_is (de_var (i := 4)) de_non (by rfl)) (dt_cmp cx opd_isnot (de_var (i := 3)) de_non (by rfl)) (dt_not (dt_val (de_call cx (d__law_is_truth V) hr (by decide) (by rfl) (da_cons cx (de_var (i := 3)) (da_cons cx (de_var (i := 4)) da_nil))))))
  (dss_one (ds_ret de_bl))
  dss_nil))
  (dss_one (ds_if cx (dt_val (de_callB (call_isi_x cx V.xs0) (by rfl) (V.free 6 _ (by rfl)) (by rfl) (da_cons cx (de_var (i := 4)) (da_cons cx (de_tup cx (da_cons cx (de_ty (n := .int) (by rfl) (V.free 5 _ (by rfl)) (by rfl)) (da_cons cx (de_ty (n := .str) (by rfl) (V.free 12 _ (by rfl)) (by rfl)) da_nil))) da_nil))))
  (dss_one (ds_if cx (DW.dt (dw_or cx (dt_val (de_callB (call_isi_x cx V.xs0) (by rfl) (V.free 6 _ (by rfl)) (by rfl) (da_cons cx (de_var (i := 3)) (da_cons cx (de_ty (n := .bool) (by rfl) (V.free 3 _ (by rfl)) (by rfl)) da_nil)))) (dw_or cx (dt_cmp cx (opd_ne cx cx.u64) (de_callB (call_isi_x cx V.xs0) (by rfl) (V.free 6 _ (by rfl)) (by rfl) (da_cons cx (de_var (i := 3)) (da_cons cx (de_ty (n := .int) (by rfl) (V.free 5 _ (by rfl)) (by rfl)) da_nil))) (de_callB (call_isi_x cx V.xs0) (by rfl) (V.free 6 _ (by rfl)) (by rfl) (da_cons cx (de_var (i := 4)) (da_cons cx (de_ty (n := .int) (by rfl) (V.free 5 _ (by rfl)) (by rfl)) da_nil))) (by rfl)) (dw_or1 (dt_cmp cx (opd_ne cx cx.u64) (de_var (i := 3)) (de_var (i := 4)) (by rfl))))))
  (dss_one (ds_ret de_bl))
  dss_nil))
  (dss_one (ds_if cx (dt_val (de_callB (call_isi_x cx V.xs0) (by rfl) (V.free 6 _ (by rfl)) (by rfl) (da_cons cx (de_var (i := 4)) (da_cons cx (de_ty (n := .dict) (by rfl) (V.free 4 _ (by rfl)) (by rfl)) da_nil))))
  (dss_cons ds_never
  (dss_cons ds_never
  (dss_one ds_never)))
  (dss_cons (ds_set (i := 5) cx (de_lst false cx (da_cons cx (de_and cx (de_callB (call_isi_x cx V.xs0) (by rfl) (V.free 6 _ (by rfl)) (by rfl) (da_cons cx (de_var (i := 3)) (da_cons cx (de_ty (n := .tuple) (by rfl) (V.free 13 _ (by rfl)) (by rfl)) da_nil))) (de_one (de_callB (call_isi_x cx V.xs0) (by rfl) (V.free 6 _ (by rfl)) (by rfl) (da_cons cx (de_var (i := 4)) (da_cons cx (de_ty (n := .tuple) (by rfl) (V.free 13 _ (by rfl)) (by rfl)) da_nil))))) (da_cons cx (de_and cx (de_callB (call_isi_x cx V.xs0) (by rfl) (V.free 6 _ (by rfl)) (by rfl) (da_cons cx (de_var (i := 3)) (da_cons cx (de_ty (n := .list) (by rfl) (V.free 8 _ (by rfl)) (by rfl)) da_nil))) (de_one (de_callB (call_isi_x cx V.xs0) (by rfl) (V.free 6 _ (by rfl)) (by rfl) (da_cons cx (de_var (i := 4)) (da_cons cx (de_ty (n := .list) (by rfl) (V.free 8 _ (by rfl)) (by rfl)) da_nil))))) da_nil))))
  (dss_cons (ds_if cx (DW.dt (dw_or cx (dt_cmp cx (opd_notin cx cx.un) de_bl (de_var (i := 5)) (by rfl)) (dw_or1 (dt_cmp cx (opd_ne cx cx.u64) (de_callB (call_len_d cx) (by rfl) (V.free 7 _ (by rfl)) (by rfl) (da_cons cx (de_var (i := 3)) da_nil)) (de_callB (call_len_d cx) (by rfl) (V.free 7 _ (by rfl)) (by rfl) (da_cons cx (de_var (i := 4)) da_nil)) (by rfl)))))
  (dss_one (ds_ret de_bl))
  dss_nil)
  (dss_one (ds_expr cx (de_meth (PySem.F.plainAttrs_list) PySem.F.slot_list_extend PySem.F.type_list_extend cx (mt_extend_d cx) (de_var (i := 2)) (da_cons cx (de_lc false [("left", 7), ("right", 8)] cx (di_zip2 cx (by rfl) (V.free 14 _ (by rfl)) (da_cons cx (de_var (i := 3)) (da_cons cx (de_var (i := 4)) da_nil))) (blkOk_by (by rfl)) (fun _ cx => (dgc_tup 2 cx (dgsc_cons cx (dgc_name cx) (dgsc_cons cx (dgc_name cx) dgsc_nil)))) (fun _ cx => dps_nil) (fun _ cx => (de_tup cx (da_cons cx (de_var (i := 7)) (da_cons cx (de_var (i := 8)) da_nil))))) da_nil))))))))))))))
  (dss_one (ds_ret de_bl))))
theorem sc__law_q : FnScope (["n", "d", "one", "other"] : List Str) (["n", "d"] : List Str) (defScope (top 46)) := ⟨rfl, rfl, rfl, by decide +kernel, rfl, by decide +kernel, by decide +kernel⟩
theorem d__law_q {P : Program} {w : World} {base : Heap} {R : RC} (V : Ev cfg P w base R) : FnD P w base R "_law_q" 41 ["n", "d"] (top 46) F__law_q := by
  unfold F__law_q
  exact V.def_ 30 rfl sc__law_q (by decide) (fun _ _ _ _ _ _ us hl => match us, hl with | [_, _], _ => rfl) fun f cdv A outer s H E hr cx =>
  (dss_cons (ds_par2 (i := 2) (j := 3) cx (da_cons cx (de_callB call_abs_d (by rfl) (V.free 0 _ (by rfl)) (by rfl) (da_cons cx (de_var (i := 0)) da_nil)) (da_cons cx (de_callB call_abs_d (by rfl) (V.free 0 _ (by rfl)) (by rfl) (da_cons cx (de_var (i := 1)) da_nil)) da_nil)))
  (dss_cons (ds_while cx (dt_cmp cx opd_gt (de_var (i := 3)) de_int (by rfl))
  (dss_one (ds_par2 (i := 2) (j := 3) cx (da_cons cx (de_var (i := 3)) (da_cons cx (de_op cx opd_mod (de_callTy call_int_d (by rfl) (V.free 5 _ (by rfl)) (by rfl) (da_cons cx (de_var (i := 2)) da_nil)) (de_var (i := 3))) da_nil)))))
  (dss_one (ds_ret (de_if cx (dt_cmp cx opd_gt (de_var (i := 1)) de_int (by rfl)) (de_tup cx (da_cons cx (de_op cx (opd_fdiv cx) (de_var (i := 0)) (de_var (i := 2))) (da_cons cx (de_op cx (opd_fdiv cx) (de_var (i := 1)) (de_var (i := 2))) da_nil))) (de_tup cx (da_cons cx (de_op cx (opd_fdiv cx) (de_neg (de_var (i := 0))) (de_var (i := 2))) (da_cons cx (de_op cx (opd_fdiv cx) (de_neg (de_var (i := 1))) (de_var (i := 2))) da_nil))))))))
theorem sc__law_plus : FnScope (["one", "other"] : List Str) (["one", "other"] : List Str) (defScope (top 47)) := ⟨rfl, rfl, rfl, by decide +kernel, rfl, by decide +kernel, by decide +kernel⟩
theorem d__law_plus {P : Program} {w : World} {base : Heap} {R : RC} (V : Ev cfg P w base R) : FnD P w base R "_law_plus" 42 ["one", "other"] (top 47) F__law_plus := by
  unfold F__law_plus
  exact V.def_ 31 rfl sc__law_plus (by decide) (fun _ _ _ _ _ _ us hl => match us, hl with | [_, _], _ => rfl) fun f cdv A outer s H E hr cx =>
  (dss_one (ds_ret (de_call cx (d__law_q V) hr (by decide) (by rfl) (da_cons cx (de_op cx (opd_add false cx) (de_op cx (opd_mul false cx) (de_ix cx (de_var (i := 0)) de_int) (de_ix cx (de_var (i := 1)) de_int)) (de_op cx (opd_mul false cx) (de_ix cx (de_var (i := 1)) de_int) (de_ix cx (de_var (i := 0)) de_int))) (da_cons cx (de_op cx (opd_mul false cx) (de_ix cx (de_var (i := 0)) de_int) (de_ix cx (de_var (i := 1)) de_int)) da_nil)))))
theorem sc__law_minus : FnScope (["one", "other"] : List Str) (["one", "other"] : List Str) (defScope (top 48)) := ⟨rfl, rfl, rfl, by decide +kernel, rfl, by decide +kernel, by decide +kernel⟩
theorem d__law_minus {P : Program} {w : World} {base : Heap} {R : RC} (V : Ev cfg P w base R) : FnD P w base R "_law_minus" 42 ["one", "other"] (top 48) F__law_minus := by
  unfold F__law_minus
  exact V.def_ 32 rfl sc__law_minus (by decide) (fun _ _ _ _ _ _ us hl => match us, hl with | [_, _], _ => rfl) fun f cdv A outer s H E hr cx =>
  (dss_one (ds_ret (de_call cx (d__law_q V) hr (by decide) (by rfl) (da_cons cx (de_op cx opd_sub (de_op cx (opd_mul false cx) (de_ix cx (de_var (i := 0)) de_int) (de_ix cx (de_var (i := 1)) de_int)) (de_op cx (opd_mul false cx) (de_ix cx (de_var (i := 1)) de_int) (de_ix cx (de_var (i := 0)) de_int))) (da_cons cx (de_op cx (opd_mul false cx) (de_ix cx (de_var (i := 0)) de_int) (de_ix cx (de_var (i := 1)) de_int)) da_nil)))))
theorem sc__law_times : FnScope (["one", "other"] : List Str) (["one", "other"] : List Str) (defScope (top 49)) := ⟨rfl, rfl, rfl, by decide +kernel, rfl, by decide +kernel, by decide +kernel⟩
theorem d__law_times {P : Program} {w : World} {base : Heap} {R : RC} (V : Ev cfg P w base R) : FnD P w base R "_law_times" 42 ["one", "other"] (top 49) F__law_times := by
  unfold F__law_times
  exact V.def_ 33 rfl sc__law_times (by decide) (fun _ _ _ _ _ _ us hl => match us, hl with | [_, _], _ => rfl) fun f cdv A outer s H E hr cx =>
  (dss_one (ds_ret (de_call cx (d__law_q V) hr (by decide) (by rfl) (da_cons cx (de_op cx (opd_mul false cx) (de_ix cx (de_var (i := 0)) de_int) (de_ix cx (de_var (i := 1)) de_int)) (da_cons cx (de_op cx (opd_mul false cx) (de_ix cx (de_var (i := 0)) de_int) (de_ix cx (de_var (i := 1)) de_int)) da_nil)))))
theorem sc__law_over : FnScope (["one", "other"] : List Str) (["one", "other"] : List Str) (defScope (top 50)) := ⟨rfl, rfl, rfl, by decide +kernel, rfl, by decide +kernel, by decide +kernel⟩
theorem d__law_over {P : Program} {w : World} {base : Heap} {R : RC} (V : Ev cfg P w base R) : FnD P w base R "_law_over" 42 ["one", "other"] (top 50) F__law_over := by
  unfold F__law_over
  exact V.def_ 34 rfl sc__law_over (by decide) (fun _ _ _ _ _ _ us hl => match us, hl with | [_, _], _ => rfl) fun f cdv A outer s H E hr cx =>
  (dss_one (ds_ret (de_call cx (d__law_q V) hr (by decide) (by rfl) (da_cons cx (de_op cx (opd_mul false cx) (de_ix cx (de_var (i := 0)) de_int) (de_ix cx (de_var (i := 1)) de_int)) (da_cons cx (de_op cx (opd_mul false cx) (de_ix cx (de_var (i := 0)) de_int) (de_ix cx (de_var (i := 1)) de_int)) da_nil)))))
theorem sc__law_less : FnScope (["one", "other"] : List Str) (["one", "other"] : List Str) (defScope (top 51)) := ⟨rfl, rfl, rfl, by decide +kernel, rfl, by decide +kernel, by decide +kernel⟩
theorem d__law_less {P : Program} {w : World} {base : Heap} {R : RC} (V : Ev cfg P w base R) : FnD P w base R "_law_less" 41 ["one", "other"] (top 51) F__law_less := by
  unfold F__law_less
  exact V.def_ 35 rfl sc__law_less (by decide) (fun _ _ _ _ _ _ us hl => match us, hl with | [_, _], _ => rfl) fun f cdv A outer s H E hr cx =>
  (dss_one (ds_ret (de_cmp cx opd_lt (de_op cx (opd_mul false cx) (de_ix cx (de_var (i := 0)) de_int) (de_ix cx (de_var (i := 1)) de_int)) (de_op cx (opd_mul false cx) (de_ix cx (de_var (i := 1)) de_int) (de_ix cx (de_var (i := 0)) de_int)) (by rfl))))
theorem sc__law_sum : FnScope (["some", "found", "each"] : List Str) (["some"] : List Str) (defScope (top 52)) := ⟨rfl, rfl, rfl, by decide +kernel, rfl, by decide +kernel, by decide +kernel⟩
theorem d__law_sum {P : Program} {w : World} {base : Heap} {R : RC} (V : Ev cfg P w base R) : FnD P w base R "_law_sum" 43 ["some"] (top 52) F__law_sum := by
  unfold F__law_sum
  exact V.def_ 36 rfl sc__law_sum (by decide) (fun _ _ _ _ _ _ us hl => match us, hl with | [_], _ => rfl) fun f cdv A outer s H E hr cx =>
  (dss_cons (ds_set (i := 1) cx (de_tup cx (da_cons cx de_int (da_cons cx de_int da_nil))))
  (dss_cons (ds_for cx (di_seq cx (de_var (i := 0))) (dg_name cx)
  (dss_one (ds_set (i := 1) cx (de_call cx (d__law_plus V) hr (by decide) (by rfl) (da_cons cx (de_var (i := 1)) (da_cons cx (de_var (i := 2)) da_nil))))))
  (dss_one (ds_ret (de_var (i := 1))))))
theorem sc__law_words : FnScope (["draws", "many", "found", "word", "lap"] : List Str) (["draws", "many"] : List Str) (defScope (top 53)) := ⟨rfl, rfl, rfl, by decide +kernel, rfl, by decide +kernel, by decide +kernel⟩
theorem d__law_words {P : Program} {w : World} {base : Heap} {R : RC} (V : Ev cfg P w base R) : FnD P w base R "_law_words" 44 ["draws", "many"] (top 53) F__law_words := by
  unfold F__law_words
  exact V.def_ 37 rfl sc__law_words (by decide) (fun _ _ _ _ _ _ us hl => match us, hl with | [_, _], _ => rfl) fun f cdv A outer s H E hr cx =>
  (dss_cons (ds_set (i := 2) cx (de_lst false cx da_nil))
  (dss_cons (ds_while cx (dt_cmp cx opd_lt (de_callB (call_len_d cx) (by rfl) (V.free 7 _ (by rfl)) (by rfl) (da_cons cx (de_var (i := 2)) da_nil)) (de_var (i := 1)) (by rfl))
  (dss_cons (ds_set (i := 3) cx (de_meth (PySem.F.plainAttrs_str) PySem.F.slot_str_join PySem.F.type_str_join cx (mt_join_d cx) de_str (da_cons cx (de_lc false [("lap", 4)] cx (di_range1 (by rfl) (V.free 10 _ (by rfl)) (da_cons cx (de_op cx (opd_add false cx) de_int (de_call cx (d__law_draw V) hr (by decide) (by rfl) (da_cons cx (de_var (i := 0)) (da_cons cx de_int da_nil)))) da_nil)) (blkOk_by (by rfl)) (fun _ cx => (dgc_name cx)) (fun _ cx => dps_nil) (fun _ cx => (de_call cx (d__law_pick V) hr (by decide) (by rfl) (da_cons cx (de_var (i := 0)) (da_cons cx (de_callTy (call_list_d false cx) (by rfl) (V.free 8 _ (by rfl)) (by rfl) (da_cons cx de_str da_nil)) da_nil))))) da_nil)))
  (dss_one (ds_set (i := 2) cx (de_op cx (opd_add false cx) (de_var (i := 2)) (de_if cx (dt_cmp cx (opd_notin cx cx.un) (de_var (i := 3)) (de_var (i := 2)) (by rfl)) (de_lst false cx (da_cons cx (de_var (i := 3)) da_nil)) (de_if cx (DW.dt (dw_and cx (dt_cmp cx (opd_notin cx cx.un) (de_op cx (opd_add false cx) (de_sl false cx (de_var (i := 3)) do_none (do_some de_int)) (de_op cx (opd_mul false cx) de_str (de_callB (call_len_d cx) (by rfl) (V.free 7 _ (by rfl)) (by rfl) (da_cons cx (de_var (i := 2)) da_nil)))) (de_var (i := 2)) (by rfl)) (dw_and1 (dt_cmp cx opd_lt (de_callB (call_len_d cx) (by rfl) (V.free 7 _ (by rfl)) (by rfl) (da_cons cx (de_var (i := 2)) da_nil)) de_int (by rfl))))) (de_lst false cx (da_cons cx (de_op cx (opd_add false cx) (de_sl false cx (de_var (i := 3)) do_none (do_some de_int)) (de_op cx (opd_mul false cx) de_str (de_callB (call_len_d cx) (by rfl) (V.free 7 _ (by rfl)) (by rfl) (da_cons cx (de_var (i := 2)) da_nil)))) da_nil)) (de_lst false cx da_nil))))))))
  (dss_one (ds_ret (de_callB (call_sorted_d cx) (by rfl) (V.free 11 _ (by rfl)) (by rfl) (da_cons cx (de_var (i := 2)) da_nil))))))
theorem sc__law_number : FnScope (["draws", "size", "n", "d"] : List Str) (["draws", "size"] : List Str) (defScope (top 54)) := ⟨rfl, rfl, rfl, by decide +kernel, rfl, by decide +kernel, by decide +kernel⟩
theorem d__law_number {P : Program} {w : World} {base : Heap} {R : RC} (V : Ev cfg P w base R) : FnD P w base R "_law_number" 44 ["draws", "size"] (top 54) F__law_number := by
  unfold F__law_number
  exact V.def_ 38 rfl sc__law_number (by decide) (fun _ _ _ _ _ _ us hl => match us, hl with | [_, _], _ => rfl) fun f cdv A outer s H E hr cx =>
  (dss_cons (ds_par2 (i := 2) (j := 3) cx (da_cons cx (de_call cx (d__law_draw V) hr (by decide) (by rfl) (da_cons cx (de_var (i := 0)) (da_cons cx (de_op cx (opd_add false cx) (de_var (i := 1)) de_int) da_nil))) (da_cons cx (de_op cx (opd_add false cx) de_int (de_call cx (d__law_draw V) hr (by decide) (by rfl) (da_cons cx (de_var (i := 0)) (da_cons cx (de_call cx (d__law_pick V) hr (by decide) (by rfl) (da_cons cx (de_var (i := 0)) (da_cons cx (de_lst false cx (da_cons cx de_int (da_cons cx de_int (da_cons cx de_int (da_cons cx (de_var (i := 1)) da_nil))))) da_nil))) da_nil)))) da_nil)))
  (dss_one (ds_ret (de_call cx (d__law_q V) hr (by decide) (by rfl) (da_cons cx (de_if cx (dt_cmp cx (opd_eq cx cx.u64) (de_call cx (d__law_draw V) hr (by decide) (by rfl) (da_cons cx (de_var (i := 0)) (da_cons cx de_int da_nil))) de_int (by rfl)) (de_var (i := 2)) (de_op cx opd_sub de_int (de_var (i := 2)))) (da_cons cx (de_var (i := 3)) da_nil))))))
theorem sc__law_vector : FnScope (["draws", "many", "size", "lap"] : List Str) (["draws", "many", "size"] : List Str) (defScope (top 55)) := ⟨rfl, rfl, rfl, by decide +kernel, rfl, by decide +kernel, by decide +kernel⟩
theorem d__law_vector {P : Program} {w : World} {base : Heap} {R : RC} (V : Ev cfg P w base R) : FnD P w base R "_law_vector" 45 ["draws", "many", "size"] (top 55) F__law_vector := by
  unfold F__law_vector
  exact V.def_ 39 rfl sc__law_vector (by decide) (fun _ _ _ _ _ _ us hl => match us, hl with | [_, _, _], _ => rfl) fun f cdv A outer s H E hr cx =>
  (dss_one (ds_ret (de_callTy (call_tuple_d cx) (by rfl) (V.free 13 _ (by rfl)) (by rfl) (da_cons cx (de_lc false [("lap", 3)] cx (di_range1 (by rfl) (V.free 10 _ (by rfl)) (da_cons cx (de_var (i := 1)) da_nil)) (blkOk_by (by rfl)) (fun _ cx => (dgc_name cx)) (fun _ cx => dps_nil) (fun _ cx => (de_call cx (d__law_pick V) hr (by decide) (by rfl) (da_cons cx (de_var (i := 0)) (da_cons cx (de_lst false cx (da_cons cx (de_tup cx (da_cons cx de_int (da_cons cx de_int da_nil))) (da_cons cx (de_call cx (d__law_number V) hr (by decide) (by rfl) (da_cons cx (de_var (i := 0)) (da_cons cx (de_var (i := 2)) da_nil))) (da_cons cx (de_call cx (d__law_number V) hr (by decide) (by rfl) (da_cons cx (de_var (i := 0)) (da_cons cx (de_var (i := 2)) da_nil))) da_nil)))) da_nil))))) da_nil))))
theorem sc__law_dot : FnScope (["one", "other", "left", "right"] : List Str) (["one", "other"] : List Str) (defScope (top 56)) := ⟨rfl, rfl, rfl, by decide +kernel, rfl, by decide +kernel, by decide +kernel⟩
theorem d__law_dot {P : Program} {w : World} {base : Heap} {R : RC} (V : Ev cfg P w base R) : FnD P w base R "_law_dot" 44 ["one", "other"] (top 56) F__law_dot := by
  unfold F__law_dot
  exact V.def_ 40 rfl sc__law_dot (by decide) (fun _ _ _ _ _ _ us hl => match us, hl with | [_, _], _ => rfl) fun f cdv A outer s H E hr cx =>
  (dss_one (ds_ret (de_call cx (d__law_sum V) hr (by decide) (by rfl) (da_cons cx (de_lc false [("left", 2), ("right", 3)] cx (di_zip2 cx (by rfl) (V.free 14 _ (by rfl)) (da_cons cx (de_var (i := 0)) (da_cons cx (de_var (i := 1)) da_nil))) (blkOk_by (by rfl)) (fun _ cx => (dgc_tup 2 cx (dgsc_cons cx (dgc_name cx) (dgsc_cons cx (dgc_name cx) dgsc_nil)))) (fun _ cx => dps_nil) (fun _ cx => (de_call cx (d__law_times V) hr (by decide) (by rfl) (da_cons cx (de_var (i := 2)) (da_cons cx (de_var (i := 3)) da_nil))))) da_nil))))
theorem sc__law_odd : FnScope (["draws", "some"] : List Str) (["draws"] : List Str) (defScope (top 57)) := ⟨rfl, rfl, rfl, by decide +kernel, rfl, by decide +kernel, by decide +kernel⟩
theorem d__law_odd {P : Program} {w : World} {base : Heap} {R : RC} (V : Ev cfg P w base R) : FnD P w base R "_law_odd" 44 ["draws"] (top 57) F__law_odd := by
  unfold F__law_odd
  exact V.def_ 41 rfl sc__law_odd (by decide) (fun _ _ _ _ _ _ us hl => match us, hl with | [_], _ => rfl) fun f cdv A outer s H E hr cx =>
  (dss_cons (ds_set (i := 1) cx (de_lst false cx (da_cons cx de_non (da_cons cx de_bl (da_cons cx de_int (da_cons cx de_int (da_cons cx de_str (da_cons cx de_str (da_cons cx (de_tup cx da_nil) (da_cons cx (de_lst false cx da_nil) (da_cons cx (de_dict0 cx) (da_cons cx (de_tup cx (da_cons cx (de_tup cx (da_cons cx de_int (da_cons cx de_int da_nil))) (da_cons cx (de_tup cx (da_cons cx de_int (da_cons cx de_int da_nil))) da_nil))) (da_cons cx (de_tup cx (da_cons cx de_str da_nil)) (da_cons cx (de_tup cx (da_cons cx de_str (da_cons cx (de_tup cx da_nil) da_nil))) (da_cons cx (de_tup cx (da_cons cx de_str (da_cons cx (de_tup cx da_nil) da_nil))) (da_cons cx (de_tup cx (da_cons cx de_str (da_cons cx (de_tup cx da_nil) da_nil))) da_nil))))))))))))))))
  (dss_one (ds_ret (de_call cx (d__law_pick V) hr (by decide) (by rfl) (da_cons cx (de_var (i := 0)) (da_cons cx (de_op cx (opd_add false cx) (de_var (i := 1)) (de_lst false cx (da_cons cx (de_tup cx (da_cons cx de_str (da_cons cx (de_tup cx (da_cons cx (de_tup cx (da_cons cx de_int (da_cons cx de_int da_nil))) da_nil)) da_nil))) (da_cons cx (de_tup cx (da_cons cx de_str (da_cons cx (de_tup cx (da_cons cx (de_tup cx (da_cons cx de_str (da_cons cx (de_tup cx (da_cons cx (de_tup cx (da_cons cx de_int (da_cons cx de_int da_nil))) da_nil)) da_nil))) da_nil)) da_nil))) (da_cons cx (de_tup cx (da_cons cx de_str (da_cons cx (de_tup cx (da_cons cx (de_tup cx da_nil) (da_cons cx (de_tup cx da_nil) da_nil))) da_nil))) da_nil))))) da_nil))))))
theorem sc__law_ph_is_ratio : FnScope (["value", "part"] : List Str) (["value"] : List Str) (defScope (top 58)) := ⟨rfl, rfl, rfl, by decide +kernel, rfl, by decide +kernel, by decide +kernel⟩
theorem d__law_ph_is_ratio {P : Program} {w : World} {base : Heap} {R : RC} (V : Ev cfg P w base R) : FnD P w base R "_law_ph_is_ratio" 42 ["value"] (top 58) F__law_ph_is_ratio := by
  unfold F__law_ph_is_ratio
  exact V.def_ 42 rfl sc__law_ph_is_ratio (by decide) (fun _ _ _ _ _ _ us hl => match us, hl with | [_], _ => rfl) fun f cdv A outer s H E hr cx =>
  (dss_cons (ds_if cx (DW.dt (dw_or cx (dt_not (dt_val (de_callB (call_isi_x cx V.xs0) (by rfl) (V.free 6 _ (by rfl)) (by rfl) (da_cons cx (de_var (i := 0)) (da_cons cx (de_ty (n := .tuple) (by rfl) (V.free 13 _ (by rfl)) (by rfl)) da_nil))))) (dw_or cx (dt_cmp cx (opd_ne cx cx.u64) (de_callB (call_len_d cx) (by rfl) (V.free 7 _ (by rfl)) (by rfl) (da_cons cx (de_var (i := 0)) da_nil)) de_int (by rfl)) (dw_or1 (dt_cmp cx (opd_ne cx cx.u64) (de_lc false [("part", 1)] cx (di_seq cx (de_var (i := 0))) (blkOk_by (by rfl)) (fun _ cx => (dgc_name cx)) (fun _ cx => (dps_one (DW.dt (dw_or cx (dt_not (dt_val (de_callB (call_isi_x cx V.xs0) (by rfl) (V.free 6 _ (by rfl)) (by rfl) (da_cons cx (de_var (i := 1)) (da_cons cx (de_ty (n := .int) (by rfl) (V.free 5 _ (by rfl)) (by rfl)) da_nil))))) (dw_or1 (dt_val (de_callB (call_isi_x cx V.xs0) (by rfl) (V.free 6 _ (by rfl)) (by rfl) (da_cons cx (de_var (i := 1)) (da_cons cx (de_ty (n := .bool) (by rfl) (V.free 3 _ (by rfl)) (by rfl)) da_nil))))))))) (fun _ cx => de_int)) (de_lst false cx da_nil) (by rfl))))))
  (dss_one (ds_ret de_bl))
  dss_nil)
  (dss_one (ds_ret (de_and cx (de_cmp cx opd_gt (de_ix cx (de_var (i := 0)) de_int) de_int (by rfl)) (de_one (de_cmp cx (opd_eq cx cx.u64) (de_call cx (d__law_q V) hr (by decide) (by rfl) (da_cons cx (de_ix cx (de_var (i := 0)) de_int) (da_cons cx (de_ix cx (de_var (i := 0)) de_int) da_nil))) (de_var (i := 0)) (by rfl)))))))
theorem sc__law_ph_is_vector : FnScope (["value", "n", "part"] : List Str) (["value", "n"] : List Str) (defScope (top 59)) := ⟨rfl, rfl, rfl, by decide +kernel, rfl, by decide +kernel, by decide +kernel⟩
theorem d__law_ph_is_vector {P : Program} {w : World} {base : Heap} {R : RC} (V : Ev cfg P w base R) : FnD P w base R "_law_ph_is_vector" 43 ["value", "n"] (top 59) F__law_ph_is_vector := by
  unfold F__law_ph_is_vector
  exact V.def_ 43 rfl sc__law_ph_is_vector (by decide) (fun _ _ _ _ _ _ us hl => match us, hl with | [_, _], _ => rfl) fun f cdv A outer s H E hr cx =>
  (dss_one (ds_ret (de_and cx (de_callB (call_isi_x cx V.xs0) (by rfl) (V.free 6 _ (by rfl)) (by rfl) (da_cons cx (de_var (i := 0)) (da_cons cx (de_ty (n := .tuple) (by rfl) (V.free 13 _ (by rfl)) (by rfl)) da_nil))) (de_and cx (de_cmp cx (opd_eq cx cx.u64) (de_callB (call_len_d cx) (by rfl) (V.free 7 _ (by rfl)) (by rfl) (da_cons cx (de_var (i := 0)) da_nil)) (de_var (i := 1)) (by rfl)) (de_one (de_cmp cx (opd_eq cx cx.u64) (de_lc false [("part", 2)] cx (di_seq cx (de_var (i := 0))) (blkOk_by (by rfl)) (fun _ cx => (dgc_name cx)) (fun _ cx => (dps_one (dt_not (dt_val (de_call cx (d__law_ph_is_ratio V) hr (by decide) (by rfl) (da_cons cx (de_var (i := 2)) da_nil)))))) (fun _ cx => de_int)) (de_lst false cx da_nil) (by rfl)))))))
theorem sc__law_ph_keeps : FnScope (["limits", "point", "row", "bound"] : List Str) (["limits", "point"] : List Str) (defScope (top 60)) := ⟨rfl, rfl, rfl, by decide +kernel, rfl, by decide +kernel, by decide +kernel⟩
theorem d__law_ph_keeps {P : Program} {w : World} {base : Heap} {R : RC} (V : Ev cfg P w base R) : FnD P w base R "_law_ph_keeps" 45 ["limits", "point"] (top 60) F__law_ph_keeps := by
  unfold F__law_ph_keeps
  exact V.def_ 44 rfl sc__law_ph_keeps (by decide) (fun _ _ _ _ _ _ us hl => match us, hl with | [_, _], _ => rfl) fun f cdv A outer s H E hr cx =>
  (dss_one (ds_ret (de_cmp cx (opd_eq cx cx.u64) (de_lc false [("row", 2), ("bound", 3)] cx (di_seq cx (de_var (i := 0))) (blkOk_by (by rfl)) (fun _ cx => (dgc_tup 2 cx (dgsc_cons cx (dgc_name cx) (dgsc_cons cx (dgc_name cx) dgsc_nil)))) (fun _ cx => (dps_one (dt_val (de_call cx (d__law_less V) hr (by decide) (by rfl) (da_cons cx (de_call cx (d__law_dot V) hr (by decide) (by rfl) (da_cons cx (de_var (i := 2)) (da_cons cx (de_var (i := 1)) da_nil))) (da_cons cx (de_var (i := 3)) da_nil)))))) (fun _ cx => de_int)) (de_lst false cx da_nil) (by rfl))))
theorem sc__law_ph_turned : FnScope (["row", "part"] : List Str) (["row"] : List Str) (defScope (top 61)) := ⟨rfl, rfl, rfl, by decide +kernel, rfl, by decide +kernel, by decide +kernel⟩
theorem d__law_ph_turned {P : Program} {w : World} {base : Heap} {R : RC} (V : Ev cfg P w base R) : FnD P w base R "_law_ph_turned" 41 ["row"] (top 61) F__law_ph_turned := by
  unfold F__law_ph_turned
  exact V.def_ 45 rfl sc__law_ph_turned (by decide) (fun _ _ _ _ _ _ us hl => match us, hl with | [_], _ => rfl) fun f cdv A outer s H E hr cx =>
  (dss_one (ds_ret (de_callTy (call_tuple_d cx) (by rfl) (V.free 13 _ (by rfl)) (by rfl) (da_cons cx (de_lc false [("part", 1)] cx (di_seq cx (de_var (i := 0))) (blkOk_by (by rfl)) (fun _ cx => (dgc_name cx)) (fun _ cx => dps_nil) (fun _ cx => (de_tup cx (da_cons cx (de_op cx opd_sub de_int (de_ix cx (de_var (i := 1)) de_int)) (da_cons cx (de_ix cx (de_var (i := 1)) de_int) da_nil))))) da_nil))))
theorem sc__law_ph_bent : FnScope (["draws", "value", "some", "at"] : List Str) (["draws", "value"] : List Str) (defScope (top 62)) := ⟨rfl, rfl, rfl, by decide +kernel, rfl, by decide +kernel, by decide +kernel⟩
theorem d__law_ph_bent {P : Program} {w : World} {base : Heap} {R : RC} (V : Ev cfg P w base R) : ∀ n : Nat, FnD P w base R "_law_ph_bent" (43 + n + 1) ["draws", "value"] (top 62) (F__law_ph_bent n)
  | 0 => by
    unfold F__law_ph_bent
    exact V.stuck 46 rfl (fun _ _ _ _ _ _ us hl => match us, hl with | [_, _], _ => rfl)
  | n + 1 => by
    have ih := d__law_ph_bent V n
    rw [show F__law_ph_bent (n + 1) = bodyF (u__law_ph_bent (F__law_ph_bent n)) 4 by unfold F__law_ph_bent; rfl]
    exact V.def_ 46 rfl sc__law_ph_bent (by omega) (fun _ _ _ _ _ _ us hl => match us, hl with | [_, _], _ => rfl) fun f cdv A outer s H E hr cx =>
  (dss_cons (ds_if cx (DW.dt (dw_or cx (dt_not (dt_val (de_callB (call_isi_x cx V.xs0) (by rfl) (V.free 6 _ (by rfl)) (by rfl) (da_cons cx (de_var (i := 1)) (da_cons cx (de_ty (n := .tuple) (by rfl) (V.free 13 _ (by rfl)) (by rfl)) da_nil))))) (dw_or cx (dt_cmp cx (opd_eq cx cx.u64) (de_var (i := 1)) (de_tup cx da_nil) (by rfl)) (dw_or1 (dt_cmp cx (opd_eq cx cx.u64) (de_call cx (d__law_draw V) hr (by omega) (by rfl) (da_cons cx (de_var (i := 0)) (da_cons cx de_int da_nil))) de_int (by rfl))))))
  (dss_cons (ds_set (i := 2) cx (de_lst false cx (da_cons cx de_non (da_cons cx de_bl (da_cons cx de_int (da_cons cx (de_tup cx da_nil) (da_cons cx (de_lst false cx da_nil) (da_cons cx de_str (da_cons cx (de_tup cx (da_cons cx de_int (da_cons cx de_int da_nil))) (da_cons cx (de_tup cx (da_cons cx de_int (da_cons cx de_int da_nil))) (da_cons cx (de_tup cx (da_cons cx (de_neg de_int) (da_cons cx de_int da_nil))) (da_cons cx (de_tup cx (da_cons cx de_int (da_cons cx de_int da_nil))) (da_cons cx (de_tup cx (da_cons cx de_bl (da_cons cx de_int da_nil))) (da_cons cx (de_tup cx (da_cons cx de_int (da_cons cx de_int da_nil))) (da_cons cx (de_tup cx (da_cons cx (de_tup cx (da_cons cx de_int (da_cons cx de_int da_nil))) da_nil)) da_nil)))))))))))))))
  (dss_cons (ds_if cx (dt_val (de_call cx (d__law_ph_is_ratio V) hr (by omega) (by rfl) (da_cons cx (de_var (i := 1)) da_nil)))
  (dss_one (ds_set (i := 2) cx (de_op cx (opd_add false cx) (de_var (i := 2)) (de_lst false cx (da_cons cx (de_call cx (d__law_plus V) hr (by omega) (by rfl) (da_cons cx (de_var (i := 1)) (da_cons cx (de_tup cx (da_cons cx de_int (da_cons cx de_int da_nil))) da_nil))) (da_cons cx (de_call cx (d__law_minus V) hr (by omega) (by rfl) (da_cons cx (de_var (i := 1)) (da_cons cx (de_tup cx (da_cons cx de_int (da_cons cx de_int da_nil))) da_nil))) (da_cons cx (de_tup cx (da_cons cx (de_op cx opd_sub de_int (de_ix cx (de_var (i := 1)) de_int)) (da_cons cx (de_ix cx (de_var (i := 1)) de_int) da_nil))) (da_cons cx (de_tup cx (da_cons cx (de_op cx (opd_mul false cx) de_int (de_ix cx (de_var (i := 1)) de_int)) (da_cons cx (de_op cx (opd_mul false cx) de_int (de_ix cx (de_var (i := 1)) de_int)) da_nil))) da_nil))))))))
  dss_nil)
  (dss_cons (ds_if cx (dt_val (de_callB (call_isi_x cx V.xs0) (by rfl) (V.free 6 _ (by rfl)) (by rfl) (da_cons cx (de_var (i := 1)) (da_cons cx (de_ty (n := .tuple) (by rfl) (V.free 13 _ (by rfl)) (by rfl)) da_nil))))
  (dss_one (ds_set (i := 2) cx (de_op cx (opd_add false cx) (de_var (i := 2)) (de_lst false cx (da_cons cx (de_sl false cx (de_var (i := 1)) (do_some de_int) do_none) (da_cons cx (de_sl false cx (de_var (i := 1)) do_none (do_some (de_neg de_int))) (da_cons cx (de_op cx (opd_add false cx) (de_var (i := 1)) (de_sl false cx (de_var (i := 1)) (do_some (de_neg de_int)) do_none)) (da_cons cx (de_callTy (call_list_d false cx) (by rfl) (V.free 8 _ (by rfl)) (by rfl) (da_cons cx (de_var (i := 1)) da_nil)) (da_cons cx (de_rev cx (de_var (i := 1))) da_nil)))))))))
  dss_nil)
  (dss_one (ds_ret (de_call cx (d__law_pick V) hr (by omega) (by rfl) (da_cons cx (de_var (i := 0)) (da_cons cx (de_var (i := 2)) da_nil))))))))
  dss_nil)
  (dss_cons (ds_set (i := 3) cx (de_call cx (d__law_draw V) hr (by omega) (by rfl) (da_cons cx (de_var (i := 0)) (da_cons cx (de_callB (call_len_d cx) (by rfl) (V.free 7 _ (by rfl)) (by rfl) (da_cons cx (de_var (i := 1)) da_nil)) da_nil))))
  (dss_one (ds_ret (de_op cx (opd_add false cx) (de_op cx (opd_add false cx) (de_sl false cx (de_var (i := 1)) do_none (do_some (de_var (i := 3)))) (de_tup cx (da_cons cx (de_call cx ih hr (by omega) (by rfl) (da_cons cx (de_var (i := 0)) (da_cons cx (de_ix cx (de_var (i := 1)) (de_var (i := 3))) da_nil))) da_nil))) (de_sl false cx (de_var (i := 1)) (do_some (de_op cx (opd_add false cx) (de_var (i := 3)) de_int)) do_none))))))
theorem sc__law_ln_worths : FnScope (["lines", "point", "word", "f"] : List Str) (["lines", "point"] : List Str) (defScope (top 63)) := ⟨rfl, rfl, rfl, by decide +kernel, rfl, by decide +kernel, by decide +kernel⟩
theorem d__law_ln_worths {P : Program} {w : World} {base : Heap} {R : RC} (V : Ev cfg P w base R) : FnD P w base R "_law_ln_worths" 45 ["lines", "point"] (top 63) F__law_ln_worths := by
  unfold F__law_ln_worths
  exact V.def_ 47 rfl sc__law_ln_worths (by decide) (fun _ _ _ _ _ _ us hl => match us, hl with | [_, _], _ => rfl) fun f cdv A outer s H E hr cx =>
  (dss_one (ds_ret (de_lc false [("word", 2), ("f", 3)] cx (di_seq cx (de_ix cx (de_var (i := 0)) de_int)) (blkOk_by (by rfl)) (fun _ cx => (dgc_tup 2 cx (dgsc_cons cx (dgc_name cx) (dgsc_cons cx (dgc_name cx) dgsc_nil)))) (fun _ cx => dps_nil) (fun _ cx => (de_call cx (d__law_plus V) hr (by decide) (by rfl) (da_cons cx (de_call cx (d__law_dot V) hr (by decide) (by rfl) (da_cons cx (de_sl false cx (de_var (i := 3)) do_none (do_some (de_neg de_int))) (da_cons cx (de_var (i := 1)) da_nil))) (da_cons cx (de_ix cx (de_var (i := 3)) (de_neg de_int)) da_nil)))))))
theorem sc__law_ln_chosen : FnScope (["lines", "point", "worths", "at", "worth"] : List Str) (["lines", "point"] : List Str) (defScope (top 64)) := ⟨rfl, rfl, rfl, by decide +kernel, rfl, by decide +kernel, by decide +kernel⟩
theorem d__law_ln_chosen {P : Program} {w : World} {base : Heap} {R : RC} (V : Ev cfg P w base R) : FnD P w base R "_law_ln_chosen" 46 ["lines", "point"] (top 64) F__law_ln_chosen := by
  unfold F__law_ln_chosen
  exact V.def_ 48 rfl sc__law_ln_chosen (by decide) (fun _ _ _ _ _ _ us hl => match us, hl with | [_, _], _ => rfl) fun f cdv A outer s H E hr cx =>
  (dss_cons (ds_set (i := 2) cx (de_call cx (d__law_ln_worths V) hr (by decide) (by rfl) (da_cons cx (de_var (i := 0)) (da_cons cx (de_var (i := 1)) da_nil))))
  (dss_one (ds_ret (de_callTy (call_tuple_d cx) (by rfl) (V.free 13 _ (by rfl)) (by rfl) (da_cons cx (de_lc false [("at", 3)] cx (di_range1 (by rfl) (V.free 10 _ (by rfl)) (da_cons cx (de_callB (call_len_d cx) (by rfl) (V.free 7 _ (by rfl)) (by rfl) (da_cons cx (de_var (i := 2)) da_nil)) da_nil)) (blkOk_by (by rfl)) (fun _ cx => (dgc_name cx)) (fun _ cx => (dps_one (dt_cmp cx (opd_eq cx cx.u64) (de_lc false [("worth", 4)] cx (di_seq cx (de_var (i := 2))) (blkOk_by (by rfl)) (fun _ cx => (dgc_name cx)) (fun _ cx => (dps_one (dt_val (de_call cx (d__law_less V) hr (by decide) (by rfl) (da_cons cx (de_ix cx (de_var (i := 2)) (de_var (i := 3))) (da_cons cx (de_var (i := 4)) da_nil)))))) (fun _ cx => de_int)) (de_lst false cx da_nil) (by rfl)))) (fun _ cx => (de_ix cx (de_ix cx (de_ix cx (de_var (i := 0)) de_int) (de_var (i := 3))) de_int))) da_nil)))))
theorem sc__law_ln_limits : FnScope (["lines", "word", "own", "found", "other", "f", "left", "right"] : List Str) (["lines", "word"] : List Str) (defScope (top 65)) := ⟨rfl, rfl, rfl, by decide +kernel, rfl, by decide +kernel, by decide +kernel⟩
theorem d__law_ln_limits {P : Program} {w : World} {base : Heap} {R : RC} (V : Ev cfg P w base R) : FnD P w base R "_law_ln_limits" 43 ["lines", "word"] (top 65) F__law_ln_limits := by
  unfold F__law_ln_limits
  exact V.defT 49 rfl sc__law_ln_limits (by decide) (fun _ _ _ _ _ _ us hl => match us, hl with | [_, _], _ => rfl) fun f cdv A outer s H E hr cx =>
  (dss_cons (ds_set (i := 2) cx (de_ix cx (de_lc false [("other", 4), ("f", 5)] cx (di_seq cx (de_ix cx (de_var (i := 0)) de_int)) (blkOk_by (by rfl)) (fun _ cx => (dgc_tup 2 cx (dgsc_cons cx (dgc_name cx) (dgsc_cons cx (dgc_name cx) dgsc_nil)))) (fun _ cx => (dps_one (dt_cmp cx (opd_eq cx cx.u64) (de_var (i := 4)) (de_var (i := 1)) (by rfl)))) (fun _ cx => (de_var (i := 5)))) de_int))
  (dss_cons (ds_set (i := 3) cx (de_lst true cx da_nil))
  (dss_cons (ds_for cx (di_seq cx (de_ix cx (de_var (i := 0)) de_int)) (dg_tup 2 cx (dgs_cons cx (dg_name cx) (dgs_cons cx (dg_name cx) dgs_nil)))
  (dss_one (ds_if cx (dt_cmp cx (opd_ne cx cx.u64) (de_var (i := 4)) (de_var (i := 1)) (by rfl))
  (dss_one (ds_expr cx (de_meth (PySem.F.plainAttrs_list) PySem.F.slot_list_append PySem.F.type_list_append cx (mt_append_d cx) (de_var (i := 3)) (da_cons cx (de_tup cx (da_cons cx (de_callTy (call_tuple_d cx) (by rfl) (V.free 13 _ (by rfl)) (by rfl) (da_cons cx (de_lc false [("left", 6), ("right", 7)] cx (di_zip2 cx (by rfl) (V.free 14 _ (by rfl)) (da_cons cx (de_sl false cx (de_var (i := 2)) do_none (do_some (de_neg de_int))) (da_cons cx (de_sl false cx (de_var (i := 5)) do_none (do_some (de_neg de_int))) da_nil))) (blkOk_by (by rfl)) (fun _ cx => (dgc_tup 2 cx (dgsc_cons cx (dgc_name cx) (dgsc_cons cx (dgc_name cx) dgsc_nil)))) (fun _ cx => dps_nil) (fun _ cx => (de_call cx (d__law_minus V) hr (by decide) (by rfl) (da_cons cx (de_var (i := 6)) (da_cons cx (de_var (i := 7)) da_nil))))) da_nil)) (da_cons cx (de_call cx (d__law_minus V) hr (by decide) (by rfl) (da_cons cx (de_ix cx (de_var (i := 5)) (de_neg de_int)) (da_cons cx (de_ix cx (de_var (i := 2)) (de_neg de_int)) da_nil))) da_nil))) da_nil))))
  dss_nil)))
  (dss_one (ds_ret (de_callTy (call_tuple_d cx) (by rfl) (V.free 13 _ (by rfl)) (by rfl) (da_cons cx (de_var (i := 3)) da_nil)))))))
theorem sc__law_is_word : FnScope (["value", "letter"] : List Str) (["value"] : List Str) (defScope (top 66)) := ⟨rfl, rfl, rfl, by decide +kernel, rfl, by decide +kernel, by decide +kernel⟩
theorem d__law_is_word {P : Program} {w : World} {base : Heap} {R : RC} (V : Ev cfg P w base R) : FnD P w base R "_law_is_word" 41 ["value"] (top 66) F__law_is_word := by
  unfold F__law_is_word
  exact V.def_ 50 rfl sc__law_is_word (by decide) (fun _ _ _ _ _ _ us hl => match us, hl with | [_], _ => rfl) fun f cdv A outer s H E hr cx =>
  (dss_one (ds_ret (de_and cx (de_callB (call_isi_x cx V.xs0) (by rfl) (V.free 6 _ (by rfl)) (by rfl) (da_cons cx (de_var (i := 0)) (da_cons cx (de_ty (n := .str) (by rfl) (V.free 12 _ (by rfl)) (by rfl)) da_nil))) (de_and cx (de_chain cx opd_le opd_le de_int (de_callB (call_len_d cx) (by rfl) (V.free 7 _ (by rfl)) (by rfl) (da_cons cx (de_var (i := 0)) da_nil)) de_int) (de_one (de_cmp cx (opd_eq cx cx.u64) (de_lc false [("letter", 1)] cx (di_seq cx (de_var (i := 0))) (blkOk_by (by rfl)) (fun _ cx => (dgc_name cx)) (fun _ cx => (dps_one (dt_cmp cx (opd_notin cx cx.un) (de_var (i := 1)) de_str (by rfl)))) (fun _ cx => (de_var (i := 1)))) (de_lst false cx da_nil) (by rfl)))))))
theorem sc__law_is_lines : FnScope (["value", "rows", "wide", "row", "at"] : List Str) (["value"] : List Str) (defScope (top 67)) := ⟨rfl, rfl, rfl, by decide +kernel, rfl, by decide +kernel, by decide +kernel⟩
theorem d__law_is_lines {P : Program} {w : World} {base : Heap} {R : RC} (V : Ev cfg P w base R) : FnD P w base R "_law_is_lines" 44 ["value"] (top 67) F__law_is_lines := by
  unfold F__law_is_lines
  exact V.def_ 51 rfl sc__law_is_lines (by decide) (fun _ _ _ _ _ _ us hl => match us, hl with | [_], _ => rfl) fun f cdv A outer s H E hr cx =>
  (dss_cons (ds_if cx (DW.dt (dw_or cx (dt_not (dt_val (de_callB (call_isi_x cx V.xs0) (by rfl) (V.free 6 _ (by rfl)) (by rfl) (da_cons cx (de_var (i := 0)) (da_cons cx (de_ty (n := .tuple) (by rfl) (V.free 13 _ (by rfl)) (by rfl)) da_nil))))) (dw_or cx (dt_cmp cx (opd_ne cx cx.u64) (de_callB (call_len_d cx) (by rfl) (V.free 7 _ (by rfl)) (by rfl) (da_cons cx (de_var (i := 0)) da_nil)) de_int (by rfl)) (dw_or cx (dt_not (dt_val (de_callB (call_isi_x cx V.xs0) (by rfl) (V.free 6 _ (by rfl)) (by rfl) (da_cons cx (de_ix cx (de_var (i := 0)) de_int) (da_cons cx (de_ty (n := .str) (by rfl) (V.free 12 _ (by rfl)) (by rfl)) da_nil))))) (dw_or cx (dt_cmp cx (opd_ne cx cx.u64) (de_ix cx (de_var (i := 0)) de_int) de_str (by rfl)) (dw_or1 (dt_not (dt_val (de_callB (call_isi_x cx V.xs0) (by rfl) (V.free 6 _ (by rfl)) (by rfl) (da_cons cx (de_ix cx (de_var (i := 0)) de_int) (da_cons cx (de_ty (n := .tuple) (by rfl) (V.free 13 _ (by rfl)) (by rfl)) da_nil)))))))))))
  (dss_one (ds_ret de_bl))
  dss_nil)
  (dss_cons (ds_set (i := 1) cx (de_ix cx (de_var (i := 0)) de_int))
  (dss_cons (ds_if cx (DW.dt (dw_or cx (dt_not (dt_chain cx opd_le opd_le de_int (de_callB (call_len_d cx) (by rfl) (V.free 7 _ (by rfl)) (by rfl) (da_cons cx (de_var (i := 1)) da_nil)) de_int)) (dw_or1 (dt_cmp cx (opd_ne cx cx.u64) (de_lc false [("row", 3)] cx (di_seq cx (de_var (i := 1))) (blkOk_by (by rfl)) (fun _ cx => (dgc_name cx)) (fun _ cx => (dps_one (DW.dt (dw_or cx (dt_not (dt_val (de_callB (call_isi_x cx V.xs0) (by rfl) (V.free 6 _ (by rfl)) (by rfl) (da_cons cx (de_var (i := 3)) (da_cons cx (de_ty (n := .tuple) (by rfl) (V.free 13 _ (by rfl)) (by rfl)) da_nil))))) (dw_or cx (dt_cmp cx (opd_ne cx cx.u64) (de_callB (call_len_d cx) (by rfl) (V.free 7 _ (by rfl)) (by rfl) (da_cons cx (de_var (i := 3)) da_nil)) de_int (by rfl)) (dw_or cx (dt_not (dt_val (de_call cx (d__law_is_word V) hr (by decide) (by rfl) (da_cons cx (de_ix cx (de_var (i := 3)) de_int) da_nil)))) (dw_or1 (dt_not (dt_val (de_callB (call_isi_x cx V.xs0) (by rfl) (V.free 6 _ (by rfl)) (by rfl) (da_cons cx (de_ix cx (de_var (i := 3)) de_int) (da_cons cx (de_ty (n := .tuple) (by rfl) (V.free 13 _ (by rfl)) (by rfl)) da_nil)))))))))))) (fun _ cx => de_int)) (de_lst false cx da_nil) (by rfl)))))
  (dss_one (ds_ret de_bl))
  dss_nil)
  (dss_cons (ds_set (i := 2) cx (de_callB (call_len_d cx) (by rfl) (V.free 7 _ (by rfl)) (by rfl) (da_cons cx (de_ix cx (de_ix cx (de_var (i := 1)) de_int) de_int) da_nil)))
  (dss_cons (ds_if cx (DW.dt (dw_or cx (dt_not (dt_chain cx opd_le opd_le de_int (de_var (i := 2)) de_int)) (dw_or1 (dt_cmp cx (opd_ne cx cx.u64) (de_lc false [("row", 3)] cx (di_seq cx (de_var (i := 1))) (blkOk_by (by rfl)) (fun _ cx => (dgc_name cx)) (fun _ cx => (dps_one (dt_not (dt_val (de_call cx (d__law_ph_is_vector V) hr (by decide) (by rfl) (da_cons cx (de_ix cx (de_var (i := 3)) de_int) (da_cons cx (de_var (i := 2)) da_nil))))))) (fun _ cx => de_int)) (de_lst false cx da_nil) (by rfl)))))
  (dss_one (ds_ret de_bl))
  dss_nil)
  (dss_one (ds_ret (de_cmp cx (opd_eq cx cx.u64) (de_lc false [("at", 4)] cx (di_range1 (by rfl) (V.free 10 _ (by rfl)) (da_cons cx (de_op cx opd_sub (de_callB (call_len_d cx) (by rfl) (V.free 7 _ (by rfl)) (by rfl) (da_cons cx (de_var (i := 1)) da_nil)) de_int) da_nil)) (blkOk_by (by rfl)) (fun _ cx => (dgc_name cx)) (fun _ cx => (dps_one (dt_cmp cx opd_geA (de_ix cx (de_ix cx (de_var (i := 1)) (de_var (i := 4))) de_int) (de_ix cx (de_ix cx (de_var (i := 1)) (de_op cx (opd_add false cx) (de_var (i := 4)) de_int)) de_int) (by rfl)))) (fun _ cx => (de_var (i := 4)))) (de_lst false cx da_nil) (by rfl)))))))))
theorem sc__law_lines : FnScope (["draws", "d", "words", "found", "size", "word", "some", "old", "f"] : List Str) (["draws"] : List Str) (defScope (top 68)) := ⟨rfl, rfl, rfl, by decide +kernel, rfl, by decide +kernel, by decide +kernel⟩
theorem d__law_lines {P : Program} {w : World} {base : Heap} {R : RC} (V : Ev cfg P w base R) : FnD P w base R "_law_lines" 46 ["draws"] (top 68) F__law_lines := by
  unfold F__law_lines
  exact V.defT 52 rfl sc__law_lines (by decide) (fun _ _ _ _ _ _ us hl => match us, hl with | [_], _ => rfl) fun f cdv A outer s H E hr cx =>
  (dss_cons (ds_par2 (i := 1) (j := 2) cx (da_cons cx (de_op cx (opd_add false cx) de_int (de_call cx (d__law_draw V) hr (by decide) (by rfl) (da_cons cx (de_var (i := 0)) (da_cons cx de_int da_nil)))) (da_cons cx (de_call cx (d__law_words V) hr (by decide) (by rfl) (da_cons cx (de_var (i := 0)) (da_cons cx (de_op cx (opd_add false cx) de_int (de_call cx (d__law_draw V) hr (by decide) (by rfl) (da_cons cx (de_var (i := 0)) (da_cons cx de_int da_nil)))) da_nil))) da_nil)))
  (dss_cons (ds_par2 (i := 3) (j := 4) cx (da_cons cx (de_lst true cx da_nil) (da_cons cx (de_call cx (d__law_pick V) hr (by decide) (by rfl) (da_cons cx (de_var (i := 0)) (da_cons cx (de_lst false cx (da_cons cx de_int (da_cons cx de_int (da_cons cx de_int (da_cons cx (de_op cx opd_powW de_int de_int) da_nil))))) da_nil))) da_nil)))
  (dss_cons (ds_for cx (di_seq cx (de_var (i := 2))) (dg_name cx)
  (dss_cons (ds_set (i := 6) cx (de_lst false cx (da_cons cx (de_call cx (d__law_vector V) hr (by decide) (by rfl) (da_cons cx (de_var (i := 0)) (da_cons cx (de_op cx (opd_add false cx) (de_var (i := 1)) de_int) (da_cons cx (de_var (i := 4)) da_nil)))) (da_cons cx (de_call cx (d__law_vector V) hr (by decide) (by rfl) (da_cons cx (de_var (i := 0)) (da_cons cx (de_op cx (opd_add false cx) (de_var (i := 1)) de_int) (da_cons cx (de_var (i := 4)) da_nil)))) da_nil))))
  (dss_cons (ds_if cx (dt_cmp cx (opd_ne cx cx.u64) (de_var (i := 3)) (de_lst false cx da_nil) (by rfl))
  (dss_cons (ds_set (i := 7) cx (de_call cx (d__law_pick V) hr (by decide) (by rfl) (da_cons cx (de_var (i := 0)) (da_cons cx (de_var (i := 3)) da_nil))))
  (dss_one (ds_set (i := 6) cx (de_op cx (opd_add false cx) (de_var (i := 6)) (de_lst false cx (da_cons cx (de_var (i := 7)) (da_cons cx (de_op cx (opd_add false cx) (de_sl false cx (de_var (i := 7)) do_none (do_some (de_neg de_int))) (de_tup cx (da_cons cx (de_call cx (d__law_minus V) hr (by decide) (by rfl) (da_cons cx (de_ix cx (de_var (i := 7)) (de_neg de_int)) (da_cons cx (de_tup cx (da_cons cx de_int (da_cons cx de_int da_nil))) da_nil))) da_nil))) (da_cons cx (de_call cx (d__law_ph_turned V) hr (by decide) (by rfl) (da_cons cx (de_var (i := 7)) da_nil)) da_nil))))))))
  dss_nil)
  (dss_one (ds_expr cx (de_meth (PySem.F.plainAttrs_list) PySem.F.slot_list_append PySem.F.type_list_append cx (mt_append_d cx) (de_var (i := 3)) (da_cons cx (de_call cx (d__law_pick V) hr (by decide) (by rfl) (da_cons cx (de_var (i := 0)) (da_cons cx (de_var (i := 6)) da_nil))) da_nil)))))))
  (dss_one (ds_ret (de_tup cx (da_cons cx de_str (da_cons cx (de_callTy (call_tuple_d cx) (by rfl) (V.free 13 _ (by rfl)) (by rfl) (da_cons cx (de_lc false [("word", 5), ("f", 8)] cx (di_zip2 cx (by rfl) (V.free 14 _ (by rfl)) (da_cons cx (de_var (i := 2)) (da_cons cx (de_var (i := 3)) da_nil))) (blkOk_by (by rfl)) (fun _ cx => (dgc_tup 2 cx (dgsc_cons cx (dgc_name cx) (dgsc_cons cx (dgc_name cx) dgsc_nil)))) (fun _ cx => dps_nil) (fun _ cx => (de_tup cx (da_cons cx (de_var (i := 5)) (da_cons cx (de_var (i := 8)) da_nil))))) da_nil)) da_nil))))))))
theorem sc__law_near : FnScope (["draws", "value", "rows", "wide", "f", "some", "word"] : List Str) (["draws", "value"] : List Str) (defScope (top 69)) := ⟨rfl, rfl, rfl, by decide +kernel, rfl, by decide +kernel, by decide +kernel⟩
theorem d__law_near {P : Program} {w : World} {base : Heap} {R : RC} (V : Ev cfg P w base R) : FnD P w base R "_law_near" 53 ["draws", "value"] (top 69) F__law_near := by
  unfold F__law_near
  exact V.def_ 53 rfl sc__law_near (by decide) (fun _ _ _ _ _ _ us hl => match us, hl with | [_, _], _ => rfl) fun f cdv A outer s H E hr cx =>
  (dss_cons (ds_par2 (i := 2) (j := 3) cx (da_cons cx (de_ix cx (de_var (i := 1)) de_int) (da_cons cx (de_callB (call_len_d cx) (by rfl) (V.free 7 _ (by rfl)) (by rfl) (da_cons cx (de_ix cx (de_ix cx (de_ix cx (de_var (i := 1)) de_int) de_int) de_int) da_nil)) da_nil)))
  (dss_cons (ds_set (i := 4) cx (de_op cx (opd_mul false cx) (de_tup cx (da_cons cx (de_tup cx (da_cons cx de_int (da_cons cx de_int da_nil))) da_nil)) (de_var (i := 3))))
  (dss_cons (ds_set (i := 5) cx (de_lst false cx (da_cons cx (de_tup cx (da_cons cx de_str (da_cons cx (de_rev cx (de_var (i := 2))) da_nil))) (da_cons cx (de_tup cx (da_cons cx de_str (da_cons cx (de_op cx (opd_add false cx) (de_var (i := 2)) (de_sl false cx (de_var (i := 2)) (do_some (de_neg de_int)) do_none)) da_nil))) (da_cons cx (de_tup cx (da_cons cx de_str (da_cons cx (de_tup cx da_nil) da_nil))) (da_cons cx (de_callTy (call_list_d false cx) (by rfl) (V.free 8 _ (by rfl)) (by rfl) (da_cons cx (de_var (i := 1)) da_nil)) (da_cons cx (de_tup cx (da_cons cx de_str (da_cons cx (de_var (i := 2)) da_nil))) (da_cons cx (de_tup cx (da_cons cx de_str (da_cons cx (de_callTy (call_list_d false cx) (by rfl) (V.free 8 _ (by rfl)) (by rfl) (da_cons cx (de_var (i := 2)) da_nil)) da_nil))) da_nil))))))))
  (dss_cons (ds_set (i := 5) cx (de_op cx (opd_add false cx) (de_var (i := 5)) (de_lst false cx (da_cons cx (de_tup cx (da_cons cx de_str (da_cons cx (de_tup cx (da_cons cx (de_tup cx (da_cons cx de_str (da_cons cx (de_tup cx (da_cons cx (de_tup cx (da_cons cx de_int (da_cons cx de_int da_nil))) da_nil)) da_nil))) da_nil)) da_nil))) (da_cons cx (de_tup cx (da_cons cx de_str (da_cons cx (de_tup cx (da_cons cx (de_tup cx (da_cons cx de_str (da_cons cx (de_op cx (opd_mul false cx) (de_tup cx (da_cons cx (de_tup cx (da_cons cx de_int (da_cons cx de_int da_nil))) da_nil)) de_int) da_nil))) da_nil)) da_nil))) (da_cons cx (de_call cx (d__law_odd V) hr (by decide) (by rfl) (da_cons cx (de_var (i := 0)) da_nil)) da_nil))))))
  (dss_cons (ds_set (i := 5) cx (de_op cx (opd_add false cx) (de_var (i := 5)) (de_lst false cx (da_cons cx (de_tup cx (da_cons cx de_str (da_cons cx (de_callTy (call_tuple_d cx) (by rfl) (V.free 13 _ (by rfl)) (by rfl) (da_cons cx (de_lc false [("word", 6)] cx (di_seq cx (de_sl false cx (de_lst false cx (da_cons cx de_str (da_cons cx de_str (da_cons cx de_str (da_cons cx de_str (da_cons cx de_str (da_cons cx de_str (da_cons cx de_str da_nil)))))))) do_none (do_some (de_op cx (opd_add false cx) de_int (de_call cx (d__law_draw V) hr (by decide) (by rfl) (da_cons cx (de_var (i := 0)) (da_cons cx de_int da_nil))))))) (blkOk_by (by rfl)) (fun _ cx => (dgc_name cx)) (fun _ cx => dps_nil) (fun _ cx => (de_tup cx (da_cons cx (de_var (i := 6)) (da_cons cx (de_var (i := 4)) da_nil))))) da_nil)) da_nil))) (da_cons cx (de_tup cx (da_cons cx de_str (da_cons cx (de_op cx (opd_add false cx) (de_var (i := 2)) (de_tup cx (da_cons cx (de_tup cx (da_cons cx de_str (da_cons cx (de_op cx (opd_add false cx) (de_var (i := 4)) (de_tup cx (da_cons cx (de_tup cx (da_cons cx de_int (da_cons cx de_int da_nil))) da_nil))) da_nil))) da_nil))) da_nil))) da_nil)))))
  (dss_one (ds_ret (de_call cx (d__law_pick V) hr (by decide) (by rfl) (da_cons cx (de_var (i := 0)) (da_cons cx (de_op cx (opd_add false cx) (de_var (i := 5)) (de_op cx (opd_mul false cx) (de_lst false cx (da_cons cx (de_call cx (d__law_ph_bent V 8) hr (by decide) (by rfl) (da_cons cx (de_var (i := 0)) (da_cons cx (de_var (i := 1)) da_nil))) da_nil)) de_int)) da_nil))))))))))
theorem sc__law_meeting : FnScope (["draws", "lines", "d", "one", "other", "row", "point", "places", "lead", "at", "left", "right"] : List Str) (["draws", "lines"] : List Str) (defScope (top 70)) := ⟨rfl, rfl, rfl, by decide +kernel, rfl, by decide +kernel, by decide +kernel⟩
theorem d__law_meeting {P : Program} {w : World} {base : Heap} {R : RC} (V : Ev cfg P w base R) : FnD P w base R "_law_meeting" 46 ["draws", "lines"] (top 70) F__law_meeting := by
  unfold F__law_meeting
  exact V.def_ 54 rfl sc__law_meeting (by decide) (fun _ _ _ _ _ _ us hl => match us, hl with | [_, _], _ => rfl) fun f cdv A outer s H E hr cx =>
  (dss_cons (ds_set (i := 2) cx (de_op cx opd_sub (de_callB (call_len_d cx) (by rfl) (V.free 7 _ (by rfl)) (by rfl) (da_cons cx (de_ix cx (de_ix cx (de_ix cx (de_var (i := 1)) de_int) de_int) de_int) da_nil)) de_int))
  (dss_cons (ds_par2 (i := 3) (j := 4) cx (da_cons cx (de_ix cx (de_call cx (d__law_pick V) hr (by decide) (by rfl) (da_cons cx (de_var (i := 0)) (da_cons cx (de_ix cx (de_var (i := 1)) de_int) da_nil))) de_int) (da_cons cx (de_ix cx (de_call cx (d__law_pick V) hr (by decide) (by rfl) (da_cons cx (de_var (i := 0)) (da_cons cx (de_ix cx (de_var (i := 1)) de_int) da_nil))) de_int) da_nil)))
  (dss_cons (ds_asg cx (de_tup cx (da_cons cx (de_callTy (call_tuple_d cx) (by rfl) (V.free 13 _ (by rfl)) (by rfl) (da_cons cx (de_lc false [("left", 10), ("right", 11)] cx (di_zip2 cx (by rfl) (V.free 14 _ (by rfl)) (da_cons cx (de_sl false cx (de_var (i := 3)) do_none (do_some (de_neg de_int))) (da_cons cx (de_sl false cx (de_var (i := 4)) do_none (do_some (de_neg de_int))) da_nil))) (blkOk_by (by rfl)) (fun _ cx => (dgc_tup 2 cx (dgsc_cons cx (dgc_name cx) (dgsc_cons cx (dgc_name cx) dgsc_nil)))) (fun _ cx => dps_nil) (fun _ cx => (de_call cx (d__law_minus V) hr (by decide) (by rfl) (da_cons cx (de_var (i := 10)) (da_cons cx (de_var (i := 11)) da_nil))))) da_nil)) (da_cons cx (de_call cx (d__law_vector V) hr (by decide) (by rfl) (da_cons cx (de_var (i := 0)) (da_cons cx (de_var (i := 2)) (da_cons cx de_int da_nil)))) da_nil))) (dg_tup 2 cx (dgs_cons cx (dg_name cx) (dgs_cons cx (dg_name cx) dgs_nil))))
  (dss_cons (ds_setLc (i := 7) false [("at", 9)] cx (di_range1 (by rfl) (V.free 10 _ (by rfl)) (da_cons cx (de_var (i := 2)) da_nil)) (blkOk_by (by rfl)) (fun _ cx => (dgc_name cx)) (fun _ cx => (dps_one (dt_cmp cx (opd_ne cx cx.u64) (de_ix cx (de_ix cx (de_var (i := 5)) (de_var (i := 9))) de_int) de_int (by rfl)))) (fun _ cx => (de_var (i := 9))))
  (dss_cons (ds_if cx (DW.dt (dw_or cx (dt_cmp cx (opd_eq cx cx.u64) (de_var (i := 7)) (de_lst false cx da_nil) (by rfl)) (dw_or1 (dt_cmp cx (opd_eq cx cx.u64) (de_call cx (d__law_draw V) hr (by decide) (by rfl) (da_cons cx (de_var (i := 0)) (da_cons cx de_int da_nil))) de_int (by rfl)))))
  (dss_one (ds_ret (de_var (i := 6))))
  dss_nil)
  (dss_cons (ds_set (i := 8) cx (de_call cx (d__law_plus V) hr (by decide) (by rfl) (da_cons cx (de_call cx (d__law_dot V) hr (by decide) (by rfl) (da_cons cx (de_var (i := 5)) (da_cons cx (de_var (i := 6)) da_nil))) (da_cons cx (de_call cx (d__law_minus V) hr (by decide) (by rfl) (da_cons cx (de_ix cx (de_var (i := 3)) (de_neg de_int)) (da_cons cx (de_ix cx (de_var (i := 4)) (de_neg de_int)) da_nil))) da_nil))))
  (dss_cons (ds_set (i := 9) cx (de_ix cx (de_var (i := 7)) de_int))
  (dss_one (ds_ret (de_op cx (opd_add false cx) (de_op cx (opd_add false cx) (de_sl false cx (de_var (i := 6)) do_none (do_some (de_var (i := 9)))) (de_tup cx (da_cons cx (de_call cx (d__law_minus V) hr (by decide) (by rfl) (da_cons cx (de_ix cx (de_var (i := 6)) (de_var (i := 9))) (da_cons cx (de_call cx (d__law_over V) hr (by decide) (by rfl) (da_cons cx (de_var (i := 8)) (da_cons cx (de_ix cx (de_var (i := 5)) (de_var (i := 9))) da_nil))) da_nil))) da_nil))) (de_sl false cx (de_var (i := 6)) (do_some (de_op cx (opd_add false cx) (de_var (i := 9)) de_int)) do_none)))))))))))
theorem sc__law_points_right : FnScope (["draws", "lines", "d", "lap", "point", "due", "word", "f", "limits"] : List Str) (["draws", "lines"] : List Str) (defScope (top 71)) := ⟨rfl, rfl, rfl, by decide +kernel, rfl, by decide +kernel, by decide +kernel⟩
theorem d__law_points_right {P : Program} {w : World} {base : Heap} {R : RC} (V : Ev cfg P w base R) : FnD P w base R "_law_points_right" 48 ["draws", "lines"] (top 71) F__law_points_right := by
  unfold F__law_points_right
  exact V.def_ 55 rfl sc__law_points_right (by decide) (fun _ _ _ _ _ _ us hl => match us, hl with | [_, _], _ => rfl) fun f cdv A outer s H E hr cx =>
  (dss_cons (ds_set (i := 2) cx (de_op cx opd_sub (de_callB (call_len_d cx) (by rfl) (V.free 7 _ (by rfl)) (by rfl) (da_cons cx (de_ix cx (de_ix cx (de_ix cx (de_var (i := 1)) de_int) de_int) de_int) da_nil)) de_int))
  (dss_cons (ds_for cx (di_range1 (by rfl) (V.free 10 _ (by rfl)) (da_cons cx de_int da_nil)) (dg_name cx)
  (dss_cons (ds_set (i := 4) cx (de_call cx (d__law_meeting V) hr (by decide) (by rfl) (da_cons cx (de_var (i := 0)) (da_cons cx (de_var (i := 1)) da_nil))))
  (dss_cons (ds_set (i := 5) cx (de_call cx (d__law_ln_chosen V) hr (by decide) (by rfl) (da_cons cx (de_var (i := 1)) (da_cons cx (de_var (i := 4)) da_nil))))
  (dss_cons (ds_if cx (dt_not (dt_val (de_call cx (d__law_same V) hr (by decide) (by rfl) (da_cons cx (de_callK0 [1, 0] cx (d_chosen V) hr (by decide) (by rfl) (dk_cons cx (de_var (i := 4)) (dk_cons cx (de_var (i := 1)) dk_nil)) (fun _ _ _ _ _ _ ws hl => match ws, hl with | [_, _], _ => rfl) (fun ds hl => match ds, hl with | [_, _], _ => rfl)) (da_cons cx (de_var (i := 5)) da_nil)))))
  (dss_one (ds_ret de_bl))
  dss_nil)
  (dss_one (ds_for cx (di_seq cx (de_ix cx (de_var (i := 1)) de_int)) (dg_tup 2 cx (dgs_cons cx (dg_name cx) (dgs_cons cx (dg_name cx) dgs_nil)))
  (dss_cons (ds_set (i := 8) cx (de_call cx (d__law_ln_limits V) hr (by decide) (by rfl) (da_cons cx (de_var (i := 1)) (da_cons cx (de_var (i := 6)) da_nil))))
  (dss_one (ds_if cx (DW.dt (dw_or cx (dt_not (dt_val (de_call cx (d__law_same V) hr (by decide) (by rfl) (da_cons cx (de_callKM 1 [0, 1] cx (d_region V) hr (by decide) (by rfl) (da_cons cx (de_var (i := 1)) da_nil) (dk_cons cx (de_var (i := 6)) dk_nil) (fun _ _ _ _ _ _ us ws hl hl2 => match us, ws, hl, hl2 with | [_], [_], _, _ => rfl) rfl (fun ds hl => match ds, hl with | [_, _], _ => rfl)) (da_cons cx (de_tup cx (da_cons cx de_str (da_cons cx (de_var (i := 2)) (da_cons cx (de_var (i := 8)) da_nil)))) da_nil))))) (dw_or1 (dt_cmp cx (opd_ne cx cx.u64) (de_call cx (d__law_ph_keeps V) hr (by decide) (by rfl) (da_cons cx (de_var (i := 8)) (da_cons cx (de_var (i := 4)) da_nil))) (de_cmp cx (opd_inT cx) (de_var (i := 6)) (de_var (i := 5)) (by rfl)) (by rfl)))))
  (dss_one (ds_ret de_bl))
  dss_nil)))))))))
  (dss_one (ds_ret de_bl))))
theorem sc__law_refused : FnScope (["draws", "lines", "near", "d", "words", "point", "odd", "absent", "row"] : List Str) (["draws", "lines", "near"] : List Str) (defScope (top 72)) := ⟨rfl, rfl, rfl, by decide +kernel, rfl, by decide +kernel, by decide +kernel⟩
abbrev lam__law_refused_0 : Lam := lamAt (top 72) [8] [1, 1]
abbrev lam__law_refused_1 : Lam := lamAt (top 72) [7] [0, 1, 1]
abbrev lam__law_refused_2 : Lam := lamAt (top 72) [5] [0, 1, 1]
abbrev lam__law_refused_3 : Lam := lamAt (top 72) [4] [0, 1, 1]
theorem d__law_refused {P : Program} {w : World} {base : Heap} {R : RC} (V0 : Ev cfg P w base R) (h0 : ∀ i f c, R.clo i f c = none) : FnD P w base R "_law_refused" 50 ["draws", "lines", "near"] (top 72) F__law_refused := by
  unfold F__law_refused
  exact V0.defC (lams := [lam__law_refused_0, lam__law_refused_1, lam__law_refused_2, lam__law_refused_3]) 56 rfl 0 rfl h0 sc__law_refused (by decide) (fun _ _ _ _ _ _ us hl => match us, hl with | [_, _, _], _ => rfl) fun R' f cd Pt A outer s H E V eK eM TB hTm hTu hr cx C => by
    obtain ⟨g, CT, CF⟩ := catchF V
    have hbody : LamOk (cxOf (L2.CX P w) P w R.K R.mg base (["draws", "lines", "near", "d", "words", "point", "odd", "absent", "row"] : List Str) "_law_refused" (defScope (top 72)) f (.ref cd) A outer s H E) R' 47 [lam__law_refused_0, lam__law_refused_1, lam__law_refused_2, lam__law_refused_3] bs__law_refused := fun i l fb hl hb => match i, hl, hb with
      | 0, hl, hb => by
        obtain rfl := Option.some.inj hl
        obtain rfl := Option.some.inj hb
        exact ⟨lamS_by (by rfl), fun _ _ _ _ _ => by rfl, fun A outer s H E f c' hr cx => (de_call cx (d_region V) hr (by decide) (by rfl) (da_cons cx (de_var (i := 2)) (da_cons cx de_non da_nil)))⟩
      | 1, hl, hb => by
        obtain rfl := Option.some.inj hl
        obtain rfl := Option.some.inj hb
        exact ⟨lamS_by (by rfl), fun _ _ _ _ _ => by rfl, fun A outer s H E f c' hr cx => (de_call cx (d_chosen V) hr (by decide) (by rfl) (da_cons cx (de_var (i := 2)) (da_cons cx de_non da_nil)))⟩
      | 2, hl, hb => by
        obtain rfl := Option.some.inj hl
        obtain rfl := Option.some.inj hb
        exact ⟨lamS_by (by rfl), fun _ _ _ _ _ => by rfl, fun A outer s H E f c' hr cx => (de_call cx (d_region V) hr (by decide) (by rfl) (da_cons cx (de_var (i := 1)) (da_cons cx (de_var (i := 7)) da_nil)))⟩
      | 3, hl, hb => by
        obtain rfl := Option.some.inj hl
        obtain rfl := Option.some.inj hb
        exact ⟨lamS_by (by rfl), fun _ _ _ _ _ => by rfl, fun A outer s H E f c' hr cx => (de_call cx (d_chosen V) hr (by decide) (by rfl) (da_cons cx (de_var (i := 1)) (da_cons cx (de_var (i := 6)) da_nil)))⟩
      | i + 4, hl, hb => by cases hl
    exact (dss_cons (ds_par2 (i := 3) (j := 4) cx (da_cons cx (de_op cx opd_sub (de_callB (call_len_d cx) (by rfl) (V0.free 7 _ (by rfl)) (by rfl) (da_cons cx (de_ix cx (de_ix cx (de_ix cx (de_var (i := 1)) de_int) de_int) de_int) da_nil)) de_int) (da_cons cx (de_lc false [("row", 8)] cx (di_seq cx (de_ix cx (de_var (i := 1)) de_int)) (blkOk_by (by rfl)) (fun _ cx => (dgc_name cx)) (fun _ cx => dps_nil) (fun _ cx => (de_ix cx (de_var (i := 8)) de_int))) da_nil)))
  (dss_cons (ds_set (i := 5) cx (de_op cx (opd_mul false cx) (de_tup cx (da_cons cx (de_tup cx (da_cons cx de_int (da_cons cx de_int da_nil))) da_nil)) (de_var (i := 3))))
  (dss_cons (ds_set (i := 6) cx (de_call cx (d__law_pick V) hr (by decide) (by rfl) (da_cons cx (de_var (i := 0)) (da_cons cx (de_lst false cx (da_cons cx de_non (da_cons cx (de_callTy (call_list_d false cx) (by rfl) (V0.free 8 _ (by rfl)) (by rfl) (da_cons cx (de_var (i := 5)) da_nil)) (da_cons cx (de_op cx (opd_add false cx) (de_var (i := 5)) (de_tup cx (da_cons cx (de_tup cx (da_cons cx de_int (da_cons cx de_int da_nil))) da_nil))) (da_cons cx (de_op cx (opd_mul false cx) (de_tup cx (da_cons cx (de_tup cx (da_cons cx de_int (da_cons cx de_int da_nil))) da_nil)) (de_var (i := 3))) (da_cons cx (de_op cx (opd_mul false cx) (de_tup cx (da_cons cx de_int da_nil)) (de_var (i := 3))) (da_cons cx (de_tup cx da_nil) da_nil))))))) da_nil))))
  (dss_cons (ds_set (i := 7) cx (de_call cx (d__law_pick V) hr (by decide) (by rfl) (da_cons cx (de_var (i := 0)) (da_cons cx (de_lst false cx (da_cons cx de_non (da_cons cx de_str (da_cons cx de_int (da_cons cx de_str (da_cons cx (de_tup cx (da_cons cx (de_ix cx (de_var (i := 4)) de_int) da_nil)) (da_cons cx (de_op cx (opd_mul false cx) de_str de_int) da_nil))))))) da_nil))))
  (dss_cons (ds_if cx (dt_not (dt_val (de_callB (call_isi_x cx V.xs) (by rfl) (V0.free 6 _ (by rfl)) (by rfl) (da_cons cx (de_caught (j := 47) V.B cx C CF (by decide) hr (by rfl) hbody (de_lam (l := ⟨_, _, _⟩) 3 cx C (by kernel_rfl) TB (by rfl) hTm hTu (lamS_by (by rfl)))) (da_cons cx (de_gl cx (by rfl) (V.gloX 1 rfl)) da_nil)))))
  (dss_one (ds_ret de_bl))
  dss_nil)
  (dss_cons (ds_if cx (dt_not (dt_val (de_callB (call_isi_x cx V.xs) (by rfl) (V0.free 6 _ (by rfl)) (by rfl) (da_cons cx (de_caught (j := 47) V.B cx C CF (by decide) hr (by rfl) hbody (de_lam (l := ⟨_, _, _⟩) 2 cx C (by kernel_rfl) TB (by rfl) hTm hTu (lamS_by (by rfl)))) (da_cons cx (de_gl cx (by rfl) (V.gloX 2 rfl)) da_nil)))))
  (dss_one (ds_ret de_bl))
  dss_nil)
  (dss_cons (ds_if cx (dt_val (de_call cx (d__law_is_lines V) hr (by decide) (by rfl) (da_cons cx (de_var (i := 2)) da_nil)))
  (dss_one (ds_ret de_bl))
  dss_nil)
  (dss_cons (ds_if cx (dt_not (dt_val (de_callB (call_isi_x cx V.xs) (by rfl) (V0.free 6 _ (by rfl)) (by rfl) (da_cons cx (de_caught (j := 47) V.B cx C CF (by decide) hr (by rfl) hbody (de_lam (l := ⟨_, _, _⟩) 1 cx C (by kernel_rfl) TB (by rfl) hTm hTu (lamS_by (by rfl)))) (da_cons cx (de_gl cx (by rfl) (V.gloX 3 rfl)) da_nil)))))
  (dss_one (ds_ret de_bl))
  dss_nil)
  (dss_one (ds_ret (de_callB (call_isi_x cx V.xs) (by rfl) (V0.free 6 _ (by rfl)) (by rfl) (da_cons cx (de_caught (j := 47) V.B cx C CF (by decide) hr (by rfl) hbody (de_lam (l := ⟨_, _, _⟩) 0 cx C (by kernel_rfl) TB (by rfl) hTm hTu (lamS_by (by rfl)))) (da_cons cx (de_gl cx (by rfl) (V.gloX 3 rfl)) da_nil)))))))))))))
theorem sc_law : FnScope (["script", "draws", "turn", "lines", "near"] : List Str) (["script"] : List Str) (defScope (top 73)) := ⟨rfl, rfl, rfl, by decide +kernel, rfl, by decide +kernel, by decide +kernel⟩
theorem d_law {P : Program} {w : World} {base : Heap} {R : RC} (V : Ev cfg P w base R) (h0 : ∀ i f c, R.clo i f c = none) : FnD P w base R "law" 54 ["script"] (top 73) F_law := by
  unfold F_law
  exact V.def_ 57 rfl sc_law (by decide) (fun _ _ _ _ _ _ us hl => match us, hl with | [_], _ => rfl) fun f cdv A outer s H E hr cx =>
  (dss_cons (ds_set (i := 1) cx (de_call cx (d__law_begun V) hr (by decide) (by rfl) (da_cons cx (de_var (i := 0)) da_nil)))
  (dss_cons (ds_for cx (di_range1 (by rfl) (V.free 10 _ (by rfl)) (da_cons cx (de_op cx (opd_add false cx) de_int (de_callB (call_min2_d cx) (by rfl) (V.free 9 _ (by rfl)) (by rfl) (da_cons cx (de_callB (call_len_d cx) (by rfl) (V.free 7 _ (by rfl)) (by rfl) (da_cons cx (de_var (i := 0)) da_nil)) (da_cons cx de_int da_nil)))) da_nil)) (dg_name cx)
  (dss_cons (ds_set (i := 3) cx (de_call cx (d__law_lines V) hr (by decide) (by rfl) (da_cons cx (de_var (i := 1)) da_nil)))
  (dss_cons (ds_set (i := 4) cx (de_call cx (d__law_near V) hr (by decide) (by rfl) (da_cons cx (de_var (i := 1)) (da_cons cx (de_var (i := 3)) da_nil))))
  (dss_cons (ds_if cx (DW.dt (dw_or cx (dt_not (dt_val (de_call cx (d__law_is_truth V) hr (by decide) (by rfl) (da_cons cx (de_call cx (d_is_lines V) hr (by decide) (by rfl) (da_cons cx (de_var (i := 3)) da_nil)) (da_cons cx de_bl da_nil))))) (dw_or1 (dt_not (dt_val (de_call cx (d__law_is_truth V) hr (by decide) (by rfl) (da_cons cx (de_callK0 [0] cx (d_is_lines V) hr (by decide) (by rfl) (dk_cons cx (de_var (i := 4)) dk_nil) (fun _ _ _ _ _ _ ws hl => match ws, hl with | [_], _ => rfl) (fun ds hl => match ds, hl with | [_], _ => rfl)) (da_cons cx (de_call cx (d__law_is_lines V) hr (by decide) (by rfl) (da_cons cx (de_var (i := 4)) da_nil)) da_nil))))))))
  (dss_one (ds_ret de_bl))
  dss_nil)
  (dss_one (ds_if cx (DW.dt (dw_or cx (dt_not (dt_val (de_call cx (d__law_points_right V) hr (by decide) (by rfl) (da_cons cx (de_var (i := 1)) (da_cons cx (de_var (i := 3)) da_nil))))) (dw_or1 (dt_not (dt_val (de_call cx (d__law_refused V h0) hr (by decide) (by rfl) (da_cons cx (de_var (i := 1)) (da_cons cx (de_var (i := 3)) (da_cons cx (de_var (i := 4)) da_nil)))))))))
  (dss_one (ds_ret de_bl))
  dss_nil))))))
  (dss_one (ds_ret de_bl))))
end K90
end TL
end
section
/-! k90: lines judged. -/
namespace TL
open L2 (atI ixN)
open PySem PySem.Spec PyProof.Rows L2
def rowW : D → List Nat
  | .tup (.str w :: _) => w.cps.toList
  | _ => []
def rowN : D → Nat
  | .tup [_, .tup v] => v.length
  | _ => 0
def ascB : List D → Bool
  | x :: y :: r => decide (rowW x < rowW y) && ascB (y :: r)
  | _ => true
def isLines : D → Bool
  | .tup [.str s, .tup rows] => decide (s = "lines") && (decide (1 ≤ rows.length) && (decide (rows.length ≤ 6) && (rows.all isLine && (rows.all (fun r => decide (rowN r = rowN (rows.headD .non))) && ascB rows))))
  | _ => false
theorem isLine_out {d : D} (h : isLine d = true) : ∃ (w : Str) (v : List D), d = .tup [.str w, .tup v] ∧ isWd (.str w) = true ∧ isVec (.tup v) = true ∧ 2 ≤ v.length ∧ v.length ≤ 4 := by
  unfold isLine at h
  split at h
  · rename_i w v
    simp only [Bool.and_eq_true] at h
    obtain ⟨h1, h2, h3⟩ := h
    cases w with
    | str w =>
      cases v with
      | tup v =>
        simp only [Bool.and_eq_true, decide_eq_true_eq] at h3
        exact ⟨w, v, rfl, h1, h2, h3.1, h3.2⟩
      | _ => cases h2
    | _ => cases h1
  · cases h
theorem asc_range : ∀ rows : List D, (List.range (rows.length - 1)).all (fun i => decide (rowW (rows.getD i .non) < rowW (rows.getD (i + 1) .non))) = ascB rows
  | [] => rfl
  | [x] => rfl
  | x :: y :: r => by
    have ih := asc_range (y :: r)
    show (List.range (r.length + 1)).all _ = _
    rw [List.range_succ_eq_map, List.all_cons, List.all_map]
    unfold ascB
    rw [← ih]
    rfl
namespace Cm
section
variable {m : MS} {n : Nat}
theorem wp_ltA_str {x y : Str} {P : D → MS → Prop} : wp (ltA (.str x) (.str y) m) P ↔ P (.bl (decide (x.cps.toList < y.cps.toList))) m := Iff.rfl
theorem wp_geA_str {x y : Str} {P : D → MS → Prop} : wp (geA (.str x) (.str y) m) P ↔ P (.bl (!decide (x.cps.toList < y.cps.toList))) m := Iff.rfl
theorem isLines_rows {rows : List D} : isLines (.tup [.str "lines", .tup rows]) = (decide (1 ≤ rows.length) && (decide (rows.length ≤ 6) && (rows.all isLine && (rows.all (fun r => decide (rowN r = rowN (rows.headD .non))) && ascB rows)))) := by
  unfold isLines
  simp
theorem isLines_neq {s : Str} {v : D} (h : ¬ s = "lines") : isLines (.tup [.str s, v]) = false := by
  cases v <;> simp [isLines, h]
theorem lines_rows {rows : List D} {a : Option D} (hn : n ≤ 1000000) (hl2 : rows.length ≤ n) (hr : ∀ x ∈ rows, okV n x = true) :
    if (1 : Int) ≤ rows.length then
      if (rows.length : Int) ≤ 6 then
        wp (lcW { items := rows, gs := [] : ItD }.Ok (gN 2) bYes (dCall (lenF 1 F_is_line) (aCons (dVar 2) aNil)) (wipeD [a, some (.tup rows), none, none] [2]) rows m)
          fun zs m2 => zs.length ≤ 1000000 ∧ match allB zs with
            | some bs => if false ∈ bs then (decide (1 ≤ rows.length) && (decide (rows.length ≤ 6) && (rows.all isLine && (rows.all (fun r => decide (rowN r = rowN (rows.headD .non))) && ascB rows)))) = false ∧ m2 = m
              else wp (lcW { items := rows, gs := [] : ItD }.Ok (gN 2) bYes (dBin (eqD true) (dCallB (arg1 lenD) (aCons (dBin ixD (dVar 2) (dC (.int 1))) aNil)) (dCallB (arg1 lenD) (aCons (dBin ixD (dBin ixD (dVar 1) (dC (.int 0))) (dC (.int 1))) aNil))) (wipeD [a, some (.tup rows), none, none] [2]) rows m2)
                fun zs m2 => zs.length ≤ 1000000 ∧ match allB zs with
                  | some bs => if true ∈ bs then (decide (1 ≤ rows.length) && (decide (rows.length ≤ 6) && (rows.all isLine && (rows.all (fun r => decide (rowN r = rowN (rows.headD .non))) && ascB rows)))) = false ∧ m2 = m
                    else ((-4611686018427387904 : Int) ≤ rows.length - 1 ∧ (rows.length : Int) - 1 < 4611686018427387904) ∧
                      wp (lcW { items := rng 0 (rows.length - 1), gs := [] : ItD }.Ok (gN 3) bYes (dBin ltA (dBin ixD (dBin ixD (dVar 1) (dVar 3)) (dC (.int 0))) (dBin ixD (dBin ixD (dVar 1) (dBin (addD false) (dVar 3) (dC (.int 1)))) (dC (.int 0)))) (wipeD [a, some (.tup rows), none, none] [3]) (rng 0 (rows.length - 1)) m2)
                        fun zs m2 => zs.length ≤ 1000000 ∧ match allB zs with
                          | some bs => bs.all id = (decide (1 ≤ rows.length) && (decide (rows.length ≤ 6) && (rows.all isLine && (rows.all (fun r => decide (rowN r = rowN (rows.headD .non))) && ascB rows)))) ∧ m2 = m
                          | none => False
                  | none => False
            | none => False
      else (decide (1 ≤ rows.length) && (decide (rows.length ≤ 6) && (rows.all isLine && (rows.all (fun r => decide (rowN r = rowN (rows.headD .non))) && ascB rows)))) = false
    else (decide (1 ≤ rows.length) && (decide (rows.length ≤ 6) && (rows.all isLine && (rows.all (fun r => decide (rowN r = rowN (rows.headD .non))) && ascB rows)))) = false := by
  by_cases h1 : 1 ≤ rows.length
  · have h1' : (1 : Int) ≤ rows.length := by omega
    rw [if_pos h1']
    by_cases h2 : rows.length ≤ 6
    · have h2' : (rows.length : Int) ≤ 6 := by omega
      rw [if_pos h2']
      have hb : ∀ f : D → D, (rows.map f).length ≤ 1000000 := fun f => by rw [List.length_map]; omega
      refine wp_lcW_map (fun r => .bl (isLine r)) ok_nil' (fun x hx => ?_) ⟨hb _, ?_⟩
      · simp [look, wipeD, e_is_line (m := m) (hr x hx) hn]
      rw [allB_map2]
      cases ha : rows.all isLine with
      | false =>
        have : false ∈ rows.map isLine := by
          obtain ⟨x, hx, e⟩ := List.all_eq_false.mp ha
          exact List.mem_map.mpr ⟨x, hx, by simpa using e⟩
        simp only [this, if_true]
        simp
      | true =>
        have hall := List.all_eq_true.mp ha
        have : ¬ false ∈ rows.map isLine := by
          intro q
          obtain ⟨x, hx, e⟩ := List.mem_map.mp q
          rw [hall x hx] at e
          cases e
        simp only [this, if_false]
        obtain ⟨r0, rest, er⟩ : ∃ r0 rest, rows = r0 :: rest := by
          cases rows with
          | nil => simp at h1
          | cons a b => exact ⟨a, b, rfl⟩
        obtain ⟨w0, v0, e0, _⟩ := isLine_out (hall r0 (by rw [er]; simp))
        have hat : atI rows 0 = some r0 := by rw [er]; simp
        have hhd : rows.headD .non = r0 := by rw [er]; rfl
        refine wp_lcW_map (fun r => .bl (!decide (rowN r = rowN (rows.headD .non)))) ok_nil' (fun x hx => ?_) ⟨hb _, ?_⟩
        · obtain ⟨w, v, e, _⟩ := isLine_out (hall x hx)
          rw [hhd]
          subst e e0
          simp [look, wipeD, hat, rowN]
          by_cases q : v.length = v0.length
          · simp [q]
          · have : ¬ ((v.length : Int) = v0.length) := by omega
            simp [q, this]
        rw [allB_map2]
        cases hc : rows.all (fun r => decide (rowN r = rowN (rows.headD .non))) with
        | false =>
          have : true ∈ rows.map (fun r => !decide (rowN r = rowN (rows.headD .non))) := by
            obtain ⟨x, hx, e⟩ := List.all_eq_false.mp hc
            exact List.mem_map.mpr ⟨x, hx, by simpa using e⟩
          simp only [this, if_true]
          simp
        | true =>
          have hcall := List.all_eq_true.mp hc
          have : ¬ true ∈ rows.map (fun r => !decide (rowN r = rowN (rows.headD .non))) := by
            intro q
            obtain ⟨x, hx, e⟩ := List.mem_map.mp q
            rw [hcall x hx] at e
            cases e
          simp only [this, if_false]
          refine ⟨by omega, ?_⟩
          rw [rng_map]
          refine wp_lcW_mapA _ (fun i => .bl (decide (rowW (rows.getD i .non) < rowW (rows.getD (i + 1) .non)))) ok_nil' (fun i hi => ?_) ?_
          · have hi' : i < rows.length - 1 := List.mem_range.mp hi
            have hi0 : i < rows.length := by omega
            have hi1 : i + 1 < rows.length := by omega
            obtain ⟨w, v, e, _⟩ := isLine_out (hall rows[i] (List.getElem_mem hi0))
            obtain ⟨w', v', e', _⟩ := isLine_out (hall rows[i+1] (List.getElem_mem hi1))
            have a0 := atI_nat hi0
            have a1 : atI rows ((i : Int) + 1) = some rows[i+1] := atI_nat hi1
            have g0 : rows.getD i .non = rows[i] := by simp [hi0]
            have g1 : rows.getD (i+1) .non = rows[i+1] := by simp [hi1]
            rw [g0, g1]
            rw [e] at a0 ⊢
            rw [e'] at a1 ⊢
            simp [look, wipeD, a0, a1, wp_ltA_str, rowW]
          · refine ⟨by simp; omega, ?_⟩
            have hz := allB_map (fun i : Nat => decide (rowW (rows.getD i .non) < rowW (rows.getD (i + 1) .non))) (List.range (rows.length - 1))
            rw [hz]
            refine ⟨?_, rfl⟩
            rw [← asc_range, List.all_map]
            simp [h1, h2]
    · have h2' : ¬ (rows.length : Int) ≤ 6 := by omega
      rw [if_neg h2']
      simp [h2]
  · have h1' : ¬ (1 : Int) ≤ rows.length := by omega
    rw [if_neg h1']
    simp [h1]
theorem e_is_lines {d : D} (h : okV n d = true) (hn : n ≤ 1000000) : F_is_lines [d] m = .ok (.bl (isLines d)) m := by
  refine eq_of_wp ?_
  simp [F_is_lines, u_is_lines, startD, look, tyN_1 (okV.ty1 h)]
  cases d with
  | tup xs =>
    obtain ⟨hl, hx⟩ := okV_tup.mp h
    simp [tyOf, isT, look]
    match xs, hl, hx with
    | [], _, _ => simp [isLines]
    | [w], _, _ => simp [isLines]
    | x :: y :: z :: r, _, _ =>
      have : ¬ ((r.length : Int) + 1 + 1 + 1 = 2) := by omega
      simp [isLines, this]
    | [w, v], _, hx =>
      have hw := hx w (by simp)
      have hv := hx v (by simp)
      simp [look, tyN_1 (okV.ty1 hw)]
      cases w with
      | str s =>
        have hs : PyData.canLay0 (.str s) = true := (Bool.and_eq_true_iff.mp hw).2
        have es := fun (P : D → MS → Prop) => wp_eq_str (neg := true) (m := m) (P := P) (x := s) (y := "lines") (by simpa [okD] using hs) (by simp [okD]; decide +kernel)
        simp [tyOf, isT, es]
        by_cases hq : s = "lines"
        · subst hq
          simp [look, tyN_1 (okV.ty1 hv)]
          cases v with
          | tup rows =>
            obtain ⟨hl2, hr⟩ := okV_tup.mp hv
            simp [tyOf, isT, look]
            rw [isLines_rows]
            exact lines_rows hn hl2 hr
          | dct kvs => simp [tyOf, isT, isLines]
          | _ => first | (simp [tyOf, isT, isLines]; done) | cases hv
        · rw [isLines_neq hq]
          simp [hq]
      | dct kvs => simp [tyOf, isT, isLines]
      | _ => first | (simp [tyOf, isT, isLines]; done) | cases hw
  | dct kvs => simp [tyOf, isT, isLines]
  | _ => first | (simp [tyOf, isT, isLines]; done) | cases h
end
end Cm
end TL
end
section
/-! k90: the law's own judge of lines. -/
namespace TL
open L2 (atI ixN)
open PySem PySem.Spec PyProof.Rows L2 Cm
namespace K90
section
variable {m : MS} {n : Nat}
theorem eqvAll_nil {xs : List D} : eqvAll xs [] = xs.isEmpty := by
  cases xs <;> simp [eqvAll]
/-- a list made, against none -/
theorem wp_eq_nil {xs : List D} {neg : Bool} {P : D → MS → Prop} (h : ∀ x ∈ xs, okD 63 x = true) (hf : flatR m (.lst xs) = .lst xs) : wp (eqD neg (.lst xs) (.lst []) m) P ↔ P (.bl (if neg then !xs.isEmpty else xs.isEmpty)) m := by
  rw [wp_eq_gen (by rw [hf]; show okAll 63 xs = true; exact okAll_all.mpr h) rfl, hf]
  simp [flatR, eqvD, eqvAll_nil]
theorem isEmpty_filter {p : D → Bool} {f : D → D} {xs : List D} : ((xs.filter p).map f).isEmpty = xs.all (fun x => !p x) := by
  induction xs with
  | nil => rfl
  | cons x xs ih =>
    rw [List.all_cons, List.filter_cons]
    cases p x with
    | true => simp
    | false => simpa using ih
theorem cl {s : Str} (h : PyData.canLay0 (.str s) = true) : ∀ c ∈ s.cps.toList, okD 63 (.str ⟨#[c]⟩) = true := by
  intro c hc
  simp [okD, PyData.canLay0, PyData.strOk] at h ⊢
  obtain ⟨i, hi, rfl⟩ := List.mem_iff_getElem.mp hc
  have := h i (by simpa using hi)
  simpa using this
theorem e_lis_word {d : D} (h : okV n d = true) : F__law_is_word [d] m = .ok (.bl (isWd d)) m := by
  refine eq_of_wp ?_
  simp [F__law_is_word, u__law_is_word, startD, look, tyN_1 (okV.ty1 h)]
  cases d with
  | str s =>
    have hl : s.length ≤ 1000000 := of_decide_eq_true (Bool.and_eq_true_iff.mp h).1
    simp [tyOf, isT, look, hl]
    by_cases h0 : 1 ≤ s.length
    · have h0' : (1 : Int) ≤ s.length := by omega
      simp [h0']
      by_cases h2 : s.length ≤ 8
      · have h2' : (s.length : Int) ≤ 8 := by omega
        simp [h2']
        have hz : s.cps.toList.length ≤ 1000000 := hl
        refine wp_lcW_filter (fun x => !(match x with | .str y => occ abc y | _ => false)) (fun x => x) ok_nil' (fun x hx => ?_) ?_
        · obtain ⟨c, _, rfl⟩ := List.mem_map.mp hx
          simp [look, wipeD, abc]
        · refine ⟨Nat.le_trans (by rw [List.length_map]; exact List.length_filter_le _ _) (by simpa using hz), ?_⟩
          rw [wp_eq_nil (fun x hx => ?_) rfl]
          · rw [isEmpty_filter]
            simp [isWd, h0, h2, List.all_map]
          · rw [List.map_id'] at hx
            obtain ⟨c, hc, rfl⟩ := List.mem_map.mp (List.mem_filter.mp hx).1
            have hq : PyData.canLay0 (.str s) = true := (Bool.and_eq_true_iff.mp h).2
            exact cl hq c (by assumption)
      · have h2' : ¬ (s.length : Int) ≤ 8 := by omega
        simp [h2', isWd, h2]
    · have h0' : ¬ (1 : Int) ≤ s.length := by omega
      simp [h0', isWd, h0]
  | dct kvs => simp [tyOf, isT, isWd]
  | _ => first | (simp [tyOf, isT, isWd]; done) | cases h
def rowOk : D → Bool
  | .tup [w, .tup _] => isWd w
  | _ => false
def rowV : D → D
  | .tup [_, v] => v
  | _ => .non
theorem rowOk_out {d : D} (h : rowOk d = true) : ∃ (w : Str) (v : List D), d = .tup [.str w, .tup v] ∧ isWd (.str w) = true := by
  unfold rowOk at h
  split at h
  · rename_i w v
    cases w with
    | str w => exact ⟨w, v, rfl, h⟩
    | _ => cases h
  · cases h
theorem e_rowOk {x : D} (h : okV n x = true) {ρ : Env'} (i : Nat) (hl : look ρ i = some x) {P : Bool → MS → Prop} : wp ((bOr (bNot (toB (dCallB (arg2 (isiX sub0)) (aCons (dVar i) (aCons (dC (.ty .tuple)) aNil))))) (bOr (toB (dBin (eqD true) (dCallB (arg1 lenD) (aCons (dVar i) aNil)) (dC (.int 2)))) (bOr (bNot (toB (dCall (lenF 1 F__law_is_word) (aCons (dBin ixD (dVar i) (dC (.int 0))) aNil)))) (bNot (toB (dCallB (arg2 (isiX sub0)) (aCons (dBin ixD (dVar i) (dC (.int 1))) (aCons (dC (.ty .tuple)) aNil)))))))) ρ m) P ↔ P (!rowOk x) m := by
  simp [hl, tyN_1 (okV.ty1 h)]
  cases x with
  | tup xs =>
    obtain ⟨_, hx⟩ := okV_tup.mp h
    simp [tyOf, isT]
    match xs, hx with
    | [], _ => simp [rowOk]
    | [w], _ => simp [rowOk]
    | [w, v], hx =>
      have hw := hx w (by simp)
      have hv := hx v (by simp)
      simp [e_lis_word (m := m) hw, tyN_1 (okV.ty1 hv)]
      cases h1 : isWd w with
      | false =>
        cases v <;> simp [rowOk, h1]
      | true =>
        cases v with
        | tup ys => simp [rowOk, h1, tyOf, isT]
        | dct kvs => simp [rowOk, tyOf, isT]
        | _ => first | (simp [rowOk, tyOf, isT]; done) | cases hv
    | x :: y :: z :: r, _ =>
      have : ¬ ((r.length : Int) + 1 + 1 + 1 = 2) := by omega
      simp [rowOk, this]
  | dct kvs => simp [tyOf, isT, rowOk]
  | _ => first | (simp [tyOf, isT, rowOk]; done) | cases h
end
end K90
end TL
end
section
/-! k90: the law's own judge of lines says the same. -/
namespace TL
open L2 (atI ixN)
open PySem PySem.Spec PyProof.Rows L2 Cm
namespace K90
section
variable {m : MS} {n : Nat}
theorem ones_okD {xs : List D} {p : D → Bool} : ∀ x ∈ (xs.filter p).map (fun _ => D.int 1), okD 63 x = true := by
  intro x hx
  obtain ⟨_, _, rfl⟩ := List.mem_map.mp hx
  rfl
theorem len_fm {α β : Type} {xs : List α} {p : α → Bool} {f : α → β} : ((xs.filter p).map f).length ≤ xs.length := by
  rw [List.length_map]
  exact List.length_filter_le _ _
def lisB (rows : List D) : Bool := decide (1 ≤ rows.length) && (decide (rows.length ≤ 6) && (rows.all rowOk && (decide (2 ≤ rowN (rows.headD .non)) && (decide (rowN (rows.headD .non) ≤ 4) && (rows.all (fun r => isVecN (rowN (rows.headD .non)) (rowV r)) && ascB rows)))))
theorem lisB_eq {rows : List D} : isLines (.tup [.str "lines", .tup rows]) = lisB rows := by
  rw [isLines_rows, Bool.eq_iff_iff]
  unfold lisB
  simp only [Bool.and_eq_true, decide_eq_true_eq, List.all_eq_true]
  constructor
  · rintro ⟨h1, h2, h3, h4, h5⟩
    obtain ⟨r0, rest, er⟩ : ∃ r0 rest, rows = r0 :: rest := by
      cases rows with
      | nil => simp at h1
      | cons a b => exact ⟨a, b, rfl⟩
    have hh : rows.headD .non = r0 := by rw [er]; rfl
    rw [hh] at h4 ⊢
    obtain ⟨w0, v0, e0, q1, q2, q3, q4⟩ := isLine_out (h3 r0 (by rw [er]; simp))
    refine ⟨h1, h2, ?_, by rw [e0]; exact q3, by rw [e0]; exact q4, ?_, h5⟩
    · intro x hx
      obtain ⟨w, v, e, p1, _⟩ := isLine_out (h3 x hx)
      rw [e]
      exact p1
    · intro x hx
      obtain ⟨w, v, e, p1, p2, _⟩ := isLine_out (h3 x hx)
      have h4x := h4 x hx
      rw [e] at h4x ⊢
      simp only [isVec, Bool.and_eq_true, decide_eq_true_eq] at p2
      simp only [rowV, isVecN, Bool.and_eq_true, decide_eq_true_eq]
      exact ⟨h4x, p2.2⟩
  · rintro ⟨h1, h2, h3, h4, h5, h6, h7⟩
    refine ⟨h1, h2, ?_, ?_, h7⟩
    · intro x hx
      obtain ⟨w, v, e, p1⟩ := rowOk_out (h3 x hx)
      have h6x := h6 x hx
      rw [e] at h6x ⊢
      simp only [rowV, isVecN, Bool.and_eq_true, decide_eq_true_eq] at h6x
      simp only [isLine, isVec, Bool.and_eq_true, decide_eq_true_eq]
      exact ⟨p1, ⟨⟨by omega, by omega⟩, h6x.2⟩, by omega, by omega⟩
    · intro x hx
      obtain ⟨w, v, e, p1⟩ := rowOk_out (h3 x hx)
      have h6x := h6 x hx
      rw [e] at h6x ⊢
      simp only [rowV, isVecN, Bool.and_eq_true, decide_eq_true_eq] at h6x
      exact h6x.1
theorem asc_range2 {rows : List D} : (List.range (rows.length - 1)).all (fun i => !(!decide (rowW (rows.getD i .non) < rowW (rows.getD (i + 1) .non)))) = ascB rows := by
  rw [← asc_range]
  simp
theorem e_lis_lines {d : D} (h : okV n d = true) (hn : n ≤ 1000000) : F__law_is_lines [d] m = .ok (.bl (isLines d)) m := by
  refine eq_of_wp ?_
  simp only [F__law_is_lines, u__law_is_lines, wp_bodyF', wp_seq, wp_sIf, wp_sAsg, wp_sRet]
  simp [startD, look, tyN_1 (okV.ty1 h)]
  cases d with
  | tup xs =>
    obtain ⟨hl, hx⟩ := okV_tup.mp h
    simp [tyOf, isT, look]
    match xs, hl, hx with
    | [], _, _ => simp [isLines]
    | [w], _, _ => simp [isLines]
    | x :: y :: z :: r, _, _ =>
      have : ¬ ((r.length : Int) + 1 + 1 + 1 = 2) := by omega
      simp [isLines, this]
    | [w, v], _, hx =>
      have hw := hx w (by simp)
      have hv := hx v (by simp)
      simp [look, tyN_1 (okV.ty1 hw)]
      cases w with
      | str s =>
        have hs : PyData.canLay0 (.str s) = true := (Bool.and_eq_true_iff.mp hw).2
        have es := fun (P : D → MS → Prop) => wp_eq_str (neg := true) (m := m) (P := P) (x := s) (y := "lines") (by simpa [okD] using hs) (by simp [okD]; decide +kernel)
        simp [tyOf, isT, es]
        by_cases hq : s = "lines"
        · subst hq
          simp [look, tyN_1 (okV.ty1 hv)]
          cases v with
          | tup rows =>
            obtain ⟨hl2, hr⟩ := okV_tup.mp hv
            simp [tyOf, isT, look]
            rw [lisB_eq]
            by_cases h1 : 1 ≤ rows.length
            · have h1' : (1 : Int) ≤ rows.length := by omega
              rw [if_pos h1']
              by_cases h2 : rows.length ≤ 6
              · have h2' : (rows.length : Int) ≤ 6 := by omega
                rw [if_pos h2']
                refine wp_lcW_filter (fun x => !rowOk x) (fun _ => .int 1) ok_nil' (fun x hx' => ?_) ⟨Nat.le_trans len_fm (by omega), ?_⟩
                · rw [wp_gN]
                  refine ⟨rfl, ?_⟩
                  rw [e_rowOk (hr x hx') 3 rfl]
                  exact ⟨rfl, rfl, fun _ => ⟨rfl, rfl⟩⟩
                rw [wp_eq_nil ones_okD rfl, isEmpty_filter]
                simp only [Bool.not_not, if_true]
                cases ha : rows.all rowOk with
                | false => simp [lisB, ha]
                | true =>
                  have hall := List.all_eq_true.mp ha
                  simp only [Bool.not_true, Bool.false_eq_true, if_false]
                  obtain ⟨r0, rest, er⟩ : ∃ r0 rest, rows = r0 :: rest := by
                    cases rows with
                    | nil => simp at h1
                    | cons a b => exact ⟨a, b, rfl⟩
                  obtain ⟨w0, v0, e0, _⟩ := rowOk_out (hall r0 (by rw [er]; simp))
                  have hat : atI rows 0 = some r0 := by rw [er]; simp
                  have hhd : rows.headD .non = r0 := by rw [er]; rfl
                  have hN : rowN (rows.headD .non) = v0.length := by rw [hhd, e0]; rfl
                  have eB : lisB rows = (decide (1 ≤ rows.length) && (decide (rows.length ≤ 6) && (rows.all rowOk && (decide (2 ≤ v0.length) && (decide (v0.length ≤ 4) && (rows.all (fun r => isVecN v0.length (rowV r)) && ascB rows)))))) := by
                    unfold lisB
                    rw [hN]
                  rw [hat, e0]
                  simp
                  by_cases h3 : 2 ≤ v0.length
                  · have h3' : (2 : Int) ≤ v0.length := by omega
                    rw [if_pos h3']
                    by_cases h4 : v0.length ≤ 4
                    · have h4' : (v0.length : Int) ≤ 4 := by omega
                      rw [if_pos h4']
                      refine wp_lcW_filter (fun x => !isVecN v0.length (rowV x)) (fun _ => .int 1) ok_nil' (fun x hx' => ?_) ⟨Nat.le_trans len_fm (by omega), ?_⟩
                      · obtain ⟨w, v, e, _⟩ := rowOk_out (hall x hx')
                        have hv' : okV n (.tup v) = true := (okV_tup.mp (e ▸ hr x hx')).2 _ (by simp)
                        subst e
                        simp [look, wipeD, e_ph_vec (m := m) (k := v0.length) hv' hn, rowV]
                      rw [wp_eq_nil ones_okD rfl, isEmpty_filter]
                      simp only [Bool.not_not, if_true]
                      cases hc : rows.all (fun x => isVecN v0.length (rowV x)) with
                      | false => simp [eB, hc]
                      | true =>
                        simp only [Bool.not_true, Bool.false_eq_true, if_false]
                        refine ⟨by omega, ?_⟩
                        rw [rng_map]
                        refine wp_lcW_filterA _ (fun i => !decide (rowW (rows.getD i .non) < rowW (rows.getD (i + 1) .non))) (fun i : Nat => .int i) ok_nil' (fun i hi => ?_) ⟨Nat.le_trans len_fm (by rw [List.length_range]; omega), ?_⟩
                        · have hi' : i < rows.length - 1 := List.mem_range.mp hi
                          have hi0 : i < rows.length := by omega
                          have hi1 : i + 1 < rows.length := by omega
                          obtain ⟨w, v, e, _⟩ := rowOk_out (hall rows[i] (List.getElem_mem hi0))
                          obtain ⟨w', v', e', _⟩ := rowOk_out (hall rows[i+1] (List.getElem_mem hi1))
                          have a0 := atI_nat hi0
                          have a1 : atI rows ((i : Int) + 1) = some rows[i+1] := atI_nat hi1
                          have g0 : rows.getD i .non = rows[i] := by simp [hi0]
                          have g1 : rows.getD (i+1) .non = rows[i+1] := by simp [hi1]
                          rw [g0, g1]
                          rw [e] at a0 ⊢
                          rw [e'] at a1 ⊢
                          simp [look, wipeD, a0, a1, wp_geA_str, rowW]
                        · rw [wp_eq_nil (fun x hx' => by obtain ⟨_, _, rfl⟩ := List.mem_map.mp hx'; rfl) rfl]
                          refine ⟨?_, rfl⟩
                          have e9 : ∀ (p : Nat → Bool) (l : List Nat), ((l.filter p).map fun i : Nat => D.int i).isEmpty = l.all fun x => !p x := by
                            intro p l
                            induction l with
                            | nil => rfl
                            | cons x xs ih =>
                              rw [List.all_cons, List.filter_cons]
                              cases p x with
                              | true => simp
                              | false => simpa using ih
                          rw [e9, asc_range2]
                          simp [eB, h1, h2, ha, h3, h4, hc]
                    · have h4' : ¬ (v0.length : Int) ≤ 4 := by omega
                      rw [if_neg h4']
                      simp [eB, h4]
                  · have h3' : ¬ (2 : Int) ≤ v0.length := by omega
                    rw [if_neg h3']
                    simp [eB, h3]
              · have h2' : ¬ (rows.length : Int) ≤ 6 := by omega
                rw [if_neg h2']
                simp [lisB, h2]
            · have h1' : ¬ (1 : Int) ≤ rows.length := by omega
              rw [if_neg h1']
              simp [lisB, h1]
          | dct kvs => simp [tyOf, isT, isLines]
          | _ => first | (simp [tyOf, isT, isLines]; done) | cases hv
        · rw [isLines_neq hq]
          simp [hq]
      | dct kvs => simp [tyOf, isT, isLines]
      | _ => first | (simp [tyOf, isT, isLines]; done) | cases hw
  | dct kvs => simp [tyOf, isT, isLines]
  | _ => first | (simp [tyOf, isT, isLines]; done) | cases h
end
end K90
end TL
end
section
/-! k90: sound lines; their worths; the words chosen. -/
namespace TL
open L2 (atI ixN)
open PySem PySem.Spec PyProof.Rows L2 Cm
namespace K90
abbrev Row := Str × QV × (Int × Int)
def rwD (r : Row) : D := .tup [.str r.1, V2 (r.2.1 ++ [r.2.2])]
def LnD (rs : List Row) : D := .tup [.str "lines", .tup (rs.map rwD)]
structure RwOk (d k : Nat) (r : Row) : Prop where
  wd : isWd (.str r.1) = true
  lay : PyData.canLay0 (.str r.1) = true
  len : r.2.1.length = d
  sz : ∀ q ∈ r.2.1, Sz k q
  szl : Sz k r.2.2
  rat : ∀ q ∈ r.2.1, isRat (R2 q) = true
  ratl : isRat (R2 r.2.2) = true
structure LOk (d k : Nat) (rs : List Row) : Prop where
  d1 : 1 ≤ d
  d3 : d ≤ 3
  n1 : 1 ≤ rs.length
  n6 : rs.length ≤ 6
  ok : ∀ r ∈ rs, RwOk d k r
  asc : rs.Pairwise fun a b => a.1.cps.toList < b.1.cps.toList
structure PtOk (d k : Nat) (pt : QV) : Prop where
  len : pt.length = d
  sz : ∀ q ∈ pt, Sz k q
  rat : ∀ q ∈ pt, isRat (R2 q) = true
def WV (pt : QV) (r : Row) : Int × Int := qplus (qdot r.2.1 pt) r.2.2
section
variable {d k kp : Nat} {rs : List Row} {r : Row} {pt : QV} {m : MS}
theorem WV_sz (h : RwOk d k r) (hp : PtOk d kp pt) (hd : d ≤ 3) (hk : k ≤ 1000) (hkp : kp ≤ 1000) : Sz 8000 (WV pt r) := by
  have h1 := qdot_sz (a := k) (b := kp) h.sz hp.sz
  refine (h1.plus h.szl).mono ?_
  rw [h.len]
  have : d * (k + kp + 1) ≤ 3 * (k + kp + 1) := Nat.mul_le_mul_right _ hd
  omega
theorem WV_rat (h : RwOk d k r) (hp : PtOk d kp pt) : isRat (R2 (WV pt r)) = true :=
  rat_plus (qdot_pos (fun x hx => (h.sz x hx).2.2) fun x hx => (hp.sz x hx).2.2) h.szl.2.2
theorem V2_app (a : QV) (b : Int × Int) : V2 (a ++ [b]) = .tup (a.map R2 ++ [R2 b]) := by
  unfold V2
  rw [List.map_append]
  rfl
theorem e_worth (h : RwOk d k r) (hp : PtOk d kp pt) (hd : d ≤ 3) (hk : k ≤ 1000) (hkp : kp ≤ 1000) : F_worth_of [V2 (r.2.1 ++ [r.2.2]), V2 pt] m = .ok (R2 (WV pt r)) m := by
  have hl := h.len
  have e1 := f_dot (m := m) (a := k) (b := kp) h.sz hp.sz (by omega) (by
    have : (r.2.1.length + 1) * (k + kp + 1) ≤ 4 * (k + kp + 1) := Nat.mul_le_mul_right _ (by omega)
    omega)
  have e2 := f_plus (m := m) ((qdot_sz (a := k) (b := kp) h.sz hp.sz).mono (by
    have : r.2.1.length * (k + kp + 1) ≤ 3 * (k + kp + 1) := Nat.mul_le_mul_right _ (by omega)
    omega : _ ≤ 7000)) h.szl (by omega)
  refine eq_of_wp ?_
  rw [V2_app]
  simp [F_worth_of, u_worth_of, startD, look]
  refine ⟨by omega, ?_⟩
  show wp (F_dot [V2 r.2.1, V2 pt] m) _
  rw [e1]
  simp [e2, WV]
def wds (rs : List Row) : D := .tup (rs.map fun r => .str r.1)
def best (rs : List Row) (pt : QV) (r : Row) : Bool := rs.all fun s => !qless (WV pt r) (WV pt s)
theorem best_iff (h : LOk d k rs) (hp : PtOk d kp pt) (hk : k ≤ 1000) (hkp : kp ≤ 1000) (hr : r ∈ rs) : (WV pt r = gmax (rs.map (WV pt))) ↔ best rs pt r = true := by
  have hpos : ∀ s ∈ rs, 0 < (WV pt s).2 := fun s hs => (WV_sz (h.ok s hs) hp h.d3 hk hkp).2.2
  cases rs with
  | nil => cases hr
  | cons x xs =>
    have hall : ∀ y ∈ (WV pt x) :: xs.map (WV pt), 0 < y.2 := by
      intro y hy
      obtain ⟨s, hs, rfl⟩ := List.mem_map.mp (show y ∈ (x :: xs).map (WV pt) from hy)
      exact hpos s hs
    have ge := gmax_ge _ _ hall
    have mem := gmax_mem (xs.map (WV pt)) (WV pt x)
    rw [show (WV pt x) :: xs.map (WV pt) = (x :: xs).map (WV pt) from rfl] at ge mem
    obtain ⟨g, hg, eg⟩ := List.mem_map.mp mem
    unfold best
    rw [List.all_eq_true]
    constructor
    · intro e s hs
      rw [Bool.not_eq_true', Bool.eq_false_iff]
      intro q
      have := (qless_iff (hpos r hr) (hpos s hs)).mp q
      rw [e] at this
      exact absurd (ge _ (List.mem_map.mpr ⟨s, hs, rfl⟩)) (Rat.not_le.mpr this)
    · intro hb
      have h1 := hb g hg
      rw [Bool.not_eq_true', Bool.eq_false_iff] at h1
      have h2 : qv (WV pt g) ≤ qv (WV pt r) := Rat.not_lt.mp fun q => h1 ((qless_iff (hpos r hr) (hpos g hg)).mpr q)
      have h3 := ge _ (List.mem_map.mpr ⟨r, hr, rfl⟩)
      rw [← eg] at h3 ⊢
      exact qv_inj (WV_rat (h.ok r hr) hp) (WV_rat (h.ok g hg) hp) (Rat.le_antisymm h3 h2)
theorem filter_best (h : LOk d k rs) (hp : PtOk d kp pt) (hk : k ≤ 1000) (hkp : kp ≤ 1000) : rs.filter (fun r => decide (WV pt r = gmax (rs.map (WV pt)))) = rs.filter (best rs pt) := by
  refine List.filter_congr fun r hr => ?_
  rw [Bool.eq_iff_iff, decide_eq_true_iff]
  exact best_iff h hp hk hkp hr
theorem e_greatest_words (h : LOk d k rs) (hp : PtOk d kp pt) (hk : k ≤ 1000) (hkp : kp ≤ 1000) : F_greatest_words [LnD rs, V2 pt] m = .ok (wds (rs.filter (best rs pt))) m := by
  have hn6 := h.n6
  have hne : rs.map (WV pt) ≠ [] := by
    have := h.n1
    intro e
    rw [List.map_eq_nil_iff] at e
    rw [e] at this
    simp at this
  refine eq_of_wp ?_
  simp [F_greatest_words, u_greatest_words, startD, look, LnD]
  refine wp_lcW_mapA rwD (fun r => R2 (WV pt r)) ok_nil' (fun r hr => ?_) ⟨by rw [List.length_map]; omega, ?_⟩
  · simp [rwD, look, wipeD, e_worth (m := m) (h.ok r hr) hp h.d3 hk hkp]
  have e1 := f_greatest (k := 8000) (m := m) (xs := rs.map (WV pt)) (fun x hx => by
    obtain ⟨r, hr, rfl⟩ := List.mem_map.mp hx
    exact WV_sz (h.ok r hr) hp h.d3 hk hkp) hne (by rw [List.length_map]; omega) (by omega)
  rw [List.map_map, show R2 ∘ WV pt = fun r => R2 (WV pt r) from rfl] at e1
  simp [look, e1]
  rw [zipG_map, zip_self, List.map_map]
  refine wp_lcW_filterA _ (fun r => decide (WV pt r = gmax (rs.map (WV pt)))) (fun r => D.str r.1) ok_nil' (fun r hr => ?_) ⟨Nat.le_trans len_fm (by omega), ?_⟩
  · simp [look, wipeD]
    rw [wp_eq_gen (by show okD 64 (R2 _) = true; rfl) (by show okD 64 (R2 _) = true; rfl)]
    rw [show ∀ p, flatR m (R2 p) = R2 p from fun _ => rfl, show ∀ p, flatR m (R2 p) = R2 p from fun _ => rfl]
    simp [eqv_R2, rwD]
  · rw [filter_best h hp hk hkp]
    exact ⟨rfl, rfl⟩
end
end K90
end TL
end
section
/-! k90: the law's own choice; limits; what keeps to limits. -/
namespace TL
open L2 (atI ixN)
open PySem PySem.Spec PyProof.Rows L2 Cm
namespace K90
theorem range_filter {α : Type} {β : Type} (p : α → Bool) (f : α → β) (d : α) : ∀ xs : List α, ((List.range xs.length).filter (fun i => p (xs.getD i d))).map (fun i => f (xs.getD i d)) = (xs.filter p).map f
  | [] => rfl
  | x :: xs => by
    have ih := range_filter p f d xs
    rw [List.length_cons, List.range_succ_eq_map, List.filter_cons, List.filter_map, List.filter_cons]
    have e0 : (x :: xs).getD 0 d = x := rfl
    have e1 : (fun i => p ((x :: xs).getD i d)) ∘ Nat.succ = fun i => p (xs.getD i d) := rfl
    rw [e0, e1]
    cases p x with
    | true =>
      rw [if_pos rfl, if_pos rfl, List.map_cons, List.map_cons, List.map_map, ← ih]
      rfl
    | false =>
      rw [if_neg Bool.false_ne_true, if_neg Bool.false_ne_true, List.map_map, ← ih]
      rfl
section
variable {d k kp : Nat} {rs : List Row} {r own : Row} {pt : QV} {m : MS}
theorem e_lworth (h : RwOk d k r) (hp : PtOk d kp pt) (hd : d ≤ 3) (hk : k ≤ 1000) (hkp : kp ≤ 1000) {P : D → MS → Prop} (hP : P (R2 (WV pt r)) m) {ρ : Env'} (h3 : look ρ 3 = some (V2 (r.2.1 ++ [r.2.2]))) (h1 : look ρ 1 = some (V2 pt)) : wp ((dCall (lenF 2 F__law_plus) (aCons (dCall (lenF 2 F__law_dot) (aCons (dSl false (dVar 3) oNone (oSome (dNeg (dC (.int 1))))) (aCons (dVar 1) aNil))) (aCons (dBin ixD (dVar 3) (dNeg (dC (.int 1)))) aNil))) ρ m) P := by
  have hl := h.len
  have e1 := f_ldot (m := m) (a := k) (b := kp) h.sz hp.sz (by omega) (by
    have : (r.2.1.length + 1) * (k + kp + 1) ≤ 4 * (k + kp + 1) := Nat.mul_le_mul_right _ (by omega)
    omega)
  have e2 := f_lplus (m := m) ((qdot_sz (a := k) (b := kp) h.sz hp.sz).mono (by
    have : r.2.1.length * (k + kp + 1) ≤ 3 * (k + kp + 1) := Nat.mul_le_mul_right _ (by omega)
    omega : _ ≤ 7000)) h.szl (by omega)
  rw [V2_app] at h3
  simp [h3, h1]
  refine ⟨by omega, ?_⟩
  show wp (F__law_dot [V2 r.2.1, V2 pt] m) _
  rw [e1]
  simp [e2]
  exact hP
theorem e_ln_worths (h : LOk d k rs) (hp : PtOk d kp pt) (hk : k ≤ 1000) (hkp : kp ≤ 1000) : F__law_ln_worths [LnD rs, V2 pt] m = .ok (.lst (rs.map fun r => R2 (WV pt r))) m := by
  have hn6 := h.n6
  refine eq_of_wp ?_
  simp [F__law_ln_worths, u__law_ln_worths, startD, look, LnD]
  refine wp_lcW_mapA rwD (fun r => R2 (WV pt r)) ok_nil' (fun r hr => ?_) ⟨by rw [List.length_map]; omega, rfl, rfl⟩
  simp [rwD, wipeD]
  have := e_lworth (m := m) (h.ok r hr) hp h.d3 hk hkp (P := fun y m3 => y = R2 (WV pt r) ∧ m3 = m) ⟨rfl, rfl⟩ (ρ := [some (D.tup [D.str (Str.ofString "lines"), D.tup (List.map rwD rs)]), some (V2 pt), some (D.str r.fst), some (V2 (r.snd.fst ++ [r.snd.snd]))]) rfl rfl
  simpa using this
theorem e_ln_chosen (h : LOk d k rs) (hp : PtOk d kp pt) (hk : k ≤ 1000) (hkp : kp ≤ 1000) : F__law_ln_chosen [LnD rs, V2 pt] m = .ok (wds (rs.filter (best rs pt))) m := by
  have hn6 := h.n6
  obtain ⟨r0, hr0⟩ : ∃ r0, r0 ∈ rs := by
    cases rs with
    | nil => have := h.n1; simp at this
    | cons a b => exact ⟨a, by simp⟩
  have e1 := e_ln_worths (m := m) h hp hk hkp
  refine eq_of_wp ?_
  simp [F__law_ln_chosen, u__law_ln_chosen, startD, look, e1]
  refine ⟨by omega, ?_⟩
  rw [rng_map]
  refine wp_lcW_filterA _ (fun i => best rs pt (rs.getD i r0)) (fun i => D.str (rs.getD i r0).1) ok_nil' (fun i hi => ?_) ⟨Nat.le_trans len_fm (by rw [List.length_range]; omega), ?_⟩
  · have hi' : i < rs.length := List.mem_range.mp hi
    have g0 : rs.getD i r0 = rs[i] := by simp [hi']
    have a0 : atI (rs.map fun r => R2 (WV pt r)) (i : Int) = some (R2 (WV pt rs[i])) := by
      rw [atI_nat (by simpa using hi')]
      simp
    have a1 : atI (rs.map rwD) (i : Int) = some (rwD rs[i]) := by
      rw [atI_nat (by simpa using hi')]
      simp
    have hrm := List.getElem_mem hi'
    rw [g0]
    simp [look, wipeD]
    refine wp_lcW_filterA _ (fun s => qless (WV pt rs[i]) (WV pt s)) (fun _ => .int 1) ok_nil' (fun s hs => ?_) ⟨Nat.le_trans len_fm (by omega), ?_⟩
    · simp [look, wipeD, a0, f_lless (m := m) (WV_sz (h.ok _ hrm) hp h.d3 hk hkp) (WV_sz (h.ok s hs) hp h.d3 hk hkp) (by omega)]
    · rw [wp_eq_nil (fun x hx => by obtain ⟨_, _, rfl⟩ := List.mem_map.mp hx; rfl) rfl]
      have e9 : ∀ (p : Row → Bool) (l : List Row), ((l.filter p).map fun _ => D.int 1).isEmpty = l.all fun x => !p x := by
        intro p l
        induction l with
        | nil => rfl
        | cons x xs ih =>
          rw [List.all_cons, List.filter_cons]
          cases p x with
          | true => simp
          | false => simpa using ih
      rw [e9]
      simp [best, LnD, a1, rwD]
  · have := range_filter (best rs pt) (fun r => D.str r.1) r0 rs
    rw [this]
    exact ⟨rfl, rfl⟩
end
end K90
end TL
end
section
/-! k90: the limits of a word's region. -/
namespace TL
open L2 (atI ixN)
open PySem PySem.Spec PyProof.Rows L2 Cm
namespace K90
def limD (own r : Row) : D := .tup [V2 (List.zipWith qminus own.2.1 r.2.1), R2 (qminus r.2.2 own.2.2)]
def others (rs : List Row) (w : Str) : List Row := rs.filter fun r => !(r.1 == w)
def fV (r : Row) : D := V2 (r.2.1 ++ [r.2.2])
theorem ltAll_all {n : Nat} : ∀ {xs : List D}, ltAll n xs = true ↔ ∀ x ∈ xs, ltD n x = true
  | [] => by simp [ltAll]
  | x :: xs => by
    simp only [ltAll, Bool.and_eq_true, List.forall_mem_cons]
    rw [ltAll_all]
theorem lt_R2 (n : Nat) (p : Int × Int) : ltD n (R2 p) = true := rfl
theorem lt_V2 (n : Nat) (xs : QV) : ltD n (V2 xs) = true := by
  show ltAll n (xs.map R2) = true
  refine ltAll_all.mpr fun x hx => ?_
  obtain ⟨p, _, rfl⟩ := List.mem_map.mp hx
  rfl
theorem lt_lim (n : Nat) (own r : Row) : ltD n (limD own r) = true := by
  show (ltD n (V2 _) && (ltD n (R2 _) && true)) = true
  rw [lt_V2, lt_R2]
  rfl
theorem own_filter : ∀ {rs : List Row} {own : Row}, (rs.Pairwise fun a b => a.1.cps.toList < b.1.cps.toList) → own ∈ rs → rs.filter (fun r => r.1 == own.1) = [own]
  | x :: xs, own, hp, hm => by
    have hx := List.pairwise_cons.mp hp
    have irr : ∀ {a b : Row}, a.1.cps.toList < b.1.cps.toList → ¬ a.1 = b.1 := by
      intro a b h e
      rw [e] at h
      exact List.lt_irrefl _ h
    rcases List.mem_cons.mp hm with rfl | hm
    · rw [List.filter_cons_of_pos (by simp)]
      congr 1
      rw [List.filter_eq_nil_iff]
      intro y hy q
      exact irr (hx.1 y hy) (by simpa using q : y.1 = own.1).symm
    · rw [List.filter_cons_of_neg (by
        intro q
        exact irr (hx.1 own hm) (by simpa using q))]
      exact own_filter hx.2 hm
section
variable {d k kp : Nat} {rs : List Row} {r own : Row} {pt : QV} {m : MS}
theorem eq_wd {x y : Str} {neg : Bool} (hx : PyData.canLay0 (.str x) = true) (hy : PyData.canLay0 (.str y) = true) {P : D → MS → Prop} : wp (eqD neg (.str x) (.str y) m) P ↔ P (.bl (if neg then !(x == y) else (x == y))) m :=
  wp_eq_str (by simpa [okD] using hx) (by simpa [okD] using hy)
theorem f_apart {a b : Nat} {xs ys : QV} (hx : ∀ x ∈ xs, Sz a x) (hy : ∀ y ∈ ys, Sz b y) (hl : xs.length ≤ 1000000) (h : a + b ≤ 134217728) : F_apart [V2 xs, V2 ys] m = .ok (V2 (List.zipWith qminus xs ys)) m := by
  refine eq_of_wp ?_
  simp [F_apart, u_apart, startD, look, V2, zipG_map]
  refine wp_lcW_mapA _ (fun p : (Int × Int) × (Int × Int) => R2 (qminus p.1 p.2)) ok_nil' (fun p hp => ?_) ?_
  · simp [look, wipeD, f_minus (m := m) (hx p.1 (List.of_mem_zip hp).1) (hy p.2 (List.of_mem_zip hp).2) h]
  · have := zip_len (xs := xs) (ys := ys)
    simp
    refine ⟨by omega, ?_⟩
    rw [List.zip, List.map_zipWith]
theorem lim_loop (h : LOk d k rs) (ho : own ∈ rs) {te : FE} {x4 x5 : Option D} {ext : List (Option D)}
    (hte : ∀ r ∈ rs, ∀ (m' : MS), wp (te ([some (LnD rs), some (.str own.1), some (fV own), some (.ref m.objs.length), some (.str r.1), some (fV r)] ++ ext) m') fun v m2 => v = limD own r ∧ m2 = m') :
    wp (sFor (iSeq (dBin ixD (dVar 0) (dC (.int 1)))) (gT 2 (gsCons (gN 4) (gsCons (gN 5) gsNil))) (sIf (toB (dBin (eqD true) (dVar 4) (dVar 1))) (sExpr (dMeth "list" appendD (dVar 3) (aCons te aNil))) sNext)
      ([some (LnD rs), some (.str own.1), some (fV own), some (.ref m.objs.length), x4, x5] ++ ext) { m with objs := m.objs ++ [.lst []] })
      fun fl m' => ∃ y4 y5, fl = .next ([some (LnD rs), some (.str own.1), some (fV own), some (.ref m.objs.length), y4, y5] ++ ext) ∧ m' = { m with objs := m.objs ++ [.lst ((others rs own.1).map (limD own))] } := by
  have hn6 := h.n6
  simp [look, LnD]
  refine wp_forW (fun ds ρ m' => ∃ pre suf, rs = pre ++ suf ∧ ds = suf.map rwD ∧ m' = { m with objs := m.objs ++ [.lst ((others pre own.1).map (limD own))] } ∧ ∃ y4 y5, ρ = [some (LnD rs), some (.str own.1), some (fV own), some (.ref m.objs.length), y4, y5] ++ ext) ?_ ?_ _ _ _ ⟨[], rs, rfl, rfl, rfl, _, _, rfl⟩
  · rintro x ds ρ m' ⟨pre, suf, e, es, rfl, y4, y5, rfl⟩
    cases suf with
    | nil => cases es
    | cons y suf =>
      obtain ⟨rfl, rfl⟩ := List.cons.inj es
      refine ⟨ok_nil', ?_⟩
      have hy : y ∈ rs := by rw [e]; simp
      have hlen : (others pre own.1).length ≤ 6 := by
        have : rs.length = pre.length + (suf.length + 1) := by rw [e]; simp
        have := List.length_filter_le (fun r : Row => !(r.1 == own.1)) pre
        unfold others
        omega
      simp [rwD, look, eq_wd (h.ok y hy).lay (h.ok own ho).lay]
      have hte' := hte y hy { m with objs := m.objs ++ [.lst ((others pre own.1).map (limD own))] }
      simp [fV] at hte'
      by_cases q : y.1 = own.1
      · simp [q]
        exact ⟨pre ++ [y], suf, by rw [e]; simp, rfl, by simp [others, q, LnD]⟩
      · simp [q]
        refine wp_mono hte' fun v m2 ⟨ev, em⟩ => ?_
        subst ev em
        simp
        exact ⟨by omega, pre ++ [y], suf, by rw [e]; simp, rfl, by simp [others, q, LnD]⟩
  · rintro ρ m' ⟨pre, suf, e, es, rfl, y4, y5, rfl⟩
    cases suf with
    | cons y suf => cases es
    | nil =>
      rw [List.append_nil] at e
      subst e
      refine ⟨ok_nil', ?_⟩
      simp [LnD]
end
end K90
end TL
end
section
/-! k90: limits, on both sides. -/
namespace TL
open L2 (atI ixN)
open PySem PySem.Spec PyProof.Rows L2 Cm
namespace K90
def lims (rs : List Row) (own : Row) : D := .tup ((others rs own.1).map (limD own))
theorem lt_lims (n : Nat) (rs : List Row) (own : Row) : ltD n (lims rs own) = true := by
  refine ltAll_all.mpr fun x hx => ?_
  obtain ⟨r, _, rfl⟩ := List.mem_map.mp hx
  exact lt_lim n own r
section
variable {d k kp : Nat} {rs : List Row} {r own : Row} {pt : QV} {m : MS}
theorem wp_tuple_ref {n : Nat} {P : D → MS → Prop} : wp (tupleD (.ref n) m) P ↔ (match m.objs[n]? with | some (.lst xs) => xs.length ≤ 1000000 ∧ P (.tup xs) m | _ => False) := by
  show wp (match seqD m (.ref n) with | some xs => newT xs m | none => .stuck) P ↔ _
  rw [show seqD m (.ref n) = (match m.objs[n]? with | some (.lst xs) => some xs | _ => none) from rfl]
  generalize m.objs[n]? = o
  cases o with
  | none => exact Iff.rfl
  | some o =>
    cases o with
    | lst xs => exact wp_newT
    | _ => exact Iff.rfl
theorem others_len (h : LOk d k rs) : (others rs own.1).length ≤ 6 := Nat.le_trans (List.length_filter_le _ _) h.n6
/-- own = [f for other, f in lines[1] if other == word][0] -/
theorem own_comp (h : LOk d k rs) (ho : own ∈ rs) {ext : List (Option D)} {P : D → MS → Prop} (hP : P (fV own) m) : wp ((dBin ixD (dLc false [4, 5] (iSeq (dBin ixD (dVar 0) (dC (.int 1)))) (gT 2 (gsCons (gN 4) (gsCons (gN 5) gsNil))) (toB (dBin (eqD false) (dVar 4) (dVar 1))) (dVar 5)) (dC (.int 0))) ([some (LnD rs), some (.str own.1), none, none, none, none] ++ ext) m) P := by
  have hn6 := h.n6
  simp [look, LnD]
  refine wp_lcW_filterA rwD (fun r => r.1 == own.1) fV ok_nil' (fun r hr => ?_) ⟨Nat.le_trans len_fm (by omega), ?_⟩
  · simp [rwD, look, wipeD, eq_wd (h.ok r hr).lay (h.ok own ho).lay]
    intro _
    rfl
  · rw [own_filter h.asc ho]
    simp
    exact hP
theorem cut_fV (r : Row) : cutD ((r.2.1 ++ [r.2.2]).map R2) none (some (-1)) = r.2.1.map R2 := by
  rw [List.map_append]
  exact cut_init
theorem at_fV (r : Row) : atI ((r.2.1 ++ [r.2.2]).map R2) (-1) = some (R2 r.2.2) := by
  rw [List.map_append]
  exact atI_last
theorem e_limits (h : LOk d k rs) (ho : own ∈ rs) (hk : k ≤ 1000) : F_limits_of [LnD rs, .str own.1] m = .ok (lims rs own) m := by
  have hl6 := others_len (own := own) h
  have hown := h.ok own ho
  have hd := h.d3
  unfold F_limits_of
  refine eq_of_wp (bodyT_of (d := lims rs own) ?_ fun n => lt_lims n rs own)
  rw [wp_bodyF']
  unfold u_limits_of
  refine wp_seqN (fun ρ m' => m' = m ∧ ρ = [some (LnD rs), some (.str own.1), some (fV own), none, none, none]) ?_ ?_
  · rw [wp_sAsg]
    refine own_comp (ext := []) h ho ?_
    exact ⟨_, rfl, rfl, rfl⟩
  rintro _ m' ⟨em, rfl⟩
  subst em
  refine wp_seqN (fun ρ m2 => m2 = { m' with objs := m'.objs ++ [.lst []] } ∧ ρ = [some (LnD rs), some (.str own.1), some (fV own), some (.ref m'.objs.length), none, none]) ?_ ?_
  · simp
  rintro _ m2 ⟨em, rfl⟩
  subst em
  refine wp_seqN (fun ρ m2 => m2 = { m' with objs := m'.objs ++ [.lst ((others rs own.1).map (limD own))] } ∧ ∃ y4 y5, ρ = [some (LnD rs), some (.str own.1), some (fV own), some (.ref m'.objs.length), y4, y5]) ?_ ?_
  · refine wp_mono (lim_loop (ext := []) h ho (fun r hr m2 => ?_)) ?_
    · have hr' := h.ok r hr
      have e1 := f_apart (m := m2) hown.sz hr'.sz (by have := hown.len; omega) (by omega)
      have e2 := f_minus (m := m2) hr'.szl hown.szl (by omega)
      have l1 := hown.len
      have l2 := hr'.len
      simp [look, fV, V2, cut_fV, at_fV]
      refine ⟨by omega, by omega, ?_⟩
      show wp (F_apart [V2 own.2.1, V2 r.2.1] m2) _
      rw [e1, wp_ok, e2, wp_ok]
      exact ⟨rfl, rfl⟩
    · rintro fl m3 ⟨y4, y5, e, em⟩
      exact ⟨_, e, em, y4, y5, rfl⟩
  rintro _ m3 ⟨em, y4, y5, rfl⟩
  subst em
  simp [look, lims, wp_tuple_ref]
  omega
theorem e_ln_limits (h : LOk d k rs) (ho : own ∈ rs) (hk : k ≤ 1000) : F__law_ln_limits [LnD rs, .str own.1] m = .ok (lims rs own) m := by
  have hl6 := others_len (own := own) h
  have hown := h.ok own ho
  have hd := h.d3
  unfold F__law_ln_limits
  refine eq_of_wp (bodyT_of (d := lims rs own) ?_ fun n => lt_lims n rs own)
  rw [wp_bodyF']
  unfold u__law_ln_limits
  refine wp_seqN (fun ρ m' => m' = m ∧ ρ = [some (LnD rs), some (.str own.1), some (fV own), none, none, none, none, none]) ?_ ?_
  · rw [wp_sAsg]
    refine own_comp (ext := [none, none]) h ho ?_
    exact ⟨_, rfl, rfl, rfl⟩
  rintro _ m' ⟨em, rfl⟩
  subst em
  refine wp_seqN (fun ρ m2 => m2 = { m' with objs := m'.objs ++ [.lst []] } ∧ ρ = [some (LnD rs), some (.str own.1), some (fV own), some (.ref m'.objs.length), none, none, none, none]) ?_ ?_
  · simp
  rintro _ m2 ⟨em, rfl⟩
  subst em
  refine wp_seqN (fun ρ m2 => m2 = { m' with objs := m'.objs ++ [.lst ((others rs own.1).map (limD own))] } ∧ ∃ y4 y5, ρ = [some (LnD rs), some (.str own.1), some (fV own), some (.ref m'.objs.length), y4, y5, none, none]) ?_ ?_
  · refine wp_mono (lim_loop (ext := [none, none]) h ho (fun r hr m2 => ?_)) ?_
    · have hr' := h.ok r hr
      have e2 := f_lminus (m := m2) hr'.szl hown.szl (by omega)
      have l1 := hown.len
      have l2 := hr'.len
      simp [look, fV, V2, cut_fV, at_fV, zipG_map]
      refine ⟨by omega, by omega, ?_⟩
      refine wp_lcW_mapA _ (fun p : (Int × Int) × (Int × Int) => R2 (qminus p.1 p.2)) ok_nil' (fun p hp => ?_) ?_
      · simp [look, wipeD, f_lminus (m := m2) (hown.sz p.1 (List.of_mem_zip hp).1) (hr'.sz p.2 (List.of_mem_zip hp).2) (by omega)]
      · have := zip_len (xs := own.2.1) (ys := r.2.1)
        simp [e2]
        refine ⟨by omega, ?_⟩
        unfold limD V2
        rw [List.zip, List.map_zipWith, List.map_zipWith]
    · rintro fl m3 ⟨y4, y5, e, em⟩
      exact ⟨_, e, em, y4, y5, rfl⟩
  rintro _ m3 ⟨em, y4, y5, rfl⟩
  subst em
  simp [look, lims, wp_tuple_ref]
  omega
theorem e_places (h : LOk d k rs) : F_places_of_lines [LnD rs] m = .ok (.int d) m := by
  obtain ⟨r0, rest, er⟩ : ∃ r0 rest, rs = r0 :: rest := by
    cases rs with
    | nil => have := h.n1; simp at this
    | cons a b => exact ⟨a, b, rfl⟩
  have h0 := (h.ok r0 (by rw [er]; simp)).len
  refine eq_of_wp ?_
  simp [F_places_of_lines, u_places_of_lines, startD, look, LnD, er, rwD, V2, h0]
def keepB (pt : QV) (own r : Row) : Bool := !qless (qdot (List.zipWith qminus own.2.1 r.2.1) pt) (qminus r.2.2 own.2.2)
theorem e_keeps (h : LOk d k rs) (hp : PtOk d kp pt) (ho : own ∈ rs) (hk : k ≤ 1000) (hkp : kp ≤ 1000) : F__law_ph_keeps [lims rs own, V2 pt] m = .ok (.bl ((others rs own.1).all (keepB pt own))) m := by
  have hl6 := others_len (own := own) h
  have hown := h.ok own ho
  have hd := h.d3
  refine eq_of_wp ?_
  simp [F__law_ph_keeps, u__law_ph_keeps, startD, look, lims]
  refine wp_lcW_filterA (limD own) (fun r => !keepB pt own r) (fun _ => .int 1) ok_nil' (fun r hr => ?_) ⟨Nat.le_trans len_fm (by omega), ?_⟩
  · have hr' := h.ok r (List.mem_filter.mp hr).1
    have hz : ∀ x ∈ List.zipWith qminus own.2.1 r.2.1, Sz (k + k + 1) x := by
      intro x hx
      rw [List.mem_iff_getElem] at hx
      obtain ⟨i, hi, rfl⟩ := hx
      rw [List.length_zipWith] at hi
      rw [List.getElem_zipWith]
      exact (hown.sz _ (List.getElem_mem _)).minus (hr'.sz _ (List.getElem_mem _))
    have hzl : (List.zipWith qminus own.2.1 r.2.1).length ≤ 3 := by
      rw [List.length_zipWith, hown.len, hr'.len]
      omega
    have e1 := f_ldot (m := m) (a := k + k + 1) (b := kp) hz hp.sz (by omega) (by
      have : ((List.zipWith qminus own.2.1 r.2.1).length + 1) * (k + k + 1 + kp + 1) ≤ 4 * (k + k + 1 + kp + 1) := Nat.mul_le_mul_right _ (by omega)
      omega)
    have e2 := f_lless (m := m) ((qdot_sz (a := k + k + 1) (b := kp) hz hp.sz).mono (by
      have : (List.zipWith qminus own.2.1 r.2.1).length * (k + k + 1 + kp + 1) ≤ 3 * (k + k + 1 + kp + 1) := Nat.mul_le_mul_right _ (by omega)
      omega : _ ≤ 10000)) (hr'.szl.minus hown.szl) (by omega)
    simp [limD, look, wipeD, e1, e2, keepB]
  · rw [wp_eq_nil (fun x hx => by obtain ⟨_, _, rfl⟩ := List.mem_map.mp hx; rfl) rfl]
    have e9 : ∀ (p : Row → Bool) (l : List Row), ((l.filter (fun r => !p r)).map fun _ => D.int 1).isEmpty = l.all p := by
      intro p l
      induction l with
      | nil => rfl
      | cons x xs ih =>
        rw [List.all_cons, List.filter_cons]
        cases p x with
        | false => simp
        | true => simpa using ih
    rw [e9]
    simp
end
end K90
end TL
end
section
/-! k90: keeping to the limits is being chosen; what chosen and region give. -/
namespace TL
open L2 (atI ixN)
open PySem PySem.Spec PyProof.Rows L2 Cm
namespace K90
section
variable {d k kp : Nat} {rs : List Row} {r own : Row} {pt : QV} {m : MS}
theorem own_uniq (h : LOk d k rs) (ho : own ∈ rs) (hr : r ∈ rs) (e : r.1 = own.1) : r = own := by
  have : r ∈ rs.filter (fun r => r.1 == own.1) := List.mem_filter.mpr ⟨hr, by simpa using e⟩
  rw [own_filter h.asc ho] at this
  simpa using this
theorem keep_iff (h : LOk d k rs) (hp : PtOk d kp pt) (ho : own ∈ rs) (hr : r ∈ rs) : keepB pt own r = !qless (WV pt own) (WV pt r) := by
  have h1 := h.ok own ho
  have h2 := h.ok r hr
  have p1 : ∀ x ∈ own.2.1, 0 < x.2 := fun x hx => (h1.sz x hx).2.2
  have p2 : ∀ x ∈ r.2.1, 0 < x.2 := fun x hx => (h2.sz x hx).2.2
  have pp : ∀ x ∈ pt, 0 < x.2 := fun x hx => (hp.sz x hx).2.2
  have pz : ∀ x ∈ List.zipWith qminus own.2.1 r.2.1, 0 < x.2 := by
    intro x hx
    rw [List.mem_iff_getElem] at hx
    obtain ⟨i, hi, rfl⟩ := hx
    rw [List.length_zipWith] at hi
    rw [List.getElem_zipWith]
    exact qminus_pos (p1 _ (List.getElem_mem _)) (p2 _ (List.getElem_mem _))
  have l1 := h1.szl.2.2
  have l2 := h2.szl.2.2
  unfold keepB
  congr 1
  rw [Bool.eq_iff_iff, qless_iff (qdot_pos pz pp) (qminus_pos l2 l1), qv_qdot pz pp, rdot_sub (by rw [h1.len, h2.len]) p1 p2, qv_minus l2 l1]
  unfold WV
  rw [qless_iff (qplus_pos (qdot_pos p1 pp) l1) (qplus_pos (qdot_pos p2 pp) l2)]
  rw [qv_plus (qdot_pos p1 pp) l1, qv_plus (qdot_pos p2 pp) l2, qv_qdot p1 pp, qv_qdot p2 pp]
  generalize rdot own.2.1 pt = a
  generalize rdot r.2.1 pt = b
  generalize qv own.2.2 = c
  generalize qv r.2.2 = e
  constructor <;> intro q <;> grind
theorem keeps_due (h : LOk d k rs) (hp : PtOk d kp pt) (hk : k ≤ 1000) (hkp : kp ≤ 1000) (ho : own ∈ rs) : (others rs own.1).all (keepB pt own) = ((rs.filter (best rs pt)).map (·.1)).any (fun z => z == own.1) := by
  have hpo := (WV_sz (h.ok own ho) hp h.d3 hk hkp).2.2
  rw [Bool.eq_iff_iff, List.all_eq_true, List.any_eq_true]
  constructor
  · intro hall
    refine ⟨own.1, List.mem_map.mpr ⟨own, List.mem_filter.mpr ⟨ho, ?_⟩, rfl⟩, by simp⟩
    unfold best
    rw [List.all_eq_true]
    intro s hs
    by_cases e : s.1 = own.1
    · rw [own_uniq h ho hs e, Bool.not_eq_true', Bool.eq_false_iff]
      intro q
      exact Rat.lt_irrefl ((qless_iff hpo hpo).mp q)
    · rw [← keep_iff h hp ho hs]
      exact hall s (List.mem_filter.mpr ⟨hs, by simpa using e⟩)
  · rintro ⟨z, hz, e⟩ r hr
    obtain ⟨s, hs, rfl⟩ := List.mem_map.mp hz
    obtain ⟨hs1, hs2⟩ := List.mem_filter.mp hs
    have := own_uniq h ho hs1 (by simpa using e)
    subst this
    have hr1 := (List.mem_filter.mp hr).1
    rw [keep_iff h hp ho hr1]
    exact List.all_eq_true.mp hs2 r hr1
theorem okAll_strs {n : Nat} {zs : List Str} (h : ∀ z ∈ zs, PyData.canLay0 (.str z) = true) : okAll n (zs.map D.str) = true := by
  refine okAll_all.mpr fun x hx => ?_
  obtain ⟨z, hz, rfl⟩ := List.mem_map.mp hx
  have := h z hz
  cases n <;> simpa [okD] using this
theorem wp_in_strs {x : Str} {zs : List Str} {neg : Bool} {P : D → MS → Prop} (hx : PyData.canLay0 (.str x) = true) (h : ∀ z ∈ zs, PyData.canLay0 (.str z) = true) : wp (inD neg (.str x) (.lst (zs.map D.str)) m) P ↔ P (.bl (if neg then !zs.any (fun z => z == x) else zs.any fun z => z == x)) m := by
  show wp (if okD 63 (.str x) && okAll 63 (zs.map D.str) then Res.ok (.bl (if neg then !(zs.map D.str).any (fun z => eqvD z (.str x)) else (zs.map D.str).any (fun z => eqvD z (.str x)))) m else .stuck) P ↔ _
  rw [show okD 63 (.str x) = true by simpa [okD] using hx, okAll_strs h]
  rw [List.any_map]
  exact Iff.rfl
theorem wd_len (h : RwOk d k r) : 1 ≤ r.1.length ∧ r.1.length ≤ 8 := by
  have := h.wd
  unfold isWd at this
  simp only [Bool.and_eq_true, decide_eq_true_eq] at this
  exact ⟨this.1, this.2.1⟩
theorem okV_R2 {n : Nat} (hn : 2 ≤ n) (p : Int × Int) : okV n (R2 p) = true := okV_tup.mpr ⟨hn, fun x hx => by
  simp at hx
  rcases hx with rfl | rfl <;> rfl⟩
theorem okV_V2 {n : Nat} (hn : 2 ≤ n) {xs : QV} (hx : xs.length ≤ n) : okV n (V2 xs) = true := okV_tup.mpr ⟨by simpa using hx, fun x hx => by
  obtain ⟨p, _, rfl⟩ := List.mem_map.mp hx
  exact okV_R2 hn p⟩
theorem okV_row {n : Nat} (hn : 6 ≤ n) (h : RwOk d k r) (hd : d ≤ 3) : okV n (rwD r) = true := okV_tup.mpr ⟨by simp; omega, fun x hx => by
  simp at hx
  rcases hx with rfl | rfl
  · have := wd_len h
    show (decide (r.1.length ≤ 1000000) && PyData.canLay0 (.str r.1)) = true
    rw [h.lay, Bool.and_true]
    exact decide_eq_true (by omega)
  · exact okV_V2 (by omega) (by have := h.len; simp; omega)⟩
theorem okV_Ln {n : Nat} (hn : 6 ≤ n) (h : LOk d k rs) : okV n (LnD rs) = true := okV_tup.mpr ⟨by simp; omega, fun x hx => by
  simp at hx
  rcases hx with rfl | rfl
  · show (decide ((("lines" : Str)).length ≤ 1000000) && PyData.canLay0 (.str "lines")) = true
    decide +kernel
  · refine okV_tup.mpr ⟨by have := h.n6; simp; omega, fun y hy => ?_⟩
    obtain ⟨r, hr, rfl⟩ := List.mem_map.mp hy
    exact okV_row hn (h.ok r hr) h.d3⟩
theorem isVec_V2 {xs : QV} (h1 : 1 ≤ xs.length) (h2 : xs.length ≤ 200) (h : ∀ q ∈ xs, isRat (R2 q) = true) : isVec (V2 xs) = true := by
  unfold V2 isVec
  simp [h1, h2]
  exact fun a b hab => h _ hab
theorem isLine_row (h : RwOk d k r) (hd1 : 1 ≤ d) (hd : d ≤ 3) : isLine (rwD r) = true := by
  have e := isVec_V2 (xs := r.2.1 ++ [r.2.2]) (by simp) (by have := h.len; simp; omega) (fun q hq => by
    rcases List.mem_append.mp hq with hq | hq
    · exact h.rat q hq
    · rw [List.mem_singleton.mp hq]
      exact h.ratl)
  have := h.len
  unfold isLine rwD
  dsimp only
  rw [h.wd, e]
  simp [V2]
  omega
theorem asc_rows : ∀ {rs : List Row}, (rs.Pairwise fun a b => a.1.cps.toList < b.1.cps.toList) → ascB (rs.map rwD) = true
  | [], _ => rfl
  | [x], _ => rfl
  | x :: y :: r, h => by
    have h1 := List.pairwise_cons.mp h
    have ih := asc_rows h1.2
    show (decide (rowW (rwD x) < rowW (rwD y)) && ascB ((y :: r).map rwD)) = true
    rw [ih, Bool.and_true]
    exact decide_eq_true (h1.1 y (by simp))
theorem isLines_Ln (h : LOk d k rs) : isLines (LnD rs) = true := by
  unfold LnD
  rw [isLines_rows]
  have h1 := h.n1
  have h6 := h.n6
  obtain ⟨r0, rest, er⟩ : ∃ r0 rest, rs = r0 :: rest := by
    cases rs with
    | nil => simp at h1
    | cons a b => exact ⟨a, b, rfl⟩
  have e0 : (rs.map rwD).headD .non = rwD r0 := by rw [er]; rfl
  have hN : ∀ r ∈ rs, rowN (rwD r) = d + 1 := by
    intro r hr
    have := (h.ok r hr).len
    simp [rowN, rwD, V2, this]
  simp only [Bool.and_eq_true, decide_eq_true_eq, List.all_eq_true, List.length_map]
  refine ⟨h1, h6, fun x hx => ?_, fun x hx => ?_, asc_rows h.asc⟩
  · obtain ⟨r, hr, rfl⟩ := List.mem_map.mp hx
    exact isLine_row (h.ok r hr) h.d1 h.d3
  · obtain ⟨r, hr, rfl⟩ := List.mem_map.mp hx
    rw [e0, hN r hr, hN r0 (by rw [er]; simp)]
theorem e_need_lines (h : LOk d k rs) : F_need_lines [LnD rs] m = .ok .non m := by
  refine eq_of_wp ?_
  simp [F_need_lines, u_need_lines, startD, look, e_is_lines (m := m) (okV_Ln (n := 6) (by decide) h) (by decide), isLines_Ln h]
theorem pt_vec (h : LOk d k rs) (hp : PtOk d kp pt) : F_is_vector [V2 pt] m = .ok (.bl true) m := by
  have h1 := h.d1
  have h3 := h.d3
  have hl := hp.len
  have ok := okV_V2 (n := 10) (by decide) (xs := pt) (by omega)
  rw [e_is_vector (m := m) (okV.ty3 ok) (okV.len ok (by decide)), isVec_V2 (by omega) (by omega) hp.rat]
theorem e_chosen (h : LOk d k rs) (hp : PtOk d kp pt) (hk : k ≤ 1000) (hkp : kp ≤ 1000) : F_chosen [LnD rs, V2 pt] m = .ok (wds (rs.filter (best rs pt))) m := by
  have hl := hp.len
  have e1 := e_need_lines (m := m) h
  have e2 := pt_vec (m := m) h hp
  have e3 := e_places (m := m) h
  have e4 := e_greatest_words (m := m) h hp hk hkp
  refine eq_of_wp ?_
  unfold V2 at e2 e4 ⊢
  simp [F_chosen, u_chosen, startD, look, e1, e2, e3, e4, hl]
theorem e_need_word (h : LOk d k rs) (ho : own ∈ rs) : F_need_line_word [LnD rs, .str own.1] m = .ok .non m := by
  have hn6 := h.n6
  have hr := okV_row (n := 6) (by decide) (h.ok own ho) h.d3
  have hw : okV 6 (.str own.1) = true := (okV_tup.mp hr).2 _ (by simp)
  refine eq_of_wp ?_
  simp [F_need_line_word, u_need_line_word, startD, look, e_is_word (m := m) hw, (h.ok own ho).wd, LnD]
  refine wp_lcW_mapA rwD (fun r => D.str r.1) ok_nil' (fun r hr => ?_) ⟨by rw [List.length_map]; omega, ?_⟩
  · simp [look, wipeD, rwD]
  have e : rs.map (fun r => D.str r.1) = (rs.map (·.1)).map D.str := by rw [List.map_map]; rfl
  rw [e, wp_in_strs (h.ok own ho).lay (fun z hz => by
    obtain ⟨r, hr, rfl⟩ := List.mem_map.mp hz
    exact (h.ok r hr).lay)]
  have : ((rs.map (·.1)).any fun z => z == own.1) = true := List.any_eq_true.mpr ⟨own.1, List.mem_map.mpr ⟨own, ho, rfl⟩, by simp⟩
  rw [this]
  simp
def regD (d : Nat) (rs : List Row) (own : Row) : D := .tup [.str "polyhedron", .int d, lims rs own]
theorem e_region (h : LOk d k rs) (ho : own ∈ rs) (hk : k ≤ 1000) : F_region [LnD rs, .str own.1] m = .ok (regD d rs own) m := by
  refine eq_of_wp ?_
  simp [F_region, u_region, startD, look, e_need_lines (m := m) h, e_need_word (m := m) h ho, e_places (m := m) h, e_limits (m := m) h ho hk, regD]
end
end K90
end TL
end
section
/-! k90: lines drawn. -/
namespace TL
open L2 (atI ixN)
open PySem PySem.Spec PyProof.Rows L2 Cm
/-- a def with own lists: they are let go (many values) -/
theorem bodyT_of2 {P : D → MS → Prop} {m : MS} {u : FS} {n : Nat} {ds : List D} (h : wp (bodyF u n ds m) fun v m1 => (∀ k, ltD k v = true) ∧ ∃ more, m1.objs = m.objs ++ more ∧ P v { m1 with objs := m.objs }) : wp (bodyT u n ds m) P := by
  obtain ⟨v, m1, e, hd, more, eo, q⟩ := wp_elim h
  unfold bodyT
  rw [e]
  unfold trunc
  have ok : okOld m m1 := .inl (by rw [eo]; simp)
  have f : frz m.objs.length m1.objs 8 v = some v := by
    unfold frz
    rw [if_pos (hd _)]
  simp only [ok, if_true, f]
  rw [eo, List.take_left]
  exact q
theorem wp_ix_ref {m : MS} {n : Nat} {xs : List D} {i : Int} {P : D → MS → Prop} (h : m.objs[n]? = some (.lst xs)) : wp (ixD (.ref n) (.int i) m) P ↔ (match atI xs i with | some d => P d m | none => False) := by
  show wp (match seqD m (.ref n) with | some xs => (match atI xs i with | some d => Res.ok d m | none => .stuck) | none => .stuck) P ↔ _
  rw [show seqD m (.ref n) = (match m.objs[n]? with | some (.lst xs) => some xs | _ => none) from rfl, h]
  dsimp only
  cases atI xs i <;> exact Iff.rfl
namespace Cm
theorem sp_pick_ref {n j : Nat} {m : MS} {xs : List D} (h : DrB (n + 1) m) (ho : m.objs[j]? = some (.lst xs)) (hx : xs ≠ []) : wp (F__law_pick [.drw, .ref j] m) fun v m' => v ∈ xs ∧ m'.objs = m.objs ∧ DrB n m' := by
  obtain ⟨d, hd, ok⟩ := h
  have hl : 0 < (xs.length : Int) := by
    have := List.length_pos_iff.mpr hx
    omega
  have hv := drawV_lt (d := d) hl
  obtain ⟨i, hj⟩ := Int.eq_ofNat_of_zero_le hv.1
  have hj2 : i < xs.length := by omega
  simp [F__law_pick, u__law_pick, startD, look, ho, e_draw hd ok hl, hj]
  rw [wp_ix_ref (xs := xs) (by exact ho), atI_nat hj2]
  exact ⟨List.getElem_mem hj2, rfl, _, rfl, draw_rest hl ok⟩
end Cm
namespace K90
def turn (p : Int × Int) : Int × Int := (0 - p.1, p.2)
theorem e_turned {xs : QV} {m : MS} (hl : xs.length ≤ 1000000) : F__law_ph_turned [V2 xs] m = .ok (V2 (xs.map turn)) m := by
  refine eq_of_wp ?_
  simp [F__law_ph_turned, u__law_ph_turned, startD, look, V2]
  refine wp_lcW_mapA R2 (fun p => R2 (turn p)) ok_nil' (fun p hp => ?_) ?_
  · simp [look, wipeD, R2, turn]
  · simp
    exact hl
abbrev Fn := QV × (Int × Int)
def fnD (f : Fn) : D := V2 (f.1 ++ [f.2])
structure FOk (d k : Nat) (f : Fn) : Prop where
  len : f.1.length = d
  sz : ∀ q ∈ f.1, Sz k q
  szl : Sz k f.2
  rat : ∀ q ∈ f.1, isRat (R2 q) = true
  ratl : isRat (R2 f.2) = true
theorem FOk.mono {d k j : Nat} {f : Fn} (h : FOk d k f) (l : k ≤ j) : FOk d j f := ⟨h.len, fun q hq => (h.sz q hq).mono l, h.szl.mono l, h.rat, h.ratl⟩
theorem Sz.turn {k : Nat} {p : Int × Int} (h : Sz k p) : Sz k (turn p) := ⟨by show (0 - p.1).natAbs < _; have := h.1; omega, h.2.1, h.2.2⟩
theorem rat_turn {p : Int × Int} (h : isRat (R2 p) = true) : isRat (R2 (turn p)) = true := by
  obtain ⟨h1, h2⟩ := isRat_iff.mp h
  refine isRat_iff.mpr ⟨h1, ?_⟩
  show Nat.gcd (0 - p.1).natAbs p.2.natAbs = 1
  have : (0 - p.1).natAbs = p.1.natAbs := by omega
  rw [this]
  exact h2
theorem FOk.turned {d k : Nat} {f : Fn} (h : FOk d k f) : FOk d k (f.1.map turn, turn f.2) := ⟨by simp [h.len], fun q hq => by
  obtain ⟨p, hp, rfl⟩ := List.mem_map.mp hq
  exact Sz.turn (h.sz p hp), Sz.turn h.szl, fun q hq => by
  obtain ⟨p, hp, rfl⟩ := List.mem_map.mp hq
  exact rat_turn (h.rat p hp), rat_turn h.ratl⟩
theorem FOk.less {d k : Nat} {f : Fn} (h : FOk d k f) : FOk d (k + 2) (f.1, qminus f.2 (1, 1)) := ⟨h.len, fun q hq => (h.sz q hq).mono (by omega), h.szl.minus (b := 1) ⟨by decide, by decide, by decide⟩, h.rat, rat_minus h.szl.2.2 (by decide)⟩
theorem FOk.ofV {d : Nat} {v : D} (h : IsV (d + 1) v) : ∃ f, v = fnD f ∧ FOk d 21 f := by
  obtain ⟨qs, rfl, hl, hq⟩ := h
  rcases List.eq_nil_or_concat qs with rfl | ⟨a, b, rfl⟩
  · simp at hl
  · rw [List.concat_eq_append] at *
    refine ⟨(a, b), rfl, ?_, fun q h => (hq q (by simp [h])).1, (hq b (by simp)).1, fun q h => (hq q (by simp [h])).2, (hq b (by simp)).2⟩
    simpa using hl
theorem occ_letters : ∀ x, x < 26 → occ abc ⟨#[97 + x]⟩ = true := by decide +kernel
theorem wd_dW {l : List Nat} (h : WOk l) : isWd (dW l) = true := by
  have hl : (strW l).length = l.length := by simp [strW, Str.length]
  show (decide (1 ≤ (strW l).length) && (decide ((strW l).length ≤ 8) && _)) = true
  rw [hl, Bool.and_eq_true, Bool.and_eq_true]
  refine ⟨decide_eq_true h.1, decide_eq_true h.2.1, ?_⟩
  rw [List.all_eq_true]
  intro c hc
  have : c ∈ l.map (97 + ·) := by simpa [strW] using hc
  obtain ⟨x, hx, rfl⟩ := List.mem_map.mp this
  exact occ_letters x (h.2.2 x hx)
theorem lay_dW {l : List Nat} (h : WOk l) : PyData.canLay0 (.str (strW l)) = true := by
  simp only [PyData.canLay0, PyData.strOk, Array.all_eq_true, strW]
  intro i hi
  simp at hi
  simp
  have := h.2.2 l[i] (List.getElem_mem _)
  omega
theorem lt_fn (n : Nat) (f : Fn) : ltD n (fnD f) = true := lt_V2 n _
theorem okD_R2 (p : Int × Int) (k : Nat) : okD (k + 1) (R2 p) = true := by
  cases k <;> rfl
theorem okD_V2 (xs : QV) (k : Nat) : okD (k + 2) (V2 xs) = true := by
  show okAll (k + 1) (xs.map R2) = true
  refine okAll_all.mpr fun x hx => ?_
  obtain ⟨p, _, rfl⟩ := List.mem_map.mp hx
  exact okD_R2 p k
theorem sIf_wp {g : FB} {u v : FS} {ρ : Env'} {m : MS} {b : Bool} {PF : Fl → MS → Prop} (hg : ∀ Q : Bool → MS → Prop, Q b m → wp (g ρ m) Q) (h1 : b = true → wp (u ρ m) PF) (h2 : b = false → wp (v ρ m) PF) : wp (sIf g u v ρ m) PF := by
  rw [wp_sIf]
  refine hg _ ?_
  cases b with
  | true => exact h1 rfl
  | false => exact h2 rfl
/-- a lap of `_law_lines` -/
theorem lines_lap {n d j : Nat} {size : Int} {m m0 : MS} {fs : List Fn} {x1 x2 : D} {x5 x8 : Option D} {u6 u7 : Option D} (hd : d ≤ 3) (h1 : 1 ≤ size) (h2 : size ≤ 1000000) (hfs : ∀ f ∈ fs, FOk d j f) (hj : 21 ≤ j) (hj2 : j ≤ 1000) (hfl : fs.length ≤ 10) (ho : m.objs = m0.objs ++ [.lst (fs.map fnD)]) (hb : DrB (n + 80) m) :
    wp ((sSeq (sAsg (dLst false (aCons (dCall (lenF 3 F__law_vector) (aCons (dVar 0) (aCons (dBin (addD false) (dVar 1) (dC (.int 1))) (aCons (dVar 4) aNil)))) (aCons (dCall (lenF 3 F__law_vector) (aCons (dVar 0) (aCons (dBin (addD false) (dVar 1) (dC (.int 1))) (aCons (dVar 4) aNil)))) aNil))) (gN 6))
  (sSeq (sIf (toB (dBin (eqD true) (dVar 3) (dLst false aNil)))
  (sSeq (sAsg (dCall (lenF 2 F__law_pick) (aCons (dVar 0) (aCons (dVar 3) aNil))) (gN 7))
  (sAsg (dBin (addD false) (dVar 6) (dLst false (aCons (dVar 7) (aCons (dBin (addD false) (dSl false (dVar 7) oNone (oSome (dNeg (dC (.int 1))))) (dTup (aCons (dCall (lenF 2 F__law_minus) (aCons (dBin ixD (dVar 7) (dNeg (dC (.int 1)))) (aCons (dTup (aCons (dC (.int 1)) (aCons (dC (.int 1)) aNil))) aNil))) aNil))) (aCons (dCall (lenF 1 F__law_ph_turned) (aCons (dVar 7) aNil)) aNil))))) (gN 6)))
  sNext)
  (sExpr (dMeth "list" appendD (dVar 3) (aCons (dCall (lenF 2 F__law_pick) (aCons (dVar 0) (aCons (dVar 6) aNil))) aNil)))))
   [some .drw, some (.int d), some x2, some (.ref m0.objs.length), some (.int size), x5, u6, u7, x8] m) fun fl m' => ∃ f v6 v7, fl = .next [some .drw, some (.int d), some x2, some (.ref m0.objs.length), some (.int size), x5, v6, v7, x8] ∧ FOk d (j + 2) f ∧ m'.objs = m0.objs ++ [.lst ((fs ++ [f]).map fnD)] ∧ DrB n m' := by
  have hget : ∀ m' : MS, m'.objs = m.objs → m'.objs[m0.objs.length]? = some (.lst (fs.map fnD)) := by
    intro m' e
    rw [e, ho]
    simp
  refine wp_seqN (fun ρ m' => m'.objs = m.objs ∧ DrB (n + 8) m' ∧ ∃ f g, FOk d 21 f ∧ FOk d 21 g ∧ ρ = [some .drw, some (.int d), some x2, some (.ref m0.objs.length), some (.int size), x5, some (.lst [fnD f, fnD g]), u7, x8]) ?_ ?_
  · simp [look]
    have e1 : ((d : Int) + 1) = ((d + 1 : Nat) : Int) := by omega
    rw [e1]
    refine wp_mono (sp_vector (n := n + 44) (many := d + 1) (hb.mono (by omega)) (by omega) h1 h2) fun v1 m1 ⟨hv1, o1, b1⟩ => ?_
    refine wp_mono (sp_vector (n := n + 8) (many := d + 1) (b1.mono (by omega)) (by omega) h1 h2) fun v2 m2 ⟨hv2, o2, b2⟩ => ?_
    obtain ⟨f, rfl, hf⟩ := FOk.ofV hv1
    obtain ⟨g, rfl, hg⟩ := FOk.ofV hv2
    exact ⟨by rw [o2, o1], b2, f.1, f.2.1, f.2.2, hf, g.1, g.2.1, g.2.2, hg, rfl, rfl⟩
  rintro _ m1 ⟨o1, b1, f, g, hf, hg, rfl⟩
  refine wp_seqN (fun ρ m' => m'.objs = m.objs ∧ DrB (n + 4) m' ∧ ∃ (hs : List Fn) (v7 : Option D), (∀ f ∈ hs, FOk d (j + 2) f) ∧ hs ≠ [] ∧ ρ = [some .drw, some (.int d), some x2, some (.ref m0.objs.length), some (.int size), x5, some (.lst (hs.map fnD)), v7, x8]) ?_ ?_
  · refine sIf_wp (b := !(fs.map fnD).isEmpty) (fun Q hQ => ?_) (fun hne => ?_) (fun _ => ?_)
    · have hfl : flatR m1 (.ref m0.objs.length) = .lst (fs.map fnD) := flat_ref (hget m1 o1)
      simp [look]
      have hok : okD 64 (flatR m1 (.ref m0.objs.length)) = true := by
        rw [hfl]
        show okAll 63 (fs.map fnD) = true
        refine okAll_all.mpr fun x hx => ?_
        obtain ⟨f, _, rfl⟩ := List.mem_map.mp hx
        exact okD_V2 _ 61
      rw [wp_eq_gen hok rfl, hfl]
      simp only [flatR, eqvD, eqvAll_nil, if_true]
      exact hQ
    · simp [look]
      refine wp_mono (sp_pick_ref (n := n + 7) (xs := fs.map fnD) b1 (hget m1 o1) (by
        intro e
        rw [e] at hne
        cases hne)) fun v m2 ⟨hv, o2, b2⟩ => ?_
      obtain ⟨old, hold, rfl⟩ := List.mem_map.mp hv
      have ok := hfs old hold
      have hl := ok.len
      have e1 := f_lminus (m := m2) (p := old.2) (q := (1, 1)) ok.szl (b := 1) ⟨by decide, by decide, by decide⟩ (by omega)
      have e2 := e_turned (m := m2) (xs := old.1 ++ [old.2]) (by simp; omega)
      simp [look, fnD, V2_app]
      refine ⟨by omega, ?_⟩
      rw [show F__law_minus [R2 old.2, .tup [.int 1, .int 1]] m2 = _ from e1, wp_ok]
      refine ⟨by omega, ?_⟩
      rw [← V2_app, e2, wp_ok]
      refine ⟨by rw [o2, o1], b2.mono (by omega), [f, g, old, (old.1, qminus old.2 (1, 1)), (old.1.map turn, turn old.2)], ?_, by simp, ?_⟩
      · intro a b c hz
        simp only [List.mem_cons, List.not_mem_nil, or_false] at hz
        rcases hz with e | e | e | e | e
        · rw [e]; exact hf.mono (by omega)
        · rw [e]; exact hg.mono (by omega)
        · rw [e]; exact ok.mono (by omega)
        · rw [e]; exact ok.less
        · rw [e]; exact ok.turned.mono (by omega)
      · simp [fnD, V2_app, List.map_append]
    · refine ⟨_, rfl, o1, b1.mono (by omega), [f, g], u7, fun z hz => by
        simp at hz
        rcases hz with rfl | rfl
        · exact hf.mono (by omega)
        · exact hg.mono (by omega), by simp, rfl⟩
  rintro _ m2 ⟨o2, b2, hs, v7, hhs, hne, rfl⟩
  simp [look, hget m2 o2]
  refine wp_mono (sp_pick (n := n + 3) b2 (by simpa using hne)) fun v m3 ⟨hv, o3, b3⟩ => ?_
  obtain ⟨f', hf', rfl⟩ := List.mem_map.mp hv
  rw [hget m3 (by rw [o3, o2])]
  simp
  refine ⟨by omega, f'.1, f'.2.1, f'.2.2, hhs f' hf', ?_, b3.mono (by omega)⟩
  rw [o3, o2, ho]
  simp
end K90
end TL
end
section
/-! k90: lines drawn, whole. -/
namespace TL
open L2 (atI ixN)
open PySem PySem.Spec PyProof.Rows L2 Cm
namespace K90
def mkRow (p : List Nat × Fn) : Row := (strW p.1, p.2.1, p.2.2)
theorem lt_Ln (n : Nat) (rs : List Row) : ltD n (LnD rs) = true := by
  show (ltD n (.str "lines") && (ltAll n (rs.map rwD) && true)) = true
  rw [show ltD n (.str "lines") = true from rfl, show ltAll n (rs.map rwD) = true from ltAll_all.mpr fun x hx => by
    obtain ⟨r, _, rfl⟩ := List.mem_map.mp hx
    show (ltD n (.str r.1) && (ltD n (V2 _) && true)) = true
    rw [lt_V2]
    rfl]
  rfl
theorem mk_LOk {d k : Nat} {gs : List (List Nat)} {fs : List Fn} {many : Nat} (hd1 : 1 ≤ d) (hd3 : d ≤ 3) (h1 : 1 ≤ many) (h6 : many ≤ 6) (hg : Wds many gs) (hl : fs.length = gs.length) (hf : ∀ f ∈ fs, FOk d k f) : LOk d k ((gs.zip fs).map mkRow) := by
  have hlen : ((gs.zip fs).map mkRow).length = many := by
    rw [List.length_map, List.length_zip, hl, Nat.min_self, hg.len]
  refine ⟨hd1, hd3, by omega, by omega, fun r hr => ?_, ?_⟩
  · obtain ⟨p, hp, rfl⟩ := List.mem_map.mp hr
    have w := hg.ok p.1 (List.of_mem_zip hp).1
    have f := hf p.2 (List.of_mem_zip hp).2
    exact ⟨wd_dW w, lay_dW w, f.len, f.sz, f.szl, f.rat, f.ratl⟩
  · rw [List.pairwise_map]
    have e : (gs.zip fs).map Prod.fst = gs := List.map_fst_zip (by omega)
    have := hg.asc
    rw [← e, List.pairwise_map] at this
    exact this
theorem sp_lines {n : Nat} {m : MS} (h : DrB (n + 79228156131691039118268197300) m) : wp (F__law_lines [.drw] m) fun v m' => (∃ d rs, v = LnD rs ∧ LOk d 40 rs) ∧ m'.objs = m.objs ∧ DrB n m' := by
  unfold F__law_lines
  refine bodyT_of2 ?_
  rw [wp_bodyF']
  unfold u__law_lines
  refine wp_seqN (fun ρ m' => m'.objs = m.objs ∧ DrB (n + 490) m' ∧ ∃ (d many : Nat) (gs : List (List Nat)), 1 ≤ d ∧ d ≤ 3 ∧ 1 ≤ many ∧ many ≤ 6 ∧ Wds many gs ∧ ρ = [some .drw, some (.int d), some (.lst (gs.map dW)), none, none, none, none, none, none]) ?_ ?_
  · simp [startD, look]
    refine wp_mono (sp_draw (n := n + 79228156131691039118268197295) (h.mono (by omega)) (by decide)) fun v1 m1 ⟨⟨i, e1, i0, i1⟩, o1, b1⟩ => ?_
    subst e1
    simp
    refine wp_mono (sp_draw (n := n + 79228156131691039118268197290) (b1.mono (by omega)) (by decide)) fun v2 m2 ⟨⟨j, e2, j0, j1⟩, o2, b2⟩ => ?_
    subst e2
    simp
    obtain ⟨i, rfl⟩ := Int.eq_ofNat_of_zero_le i0
    obtain ⟨j, rfl⟩ := Int.eq_ofNat_of_zero_le j0
    have ej : (1 : Int) + (j : Int) = ((1 + j : Nat) : Int) := by omega
    rw [ej]
    refine wp_mono (sp_words (n := n + 490) (many := 1 + j) (by omega) (b2.mono (by omega))) fun v3 m3 ⟨⟨gs, e3, hg⟩, o3, b3⟩ => ?_
    subst e3
    exact ⟨by rw [o3, o2, o1], b3, 1 + i, by omega, by omega, 1 + j, by omega, by omega, gs, hg, by simp, rfl⟩
  rintro _ m1 ⟨o1, b1, d, many, gs, hd1, hd3, hm1, hm6, hg, rfl⟩
  refine wp_seqN (fun ρ m' => m'.objs = m.objs ++ [.lst []] ∧ DrB (n + 480) m' ∧ ∃ size : Int, 1 ≤ size ∧ size ≤ 1000000 ∧ ρ = [some .drw, some (.int d), some (.lst (gs.map dW)), some (.ref m.objs.length), some (.int size), none, none, none, none]) ?_ ?_
  · simp [look]
    refine ⟨by decide, ?_⟩
    refine wp_mono (sp_pick (n := n + 480) (by exact b1.mono (by omega)) (by simp)) fun v m2 ⟨hv, o2, b2⟩ => ?_
    have ho : m2.objs = m.objs ++ [.lst []] := by rw [o2, ← o1]
    simp only [List.mem_cons, List.not_mem_nil, or_false] at hv
    rw [o1]
    rcases hv with e | e | e | e
    · exact ⟨ho, b2, 1, by decide, by decide, by rw [e]; exact ⟨rfl, rfl⟩⟩
    · exact ⟨ho, b2, 2, by decide, by decide, by rw [e]; exact ⟨rfl, rfl⟩⟩
    · exact ⟨ho, b2, 9, by decide, by decide, by rw [e]; exact ⟨rfl, rfl⟩⟩
    · exact ⟨ho, b2, 1000000, by decide, by decide, by rw [e]; exact ⟨rfl, rfl⟩⟩
  rintro _ m2 ⟨o2, b2, size, hs1, hs2, rfl⟩
  have hgl := hg.len
  refine wp_seqN (fun ρ m' => ∃ fs : List Fn, m'.objs = m.objs ++ [.lst (fs.map fnD)] ∧ DrB n m' ∧ fs.length = gs.length ∧ (∀ f ∈ fs, FOk d 40 f) ∧ ∃ a b c e, ρ = [some .drw, some (.int d), some (.lst (gs.map dW)), some (.ref m.objs.length), some (.int size), a, b, c, e]) ?_ ?_
  · simp only [wp_sFor, wp_iSeq, wp_var, look, List.getElem?_cons_zero, List.getElem?_cons_succ, seq_lst, gs_lst]
    refine wp_forW (fun ds ρ m' => ∃ pre suf, gs = pre ++ suf ∧ ds = suf.map dW ∧ ∃ fs : List Fn, m'.objs = m.objs ++ [.lst (fs.map fnD)] ∧ DrB (n + 80 * suf.length) m' ∧ fs.length = pre.length ∧ (∀ f ∈ fs, FOk d (21 + 2 * pre.length) f) ∧ ∃ a b c e, ρ = [some .drw, some (.int d), some (.lst (gs.map dW)), some (.ref m.objs.length), some (.int size), a, b, c, e]) ?_ ?_ _ _ _ ⟨[], gs, rfl, rfl, [], o2, b2.mono (by omega), rfl, by simp, _, _, _, _, rfl⟩
    · rintro x ds ρ m' ⟨pre, suf, e, es, fs, ho, hb, hfl, hfs, u5, u6, u7, u8, rfl⟩
      cases suf with
      | nil => cases es
      | cons y suf =>
        obtain ⟨rfl, rfl⟩ := List.cons.inj es
        refine ⟨ok_nil', ?_⟩
        have hlen : gs.length = pre.length + (suf.length + 1) := by rw [e]; simp
        rw [wp_gN]
        refine wp_mono (lines_lap (n := n + 80 * suf.length) (m0 := m) (x5 := some (dW y)) (x8 := u8) (u6 := u6) (u7 := u7) (x1 := .non) hd3 hs1 hs2 hfs (by omega) (by omega) (by omega) ho (by rw [List.length_cons] at hb; exact hb.mono (by omega))) ?_
        rintro fl m'' ⟨f, v6, v7, rfl, hf, ho', hb'⟩
        refine ⟨pre ++ [y], suf, by rw [e]; simp, rfl, fs ++ [f], ho', hb', by simp [hfl], fun g hg => ?_, _, _, _, _, rfl⟩
        rw [List.length_append, List.length_singleton]
        rcases List.mem_append.mp hg with hg | hg
        · exact (hfs g hg).mono (by omega)
        · rw [List.mem_singleton.mp hg]
          exact hf.mono (by omega)
    · rintro ρ m' ⟨pre, suf, e, es, fs, ho, hb, hfl, hfs, u5, u6, u7, u8, rfl⟩
      refine ⟨ok_nil', ?_⟩
      cases suf with
      | cons y suf => cases es
      | nil =>
        rw [List.append_nil] at e
        subst e
        exact ⟨_, rfl, fs, ho, hb, hfl, fun f hf => (hfs f hf).mono (by omega), _, _, _, _, rfl⟩
  rintro _ m3 ⟨fs, o3, b3, hfl, hfs, a, b, c, e, rfl⟩
  have hget : m3.objs[m.objs.length]? = some (.lst (fs.map fnD)) := by rw [o3]; simp
  have hsq : seqD m3 (.ref m.objs.length) = some (fs.map fnD) := by
    show (match m3.objs[m.objs.length]? with | some (.lst xs) => some xs | _ => none) = _
    rw [hget]
  have hgs : gsD m3 (.ref m.objs.length) = [(m.objs.length, fs.map fnD)] := by
    unfold gsD
    dsimp only
    rw [hget]
  simp [look, hsq, hgs]
  rw [zipG_map]
  refine wp_lcW_mapA _ (fun p => rwD (mkRow p)) (fun p hp => ?_) (fun p hp => ?_) ⟨?_, ?_⟩
  · simp at hp
    subst hp
    exact hget
  · simp [look, wipeD, rwD, mkRow, dW, fnD]
  · simp
    omega
  · rw [show (List.map (fun p => rwD (mkRow p)) (gs.zip fs)) = ((gs.zip fs).map mkRow).map rwD by rw [List.map_map]; rfl]
    exact ⟨fun k => lt_Ln k _, ⟨_, o3⟩, ⟨d, _, rfl, mk_LOk hd1 hd3 hm1 hm6 hg hfl hfs⟩, b3⟩
end K90
end TL
end
section
/-! Values bent, odd values. -/
namespace TL
open L2 (atI ixN)
open PySem PySem.Spec PyProof.Rows L2 Cm
def bentC : List D := [.non, .bl true, .int 0, .tup [], .lst [], .str "some", .tup [.int 0, .int 1], .tup [.int 1, .int 1], .tup [.int (-1), .int 1], .tup [.int 2, .int 4], .tup [.bl true, .int 1], .tup [.int 1, .int 0], .tup [.tup [.int 0, .int 1]]]
theorem bentC_ok {n : Nat} (hn : 2 ≤ n) : ∀ x ∈ bentC, okV n x = true := fun x hx => okV_mono hn (List.all_eq_true.mp (by decide +kernel : bentC.all (okV 2) = true) x hx)
theorem isRat_out {v : D} (h : isRat v = true) : ∃ p, v = R2 p ∧ 0 < p.2 := by
  unfold isRat at h
  split at h
  · rename_i a b
    simp only [Bool.and_eq_true, decide_eq_true_eq] at h
    exact ⟨(a, b), rfl, h.1⟩
  · cases h
theorem okV_cut {n : Nat} {xs : List D} {lo hi : Option Int} (h : okV n (.tup xs) = true) : okV n (.tup (cutD xs lo hi)) = true := by
  obtain ⟨h1, h2⟩ := okV_tup.mp h
  refine okV_tup.mpr ⟨?_, fun x hx => h2 x (List.mem_of_mem_drop (List.mem_of_mem_take hx))⟩
  unfold cutD
  rw [List.length_take, List.length_drop]
  omega
theorem cut_one {xs : List D} : (cutD xs (some (-1)) none).length ≤ 1 := by
  rcases List.eq_nil_or_concat xs with rfl | ⟨a, b, rfl⟩
  · simp [cutD]
  · rw [List.concat_eq_append, cut_last]
    simp
namespace Cm
section
variable {m : MS} {p : Int × Int}
theorem e_lplus1 (h : 0 < p.2) : F__law_plus [R2 p, .tup [.int 1, .int 1]] m = .ok (R2 (qplus p (1, 1))) m :=
  e_lplus (b := (1, 1)) (mulOk_r (by decide)) (mulOk_l (by decide)) (mulOk_r (by decide)) (by simp; omega)
theorem e_lminus7 (h : 0 < p.2) : F__law_minus [R2 p, .tup [.int 1, .int 7]] m = .ok (R2 (qminus p (1, 7))) m := by
  have hd : p.2 * 7 ≠ 0 := by omega
  have m1 : mulOk p.1 7 = true := mulOk_r (by decide)
  have m2 : mulOk p.2 7 = true := mulOk_r (by decide)
  have m3 : mulOk 1 p.2 = true := mulOk_l (by decide)
  refine eq_of_wp ?_
  simp [F__law_minus, u__law_minus, startD, look, R2, m1, m2, m3, e_q hd, qminus]
end
theorem bent_succ (k : Nat) : F__law_ph_bent (k + 1) = bodyF (u__law_ph_bent (F__law_ph_bent k)) 4 := by
  unfold F__law_ph_bent
  rfl
/-- the list that a bent value is picked from -/
theorem bent_pick {n N : Nat} {v : D} {m : MS} (hv : okV N v = true) (hN : 2 ≤ N) (hN2 : N ≤ 1000) (hb : DrB (n + 1) m) {x3 : Option D} :
    wp ((sSeq (sAsg (dLst false (aCons (dC .non) (aCons (dC (.bl true)) (aCons (dC (.int 0)) (aCons (dTup aNil) (aCons (dLst false aNil) (aCons (dC (.str "some")) (aCons (dTup (aCons (dC (.int 0)) (aCons (dC (.int 1)) aNil))) (aCons (dTup (aCons (dC (.int 1)) (aCons (dC (.int 1)) aNil))) (aCons (dTup (aCons (dNeg (dC (.int 1))) (aCons (dC (.int 1)) aNil))) (aCons (dTup (aCons (dC (.int 2)) (aCons (dC (.int 4)) aNil))) (aCons (dTup (aCons (dC (.bl true)) (aCons (dC (.int 1)) aNil))) (aCons (dTup (aCons (dC (.int 1)) (aCons (dC (.int 0)) aNil))) (aCons (dTup (aCons (dTup (aCons (dC (.int 0)) (aCons (dC (.int 1)) aNil))) aNil)) aNil)))))))))))))) (gN 2))
  (sSeq (sIf (toB (dCall (lenF 1 F__law_ph_is_ratio) (aCons (dVar 1) aNil)))
  (sAsg (dBin (addD false) (dVar 2) (dLst false (aCons (dCall (lenF 2 F__law_plus) (aCons (dVar 1) (aCons (dTup (aCons (dC (.int 1)) (aCons (dC (.int 1)) aNil))) aNil))) (aCons (dCall (lenF 2 F__law_minus) (aCons (dVar 1) (aCons (dTup (aCons (dC (.int 1)) (aCons (dC (.int 7)) aNil))) aNil))) (aCons (dTup (aCons (dBin (subD) (dC (.int 0)) (dBin ixD (dVar 1) (dC (.int 0)))) (aCons (dBin ixD (dVar 1) (dC (.int 1))) aNil))) (aCons (dTup (aCons (dBin (mulD false) (dC (.int 2)) (dBin ixD (dVar 1) (dC (.int 0)))) (aCons (dBin (mulD false) (dC (.int 2)) (dBin ixD (dVar 1) (dC (.int 1)))) aNil))) aNil)))))) (gN 2))
  sNext)
  (sSeq (sIf (toB (dCallB (arg2 (isiX sub0)) (aCons (dVar 1) (aCons (dC (.ty .tuple)) aNil))))
  (sAsg (dBin (addD false) (dVar 2) (dLst false (aCons (dSl false (dVar 1) (oSome (dC (.int 1))) oNone) (aCons (dSl false (dVar 1) oNone (oSome (dNeg (dC (.int 1))))) (aCons (dBin (addD false) (dVar 1) (dSl false (dVar 1) (oSome (dNeg (dC (.int 1)))) oNone)) (aCons (dCallB (arg1 (listD false)) (aCons (dVar 1) aNil)) (aCons (dRev (dVar 1)) aNil))))))) (gN 2))
  sNext)
  (sRet (dCall (lenF 2 F__law_pick) (aCons (dVar 0) (aCons (dVar 2) aNil))))))) [some .drw, some v, none, x3] m) fun fl m' => ∃ v', fl = .ret v' ∧ okV (N + 1) v' = true ∧ m'.objs = m.objs ∧ DrB n m' := by
  refine wp_seqN (fun ρ m' => m' = m ∧ ρ = [some .drw, some v, some (.lst bentC), x3]) ?_ ?_
  · simp [bentC]
  rintro _ m1 ⟨em, rfl⟩
  subst em
  refine wp_seqN (fun ρ m' => m' = m1 ∧ ∃ ys : List D, ys ≠ [] ∧ ys.length ≤ 17 ∧ (∀ y ∈ ys, okV (N + 1) y = true) ∧ ρ = [some .drw, some v, some (.lst ys), x3]) ?_ ?_
  · have e1 := e_lis_ratio (m := m1) (okV.ty2 hv)
    cases hr : isRat v with
    | false =>
      simp [look, e1, hr]
      exact ⟨bentC, by decide, by decide, bentC_ok (by omega), rfl⟩
    | true =>
      obtain ⟨p, rfl, hp⟩ := isRat_out hr
      have f1 := e_lplus1 (m := m1) hp
      have f2 := e_lminus7 (m := m1) hp
      have g1 : mulOk 2 p.1 = true := mulOk_l (by decide)
      have g2 : mulOk 2 p.2 = true := mulOk_l (by decide)
      have ix0 : ∀ (P : D → MS → Prop), wp (ixD (R2 p) (.int 0) m1) P ↔ P (.int p.1) m1 := fun P => by simp [R2]
      have ix1 : ∀ (P : D → MS → Prop), wp (ixD (R2 p) (.int 1) m1) P ↔ P (.int p.2) m1 := fun P => by simp [R2]
      simp [look, e1, hr, f1, f2, ix0, ix1, g1, g2]
      refine ⟨by decide, _, by simp, by simp; decide, ?_, rfl⟩
      intro y hy
      rcases List.mem_append.mp hy with hy | hy
      · exact bentC_ok (by omega) y hy
      · simp only [List.mem_cons, List.not_mem_nil, or_false] at hy
        rcases hy with rfl | rfl | rfl | rfl
        · exact K90.okV_R2 (by omega) _
        · exact K90.okV_R2 (by omega) _
        · exact K90.okV_R2 (by omega) (0 - p.1, p.2)
        · exact K90.okV_R2 (by omega) (2 * p.1, 2 * p.2)
  rintro _ m2 ⟨em, ys, hne, hyl, hys, rfl⟩
  subst em
  refine wp_seqN (fun ρ m' => m' = m2 ∧ ∃ ys : List D, ys ≠ [] ∧ ys.length ≤ 22 ∧ (∀ y ∈ ys, okV (N + 1) y = true) ∧ ρ = [some .drw, some v, some (.lst ys), x3]) ?_ ?_
  · simp [look, tyN_1 (okV.ty1 hv)]
    cases v with
    | tup xs =>
      obtain ⟨hl, hx⟩ := okV_tup.mp hv
      have hl2 := cut_one (xs := xs)
      simp [tyOf, isT]
      refine ⟨by omega, by omega, by omega, by omega, _, by simp, by simp; omega, ?_, rfl⟩
      intro y hy
      rcases List.mem_append.mp hy with hy | hy
      · exact hys y hy
      · simp only [List.mem_cons, List.not_mem_nil, or_false] at hy
        rcases hy with rfl | rfl | rfl | rfl | rfl
        · exact okV_mono (by omega) (okV_cut hv)
        · exact okV_mono (by omega) (okV_cut hv)
        · refine okV_tup.mpr ⟨by rw [List.length_append]; omega, fun z hz => ?_⟩
          rcases List.mem_append.mp hz with hz | hz
          · exact okV_mono (by omega) (hx z hz)
          · exact okV_mono (by omega) ((okV_tup.mp (okV_cut hv)).2 z hz)
        · exact okV_lst.mpr ⟨by omega, fun z hz => okV_mono (by omega) (hx z hz)⟩
        · exact okV_tup.mpr ⟨by rw [List.length_reverse]; omega, fun z hz => okV_mono (by omega) (hx z (List.mem_reverse.mp hz))⟩
    | dct kvs => simp [tyOf, isT]; exact ⟨ys, hne, by omega, hys, rfl⟩
    | non => simp [tyOf, isT]; exact ⟨ys, hne, by omega, hys, rfl⟩
    | bl _ => simp [tyOf, isT]; exact ⟨ys, hne, by omega, hys, rfl⟩
    | int _ => simp [tyOf, isT]; exact ⟨ys, hne, by omega, hys, rfl⟩
    | str _ => simp [tyOf, isT]; exact ⟨ys, hne, by omega, hys, rfl⟩
    | lst _ => simp [tyOf, isT]; exact ⟨ys, hne, by omega, hys, rfl⟩
    | _ => cases hv
  rintro _ m3 ⟨em, ys, hne, hyl, hys, rfl⟩
  subst em
  simp [look]
  refine wp_mono (sp_pick hb hne) fun v' m4 ⟨h1, h2, h3⟩ => ?_
  exact ⟨hys v' h1, h2, h3⟩
theorem okD_le {d : D} : ∀ {b a : Nat}, okD a d = true → a ≤ b → okD b d = true
  | 0, a, h, l => by
    rw [show a = 0 by omega] at h
    exact h
  | b + 1, a, h, l => by
    by_cases e : a = b + 1
    · rw [e] at h
      exact h
    · exact okD_mono (okD_le (b := b) h (by omega))
theorem eqv_tup_nil {xs : List D} : eqvD (.tup xs) (.tup []) = xs.isEmpty := by
  simp only [eqvD]
  exact (by cases xs <;> simp [eqvAll] : eqvAll xs [] = xs.isEmpty)
theorem sp_bent {N : Nat} (hN : 2 ≤ N) (hN2 : N ≤ 1000) : ∀ (k n : Nat) (v : D) (m : MS), okD k v = true → k ≤ 60 → okV N v = true → DrB (n + 2 * (k + 1)) m → wp (F__law_ph_bent (k + 1) [.drw, v] m) fun v' m' => okV (N + 1) v' = true ∧ m'.objs = m.objs ∧ DrB n m' := by
  intro k
  induction k with
  | zero =>
    intro n v m hk _ hv hb
    rw [bent_succ, wp_bodyF']
    unfold u__law_ph_bent
    have nt : ∀ xs, v ≠ .tup xs := fun xs e => by rw [e] at hk; cases hk
    refine wp_seq.mpr (K90.sIf_wp (b := true) (fun Q hQ => ?_) (fun _ => ?_) (fun h => by cases h))
    · simp [startD, look, tyN_1 (okV.ty1 hv)]
      cases v with
      | tup xs => exact (nt xs rfl).elim
      | dct kvs => simpa [tyOf, isT] using hQ
      | non => simpa [tyOf, isT] using hQ
      | bl _ => simpa [tyOf, isT] using hQ
      | int _ => simpa [tyOf, isT] using hQ
      | str _ => simpa [tyOf, isT] using hQ
      | lst _ => simpa [tyOf, isT] using hQ
      | _ => cases hv
    · refine wp_mono (bent_pick (n := n) hv hN hN2 (hb.mono (by omega))) ?_
      rintro fl m' ⟨v', rfl, h1, h2, h3⟩
      exact ⟨h1, h2, h3⟩
  | succ k ih =>
    intro n v m hk hk60 hv hb
    rw [bent_succ, wp_bodyF']
    unfold u__law_ph_bent
    have fin : ∀ m1 : MS, m1.objs = m.objs → DrB (n + 1) m1 → wp _ _ := fun m1 o1 b1 => wp_mono (bent_pick (n := n) (m := m1) (x3 := none) hv hN hN2 b1) (Q := fun fl m' => ∃ d, fl = .ret d ∧ okV (N + 1) d = true ∧ m'.objs = m.objs ∧ DrB n m') (by
        rintro fl m' ⟨v', rfl, h1, h2, h3⟩
        exact ⟨_, rfl, h1, by rw [h2, o1], h3⟩)
    by_cases ht : ∃ x xs, v = .tup (x :: xs)
    · obtain ⟨x, xs, rfl⟩ := ht
      have hk64 : okD 64 (.tup (x :: xs)) = true := okD_le hk (by omega)
      obtain ⟨hl, hx⟩ := okV_tup.mp hv
      rw [wp_seq, wp_sIf]
      have hc : ∀ Q : Bool → MS → Prop, (∀ b m1, m1.objs = m.objs → DrB (n + 2 * k + 3) m1 → Q b m1) → wp ((bOr (bNot (toB (dCallB (arg2 (isiX sub0)) (aCons (dVar 1) (aCons (dC (.ty .tuple)) aNil))))) (bOr (toB (dBin (eqD false) (dVar 1) (dTup aNil))) (toB (dBin (eqD false) (dCall (lenF 2 F__law_draw) (aCons (dVar 0) (aCons (dC (.int 6)) aNil))) (dC (.int 0)))))) (startD 4 [.drw, .tup (x :: xs)]) m) Q := by
        intro Q hQ
        have e0 : ∀ (P : D → MS → Prop), wp (eqD false (.tup (x :: xs)) (.tup []) m) P ↔ P (.bl false) m := fun P => by
          rw [wp_eq_gen (show okD 64 (flatR m (.tup (x :: xs))) = true from hk64) rfl]
          show P (.bl (eqvD (.tup (x :: xs)) (.tup []))) m ↔ _
          rw [eqv_tup_nil]
          exact Iff.rfl
        simp [startD, look, tyN_1 (okV.ty1 hv), tyOf, isT, e0]
        refine wp_mono (sp_draw (n := n + 2 * k + 3) (hb.mono (by omega)) (by decide)) fun v1 m1 ⟨⟨i, e1, i0, i1⟩, o1, b1⟩ => ?_
        subst e1
        simp
        exact hQ _ _ o1 b1
      refine hc _ fun b m1 o1 b1 => ?_
      cases b with
      | true =>
        rw [if_pos rfl]
        refine wp_mono (fin m1 o1 (b1.mono (by omega))) ?_
        rintro fl m' ⟨d, rfl, h⟩
        exact h
      | false =>
        rw [if_neg Bool.false_ne_true, wp_sNext]
        simp only [startD]
        have hl2 : (x :: xs).length ≤ 1000000 := by omega
        have hpos : 0 < ((x :: xs).length : Int) := by rw [List.length_cons]; omega
        have key : ∀ (i : Nat) (m2 : MS), i < (x :: xs).length → m2.objs = m.objs → DrB (n + 2 * (k + 1)) m2 → wp (dBin (addD false) (dBin (addD false) (dSl false (dVar 1) oNone (oSome (dVar 3))) (dTup (aCons (dCall (lenF 2 (F__law_ph_bent (k + 1))) (aCons (dVar 0) (aCons (dBin ixD (dVar 1) (dVar 3)) aNil))) aNil))) (dSl false (dVar 1) (oSome (dBin (addD false) (dVar 3) (dC (.int 1)))) oNone) [some .drw, some (.tup (x :: xs)), none, some (.int i)] m2) fun v' m' => okV (N + 1) v' = true ∧ m'.objs = m.objs ∧ DrB n m' := by
          intro i m2 hi o2 b2
          have hmem := List.getElem_mem hi
          have hkx : okD k (x :: xs)[i] = true := okAll_all.mp (by simpa [okD] using hk : okAll k (x :: xs) = true) _ hmem
          have hat := atI_nat hi
          have c2 : cutD (x :: xs) (some ((i : Int) + 1)) none = (x :: xs).drop (i + 1) := cut_from (k := i + 1)
          simp only [wp_bin, wp_sl, wp_var, look, List.getElem?_cons_zero, List.getElem?_cons_succ, wp_oNone, wp_oSome, wp_asI, wp_slD_tup, cut_to, wp_dTup, wp_aCons, wp_aNil, wp_call, wp_ix_tup, hat, wp_newT, wp_add_tup, wp_c, wp_add, c2]
          refine ⟨hl2, ?_⟩
          rw [wp_lenF (n := 2) (ds := [D.drw, (x :: xs)[i]]) rfl]
          refine wp_mono (ih n _ m2 hkx (by omega) (hx _ hmem) b2) fun v' m3 ⟨h1, h2, h3⟩ => ?_
          have hL : (List.take i (x :: xs) ++ [v'] ++ List.drop (i + 1) (x :: xs)).length = (x :: xs).length := by
            simp only [List.length_append, List.length_take, List.length_drop, List.length_singleton]
            omega
          have hL1 : (List.take i (x :: xs) ++ [v']).length ≤ (x :: xs).length := by
            simp only [List.length_append, List.length_take, List.length_singleton]
            omega
          refine ⟨by simp, by omega, hl2, by omega, okV_tup.mpr ⟨by omega, fun z hz => ?_⟩, by rw [h2, o2], h3⟩
          rcases List.mem_append.mp hz with hz | hz
          · rcases List.mem_append.mp hz with hz | hz
            · exact okV_mono (by omega) (hx z (List.mem_of_mem_take hz))
            · rw [List.mem_singleton.mp hz]
              exact h1
          · exact okV_mono (by omega) (hx z (List.mem_of_mem_drop hz))
        have hlen : wp (dCall (lenF 2 F__law_draw) (aCons (dVar 0) (aCons (dCallB (arg1 lenD) (aCons (dVar 1) aNil)) aNil)) ([.drw, .tup (x :: xs)].map some ++ List.replicate (4 - [D.drw, .tup (x :: xs)].length) none) m1) fun v1 m2 => (∃ i : Nat, v1 = .int i ∧ i < (x :: xs).length) ∧ m2.objs = m1.objs ∧ DrB (n + 2 * k + 2) m2 := by
          simp [look]
          refine wp_mono (sp_draw (n := n + 2 * k + 2) (b1.mono (by omega)) (by simpa using hpos)) fun v1 m2 ⟨⟨i, e1, i0, i1⟩, o2, b2⟩ => ?_
          obtain ⟨i, rfl⟩ := Int.eq_ofNat_of_zero_le i0
          exact ⟨⟨i, e1, by omega⟩, o2, b2⟩
        rw [wp_seq, wp_sAsg]
        refine wp_mono hlen fun v1 m2 ⟨⟨i, e1, hi⟩, o2, b2⟩ => ?_
        subst e1
        rw [wp_gN]
        exact wp_sRet.mpr (wp_mono (key i m2 hi (by rw [o2, o1]) (b2.mono (by omega))) fun v' m' h => h)
    · refine wp_seq.mpr (K90.sIf_wp (b := true) (fun Q hQ => ?_) (fun _ => ?_) (fun h => by cases h))
      · simp [startD, look, tyN_1 (okV.ty1 hv)]
        cases v with
        | tup xs =>
          cases xs with
          | cons x xs => exact (ht ⟨x, xs, rfl⟩).elim
          | nil =>
            simp [tyOf, isT]
            rw [wp_eq_gen rfl rfl]
            exact hQ
        | dct kvs => simpa [tyOf, isT] using hQ
        | non => simpa [tyOf, isT] using hQ
        | bl _ => simpa [tyOf, isT] using hQ
        | int _ => simpa [tyOf, isT] using hQ
        | str _ => simpa [tyOf, isT] using hQ
        | lst _ => simpa [tyOf, isT] using hQ
        | _ => cases hv
      · refine wp_mono (fin m rfl (hb.mono (by omega))) ?_
        rintro fl m' ⟨d, rfl, h⟩
        exact h
def oddC : List D := [.non, .bl true, .int 0, .int 5, .str "", .str "table", .tup [], .lst [], .dct [], .tup [.tup [.int 0, .int 1], .tup [.int 1, .int 1]], .tup [.str "table"], .tup [.str "program", .tup []], .tup [.str "table", .tup []], .tup [.str "standin", .tup []],
  .tup [.str "program", .tup [.tup [.int 1, .int 1]]], .tup [.str "table", .tup [.tup [.str "a", .tup [.tup [.int 1, .int 1]]]]], .tup [.str "standin", .tup [.tup [], .tup []]]]
theorem oddC_ok {n : Nat} (hn : 2 ≤ n) : ∀ x ∈ oddC, okV n x = true := fun x hx => okV_mono hn (List.all_eq_true.mp (by decide +kernel : oddC.all (okV 2) = true) x hx)
theorem sp_odd {n : Nat} {m : MS} (h : DrB (n + 1) m) : wp (F__law_odd [.drw] m) fun v m' => v ∈ oddC ∧ m'.objs = m.objs ∧ DrB n m' := by
  simp [F__law_odd, u__law_odd, startD, look]
  exact sp_pick (xs := oddC) h (by decide)
end Cm
end TL
end
section
/-! k90: lines that are nearly lines. -/
namespace TL
open L2 (atI ixN)
open PySem PySem.Spec PyProof.Rows L2 Cm
theorem wp_mul_lst {P : D → MS → Prop} {m : MS} {xs : List D} {k : Int} : wp (mulD false (.lst xs) (.int k) m) P ↔ ((xs.length ≤ 1000 ∧ -1000 ≤ k ∧ k ≤ 1000) ∧ wp (newL false (List.replicate k.toNat xs).flatten m) P) := by
  show wp (if xs.length ≤ 1000 ∧ -1000 ≤ k ∧ k ≤ 1000 then newL false (List.replicate k.toNat xs).flatten m else .stuck) P ↔ _
  split
  · rename_i h
    exact ⟨fun q => ⟨h, q⟩, fun q => q.2⟩
  · rename_i h
    exact ⟨fun q => q.elim, fun q => (h q.1).elim⟩
namespace K90
def z01 : D := .tup [.int 0, .int 1]
theorem okV_z {n : Nat} (h : 2 ≤ n) : okV n z01 = true := okV_R2 h (0, 1)
theorem okV_rep {n k : Nat} {x : D} (hk : k ≤ n) (hx : okV n x = true) : okV n (.tup (List.replicate k x)) = true := okV_tup.mpr ⟨by simpa using hk, fun y hy => by
  rw [List.eq_of_mem_replicate hy]
  exact hx⟩
theorem okV_pair {n : Nat} {x y : D} (hn : 2 ≤ n) (hx : okV n x = true) (hy : okV n y = true) : okV n (.tup [x, y]) = true := okV_tup.mpr ⟨hn, fun z hz => by
  simp only [List.mem_cons, List.not_mem_nil, or_false] at hz
  rcases hz with rfl | rfl
  · exact hx
  · exact hy⟩
theorem okV_app {n : Nat} {xs ys : List D} (hl : xs.length + ys.length ≤ n) (hx : ∀ x ∈ xs, okV n x = true) (hy : ∀ y ∈ ys, okV n y = true) : okV n (.tup (xs ++ ys)) = true := okV_tup.mpr ⟨by rw [List.length_append]; omega, fun z hz => by
  rcases List.mem_append.mp hz with hz | hz
  · exact hx z hz
  · exact hy z hz⟩
theorem okV_lstr {s : Str} {n : Nat} (h : (decide (s.length ≤ 1000000) && PyData.canLay0 (.str s)) = true) : okV n (.str s) = true := h
section
variable {d k n : Nat} {rs : List Row} {m : MS}
theorem okD_Ln (h : LOk d k rs) : okD 7 (LnD rs) = true := by
  show okAll 6 [.str "lines", .tup (rs.map rwD)] = true
  refine okAll_all.mpr fun x hx => ?_
  simp only [List.mem_cons, List.not_mem_nil, or_false] at hx
  rcases hx with rfl | rfl
  · show PyData.canLay0 (.str "lines") = true
    decide +kernel
  · show okAll 5 (rs.map rwD) = true
    refine okAll_all.mpr fun x hx => ?_
    obtain ⟨r, hr, rfl⟩ := List.mem_map.mp hx
    show okAll 4 [.str r.1, V2 (r.2.1 ++ [r.2.2])] = true
    refine okAll_all.mpr fun x hx => ?_
    simp only [List.mem_cons, List.not_mem_nil, or_false] at hx
    rcases hx with rfl | rfl
    · have := (h.ok r hr).lay
      simpa [okD] using this
    · exact okD_V2 _ 2
theorem sp_near (h : LOk d k rs) (hb : DrB (n + 19) m) : wp (F__law_near [.drw, LnD rs] m) fun v m' => okV 20 v = true ∧ m'.objs = m.objs ∧ DrB n m' := by
  obtain ⟨r0, rest, er⟩ : ∃ r0 rest, rs = r0 :: rest := by
    cases rs with
    | nil => have := h.n1; simp at this
    | cons a b => exact ⟨a, b, rfl⟩
  have h0 := (h.ok r0 (by rw [er]; simp)).len
  have hn6 := h.n6
  have hd3 := h.d3
  have hrow : ∀ x ∈ rs.map rwD, okV 20 x = true := fun x hx => by
    obtain ⟨r, hr, rfl⟩ := List.mem_map.mp hx
    exact okV_row (by decide) (h.ok r hr) h.d3
  have hLn := okV_Ln (n := 20) (by decide) h
  have hlines : okV 20 (.str "lines") = true := okV_lstr (by decide +kernel)
  have hrl : (rs.map rwD).length ≤ 6 := by simpa using hn6
  have hF : okV 20 (.tup (List.replicate (d + 1) z01)) = true := okV_rep (by omega) (okV_z (by decide))
  rw [F__law_near, wp_bodyF']
  unfold u__law_near
  refine wp_seqN (fun ρ m' => m' = m ∧ ρ = [some .drw, some (LnD rs), some (.tup (rs.map rwD)), some (.int ((d + 1 : Nat) : Int)), none, none, none]) ?_ ?_
  · simp [startD, look, LnD, er, rwD, V2, h0]
  rintro _ m1 ⟨em, rfl⟩
  subst em
  refine wp_seqN (fun ρ m' => m' = m1 ∧ ρ = [some .drw, some (LnD rs), some (.tup (rs.map rwD)), some (.int ((d + 1 : Nat) : Int)), some (.tup (List.replicate (d + 1) z01)), none, none]) ?_ ?_
  · have e : ((d : Int) + 1).toNat = d + 1 := by omega
    simp [look, rep_flat, e, z01]
    omega
  rintro _ m2 ⟨em, rfl⟩
  subst em
  refine wp_seqN (fun ρ m' => m' = m2 ∧ ∃ ys : List D, ys ≠ [] ∧ ys.length ≤ 6 ∧ (∀ y ∈ ys, okV 20 y = true) ∧ ρ = [some .drw, some (LnD rs), some (.tup (rs.map rwD)), some (.int ((d + 1 : Nat) : Int)), some (.tup (List.replicate (d + 1) z01)), some (.lst ys), none]) ?_ ?_
  · have hl1 := cut_one (xs := rs.map rwD)
    simp [look, LnD]
    refine ⟨by omega, by omega, by omega, _, by simp, by simp, ?_, rfl⟩
    intro y hy
    simp only [List.mem_cons, List.not_mem_nil, or_false] at hy
    have hR : okV 20 (.tup (rs.map rwD)) = true := okV_tup.mpr ⟨by omega, hrow⟩
    rcases hy with rfl | rfl | rfl | rfl | rfl | rfl
    · exact okV_pair (by decide) hlines (okV_tup.mpr ⟨by rw [List.length_reverse]; omega, fun z hz => hrow z (List.mem_reverse.mp hz)⟩)
    · exact okV_pair (by decide) hlines (okV_app (by omega) hrow (okV_tup.mp (okV_cut hR)).2)
    · exact okV_pair (by decide) hlines rfl
    · exact okV_lst.mpr ⟨by simp, (okV_tup.mp (okV_pair (by decide) hlines hR)).2⟩
    · exact okV_pair (by decide) (okV_lstr (by decide +kernel)) hR
    · exact okV_pair (by decide) hlines (okV_lst.mpr ⟨by omega, hrow⟩)
  rintro _ m3 ⟨em, ys, hne, hyl, hys, rfl⟩
  subst em
  refine wp_seqN (fun ρ m' => m'.objs = m3.objs ∧ DrB (n + 18) m' ∧ ∃ ys : List D, ys ≠ [] ∧ ys.length ≤ 9 ∧ (∀ y ∈ ys, okV 20 y = true) ∧ ρ = [some .drw, some (LnD rs), some (.tup (rs.map rwD)), some (.int ((d + 1 : Nat) : Int)), some (.tup (List.replicate (d + 1) z01)), some (.lst ys), none]) ?_ ?_
  · simp [look, rep_flat]
    refine wp_mono (sp_odd (n := n + 18) hb) fun v m4 ⟨hv, o4, b4⟩ => ?_
    refine ⟨by omega, o4, b4, _, by simp, by simp; omega, ?_, rfl⟩
    intro y hy
    rcases List.mem_append.mp hy with hy | hy
    · exact hys y hy
    · simp only [List.mem_cons, List.not_mem_nil, or_false] at hy
      have h11 : okV 20 (.tup [.int 1, .int 1]) = true := okV_R2 (by decide) (1, 1)
      have ha : okV 20 (.str "a") = true := okV_lstr (by decide +kernel)
      rcases hy with rfl | rfl | rfl
      · exact okV_pair (by decide) hlines (okV_tup.mpr ⟨by decide, fun z hz => by
          rw [List.mem_singleton.mp hz]
          exact okV_pair (by decide) ha (okV_tup.mpr ⟨by decide, fun z hz => by
            rw [List.mem_singleton.mp hz]
            exact h11⟩)⟩)
      · exact okV_pair (by decide) hlines (okV_tup.mpr ⟨by decide, fun z hz => by
          rw [List.mem_singleton.mp hz]
          exact okV_pair (by decide) ha (okV_rep (k := 5) (by decide) h11)⟩)
      · exact oddC_ok (by decide) y hv
  rintro _ m4 ⟨o4, b4, ys, hne, hyl, hys, rfl⟩
  have hz8 : okV 20 (.str "zzzzzzzz") = true := okV_lstr (by decide +kernel)
  refine wp_seqN (fun ρ m' => m'.objs = m3.objs ∧ DrB (n + 17) m' ∧ ∃ ys : List D, ys ≠ [] ∧ ys.length ≤ 11 ∧ (∀ y ∈ ys, okV 20 y = true) ∧ ρ = [some .drw, some (LnD rs), some (.tup (rs.map rwD)), some (.int ((d + 1 : Nat) : Int)), some (.tup (List.replicate (d + 1) z01)), some (.lst ys), none]) ?_ ?_
  · simp [look]
    refine wp_mono (sp_draw (n := n + 17) b4 (by decide)) fun v m5 ⟨⟨i, e1, i0, i1⟩, o5, b5⟩ => ?_
    subst e1
    simp
    have hcl : ∀ o, (cutD [D.str "a", .str "b", .str "c", .str "d", .str "e", .str "f", .str "g"] none o).length ≤ 7 := fun o => by
      unfold cutD
      rw [List.length_take, List.length_drop]
      simp
      omega
    have hcm : ∀ o, ∀ x ∈ (cutD [D.str "a", .str "b", .str "c", .str "d", .str "e", .str "f", .str "g"] none o), okV 20 x = true := fun o x hx => by
      have := List.mem_of_mem_drop (List.mem_of_mem_take hx)
      exact List.all_eq_true.mp (by decide +kernel : [D.str "a", .str "b", .str "c", .str "d", .str "e", .str "f", .str "g"].all (okV 20) = true) x this
    refine ⟨by have := hcl (some (6 + i)); omega, ?_⟩
    refine wp_lcW_map (fun x => .tup [x, .tup (List.replicate (d + 1) z01)]) ok_nil' (fun x hx => by simp [look, wipeD]) ?_
    have hcl2 := hcl (some (6 + i))
    refine ⟨by rw [List.length_map]; omega, by omega, by omega, by omega, by rw [o5, o4], b5, _, by simp, by simp; omega, ?_, rfl⟩
    intro y hy
    rcases List.mem_append.mp hy with hy | hy
    · exact hys y hy
    · simp only [List.mem_cons, List.not_mem_nil, or_false] at hy
      rcases hy with rfl | rfl
      · refine okV_pair (by decide) hlines (okV_tup.mpr ⟨by rw [List.length_map]; omega, fun z hz => ?_⟩)
        obtain ⟨x, hx, rfl⟩ := List.mem_map.mp hz
        exact okV_pair (by decide) (hcm _ x hx) hF
      · refine okV_pair (by decide) hlines (okV_app (by simp; omega) hrow fun z hz => ?_)
        rw [List.mem_singleton.mp hz]
        refine okV_pair (by decide) hz8 (okV_app (by simp; omega) (okV_tup.mp hF).2 fun z hz => ?_)
        rw [List.mem_singleton.mp hz]
        exact okV_z (by decide)
  rintro _ m5 ⟨o5, b5, ys, hne, hyl, hys, rfl⟩
  simp only [wp_sRet, wp_call, wp_aCons, wp_aNil, wp_var, look, List.getElem?_cons_zero, List.getElem?_cons_succ, wp_bin, wp_dLst, wp_c]
  rw [wp_lenF (n := 2) (ds := [D.drw, LnD rs]) rfl]
  refine wp_mono (sp_bent (N := 19) (by decide) (by decide) 7 (n + 1) (LnD rs) m5 (okD_Ln h) (by decide) (okV_Ln (by decide) h) (b5.mono (by omega))) fun v m6 ⟨hv, o6, b6⟩ => ?_
  simp [wp_mul_lst, rep_flat]
  refine ⟨by omega, ?_⟩
  refine wp_mono (sp_pick (n := n) b6 (by simp)) fun w m7 ⟨hw, o7, b7⟩ => ?_
  refine ⟨?_, by rw [o7, o6, o5], b7⟩
  rcases List.mem_append.mp hw with hw | hw
  · exact hys w hw
  · simp at hw
    rw [hw]
    exact hv
end
end K90
end TL
end
section
/-! k90: points at which lines meet. -/
namespace TL
open L2 (atI ixN)
open PySem PySem.Spec PyProof.Rows L2 Cm
namespace K90
def zw (a b : Row) : QV := List.zipWith qminus a.2.1 b.2.1
section
variable {d k n : Nat} {rs : List Row} {r s : Row} {m : MS} {pt : QV}
theorem zw_sz (hr : RwOk d k r) (hs : RwOk d k s) : ∀ x ∈ zw r s, Sz (k + k + 1) x := by
  intro x hx
  unfold zw at hx
  rw [List.mem_iff_getElem] at hx
  obtain ⟨i, hi, rfl⟩ := hx
  rw [List.length_zipWith] at hi
  rw [List.getElem_zipWith]
  exact (hr.sz _ (List.getElem_mem _)).minus (hs.sz _ (List.getElem_mem _))
theorem zw_len (hr : RwOk d k r) (hs : RwOk d k s) : (zw r s).length = d := by
  unfold zw
  rw [List.length_zipWith, hr.len, hs.len, Nat.min_self]
theorem pt_ofV {v : D} (h : IsV d v) : ∃ pt, v = V2 pt ∧ PtOk d 21 pt := by
  obtain ⟨qs, rfl, hl, hq⟩ := h
  exact ⟨qs, rfl, hl, fun q h => (hq q h).1, fun q h => (hq q h).2⟩
theorem PtOk.mono {j : Nat} (h : PtOk d k pt) (l : k ≤ j) : PtOk d j pt := ⟨h.len, fun q hq => (h.sz q hq).mono l, h.rat⟩
theorem PtOk.put {j i : Nat} {x : Int × Int} (h : PtOk d k pt) (l : k ≤ j) (hi : i < d) (hx : Sz j x) (hr : isRat (R2 x) = true) : PtOk d j (pt.take i ++ [x] ++ pt.drop (i + 1)) := by
  have hl := h.len
  have mem : ∀ q ∈ pt.take i ++ [x] ++ pt.drop (i + 1), q ∈ pt ∨ q = x := by
    intro q hq
    rcases List.mem_append.mp hq with hq | hq
    · rcases List.mem_append.mp hq with hq | hq
      · exact .inl (List.mem_of_mem_take hq)
      · exact .inr (List.mem_singleton.mp hq)
    · exact .inl (List.mem_of_mem_drop hq)
  refine ⟨?_, fun q hq => ?_, fun q hq => ?_⟩
  · simp only [List.length_append, List.length_take, List.length_drop, List.length_singleton]
    omega
  · rcases mem q hq with h' | rfl
    · exact (h.sz q h').mono l
    · exact hx
  · rcases mem q hq with h' | rfl
    · exact h.rat q h'
    · exact hr
theorem sp_pick_tup {xs : List D} (h : DrB (n + 1) m) (hx : xs ≠ []) : wp (F__law_pick [.drw, .tup xs] m) fun v m' => v ∈ xs ∧ m'.objs = m.objs ∧ DrB n m' := by
  obtain ⟨d, hd, ok⟩ := h
  have hl : 0 < (xs.length : Int) := by
    have := List.length_pos_iff.mpr hx
    omega
  have hv := drawV_lt (d := d) hl
  obtain ⟨i, hj⟩ := Int.eq_ofNat_of_zero_le hv.1
  have hj2 : i < xs.length := by omega
  simp [F__law_pick, u__law_pick, startD, look, e_draw hd ok hl, hj, atI_nat hj2]
  exact ⟨_, rfl, draw_rest hl ok⟩
theorem sp_meeting (h : LOk d 40 rs) (hb : DrB (n + 30) m) : wp (F__law_meeting [.drw, LnD rs] m) fun v m' => (∃ pt, v = V2 pt ∧ PtOk d 500 pt) ∧ m'.objs = m.objs ∧ DrB n m' := by
  obtain ⟨r0, rest, er⟩ : ∃ r0 rest, rs = r0 :: rest := by
    cases rs with
    | nil => have := h.n1; simp at this
    | cons a b => exact ⟨a, b, rfl⟩
  have h0 := (h.ok r0 (by rw [er]; simp)).len
  have hd1 := h.d1
  have hd3 := h.d3
  rw [F__law_meeting, wp_bodyF']
  unfold u__law_meeting
  refine wp_seqN (fun ρ m' => m' = m ∧ ρ = [some .drw, some (LnD rs), some (.int d), none, none, none, none, none, none, none, none, none]) ?_ ?_
  · simp [startD, look, LnD, er, rwD, V2, h0]
  rintro _ m1 ⟨em, rfl⟩
  subst em
  refine wp_seqN (fun ρ m' => m'.objs = m1.objs ∧ DrB (n + 28) m' ∧ ∃ r s : Row, r ∈ rs ∧ s ∈ rs ∧ ρ = [some .drw, some (LnD rs), some (.int d), some (fV r), some (fV s), none, none, none, none, none, none, none]) ?_ ?_
  · have hne : rs.map rwD ≠ [] := by rw [er]; simp
    simp only [wp_par2, wp_aCons, wp_aNil, wp_bin, wp_call, wp_var, look, List.getElem?_cons_zero, List.getElem?_cons_succ, wp_c, LnD, wp_ix_tup, atI_1]
    rw [wp_lenF (n := 2) (ds := [D.drw, .tup (rs.map rwD)]) rfl]
    refine wp_mono (sp_pick_tup (n := n + 29) hb hne) fun v m2 ⟨hv, o2, b2⟩ => ?_
    obtain ⟨r, hr, rfl⟩ := List.mem_map.mp hv
    rw [rwD, wp_ix_tup, atI_1]
    dsimp only
    rw [wp_lenF (n := 2) (ds := [D.drw, .tup (rs.map rwD)]) rfl]
    refine wp_mono (sp_pick_tup (n := n + 28) b2 hne) fun v m3 ⟨hv, o3, b3⟩ => ?_
    obtain ⟨s, hs, rfl⟩ := List.mem_map.mp hv
    rw [rwD, wp_ix_tup, atI_1]
    exact ⟨_, rfl, by rw [o3, o2], b3, r, s, hr, hs, rfl⟩
  rintro _ m2 ⟨o2, b2, r, s, hr, hs, rfl⟩
  have okr := h.ok r hr
  have oks := h.ok s hs
  refine wp_seqN (fun ρ m' => m'.objs = m1.objs ∧ DrB (n + 1) m' ∧ ∃ pt, PtOk d 21 pt ∧ ρ = [some .drw, some (LnD rs), some (.int d), some (fV r), some (fV s), some (V2 (zw r s)), some (V2 pt), none, none, none, none, none]) ?_ ?_
  · have l1 := okr.len
    have l2 := oks.len
    simp [look, fV, V2, cut_fV, zipG_map]
    refine ⟨by omega, by omega, ?_⟩
    refine wp_lcW_mapA _ (fun p : (Int × Int) × (Int × Int) => R2 (qminus p.1 p.2)) ok_nil' (fun p hp => ?_) ?_
    · simp [look, wipeD, f_lminus (m := m2) (okr.sz p.1 (List.of_mem_zip hp).1) (oks.sz p.2 (List.of_mem_zip hp).2) (by omega)]
    · have := zip_len (xs := r.2.1) (ys := s.2.1)
      simp
      refine ⟨by omega, ?_⟩
      refine wp_mono (sp_vector (n := n + 1) (many := d) (b2.mono (by omega)) (by omega) (by decide) (by decide)) fun v m3 ⟨hv, o3, b3⟩ => ?_
      obtain ⟨pt, rfl, hp⟩ := pt_ofV hv
      refine ⟨by rw [o3, o2], b3, pt, hp, ?_, rfl⟩
      unfold zw
      rw [List.map_zipWith, List.zip, List.map_zipWith]
  rintro ρ3 m3 ⟨o3, b3, pt, hp, eρ⟩
  have hz := zw_sz okr oks
  have hzl := zw_len okr oks
  have hpl := hp.len
  refine wp_seqN (fun ρ m' => m' = m3 ∧ ∃ ps : List Nat, ps.length ≤ 3 ∧ (∀ i ∈ ps, i < d ∧ ((zw r s).getD i (0, 1)).1 ≠ 0) ∧ ρ = [some .drw, some (LnD rs), some (.int d), some (fV r), some (fV s), some (V2 (zw r s)), some (V2 pt), some (.lst (ps.map fun i : Nat => D.int i)), none, none, none, none]) ?_ ?_
  · subst eρ
    simp [look]
    refine ⟨by omega, ?_⟩
    rw [rng_map]
    refine wp_lcW_filterA _ (fun i => !decide (((zw r s).getD i (0, 1)).1 = 0)) (fun i : Nat => D.int i) ok_nil' (fun i hi => ?_) ⟨Nat.le_trans len_fm (by rw [List.length_range]; omega), ?_⟩
    · have hi' : i < d := List.mem_range.mp hi
      have hi2 : i < (zw r s).length := by omega
      have a0 : atI ((zw r s).map R2) (i : Int) = some (R2 (zw r s)[i]) := by
        rw [atI_nat (by simpa using hi2)]
        simp
      have g0 : (zw r s).getD i (0, 1) = (zw r s)[i] := by simp [hi2]
      rw [g0]
      simp [look, wipeD, V2, a0]
      simp [R2]
    · refine ⟨rfl, _, Nat.le_trans (List.length_filter_le _ _) (by rw [List.length_range]; omega), fun i hi => ?_, rfl⟩
      obtain ⟨h1, h2⟩ := List.mem_filter.mp hi
      exact ⟨List.mem_range.mp h1, by simpa using h2⟩
  rintro _ m4 ⟨em, ps, hpsl, hps, rfl⟩
  subst em
  have hc : ∀ Q : Bool → MS → Prop, (∀ b m5, (b = false → ps ≠ []) → m5.objs = m1.objs → DrB n m5 → Q b m5) → wp ((bOr (toB (dBin (eqD false) (dVar 7) (dLst false aNil))) (toB (dBin (eqD false) (dCall (lenF 2 F__law_draw) (aCons (dVar 0) (aCons (dC (.int 3)) aNil))) (dC (.int 0))))) [some .drw, some (LnD rs), some (.int d), some (fV r), some (fV s), some (V2 (zw r s)), some (V2 pt), some (.lst (ps.map fun i : Nat => D.int i)), none, none, none, none] m4) Q := by
    intro Q hQ
    simp [look]
    rw [wp_eq_nil (fun x hx => by obtain ⟨_, _, rfl⟩ := List.mem_map.mp hx; rfl) rfl]
    cases ps with
    | nil => exact hQ true _ (fun e => by cases e) o3 (b3.mono (by omega))
    | cons i ps =>
      simp
      refine wp_mono (sp_draw (n := n) b3 (by decide)) fun v1 m5 ⟨⟨i, e1, i0, i1⟩, o5, b5⟩ => ?_
      subst e1
      simp
      exact hQ _ _ (fun _ => by simp) (by rw [o5, o3]) b5
  rw [wp_seq, wp_sIf]
  refine hc _ fun b m5 hb5 o5 b5 => ?_
  cases b with
  | true =>
    rw [if_pos rfl, wp_sRet, wp_var]
    exact ⟨⟨pt, rfl, hp.mono (by omega)⟩, o5, b5⟩
  | false =>
    rw [if_neg Bool.false_ne_true, wp_sNext]
    obtain ⟨i, ps', eps⟩ : ∃ i ps', ps = i :: ps' := by
      cases ps with
      | nil => exact (hb5 rfl rfl).elim
      | cons i ps' => exact ⟨i, ps', rfl⟩
    obtain ⟨hi, hnz⟩ := hps i (by rw [eps]; simp)
    have hi2 : i < (zw r s).length := by omega
    have hi3 : i < pt.length := by omega
    have g0 : (zw r s).getD i (0, 1) = (zw r s)[i] := by simp [hi2]
    rw [g0] at hnz
    have e1 := f_ldot (m := m5) (a := 81) (b := 21) hz hp.sz (by omega) (by rw [hzl]; omega)
    have e2 := f_lminus (m := m5) (p := r.2.2) (q := s.2.2) okr.szl oks.szl (by omega)
    have hdz := (qdot_sz (a := 81) (b := 21) hz hp.sz).mono (show _ ≤ 310 by rw [hzl]; omega)
    have hmz := okr.szl.minus oks.szl
    have e3 := f_lplus (m := m5) hdz hmz (by omega)
    have hlz := hdz.plus hmz
    have hwi := hz _ (List.getElem_mem hi2)
    have e4 := f_lover (m := m5) hlz hwi (by omega) hnz
    have hoz := hlz.over hwi hnz
    have hpi := hp.sz _ (List.getElem_mem hi3)
    have e5 := f_lminus (m := m5) hpi hoz (by omega)
    have hfz := hpi.minus hoz
    have a0 : atI ((zw r s).map R2) (i : Int) = some (R2 (zw r s)[i]) := by
      rw [atI_nat (by simpa using hi2)]
      simp
    have a1 : atI (pt.map R2) (i : Int) = some (R2 pt[i]) := by
      rw [atI_nat (by simpa using hi3)]
      simp
    refine wp_seqN (fun ρ m' => m' = m5 ∧ ρ = [some .drw, some (LnD rs), some (.int d), some (fV r), some (fV s), some (V2 (zw r s)), some (V2 pt), some (.lst (ps.map fun i : Nat => D.int i)), some (R2 (qplus (qdot (zw r s) pt) (qminus r.2.2 s.2.2))), none, none, none]) ?_ ?_
    · simp [look, e1]
      rw [fV, fV, V2_app, V2_app]
      simp [e2, e3]
    rintro _ m6 ⟨em, rfl⟩
    subst em
    refine wp_seqN (fun ρ m' => m' = m6 ∧ ρ = [some .drw, some (LnD rs), some (.int d), some (fV r), some (fV s), some (V2 (zw r s)), some (V2 pt), some (.lst (ps.map fun i : Nat => D.int i)), some (R2 (qplus (qdot (zw r s) pt) (qminus r.2.2 s.2.2))), some (.int i), none, none]) ?_ ?_
    · simp [look, eps]
    rintro _ m7 ⟨em, rfl⟩
    subst em
    have c2 : cutD (pt.map R2) (some ((i : Int) + 1)) none = (pt.map R2).drop (i + 1) := cut_from (k := i + 1)
    simp only [wp_sRet, wp_bin, wp_sl, wp_var, look, List.getElem?_cons_zero, List.getElem?_cons_succ, wp_oNone, wp_oSome, wp_asI, V2, wp_slD_tup, cut_to, wp_dTup, wp_aCons, wp_aNil, wp_call, wp_ix_tup, a0, a1, wp_newT, wp_add_tup, wp_c, wp_add, c2]
    rw [wp_lenF (n := 2) (ds := [R2 (qplus (qdot (zw r s) pt) (qminus r.2.2 s.2.2)), R2 (zw r s)[i]]) rfl, e4, wp_ok]
    rw [wp_lenF (n := 2) (ds := [R2 pt[i], R2 (qover (qplus (qdot (zw r s) pt) (qminus r.2.2 s.2.2)) (zw r s)[i])]) rfl, e5, wp_ok]
    refine ⟨by simp; omega, by simp, by simp; omega, by simp; omega, by simp; omega, ⟨pt.take i ++ [_] ++ pt.drop (i + 1), ?_, hp.put (by omega) hi (hfz.mono (by omega)) ?_⟩, o5, b5⟩
    · simp [List.map_append, List.map_take, List.map_drop]
    · exact rat_minus hpi.2.2 hoz.2.2
end
end K90
end TL
end
section
/-! k90: points right. -/
namespace TL
open L2 (atI ixN)
open PySem PySem.Spec PyProof.Rows L2 Cm
namespace K90
theorem szD_V2 (xs : QV) : szD (V2 xs) = 1 + 3 * xs.length := by
  have : ∀ xs : QV, szAll (xs.map R2) = 3 * xs.length := by
    intro xs
    induction xs with
    | nil => rfl
    | cons x xs ih =>
      simp only [List.map_cons, szAll, ih, List.length_cons]
      show 3 + _ = _
      omega
  simp only [V2, szD, this]
theorem szAll_le {α : Type} {f : α → D} {b : Nat} : ∀ xs : List α, (∀ x ∈ xs, szD (f x) ≤ b) → szAll (xs.map f) ≤ b * xs.length
  | [], _ => by simp [szAll]
  | x :: xs, h => by
    have h1 := h x (by simp)
    have h2 := szAll_le xs fun y hy => h y (by simp [hy])
    simp only [List.map_cons, szAll, List.length_cons, Nat.mul_add]
    omega
section
variable {d k kp n : Nat} {rs : List Row} {r own : Row} {m : MS} {pt : QV}
theorem same_wds (h : LOk d k rs) (p : Row → Bool) : F__law_same [wds (rs.filter p), wds (rs.filter p)] m = .ok (.bl true) m := by
  refine e_same ?_ ?_
  · show okAll 61 ((rs.filter p).map fun r => D.str r.1) = true
    refine okAll_all.mpr fun x hx => ?_
    obtain ⟨r, hr, rfl⟩ := List.mem_map.mp hx
    have := (h.ok r (List.mem_filter.mp hr).1).lay
    simpa [okD] using this
  · have h1 := szAll_le (f := fun r : Row => D.str r.1) (b := 1) (rs.filter p) fun x _ => Nat.le_refl _
    have h2 := List.length_filter_le p rs
    have := h.n6
    show 1 + szAll ((rs.filter p).map fun r => D.str r.1) < _
    omega
theorem same_reg (h : LOk d k rs) (ho : own ∈ rs) : F__law_same [regD d rs own, regD d rs own] m = .ok (.bl true) m := by
  have hl6 := others_len (own := own) h
  refine e_same ?_ ?_
  · show okAll 61 [.str "polyhedron", .int d, lims rs own] = true
    refine okAll_all.mpr fun x hx => ?_
    simp only [List.mem_cons, List.not_mem_nil, or_false] at hx
    rcases hx with rfl | rfl | rfl
    · show PyData.canLay0 (.str "polyhedron") = true
      decide +kernel
    · rfl
    · show okAll 60 ((others rs own.1).map (limD own)) = true
      refine okAll_all.mpr fun x hx => ?_
      obtain ⟨r, hr, rfl⟩ := List.mem_map.mp hx
      show okAll 59 [V2 _, R2 _] = true
      refine okAll_all.mpr fun x hx => ?_
      simp only [List.mem_cons, List.not_mem_nil, or_false] at hx
      rcases hx with rfl | rfl
      · exact okD_V2 _ 57
      · exact okD_R2 _ 58
  · have h1 := szAll_le (f := limD own) (b := 100) (others rs own.1) fun r hr => by
      have hr' := h.ok r (List.mem_filter.mp hr).1
      have e : (List.zipWith qminus own.2.1 r.2.1).length ≤ 3 := by
        rw [List.length_zipWith, (h.ok own ho).len, hr'.len]
        have := h.d3
        omega
      show 1 + (szD (V2 _) + (3 + 0)) ≤ 100
      rw [szD_V2]
      omega
    show 1 + (1 + (1 + (1 + szAll ((others rs own.1).map (limD own)) + 0))) < _
    omega
theorem point_lap (h : LOk d 40 rs) (hp : PtOk d 500 pt) {x3 x8 : Option D} {x6 x7 : Option D} :
    wp ((sFor (iSeq (dBin ixD (dVar 1) (dC (.int 1)))) (gT 2 (gsCons (gN 6) (gsCons (gN 7) gsNil)))
  (sSeq (sAsg (dCall (lenF 2 F__law_ln_limits) (aCons (dVar 1) (aCons (dVar 6) aNil))) (gN 8))
  (sIf (bOr (bNot (toB (dCall (lenF 2 F__law_same) (aCons (dCallM 1 [0, 1] F_region (aCons (dVar 1) aNil) (aCons (dVar 6) aNil)) (aCons (dTup (aCons (dC (.str "polyhedron")) (aCons (dVar 2) (aCons (dVar 8) aNil)))) aNil))))) (toB (dBin (eqD true) (dCall (lenF 2 F__law_ph_keeps) (aCons (dVar 8) (aCons (dVar 4) aNil))) (dBin (inT false) (dVar 6) (dVar 5)))))
  (sRet (dC (.bl false)))
  sNext))) [some .drw, some (LnD rs), some (.int d), x3, some (V2 pt), some (wds (rs.filter (best rs pt))), x6, x7, x8] m)
    fun fl m' => m' = m ∧ ∃ y6 y7 y8, fl = .next [some .drw, some (LnD rs), some (.int d), x3, some (V2 pt), some (wds (rs.filter (best rs pt))), y6, y7, y8] := by
  simp only [wp_sFor, wp_iSeq, wp_bin, wp_var, look, List.getElem?_cons_zero, List.getElem?_cons_succ, wp_c, LnD, wp_ix_tup, atI_1, seq_tup, gs_tup]
  refine wp_forW (fun ds ρ m' => m' = m ∧ ∃ pre suf, rs = pre ++ suf ∧ ds = suf.map rwD ∧ ∃ y6 y7 y8, ρ = [some .drw, some (LnD rs), some (.int d), x3, some (V2 pt), some (wds (rs.filter (best rs pt))), y6, y7, y8]) ?_ ?_ _ _ _ ⟨rfl, [], rs, rfl, rfl, _, _, _, rfl⟩
  · rintro x ds ρ m' ⟨em, pre, suf, e, es, y6, y7, y8, rfl⟩
    subst em
    cases suf with
    | nil => cases es
    | cons r suf =>
      obtain ⟨rfl, rfl⟩ := List.cons.inj es
      refine ⟨ok_nil', ?_⟩
      have hr : r ∈ rs := by rw [e]; simp
      have e1 := e_ln_limits (m := m') h hr (by decide)
      have e2 := e_region (m := m') h hr (by decide)
      have e3 := same_reg (m := m') h hr
      have e4 := e_keeps (m := m') h hp hr (by decide) (by decide)
      have e5 := keeps_due h hp (by decide) (by decide) hr
      have e6 : wds (rs.filter (best rs pt)) = .tup (((rs.filter (best rs pt)).map (·.1)).map D.str) := by unfold wds; rw [List.map_map]; rfl
      rw [show rwD r = .tup [.str r.1, V2 (r.2.1 ++ [r.2.2])] from rfl]
      simp only [wp_gT, wp_gsCons, wp_gsNil, wp_gN, wp_seq, wp_sAsg, wp_call, wp_aCons, wp_aNil, wp_var, look, List.set, List.getElem?_cons_zero, List.getElem?_cons_succ]
      refine ⟨rfl, ?_⟩
      rw [wp_lenF (n := 2) (ds := [LnD rs, .str r.1]) rfl, e1, wp_ok]
      simp only [wp_gN, List.set, wp_sIf, wp_bOr, wp_bNot, wp_toB, wp_call, wp_aCons, wp_aNil, wp_dCallM, wp_var, look, List.getElem?_cons_zero, List.getElem?_cons_succ, wp_dTup, wp_c, wp_newT]
      refine ⟨rfl, rfl, ?_⟩
      rw [show permV [0, 1] ([LnD rs] ++ [D.str r.1]) = [LnD rs, .str r.1] from rfl, e2, wp_ok]
      refine ⟨by simp, ?_⟩
      rw [wp_lenF (n := 2) (ds := [regD d rs r, .tup [.str "polyhedron", .int d, lims rs r]]) rfl, show D.tup [.str "polyhedron", .int d, lims rs r] = regD d rs r from rfl, e3, wp_ok]
      simp only [Bool.not_true, Bool.false_eq_true, if_false, wp_bin, wp_call, wp_aCons, wp_aNil, wp_var, look, List.getElem?_cons_zero, List.getElem?_cons_succ]
      rw [wp_lenF (n := 2) (ds := [lims rs r, V2 pt]) rfl, e4, wp_ok, e6, wp_inT, e5]
      simp only [Bool.false_eq_true, if_false, wp_eq_bl]
      simp
      exact ⟨pre ++ [r], suf, by rw [e]; simp, rfl⟩
  · rintro ρ m' ⟨em, pre, suf, e, es, y6, y7, y8, rfl⟩
    subst em
    refine ⟨ok_nil', rfl, y6, y7, y8, rfl⟩
theorem sp_points (h : LOk d 40 rs) (hb : DrB (n + 120) m) : wp (F__law_points_right [.drw, LnD rs] m) fun v m' => v = .bl true ∧ m'.objs = m.objs ∧ DrB n m' := by
  obtain ⟨r0, rest, er⟩ : ∃ r0 rest, rs = r0 :: rest := by
    cases rs with
    | nil => have := h.n1; simp at this
    | cons a b => exact ⟨a, b, rfl⟩
  have h0 := (h.ok r0 (by rw [er]; simp)).len
  rw [F__law_points_right, wp_bodyF']
  unfold u__law_points_right
  refine wp_seqN (fun ρ m' => m' = m ∧ ρ = [some .drw, some (LnD rs), some (.int d), none, none, none, none, none, none]) ?_ ?_
  · simp [startD, look, LnD, er, rwD, V2, h0]
  rintro _ m1 ⟨em, rfl⟩
  subst em
  refine wp_seqN (fun ρ m' => m'.objs = m1.objs ∧ DrB n m') ?_ ?_
  · simp only [wp_sFor, wp_iRange1, wp_aCons, wp_aNil, wp_c]
    refine ⟨by decide, ?_⟩
    refine wp_forW (fun ds ρ m' => m'.objs = m1.objs ∧ DrB (n + 30 * ds.length) m' ∧ ∃ x3 x4 x5 x6 x7 x8, ρ = [some .drw, some (LnD rs), some (.int d), x3, x4, x5, x6, x7, x8]) ?_ ?_ _ _ _ ⟨rfl, by rw [rng_length]; exact hb, _, _, _, _, _, _, rfl⟩
    · rintro x ds ρ m' ⟨o, hb', x3, x4, x5, x6, x7, x8, rfl⟩
      refine ⟨ok_nil', ?_⟩
      rw [List.length_cons] at hb'
      simp only [wp_gN, List.set, wp_seq, wp_sAsg, wp_call, wp_aCons, wp_aNil, wp_var, look, List.getElem?_cons_zero, List.getElem?_cons_succ]
      rw [wp_lenF (n := 2) (ds := [D.drw, LnD rs]) rfl]
      refine wp_mono (sp_meeting (n := n + 30 * ds.length) h (hb'.mono (by omega))) fun v m2 ⟨⟨pt, e, hp⟩, o2, b2⟩ => ?_
      subst e
      have e1 := e_ln_chosen (m := m2) h hp (by decide) (by decide)
      have e2 := e_chosen (m := m2) h hp (by decide) (by decide)
      have e3 := same_wds (m := m2) h (best rs pt)
      rw [wp_lenF (n := 2) (ds := [LnD rs, V2 pt]) rfl, e1, wp_ok]
      simp only [wp_gN, List.set, wp_sIf, wp_bNot, wp_toB, wp_call, wp_aCons, wp_aNil, wp_var, look, List.getElem?_cons_zero, List.getElem?_cons_succ]
      rw [wp_permF (ix := [1, 0]) (ds := [V2 pt, LnD rs]) rfl, show permV [1, 0] [V2 pt, LnD rs] = [LnD rs, V2 pt] from rfl, e2, wp_ok]
      rw [wp_lenF (n := 2) (ds := [wds (rs.filter (best rs pt)), wds (rs.filter (best rs pt))]) rfl, e3, wp_ok]
      simp only [Bool.not_true, Bool.false_eq_true, if_false, wp_sNext]
      refine wp_mono (point_lap h hp) ?_
      rintro fl m3 ⟨em, y6, y7, y8, rfl⟩
      subst em
      exact ⟨by rw [o2, o], b2, _, _, _, _, _, _, rfl⟩
    · rintro ρ m' ⟨o, hb', x3, x4, x5, x6, x7, x8, rfl⟩
      exact ⟨ok_nil', _, rfl, o, hb'⟩
  rintro ρ m2 ⟨o2, b2⟩
  rw [wp_sRet, wp_c]
  exact ⟨rfl, o2, b2⟩
end
end K90
end TL
end
section
/-! k90: what is refused. -/
namespace TL
open L2 (atI ixN)
open PySem PySem.Spec PyProof.Rows L2 Cm
section
variable {P : D → MS → Prop} {m : MS} {ρ : Env'}
theorem caught_of {teach : Str → Bool} {bs : List FE} {fa : FE} {i : Nat} {b : FE} (hf : fa ρ m = .ok (.clo i) m) (hb : bs[i]? = some b) (h : wr (b ρ m) fun c fs m' => teach c = true ∧ P (.exn c fs) m') : wp (dCaught teach bs fa ρ m) P := by
  rw [wp_dCaught]
  refine wp_eq hf ?_
  dsimp only
  rw [hb]
  dsimp only
  cases e : b ρ m with
  | raise c fs m' =>
    rw [e] at h
    rw [wp_caughtR h.1]
    exact h.2
  | _ => rw [e] at h; exact h.elim
theorem caughtE {teach : Str → Bool} {bs : List FE} {fa : FE} {i : Nat} {b : FE} {c : Str} {fs : List (Str × D)} (hf : fa ρ m = .ok (.clo i) m) (hb : bs[i]? = some b) (h : wr (b ρ m) fun c' fs' m' => c' = c ∧ fs' = fs ∧ m' = m) (ht : teach c = true) : dCaught teach bs fa ρ m = .ok (.exn c fs) m :=
  eq_of_wp (caught_of hf hb (by
    rw [eq_of_wr h]
    exact ⟨ht, rfl, rfl⟩))
theorem bodyN_of {u : FS} {n : Nat} {ds : List D} {b : Bool} (hm : m.objs = []) (h : wp (bodyF u n ds m) fun v m1 => v = .bl b ∧ m1.objs = [] ∧ P v m1) : wp (bodyN u n ds m) P := by
  obtain ⟨v, m1, e, rfl, eo, q⟩ := wp_elim h
  unfold bodyN
  rw [e]
  have hn : ncRes (.ok (.bl b) m1) = .ok (.bl b) m1 := by
    unfold ncRes
    have : ncMS m1 = true := by unfold ncMS; rw [eo]; rfl
    simp [this, nc]
  rw [hn]
  unfold trunc
  have ok : okOld m m1 := .inl (by rw [eo, hm]; rfl)
  have f : frz m.objs.length m1.objs 8 (.bl b) = some (.bl b) := by
    unfold frz
    rw [if_pos (show ltD m.objs.length (.bl b) = true from rfl)]
  simp only [ok, if_true, f]
  rw [wp_ok]
  rw [show ({ objs := List.take m.objs.length m1.objs, dr := m1.dr } : MS) = m1 by cases m1; simp_all]
  exact q
theorem wr_call2 {F : List D → M D} {f g : FE} {a b : D} {c : Str} {fs : List (Str × D)} (hf : f ρ m = .ok a m) (hg : g ρ m = .ok b m) (h : F [a, b] m = .raise c fs m) : wr (dCall (lenF 2 F) (aCons f (aCons g aNil)) ρ m) fun c' fs' m' => c' = c ∧ fs' = fs ∧ m' = m := by
  refine wr_call ?_
  simp [hf, hg]
  exact wr_lenF rfl (by rw [h]; exact ⟨rfl, rfl, rfl⟩)
end
namespace K90
section
variable {d k n : Nat} {rs : List Row} {m : MS} {v o : D}
theorem e_need_bad (hv : okV n v = true) (hn : n ≤ 1000000) (h : isLines v = false) : F_need_lines [v] m = .raise "BadLines" [] m := by
  unfold F_need_lines
  refine eq_of_wr (wr_body ?_)
  unfold u_need_lines
  refine wr_if ?_
  simp [startD, look, e_is_lines (m := m) hv hn, h]
  exact wr_sRaise (by simp)
theorem e_chosen_l (hv : okV n v = true) (hn : n ≤ 1000000) (h : isLines v = false) : F_chosen [v, o] m = .raise "BadLines" [] m := by
  unfold F_chosen
  refine eq_of_wr (wr_body ?_)
  unfold u_chosen
  refine wr_seq0 (wr_expr0 (wr_call ?_))
  simp [startD, look]
  exact wr_lenF rfl (by rw [e_need_bad hv hn h]; exact ⟨rfl, rfl, rfl⟩)
theorem e_region_l (hv : okV n v = true) (hn : n ≤ 1000000) (h : isLines v = false) : F_region [v, o] m = .raise "BadLines" [] m := by
  unfold F_region
  refine eq_of_wr (wr_body ?_)
  unfold u_region
  refine wr_seq0 (wr_expr0 (wr_call ?_))
  simp [startD, look]
  exact wr_lenF rfl (by rw [e_need_bad hv hn h]; exact ⟨rfl, rfl, rfl⟩)
theorem e_region_w (h : LOk d k rs) (ho : okV n o = true) (hw : isWd o = false) : F_region [LnD rs, o] m = .raise "BadWord" [] m := by
  unfold F_region
  refine eq_of_wr (wr_body ?_)
  unfold u_region
  refine wr_seq ?_
  simp [startD, look, e_need_lines (m := m) h]
  refine wr_seq0 (wr_expr0 (wr_call ?_))
  simp [look]
  refine wr_lenF rfl ?_
  unfold F_need_line_word
  refine wr_body ?_
  unfold u_need_line_word
  refine wr_if ?_
  simp [startD, look, e_is_word (m := m) ho, hw]
  exact wr_sRaise (by simp)
theorem e_chosen_p (h : LOk d k rs) (ho : okV n o = true) (hn : n ≤ 1000000) (hw : isVec o = false ∨ ∃ xs, o = .tup xs ∧ isVec o = true ∧ xs.length ≠ d) : F_chosen [LnD rs, o] m = .raise "BadPoint" [] m := by
  unfold F_chosen
  refine eq_of_wr (wr_body ?_)
  unfold u_chosen
  refine wr_seq ?_
  simp [startD, look, e_need_lines (m := m) h]
  refine wr_seq0 (wr_if ?_)
  have e := e_is_vector (m := m) (okV.ty3 ho) (okV.len ho hn)
  rcases hw with hw | ⟨xs, rfl, hw, hl⟩
  · simp [look, e, hw]
    exact wr_sRaise (by simp)
  · have hl' : ¬ ((xs.length : Int) = d) := by omega
    simp [look, e, hw, e_places (m := m) h, hl']
    exact wr_sRaise (by simp)
def z24 : D := .tup [.int 2, .int 4]
theorem isVec_rep {x : D} {k : Nat} (hk : 1 ≤ k) (hx : isRat x = false) : isVec (.tup (List.replicate k x)) = false := by
  show (decide (1 ≤ (List.replicate k x).length) && decide ((List.replicate k x).length ≤ 200) && (List.replicate k x).all isRat) = false
  have : (List.replicate k x).all isRat = false := by
    rw [List.all_eq_false]
    exact ⟨x, List.mem_replicate.mpr ⟨by omega, rfl⟩, by simp [hx]⟩
  rw [this, Bool.and_false]
theorem isVec_zs {k : Nat} (h1 : 1 ≤ k) (h2 : k ≤ 200) : isVec (.tup (List.replicate k z01)) = true := by
  have e : D.tup (List.replicate k z01) = V2 (List.replicate k (0, 1)) := by
    unfold V2 z01
    rw [List.map_replicate]
    rfl
  rw [e]
  exact isVec_V2 (by simpa using h1) (by simpa using h2) fun q hq => by
    rw [List.eq_of_mem_replicate hq]
    decide
theorem sp_refused (h : LOk d 40 rs) (hv : okV 20 v = true) (hb : DrB (n + 2) m) (hm : m.objs = []) : wp (F__law_refused [.drw, LnD rs, v] m) fun v' m' => v' = .bl true ∧ m'.objs = [] ∧ DrB n m' := by
  obtain ⟨r0, rest, er⟩ : ∃ r0 rest, rs = r0 :: rest := by
    cases rs with
    | nil => have := h.n1; simp at this
    | cons a b => exact ⟨a, b, rfl⟩
  have h0 := (h.ok r0 (by rw [er]; simp)).len
  have hd1 := h.d1
  have hd3 := h.d3
  have hn6 := h.n6
  unfold F__law_refused
  refine bodyN_of (b := true) hm ?_
  unfold u__law_refused
  rw [wp_bodyF']
  refine wp_seqN (fun ρ m' => m' = m ∧ ρ = [some .drw, some (LnD rs), some v, some (.int d), some (.lst (rs.map fun r => D.str r.1)), none, none, none, none]) ?_ ?_
  · have e1 : ∀ (P : D → MS → Prop), wp (ixD (LnD rs) (.int 1) m) P ↔ P (.tup (rs.map rwD)) m := fun P => by simp [LnD]
    have e2 : ∀ (P : D → MS → Prop), wp (ixD (.tup (rs.map rwD)) (.int 0) m) P ↔ P (rwD r0) m := fun P => by simp [er]
    have e3 : ∀ (r : Row) (P : D → MS → Prop), wp (ixD (rwD r) (.int 1) m) P ↔ P (V2 (r.2.1 ++ [r.2.2])) m := fun r P => by simp [rwD]
    have e4 : ∀ (r : Row) (P : D → MS → Prop), wp (ixD (rwD r) (.int 0) m) P ↔ P (.str r.1) m := fun r P => by simp [rwD]
    have e5 : ∀ (P : D → MS → Prop), wp (lenD (V2 (r0.2.1 ++ [r0.2.2])) m) P ↔ P (.int ((d : Int) + 1)) m := fun P => by simp [V2, h0]
    simp [startD, look, e1, e2, e3, e5]
    refine wp_lcW_mapA rwD (fun r => D.str r.1) ok_nil' (fun r hr => ?_) ⟨by rw [List.length_map]; omega, rfl, rfl⟩
    simp [look, wipeD, e4]
  rintro _ m1 ⟨em, rfl⟩
  subst em
  refine wp_seqN (fun ρ m' => m' = m1 ∧ ρ = [some .drw, some (LnD rs), some v, some (.int d), some (.lst (rs.map fun r => D.str r.1)), some (.tup (List.replicate d z01)), none, none, none]) ?_ ?_
  · simp [look, rep_flat, z01]
    omega
  rintro _ m2 ⟨em, rfl⟩
  subst em
  refine wp_seqN (fun ρ m' => m'.objs = [] ∧ DrB (n + 1) m' ∧ ∃ o, (okV 20 o = true ∧ (isVec o = false ∨ ∃ xs, o = .tup xs ∧ isVec o = true ∧ xs.length ≠ d)) ∧ ρ = [some .drw, some (LnD rs), some v, some (.int d), some (.lst (rs.map fun r => D.str r.1)), some (.tup (List.replicate d z01)), some o, none, none]) ?_ ?_
  · simp [look, rep_flat]
    refine ⟨by omega, by omega, by omega, ?_⟩
    refine wp_mono (sp_pick (n := n + 1) hb (by simp)) fun o m3 ⟨ho, o3, b3⟩ => ?_
    simp only [List.mem_cons, List.not_mem_nil, or_false] at ho
    refine ⟨by rw [o3, hm], b3, ?_⟩
    rcases ho with rfl | rfl | rfl | rfl | rfl | rfl
    · exact ⟨rfl, .inl rfl⟩
    · exact ⟨okV_lst.mpr ⟨by simp; omega, fun x hx => by rw [List.eq_of_mem_replicate hx]; exact okV_z (by decide)⟩, .inl rfl⟩
    · have e : List.replicate d z01 ++ [D.tup [.int 0, .int 1]] = List.replicate (d + 1) z01 := by
        rw [List.replicate_succ']
        rfl
      rw [e]
      exact ⟨okV_rep (by omega) (okV_z (by decide)), .inr ⟨_, rfl, isVec_zs (by omega) (by omega), by simp⟩⟩
    · exact ⟨okV_rep (by omega) (okV_R2 (by decide) (2, 4)), .inl (isVec_rep hd1 (by decide))⟩
    · exact ⟨okV_rep (by omega) rfl, .inl (isVec_rep hd1 rfl)⟩
    · exact ⟨rfl, .inl rfl⟩
  rintro _ m3 ⟨o3, b3, o, ⟨ho, hov⟩, rfl⟩
  refine wp_seqN (fun ρ m' => m'.objs = [] ∧ DrB n m' ∧ ∃ w, (okV 20 w = true ∧ isWd w = false) ∧ ρ = [some .drw, some (LnD rs), some v, some (.int d), some (.lst (rs.map fun r => D.str r.1)), some (.tup (List.replicate d z01)), some o, some w, none]) ?_ ?_
  · simp [look, er, wp_mul_str]
    refine ⟨by decide, ?_⟩
    refine wp_mono (sp_pick (n := n) b3 (by simp)) fun w m4 ⟨hw, o4, b4⟩ => ?_
    simp only [List.mem_cons, List.not_mem_nil, or_false] at hw
    refine ⟨by rw [o4, o3], b4, ?_⟩
    rcases hw with rfl | rfl | rfl | rfl | rfl | rfl
    · exact ⟨rfl, rfl⟩
    · exact ⟨okV_lstr (by decide +kernel), by decide +kernel⟩
    · exact ⟨rfl, rfl⟩
    · exact ⟨okV_lstr (by decide +kernel), by decide +kernel⟩
    · refine ⟨okV_tup.mpr ⟨by simp, fun x hx => ?_⟩, rfl⟩
      rw [List.mem_singleton.mp hx]
      have := (okV_tup.mp (okV_row (n := 20) (by decide) (h.ok r0 (by rw [er]; simp)) hd3)).2 (.str r0.1) (by simp)
      exact this
    · exact ⟨okV_lstr (by decide +kernel), by decide +kernel⟩
  rintro _ m4 ⟨o4, b4, w, ⟨hw, hwd⟩, rfl⟩
  have c3 : dCaught teach bs__law_refused (dC (.clo 3)) [some .drw, some (LnD rs), some v, some (.int d), some (.lst (rs.map fun r => D.str r.1)), some (.tup (List.replicate d z01)), some o, some w, none] m4 = .ok (.exn "BadPoint" []) m4 :=
    caughtE rfl rfl (wr_call2 (a := LnD rs) (b := o) rfl rfl (e_chosen_p h ho (by decide) hov)) rfl
  have c2 : dCaught teach bs__law_refused (dC (.clo 2)) [some .drw, some (LnD rs), some v, some (.int d), some (.lst (rs.map fun r => D.str r.1)), some (.tup (List.replicate d z01)), some o, some w, none] m4 = .ok (.exn "BadWord" []) m4 :=
    caughtE rfl rfl (wr_call2 (a := LnD rs) (b := w) rfl rfl (e_region_w h hw hwd)) rfl
  simp [look, c3, c2, subs]
  have el := e_lis_lines (m := m4) hv (by decide)
  rw [el]
  cases hl : isLines v with
  | true => simp [o4, b4]
  | false =>
    have c1 : dCaught teach bs__law_refused (dC (.clo 1)) [some .drw, some (LnD rs), some v, some (.int d), some (.lst (rs.map fun r => D.str r.1)), some (.tup (List.replicate d z01)), some o, some w, none] m4 = .ok (.exn "BadLines" []) m4 :=
      caughtE rfl rfl (wr_call2 (a := v) (b := .non) rfl rfl (e_chosen_l hv (by decide) hl)) rfl
    have c0 : dCaught teach bs__law_refused (dC (.clo 0)) [some .drw, some (LnD rs), some v, some (.int d), some (.lst (rs.map fun r => D.str r.1)), some (.tup (List.replicate d z01)), some o, some w, none] m4 = .ok (.exn "BadLines" []) m4 :=
      caughtE rfl rfl (wr_call2 (a := v) (b := .non) rfl rfl (e_region_l hv (by decide) hl)) rfl
    simp [c1, c0, subs, o4, b4]
end
end K90
end TL
end
section
/-! k90: the law. -/
namespace TL
open L2 (atI ixN)
open PySem PySem.Spec PyProof.Rows L2 Cm
namespace K90
/-- a turn's number of draws -/
def tn : Nat := 79228156131691039118268198000
theorem turn_ok {n : Nat} {m : MS} {s : Option D} {x2 x3 x4 : Option D} (hb : DrB (n + tn) m) (hm : m.objs = []) :
    wp ((sSeq (sAsg (dCall (lenF 1 F__law_lines) (aCons (dVar 1) aNil)) (gN 3))
  (sSeq (sAsg (dCall (lenF 2 F__law_near) (aCons (dVar 1) (aCons (dVar 3) aNil))) (gN 4))
  (sSeq (sIf (bOr (bNot (toB (dCall (lenF 2 F__law_is_truth) (aCons (dCall (lenF 1 F_is_lines) (aCons (dVar 3) aNil)) (aCons (dC (.bl true)) aNil))))) (bNot (toB (dCall (lenF 2 F__law_is_truth) (aCons (dCall (permD [0] F_is_lines) (aCons (dVar 4) aNil)) (aCons (dCall (lenF 1 F__law_is_lines) (aCons (dVar 4) aNil)) aNil))))))
  (sRet (dC (.bl false)))
  sNext)
  (sIf (bOr (bNot (toB (dCall (lenF 2 F__law_points_right) (aCons (dVar 1) (aCons (dVar 3) aNil))))) (bNot (toB (dCall (lenF 3 F__law_refused) (aCons (dVar 1) (aCons (dVar 3) (aCons (dVar 4) aNil)))))))
  (sRet (dC (.bl false)))
  sNext)))) [s, some .drw, x2, x3, x4] m) fun fl m' => m'.objs = [] ∧ DrB n m' ∧ ∃ y3 y4, fl = .next [s, some .drw, x2, y3, y4] := by
  unfold tn at hb
  refine wp_seqN (fun ρ m' => m'.objs = [] ∧ DrB (n + 200) m' ∧ ∃ d rs, LOk d 40 rs ∧ ρ = [s, some .drw, x2, some (LnD rs), x4]) ?_ ?_
  · simp only [wp_sAsg, wp_call, wp_aCons, wp_aNil, wp_var, look, List.getElem?_cons_zero, List.getElem?_cons_succ]
    rw [wp_lenF (n := 1) (ds := [D.drw]) rfl]
    refine wp_mono (sp_lines (n := n + 200) (hb.mono (by omega))) fun v m1 ⟨⟨d, rs, e, h⟩, o1, b1⟩ => ?_
    subst e
    rw [wp_gN]
    exact ⟨_, rfl, by rw [o1, hm], b1, d, rs, h, rfl⟩
  rintro _ m1 ⟨o1, b1, d, rs, h, rfl⟩
  refine wp_seqN (fun ρ m' => m'.objs = [] ∧ DrB (n + 122) m' ∧ ∃ v, okV 20 v = true ∧ ρ = [s, some .drw, x2, some (LnD rs), some v]) ?_ ?_
  · simp only [wp_sAsg, wp_call, wp_aCons, wp_aNil, wp_var, look, List.getElem?_cons_zero, List.getElem?_cons_succ]
    rw [wp_lenF (n := 2) (ds := [D.drw, LnD rs]) rfl]
    refine wp_mono (sp_near (n := n + 122) h (b1.mono (by omega))) fun v m2 ⟨hv, o2, b2⟩ => ?_
    rw [wp_gN]
    exact ⟨_, rfl, by rw [o2, o1], b2, v, hv, rfl⟩
  rintro _ m2 ⟨o2, b2, v, hv, rfl⟩
  refine wp_seqN (fun ρ m' => m' = m2 ∧ ρ = [s, some .drw, x2, some (LnD rs), some v]) ?_ ?_
  · have e1 := e_is_lines (m := m2) (okV_Ln (n := 20) (by decide) h) (by decide)
    rw [isLines_Ln h] at e1
    have e2 := e_is_lines (m := m2) hv (by decide)
    have e3 := e_lis_lines (m := m2) hv (by decide)
    have pk : permV [0] [v] = [v] := rfl
    simp [look, e1, e2, e3, e_is_truth, pk]
  rintro _ m3 ⟨em, rfl⟩
  subst em
  simp only [wp_sIf, wp_bOr, wp_bNot, wp_toB, wp_call, wp_aCons, wp_aNil, wp_var, look, List.getElem?_cons_zero, List.getElem?_cons_succ]
  rw [wp_lenF (n := 2) (ds := [D.drw, LnD rs]) rfl]
  refine wp_mono (sp_points (n := n + 2) h b2) fun v1 m4 ⟨e1, o4, b4⟩ => ?_
  subst e1
  simp only [Bool.not_true, Bool.false_eq_true, if_false]
  rw [wp_lenF (n := 3) (ds := [D.drw, LnD rs, v]) rfl]
  refine wp_mono (sp_refused (n := n) h hv b4 (by rw [o4, o2])) fun v2 m5 ⟨e1, o5, b5⟩ => ?_
  subst e1
  simp only [Bool.not_true, Bool.false_eq_true, if_false, wp_sNext]
  exact ⟨o5, b5, _, _, rfl⟩
theorem k90_law (ns : List Int) (s : D) (h1 : ns.length ≤ 63) (h2 : ∀ z ∈ ns, Builtin.Int.intBits z ≤ 1048576) (h3 : s = .scr ns ∨ s = .lst (ns.map D.int)) : wp (F_law [s] ⟨[], none⟩) fun v _ => v = .bl true := by
  unfold F_law u_law
  rw [wp_bodyF']
  refine wp_seqN (fun ρ m' => m'.objs = [] ∧ DrB (2 ^ 200) m' ∧ ρ = [some s, some .drw, none, none, none]) ?_ ?_
  · simp [startD, look]
    refine wp_mono (sp_begun h3 h1) fun v m' ⟨hv, ho, hb⟩ => ?_
    subst hv
    exact ⟨ho, hb, rfl⟩
  rintro _ m0 ⟨o0, b0, rfl⟩
  refine wp_seqN (fun ρ m' => True) ?_ ?_
  · rw [wp_sFor]
    have hlen : ∀ m : MS, wp (lenD s m) fun v m' => v = .int ns.length ∧ m' = m := fun m => by
      rcases h3 with rfl | rfl <;> simp
    refine wp_mono (P := fun it m' => m' = m0 ∧ ∃ r : Nat, r ≤ 18 ∧ it = ⟨rng 0 r, []⟩) ?_ ?_
    · simp [look]
      refine wp_mono (hlen m0) fun v m' ⟨e1, e2⟩ => ?_
      subst e1 e2
      simp
      split
      · exact ⟨by omega, 18, by omega, rfl⟩
      · rename_i q
        exact ⟨by omega, 10 + ns.length, by omega, by congr 2⟩
    rintro it m' ⟨em, r, hr, rfl⟩
    subst em
    refine wp_forW (fun ds ρ m' => m'.objs = [] ∧ DrB (tn * ds.length) m' ∧ ∃ x2 x3 x4, ρ = [some s, some .drw, x2, x3, x4]) ?_ ?_ _ _ _ ⟨o0, b0.mono ?_, _, _, _, rfl⟩
    · rintro x ds ρ m' ⟨ho, hb, x2, x3, x4, rfl⟩
      refine ⟨ok_nil', ?_⟩
      rw [List.length_cons, Nat.mul_succ] at hb
      rw [wp_gN]
      refine wp_mono (turn_ok (n := tn * ds.length) hb ho) ?_
      rintro fl m1 ⟨o1, b1, y3, y4, rfl⟩
      exact ⟨o1, b1, _, _, _, rfl⟩
    · rintro ρ m' ⟨-, -, -⟩
      exact ⟨ok_nil', ρ, rfl, trivial⟩
    · rw [rng_length]
      have : tn * r ≤ tn * 18 := Nat.mul_le_mul_left _ hr
      have h18 : tn * 18 ≤ 2 ^ 200 := by decide
      omega
  · rintro ρ m' -
    rw [wp_sRet, wp_c]
end K90
end TL
end
section
/-! The data layer: the head: a law's facts read from the heap at the top's end. -/
namespace TL
open PySem PySem.Spec PyProof.Rows L2
open LamX (Tabs CodeO TabB)
open He (ga ma fAd frG asD DefD obsD valD SaysD emptyTab cT eqO ba Fa Defn)
open PySem.W (Frag findIn subIn typeIn keepIn mroIn clsIn nsIn alongIn)
/-! ### what is looked at -/
def noList (o : Obj) : Bool := match o.cls with
  | .type c => !decide (c = "list")
  | _ => true
def frM (g : Addr → Option Obj) (as : List Addr) : Frag := (frG g as).filter fun q => !emptyTab q.2 && noList q.2
def asM (g : Addr → Option Obj) (n : Nat) : List Addr := asD g n ++ [cStatics, sysModules, builtinsNs]
theorem frM_mem {g : Addr → Option Obj} {as : List Addr} {a : Addr} {o : Obj} (h : (frM g as).lookup a = some o) : g a = some o ∧ emptyTab o = false ∧ noList o = true := by
  obtain ⟨h1, h2⟩ := List.mem_filter.mp (He.lookup_mem h)
  have h3 : (!emptyTab o && noList o) = true := h2
  obtain ⟨h4, h5⟩ := ba h3
  exact ⟨He.frG_mem h1, by simpa using h4, h5⟩
theorem frM_in {as : List Addr} {h : Heap} : (frM h.get? as).In h := fun _ _ e => (frM_mem e).1
theorem frM_none {g : Addr → Option Obj} {as : List Addr} {a : Addr} {o : Obj} (h : g a = some o) (ht : emptyTab o = true) : (frM g as).lookup a = none := by
  cases e : (frM g as).lookup a with
  | none => rfl
  | some u =>
    obtain ⟨h1, h2, _⟩ := frM_mem e
    rw [h] at h1
    rw [← Option.some.inj h1, ht] at h2
    cases h2
/-! ### a class's own __init__ -/
structure XiD where
  x : Str
  p : Str
  f : Str
  st : Stmt
abbrev FnI : Type := Option (Arguments × FuncBody × Scope × Addr × Addr)
def iA (K : Frag) (x : Str) : Addr := ma K (ga K x) "__init__"
def fnI (K : Frag) (x : Str) : FnI := match K.lookup (iA K x) with
  | some ⟨_, _, .func fd, _⟩ => some (fd.params, fd.body, fd.scope, fd.globals, fd.builtins)
  | _ => none
def XiD.val (d : XiD) : FnI := some (defArgs d.st, .stmts (defBody d.st), defScope d.st, mainGlobals, builtinsNs)
def cellB (K : Frag) (C : Addr) (cl : List (Str × Addr)) : Bool := match cl with
  | [(c, cc)] => decide (c = ("__class__" : Str)) && (match K.lookup cc with
    | some ⟨_, _, .cell (some (.ref C')), _⟩ => decide (C' = C)
    | _ => false)
  | _ => false
def fileB (K : Frag) (file : Str) (cd : Value) : Bool := match cd with
  | .ref cda => (match K.lookup cda with
    | some ⟨_, _, .fields vs, _⟩ => (match (vs[2]? : Option Value) with
      | some (.str fl _) => file == fl
      | _ => false)
    | _ => false)
  | _ => false
def noneB : Value → Bool
  | .none => true
  | _ => false
def initB (file : Str) (K : Frag) (x : Str) : Bool := match K.lookup (iA K x) with
  | some ⟨_, _, .func fd, _⟩ => PySem.W.codeIn K fd.code fd.qualname && (fileB K file fd.code && (noneB fd.defaults && cellB K (ga K x) fd.closure))
  | _ => false
def oexB (K : Frag) (C : Addr) : Bool := match K.lookup C with
  | some ⟨.type t, _, .cls cd, sl⟩ => (match cd.mro, sl.toList with
    | .ref C' :: bm, [_, _, _, _, some (.builtin n), _] => decide (t = "type") && (decide (C' = C) && (decide (n = "ValueError.__new__") && (!cd.hasDel && (cd.hasDict && PySem.HandSPX.refsVE bm))))
    | _, _ => false)
  | _ => false
def cvB (K : Frag) (C : Addr) : Bool := match clsIn K C with
  | some cd => cd.hasDict && (PySem.HandSPX.refsVE cd.mro && eqO (alongIn K "__init__" ((cd.mro.dropWhile (· != .ref C)).drop 1)) (some (some (.builtin "ValueError.__init__"))))
  | none => false
theorem oexB_ok {K : Frag} {C : Addr} (q : oexB K C = true) : ∃ nm q N bs bm sn sub ab col dd k0 k1 k2 k3 k5, K.lookup C = some (excClassObj nm q C N bs bm true sn sub ab col dd k0 k1 k2 k3 k5 "ValueError.__new__") ∧ PySem.HandSPX.refsVE bm = true := by
  unfold oexB at q
  split at q
  · rename_i t dd cd sl ho
    split at q
    · rename_i C' bm k0 k1 k2 k3 n k5 hm hs
      obtain ⟨q1, q⟩ := ba q
      obtain ⟨q2, q⟩ := ba q
      obtain ⟨q3, q⟩ := ba q
      obtain ⟨q4, q⟩ := ba q
      obtain ⟨q5, q6⟩ := ba q
      have e1 := of_decide_eq_true q1
      have e2 := of_decide_eq_true q2
      have e3 := of_decide_eq_true q3
      obtain ⟨nm, bs, mro, ns, qn, hd, sn, sb, ab, col, del⟩ := cd
      dsimp only at hm q4 q5
      have e4 : del = false := by simpa using q4
      have hsl : sl = #[k0, k1, k2, k3, some (.builtin n), k5] := by
        obtain ⟨l⟩ := sl
        exact congrArg Array.mk hs
      subst hm e1 e2 e3 e4 q5 hsl
      exact ⟨nm, qn, ns, bs, bm, sn, sb, ab, col, dd, k0, k1, k2, k3, k5, ho, q6⟩
    · cases q
  · cases q
/-- what the text says of the class's __init__ -/
structure XiOk (P : Program) (d : XiD) : Prop where
  top : (P.main.scope.names.lookup ("super" : Str)).isSome = false
  sc : (defScope d.st).kind = .function ∧ (defScope d.st).isCoroutine = false ∧ (defScope d.st).isGenerator = false ∧ (∀ x ∈ (defScope d.st).names, x.2 ≠ .cell)
  ks : (defScope d.st).names.lookup ("super" : Str) = some .globalImplicit ∧ (defScope d.st).names.lookup ("__class__" : Str) = some .free ∧ (defScope d.st).names.lookup ("self" : Str) = some .local ∧ (defScope d.st).names.lookup d.p = some .local
  hd : ∃ ar, ((defArgs d.st).posonlyargs ++ (defArgs d.st).args).head? = some ar ∧ ar.arg = ("self" : Str)
  ps : d.p ≠ ("self" : Str)
  pd : (d.p == ("__debug__" : Str)) = false
  body : ∃ p1 p2 p3 p4 p5 p6 p7 p8 p9 p10, defBody d.st = [.Expr (.Call (.Attribute (.Call (.Name "super" p1) [] [] p2) "__init__" p3) [.Name d.p p4] [] p5) p6, .Assign [.Attribute (.Name "self" p7) d.f p8] (.Name d.p p9) p10] ∧
    (∀ env : Env, ∃ pl : Sem Bool, eval (.Call (.Attribute (.Call (.Name "super" p1) [] [] p2) "__init__" p3) [.Name d.p p4] [] p5) env = (do
      let ov ← attributeBase (.Call (.Name "super" p1) [] [] p2) "__init__" env (eval (.Call (.Name "super" p1) [] [] p2) env)
      standAt p3.atName
      let (f, first) ← holding [ov] (getMethod ov "__init__" pl)
      callWith p5 f first (backTo p5 (starEach [.Name d.p p4] env)) [])) ∧
    ∀ env : Env, swapsWith (.Name d.p p9) (some (.Attribute (.Name "self" p7) d.f p8)) p10.line env = pure false
  hb : ∀ (fd : FuncData) (us : List Value), fd.params = defArgs d.st → fd.defaults = .none → us.length = 2 → bindArgs fd ⟨us, []⟩ = pure ([("self" : Str), d.p].zip us)
def clsB (K : Frag) (x f : Str) : Bool :=
  oexB K (ga K x) && (cvB K (ga K x) && (eqO (findIn K (.ref (ga K x)) f) (some none) && (decide (subIn K (.ref (ga K x)) (.type "ValueError") = some true) && (decide (mroIn K (ga K x) (.ref (ga K x)) = some true) &&
  (eqO (nsIn K cStatics "thirdparty.any") (some none) && (eqO (nsIn K mainGlobals "super") (some none) && (eqO (findIn K (.ref (ga K x)) "__init__") (some (some (.ref (iA K x)))) && (decide (typeIn K (.ref (iA K x)) = some (.type "function")) &&
  (eqO (findIn K (.ref (ga K x)) "__setattr__") (some (some (.builtin "object.__setattr__"))) && (decide (subIn K (.ref (ga K x)) (.type "BaseException") = some true) && (decide (typeIn K (.ref (ga K x)) = some (.type "type")) && (keepIn K (.ref (ga K x)) && eqO (nsIn K mainGlobals x) (some (some (.ref (ga K x))))))))))))))))
theorem cellB_ok {K : Frag} {C : Addr} {cl : List (Str × Addr)} (h : cellB K C cl = true) : ∃ cc a b c, cl = [(("__class__" : Str), cc)] ∧ K.lookup cc = some ⟨a, b, .cell (some (.ref C)), c⟩ := by
  unfold cellB at h
  split at h
  · rename_i c cc
    obtain ⟨h1, h2⟩ := ba h
    split at h2
    · rename_i a b C' sl e
      have e1 := of_decide_eq_true h1
      have e2 := of_decide_eq_true h2
      subst e1 e2
      exact ⟨cc, _, _, _, rfl, e⟩
    · cases h2
  · cases h
theorem fileB_ok {K : Frag} {file : Str} {cd : Value} (h : fileB K file cd = true) : ∃ cda ccl cdd vs ccs fl tf, cd = .ref cda ∧ K.lookup cda = some ⟨ccl, cdd, .fields vs, ccs⟩ ∧ vs[2]? = some (.str fl tf) ∧ (file == fl) = true := by
  unfold fileB at h
  split at h
  · rename_i cda
    split at h
    · rename_i a b vs c e
      split at h
      · rename_i fl tf e2
        exact ⟨cda, a, b, vs, c, fl, tf, rfl, e, e2, h⟩
      · cases h
    · cases h
  · cases h
theorem exi_of {P : Program} {R : RC} {d : XiD} {base : Heap} (X : R.K.In base) (G : base.Ns mainGlobals R.mg) (ok : XiOk P d) (h0 : fnI R.K d.x = d.val) (h1 : initB P.main.file R.K d.x = true) (h2 : clsB R.K d.x d.f = true) : ∃ C fI cc cda fd, ExiAt P R d.x d.p d.f C fI cc cda fd := by
  unfold clsB at h2
  obtain ⟨a1, h2⟩ := ba h2
  obtain ⟨a2, h2⟩ := ba h2
  obtain ⟨a3, h2⟩ := ba h2
  obtain ⟨a4, h2⟩ := ba h2
  obtain ⟨a5, h2⟩ := ba h2
  obtain ⟨a6, h2⟩ := ba h2
  obtain ⟨a7, h2⟩ := ba h2
  obtain ⟨a8, h2⟩ := ba h2
  obtain ⟨a9, h2⟩ := ba h2
  obtain ⟨a10, h2⟩ := ba h2
  obtain ⟨a11, h2⟩ := ba h2
  obtain ⟨a12, h2⟩ := ba h2
  obtain ⟨a13, a14⟩ := ba h2
  unfold initB at h1
  unfold fnI XiD.val at h0
  cases q : R.K.lookup (iA R.K d.x) with
  | none =>
    rw [q] at h1
    cases h1
  | some o =>
    obtain ⟨oc, od, dt, osl⟩ := o
    rw [q] at h1 h0
    cases dt with
    | func fd =>
      dsimp only at h1 h0
      obtain ⟨b1, h1⟩ := ba h1
      obtain ⟨b2, h1⟩ := ba h1
      obtain ⟨b3, b4⟩ := ba h1
      obtain ⟨cc, ca, cb, csl, e1, e2⟩ := cellB_ok b4
      obtain ⟨cda, ccl, cdd, vs, ccs, fl, tf, f1, f2, f3, f4⟩ := fileB_ok b2
      have hd0 : fd.defaults = .none := by
        cases z : fd.defaults <;> rw [z] at b3 <;> first | rfl | cases b3
      simp only [Option.some.injEq, Prod.mk.injEq] at h0
      obtain ⟨g1, g2, g3, g4, g5⟩ := h0
      obtain ⟨p1, p2, p3, p4, p5, p6, p7, p8, p9, p10, k1, k2, k3⟩ := ok.body
      have hcv : ∃ cd, clsIn R.K (ga R.K d.x) = some cd ∧ cd.hasDict = true ∧ PySem.HandSPX.refsVE cd.mro = true ∧ alongIn R.K "__init__" ((cd.mro.dropWhile (· != .ref (ga R.K d.x))).drop 1) = some (some (.builtin "ValueError.__init__")) := by
        unfold cvB at a2
        cases z : clsIn R.K (ga R.K d.x) with
        | none => rw [z] at a2; cases a2
        | some cd =>
          rw [z] at a2
          obtain ⟨c1, c2⟩ := ba a2
          obtain ⟨c3, c4⟩ := ba c2
          exact ⟨cd, rfl, c1, c3, He.eqO_ok c4⟩
      refine ⟨ga R.K d.x, iA R.K d.x, cc, cda, fd, PySem.W.mg_of X G (He.eqO_ok a14), ?_, He.eqO_ok a8, of_decide_eq_true a9, Binds.all fun us hl => ok.hb fd us g1 hd0 hl⟩
      exact {
        ox := ⟨oexB_ok a1, He.eqO_ok a10, of_decide_eq_true a11, of_decide_eq_true a12, a13⟩
        cv := hcv
        no := He.eqO_ok a3
        subV := of_decide_eq_true a4
        subC := of_decide_eq_true a5
        op := He.eqO_ok a6
        sup := He.eqO_ok a7
        fn := ⟨_, _, _, q⟩
        cell := ⟨_, _, _, e2⟩
        code := ⟨_, _, vs, _, fl, tf, f2, f3, f4⟩
        hcd := b1
        fcode := f1
        top := ok.top
        clo := e1
        gl := g4
        bl := g5
        sc := by rw [g3]; exact ok.sc
        ks := by rw [g3]; exact ok.ks
        hd := by rw [g1]; exact ok.hd
        ps := ok.ps
        pd := ok.pd
        body := ⟨p1, p2, p3, p4, p5, p6, p7, p8, p9, p10, by rw [g2, k1], k2, k3⟩ }
    | _ => cases h1
/-! ### the facts of a law's names -/
/-- more of the text: the exceptions' names, the fields that are read, the file's name, the classes' own __init__s -/
structure HeadX where
  exn : List Str
  flds : List (Str × Str)
  file : Str
  xi : List XiD
def xkB (K : Frag) (C : Addr) : Bool :=
  (clsIn K C).isSome && (eqO (findIn K (.ref C) "__getattribute__") (some (some (.builtin "BaseException.__getattribute__"))) && (eqO (findIn K (.ref C) "__getattr__") (some none) && (decide (subIn K (.ref C) (.type "BaseException") = some true) &&
  (eqO (findIn K (.ref C) "__class__") (some (some (.builtin "object.__class__"))) && (eqO (PySem.W.specialIn K (.builtin "object.__class__") "__get__") (some (some (.builtin "getset_descriptor.__get__"))) && (decide (PySem.W.takesIn K (.builtin "object.__class__") = some true) && decide (mroIn K C (.type "object") = some true)))))))
theorem xkB_ok {K : Frag} {C : Addr} (h : xkB K C = true) : XkC K C := by
  unfold xkB at h
  obtain ⟨a1, h⟩ := ba h
  obtain ⟨a2, h⟩ := ba h
  obtain ⟨a3, h⟩ := ba h
  obtain ⟨a4, h⟩ := ba h
  obtain ⟨a5, h⟩ := ba h
  obtain ⟨a6, h⟩ := ba h
  obtain ⟨a7, a8⟩ := ba h
  exact ⟨a1, He.eqO_ok a2, He.eqO_ok a3, of_decide_eq_true a4, He.eqO_ok a5, He.eqO_ok a6, of_decide_eq_true a7, of_decide_eq_true a8⟩
def gloB (K : Frag) (x : Str) : Bool := eqO (nsIn K mainGlobals x) (some (some (.ref (ga K x))))
def CV.okB (K : Frag) (x : Str) : CV → Bool
  | .int i => (Fa.int x i).ok K
  | .str z => (Fa.str x z).ok K
  | .tup vs => gloB K x && He.tupB K x (vs.map He.Dv.int)
def xpB (c : Cfg) (K : Frag) (k k' : Str) : Bool := match c.subs k k' with
  | some b => decide (PySem.W.kitOne K (.ref (ga K k)) (.ref (ga K k')) = some b)
  | none => true
def exnB (c : Cfg) (e : HeadX) (K : Frag) (k : Str) : Bool := gloB K k && (xkB K (ga K k) && (e.exn.all (xpB c K k) && decide (PySem.W.exmOne K (.ref (ga K k)) (.ref (ga K "TeachError")) = some true)))
def fldB (K : Frag) (q : Str × Str) : Bool := gloB K q.2 && (xfB K (ga K q.2) && eqO (findIn K (.ref (ga K q.2)) q.1) (some none))
def placeB (K : Frag) : Bool := (K.lookup cStatics).isSome && ((K.lookup sysModules).isSome && ((K.lookup builtinsNs).isSome && ((K.lookup mainGlobals).isSome && (gloB K "__builtins__" && (K.lookup (ga K "__builtins__")).isSome))))
def exOf (c : Cfg) (e : HeadX) (K : Frag) : Bool :=
  placeB K && (gloB K "TeachError" && ((c.imps.all fun q => eqO (nsIn K mainGlobals q.1) (some (some (.builtin q.2)))) && ((c.consts.all fun q => q.2.okB K q.1) && (e.exn.all (exnB c e K) && (e.flds.all (fldB K) && ((e.xi.all fun d => initB e.file K d.x && clsB K d.x d.f) &&
  (c.lamq.all fun x => c.lamq.all fun y => decide ((cT K (x, none)).2 = (cT K (y, none)).2 → x = y))))))))
def faOf (c : Cfg) (e : HeadX) : List Fa := c.free.map Fa.free ++ (c.fns.map (fun q => Fa.glo q.1) ++ (c.excs.map Fa.glo ++ c.excs.map Fa.exc))
def dfOf (c : Cfg) : List DefD := c.fns.map fun q => ⟨(q.1, none), q.1, q.1, defArgs (c.top q.2), defBody (c.top q.2), defScope (c.top q.2), [], []⟩
def tfOf (c : Cfg) : List Defn := c.lamq.map fun x => (x, none)
def TOf (c : Cfg) (K : Frag) : List (Addr × Str) := c.lamq.map fun x => ((cT K (x, none)).2, (x ++ ".<locals>.") ++ "<lambda>")
/-! ### the Hook -/
structure SaysM (c : Cfg) (e : HeadX) (h : Heap) (K : Frag) : Prop where
  d : SaysD (faOf c e) (dfOf c) K
  xi : e.xi.map (fun d => fnI K d.x) = e.xi.map XiD.val
  more : exOf c e K = true
  hd : ∀ p ∈ tfOf c, PySem.W.codeHdIn K (cT K p).1 (cT K p).2 = true
  out : ∀ p ∈ tfOf c, K.lookup (cT K p).2 = none
  empty : ∀ p ∈ tfOf c, h.get? (cT K p).2 = some { cls := .none, data := .fields #[] }
  nolist : ∀ a o, K.lookup a = some o → o.cls ≠ .type "list"
abbrev AlM : Type := He.AlD × List FnI × Bool
def obsM (n : Nat) (c : Cfg) (e : HeadX) (g : Addr → Option Obj) : AlM := (obsD (faOf c e) (dfOf c) (frM g (asM g n)), e.xi.map (fun d => fnI (frM g (asM g n)) d.x), exOf c e (frM g (asM g n)) && He.tabsB g (tfOf c) (frM g (asM g n)))
def valM (c : Cfg) (e : HeadX) : AlM := (valD (dfOf c), e.xi.map XiD.val, true)
theorem saysM_of {n : Nat} {c : Cfg} {e : HeadX} {h : Heap} (q : obsM n c e h.get? = valM c e) : SaysM c e h (frM h.get? (asM h.get? n)) := by
  have e1 := congrArg (fun z : AlM => z.1) q
  have e2 := congrArg (fun z : AlM => z.2.1) q
  have e3 : (exOf c e (frM h.get? (asM h.get? n)) && He.tabsB h.get? (tfOf c) (frM h.get? (asM h.get? n))) = true := congrArg (fun z : AlM => z.2.2) q
  obtain ⟨h1, h2⟩ := ba e3
  have key : ∀ p ∈ tfOf c, PySem.W.codeHdIn (frM h.get? (asM h.get? n)) (cT (frM h.get? (asM h.get? n)) p).1 (cT (frM h.get? (asM h.get? n)) p).2 = true ∧ ∃ o, h.get? (cT (frM h.get? (asM h.get? n)) p).2 = some o ∧ emptyTab o = true := fun p hp => by
    obtain ⟨h3, h4⟩ := ba (List.all_eq_true.mp h2 p hp)
    refine ⟨h3, ?_⟩
    split at h4
    · rename_i o z
      exact ⟨o, z, h4⟩
    · cases h4
  refine ⟨e1, e2, h1, fun p hp => (key p hp).1, fun p hp => ?_, fun p hp => ?_, fun a o z y => ?_⟩
  · obtain ⟨_, o, z1, z2⟩ := key p hp
    exact frM_none z1 z2
  · obtain ⟨_, o, z1, z2⟩ := key p hp
    rw [z1, He.emptyTab_eq z2]
  · have z2 := (frM_mem z).2.2
    unfold noList at z2
    rw [y] at z2
    exact absurd z2 (by decide)
def hookM (n : Nat) (c : Cfg) (e : HeadX) : PySem.W.Hook where
  α := AlM
  obs := fun s => obsM n c e s.heap.get?
  val := fun _ => valM c e
  says := fun _ h => ∃ K : Frag, K.In h ∧ SaysM c e h K
  of := fun _ _ q => ⟨_, frM_in, saysM_of q⟩
  keeps := fun _ _ _ ⟨K, hK, s⟩ k => ⟨K, Frag.In.keeps hK k, ⟨s.d, s.xi, s.more, s.hd, s.out, fun p hp => k _ _ (s.empty p hp), s.nolist⟩⟩
theorem obsM_eq {n : Nat} {c : Cfg} {e : HeadX} {g : Addr → Option Obj} {s : Shared} (h : ∀ a, g a = s.heap.get? a) : obsM n c e g = (hookM n c e).obs s := by
  have q : g = s.heap.get? := funext h
  rw [q] <;> rfl
/-! ### what the facts give -/
def R0 (c : Cfg) (K : Frag) (mg : Str → Option Value) : RC := ⟨K, mg, fun _ _ _ => none, "", fun C d a => ExT (.ref C) d a, TOf c K⟩
/-- what the text itself says -/
structure HeadOk (c : Cfg) (e : HeadX) (P : Program) : Prop where
  subs : ∀ k k' b, c.subs k k' = some b → k ∈ e.exn ∧ k' ∈ e.exn
  fok : ∀ f x, c.fok f x = true → (f, x) ∈ e.flds
  teach : ∀ x, c.teach x = true → x ∈ e.exn
  xi : ∀ (i : Nat) (x p f : Str), c.exis[i]? = some (x, p, f) → ∃ d ∈ e.xi, d.x = x ∧ d.p = p ∧ d.f = f
  xok : ∀ d ∈ e.xi, XiOk P d
  file : P.main.file = e.file
  tree : P.given.tree = none
theorem ns_move {h base : Heap} {K : Frag} {a : Addr} {m : Str → Option Value} (X : K.In h) (Y : K.In base) (k : (K.lookup a).isSome = true) (n : h.Ns a m) : base.Ns a m := by
  obtain ⟨o, es, ep, e, r⟩ := n
  obtain ⟨u, hu⟩ := Option.isSome_iff_exists.mp k
  have e2 := X a u hu
  rw [e] at e2
  cases e2
  exact ⟨o, es, ep, Y a o hu, r⟩
theorem gloB_ok {K : Frag} {h : Heap} {mg : Str → Option Value} (X : K.In h) (G : h.Ns mainGlobals mg) {x : Str} (b : gloB K x = true) : mg x = some (.ref (ga K x)) := PySem.W.mg_of X G (He.eqO_ok b)
theorem seer_move {h base : Heap} {K : Frag} {mg : Str → Option Value} (X : K.In h) (Y : K.In base) (G : h.Ns mainGlobals mg) (k : placeB K = true) (n : h.NoSeer) : base.NoSeer := by
  unfold placeB at k
  obtain ⟨a1, k⟩ := ba k
  obtain ⟨a2, k⟩ := ba k
  obtain ⟨a3, k⟩ := ba k
  obtain ⟨a4, k⟩ := ba k
  obtain ⟨a5, a6⟩ := ba k
  refine ⟨?_, ?_, ?_, ?_⟩
  · obtain ⟨mc, z, r⟩ := n.statics
    exact ⟨mc, ns_move X Y a1 z, r⟩
  · obtain ⟨mc, z, r⟩ := n.mods
    exact ⟨mc, ns_move X Y a2 z, r⟩
  · obtain ⟨mc, z, r⟩ := n.imp
    exact ⟨mc, ns_move X Y a3 z, r⟩
  · obtain ⟨mg', bm, ob, z, z2, z3, r⟩ := n.main
    have e := gloB_ok X z a5
    rw [z2] at e
    cases e
    obtain ⟨u, hu⟩ := Option.isSome_iff_exists.mp a6
    have e2 := X _ u hu
    rw [z3] at e2
    cases e2
    exact ⟨mg', _, ob, ns_move X Y a4 z, z2, Y _ _ hu, r⟩
section
variable {c : Cfg} {e : HeadX} {P : Program} {w : World} {h base : Heap} {K : Frag} {mg : Str → Option Value}
theorem SaysM.fn (s : SaysM c e h K) {x : Str} {n : Nat} (hx : (x, n) ∈ c.fns) : ∃ fd, FunD K x x (defArgs (c.top n)) (defBody (c.top n)) (defScope (c.top n)) [] [] (ga K x) fd :=
  He.SaysD.defs s.d (d := ⟨(x, none), x, x, defArgs (c.top n), defBody (c.top n), defScope (c.top n), [], []⟩) (List.mem_map.mpr ⟨(x, n), hx, rfl⟩)
theorem fun_of {x : Str} {st : Stmt} {f : Addr} {fd : FuncData} (F : FunD K x x (defArgs st) (defBody st) (defScope st) [] [] f fd) : Fun K x x st f fd := by
  obtain ⟨oc, od, dV, kV, doc, pm, an, cdv, ct, osl, e1, e2, e3, e4, e5⟩ := F.ex
  rcases e4 with ⟨_, e6⟩ | ⟨e6, _⟩
  · subst e6
    exact ⟨⟨oc, od, kV, doc, pm, an, cdv, ct, osl, e1, e2, e3⟩, F.kp⟩
  · exact (e6 rfl).elim
theorem ev_of (s : SaysM c e h K) (ok : HeadOk c e P) (Y : K.In base) (G : base.Ns mainGlobals mg) (sd : base.NoSeer) (TB : ∀ p ∈ tfOf c, TabB base mg (cT K p).1 (cT K p).2) : Ev c P w base (R0 c K mg) := by
  have m := s.more
  unfold exOf at m
  obtain ⟨a1, m⟩ := ba m
  obtain ⟨a2, m⟩ := ba m
  obtain ⟨a3, m⟩ := ba m
  obtain ⟨a4, m⟩ := ba m
  obtain ⟨a5, m⟩ := ba m
  obtain ⟨a6, m⟩ := ba m
  obtain ⟨a7, a8⟩ := ba m
  have exn : ∀ k ∈ e.exn, mg k = some (.ref (ga K k)) ∧ XkC K (ga K k) ∧ (∀ k' ∈ e.exn, xpB c K k k' = true) ∧ PySem.W.exmOne K (.ref (ga K k)) (.ref (ga K "TeachError")) = some true := fun k hk => by
    obtain ⟨b1, z⟩ := ba (List.all_eq_true.mp a5 k hk)
    obtain ⟨b2, z⟩ := ba z
    obtain ⟨b3, b4⟩ := ba z
    exact ⟨gloB_ok Y G b1, xkB_ok b2, fun k' hk' => List.all_eq_true.mp b3 k' hk', of_decide_eq_true b4⟩
  refine {
    B := ⟨⟨fun i a c' o z => (by cases z), fun C d a ps z => (by cases z)⟩, sd, ok.tree⟩
    eo := fun C d a => rfl
    free := fun i x hi => ?_
    imps := fun i x id hi => ?_
    fns := fun i x n hi => ?_
    consts := fun i x v hi => ?_
    excs := fun i x hi => ?_
    exis := fun i x p f hi => ?_
    xs := ⟨fun k k' C C' b hb hC hC' => ?_, fun k k' C b hb hC => ?_, fun C d a => rfl⟩
    fld := fun f x C hf hC => ?_
    teach := ⟨ga K "TeachError", gloB_ok Y G a2, fun x C hx hC => ?_⟩
    lams := fun i x n f fd hi hn hf Fu => ?_ }
  · exact He.free_ok Y G (x := x) (He.SaysD.facts s.d (List.mem_append_left _ (List.mem_map.mpr ⟨x, List.mem_of_getElem? hi, rfl⟩)))
  · have z := List.all_eq_true.mp a3 _ (List.mem_of_getElem? hi)
    exact PySem.W.mg_of Y G (He.eqO_ok z)
  · obtain ⟨fd, F⟩ := s.fn (List.mem_of_getElem? hi)
    have z : (Fa.glo x) ∈ faOf c e := List.mem_append_right _ (List.mem_append_left _ (List.mem_map.mpr ⟨(x, n), List.mem_of_getElem? hi, rfl⟩))
    exact ⟨_, fd, He.glo_ok Y G (He.SaysD.facts s.d z), fun_of F⟩
  · have z := List.all_eq_true.mp a4 _ (List.mem_of_getElem? hi)
    dsimp only at z
    cases v with
    | int j => exact He.int_ok Y G z
    | str y => exact He.str_ok Y G z
    | tup vs =>
      obtain ⟨z1, z2⟩ := ba z
      rcases He.tupB_ok z2 (fun _ => none) with q | ⟨o, its, n, q1, q2, q3, q4, q5⟩
      · rcases q with q | ⟨o, q⟩ <;> cases q
      · rw [List.map_map] at q5
        exact ⟨ga K x, o, its, n, gloB_ok Y G z1, q1, q2, q3, q4, q5⟩
  · have z1 : (Fa.glo x) ∈ faOf c e := List.mem_append_right _ (List.mem_append_right _ (List.mem_append_left _ (List.mem_map.mpr ⟨x, List.mem_of_getElem? hi, rfl⟩)))
    have z2 : (Fa.exc x) ∈ faOf c e := List.mem_append_right _ (List.mem_append_right _ (List.mem_append_right _ (List.mem_map.mpr ⟨x, List.mem_of_getElem? hi, rfl⟩)))
    obtain ⟨q1, q2, q3, q4⟩ := He.exc_ok (He.SaysD.facts s.d z2)
    exact ⟨_, He.glo_ok Y G (He.SaysD.facts s.d z1), q1, q2, q3, q4⟩
  · obtain ⟨d, hd, rfl, rfl, rfl⟩ := ok.xi i x p f hi
    obtain ⟨z1, z2⟩ := ba (List.all_eq_true.mp a7 d hd)
    obtain ⟨j, hj, ej⟩ := List.mem_iff_getElem.mp hd
    have z3 := congrArg (fun l : List FnI => l[j]?) s.xi
    simp only [List.getElem?_map, List.getElem?_eq_getElem hj, Option.map_some, Option.some.injEq, ej] at z3
    exact exi_of (R := R0 c K mg) Y G (ok.xok d hd) z3 (by rw [ok.file]; exact z1) z2
  · obtain ⟨h1, h2⟩ := ok.subs k k' b hb
    have z := (exn k h1).2.2.1 k' h2
    unfold xpB at z
    rw [hb] at z
    have e1 := (exn k h1).1.symm.trans hC
    have e2 := (exn k' h2).1.symm.trans hC'
    cases e1
    cases e2
    exact of_decide_eq_true z
  · obtain ⟨h1, h2⟩ := ok.subs k k' b hb
    have e1 := (exn k h1).1.symm.trans hC
    cases e1
    exact (exn k h1).2.1
  · obtain ⟨z1, z2⟩ := ba (List.all_eq_true.mp a6 _ (ok.fok f x hf))
    obtain ⟨z3, z4⟩ := ba z2
    have e1 := (gloB_ok Y G z1).symm.trans hC
    cases e1
    exact ⟨xfB_ok z3, He.eqO_ok z4⟩
  · have e1 := (exn x (ok.teach x hx)).1.symm.trans hC
    cases e1
    exact (exn x (ok.teach x hx)).2.2.2
  · have hx : x ∈ c.lamq := List.mem_of_getElem? hi
    have hp : ((x, none) : Defn) ∈ tfOf c := List.mem_map.mpr ⟨x, hx, rfl⟩
    obtain ⟨j, hj⟩ := hn
    have z : (Fa.glo x) ∈ faOf c e := List.mem_append_right _ (List.mem_append_left _ (List.mem_map.mpr ⟨(x, n), List.mem_of_getElem? hj, rfl⟩))
    have e1 := (He.glo_ok Y G (He.SaysD.facts s.d z)).symm.trans hf
    cases e1
    obtain ⟨oc, od, kV, doc, pm, an, cdv, ct, osl, g1, g2, g3⟩ := Fu.ex
    obtain ⟨cd, hcd⟩ := He.codeIn_ref g3
    have hc : fd.code = .ref cd := by rw [g1]; exact hcd
    have hco : He.codeOf K (x, none) = cd := He.codeOf_eq (p := (x, none)) g2 hc
    have T := TB _ hp
    have e2 : (cT K (x, none)).1 = cd := hco
    rw [e2] at T
    refine ⟨cd, (cT K (x, none)).2, hc, T, List.mem_map.mpr ⟨x, hx, rfl⟩, fun p hp' e3 => ?_⟩
    obtain ⟨y, hy, rfl⟩ := List.mem_map.mp hp'
    have z4 := of_decide_eq_true (List.all_eq_true.mp (List.all_eq_true.mp a8 y hy) x hx) e3
    rw [z4]
end
end TL
end
section
/-! The data layer: the end: a law's promise from its data function. -/
namespace TL
open PySem PySem.Spec PyProof.Rows L2
open LamX (Tabs CodeO TabB)
open He (cT ga)
theorem hr_start {c : Cfg} {K : PySem.W.Frag} {mg : Str → Option Value} {H : Hp} (h : ∀ p ∈ (tfOf c).map (cT K), H p.2 = some (.tbl #[])) : HR (R0 c K mg) ⟨[], none, []⟩ H ⟨[], none⟩ where
  nd := List.nodup_nil
  len := rfl
  obj := fun n a o z => by simp at z
  dr := rfl
  tm := fun a ha => by simp at ha
  tb := fun p hp => by
    obtain ⟨x, hx, rfl⟩ := List.mem_map.mp hp
    refine ⟨#[], h _ (List.mem_map.mpr ⟨(x, none), List.mem_map.mpr ⟨x, hx, rfl⟩, rfl⟩), trivial, fun pos cv z => ?_⟩
    cases z
theorem repAll_ints {R : RC} {S : Sto} {H : Hp} : ∀ ns : List Int, RepAll R S H (ns.map V.int) (ns.map D.int)
  | [] => .nil
  | n :: ns => .cons (.int n) (repAll_ints ns)
theorem walkM {c : Cfg} {e : HeadX} {l : PySem.W.OpenLaw} {n k nn nl : Nat} {q : Program} {loose : List Str} {XP : (Str → Option Value) → Heap → Prop} {d : DefRec} {F : List D → M D} {x : Str}
    (hn : l.most = some n) (hn2 : n ≤ sizeLine) (hdf : d.params.defaults = []) (hr : Room k callerA) (hi : importsNone q = true) (hd : d.name = ("law" : Str)) (ok : HeadOk c e l.prog) (hlaw : (("law" : Str), nl) ∈ c.fns)
    (hbind : ∀ (kV doc pm : Value) (an : Option Addr) (cdv ct : Value) (us : List Value), us.length = 1 → bindArgs (PySem.W.fnOf "law" "law" (defArgs (c.top nl)) (defBody (c.top nl)) (defScope (c.top nl)) .none kV doc pm an cdv ct) ⟨us, []⟩ = pure ([x].zip us))
    (dl : ∀ (w : World) (base : Heap) (R : RC), Ev c l.prog w base R → (∀ i f c, R.clo i f c = none) → FnD l.prog w base R "law" k [x] (c.top nl) F)
    (hl : ∀ (ns : List Int) (s : D), ns.length ≤ n → (∀ z ∈ ns, Builtin.Int.intBits z ≤ 1048576) → (s = .scr ns ∨ s = .lst (ns.map D.int)) → wp (F [s] ⟨[], none⟩) fun v _ => v = .bl true) :
    PySem.W.WalkO q loose XP (hookM nn c e).says l.row.toRowW d [] (fun f vs => PySem.call f vs) := by
  refine Att.attach_callB hn hdf fun w s₀ s₁ mg mb fa o pm cd doc a vs ns G Y ho hdd hcd hmg hobj hints hlen hbits hg => ?_
  obtain ⟨K, KX, says⟩ := Y
  have pl : placeB K = true := by
    have m := says.more
    unfold exOf at m
    exact (He.ba m).1
  obtain ⟨fd, FD⟩ := says.fn hlaw
  have hfa : mg ("law" : Str) = some (.ref fa) := by
    rw [← hd]
    exact hmg
  obtain ⟨oc, od, dV, kV, doc', pm', an, cdv, ct, osl, g1, g2, g3, g4, g5⟩ := FD.ex
  have mem : ∀ p ∈ (tfOf c).map (cT K), ∃ r ∈ tfOf c, cT K r = p := fun p hp => by
    obtain ⟨r, hr', e'⟩ := List.mem_map.mp hp
    exact ⟨r, hr', e'⟩
  refine LamX.law_callTs (CX := L2.CX l.prog w) (k := k) (fd := fd) (x := x) (sp := spD (R0 c K mg) 1 F) (cs := (tfOf c).map (cT K)) KX G.T.g G.T.b G.T.builtins G.T.nolimit hg ?hT ?nT ?hC G.T.bmain hobj hints (Nat.le_trans hlen hn2) hr ?hF ?hb ?hsp ?hCX
  case hT =>
    intro p hp
    obtain ⟨r, h1, rfl⟩ := mem p hp
    exact says.empty r h1
  case nT =>
    intro p hp
    obtain ⟨r, h1, rfl⟩ := mem p hp
    exact says.out r h1
  case hC =>
    intro p hp
    obtain ⟨r, h1, rfl⟩ := mem p hp
    exact PySem.W.codeHd_of_K KX (says.hd r h1)
  case hF =>
    intro base Kb Gb TB
    have V : Ev c l.prog w base (R0 c K mg) := ev_of says ok Kb Gb (seer_move KX Kb G.T.g pl (G.T.seer hi)) fun p hp => TB _ (List.mem_map.mpr ⟨p, hp, rfl⟩)
    obtain ⟨f', fd', h1, h2, h3, h4⟩ := (dl w base (R0 c K mg) V (fun _ _ _ => rfl)).ex
    have e1 := hfa.symm.trans h2
    cases e1
    obtain ⟨oc', od', kV', doc2, pm2, an2, cdv2, ct2, osl2, j1, j2, j3⟩ := h3.ex
    have e2 : fa = ga K "law" := by
      have z : (He.Fa.glo "law") ∈ faOf c e := List.mem_append_right _ (List.mem_append_left _ (List.mem_map.mpr ⟨_, hlaw, rfl⟩))
      have z2 := He.glo_ok KX G.T.g (He.SaysD.facts says.d z)
      have e3 := hfa.symm.trans z2
      cases e3
      rfl
    have e4 : fd' = fd := by
      have j2' : K.lookup fa = _ := j2
      rw [e2, g2] at j2'
      cases j2'
      rfl
    subst e4
    exact h1
  case hb =>
    intro s u
    exact FunD.bindsA (ps := [x]) FD hbind s [u] rfl
  case hsp =>
    intro H hH hS
    refine ⟨rfl, ⟨[], none, []⟩, ⟨[], none⟩, ?_⟩
    have fin : ∀ s : D, (s = .scr ns ∨ s = .lst (ns.map D.int)) → Rep (R0 c K mg) ⟨[], none, []⟩ H (.ref a) s → ∃ ds, HR (R0 c K mg) ⟨[], none, []⟩ H ⟨[], none⟩ ∧ RepAll (R0 c K mg) ⟨[], none, []⟩ H [.ref a] ds ∧ RoutG (R0 c K mg) ⟨[], none, []⟩ H (fun _ _ _ => False) (PV (R0 c K mg) fun v _ => v = .bl true) (F ds ⟨[], none⟩) := fun s hs hr' => by
      refine ⟨[s], hr_start hH, .cons hr' .nil, ?_⟩
      have z := hl ns s hlen hbits hs
      cases q2 : F [s] ⟨[], none⟩ with
      | ok v m' =>
        rw [q2] at z
        have z' : v = .bl true := z
        subst z'
        intro H' S' _ _ v' rv
        cases rv
        rfl
      | _ => rw [q2] at z; exact z.elim
    rcases hS with q1 | ⟨o', its, m', q1, q2, _⟩
    · rcases q1 with q1 | ⟨o', q1⟩
      · exact fin _ (.inr rfl) (.lst ⟨q1, by simp [Sto.mut, Sto.rest, Sto.drs]⟩ (repAll_ints ns))
      · exact fin _ (.inl rfl) (.scr q1 (by simp [Sto.mut, Sto.rest, Sto.drs]))
    · exact (says.nolist _ _ q1 q2).elim
  case hCX =>
    intro H e' s' z
    obtain ⟨_, _, _, _, _, _, _, _, _, _, _, _, z⟩ := z
    exact z
end TL
end
section
/-! The head of a program that begins with imports: boot, imports and top run in the kernel over the heap as a tree. -/
noncomputable section
namespace TL
open PySem PySem.W PySem.Calls PyProof.Rows HandSHeadRun
/-- the opening, to its end -/
def impF (st : SharedT → Thread → Option (SharedT × Thread)) : Nat → SharedT → Thread → Option SharedT
  | 0, _, _ => none
  | m + 1, s, t => match t.atExitBegin with
    | some [] => some s
    | some (_ :: _) => none
    | none => match st s t with
      | some (s', t') => frS s' fun s' => impF st m s' t'
      | none => none
theorem impF_ok {tb : String → Option Builtin} {p : Program} {w : World} : ∀ {m : Nat} {s s' : SharedT} {t : Thread}, impF (stepT (denote tb) p w) m s t = some s' → importEnds tb p w m s.abs t = some s'.abs
  | 0, _, _, _, h => by cases h
  | m + 1, s, s', t, h => by
    unfold impF at h
    unfold importEnds
    cases ht : t.atExitBegin with
    | some l =>
      rw [ht] at h
      cases l with
      | nil => cases h; rfl
      | cons _ _ => cases h
    | none =>
      rw [ht] at h
      dsimp only at h ⊢
      cases hs : stepT (denote tb) p w s t with
      | none => rw [hs] at h; cases h
      | some r =>
        obtain ⟨s2, t2⟩ := r
        rw [hs] at h
        dsimp only at h
        rw [frS_eq] at h
        rw [stepT_spec hs]
        exact impF_ok h
def startT (p : Program) : SharedT := ⟨.nil, 0, {}, #[], {}, 1, (start p).1.os⟩
theorem startT_abs (p : Program) : (startT p).abs = (start p).1 := rfl
def annT (s : Shared) : Option Value := s.heap.nsMap mainGlobals "__annotations__"
def treeT (s : Shared) (t : BT) (n : Nat) : SharedT := ⟨t, n, s.heap.life, s.gens, s.drawn, s.toks, s.os⟩
theorem treeT_abs {s : Shared} {t : BT} {n : Nat} (e : putAll s.heap.objs.toList .nil 0 = some (t, n)) : (treeT s t n).abs = s := by
  show (⟨absHeap t n s.heap.life, s.gens, s.drawn, s.toks, s.os⟩ : Shared) = s
  rw [putAll_heap e]
/-- from a state, over the tree, the top -/
def topT (st : SharedT → Thread → Option (SharedT × Thread)) (p : Program) (M : Nat) (s : Shared) : Option SharedT := match putAll s.heap.objs.toList .nil 0 with
  | some (t, n) => frNat n fun n => goF st n (annT s) M (treeT s t n) (topStub p)
  | none => none
def afterImp (st : Program → SharedT → Thread → Option (SharedT × Thread)) (p : Program) (M1 M : Nat) : Option (Shared × SharedT) :=
  ((impF (st (opening p)) M1 (startT (opening p)) (start (opening p)).2).bind fun s => fenceModules? p s.abs).bind fun s0 => (topT (st p) p M s0).map fun s => (s0, s)
def RunI (r : OpenRow) (q : Program) (H : Hook) (ob : SharedT → H.α) (M1 M : Nat) (loose : List PySem.Str) (w : World) : Prop :=
  (afterImp (fun p => stepQ (denQ tabQ) p w) r.prog M1 M).map (fun z => (z.1.heap.isNs mainGlobals && (z.1.gens.size == 0 && looksF r.prog z.1.heap z.2.abs), seenQ q loose (importedModules r.prog.main.body) (fun s => xlAt q [] s && recOk r.toRowW.records s) z.2.abs, ob z.2)) = some (true, openGood q loose, H.val w)
theorem head_imp {r : OpenRow} {q : Program} {H : Hook} {ob : SharedT → H.α} {M1 M : Nat} {loose : List PySem.Str} {d : DefRec} {kwd : List (PySem.Str × PySem.Expr)} (ho : ∀ s : SharedT, ob s = H.obs s.abs)
    (run : ∀ w, RunI r q H ob M1 M loose w)
    (hdef : defOf q r.name = some (d, kwd)) (hp : r.prog.theDef r.name = some (d.params, d.body, d.scope)) (hk : kwWritten? d.params.kwonlyargs d.params.kw_defaults = some kwd)
    (hwr : (!r.writes || r.records.isEmpty) = true) (k1 : r.wellSaid = true) (ok : (chainsOk q && opensWell r.prog && (frees r.toRowW && r.within.isEmpty)) = true) (hb : r.prog.bare) (hw : r.toRowW.promised)
    (call : WalkO q loose (XL q []) H.says r.toRowW d kwd fun f vs => PySem.call f vs) : r.Holds := by
  have left : LeftO r.prog q loose (fun s => xlAt q [] s && recOk r.toRowW.records s) H.obs H.val (M1 + M) true := fun w => by
    have z := run w
    unfold RunI afterImp at z
    rw [← stepQ_eq, ← denQ_eq, ← tabQ_eq] at z
    cases e0 : impF (stepT (denote treeTable) (opening r.prog) w) M1 (startT (opening r.prog)) (start (opening r.prog)).2 with
    | none => rw [e0] at z; cases z
    | some si =>
      rw [e0] at z
      dsimp only [Option.bind_some] at z
      cases ef : fenceModules? r.prog si.abs with
      | none => rw [ef] at z; cases z
      | some s0 =>
        rw [ef] at z
        dsimp only [Option.bind_some] at z
        cases e1 : topT (stepT (denote treeTable) r.prog w) r.prog M s0 with
        | none => rw [e1] at z; cases z
        | some s =>
          rw [e1] at z
          have z' := Option.some.inj z
          simp only [Prod.mk.injEq, Bool.and_eq_true] at z'
          obtain ⟨⟨z1, z2, z3⟩, z4, z5⟩ := z'
          have a := importEnds_mono M _ _ _ _ (impF_ok e0)
          rw [startT_abs] at a
          have fo : fencedOpening treeTable r.prog w (M1 + M) = some s0 := by
            unfold fencedOpening
            rw [a]
            exact ef
          unfold topT at e1
          cases ep : putAll s0.heap.objs.toList .nil 0 with
          | none => rw [ep] at e1; cases e1
          | some tn =>
            obtain ⟨t, n⟩ := tn
            rw [ep] at e1
            dsimp only at e1
            rw [frNat_eq] at e1
            have b := topRun_mono M1 _ _ _ _ (goF_ok e1)
            rw [show M + M1 = M1 + M by omega, treeT_abs ep] at b
            have en : s0.heap.objs.size = n := by
              rw [← putAll_heap ep]
              exact absHeap_size _ _ _
            have tt : topFrom treeTable r.prog w (M1 + M) s0 = some s.abs := by
              unfold topFrom
              have c1 : (s0.heap.isNs mainGlobals && s0.gens.size == 0) = true := by
                rw [z1]
                exact z2
              rw [c1, en]
              show (topRun treeTable r.prog w n (annT s0) (M1 + M) s0 (topStub r.prog)).bind _ = _
              rw [b]
              show (match looksF r.prog s0.heap s.abs with | true => some s.abs | false => none) = _
              rw [z3]
            unfold openEnds
            rw [fo]
            show (topFrom treeTable r.prog w (M1 + M) s0).map _ = _
            rw [tt]
            refine congrArg some (Prod.ext ?_ ?_)
            · show openSeen q loose (importedModules r.prog.main.body) (fun s => xlAt q [] s && recOk r.toRowW.records s) true s.abs = openGood q loose
              rw [seenQ_eq]
              exact z4
            · show H.obs s.abs = _
              rw [← ho]
              exact z5
  exact holds_open (r := r) (q := q) (loose := loose) (XP := XL q []) (YP := H.says) (d := d) (kwd := kwd) left H.of H.keeps (fun s z => xl_of s (Bool.and_eq_true_iff.mp z).1) XL.keeps hdef hp hk (fun s z => recFacts_of (Bool.and_eq_true_iff.mp z).2) hwr k1 ok hb hw call
end TL
end
end
section
/-! K90: the head. -/
namespace TL
namespace K90
open PySem PySem.Spec PyProof.Rows L2
abbrev prog : Program := PySem.Challenge.pw_taughtloss_k90_lines_and_what_they_choos
abbrev law_ : PySem.W.OpenLaw := PySem.Challenge.rw_taughtloss_k90_lines_and_what_they_choos
def hx : HeadX := ⟨["BadPoint", "BadWord", "BadLines"], [], "/claim/cut.py", []⟩
theorem head_ok : HeadOk cfg hx prog where
  subs := fun k k' b h => by
    have h : subs k k' = some b := h
    unfold subs at h
    split at h
    · rename_i z
      refine ⟨?_, ?_⟩
      · rcases z.1 with e | e | e <;> simp [hx, e]
      · rcases z.2 with e | e | e <;> simp [hx, e]
    · cases h
  fok := fun f x h => by cases h
  teach := fun x h => by
    have h : teach x = true := h
    unfold teach at h
    simp only [Bool.or_eq_true, decide_eq_true_eq] at h
    rcases h with (e | e) | e <;> simp [hx, e]
  xi := fun i x p f h => by cases h
  xok := fun d hd => by cases hd
  file := rfl
  tree := rfl
abbrev Rw : PySem.W.OpenRow := PySem.W.OpenLaw.row law_
abbrev qv : Program := PySem.W.view Rw.prog [73]
theorem imp_none : importsNone qv = true := by decide +kernel
def m0 : List Str := ["gcd", "TeachError", "BadPoint", "BadWord", "BadLines", "ZERO", "is_whole", "is_ratio", "lowest", "plus", "minus", "times", "is_less", "total", "greatest_of", "MOST", "is_vector", "dot", "apart", "LETTERS", "is_word", "MOST_LINES", "MOST_PLACES", "is_line", "is_lines"]
def m1 : List Str := ["need_lines", "places_of_lines", "need_line_word", "worth_of", "greatest_words", "chosen", "limits_of", "region", "_law_begun", "_law_blended", "_law_draw", "_law_pick", "_law_caught", "_law_is_truth", "_law_same", "_law_q", "_law_plus", "_law_minus", "_law_times", "_law_over", "_law_less", "_law_sum", "_law_words", "_law_number", "_law_vector"]
def m2 : List Str := ["_law_dot", "_law_odd", "_law_ph_is_ratio", "_law_ph_is_vector", "_law_ph_keeps", "_law_ph_turned", "_law_ph_bent", "_law_ln_worths", "_law_ln_chosen", "_law_ln_limits", "_law_is_word", "_law_is_lines", "_law_lines", "_law_near", "_law_meeting", "_law_points_right", "_law_refused"]
def n1 : List Str := m0
def n2 : List Str := m1 ++ m2
def ob (s : PySem.W.SharedT) : AlM := obsM 4 cfg hx (HandSHeadRun.getT s)
theorem ob_eq (s : PySem.W.SharedT) : ob s = (hookM 4 cfg hx).obs s.abs := obsM_eq (HandSHeadRun.getT_eq s)
end K90
end TL
end
section
namespace TL
namespace K90
open PySem PySem.Spec PyProof.Rows L2
theorem run (w : World) : RunI Rw qv (hookM 4 cfg hx) ob 4000 4000 (n1 ++ n2) w := by
  unfold RunI
  kernel_rfl
end K90
end TL
end
open PySem PySem.W PySem.Calls PyProof.Rows
theorem PySem.Challenge.cw_taughtloss_k90_lines_and_what_they_choos_holds : PySem.Challenge.rw_taughtloss_k90_lines_and_what_they_choos.Holds := by
  w_on; o_law
  refine TL.head_imp (r := TL.K90.Rw) (q := TL.K90.qv) (H := TL.hookM 4 TL.K90.cfg TL.K90.hx) (ob := TL.K90.ob) (M1 := 4000) (M := 4000) (loose := TL.K90.n1 ++ TL.K90.n2) (d := HandSHeadRun.topDef TL.K90.Rw.prog 73) (kwd := []) TL.K90.ob_eq
    TL.K90.run (by kernel_rfl) (by kernel_rfl) (by kernel_rfl) (by rfl) (by first | assumption | decide +kernel) (by decide +kernel) ⟨rfl, rfl, rfl, rfl, rfl, by decide +kernel⟩ ?hw ?hc
  case hw => w_witness2
  case hc =>
    exact TL.walkM (c := TL.K90.cfg) (e := TL.K90.hx) (l := PySem.Challenge.rw_taughtloss_k90_lines_and_what_they_choos) (n := 63) (k := 54) (nl := 73) (x := "script") (F := TL.K90.F_law) rfl (by decide) (by kernel_rfl) ⟨rfl, by decide, by decide⟩ TL.K90.imp_none (by kernel_rfl) TL.K90.head_ok (by decide +kernel) (fun _ _ _ _ _ _ us hl => match us, hl with | [_], _ => rfl) (fun w base R V h0 => TL.K90.d_law V h0) TL.K90.k90_law
