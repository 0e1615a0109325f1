import PyProof.Rows.All
import Wide.All
import OpenK.AllK
import Wide.FinOn
import HandS.ForMost
import HandS.ForExc
import HandS.Walk
import HandS.Wide
import HandS.Deep
import HandS.TupAny
import HandS.TupLe
import HandS.Star
import HandS.TupMul
import HandS.IsInst
import HandS.Conv
import HandS.Style
import HandS.Flow
import HandS.Zip
import KE.GoesMore
import KE.DataMinMax
import KE.KTupSum
import PyProof.ReprRoads
import HandS.WordsExc
import HandS.Defaults
import HandS.HeadEnd
import HandS.Ends
import HandS.Dict
import HandS.SetFor
import HandS.Strs
import HandS.SortInts
import KE.KStateDown
import Lean
import HandS.Base
import HandS.Call
import HandS.More
import HandS.Words
import HandS.Head0
import HandS.Head1
import HandS.Head2
import HandS.HeadHook1
import HandS.HeadHook2
import HandS.HeadHook4
import PySem.Challenge.RW_pilerules_k03_whole_runs
set_option Elab.async false
set_option linter.all false
set_option maxRecDepth 100000
/-! Lay1: plain data D over the abstract heap; the state of an activation; what an expression, a statement is read as. -/
namespace Q
open PySem L2

/-- plain data: what a value is, without addresses; scr: a list that is read alone (the script); opq: a thing that is only handed on -/
inductive D where
  | non | bl (b : Bool) | int (i : Int) | str (x : Str) | tup (ds : List D) | lst (ds : List D) | scr (ds : List D) | opq (v : V)

/-- a list that never changes: the script, or one of the written part -/
def KL (K : PySem.W.Frag) (a : Addr) (xs : List V) : Prop := ∃ (o : Obj) (its : Array Value) (n : Nat), K.lookup a = some o ∧ o.cls = .type "list" ∧ o.dict = none ∧ o.data = .seq its n ∧ its.size ≤ sizeLine ∧ Vals xs its.toList
def Frz (K : PySem.W.Frag) (H : Hp) (a : Addr) (xs : List V) : Prop := (∃ o, H a = some (.frz o (.lst xs))) ∨ KL K a xs
theorem Frz.sq {K : PySem.W.Frag} {H : Hp} {a : Addr} {xs : List V} (h : Frz K H a xs) : SqL K H a xs := h.elim (fun h => .inl (.inr h)) .inr
mutual
/-- the value v is the data d on the heap H; each list in it lies where F is -/
inductive Rp (K : PySem.W.Frag) (H : Hp) (F : Addr → Prop) : V → D → Prop
  | non : Rp K H F .non .non
  | bl (b : Bool) : Rp K H F (.bl b) (.bl b)
  | int (i : Int) : Rp K H F (.int i) (.int i)
  | str (x : Str) : Rp K H F (.str x) (.str x)
  | opq (v : V) : Rp K H F v (.opq v)
  | tup {a : Addr} {xs : List V} {ds : List D} : SqT K H a xs → RpL K H F xs ds → Rp K H F (.ref a) (.tup ds)
  | lst {a : Addr} {xs : List V} {ds : List D} : F a → H a = some (.lst xs) → RpL K H F xs ds → Rp K H F (.ref a) (.lst ds)
  | scr {a : Addr} {xs : List V} {ds : List D} : Frz K H a xs → RpL K H F xs ds → Rp K H F (.ref a) (.scr ds)
inductive RpL (K : PySem.W.Frag) (H : Hp) (F : Addr → Prop) : List V → List D → Prop
  | nil : RpL K H F [] []
  | cons {v : V} {vs : List V} {d : D} {ds : List D} : Rp K H F v d → RpL K H F vs ds → RpL K H F (v :: vs) (d :: ds)
end

/-- one heap behind another: what may be leaned on stays -/
structure Stays (F : Addr → Prop) (H H' : Hp) : Prop where
  tup : ∀ a xs, H a = some (.tup xs) → H' a = some (.tup xs)
  frz : ∀ a o u, H a = some (.frz o u) → H' a = some (.frz o u)
  lst : ∀ a xs, F a → H a = some (.lst xs) → H' a = some (.lst xs)
theorem Stays.of {F : Addr → Prop} {H H' : Hp} (h : ∀ a o, H a = some o → H' a = some o) : Stays F H H' := ⟨fun a _ e => h a _ e, fun a _ _ e => h a _ e, fun a _ _ e => h a _ e⟩
theorem Frz.stays {K : PySem.W.Frag} {F : Addr → Prop} {H H' : Hp} {a : Addr} {xs : List V} (s : Stays F H H') (h : Frz K H a xs) : Frz K H' a xs := h.imp (fun ⟨o, h⟩ => ⟨o, s.frz _ _ _ h⟩) id
theorem sqT_stays {K : PySem.W.Frag} {F : Addr → Prop} {H H' : Hp} {a : Addr} {xs : List V} (s : Stays F H H') (h : SqT K H a xs) : SqT K H' a xs := by
  rcases h with (h | ⟨o, h⟩) | h
  · exact .inl (.inl (s.tup _ _ h))
  · exact .inl (.inr ⟨o, s.frz _ _ _ h⟩)
  · exact .inr h
mutual
theorem Rp.step {K : PySem.W.Frag} {H H' : Hp} {F F' : Addr → Prop} (s : Stays F H H') (hF : ∀ a, F a → H a ≠ none → F' a) : ∀ {v : V} {d : D}, Rp K H F v d → Rp K H' F' v d
  | _, _, .non => .non
  | _, _, .bl b => .bl b
  | _, _, .int i => .int i
  | _, _, .str x => .str x
  | _, _, .opq v => .opq v
  | _, _, .tup h r => .tup (sqT_stays s h) (RpL.step s hF r)
  | _, _, .lst f h r => .lst (hF _ f (by rw [h]; simp)) (s.lst _ _ f h) (RpL.step s hF r)
  | _, _, .scr h r => .scr (h.stays s) (RpL.step s hF r)
theorem RpL.step {K : PySem.W.Frag} {H H' : Hp} {F F' : Addr → Prop} (s : Stays F H H') (hF : ∀ a, F a → H a ≠ none → F' a) : ∀ {vs : List V} {ds : List D}, RpL K H F vs ds → RpL K H' F' vs ds
  | _, _, .nil => .nil
  | _, _, .cons h r => .cons (Rp.step s hF h) (RpL.step s hF r)
end
theorem Rp.wk {K : PySem.W.Frag} {H : Hp} {F F' : Addr → Prop} {v : V} {d : D} (h : Rp K H F v d) (hF : ∀ a, F a → H a ≠ none → F' a) : Rp K H F' v d := h.step (Stays.of fun _ _ e => e) hF
theorem RpL.wk {K : PySem.W.Frag} {H : Hp} {F F' : Addr → Prop} {v : List V} {d : List D} (h : RpL K H F v d) (hF : ∀ a, F a → H a ≠ none → F' a) : RpL K H F' v d := h.step (Stays.of fun _ _ e => e) hF
theorem RpL.length {K : PySem.W.Frag} {H : Hp} {F : Addr → Prop} : ∀ {vs : List V} {ds : List D}, RpL K H F vs ds → vs.length = ds.length
  | _, _, .nil => rfl
  | _, _, .cons _ r => congrArg (· + 1) (RpL.length r)
theorem RpL.append {K : PySem.W.Frag} {H : Hp} {F : Addr → Prop} : ∀ {vs ws : List V} {ds es : List D}, RpL K H F vs ds → RpL K H F ws es → RpL K H F (vs ++ ws) (ds ++ es)
  | _, _, _, _, .nil, s => s
  | _, _, _, _, .cons h r, s => .cons h (RpL.append r s)
theorem RpL.get {K : PySem.W.Frag} {H : Hp} {F : Addr → Prop} : ∀ {vs : List V} {ds : List D} {i : Nat} {d : D}, RpL K H F vs ds → ds[i]? = some d → ∃ v, vs[i]? = some v ∧ Rp K H F v d
  | _, _, _, _, .nil, e => by simp at e
  | _, _, 0, _, .cons h _, e => by simp at e; subst e; exact ⟨_, rfl, h⟩
  | _, _, i + 1, d, .cons _ r, e => by
    obtain ⟨v, h1, h2⟩ := RpL.get (i := i) (d := d) r (by simpa using e)
    exact ⟨v, by simpa using h1, h2⟩
theorem RpL.get' {K : PySem.W.Frag} {H : Hp} {F : Addr → Prop} : ∀ {vs : List V} {ds : List D} {i : Nat} {v : V}, RpL K H F vs ds → vs[i]? = some v → ∃ d, ds[i]? = some d ∧ Rp K H F v d
  | _, _, _, _, .nil, e => by simp at e
  | _, _, 0, _, .cons h _, e => by simp at e; subst e; exact ⟨_, rfl, h⟩
  | _, _, i + 1, d, .cons _ r, e => by
    obtain ⟨v, h1, h2⟩ := RpL.get' (i := i) (v := d) r (by simpa using e)
    exact ⟨v, by simpa using h1, h2⟩
theorem RpL.take {K : PySem.W.Frag} {H : Hp} {F : Addr → Prop} : ∀ (n : Nat) {vs : List V} {ds : List D}, RpL K H F vs ds → RpL K H F (vs.take n) (ds.take n)
  | 0, _, _, _ => .nil
  | _ + 1, _, _, .nil => .nil
  | n + 1, _, _, .cons h r => .cons h (RpL.take n r)
theorem RpL.drop {K : PySem.W.Frag} {H : Hp} {F : Addr → Prop} : ∀ (n : Nat) {vs : List V} {ds : List D}, RpL K H F vs ds → RpL K H F (vs.drop n) (ds.drop n)
  | 0, _, _, r => r
  | _ + 1, _, _, .nil => .nil
  | n + 1, _, _, .cons _ r => RpL.drop n r
theorem RpL.set {K : PySem.W.Frag} {H : Hp} {F : Addr → Prop} {v : V} {d : D} (h : Rp K H F v d) : ∀ (i : Nat) {vs : List V} {ds : List D}, RpL K H F vs ds → RpL K H F (vs.set i v) (ds.set i d)
  | _, _, _, .nil => .nil
  | 0, _, _, .cons _ r => .cons h r
  | i + 1, _, _, .cons q r => .cons q (RpL.set h i r)
theorem RpL.reverse {K : PySem.W.Frag} {H : Hp} {F : Addr → Prop} : ∀ {vs : List V} {ds : List D}, RpL K H F vs ds → RpL K H F vs.reverse ds.reverse
  | _, _, .nil => .nil
  | _, _, .cons h r => by
    rw [List.reverse_cons, List.reverse_cons]
    exact (RpL.reverse r).append (.cons h .nil)

/-- a slot of the environment: not known; a value; a list that nothing else leads to; such a one while it is walked -/
inductive Sl where
  | no | val (d : D) | own (ds : List D) | lck (ds : List D)

/-- an exception: its class's name, its fields -/
structure Exn where
  cls : Str
  flds : List (Str × D)
inductive Res (S : Type) (α : Type) where
  | ok (a : α) (s : S) | err (x : Exn) (s : S) | stuck
def Res.bind {S α β : Type} (m : Res S α) (k : α → S → Res S β) : Res S β := match m with
  | .ok a s => k a s
  | .err x s => .err x s
  | .stuck => .stuck

/-- what a kind of state is on the heap, and where it lies -/
structure StK (S : Type) where
  R : S → Hp → Prop
  A : S → Addr → Prop
  tr : ∀ {s H a}, R s H → A s a → L2.Mut (H a)
  mono : ∀ {s H H'}, R s H → (∀ a o, A s a → H a = some o → H' a = some o) → R s H'

/-- an activation: the written part, the state's kind, the heap and the state at its entry, where the lists of its arguments lie, the classes by name -/
structure Cn (S : Type) where
  K : PySem.W.Frag
  T : StK S
  H0 : Hp
  s0 : S
  F0 : Addr → Prop
  cls : Str → Option Addr
/-- where it stands: where own lists lie, what no value leads to, the slots -/
structure Pt where
  r : Nat → Addr
  Z : Addr → Prop
  ρ : List Sl
def isOwn : Sl → Option (List D)
  | .own ds => some ds
  | .lck ds => some ds
  | _ => none
def Pt.root (P : Pt) (a : Addr) : Prop := ∃ (i : Nat) (sl : Sl) (ds : List D), P.ρ[i]? = some sl ∧ isOwn sl = some ds ∧ P.r i = a

section
variable {S : Type}
/-- where the lists of values lie -/
def Fc (C : Cn S) (P : Pt) (s : S) (a : Addr) : Prop := (C.F0 a ∨ C.H0 a = none) ∧ ¬ P.root a ∧ ¬ P.Z a ∧ ¬ C.T.A s a
structure OwnOk (C : Cn S) (P : Pt) (σ : L2.St) (H : Hp) (s : S) (i : Nat) (ds : List D) : Prop where
  at_ : σ[i]? = some (some (.ref (P.r i)))
  new : C.H0 (P.r i) = none
  na : ¬ C.T.A s (P.r i)
  nz : ¬ P.Z (P.r i)
  one : ∀ j sl es, P.ρ[j]? = some sl → isOwn sl = some es → P.r j = P.r i → j = i
  is : ∃ vs, H (P.r i) = some (.lst vs) ∧ RpL C.K H (Fc C P s) vs ds
def SlotOk (C : Cn S) (P : Pt) (σ : L2.St) (H : Hp) (s : S) (i : Nat) : Sl → Prop
  | .no => True
  | .val d => ∃ v, σ[i]? = some (some v) ∧ Rp C.K H (Fc C P s) v d
  | .own ds => OwnOk C P σ H s i ds
  | .lck ds => OwnOk C P σ H s i ds
structure Rel (C : Cn S) (P : Pt) (σ : L2.St) (H : Hp) (s : S) : Prop where
  len : σ.length = P.ρ.length
  st : C.T.R s H
  frm : ∀ a o, C.H0 a = some o → ¬ C.T.A C.s0 a → H a = some o
  live : ∀ a, C.H0 a ≠ none → H a ≠ none
  grow : ∀ a, C.T.A s a → C.T.A C.s0 a ∨ C.H0 a = none
  za : ∀ a, P.Z a → C.H0 a = none ∧ H a ≠ none ∧ ¬ C.T.A s a
  slot : ∀ i sl, P.ρ[i]? = some sl → SlotOk C P σ H s i sl
theorem Rel.own {C : Cn S} {P : Pt} {σ : L2.St} {H : Hp} {s : S} (R : Rel C P σ H s) {i : Nat} {sl : Sl} {ds : List D} (h : P.ρ[i]? = some sl) (e : isOwn sl = some ds) : OwnOk C P σ H s i ds := by
  have q := R.slot i sl h
  cases sl <;> cases e <;> exact q

/-- behind an expression: all but the state stays -/
structure Xt (T : StK S) (s s' : S) (H H' : Hp) : Prop where
  keep : ∀ a o, H a = some o → ¬ T.A s a → H' a = some o
  live : ∀ a, H a ≠ none → H' a ≠ none
  grow : ∀ a, T.A s' a → T.A s a ∨ H a = none
theorem Xt.refl {T : StK S} {s : S} {H : Hp} : Xt T s s H H := ⟨fun _ _ e _ => e, fun _ h => h, fun _ h => .inl h⟩
theorem Xt.none_of {T : StK S} {s s' : S} {H H' : Hp} (x : Xt T s s' H H') {a : Addr} (h : H' a = none) : H a = none := by
  cases e : H a with
  | none => rfl
  | some o => exact absurd h (x.live a (by rw [e]; simp))
theorem Xt.trans {T : StK S} {s s1 s2 : S} {H H1 H2 : Hp} (a : Xt T s s1 H H1) (b : Xt T s1 s2 H1 H2) : Xt T s s2 H H2 := by
  refine ⟨fun x o e n => b.keep x o (a.keep x o e n) fun h => ?_, fun x h => b.live x (a.live x h), fun x h => ?_⟩
  · rcases a.grow x h with q | q
    · exact n q
    · rw [q] at e; cases e
  · rcases b.grow x h with q | q
    · exact a.grow x q
    · exact .inr (a.none_of q)
theorem Xt.new {T : StK S} {s : S} {H : Hp} {p : Addr} {o : HO} (hp : H p = none) : Xt T s s H (upd H p o) :=
  ⟨fun a u e _ => by rw [upd_ne (ne_of_none e hp)]; exact e, fun a h => by
    by_cases q : a = p
    · subst q; rw [upd_same]; simp
    · rw [upd_ne q]; exact h, fun _ h => .inl h⟩
theorem nT {T : StK S} {s : S} {H : Hp} {a : Addr} {xs : List V} (st : T.R s H) (h : H a = some (.tup xs)) : ¬ T.A s a := fun q => by
  have := T.tr st q; rw [h] at this; exact this
theorem nZ {T : StK S} {s : S} {H : Hp} {a : Addr} {o : Obj} {u : HO} (st : T.R s H) (h : H a = some (.frz o u)) : ¬ T.A s a := fun q => by
  have := T.tr st q; rw [h] at this; exact this
theorem nN {T : StK S} {s : S} {H : Hp} {a : Addr} (st : T.R s H) (h : H a = none) : ¬ T.A s a := fun q => by
  have := T.tr st q; rw [h] at this; exact this
theorem Xt.stays {T : StK S} {s s' : S} {H H' : Hp} {F : Addr → Prop} (x : Xt T s s' H H') (st : T.R s H) (hF : ∀ a, F a → ¬ T.A s a) : Stays F H H' :=
  ⟨fun a xs e => x.keep a _ e (nT st e), fun a o xs e => x.keep a _ e (nZ st e), fun a xs f e => x.keep a _ e (hF a f)⟩
theorem Xt.fc {C : Cn S} {P : Pt} {s s' : S} {H H' : Hp} (x : Xt C.T s s' H H') : ∀ a, Fc C P s a → H a ≠ none → Fc C P s' a := fun a f n =>
  ⟨f.1, f.2.1, f.2.2.1, fun q => (x.grow a q).elim f.2.2.2 n⟩
theorem Rp.xt {C : Cn S} {P : Pt} {s s' : S} {H H' : Hp} {v : V} {d : D} (h : Rp C.K H (Fc C P s) v d) (x : Xt C.T s s' H H') (st : C.T.R s H) : Rp C.K H' (Fc C P s') v d :=
  h.step (x.stays st fun _ f => f.2.2.2) x.fc
theorem RpL.xt {C : Cn S} {P : Pt} {s s' : S} {H H' : Hp} {v : List V} {d : List D} (h : RpL C.K H (Fc C P s) v d) (x : Xt C.T s s' H H') (st : C.T.R s H) : RpL C.K H' (Fc C P s') v d :=
  h.step (x.stays st fun _ f => f.2.2.2) x.fc
theorem OwnOk.xt {C : Cn S} {P : Pt} {σ : L2.St} {s s' : S} {H H' : Hp} {i : Nat} {ds : List D} (h : OwnOk C P σ H s i ds) (x : Xt C.T s s' H H') (st : C.T.R s H) : OwnOk C P σ H' s' i ds := by
  obtain ⟨vs, e, q⟩ := h.is
  refine ⟨h.at_, h.new, fun a => ?_, h.nz, h.one, vs, x.keep _ _ e h.na, q.xt x st⟩
  rcases x.grow _ a with z | z
  · exact h.na z
  · rw [e] at z; cases z
theorem Rel.xt {C : Cn S} {P : Pt} {σ : L2.St} {s s' : S} {H H' : Hp} (R : Rel C P σ H s) (x : Xt C.T s s' H H') (st' : C.T.R s' H') : Rel C P σ H' s' := by
  refine ⟨R.len, st', fun a o e n => x.keep a o (R.frm a o e n) fun q => ?_, fun a h => x.live a (R.live a h), fun a q => ?_, fun a z => ?_, fun i sl e => ?_⟩
  · rcases R.grow a q with z | z
    · exact n z
    · rw [z] at e; cases e
  · rcases x.grow a q with z | z
    · exact R.grow a z
    · right
      cases e : C.H0 a with
      | none => rfl
      | some o => exact absurd z (R.live a (by rw [e]; simp))
  · obtain ⟨z1, z2, z3⟩ := R.za a z
    exact ⟨z1, x.live a z2, fun q => (x.grow a q).elim z3 z2⟩
  · have h := R.slot i sl e
    cases sl with
    | no => trivial
    | val d => obtain ⟨v, e1, e2⟩ := h; exact ⟨v, e1, e2.xt x R.st⟩
    | own ds => exact OwnOk.xt h x R.st
    | lck ds => exact OwnOk.xt h x R.st
theorem st_new {T : StK S} {s : S} {H : Hp} {p : Addr} {o : HO} (st : T.R s H) (hp : H p = none) : T.R s (upd H p o) := T.mono st fun a u q e => by
    rw [upd_ne (ne_of_none e hp)]; exact e
theorem Rel.new {C : Cn S} {P : Pt} {σ : L2.St} {s : S} {H : Hp} {p : Addr} {o : HO} (R : Rel C P σ H s) (hp : H p = none) : Rel C P σ (upd H p o) s :=
  R.xt (Xt.new hp) (st_new R.st hp)
theorem Rel.none0 {C : Cn S} {P : Pt} {σ : L2.St} {s : S} {H : Hp} {p : Addr} (R : Rel C P σ H s) (hp : H p = none) : C.H0 p = none := by
  cases e : C.H0 p with
  | none => rfl
  | some o => exact absurd hp (R.live p (by rw [e]; simp))
theorem Rel.noRoot {C : Cn S} {P : Pt} {σ : L2.St} {s : S} {H : Hp} {p : Addr} (R : Rel C P σ H s) (hp : H p = none) : ¬ P.root p := fun ⟨i, sl, ds, h, e, q⟩ => by
  obtain ⟨vs, e2, _⟩ := (R.own h e).is
  rw [q, hp] at e2; cases e2
/-- a new address is of no root, no state -/
theorem Rel.fresh {C : Cn S} {P : Pt} {σ : L2.St} {s : S} {H : Hp} {p : Addr} (R : Rel C P σ H s) (hp : H p = none) : Fc C P s p :=
  ⟨.inr (R.none0 hp), R.noRoot hp, fun z => (R.za p z).2.1 hp, nN R.st hp⟩

/-- the top of a value may be an own list: what looks at it alone is served -/
def Top (C : Cn S) (P : Pt) (s : S) (H : Hp) (v : V) (d : D) : Prop :=
  Rp C.K H (Fc C P s) v d ∨ ∃ a vs ds, v = .ref a ∧ d = .lst ds ∧ ¬ C.T.A s a ∧ H a = some (.lst vs) ∧ RpL C.K H (Fc C P s) vs ds
theorem Top.xt {C : Cn S} {P : Pt} {s s' : S} {H H' : Hp} {v : V} {d : D} (h : Top C P s H v d) (x : Xt C.T s s' H H') (st : C.T.R s H) : Top C P s' H' v d := by
  rcases h with h | ⟨a, vs, ds, e1, e2, na, e, q⟩
  · exact .inl (h.xt x st)
  · refine .inr ⟨a, vs, ds, e1, e2, fun z => ?_, x.keep _ _ e na, q.xt x st⟩
    rcases x.grow _ z with z | z
    · exact na z
    · rw [e] at z; cases z
/-- a list's top -/
theorem Top.lst {C : Cn S} {P : Pt} {s : S} {H : Hp} {v : V} {ds : List D} (h : Top C P s H v (.lst ds)) : ∃ a vs, v = .ref a ∧ H a = some (.lst vs) ∧ RpL C.K H (Fc C P s) vs ds := by
  rcases h with h | ⟨a, vs, ds', e1, e2, na, e, q⟩
  · cases h with
    | lst f h q => exact ⟨_, _, rfl, h, q⟩
  · cases e2
    exact ⟨a, vs, e1, e, q⟩
theorem Top.tup {C : Cn S} {P : Pt} {s : S} {H : Hp} {v : V} {ds : List D} (h : Top C P s H v (.tup ds)) : ∃ a vs, v = .ref a ∧ SqT C.K H a vs ∧ RpL C.K H (Fc C P s) vs ds := by
  rcases h with h | ⟨a, vs, ds', e1, e2, na, e, q⟩
  · cases h with
    | tup h q => exact ⟨_, _, rfl, h, q⟩
  · cases e2
/-- a value whose top, if it is a list, is new since H and leads nowhere back to itself -/
def Fr (C : Cn S) (P : Pt) (s' : S) (H H' : Hp) (v : V) (d : D) : Prop :=
  Rp C.K H' (Fc C P s') v d ∧ ∀ ds, d = .lst ds → ∃ a vs, v = .ref a ∧ H a = none ∧ H' a = some (.lst vs) ∧ RpL C.K H' (fun x => Fc C P s' x ∧ x ≠ a) vs ds

/-- an exception on the heap: its class's address, its own dict -/
def RX (C : Cn S) (F : Addr → Prop) (H : Hp) (x : Exn) (cls : Value) (d : Option Addr) : Prop :=
  ∃ c, C.cls x.cls = some c ∧ cls = .ref c ∧ (x.flds = [] → d = none) ∧ (x.flds ≠ [] → ∃ dx vs, d = some dx ∧ H dx = some (.xd ((x.flds.map (·.1)).zip vs)) ∧ RpL C.K H F vs (x.flds.map (·.2)))

abbrev EvF (S : Type) := List Sl → S → Res S D
/-- what is wanted of an expression's end -/
def Run (C : Cn S) (W : L2.WX) (P : Pt) (σ : L2.St) (H : Hp) (s : S) {α : Type} (m : Res S α) (k : α → S → Hp → Prop) : Prop := match m with
  | .ok d s' => ∀ H', Rel C P σ H' s' → Xt C.T s s' H H' → k d s' H'
  | .err x s' => ∀ cls dd H', Rel C P σ H' s' → Xt C.T s s' H H' → RX C (Fc C P s') H' x cls dd → W cls dd σ H'
  | .stuck => False
/-- clean: nothing in the value is an own list -/
def tP (C : Cn S) (W : L2.WX) (f : EvF S) : TE := fun σ H Q => ∃ P s, Rel C P σ H s ∧ Run C W P σ H s (f P.ρ s) fun d s' H' => ∀ v, Rp C.K H' (Fc C P s') v d → Q v H'
/-- the top may be one -/
def tK (C : Cn S) (W : L2.WX) (f : EvF S) : TE := fun σ H Q => ∃ P s, Rel C P σ H s ∧ Run C W P σ H s (f P.ρ s) fun d s' H' => ∀ v, Top C P s' H' v d → Q v H'
/-- a new list -/
def tF (C : Cn S) (W : L2.WX) (f : EvF S) : TE := fun σ H Q => ∃ P s, Rel C P σ H s ∧ Run C W P σ H s (f P.ρ s) fun d s' H' => ∀ v, Fr C P s' H H' v d → Q v H'
theorem Run.bind {C : Cn S} {W : L2.WX} {P : Pt} {σ : L2.St} {H : Hp} {s : S} {α β : Type} {m : Res S α} {g : α → S → Res S β} {k : β → S → Hp → Prop} (h : Run C W P σ H s (m.bind g) k) :
    Run C W P σ H s m fun a s1 H1 => Run C W P σ H1 s1 (g a s1) k := by
  cases m with
  | ok a s1 =>
    intro H1 R1 x1
    have h' : Run C W P σ H s (g a s1) k := h
    cases e : g a s1 with
    | ok b s2 => rw [e] at h'; exact fun H2 R2 x2 => h' H2 R2 (x1.trans x2)
    | err y s2 => rw [e] at h'; exact fun c d H2 R2 x2 => h' c d H2 R2 (x1.trans x2)
    | stuck => rw [e] at h'; exact h'
  | err y s1 => exact h
  | stuck => exact h
theorem Run.mono {C : Cn S} {W : L2.WX} {P : Pt} {σ : L2.St} {H : Hp} {s : S} {α : Type} {m : Res S α} {k k' : α → S → Hp → Prop} (h : Run C W P σ H s m k)
    (i : ∀ a s' H', Rel C P σ H' s' → Xt C.T s s' H H' → k a s' H' → k' a s' H') : Run C W P σ H s m k' := by
  cases m with
  | ok a s1 => exact fun H1 R1 x1 => i a s1 H1 R1 x1 (h H1 R1 x1)
  | err y s1 => exact h
  | stuck => exact h
theorem Run.now {C : Cn S} {W : L2.WX} {P : Pt} {σ : L2.St} {H : Hp} {s : S} {α : Type} {a : α} {k : α → S → Hp → Prop} (h : Run C W P σ H s (.ok a s) k) (R : Rel C P σ H s) : k a s H := h H R Xt.refl
theorem pe_mono {X : Cx} {e : Expr} {t t' : TE} (h : PE X e t) (i : ∀ σ H Q, t' σ H Q → t σ H Q) : PE X e t' := ⟨fun pins s σ H Q I q => h.run pins s σ H Q I (i σ H Q q)⟩
theorem pe_false {X : Cx} {e : Expr} {t : TE} (i : ∀ σ H Q, ¬ t σ H Q) : PE X e t := ⟨fun pins s σ H Q I q => (i σ H Q q).elim⟩
/-- a new list is clean; what is clean may be looked at -/
theorem PE.clean {X : Cx} {C : Cn S} {W : L2.WX} {e : Expr} {f : EvF S} (h : PE X e (tF C W f)) : PE X e (tP C W f) := pe_mono h fun σ H Q ⟨P, s, R, q⟩ => ⟨P, s, R, q.mono fun d s' H' _ _ k v fr => k v fr.1⟩
theorem PE.peek {X : Cx} {C : Cn S} {W : L2.WX} {e : Expr} {f : EvF S} (h : PE X e (tP C W f)) : PE X e (tK C W f) := pe_mono h fun σ H Q ⟨P, s, R, q⟩ => ⟨P, s, R, q.mono fun d s' H' _ _ k v r => k v (.inl r)⟩
end
end Q

/-! Lay2: steps of statements; walks; operators by data. -/
namespace Q
open PySem L2
section
variable {S : Type}
/-- a root that may be written -/
def Pt.mroot (P : Pt) (a : Addr) : Prop := ∃ (i : Nat) (ds : List D), P.ρ[i]? = some (.own ds) ∧ P.r i = a
theorem Pt.root_of {P : Pt} {a : Addr} (h : P.mroot a) : P.root a := let ⟨i, ds, e, q⟩ := h; ⟨i, _, ds, e, rfl, q⟩
/-- behind statements -/
structure Stp (T : StK S) (P : Pt) (s : S) (H : Hp) (P' : Pt) (s' : S) (H' : Hp) : Prop where
  keep : ∀ a o, H a = some o → ¬ T.A s a → ¬ P.mroot a → H' a = some o
  live : ∀ a, H a ≠ none → H' a ≠ none
  grow : ∀ a, T.A s' a → T.A s a ∨ H a = none
  rgrow : ∀ a, P'.root a → P.root a ∨ H a = none
  mgrow : ∀ a, P'.mroot a → P.mroot a ∨ H a = none
  zs : P'.Z = P.Z
  lk : ∀ i ds, P'.ρ[i]? = some (.lck ds) → (∃ es, P.ρ[i]? = some (.lck es)) ∧ P'.r i = P.r i
theorem Xt.stp {T : StK S} {P : Pt} {s s' : S} {H H' : Hp} (x : Xt T s s' H H') : Stp T P s H P s' H' := ⟨fun a o e n _ => x.keep a o e n, x.live, x.grow, fun _ h => .inl h, fun _ h => .inl h, rfl, fun i ds e => ⟨⟨ds, e⟩, rfl⟩⟩
theorem Stp.refl {T : StK S} {P : Pt} {s : S} {H : Hp} : Stp T P s H P s H := Xt.refl.stp
theorem Stp.none_of {T : StK S} {P P' : Pt} {s s' : S} {H H' : Hp} (x : Stp T P s H P' s' H') {a : Addr} (h : H' a = none) : H a = none := by
  cases e : H a with
  | none => rfl
  | some o => exact absurd h (x.live a (by rw [e]; simp))
theorem Stp.trans {T : StK S} {P P1 P2 : Pt} {s s1 s2 : S} {H H1 H2 : Hp} (a : Stp T P s H P1 s1 H1) (b : Stp T P1 s1 H1 P2 s2 H2) : Stp T P s H P2 s2 H2 := by
  refine ⟨fun x o e n m => b.keep x o (a.keep x o e n m) (fun h => ?_) (fun h => ?_), fun x h => b.live x (a.live x h), fun x h => ?_, fun x h => ?_, fun x h => ?_, b.zs.trans a.zs, fun i ds e => ?_⟩
  · rcases a.grow x h with q | q
    · exact n q
    · rw [q] at e; cases e
  · rcases a.mgrow x h with q | q
    · exact m q
    · rw [q] at e; cases e
  · rcases b.grow x h with q | q
    · exact a.grow x q
    · exact .inr (a.none_of q)
  · rcases b.rgrow x h with q | q
    · exact a.rgrow x q
    · exact .inr (a.none_of q)
  · rcases b.mgrow x h with q | q
    · exact a.mgrow x q
    · exact .inr (a.none_of q)
  · obtain ⟨⟨es, e1⟩, e2⟩ := b.lk i ds e
    obtain ⟨e3, e4⟩ := a.lk i es e1
    exact ⟨e3, e2.trans e4⟩
theorem Rel.rootLst {C : Cn S} {P : Pt} {σ : L2.St} {s : S} {H : Hp} (R : Rel C P σ H s) {a : Addr} (h : P.root a) : ∃ vs, H a = some (.lst vs) := by
  obtain ⟨i, sl, ds, e1, e2, rfl⟩ := h
  obtain ⟨vs, e, _⟩ := (R.own e1 e2).is
  exact ⟨vs, e⟩
theorem Stp.stays {C : Cn S} {P P' : Pt} {σ : L2.St} {s s' : S} {H H' : Hp} {F : Addr → Prop} (x : Stp C.T P s H P' s' H') (R : Rel C P σ H s) (hF : ∀ a, F a → ¬ C.T.A s a ∧ ¬ P.mroot a) : Stays F H H' := by
  refine ⟨fun a xs e => x.keep a _ e (nT R.st e) fun m => ?_, fun a o xs e => x.keep a _ e (nZ R.st e) fun m => ?_, fun a xs f e => x.keep a _ e (hF a f).1 (hF a f).2⟩
  · obtain ⟨vs, q⟩ := R.rootLst (Pt.root_of m); rw [e] at q; cases q
  · obtain ⟨vs, q⟩ := R.rootLst (Pt.root_of m); rw [e] at q; cases q
theorem Stp.fc {C : Cn S} {P P' : Pt} {s s' : S} {H H' : Hp} (x : Stp C.T P s H P' s' H') : ∀ a, Fc C P s a → H a ≠ none → Fc C P' s' a := fun a f n =>
  ⟨f.1, fun q => (x.rgrow a q).elim f.2.1 n, fun z => f.2.2.1 (by rw [x.zs] at z; exact z), fun q => (x.grow a q).elim f.2.2.2 n⟩
theorem Rp.stp {C : Cn S} {P P' : Pt} {σ : L2.St} {s s' : S} {H H' : Hp} {v : V} {d : D} (h : Rp C.K H (Fc C P s) v d) (x : Stp C.T P s H P' s' H') (R : Rel C P σ H s) : Rp C.K H' (Fc C P' s') v d :=
  h.step (x.stays R fun _ f => ⟨f.2.2.2, fun m => f.2.1 (Pt.root_of m)⟩) x.fc
theorem RpL.stp {C : Cn S} {P P' : Pt} {σ : L2.St} {s s' : S} {H H' : Hp} {v : List V} {d : List D} (h : RpL C.K H (Fc C P s) v d) (x : Stp C.T P s H P' s' H') (R : Rel C P σ H s) : RpL C.K H' (Fc C P' s') v d :=
  h.step (x.stays R fun _ f => ⟨f.2.2.2, fun m => f.2.1 (Pt.root_of m)⟩) x.fc

/-- the iterator J walks the data ds, whatever statements do in between -/
structure Wk (C : Cn S) (P : Pt) (s : S) (H : Hp) (J : It) (ds : List D) : Prop where
  go : ∀ i d P' s' H', ds[i]? = some d → Stp C.T P s H P' s' H' → C.T.R s' H' → J.go i H' ∧ ∀ x H3, J.yld i H' x H3 → Xt C.T s' s' H' H3 ∧ C.T.R s' H3 ∧ Rp C.K H3 (Fc C P' s') x d
  stop : ∀ P' s' H', Stp C.T P s H P' s' H' → J.stop ds.length H'
end
end Q

/-! Lay3: operators by data. -/
namespace Q
open PySem L2
/-! ### data as the library's own -/
mutual
def toPy : D → Option PyData
  | .non => some .none
  | .bl b => some (.bool b)
  | .int i => some (.int i)
  | .str x => some (.str x)
  | .tup ds => (toPyL ds).map .tuple
  | .lst ds => (toPyL ds).map .list
  | .scr _ => none
  | .opq _ => none
def toPyL : List D → Option (List PyData)
  | [] => some []
  | d :: ds => (toPy d).bind fun x => (toPyL ds).map fun xs => x :: xs
end
mutual
theorem dp_of {K : PySem.W.Frag} {H : Hp} {F : Addr → Prop} : ∀ {v : V} {d : D} {p : PyData}, Rp K H F v d → toPy d = some p → Dp K H v p
  | _, _, _, .non, e => by simp [toPy] at e; subst e; exact .non
  | _, _, _, .bl b, e => by simp [toPy] at e; subst e; exact .bl b
  | _, _, _, .int i, e => by simp [toPy] at e; subst e; exact .int i
  | _, _, _, .str x, e => by simp [toPy] at e; subst e; exact .str x
  | _, _, _, .opq v, e => by simp [toPy] at e
  | _, _, _, .tup h r, e => by
    simp only [toPy, Option.map_eq_some_iff] at e
    obtain ⟨ps, e1, rfl⟩ := e
    exact .tup h (dpL_of r e1)
  | _, _, _, .lst f h r, e => by
    simp only [toPy, Option.map_eq_some_iff] at e
    obtain ⟨ps, e1, rfl⟩ := e
    exact .lst (.inl (.inl h)) (dpL_of r e1)
  | _, _, _, .scr h r, e => by simp [toPy] at e
theorem dpL_of {K : PySem.W.Frag} {H : Hp} {F : Addr → Prop} : ∀ {vs : List V} {ds : List D} {ps : List PyData}, RpL K H F vs ds → toPyL ds = some ps → DpAll K H vs ps
  | _, _, _, .nil, e => by simp [toPyL] at e; subst e; exact .nil
  | _, _, _, .cons h r, e => by
    simp only [toPyL, Option.bind_eq_some_iff, Option.map_eq_some_iff] at e
    obtain ⟨p, e1, ps, e2, rfl⟩ := e
    exact .cons (dp_of h e1) (dpL_of r e2)
end
section
variable {S : Type}
theorem dp_top {C : Cn S} {P : Pt} {s : S} {H : Hp} {v : V} {d : D} {p : PyData} (h : Top C P s H v d) (e : toPy d = some p) : Dp C.K H v p := by
  rcases h with h | ⟨a, vs, ds, e1, e2, na, e3, q⟩
  · exact dp_of h e
  · subst e1 e2
    simp only [toPy, Option.map_eq_some_iff] at e
    obtain ⟨ps, e1, rfl⟩ := e
    exact .lst (.inl (.inl e3)) (dpL_of q e1)

def ofO {α : Type} : Option α → S → Res S α
  | some d, s => .ok d s
  | none, _ => .stuck
def rB (C : Cn S) (op : D → D → Option D) : R2 := fun x y H Q => ∃ P s σ dx dy d, Rel C P σ H s ∧ Top C P s H x dx ∧ Top C P s H y dy ∧ op dx dy = some d ∧
  ∀ v H', Xt C.T s s H H' → C.T.R s H' → Fr C P s H H' v d → Q v H'
def OpD (X : Cx) (f : Value → Value → Sem Value) (op : D → D → Option D) : Prop := ∀ {S : Type} (C : Cn S), C.K = X.K → OpR X f (rB C op)
theorem Fr.plain {C : Cn S} {P : Pt} {s : S} {H H' : Hp} {v : V} {d : D} (h : Rp C.K H' (Fc C P s) v d) (n : ∀ ds, d ≠ .lst ds) : Fr C P s H H' v d := ⟨h, fun ds e => (n ds e).elim⟩
theorem Fr.newL {C : Cn S} {P : Pt} {σ : L2.St} {s : S} {H : Hp} {p : Addr} {vs : List V} {ds : List D} (R : Rel C P σ H s) (hp : H p = none) (q : RpL C.K H (Fc C P s) vs ds) : Fr C P s H (upd H p (.lst vs)) (.ref p) (.lst ds) := by
  have x : Xt C.T s s H (upd H p (.lst vs)) := Xt.new hp
  refine ⟨.lst (R.fresh hp) upd_same (q.xt x R.st), fun es e => ?_⟩
  cases e
  exact ⟨p, vs, rfl, hp, upd_same, q.step (x.stays R.st fun _ f => f.2.2.2) fun a f n => ⟨f, fun e => n (by rw [e]; exact hp)⟩⟩
theorem Fr.newT {C : Cn S} {P : Pt} {σ : L2.St} {s : S} {H : Hp} {p : Addr} {vs : List V} {ds : List D} (R : Rel C P σ H s) (hp : H p = none) (q : RpL C.K H (Fc C P s) vs ds) : Fr C P s H (upd H p (.tup vs)) (.ref p) (.tup ds) :=
  Fr.plain (.tup (.inl (.inl upd_same)) (q.xt (Xt.new hp) R.st)) fun _ e => nomatch e
theorem Fr.back {C : Cn S} {P : Pt} {s s1 s2 : S} {H H1 H' : Hp} {v : V} {d : D} (h : Fr C P s2 H1 H' v d) (x : Xt C.T s s1 H H1) : Fr C P s2 H H' v d :=
  ⟨h.1, fun ds e => let ⟨a, vs, e1, e2, r⟩ := h.2 ds e; ⟨a, vs, e1, x.none_of e2, r⟩⟩
theorem Fr.int {C : Cn S} {P : Pt} {s : S} {H H' : Hp} (i : Int) : Fr C P s H H' (.int i) (.int i) := Fr.plain (.int i) fun _ e => nomatch e
theorem Fr.bl {C : Cn S} {P : Pt} {s : S} {H H' : Hp} (i : Bool) : Fr C P s H H' (.bl i) (.bl i) := Fr.plain (.bl i) fun _ e => nomatch e
theorem Fr.str {C : Cn S} {P : Pt} {s : S} {H H' : Hp} (i : Str) : Fr C P s H H' (.str i) (.str i) := Fr.plain (.str i) fun _ e => nomatch e
theorem top_int {C : Cn S} {P : Pt} {s : S} {H : Hp} {v : V} {i : Int} (h : Top C P s H v (.int i)) : v = .int i := by
  rcases h with h | ⟨_, _, _, _, e, _⟩
  · cases h; rfl
  · cases e
theorem top_str {C : Cn S} {P : Pt} {s : S} {H : Hp} {v : V} {i : Str} (h : Top C P s H v (.str i)) : v = .str i := by
  rcases h with h | ⟨_, _, _, _, e, _⟩
  · cases h; rfl
  · cases e
theorem top_bl {C : Cn S} {P : Pt} {s : S} {H : Hp} {v : V} {i : Bool} (h : Top C P s H v (.bl i)) : v = .bl i := by
  rcases h with h | ⟨_, _, _, _, e, _⟩
  · cases h; rfl
  · cases e
theorem top_non {C : Cn S} {P : Pt} {s : S} {H : Hp} {v : V} (h : Top C P s H v .non) : v = .non := by
  rcases h with h | ⟨_, _, _, _, e, _⟩
  · cases h; rfl
  · cases e
theorem rp_int {K : PySem.W.Frag} {H : Hp} {F : Addr → Prop} {v : V} {i : Int} (h : Rp K H F v (.int i)) : v = .int i := by cases h; rfl
theorem rp_str {K : PySem.W.Frag} {H : Hp} {F : Addr → Prop} {v : V} {i : Str} (h : Rp K H F v (.str i)) : v = .str i := by cases h; rfl
theorem rp_bl {K : PySem.W.Frag} {H : Hp} {F : Addr → Prop} {v : V} {i : Bool} (h : Rp K H F v (.bl i)) : v = .bl i := by cases h; rfl
end

/-! ### arithmetic -/
def dAdd : D → D → Option D
  | .int i, .int j => some (.int (i + j))
  | .str a, .str b => if a.length + b.length ≤ sizeLine then some (.str (a ++ b)) else none
  | .tup a, .tup b => if a.length + b.length ≤ sizeLine then some (.tup (a ++ b)) else none
  | .lst a, .lst b => if a.length + b.length ≤ sizeLine then some (.lst (a ++ b)) else none
  | _, _ => none
/-- a list that is not locked -/
def dSub : D → D → Option D
  | .int i, .int j => some (.int (i - j))
  | _, _ => none
instance (i j : Int) : Decidable (CMul i j) := by unfold CMul; exact inferInstance
instance (i j : Int) : Decidable (CMulW i j) := by unfold CMulW; exact inferInstance
def dMul : D → D → Option D
  | .int i, .int j => if CMul i j ∨ CMulW i j then some (.int (i * j)) else none
  | .lst ds, .int k => if (-(2 ^ 63) ≤ k ∧ k < 2 ^ 63) ∧ ds.length * k.toNat ≤ sizeLine then some (.lst (List.replicate k.toNat ds).flatten) else none
  | .tup ds, .int k => if ds.isEmpty = false ∧ 2 ≤ k ∧ k ≤ 1000 ∧ ds.length ≤ 1000 then some (.tup (List.replicate k.toNat ds).flatten) else none
  | _, _ => none
instance (i j : Int) : Decidable (CDivW i j) := by unfold CDivW; exact inferInstance
def dDiv : D → D → Option D
  | .int i, .int j => if CDivW i j then some (.int (i / j)) else none
  | _, _ => none
def dMod : D → D → Option D
  | .int i, .int j => if 0 < j then some (.int (i % j)) else none
  | _, _ => none
instance (i j : Int) : Decidable (CPow i j) := by unfold CPow; exact inferInstance
def dPow : D → D → Option D
  | .int i, .int j => if CPow i j then some (.int (i ^ j.toNat)) else none
  | _, _ => none
variable {X : Cx}
theorem od_add : OpD X (binaryOp .Add) dAdd := by
  intro S C hK pins s σ H x y v u Q I rx ry ⟨P, st, σ', dx, dy, d, R, tx, ty, e, k⟩
  cases dx <;> cases dy <;> simp only [dAdd] at e <;> try cases e
  · rw [top_int tx] at rx; rw [top_int ty] at ry
    exact op_add pins s σ H _ _ v u Q I rx ry ⟨_, _, rfl, rfl, k _ _ Xt.refl R.st (.int _)⟩
  · rename_i a b
    split at e
    · cases e
      rw [top_str tx] at rx; rw [top_str ty] at ry
      exact op_add_str pins s σ H _ _ v u Q I rx ry ⟨_, _, rfl, rfl, by assumption, k _ _ Xt.refl R.st (.str _)⟩
    · cases e
  · split at e
    · cases e
      rename_i hz
      obtain ⟨a, xs, rfl, ha, qa⟩ := tx.tup
      obtain ⟨b, ys, rfl, hb, qb⟩ := ty.tup
      rw [hK] at ha hb
      refine op_catA pins s σ H _ _ v u Q I rx ry ⟨a, b, xs, ys, rfl, rfl, ha, hb, by rw [qa.length, qb.length]; exact hz, fun e => ?_, fun _ e => ?_, fun _ _ p hp => ?_⟩
      · subst e
        cases qa
        exact k _ _ Xt.refl R.st (Fr.plain (.tup (by rw [hK]; exact hb) qb) fun _ e => nomatch e)
      · subst e
        cases qb
        rw [List.append_nil] at k
        exact k _ _ Xt.refl R.st (Fr.plain (.tup (by rw [hK]; exact ha) qa) fun _ e => nomatch e)
      · exact k _ _ (Xt.new hp) (st_new R.st hp) (Fr.newT R hp (qa.append qb))
    · cases e
  · split at e
    · cases e
      rename_i hz
      obtain ⟨a, xs, rfl, ha, qa⟩ := tx.lst
      obtain ⟨b, ys, rfl, hb, qb⟩ := ty.lst
      exact op_cat pins s σ H _ _ v u Q I rx ry ⟨a, b, xs, ys, rfl, rfl, ha, hb, by rw [qa.length, qb.length]; exact hz, fun p hp => k _ _ (Xt.new hp) (st_new R.st hp) (Fr.newL R hp (qa.append qb))⟩
    · cases e
theorem od_sub : OpD X (binaryOp .Sub) dSub := by
  intro S C hK pins s σ H x y v u Q I rx ry ⟨P, st, σ', dx, dy, d, R, tx, ty, e, k⟩
  cases dx <;> cases dy <;> simp only [dSub] at e <;> cases e
  rw [top_int tx] at rx; rw [top_int ty] at ry
  exact op_sub pins s σ H _ _ v u Q I rx ry ⟨_, _, rfl, rfl, k _ _ Xt.refl R.st (.int _)⟩
theorem RpL.rep {K : PySem.W.Frag} {H : Hp} {F : Addr → Prop} {vs : List V} {ds : List D} (h : RpL K H F vs ds) : ∀ n : Nat, RpL K H F (List.replicate n vs).flatten (List.replicate n ds).flatten
  | 0 => .nil
  | n + 1 => by
    rw [List.replicate_succ, List.replicate_succ, List.flatten_cons, List.flatten_cons]
    exact h.append (RpL.rep h n)
theorem od_mul : OpD X (binaryOp .Mult) dMul := by
  intro S C hK pins s σ H x y v u Q I rx ry ⟨P, st, σ', dx, dy, d, R, tx, ty, e, k⟩
  cases dx <;> cases dy <;> simp only [dMul] at e <;> try cases e
  · split at e
    · cases e
      rename_i h
      rw [top_int tx] at rx; rw [top_int ty] at ry
      rcases h with h | h
      · exact op_mul pins s σ H _ _ v u Q I rx ry ⟨_, _, rfl, rfl, h, k _ _ Xt.refl R.st (.int _)⟩
      · exact op_mulW pins s σ H _ _ v u Q I rx ry ⟨_, _, rfl, rfl, h, k _ _ Xt.refl R.st (.int _)⟩
    · cases e
  · split at e
    · cases e
      rename_i h
      obtain ⟨h1, h2, h3, h4⟩ := h
      rw [top_int ty] at ry
      obtain ⟨a, xs, rfl, ha, qa⟩ := tx.tup
      exact op_repT pins s σ H _ _ v u Q I rx ry ⟨a, _, xs, rfl, rfl, hK ▸ ha, fun e => by have := qa.length; rw [e] at this; rw [List.isEmpty_eq_false_iff] at h1; exact h1 (List.eq_nil_of_length_eq_zero this.symm), h2, h3, by rw [qa.length]; exact h4, fun p hp => k _ _ (Xt.new hp) (st_new R.st hp) (Fr.newT R hp (qa.rep _))⟩
    · cases e
  · split at e
    · cases e
      rename_i h
      obtain ⟨h1, h2⟩ := h
      rw [top_int ty] at ry
      obtain ⟨a, xs, rfl, ha, qa⟩ := tx.lst
      exact op_rep pins s σ H _ _ v u Q I rx ry ⟨a, _, xs, rfl, rfl, ha, h1.1, h1.2, by rw [qa.length]; exact h2, fun p hp => k _ _ (Xt.new hp) (st_new R.st hp) (Fr.newL R hp (qa.rep _))⟩
    · cases e
theorem od_div : OpD X (binaryOp .FloorDiv) dDiv := by
  intro S C hK pins s σ H x y v u Q I rx ry ⟨P, st, σ', dx, dy, d, R, tx, ty, e, k⟩
  cases dx <;> cases dy <;> simp only [dDiv] at e <;> try cases e
  split at e
  · cases e
    rename_i h
    rw [top_int tx] at rx; rw [top_int ty] at ry
    exact op_fdivW pins s σ H _ _ v u Q I rx ry ⟨_, _, rfl, rfl, h, k _ _ Xt.refl R.st (.int _)⟩
  · cases e
theorem od_mod : OpD X (binaryOp .Mod) dMod := by
  intro S C hK pins s σ H x y v u Q I rx ry ⟨P, st, σ', dx, dy, d, R, tx, ty, e, k⟩
  cases dx <;> cases dy <;> simp only [dMod] at e <;> try cases e
  split at e
  · cases e
    rename_i h
    rw [top_int tx] at rx; rw [top_int ty] at ry
    exact op_mod pins s σ H _ _ v u Q I rx ry ⟨_, _, rfl, rfl, h, k _ _ Xt.refl R.st (.int _)⟩
  · cases e
theorem od_pow : OpD X (binaryOp .Pow) dPow := by
  intro S C hK pins s σ H x y v u Q I rx ry ⟨P, st, σ', dx, dy, d, R, tx, ty, e, k⟩
  cases dx <;> cases dy <;> simp only [dPow, reduceCtorEq] at e
  split at e
  · cases e
    rename_i h
    rw [top_int tx] at rx; rw [top_int ty] at ry
    exact op_pow pins s σ H _ _ v u Q I rx ry ⟨_, _, rfl, rfl, h, k _ _ Xt.refl R.st (.int _)⟩
  · cases e
def dBin : Operator → D → D → Option D
  | .Add => dAdd
  | .Sub => dSub
  | .Mult => dMul
  | .FloorDiv => dDiv
  | .Mod => dMod
  | .Pow => dPow
  | _ => fun _ _ => none
theorem od_none {f : Value → Value → Sem Value} : OpD X f (fun _ _ => none) := fun C hK pins s σ H x y v u Q I rx ry ⟨P, st, σ', dx, dy, d, R, tx, ty, e, k⟩ => nomatch e
theorem od_bin (o : Operator) : OpD X (binaryOp o) (dBin o) := match o with
  | .Add => od_add
  | .Sub => od_sub
  | .Mult => od_mul
  | .FloorDiv => od_div
  | .Mod => od_mod
  | .Pow => od_pow
  | .MatMult | .Div | .LShift | .RShift | .BitOr | .BitXor | .BitAnd => od_none

/-! ### comparisons -/
def deq (x y : D) : Option Bool := match toPy x, toPy y with
  | some a, some b => if SeqAt.shaped a = true ∧ SeqAt.shaped b = true then some (PyData.eqv a b) else none
  | _, _ => none
def dEq : D → D → Option D
  | .str a, .str b => some (.bl (decide (V.str a = V.str b)))
  | x, y => (deq x y).map .bl
def dNe : D → D → Option D
  | .str a, .str b => some (.bl (!decide (V.str a = V.str b)))
  | x, y => (deq x y).map fun b => .bl (!b)
theorem dEq_cases {x y d : D} (h : dEq x y = some d) : (∃ a b, x = .str a ∧ y = .str b ∧ d = .bl (decide (V.str a = V.str b))) ∨ (deq x y).map .bl = some d := by
  unfold dEq at h
  split at h
  · cases h; exact .inl ⟨_, _, rfl, rfl, rfl⟩
  · exact .inr h
theorem dNe_cases {x y d : D} (h : dNe x y = some d) : (∃ a b, x = .str a ∧ y = .str b ∧ d = .bl (!decide (V.str a = V.str b))) ∨ (deq x y).map (fun b => .bl (!b)) = some d := by
  unfold dNe at h
  split at h
  · cases h; exact .inl ⟨_, _, rfl, rfl, rfl⟩
  · exact .inr h
theorem deq_some {x y : D} {b : Bool} (h : deq x y = some b) : ∃ p q, toPy x = some p ∧ toPy y = some q ∧ SeqAt.shaped p = true ∧ SeqAt.shaped q = true ∧ b = PyData.eqv p q := by
  unfold deq at h
  split at h
  · rename_i a b' e1 e2
    split at h
    · rename_i z; cases h; exact ⟨_, _, e1, e2, z.1, z.2, rfl⟩
    · cases h
  · cases h
theorem od_eq (hu : X.A.units + 64 < cLine) : OpD X (compareOp .Eq) dEq := by
  intro S C hK pins s σ H x y v u Q I rx ry ⟨P, st, σ', dx, dy, d, R, tx, ty, e, k⟩
  replace e := dEq_cases e
  rcases e with ⟨a, b, rfl, rfl, rfl⟩ | e
  · have e1 := top_str tx
    have e2 := top_str ty
    subst e1 e2
    exact op_eq pins s σ H _ _ v u Q I rx ry ⟨rfl, k _ _ Xt.refl R.st (.bl _)⟩
  rw [Option.map_eq_some_iff] at e
  obtain ⟨b, e, rfl⟩ := e
  obtain ⟨p, q, e1, e2, z1, z2, rfl⟩ := deq_some e
  exact op_eqD hu pins s σ H _ _ v u Q I rx ry ⟨p, q, by rw [← hK]; exact dp_top tx e1, by rw [← hK]; exact dp_top ty e2, z1, z2, k _ _ Xt.refl R.st (.bl _)⟩
theorem od_ne (hu : X.A.units + 64 < cLine) : OpD X (compareOp .NotEq) dNe := by
  intro S C hK pins s σ H x y v u Q I rx ry ⟨P, st, σ', dx, dy, d, R, tx, ty, e, k⟩
  replace e := dNe_cases e
  rcases e with ⟨a, b, rfl, rfl, rfl⟩ | e
  · have e1 := top_str tx
    have e2 := top_str ty
    subst e1 e2
    exact op_ne pins s σ H _ _ v u Q I rx ry ⟨rfl, k _ _ Xt.refl R.st (.bl _)⟩
  rw [Option.map_eq_some_iff] at e
  obtain ⟨b, e, rfl⟩ := e
  obtain ⟨p, q, e1, e2, z1, z2, rfl⟩ := deq_some e
  exact op_neD hu pins s σ H _ _ v u Q I rx ry ⟨p, q, by rw [← hK]; exact dp_top tx e1, by rw [← hK]; exact dp_top ty e2, z1, z2, k _ _ Xt.refl R.st (.bl _)⟩
def intsOf : List D → Option (List Int)
  | [] => some []
  | .int i :: ds => (intsOf ds).map (i :: ·)
  | _ => none
theorem ints_of {K : PySem.W.Frag} {H : Hp} {F : Addr → Prop} : ∀ {vs : List V} {ds : List D} {ns : List Int}, RpL K H F vs ds → intsOf ds = some ns → vs = ns.map V.int
  | _, _, _, .nil, e => by simp [intsOf] at e; subst e; rfl
  | _, _, _, .cons (d := d) h r, e => by
    cases d <;> simp only [intsOf, Option.map_eq_some_iff] at e <;> try cases e
    obtain ⟨e1, rfl⟩ := by assumption
    rw [rp_int h, ints_of r e1]
    rfl
def dLt : D → D → Option D
  | .int i, .int j => some (.bl (decide (i < j)))
  | .str a, .str b => some (.bl (decide (a.cps.toList < b.cps.toList)))
  | .tup a, .tup b => match intsOf a, intsOf b with
    | some ns, some ms => some (.bl (HT.lexLt ns ms))
    | _, _ => none
  | _, _ => none
def dLe : D → D → Option D
  | .int i, .int j => some (.bl (decide (i ≤ j)))
  | .str a, .str b => some (.bl (!decide (b.cps.toList < a.cps.toList)))
  | _, _ => none
def dGt : D → D → Option D
  | .int i, .int j => some (.bl (decide (j < i)))
  | .str a, .str b => some (.bl (decide (b.cps.toList < a.cps.toList)))
  | _, _ => none
def dGe : D → D → Option D
  | .int i, .int j => some (.bl (decide (j ≤ i)))
  | .str a, .str b => some (.bl (!decide (a.cps.toList < b.cps.toList)))
  | _, _ => none
theorem od_lt (hu : X.A.units + 64 < cLine) : OpD X (compareOp .Lt) dLt := by
  intro S C hK pins s σ H x y v u Q I rx ry ⟨P, st, σ', dx, dy, d, R, tx, ty, e, k⟩
  cases dx <;> cases dy <;> simp only [dLt] at e <;> try cases e
  · rw [top_int tx] at rx; rw [top_int ty] at ry
    exact op_lt pins s σ H _ _ v u Q I rx ry ⟨_, _, rfl, rfl, k _ _ Xt.refl R.st (.bl _)⟩
  · rw [top_str tx] at rx; rw [top_str ty] at ry
    exact op_lt_str pins s σ H _ _ v u Q I rx ry ⟨_, _, rfl, rfl, k _ _ Xt.refl R.st (.bl _)⟩
  · split at e
    · rename_i ns ms e1 e2
      cases e
      obtain ⟨a, xs, rfl, ha, qa⟩ := tx.tup
      obtain ⟨b, ys, rfl, hb, qb⟩ := ty.tup
      rw [ints_of qa e1, hK] at ha
      rw [ints_of qb e2, hK] at hb
      exact op_ltT (by omega) pins s σ H _ _ v u Q I rx ry ⟨a, b, _, _, rfl, rfl, ha, hb, k _ _ Xt.refl R.st (.bl _)⟩
    · cases e
theorem od_le : OpD X (compareOp .LtE) dLe := by
  intro S C hK pins s σ H x y v u Q I rx ry ⟨P, st, σ', dx, dy, d, R, tx, ty, e, k⟩
  cases dx <;> cases dy <;> simp only [dLe] at e <;> try cases e
  · rw [top_int tx] at rx; rw [top_int ty] at ry
    exact op_le pins s σ H _ _ v u Q I rx ry ⟨_, _, rfl, rfl, k _ _ Xt.refl R.st (.bl _)⟩
  · rw [top_str tx] at rx; rw [top_str ty] at ry
    exact op_le_str pins s σ H _ _ v u Q I rx ry ⟨_, _, rfl, rfl, k _ _ Xt.refl R.st (.bl _)⟩
theorem od_gt : OpD X (compareOp .Gt) dGt := by
  intro S C hK pins s σ H x y v u Q I rx ry ⟨P, st, σ', dx, dy, d, R, tx, ty, e, k⟩
  cases dx <;> cases dy <;> simp only [dGt] at e <;> try cases e
  · rw [top_int tx] at rx; rw [top_int ty] at ry
    exact op_gt pins s σ H _ _ v u Q I rx ry ⟨_, _, rfl, rfl, k _ _ Xt.refl R.st (.bl _)⟩
  · rw [top_str tx] at rx; rw [top_str ty] at ry
    exact op_gt_str pins s σ H _ _ v u Q I rx ry ⟨_, _, rfl, rfl, k _ _ Xt.refl R.st (.bl _)⟩
theorem od_ge : OpD X (compareOp .GtE) dGe := by
  intro S C hK pins s σ H x y v u Q I rx ry ⟨P, st, σ', dx, dy, d, R, tx, ty, e, k⟩
  cases dx <;> cases dy <;> simp only [dGe] at e <;> try cases e
  · rw [top_int tx] at rx; rw [top_int ty] at ry
    exact op_ge pins s σ H _ _ v u Q I rx ry ⟨_, _, rfl, rfl, k _ _ Xt.refl R.st (.bl _)⟩
  · rw [top_str tx] at rx; rw [top_str ty] at ry
    exact op_ge_str pins s σ H _ _ v u Q I rx ry ⟨_, _, rfl, rfl, k _ _ Xt.refl R.st (.bl _)⟩
/-- x in xs: a list or tuple of data; a text in a text -/
def din (x y : D) : Option Bool := match y with
  | .str b => match x with
    | .str a => some (!(Builtin.Str.occurrences b a 0 b.length 1).isEmpty)
    | _ => none
  | .lst ds | .tup ds => match toPy x, toPyL ds with
    | some p, some ps => if SeqAt.shaped p = true ∧ SeqAt.shaped (.list ps) = true then some (ps.any fun z => PyData.eqv z p) else none
    | _, _ => none
  | _ => none
def dIn (x y : D) : Option D := (din x y).map .bl
def dNotIn (x y : D) : Option D := (din x y).map fun b => .bl (!b)
theorem shaped_tl {ps : List PyData} (h : SeqAt.shaped (.list ps) = true) : SeqAt.shaped (.tuple ps) = true := by
  simpa [SeqAt.shaped, PyData.canLay0, PyData.depth] using h
theorem op_inT (hu : X.A.units + 65 < cLine) : OpR X (compareOp .In) (fun x y H Q => ∃ d ds, Dp X.K H x d ∧ Dp X.K H y (.tuple ds) ∧ SeqAt.shaped d = true ∧ SeqAt.shaped (.tuple ds) = true ∧ Q (.bl (ds.any fun z => PyData.eqv z d)) H) := by
  intro pins s σ H x y v u Q I rx ry h
  obtain ⟨d, ds, hd, he, sd, se, q⟩ := h
  obtain ⟨as, r1⟩ := Dp.reads I d x v hd rx
  obtain ⟨bs, r2⟩ := Dp.reads I (.tuple ds) y u he ry
  exact SeqAt.in_tuple_reads r2 r1 (SeqAt.canLay_of_shaped se) (SeqAt.canLay_of_shaped sd) (PyProof.Rows.room_in_shaped sd hu) ⟨.bl _, H, I, rfl, q⟩
theorem op_notInT (hu : X.A.units + 65 < cLine) : OpR X (compareOp .NotIn) (fun x y H Q => ∃ d ds, Dp X.K H x d ∧ Dp X.K H y (.tuple ds) ∧ SeqAt.shaped d = true ∧ SeqAt.shaped (.tuple ds) = true ∧ Q (.bl (!ds.any fun z => PyData.eqv z d)) H) := by
  intro pins s σ H x y v u Q I rx ry h
  obtain ⟨d, ds, hd, he, sd, se, q⟩ := h
  obtain ⟨as, r1⟩ := Dp.reads I d x v hd rx
  obtain ⟨bs, r2⟩ := Dp.reads I (.tuple ds) y u he ry
  exact SeqAt.notIn_tuple_reads r2 r1 (SeqAt.canLay_of_shaped se) (SeqAt.canLay_of_shaped sd) (PyProof.Rows.room_in_shaped sd hu) ⟨.bl _, H, I, rfl, q⟩
theorem dp_topL {S : Type} {C : Cn S} {P : Pt} {s : S} {H : Hp} {v : V} {ds : List D} {ps : List PyData} (h : Top C P s H v (.lst ds)) (e : toPyL ds = some ps) : Dp C.K H v (.list ps) := dp_top h (by simp [toPy, e])
theorem dp_topT {S : Type} {C : Cn S} {P : Pt} {s : S} {H : Hp} {v : V} {ds : List D} {ps : List PyData} (h : Top C P s H v (.tup ds)) (e : toPyL ds = some ps) : Dp C.K H v (.tuple ps) := dp_top h (by simp [toPy, e])
theorem od_in (hu : X.A.units + 65 < cLine) : OpD X (compareOp .In) dIn := by
  intro S C hK pins s σ H x y v u Q I rx ry ⟨P, st, σ', dx, dy, d, R, tx, ty, e, k⟩
  simp only [dIn, Option.map_eq_some_iff] at e
  obtain ⟨b, e, rfl⟩ := e
  cases dy <;> simp only [din] at e <;> try cases e
  · split at e
    · cases e
      rw [top_str tx] at rx; rw [top_str ty] at ry
      exact op_in_str pins s σ H _ _ v u Q I rx ry ⟨_, _, rfl, rfl, k _ _ Xt.refl R.st (.bl _)⟩
    · cases e
  · split at e
    · split at e
      · rename_i p ps e1 e2 z
        cases e
        exact op_inT hu pins s σ H _ _ v u Q I rx ry ⟨_, _, by rw [← hK]; exact dp_top tx e1, by rw [← hK]; exact dp_topT ty e2, z.1, shaped_tl z.2, k _ _ Xt.refl R.st (.bl _)⟩
      · cases e
    · cases e
  · split at e
    · split at e
      · rename_i p ps e1 e2 z
        cases e
        exact op_inD hu pins s σ H _ _ v u Q I rx ry ⟨_, _, by rw [← hK]; exact dp_top tx e1, by rw [← hK]; exact dp_topL ty e2, z.1, z.2, k _ _ Xt.refl R.st (.bl _)⟩
      · cases e
    · cases e
theorem od_notIn (hu : X.A.units + 65 < cLine) : OpD X (compareOp .NotIn) dNotIn := by
  intro S C hK pins s σ H x y v u Q I rx ry ⟨P, st, σ', dx, dy, d, R, tx, ty, e, k⟩
  simp only [dNotIn, Option.map_eq_some_iff] at e
  obtain ⟨b, e, rfl⟩ := e
  cases dy <;> simp only [din] at e <;> try cases e
  · split at e
    · cases e
      rw [top_str tx] at rx; rw [top_str ty] at ry
      exact op_notin_str pins s σ H _ _ v u Q I rx ry ⟨_, _, rfl, rfl, k _ _ Xt.refl R.st (.bl _)⟩
    · cases e
  · split at e
    · split at e
      · rename_i p ps e1 e2 z
        cases e
        exact op_notInT hu pins s σ H _ _ v u Q I rx ry ⟨_, _, by rw [← hK]; exact dp_top tx e1, by rw [← hK]; exact dp_topT ty e2, z.1, shaped_tl z.2, k _ _ Xt.refl R.st (.bl _)⟩
      · cases e
    · cases e
  · split at e
    · split at e
      · rename_i p ps e1 e2 z
        cases e
        exact op_notInD hu pins s σ H _ _ v u Q I rx ry ⟨_, _, by rw [← hK]; exact dp_top tx e1, by rw [← hK]; exact dp_topL ty e2, z.1, z.2, k _ _ Xt.refl R.st (.bl _)⟩
      · cases e
    · cases e
/-- x is None; of two bools -/
def dis : D → D → Option Bool
  | .opq _, .non => none
  | .non, .non => some true
  | _, .non => some false
  | .bl a, .bl b => some (decide (a = b))
  | .non, .bl _ => some false
  | _, _ => none
def dIs (x y : D) : Option D := (dis x y).map .bl
def dIsNot (x y : D) : Option D := (dis x y).map fun b => .bl (!b)
theorem dis_non {S : Type} {C : Cn S} {P : Pt} {s : S} {H : Hp} {v : V} {x : D} {b : Bool} (h : Top C P s H v x) (e : dis x .non = some b) : b = decide (v = .non) := by
  rcases h with h | ⟨a, vs, ds, e1, e2, _⟩
  · cases h <;> simp [dis] at e <;> subst e <;> simp
  · subst e1 e2; simp [dis] at e; subst e; simp
theorem op_is_nb {X : Cx} : OpR X (compareOp .Is) (fun x y H Q => ∃ b, x = .non ∧ y = .bl b ∧ Q (.bl false) H) := by
  intro pins s σ H x y v u Q I rx ry ⟨b, hx, hy, q⟩
  subst hx hy
  cases (show v = Value.none from rx)
  cases (show u = Value.bool b from ry)
  exact wpAny_is_other rfl (fun z => nomatch z) ⟨.bl false, H, I, rfl, q⟩
theorem op_isnot_nb {X : Cx} : OpR X (compareOp .IsNot) (fun x y H Q => ∃ b, x = .non ∧ y = .bl b ∧ Q (.bl true) H) := by
  intro pins s σ H x y v u Q I rx ry ⟨b, hx, hy, q⟩
  subst hx hy
  cases (show v = Value.none from rx)
  cases (show u = Value.bool b from ry)
  exact wpAny_isNot_other rfl (fun z => nomatch z) ⟨.bl true, H, I, rfl, q⟩
theorem od_is : OpD X (compareOp .Is) dIs := by
  intro S C hK pins s σ H x y v u Q I rx ry ⟨P, st, σ', dx, dy, d, R, tx, ty, e, k⟩
  simp only [dIs, Option.map_eq_some_iff] at e
  obtain ⟨b, e, rfl⟩ := e
  cases dy with
  | non =>
    have q := dis_non tx e
    subst q
    have := top_non ty
    subst this
    exact op_isN pins s σ H _ _ v u Q I rx ry ⟨rfl, k _ _ Xt.refl R.st (.bl _)⟩
  | bl c =>
    cases dx with
    | bl a =>
      simp only [dis] at e; cases e
      rw [top_bl tx] at rx; rw [top_bl ty] at ry
      exact op_is_bl pins s σ H _ _ v u Q I rx ry ⟨_, _, rfl, rfl, k _ _ Xt.refl R.st (.bl _)⟩
    | non =>
      simp only [dis] at e; cases e
      rw [top_non tx] at rx; rw [top_bl ty] at ry
      exact op_is_nb pins s σ H _ _ v u Q I rx ry ⟨_, rfl, rfl, k _ _ Xt.refl R.st (.bl _)⟩
    | _ => simp only [dis] at e; cases e
  | _ => cases dx <;> simp only [dis] at e <;> cases e
theorem od_isNot : OpD X (compareOp .IsNot) dIsNot := by
  intro S C hK pins s σ H x y v u Q I rx ry ⟨P, st, σ', dx, dy, d, R, tx, ty, e, k⟩
  simp only [dIsNot, Option.map_eq_some_iff] at e
  obtain ⟨b, e, rfl⟩ := e
  cases dy with
  | non =>
    have q := dis_non tx e
    subst q
    have := top_non ty
    subst this
    exact op_notN pins s σ H _ _ v u Q I rx ry ⟨rfl, k _ _ Xt.refl R.st (.bl _)⟩
  | bl c =>
    cases dx with
    | bl a =>
      simp only [dis] at e; cases e
      rw [top_bl tx] at rx; rw [top_bl ty] at ry
      exact op_isnot_bl pins s σ H _ _ v u Q I rx ry ⟨_, _, rfl, rfl, k _ _ Xt.refl R.st (.bl _)⟩
    | non =>
      simp only [dis] at e; cases e
      rw [top_non tx] at rx; rw [top_bl ty] at ry
      exact op_isnot_nb pins s σ H _ _ v u Q I rx ry ⟨_, rfl, rfl, k _ _ Xt.refl R.st (.bl _)⟩
    | _ => simp only [dis] at e; cases e
  | _ => cases dx <;> simp only [dis] at e <;> cases e
def dCmp : CmpOp → D → D → Option D
  | .Eq => dEq
  | .NotEq => dNe
  | .Lt => dLt
  | .LtE => dLe
  | .Gt => dGt
  | .GtE => dGe
  | .Is => dIs
  | .IsNot => dIsNot
  | .In => dIn
  | .NotIn => dNotIn
theorem od_cmp (hu : X.A.units + 65 < cLine) (o : CmpOp) : OpD X (compareOp o) (dCmp o) := by
  cases o
  · exact od_eq (by omega)
  · exact od_ne (by omega)
  · exact od_lt (by omega)
  · exact od_le
  · exact od_gt
  · exact od_ge
  · exact od_is
  · exact od_isNot
  · exact od_in hu
  · exact od_notIn hu
end Q

/-! Lay4: expressions, construct by construct. -/
namespace Q
open PySem L2
section
variable {S : Type} {C : Cn S} {W : L2.WX} {X : Cx}
/-- what is to be known of where the code runs -/
structure Xk (C : Cn S) (W : L2.WX) (X : Cx) (N : List Str) (sc : Scope) : Prop where
  K : C.K = X.K
  names : X.N = N
  nd : N.Nodup
  scope : X.env.scope = sc
  calm : X.calm = true
  hu : X.A.units + 200 < cLine
  gd : X.A.guards = some []
  tk : Takes X W

def slotOf (N : List Str) (x : Str) : Option Nat := N.findIdx? (· == x)
theorem slotOf_some {N : List Str} {x : Str} {i : Nat} (h : slotOf N x = some i) : N[i]? = some x := by
  unfold slotOf at h
  rw [List.findIdx?_eq_some_iff_getElem] at h
  obtain ⟨hi, h, _⟩ := h
  rw [List.getElem?_eq_getElem hi, beq_iff_eq.mp h]
def visB (sc : Scope) (x : Str) : Bool := match sc.names.lookup x with
  | some .local => true
  | some .cell => true
  | some .free => true
  | _ => false
theorem visB_ok {sc : Scope} {x : Str} (h : visB sc x = true) : Vis sc x := by
  unfold visB at h
  unfold Vis
  split at h <;> first | (rename_i e; simp [e]; done) | cases h
def locB (sc : Scope) (x : Str) : Bool := match sc.names.lookup x with
  | some .local => true
  | some .cell => true
  | _ => false
theorem locB_ok {sc : Scope} {x : Str} (h : locB sc x = true) : L2.Loc sc x := by
  unfold locB at h
  unfold L2.Loc
  split at h <;> first | (rename_i e; simp [e]; done) | cases h
def glB (sc : Scope) (x : Str) : Bool := sc.names.lookup x == some .globalImplicit && x != ("__debug__" : Str) && x != ("__name__" : Str)

/-! ### names, constants -/
def evVar (N : List Str) (sc : Scope) (x : Str) : EvF S := fun ρ s => match slotOf N x with
  | some i => if visB sc x && x != ("__debug__" : Str) && x != ("__classdict__" : Str) then (match ρ[i]? with
    | some (.val d) => .ok d s
    | _ => .stuck) else .stuck
  | none => .stuck
def evVarK (N : List Str) (sc : Scope) (x : Str) : EvF S := fun ρ s => match slotOf N x with
  | some i => if visB sc x && x != ("__debug__" : Str) && x != ("__classdict__" : Str) then (match ρ[i]? with
    | some (.val d) => .ok d s
    | some (.own ds) => .ok (.lst ds) s
    | some (.lck ds) => .ok (.lst ds) s
    | _ => .stuck) else .stuck
  | none => .stuck
theorem sd_var {N : List Str} {sc : Scope} (k : Xk C W X N sc) (x : Str) (pos : Pos) : PE X (.Name x pos) (tP C W (evVar N sc x)) := by
  unfold evVar
  split
  · rename_i i e
    split
    · rename_i h
      simp only [Bool.and_eq_true, bne_iff_ne, ne_eq] at h
      refine pe_mono (pe_var (i := i) (by rw [k.names]; exact slotOf_some e) (by rw [k.scope]; exact visB_ok h.1.1) (by simpa using h.1.2) (by simpa using h.2)) fun σ H Q ⟨P, s, R, q⟩ => ?_
      dsimp only at q
      split at q
      · rename_i d hd
        obtain ⟨v, e1, e2⟩ := R.slot i _ hd
        exact ⟨v, e1, (q.now R) v e2⟩
      · exact q.elim
    · exact pe_false fun σ H Q ⟨P, s, R, q⟩ => q
  · exact pe_false fun σ H Q ⟨P, s, R, q⟩ => q
theorem OwnOk.top {P : Pt} {σ : L2.St} {H : Hp} {s : S} {i : Nat} {ds : List D} (h : OwnOk C P σ H s i ds) : Top C P s H (.ref (P.r i)) (.lst ds) :=
  let ⟨vs, e, q⟩ := h.is; .inr ⟨_, vs, ds, rfl, rfl, h.na, e, q⟩
theorem sd_varK {N : List Str} {sc : Scope} (k : Xk C W X N sc) (x : Str) (pos : Pos) : PE X (.Name x pos) (tK C W (evVarK N sc x)) := by
  unfold evVarK
  split
  · rename_i i e
    split
    · rename_i h
      simp only [Bool.and_eq_true, bne_iff_ne, ne_eq] at h
      refine pe_mono (pe_var (i := i) (by rw [k.names]; exact slotOf_some e) (by rw [k.scope]; exact visB_ok h.1.1) (by simpa using h.1.2) (by simpa using h.2)) fun σ H Q ⟨P, s, R, q⟩ => ?_
      dsimp only at q
      split at q
      · rename_i d hd
        obtain ⟨v, e1, e2⟩ := R.slot i _ hd
        exact ⟨v, e1, (q.now R) v (.inl e2)⟩
      · rename_i d hd
        have o : OwnOk C P σ H s i d := R.slot i _ hd
        exact ⟨_, o.at_, (q.now R) _ o.top⟩
      · rename_i d hd
        have o : OwnOk C P σ H s i d := R.slot i _ hd
        exact ⟨_, o.at_, (q.now R) _ o.top⟩
      · exact q.elim
    · exact pe_false fun σ H Q ⟨P, s, R, q⟩ => q
  · exact pe_false fun σ H Q ⟨P, s, R, q⟩ => q
def cD : Const → Option D
  | .int i => some (.int i)
  | .bool b => some (.bl b)
  | .none => some .non
  | .str x => some (.str x)
  | _ => none
def evC (d : Option D) : EvF S := fun _ s => ofO d s
theorem sd_c {t : TE} {v : V} {d : D} {e : Expr} (h : PE X e (tC v)) (r : ∀ H F, Rp C.K H F v d) (n : ∀ ds, d ≠ .lst ds) : PE X e (tF C W (evC (some d))) :=
  pe_mono h fun σ H Q ⟨P, s, R, q⟩ => (q.now R) v (Fr.plain (r _ _) n)
theorem sd_const (c : Const) (k : Nat) (pos : Pos) : PE X (.Constant c k pos) (tF C W (evC (cD c))) := by
  cases c
  case int i => exact sd_c (t := tC (.int i)) pe_int (fun _ _ => .int i) (fun _ e => nomatch e)
  case bool i => exact sd_c (t := tC (.bl i)) pe_bl (fun _ _ => .bl i) (fun _ e => nomatch e)
  case none => exact sd_c (t := tC .non) pe_non (fun _ _ => .non) (fun _ e => nomatch e)
  case str i => exact sd_c (t := tC (.str i)) pe_str (fun _ _ => .str i) (fun _ e => nomatch e)
  all_goals exact pe_false fun σ H Q ⟨P, s, R, q⟩ => q

/-! ### operators -/
def bin (op : D → D → Option D) (fa fb : EvF S) : EvF S := fun ρ s => (fa ρ s).bind fun x s1 => (fb ρ s1).bind fun y s2 => ofO (op x y) s2
theorem run_ofO {P : Pt} {σ : L2.St} {H : Hp} {s : S} {α : Type} {o : Option α} {k : α → S → Hp → Prop} (h : Run C W P σ H s (ofO o s) k) : ∃ d, o = some d ∧ ∀ H', Rel C P σ H' s → Xt C.T s s H H' → k d s H' := by
  cases o with
  | none => exact h.elim
  | some d => exact ⟨d, rfl, h⟩
theorem t_bin {op : D → D → Option D} {fa fb : EvF S} {σ : L2.St} {H : Hp} {Q : VK} (h : tF C W (bin op fa fb) σ H Q) : tOp (rB C op) (tK C W fa) (tK C W fb) σ H Q := by
  obtain ⟨P, s, R, q⟩ := h
  refine ⟨P, s, R, q.bind.mono fun x s1 H1 R1 x1 q1 vx tx => ⟨P, s1, R1, q1.bind.mono fun y s2 H2 R2 x2 q2 vy ty => ?_⟩⟩
  obtain ⟨d, e, k⟩ := run_ofO q2
  exact ⟨P, s2, σ, x, y, d, R2, tx.xt x2 R1.st, ty, e, fun v H' x3 st' fr => k H' (R2.xt x3 st') x3 v (fr.back (x1.trans x2))⟩
theorem sd_bin {a b : Expr} {op : Operator} {pos : Pos} {fa fb : EvF S} (hK : C.K = X.K) (ha : PE X a (tK C W fa)) (hb : PE X b (tK C W fb)) : PE X (.BinOp a op b pos) (tF C W (bin (dBin op) fa fb)) :=
  pe_mono (pe_op (od_bin op C hK) ha hb) fun σ H Q h => t_bin h
theorem sd_cmp {a b : Expr} {op : CmpOp} {pos : Pos} {fa fb : EvF S} (hK : C.K = X.K) (hu : X.A.units + 65 < cLine) (ha : PE X a (tK C W fa)) (hb : PE X b (tK C W fb)) (hm : behindInMarks op b = false) : PE X (.Compare a [op] [b] pos) (tF C W (bin (dCmp op) fa fb)) :=
  pe_mono (pe_cmpR (od_cmp hu op C hK) ha hb hm) fun σ H Q h => t_bin h
/-- a op b op' c: b is evaluated once -/
def chain (op op' : D → D → Option D) (fa fb fc : EvF S) : EvF S := fun ρ s => (fa ρ s).bind fun x s1 => (fb ρ s1).bind fun y s2 => (ofO (op x y) s2).bind fun z s3 => match z with
  | .bl true => (fc ρ s3).bind fun w s4 => ofO (op' y w) s4
  | .bl false => .ok (.bl false) s3
  | _ => .stuck
theorem sd_chain {a b c : Expr} {op op' : CmpOp} {pos : Pos} {fa fb fc : EvF S} (hK : C.K = X.K) (hu : X.A.units + 65 < cLine) (ha : PE X a (tK C W fa)) (hb : PE X b (tK C W fb)) (hc : PE X c (tK C W fc)) (hm : lastMarks [op, op'] [b, c] = false) :
    PE X (.Compare a [op, op'] [b, c] pos) (tF C W (chain (dCmp op) (dCmp op') fa fb fc)) := by
  refine pe_mono (pe_chain (od_cmp hu op C hK) (od_cmp hu op' C hK) ha hb hc hm) fun σ H Q h => ?_
  obtain ⟨P, s, R, q⟩ := h
  refine ⟨P, s, R, q.bind.mono fun x s1 H1 R1 x1 q1 vx tx => ⟨P, s1, R1, q1.bind.mono fun y s2 H2 R2 x2 q2 vy ty => ?_⟩⟩
  obtain ⟨d, e, k⟩ := run_ofO q2.bind
  refine ⟨P, s2, σ, x, y, d, R2, tx.xt x2 R1.st, ty, e, fun v H3 x3 st3 fr => ?_⟩
  have R3 := R2.xt x3 st3
  have k' := k H3 R3 x3
  cases d with
  | bl z =>
    have ev := rp_bl fr.1
    subst ev
    refine ⟨z, rfl, ?_⟩
    cases z with
    | true =>
      refine iteT ⟨P, s2, R3, k'.bind.mono fun w s4 H4 R4 x4 q4 vw tw => ?_⟩
      obtain ⟨d', e', k4⟩ := run_ofO q4
      exact ⟨P, s4, σ, y, w, d', R4, (ty.xt x3 R2.st).xt x4 R3.st, tw, e', fun v' H' x5 st' fr' => k4 H' (R4.xt x5 st') x5 v' (fr'.back (((x1.trans x2).trans x3).trans x4))⟩
    | false => exact iteF ((k'.now R3) _ (.bl _))
  | _ => exact k'.elim

/-! ### truth -/
def dTru : D → Option Bool
  | .non => some false
  | .bl b => some b
  | .int i => some (i != 0)
  | .str x => if x.length ≤ sizeLine then some ((x.length : Int) != 0) else none
  | .tup ds => some (!ds.isEmpty)
  | .lst ds => some (!ds.isEmpty)
  | _ => none
theorem RpL.empty {K : PySem.W.Frag} {H : Hp} {F : Addr → Prop} {vs : List V} {ds : List D} (h : RpL K H F vs ds) : vs.isEmpty = ds.isEmpty := by cases h <;> rfl
theorem tru_top {P : Pt} {s : S} {H : Hp} {v : V} {d : D} {b : Bool} (h : Top C P s H v d) (e : dTru d = some b) : TruV C.K v H b := by
  rcases h with h | ⟨a, vs, ds, rfl, rfl, _, h, q⟩
  · cases h with
    | non => simp [dTru] at e; subst e; rfl
    | bl b => simp [dTru] at e; subst e; rfl
    | int i => simp only [dTru, Option.some.injEq] at e; subst e; rfl
    | str x =>
      simp only [dTru] at e
      split at e
      · cases e; exact ⟨by assumption, rfl⟩
      · cases e
    | opq v => cases e
    | tup h q => simp only [dTru, Option.some.injEq] at e; subst e; exact .inr (.inl ⟨_, h, by rw [q.empty]⟩)
    | lst f h q => simp only [dTru, Option.some.injEq] at e; subst e; exact .inl ⟨_, .inl (.inl h), by rw [q.empty]⟩
    | scr h q => cases e
  · simp only [dTru, Option.some.injEq] at e; subst e; exact .inl ⟨_, .inl (.inl h), by rw [q.empty]⟩
abbrev EvT' (S : Type) := List Sl → S → Res S Bool
def tT (C : Cn S) (W : L2.WX) (f : EvT' S) : TT := fun σ H Q => ∃ P s, Rel C P σ H s ∧ Run C W P σ H s (f P.ρ s) fun b s' H' => Q b H'
def truth (f : EvF S) : EvT' S := fun ρ s => (f ρ s).bind fun d s1 => ofO (dTru d) s1
theorem pt_mono {e : Expr} {t t' : TT} (h : PT X e t) (i : ∀ σ H Q, t' σ H Q → t σ H Q) : PT X e t' := ⟨fun pins s σ H Q I q => h.run pins s σ H Q I (i σ H Q q)⟩
theorem pt_false {e : Expr} {t : TT} (i : ∀ σ H Q, ¬ t σ H Q) : PT X e t := ⟨fun pins s σ H Q I q => (i σ H Q q).elim⟩
theorem pw_mono {e : Expr} {t t' : TT} (h : PW X e t) (i : ∀ σ H Q, t' σ H Q → t σ H Q) : PW X e t' := ⟨fun wh pins s σ H Q I q => h.run wh pins s σ H Q I (i σ H Q q)⟩
/-- the general test -/
def plainTest : Expr → Bool
  | .UnaryOp .Not _ _ => false
  | .BoolOp _ _ _ => false
  | .IfExp _ _ _ _ => false
  | .Compare _ _ _ _ => false
  | _ => true
theorem st_truth {e : Expr} {f : EvF S} (hK : C.K = X.K) (h : PE X e (tK C W f)) (hp : plainTest e = true) : PT X e (tT C W (truth f)) := by
  refine pt_mono (pt_truth h ?_) fun σ H Q ⟨P, s, R, q⟩ => ⟨P, s, R, q.bind.mono fun d s1 H1 R1 x1 q1 v tv => ?_⟩
  · intro whole
    cases e <;> first | rfl | (simp [plainTest] at hp; done) | (rename_i op _ _; cases op <;> first | rfl | (simp [plainTest] at hp; done))
  · obtain ⟨b, e, k⟩ := run_ofO q1
    exact ⟨b, by rw [← hK]; exact tru_top tv e, k H1 R1 Xt.refl⟩
def testB (f : EvF S) : EvT' S := fun ρ s => (f ρ s).bind fun d s1 => match d with
  | .bl b => .ok b s1
  | _ => .stuck
theorem t_testB {f : EvF S} {σ : L2.St} {H : Hp} {Q : Bool → Hp → Prop} (h : tT C W (testB f) σ H Q) : tF C W f σ H fun x H' => ∃ k, x = .bl k ∧ Q k H' := by
  obtain ⟨P, s, R, q⟩ := h
  refine ⟨P, s, R, q.bind.mono fun d s1 H1 R1 x1 q1 v fr => ?_⟩
  cases d with
  | bl b =>
    have := rp_bl fr.1
    subst this
    exact ⟨b, rfl, q1.now R1⟩
  | _ => exact q1.elim
theorem st_cmp {a b : Expr} {op : CmpOp} {pos : Pos} {fa fb : EvF S} (hK : C.K = X.K) (hu : X.A.units + 65 < cLine) (ha : PE X a (tK C W fa)) (hb : PE X b (tK C W fb)) (hm : behindInMarks op b = false) : PT X (.Compare a [op] [b] pos) (tT C W (testB (bin (dCmp op) fa fb))) :=
  pt_mono (pt_cmpR (od_cmp hu op C hK) ha hb hm) fun σ H Q h => t_bin (t_testB h)
theorem t_chain {op op' : D → D → Option D} {fa fb fc : EvF S} {σ : L2.St} {H : Hp} {Q : VK} (h : tF C W (chain op op' fa fb fc) σ H Q) : tChain (rB C op) (rB C op') (tK C W fa) (tK C W fb) (tK C W fc) σ H Q := by
  obtain ⟨P, s, R, q⟩ := h
  refine ⟨P, s, R, q.bind.mono fun x s1 H1 R1 x1 q1 vx tx => ⟨P, s1, R1, q1.bind.mono fun y s2 H2 R2 x2 q2 vy ty => ?_⟩⟩
  obtain ⟨d, e, k⟩ := run_ofO q2.bind
  refine ⟨P, s2, σ, x, y, d, R2, tx.xt x2 R1.st, ty, e, fun v H3 x3 st3 fr => ?_⟩
  have R3 := R2.xt x3 st3
  have k' := k H3 R3 x3
  cases d with
  | bl z =>
    have ev := rp_bl fr.1
    subst ev
    refine ⟨z, rfl, ?_⟩
    cases z with
    | true =>
      refine iteT ⟨P, s2, R3, k'.bind.mono fun w s4 H4 R4 x4 q4 vw tw => ?_⟩
      obtain ⟨d', e', k4⟩ := run_ofO q4
      exact ⟨P, s4, σ, y, w, d', R4, (ty.xt x3 R2.st).xt x4 R3.st, tw, e', fun v' H' x5 st' fr' => k4 H' (R4.xt x5 st') x5 v' (fr'.back (((x1.trans x2).trans x3).trans x4))⟩
    | false => exact iteF ((k'.now R3) _ (.bl _))
  | _ => exact k'.elim
theorem st_chain {a b c : Expr} {op op' : CmpOp} {pos : Pos} {fa fb fc : EvF S} (hK : C.K = X.K) (hu : X.A.units + 65 < cLine) (ha : PE X a (tK C W fa)) (hb : PE X b (tK C W fb)) (hc : PE X c (tK C W fc)) (hm : lastMarks [op, op'] [b, c] = false) :
    PT X (.Compare a [op, op'] [b, c] pos) (tT C W (testB (chain (dCmp op) (dCmp op') fa fb fc))) :=
  pt_mono (pt_chain (od_cmp hu op C hK) (od_cmp hu op' C hK) ha hb hc hm) fun σ H Q h => t_chain (t_testB h)
def notT (f : EvT' S) : EvT' S := fun ρ s => (f ρ s).bind fun b s1 => .ok (!b) s1
theorem st_not {a : Expr} {pos : Pos} {f : EvT' S} (h : PT X a (tT C W f)) : PT X (.UnaryOp .Not a pos) (tT C W (notT f)) :=
  pt_mono (pt_not h) fun σ H Q ⟨P, s, R, q⟩ => ⟨P, s, R, q.bind.mono fun b s1 H1 R1 x1 q1 => q1.now R1⟩
def andT (f g : EvT' S) : EvT' S := fun ρ s => (f ρ s).bind fun b s1 => if b = true then g ρ s1 else .ok false s1
def orT (f g : EvT' S) : EvT' S := fun ρ s => (f ρ s).bind fun b s1 => if b = true then .ok true s1 else g ρ s1
theorem sw_and {a b : Expr} {rest : List Expr} {pos : Pos} {f g : EvT' S} (h : PT X a (tT C W f)) (h2 : PW X (.BoolOp .And (b :: rest) pos) (tT C W g)) : PW X (.BoolOp .And (a :: b :: rest) pos) (tT C W (andT f g)) :=
  pw_mono (pw_and h h2) fun σ H Q ⟨P, s, R, q⟩ => ⟨P, s, R, q.bind.mono fun b s1 H1 R1 x1 q1 => by
    cases b with
    | true => exact iteT ⟨P, s1, R1, q1⟩
    | false => exact iteF (q1.now R1)⟩
theorem sw_or {a b : Expr} {rest : List Expr} {pos : Pos} {f g : EvT' S} (h : PT X a (tT C W f)) (h2 : PW X (.BoolOp .Or (b :: rest) pos) (tT C W g)) : PW X (.BoolOp .Or (a :: b :: rest) pos) (tT C W (orT f g)) :=
  pw_mono (pw_or h h2) fun σ H Q ⟨P, s, R, q⟩ => ⟨P, s, R, q.bind.mono fun b s1 H1 R1 x1 q1 => by
    cases b with
    | true => exact iteT (q1.now R1)
    | false => exact iteF ⟨P, s1, R1, q1⟩⟩
/-- values: x and y, x or y, not x, y if c else z -/
def andV (f g : EvF S) : EvF S := fun ρ s => (f ρ s).bind fun d s1 => (ofO (dTru d) s1).bind fun b s2 => if b = true then g ρ s2 else .ok d s2
def orV (f g : EvF S) : EvF S := fun ρ s => (f ρ s).bind fun d s1 => (ofO (dTru d) s1).bind fun b s2 => if b = true then .ok d s2 else g ρ s2
theorem sd_and {a b : Expr} {rest : List Expr} {pos : Pos} {f g : EvF S} (hK : C.K = X.K) (h : PE X a (tP C W f)) (h2 : PE X (.BoolOp .And (b :: rest) pos) (tP C W g)) : PE X (.BoolOp .And (a :: b :: rest) pos) (tP C W (andV f g)) :=
  pe_mono (pe_andT h h2) fun σ H Q ⟨P, s, R, q⟩ => ⟨P, s, R, q.bind.mono fun d s1 H1 R1 x1 q1 v rv => by
    obtain ⟨b, e, k⟩ := run_ofO q1.bind
    have k := k H1 R1 Xt.refl
    refine ⟨b, by rw [← hK]; exact tru_top (.inl rv) e, ?_⟩
    cases b with
    | true => exact iteT ⟨P, s1, R1, k⟩
    | false => exact iteF ((k.now R1) v rv)⟩
theorem sd_or {a b : Expr} {rest : List Expr} {pos : Pos} {f g : EvF S} (hK : C.K = X.K) (h : PE X a (tP C W f)) (h2 : PE X (.BoolOp .Or (b :: rest) pos) (tP C W g)) : PE X (.BoolOp .Or (a :: b :: rest) pos) (tP C W (orV f g)) :=
  pe_mono (pe_orT h h2) fun σ H Q ⟨P, s, R, q⟩ => ⟨P, s, R, q.bind.mono fun d s1 H1 R1 x1 q1 v rv => by
    obtain ⟨b, e, k⟩ := run_ofO q1.bind
    have k := k H1 R1 Xt.refl
    refine ⟨b, by rw [← hK]; exact tru_top (.inl rv) e, ?_⟩
    cases b with
    | true => exact iteT ((k.now R1) v rv)
    | false => exact iteF ⟨P, s1, R1, k⟩⟩
def notV (f : EvF S) : EvF S := fun ρ s => (f ρ s).bind fun d s1 => (ofO (dTru d) s1).bind fun b s2 => .ok (.bl (!b)) s2
theorem sd_not {a : Expr} {pos : Pos} {f : EvF S} (hK : C.K = X.K) (h : PE X a (tK C W f)) : PE X (.UnaryOp .Not a pos) (tF C W (notV f)) :=
  pe_mono (pe_notT h) fun σ H Q ⟨P, s, R, q⟩ => ⟨P, s, R, q.bind.mono fun d s1 H1 R1 x1 q1 v tv => by
    obtain ⟨b, e, k⟩ := run_ofO q1.bind
    exact ⟨b, by rw [← hK]; exact tru_top tv e, ((k H1 R1 Xt.refl).now R1) _ (.bl _)⟩⟩
def negV (f : EvF S) : EvF S := fun ρ s => (f ρ s).bind fun d s1 => match d with
  | .int i => .ok (.int (-i)) s1
  | _ => .stuck
theorem sd_neg {a : Expr} {pos : Pos} {f : EvF S} (h : PE X a (tK C W f)) : PE X (.UnaryOp .USub a pos) (tF C W (negV f)) :=
  pe_mono (pe_un un_neg h) fun σ H Q ⟨P, s, R, q⟩ => ⟨P, s, R, q.bind.mono fun d s1 H1 R1 x1 q1 v tv => by
    cases d with
    | int i => exact ⟨i, top_int tv, (q1.now R1) _ (.int _)⟩
    | _ => exact q1.elim⟩
def ifE (c : EvT' S) (f g : EvF S) : EvF S := fun ρ s => (c ρ s).bind fun b s1 => if b = true then f ρ s1 else g ρ s1
theorem sd_if {c a b : Expr} {pos : Pos} {h : EvT' S} {f g : EvF S} (hc : PT X c (tT C W h)) (ha : PE X a (tP C W f)) (hb : PE X b (tP C W g)) : PE X (.IfExp c a b pos) (tP C W (ifE h f g)) :=
  pe_mono (pe_ifExp hc ha hb) fun σ H Q ⟨P, s, R, q⟩ => ⟨P, s, R, q.bind.mono fun b s1 H1 R1 x1 q1 => by
    cases b with
    | true => exact iteT ⟨P, s1, R1, q1⟩
    | false => exact iteF ⟨P, s1, R1, q1⟩⟩
theorem sd_ifF {c a b : Expr} {pos : Pos} {h : EvT' S} {f g : EvF S} (hc : PT X c (tT C W h)) (ha : PE X a (tF C W f)) (hb : PE X b (tF C W g)) : PE X (.IfExp c a b pos) (tF C W (ifE h f g)) :=
  pe_mono (pe_ifExp hc ha hb) fun σ H Q ⟨P, s, R, q⟩ => ⟨P, s, R, q.bind.mono fun b s1 H1 R1 x1 q1 => by
    cases b with
    | true => exact iteT ⟨P, s1, R1, q1.mono fun d s2 H2 R2 x2 k v fr => k v (fr.back x1)⟩
    | false => exact iteF ⟨P, s1, R1, q1.mono fun d s2 H2 R2 x2 k v fr => k v (fr.back x1)⟩⟩
end
end Q

/-! Lay5: displays, subscripts, slices. -/
namespace Q
open PySem L2
section
variable {S : Type} {C : Cn S} {W : L2.WX} {X : Cx}
abbrev EvL' (S : Type) := List Sl → S → Res S (List D)
def tA (C : Cn S) (W : L2.WX) (f : EvL' S) : TA := fun σ H Q => ∃ P s, Rel C P σ H s ∧ Run C W P σ H s (f P.ρ s) fun ds s' H' => ∀ vs, RpL C.K H' (Fc C P s') vs ds → Q vs H'
theorem pa_mono {es : List Expr} {t t' : TA} (h : PA X es t) (i : ∀ σ H Q, t' σ H Q → t σ H Q) : PA X es t' := ⟨fun pos pins s σ H Q I q => h.run pos pins s σ H Q I (i σ H Q q)⟩
def isStar : Expr → Bool
  | .Starred _ _ => true
  | _ => false
theorem star_no {e : Expr} {es : List Expr} {env : Env} (h : isStar e = false) : starEach (e :: es) env = (false, eval e env) :: starEach es env := by
  cases e <;> first | rfl | (simp [isStar] at h; done)
theorem star_nos {es : List Expr} {env : Env} : ∀ {es : List Expr}, es.all (fun e => !isStar e) = true → (starEach es env).any (·.1) = false
  | [], _ => rfl
  | e :: es, h => by
    simp only [List.all_cons, Bool.and_eq_true, Bool.not_eq_true'] at h
    rw [star_no h.1, List.any_cons, star_nos (es := es) h.2]
    rfl
theorem star_back {es : List Expr} {env : Env} {pos : Pos} (h : es.all (fun e => !isStar e) = true) : (backTo pos (starEach es env)).any (·.1) = false := by
  have := star_nos (es := es) (env := env) h
  unfold backTo
  rw [List.any_map]
  exact this
def nilA : EvL' S := fun _ s => .ok [] s
def consA (f : EvF S) (g : EvL' S) : EvL' S := fun ρ s => (f ρ s).bind fun d s1 => (g ρ s1).bind fun ds s2 => .ok (d :: ds) s2
def starA (f : EvF S) (g : EvL' S) : EvL' S := fun ρ s => (f ρ s).bind fun d s1 => match d with
  | .tup xs | .lst xs => (g ρ s1).bind fun ds s2 => .ok (xs ++ ds) s2
  | _ => .stuck
theorem sa_nil : PA X [] (tA C W nilA) := pa_mono pa_nil fun σ H Q ⟨P, s, R, q⟩ => (q.now R) _ .nil
theorem sa_cons {e : Expr} {es : List Expr} {f : EvF S} {g : EvL' S} (he : PE X e (tP C W f)) (hr : PA X es (tA C W g)) (hs : isStar e = false) : PA X (e :: es) (tA C W (consA f g)) :=
  pa_mono (pa_cons he hr (star_no hs)) fun σ H Q ⟨P, s, R, q⟩ => ⟨P, s, R, q.bind.mono fun d s1 H1 R1 x1 q1 v rv => ⟨P, s1, R1, q1.bind.mono fun ds s2 H2 R2 x2 q2 vs rvs => (q2.now R2) _ (.cons (rv.xt x2 R1.st) rvs)⟩⟩
theorem sa_star {e : Expr} {es : List Expr} {p : Pos} {f : EvF S} {g : EvL' S} (hK : C.K = X.K) (he : PE X e (tK C W f)) (hr : PA X es (tA C W g)) : PA X (.Starred e p :: es) (tA C W (starA f g)) :=
  pa_mono (StX.pa_star he hr) fun σ H Q ⟨P, s, R, q⟩ => ⟨P, s, R, q.bind.mono fun d s1 H1 R1 x1 q1 v tv => by
    cases d with
    | tup xs =>
      obtain ⟨a, vs, rfl, h, rv⟩ := tv.tup
      exact ⟨a, vs, rfl, .inl (by rw [← hK]; exact h), P, s1, R1, q1.bind.mono fun ds s2 H2 R2 x2 q2 ws rws => (q2.now R2) _ ((rv.xt x2 R1.st).append rws)⟩
    | lst xs =>
      obtain ⟨a, vs, rfl, h, rv⟩ := tv.lst
      exact ⟨a, vs, rfl, .inr (.inl (.inl h)), P, s1, R1, q1.bind.mono fun ds s2 H2 R2 x2 q2 ws rws => (q2.now R2) _ ((rv.xt x2 R1.st).append rws)⟩
    | _ => exact q1.elim⟩
def tupE (f : EvL' S) : EvF S := fun ρ s => (f ρ s).bind fun ds s1 => if ds.length ≤ sizeLine then .ok (.tup ds) s1 else .stuck
def lstE (f : EvL' S) : EvF S := fun ρ s => (f ρ s).bind fun ds s1 => if ds.length ≤ sizeLine then .ok (.lst ds) s1 else .stuck
theorem sd_tup {es : List Expr} {k : Nat} {pos : Pos} {f : EvL' S} (h : PA X es (tA C W f)) : PE X (.Tuple es k pos) (tF C W (tupE f)) :=
  pe_mono (pe_tup h) fun σ H Q ⟨P, s, R, q⟩ => ⟨P, s, R, q.bind.mono fun ds s1 H1 R1 x1 q1 vs rv => by
    split at q1
    · rename_i hz
      exact ⟨by rw [rv.length]; exact hz, fun p hp => q1 _ (R1.new hp) (Xt.new hp) _ ((Fr.newT R1 hp rv).back x1)⟩
    · exact q1.elim⟩
theorem sd_lst {es : List Expr} {pos : Pos} {f : EvL' S} (h : PA X es (tA C W f)) : PE X (.List es pos) (tF C W (lstE f)) :=
  pe_mono (pe_lst h) fun σ H Q ⟨P, s, R, q⟩ => ⟨P, s, R, q.bind.mono fun ds s1 H1 R1 x1 q1 vs rv => by
    split at q1
    · rename_i hz
      exact ⟨by rw [rv.length]; exact hz, fun p hp => q1 _ (R1.new hp) (Xt.new hp) _ ((Fr.newL R1 hp rv).back x1)⟩
    · exact q1.elim⟩

/-! ### items -/
def dIx : D → D → Option D
  | .tup ds, .int i => atI ds i
  | .lst ds, .int i => atI ds i
  | .scr ds, .int i => atI ds i
  | .str z, .int i => if z.length ≤ sizeLine then (atI z.cps.toList i).map fun c => .str ⟨#[c]⟩ else none
  | _, _ => none
theorem RpL.atI {K : PySem.W.Frag} {H : Hp} {F : Addr → Prop} {vs : List V} {ds : List D} {i : Int} {d : D} (h : RpL K H F vs ds) (e : L2.atI ds i = some d) : ∃ v, L2.atI vs i = some v ∧ Rp K H F v d := by
  unfold L2.atI at e ⊢
  rw [h.length]
  cases q : ixN ds.length i with
  | none => rw [q] at e; cases e
  | some j =>
    rw [q] at e
    obtain ⟨v, e1, e2⟩ := h.get (i := j) (d := d) e
    exact ⟨v, e1, e2⟩
def rIxQ (C : Cn S) : R2 := fun x y H Q => ∃ P s σ dx dy d, Rel C P σ H s ∧ Top C P s H x dx ∧ Top C P s H y dy ∧ dIx dx dy = some d ∧ ∀ v, Rp C.K H (Fc C P s) v d → Q v H
theorem Top.scr {P : Pt} {s : S} {H : Hp} {v : V} {ds : List D} (h : Top C P s H v (.scr ds)) : ∃ a vs, v = .ref a ∧ Frz C.K H a vs ∧ RpL C.K H (Fc C P s) vs ds := by
  rcases h with h | ⟨a, vs, ds', e1, e2, na, e, q⟩
  · cases h with
    | scr h q => exact ⟨_, _, rfl, h, q⟩
  · cases e2
theorem ixq (hK : C.K = X.K) : IxR X (rIxQ C) := by
  intro value slice pins s σ H x y v u Q I rx ry h hs
  refine ix_seq value slice pins s σ H x y v u Q I rx ry ?_ hs
  obtain ⟨P, st, σ', dx, dy, d, R, tx, ty, e, k⟩ := h
  cases dx <;> cases dy <;> simp only [dIx, reduceCtorEq] at e
  · split at e
    · simp only [Option.map_eq_some_iff] at e
      obtain ⟨c, e, rfl⟩ := e
      exact .inr (.inr ⟨_, _, c, top_str tx, top_int ty, by assumption, e, k _ (.str _)⟩)
    · cases e
  · obtain ⟨a, vs, rfl, h, rv⟩ := tx.tup
    obtain ⟨w, e1, e2⟩ := rv.atI e
    exact .inr (.inl ⟨a, vs, _, w, rfl, top_int ty, by rw [← hK]; exact h, e1, k _ e2⟩)
  · obtain ⟨a, vs, rfl, h, rv⟩ := tx.lst
    obtain ⟨w, e1, e2⟩ := rv.atI e
    exact .inl ⟨a, vs, _, w, rfl, top_int ty, .inl (.inl h), e1, k _ e2⟩
  · obtain ⟨a, vs, rfl, h, rv⟩ := tx.scr
    obtain ⟨w, e1, e2⟩ := rv.atI e
    exact .inl ⟨a, vs, _, w, rfl, top_int ty, by rw [← hK]; exact h.sq, e1, k _ e2⟩
def isSlice : Expr → Bool
  | .Slice _ _ _ _ => true
  | _ => false
theorem plainIx_of {b : Expr} (h : isSlice b = false) : PlainIx b := by
  intro o i
  cases b <;> first | rfl | (simp [isSlice] at h; done)
theorem sd_ix {a b : Expr} {pos : Pos} {fa fb : EvF S} (hK : C.K = X.K) (ha : PE X a (tK C W fa)) (hb : PE X b (tK C W fb)) (hs : isSlice b = false) : PE X (.Subscript a b pos) (tP C W (bin dIx fa fb)) := by
  refine pe_mono (pe_ix (ixq hK) ha hb (plainIx_of hs)) fun σ H Q ⟨P, s, R, q⟩ => ?_
  refine ⟨P, s, R, q.bind.mono fun x s1 H1 R1 x1 q1 vx tx => ⟨P, s1, R1, q1.bind.mono fun y s2 H2 R2 x2 q2 vy ty => ?_⟩⟩
  obtain ⟨d, e, k⟩ := run_ofO q2
  exact ⟨P, s2, σ, x, y, d, R2, tx.xt x2 R1.st, ty, e, k H2 R2 Xt.refl⟩

/-! ### slices -/
def cutD {α : Type} (xs : List α) (lo hi : Option Int) : List α := (xs.drop (HT.sIx xs.length 0 lo)).take (HT.sIx xs.length xs.length hi - HT.sIx xs.length 0 lo)
theorem RpL.cut {K : PySem.W.Frag} {H : Hp} {F : Addr → Prop} {vs : List V} {ds : List D} (h : RpL K H F vs ds) (lo hi : Option Int) : RpL K H F (cutV vs lo hi) (cutD ds lo hi) := by
  unfold cutV cutD
  rw [h.length]
  exact (h.drop _).take _
def dSl : D → Option Int → Option Int → Option D
  | .tup ds, lo, hi => some (.tup (cutD ds lo hi))
  | .lst ds, lo, hi => some (.lst (cutD ds lo hi))
  | .str z, lo, hi => if z.length ≤ sizeLine then some (.str (cutS z lo hi)) else none
  | _, _, _ => none
def rSlQ (C : Cn S) : V → Option Int → Option Int → Hp → VK → Prop := fun x lo hi H Q => ∃ P s σ dx d, Rel C P σ H s ∧ Top C P s H x dx ∧ dSl dx lo hi = some d ∧ ∀ v H', Xt C.T s s H H' → C.T.R s H' → Fr C P s H H' v d → Q v H'
theorem slq (hK : C.K = X.K) : SlR X (rSlQ C) := by
  intro pins s σ H x v vl vu lo hi sl Q I rx is pl pu h
  refine (SlR.or sl_list (SlR.or sl_tupA sl_str)) pins s σ H x v vl vu lo hi sl Q I rx is pl pu ?_
  obtain ⟨P, st, σ', dx, d, R, tx, e, k⟩ := h
  cases dx <;> simp only [dSl, reduceCtorEq] at e
  · split at e
    · cases e
      exact .inr (.inr ⟨_, top_str tx, by assumption, k _ _ Xt.refl R.st (.str _)⟩)
    · cases e
  · cases e
    obtain ⟨a, vs, rfl, h, rv⟩ := tx.tup
    refine .inr (.inl ⟨a, vs, rfl, by rw [← hK]; exact h, fun z => ?_, fun _ p hp => k _ _ (Xt.new hp) (st_new R.st hp) (Fr.newT R hp (rv.cut lo hi))⟩)
    have := rv.cut lo hi
    unfold cutV at this
    rw [z.1, z.2, Nat.sub_zero, List.drop_zero, List.take_length] at this
    exact k _ _ Xt.refl R.st (Fr.plain (.tup h this) fun _ e => nomatch e)
  · cases e
    obtain ⟨a, vs, rfl, h, rv⟩ := tx.lst
    exact .inl ⟨a, vs, rfl, .inl (.inl h), fun p hp => k _ _ (Xt.new hp) (st_new R.st hp) (Fr.newL R hp (rv.cut lo hi))⟩
abbrev EvO' (S : Type) := List Sl → S → Res S (Option Int)
def tO (C : Cn S) (W : L2.WX) (f : EvO' S) : TO := fun σ H Q => ∃ P s, Rel C P σ H s ∧ Run C W P σ H s (f P.ρ s) fun o s' H' => Q o H'
def noneO : EvO' S := fun _ s => .ok none s
def someO (f : EvF S) : EvO' S := fun ρ s => (f ρ s).bind fun d s1 => match d with
  | .int i => .ok (some i) s1
  | _ => .stuck
theorem po_mono {e : Option Expr} {t t' : TO} (h : PO X e t) (i : ∀ σ H Q, t' σ H Q → t σ H Q) : PO X e t' := ⟨fun pins s σ H Q I q => h.run pins s σ H Q I (i σ H Q q)⟩
theorem so_none : PO X none (tO C W noneO) := po_mono po_none fun σ H Q ⟨P, s, R, q⟩ => q.now R
theorem so_some {e : Expr} {f : EvF S} (h : PE X e (tK C W f)) : PO X (some e) (tO C W (someO f)) := po_mono (po_some h) fun σ H Q ⟨P, s, R, q⟩ => ⟨P, s, R, q.bind.mono fun d s1 H1 R1 x1 q1 v tv => by
  cases d with
  | int i => exact ⟨i, top_int tv, q1.now R1⟩
  | _ => exact q1.elim⟩
def slE (f : EvF S) (g h : EvO' S) : EvF S := fun ρ s => (f ρ s).bind fun x s1 => (g ρ s1).bind fun lo s2 => (h ρ s2).bind fun hi s3 => ofO (dSl x lo hi) s3
theorem sd_sl {e : Expr} {lo hi : Option Expr} {p2 pos : Pos} {f : EvF S} {g h : EvO' S} (hK : C.K = X.K) (he : PE X e (tK C W f)) (hl : PO X lo (tO C W g)) (hh : PO X hi (tO C W h)) : PE X (.Subscript e (.Slice lo hi none p2) pos) (tF C W (slE f g h)) := by
  refine pe_mono (pe_slice (slq hK) he hl hh) fun σ H Q ⟨P, s, R, q⟩ => ?_
  refine ⟨P, s, R, q.bind.mono fun x s1 H1 R1 x1 q1 vx tx => ⟨P, s1, R1, q1.bind.mono fun lo s2 H2 R2 x2 q2 => ⟨P, s2, R2, q2.bind.mono fun hi s3 H3 R3 x3 q3 => ?_⟩⟩⟩
  obtain ⟨d, e, k⟩ := run_ofO q3
  exact ⟨P, s3, σ, x, d, R3, (tx.xt x2 R1.st).xt x3 R2.st, e, fun v H' x4 st' fr => k H' (R3.xt x4 st') x4 v (fr.back ((x1.trans x2).trans x3))⟩
end
end Q

/-! Lay6: defs by what they do to data; their calls. -/
namespace Q
open PySem L2
/-- a def: how many arguments; whether a list that it returns is a new one; what it does -/
structure Fn (S : Type) where
  n : Nat
  fr : Bool
  F : List D → S → Res S D
/-- a result, F where its lists lie, H the heap ahead -/
def FrP (K : PySem.W.Frag) (H H' : Hp) (F : Addr → Prop) (fr : Bool) (v : V) (d : D) : Prop :=
  Rp K H' F v d ∧ (fr = true → ∀ ds, d = .lst ds → ∃ a vs, v = .ref a ∧ H a = none ∧ H' a = some (.lst vs) ∧ RpL K H' (fun x => F x ∧ x ≠ a) vs ds)
section
variable {S : Type}
def RetF (T : StK S) (F0 : Addr → Prop) (H : Hp) (s' : S) (a : Addr) : Prop := (F0 a ∨ H a = none) ∧ ¬ T.A s' a
/-- the promise of a def -/
def spS (K : PySem.W.Frag) (T : StK S) (cls : Str → Option Addr) (f : Fn S) : Sp := fun vs H Q E => vs.length = f.n ∧ ∃ ds s F0, RpL K H F0 vs ds ∧ T.R s H ∧ (∀ a, F0 a → ¬ T.A s a) ∧ (match f.F ds s with
  | .ok d s' => ∀ v H', Xt T s s' H H' → T.R s' H' → FrP K H H' (RetF T F0 H s') f.fr v d → Q v H'
  | .err x s' => ∀ c dd H', Xt T s s' H H' → T.R s' H' → RX (⟨K, T, H, s, F0, cls⟩ : Cn S) (RetF T F0 H s') H' x c dd → E c dd H'
  | .stuck => False)
theorem spS_len {K : PySem.W.Frag} {T : StK S} {cls : Str → Option Addr} {f : Fn S} {vs : List V} {H : Hp} {Q : VK} {E : XK} (h : spS K T cls f vs H Q E) : vs.length = f.n := h.1
/-- no state -/
def TU : StK Unit := ⟨fun _ _ => True, fun _ _ => False, fun _ h => h.elim, fun _ _ => trivial⟩
def liftR {α : Type} (r : Res Unit α) (s : S) : Res S α := match r with
  | .ok d _ => .ok d s
  | .err x _ => .err x s
  | .stuck => .stuck
def Fn.lift (f : Fn Unit) : Fn S := ⟨f.n, f.fr, fun ds s => liftR (f.F ds ()) s⟩
theorem FrP.mono {K : PySem.W.Frag} {H H' : Hp} {F F' : Addr → Prop} {fr : Bool} {v : V} {d : D} (h : FrP K H H' F fr v d) (i : ∀ a, F a → H' a ≠ none → F' a) : FrP K H H' F' fr v d :=
  ⟨h.1.wk i, fun e ds q => let ⟨a, vs, e1, e2, e3, r⟩ := h.2 e ds q; ⟨a, vs, e1, e2, e3, r.wk fun x f n => ⟨i x f.1 n, f.2⟩⟩⟩
theorem sp_lift {K : PySem.W.Frag} {T : StK S} {cls : Str → Option Addr} {f : Fn Unit} {vs : List V} {H : Hp} {Q : VK} {E : XK} (h : spS K T cls f.lift vs H Q E) : spS K TU cls f vs H Q E := by
  obtain ⟨hn, ds, s, F0, r, st, na, k⟩ := h
  refine ⟨hn, ds, (), F0, r, trivial, fun _ _ z => z, ?_⟩
  have e : (f.lift : Fn S).F ds s = liftR (f.F ds ()) s := rfl
  rw [e] at k
  have back : ∀ {H'}, Xt TU () () H H' → Xt T s s H H' := fun x => ⟨fun a o e _ => x.keep a o e (fun z => z), x.live, fun _ q => .inl q⟩
  have stm : ∀ {H'}, Xt TU () () H H' → T.R s H' := fun x => T.mono st fun a o _ e => x.keep a o e (fun z => z)
  have fm : ∀ {a : Addr}, RetF TU F0 H () a → RetF T F0 H s a := fun {a} f => ⟨f.1, fun q => f.1.elim (fun z => na a z q) fun z => nN st z q⟩
  cases q : f.F ds () with
  | ok d u =>
    rw [q] at k
    exact fun v H' x _ fr => k v H' (back x) (stm x) (FrP.mono fr fun a f _ => fm f)
  | err x u =>
    rw [q] at k
    intro c dd H' y _ rx
    refine k c dd H' (back y) (stm y) ?_
    obtain ⟨cc, h1, h2, h3, h4⟩ := rx
    refine ⟨cc, h1, h2, h3, fun z => ?_⟩
    obtain ⟨dx, ws, g1, g2, g3⟩ := h4 z
    exact ⟨dx, ws, g1, g2, g3.wk fun a f _ => fm f⟩
  | stuck =>
    rw [q] at k
    exact k
end

/-- a def's promise, called where no repr is going on -/
structure FnG (P : Program) (w : World) (K : PySem.W.Frag) (mg : Str → Option Value) (base : Heap) (CX : CXT) (k : Nat) (f : Addr) (fd : FuncData) (ps : List Str) (sp : Sp) : Prop where
  len : ∀ vs H Q E, sp vs H Q E → vs.length = ps.length
  run : ∀ (A : Around) (outer : List Env) (s : Shared) (H : Hp) (args : Args) (us : List Value) (vs : List V) (Q : VK) (E : XK), Room k A → A.guards = some [] → Env0 P w K mg base A outer s H → BindsTo s fd args (ps.zip us) → Vals vs us → sp vs H Q E →
    codeAny (model P w) A (.call (.ref f) args) (CR CX outer P w H s Q E) s
theorem FnG.of {P : Program} {w : World} {K : PySem.W.Frag} {mg : Str → Option Value} {base : Heap} {CX : CXT} {k : Nat} {f : Addr} {fd : FuncData} {ps : List Str} {sp : Sp} (F : FnOk P w K mg base CX k f fd ps sp) : FnG P w K mg base CX k f fd ps sp :=
  ⟨F.len, fun A outer s H args us vs Q E hr _ => F.run A outer s H args us vs Q E hr⟩
theorem FnG.imp {P : Program} {w : World} {K : PySem.W.Frag} {mg : Str → Option Value} {base : Heap} {CX : CXT} {k : Nat} {f : Addr} {fd : FuncData} {ps : List Str} {sp sp' : Sp} (F : FnG P w K mg base CX k f fd ps sp) (h : ∀ vs H Q E, sp' vs H Q E → sp vs H Q E) : FnG P w K mg base CX k f fd ps sp' :=
  ⟨fun vs H Q E q => F.len vs H Q E (h _ _ _ _ q), fun A outer s H args us vs Q E hr hg he hb hv hs => F.run A outer s H args us vs Q E hr hg he hb hv (h _ _ _ _ hs)⟩
section
variable {S : Type} {C : Cn S} {W : L2.WX} {X : Cx}
theorem run_fnG {CX : CXT} {k : Nat} {f : Addr} {fd : FuncData} {ps : List Str} {sp : Sp} {E : L2.St → XK} {pins : List (Addr × Obj)} {σ : L2.St} {H : Hp} {s : Shared} {Q : VK} {us : List Value} {vs : List V} (F : FnG X.prog X.w X.K X.mg X.base CX k f fd ps sp) (hr : Room k X.A) (hgd : X.A.guards = some [])
    (hb : Binds X.K fd ps []) (hx : PassesAt CX X σ (E σ)) (I : L2.Inv X pins σ H s) (r : Vals vs us) (h : sp vs H Q (E σ)) : wpAny (model X.prog X.w) X.A (call (.ref f) us) (EP X pins σ Q) X.xe s := by
  have hl : us.length = ps.length := by rw [← r.length]; exact F.len _ _ _ _ h
  have b := hb s us I.kIn (by rw [List.append_nil]; exact hl)
  rw [List.append_nil] at b
  refine wpAny_call (codeAny_mono (F.run X.A X.stack s H ⟨us, []⟩ us vs Q (E σ) hr hgd I.env0 b r h) fun r s' hq => ?_)
  cases r with
  | error e => exact hx pins H s e s' I hq
  | ok fl => cases fl <;> first | exact I.after hq | exact False.elim hq
structure CalOk (C : Cn S) (X : Cx) (x : Str) (f : Fn S) : Prop where
  ok : ∃ (a : Addr) (fd : FuncData) (ps : List Str) (k : Nat), FnG X.prog X.w X.K X.mg X.base (L2.CX X.prog X.w) k a fd ps (spS C.K C.T C.cls f) ∧ Room k X.A ∧ X.mg x = some (.ref a) ∧ PySem.W.keepIn X.K (.ref a) = true ∧ Binds X.K fd ps []
def callF (f : Fn S) (g : EvL' S) : EvF S := fun ρ s => (g ρ s).bind fun ds s1 => if ds.length = f.n then f.F ds s1 else .stuck
/-- what a call asks of its end -/
theorem t_call {f : Fn S} {g : EvL' S} {σ : L2.St} {H : Hp} {Q : VK} {P : Pt} {s : S} (R : Rel C P σ H s)
    (q : Run C W P σ H s (callF f g P.ρ s) fun d s' H' => ∀ v, (Rp C.K H' (Fc C P s') v d) → (f.fr = true → Fr C P s' H H' v d) → Q v H') :
    tA C W g σ H fun vs H1 => spS C.K C.T C.cls f vs H1 Q (WE W σ) := by
  refine ⟨P, s, R, q.bind.mono fun ds s1 H1 R1 x1 q1 vs rv => ?_⟩
  split at q1
  · rename_i hn
    refine ⟨rv.length.trans hn, ds, s1, Fc C P s1, rv, R1.st, fun a z => z.2.2.2, ?_⟩
    have fc : ∀ {s2 : S} {a : Addr}, RetF C.T (Fc C P s1) H1 s2 a → Fc C P s2 a := fun {s2 a} z => by
      rcases z.1 with y | y
      · exact ⟨y.1, y.2.1, y.2.2.1, z.2⟩
      · have w := R1.fresh y
        exact ⟨w.1, w.2.1, w.2.2.1, z.2⟩
    cases e : f.F ds s1 with
    | ok d s2 =>
      rw [e] at q1
      intro v H2 x2 st2 fr
      refine q1 H2 (R1.xt x2 st2) x2 v (fr.1.wk fun a z _ => fc z) fun hf => ⟨fr.1.wk fun a z _ => fc z, fun es e' => ?_⟩
      obtain ⟨a, ws, h1, h2, h3, h4⟩ := fr.2 hf es e'
      exact ⟨a, ws, h1, x1.none_of h2, h3, h4.wk fun b z _ => ⟨fc z.1, z.2⟩⟩
    | err x s2 =>
      rw [e] at q1
      intro c dd H2 x2 st2 rx
      refine q1 c dd H2 (R1.xt x2 st2) x2 ?_
      obtain ⟨cc, h1, h2, h3, h4⟩ := rx
      refine ⟨cc, h1, h2, h3, fun z => ?_⟩
      obtain ⟨dx, ws, g1, g2, g3⟩ := h4 z
      exact ⟨dx, ws, g1, g2, g3.wk fun a f _ => fc f⟩
    | stuck =>
      rw [e] at q1
      exact q1
  · exact q1.elim
theorem gl_of {N : List Str} {sc : Scope} (k : Xk C W X N sc) {x : Str} (h : glB sc x = true) : Gl X x ∧ (x == ("__debug__" : Str)) = false ∧ x ≠ ("__name__" : Str) := by
  unfold glB at h
  simp only [Bool.and_eq_true, bne_iff_ne, ne_eq, beq_iff_eq] at h
  refine ⟨?_, by simpa using h.1.2, h.2⟩
  show X.env.kindOf x = _
  unfold Env.kindOf
  rw [k.scope]
  exact h.1.1
theorem pe_call_any {N : List Str} {sc : Scope} (k : Xk C W X N sc) {x : Str} {f : Fn S} {g : EvL' S} {es : List Expr} {p pos : Pos} (c : CalOk C X x f) (hg : glB sc x = true) (ha : PA X es (tA C W g)) (hs : es.all (fun e => !isStar e) = true) (hn : es = [] → g = nilA) :
    PE X (.Call (.Name x p) es [] pos) (fun σ H Q => tA C W g σ H fun vs H1 => spS C.K C.T C.cls f vs H1 Q (WE W σ)) := by
  obtain ⟨a, fd, ps, kk, F, hr, hm, hk, hb⟩ := c.ok
  obtain ⟨h1, h2, h3⟩ := gl_of k hg
  cases es with
  | nil =>
    refine ⟨fun pins s σ H Q I h => ?_⟩
    refine wpAny_Call_Name_kw (ld_glob I h1 hm ?_ h2)
    refine PySem.W.callWith_K0 I.kIn hk ?_
    rw [hn rfl] at h
    obtain ⟨P, st, R, q⟩ := h
    exact run_fnG (E := WE W) F hr k.gd hb (passAt k.tk σ) I .nil ((q.now R) _ .nil)
  | cons e es =>
    simp only [List.all_cons, Bool.and_eq_true, Bool.not_eq_true'] at hs
    refine ⟨fun pins s σ H Q I h => ?_⟩
    refine wpAny_Call_Name_kw (ld_glob I h1 hm ?_ h2)
    refine PySem.W.callWith_K (h₀ := X.base) I.ok.mod.kin hk (thn (ha.run pos pins s σ H _ I h) fun us s1 ⟨vs, H1, I1, r, q⟩ => ⟨I1.kIn, ?_⟩) (star_no hs.1) (star_back hs.2)
    exact run_fnG (E := WE W) F hr k.gd hb (passAt k.tk σ) I1 r q
theorem sd_call {N : List Str} {sc : Scope} (k : Xk C W X N sc) {x : Str} {f : Fn S} {g : EvL' S} {es : List Expr} {p pos : Pos} (c : CalOk C X x f) (hg : glB sc x = true) (ha : PA X es (tA C W g)) (hs : es.all (fun e => !isStar e) = true) (hn : es = [] → g = nilA) :
    PE X (.Call (.Name x p) es [] pos) (tP C W (callF f g)) :=
  pe_mono (pe_call_any k c hg ha hs hn) fun σ H Q ⟨P, s, R, q⟩ => t_call R (q.mono fun d s' H' _ _ kk v rv _ => kk v rv)
theorem sd_callF {N : List Str} {sc : Scope} (k : Xk C W X N sc) {x : Str} {f : Fn S} {g : EvL' S} {es : List Expr} {p pos : Pos} (c : CalOk C X x f) (hf : f.fr = true) (hg : glB sc x = true) (ha : PA X es (tA C W g)) (hs : es.all (fun e => !isStar e) = true) (hn : es = [] → g = nilA) :
    PE X (.Call (.Name x p) es [] pos) (tF C W (callF f g)) :=
  pe_mono (pe_call_any k c hg ha hs hn) fun σ H Q ⟨P, s, R, q⟩ => t_call R (q.mono fun d s' H' _ _ kk v _ fr => kk v (fr hf))
end
end Q

set_option maxHeartbeats 1000000
/-! Lay7: what a for, a comprehension walks. -/
namespace PySem
open Sem (wp)
open AutoSeq1 (wpAny_loadPart')
/-- enumerate of a tuple -/
theorem meets_enumerate_newT (l : Addr) (items : Array Value) (n : Nat) (dct : Option Addr) (sl : Array (Option Value)) :
    Meets (Builtin.«enumerate.__new__» ⟨[.type "enumerate", .ref l], []⟩) (fun _ R s => s.heap.get? l = some { cls := .type "tuple", dict := dct, data := .seq items n, slots := sl } ∧
      R (.ok (.ret (.ref (s.heap.push { cls := .type "tuple_iterator", data := .fields #[.ref l, .int 0 0] }).objs.size)))
        { s with heap := (s.heap.push { cls := .type "tuple_iterator", data := .fields #[.ref l, .int 0 0] }).push { cls := .type "enumerate", data := .fields #[.none, .bool false, .ref s.heap.objs.size, rawInt 0, .none, .none] } }) :=
  .of_wp fun prog w A R s h => by
    obtain ⟨hp, g, d, tk, os⟩ := s; obtain ⟨hl, h⟩ := h
    have hsub := sub_enumerate
    have hL : Heap.IsTuple (Shared.heap ⟨hp, g, d, tk, os⟩) l items := ⟨_, hl, rfl, n, rfl⟩
    wp_walk using wpAny_loadPart' hl
    refine wpAny_stack_any fun st => wpAny_pure ?_
    split
    · rename_i c _ _ _ _ _
      cases (c == Value.type "enumerate")
      · wp_walk using wpAny_loadPart' hl, wpAny_pyIter_tuple hL
        exact ⟨_, rfl, h⟩
      · wp_walk using wpAny_loadPart' hl, wpAny_pyIter_tuple hL
        exact ⟨_, rfl, h⟩
    · wp_walk using wpAny_loadPart' hl, wpAny_pyIter_tuple hL
      exact ⟨_, rfl, h⟩
section
variable {prog : Program} {w : World} {A : Around} {E : Value → Shared → Prop} {s : Shared}
theorem call_enumerate_tuple {l : Addr} {items : Array Value} {Q : Value → Shared → Prop} (hL : s.heap.IsTuple l items)
    (h : ∀ h', IsEnum h' (s.heap.objs.size + 1) s.heap.objs.size 0 .none → h'.IsTupleIter s.heap.objs.size l 0 → h'.objs.size = s.heap.objs.size + 2 →
      (∀ b o, s.heap.get? b = some o → h'.get? b = some o) → Q (.ref (s.heap.objs.size + 1)) { s with heap := h' }) :
    wpAny (model prog w) A (call (.type "enumerate") [.ref l]) Q E s := by
  obtain ⟨⟨c, dct, dt, sl⟩, hl, hc, n, hd⟩ := hL
  replace hc : c = .type "tuple" := hc
  replace hd : dt = .seq items n := hd
  subst hc hd
  refine callType_new F.called_enumerate (by decide) (F.typeCall_enumerate_1 _) (F.newCall_enumerate_1 _) (fun obj => F.args_object_init_2 obj _) F.entry_enumerate_new
    (meets_enumerate_newT l items n dct sl) ⟨hl, ?_⟩
  have hz : (s.heap.push { cls := .type "tuple_iterator", data := .fields #[.ref l, .int 0 0] }).objs.size = s.heap.objs.size + 1 := Heap.size_push ..
  show _ ∧ _
  rw [hz]
  have he : IsEnum ((s.heap.push { cls := .type "tuple_iterator", data := .fields #[.ref l, .int 0 0] }).push
      { cls := .type "enumerate", data := .fields #[.none, .bool false, .ref s.heap.objs.size, rawInt 0, .none, .none] }) (s.heap.objs.size + 1) s.heap.objs.size 0 .none := by
    have := Heap.get?_push_size (s.heap.push { cls := .type "tuple_iterator", data := .fields #[.ref l, .int 0 0] })
      (o := { cls := .type "enumerate", data := .fields #[.none, .bool false, .ref s.heap.objs.size, rawInt 0, .none, .none] }) rfl
    rw [hz] at this; exact this
  refine ⟨⟨_, he, rfl⟩, h _ he ⟨_, Heap.get?_push_of_some _ (Heap.get?_push_size _ rfl), rfl, rfl⟩ (by rw [Heap.size_push, hz]) fun b o x => Heap.get?_push_of_some _ (Heap.get?_push_of_some _ x)⟩
theorem wpAny_pyNext_enum_endT {e it l : Addr} {i : Nat} {items : Array Value} {old : Value} {Q : Option Value → Shared → Prop} (hh : A.handled = none)
    (he : IsEnum s.heap e it i old) (hit : s.heap.IsTupleIter it l i) (hl : s.heap.IsTuple l items) (hx : items[i]? = none)
    (hQ : ∀ h', Heap.ExtBut it s.heap h' → Q none { s with heap := h' }) : wpAny (model prog w) A (pyNext (.ref e)) Q E s := by
  have hT : s.TypeIs (.ref e) "enumerate" := ⟨_, he, rfl⟩
  unfold pyNext
  refine wpAny_bind (wpAny_attempt (wpAny_callSpecial?_slot (name := Str.ofString "__next__") hT F.slot_enumerate_next
    (wpAny_call_entry F.slot_enumerate_next hT F.entry_enumerate_next ?_ (F.args_enumerate_next_1 _))))
  show wpAny _ _ (field (.ref e) 2 >>= _) _ _ _
  refine wpAny_bind (wpAny_field he rfl (x := .ref it) rfl ?_)
  refine wpAny_bind (wpAny_nextOf_tuple_end hh hit hl hx fun h' x he' hx' => ?_)
  obtain ⟨o, ho, hc⟩ := hx'
  refine wpAny_bind (wpAny_isInstance (T := "StopIteration") (b := true) ⟨o, ho, hc⟩ isSubtype_stop ?_)
  exact wpAny_pure (hQ _ he')
end
end PySem
namespace L2
open PySem PySem.Spec PyProof.Rows
def IteT (K : PySem.W.Frag) (a : Addr) : It :=
  ⟨fun i H => ∃ (xs : List V) (x : V), SqT K H a xs ∧ xs[i]? = some x, fun i H v H' => ∃ T x, v = .ref T ∧ H T = none ∧ H' = upd H T (.tup [.int (i : Nat), x]) ∧ ∀ xs, SqT K H a xs → xs[i]? = some x, fun i H => ∃ xs : List V, SqT K H a xs ∧ xs.length ≤ i⟩
theorem turn_enumT {P : Program} {w : World} {K : PySem.W.Frag} {elts : List Expr} {kk : Nat} {tpos : Pos} (a e it : Addr) (hae : a ≠ it) (hea : e ≠ a) :
    Turn P w K (.Tuple elts kk tpos) (IteT K a) [e, it] e (fun i h => (∃ old, IsEnum h e it ((i : Nat) : Int) old) ∧ h.IsTupleIter it a i ∧ e ≠ it) where
  mem := by simp
  obj := fun i h st b hb => by
    obtain ⟨⟨old, he⟩, ⟨o, ho, hc, hd⟩, _⟩ := st
    have e' : b = e ∨ b = it := by simpa using hb
    rcases e' with z | z
    · rw [z]; exact ⟨_, he, fun v q => nomatch q⟩
    · rw [z]; exact ⟨o, ho, fun v q => by rw [hd] at q; cases q⟩
  keep := fun i h h' st k => let ⟨⟨old, he⟩, hi, hne⟩ := st; ⟨⟨old, k e (by simp) _ he⟩, hi.at fun o q => k it (by simp) o q, hne⟩
  item := by
    intro X hP hw hK hc i pins s σ H E I hf st hg
    subst hP hw hK
    obtain ⟨⟨old, he⟩, hit, hne⟩ := st
    obtain ⟨xs, x, hq, hx⟩ := hg
    obtain ⟨its, rv, p, hz⟩ := I.tuple hq
    obtain ⟨u, hu, ru⟩ := rv.get hx
    have hel : e < s.heap.objs.size := Heap.lt_size he
    have hil : it < s.heap.objs.size := by obtain ⟨_, q, _⟩ := hit; exact Heap.lt_size q
    have hp : s.heap.IsTuple a its.toArray := p
    refine wpAny_pyNext_enum_itemD (Draws.tuple (A := X.A.in1) (show X.A.handled = none from I.ok.hd hc) it a hae its.toArray) he ⟨hit, hp⟩ (by have := (List.getElem?_eq_some_iff.mp hu).1; simpa using this) hne (by simp [hne, hea]) fun u' h' tk hu' ho hit' hT hsz hk => ?_
    have eu : u' = u := by
      have q : its[i]? = some u' := by simpa using hu'
      rw [hu] at q
      exact (Option.some.inj q).symm
    subst eu
    refine ⟨_, rfl, wpAny_letOwnedTupleGo_enum (s := { s with heap := h', toks := tk + 1 }) ho fun h'' he' sb => ?_⟩
    have hT2 : h''.get? s.heap.objs.size = some { cls := .type "tuple", data := .seq #[.int i tk, u'] } := (sb.2 _ (Nat.ne_of_gt hel)).trans hT
    have new : ObjOk X.prog X.w (upd H s.heap.objs.size (.tup [.int (i : Nat), x])) h'' s.heap.objs.size (.tup [.int (i : Nat), x]) :=
      ⟨by show 2 ≤ sizeLine; decide, [.int i tk, u'], .cons ⟨_, rfl⟩ (.cons ru .nil), ⟨_, hT2, rfl, _, rfl⟩⟩
    have I1 : Inv X pins σ (upd H s.heap.objs.size (.tup [.int (i : Nat), x])) { s with heap := h'', toks := tk + 1 } :=
      I.turnedNew (ch := [e, it]) (fun b ob hb q => (sb.2 b (fun z => hb (by simp [z]))).trans (hk b ob (fun z => hb (by simp [z])) (fun z => hb (by simp [z])) q)) hf (Nat.le_refl _) new
    refine ⟨.ref s.heap.objs.size, _, I1, rfl, ⟨_, x, rfl, I.hok.fresh (Nat.le_refl _), rfl, fun ys hy => by rw [I.tuple_inj hy hq]; exact hx⟩, ⟨⟨u', ?_⟩, hit'.1.at fun o q => (sb.2 it (Ne.symm hne)).trans q, hne⟩, fun b hb => ?_⟩
    · have e1 : ((i + 1 : Nat) : Int) = (i : Int) + 1 := by omega
      rw [e1]; exact he'
    · have hb' : b < s.heap.objs.size := by
        have e' : b = e ∨ b = it := by simpa using hb
        rcases e' with z | z
        · rw [z]; exact hel
        · rw [z]; exact hil
      rw [upd_ne (Nat.ne_of_lt hb')]
      exact (hf b hb).1
  done := by
    intro X hP hw hK hc i pins s σ H E I hf st hg
    subst hP hw hK
    obtain ⟨⟨old, he⟩, hit, hne⟩ := st
    obtain ⟨xs, hq, hx⟩ := hg
    obtain ⟨its, rv, p, hz⟩ := I.tuple hq
    obtain ⟨f0, f1, f2, f3, f4, f5⟩ := hf it (by simp)
    have hl := rv.length
    have hp : s.heap.IsTuple a its.toArray := p
    exact wpAny_pyNext_enum_endT (I.ok.hd hc) he hit hp (by simp; omega) fun h' eb => ⟨rfl, I.turned (t' := s.toks) (fun b o hb q => eb b o hb q) f0 f1 f3 f4 f5⟩
  self := fun A i s Q E st h => let ⟨⟨_, he⟩, _⟩ := st; wpAny_pyIter_enum he h
def iEnumA (K : PySem.W.Frag) (ta : TA) : TI := fun σ H R => ta σ H fun vs H1 => ∃ a xs, vs = [.ref a] ∧ ((SqL K H1 a xs ∧ R (Ite K a) H1) ∨ (SqT K H1 a xs ∧ R (IteT K a) H1))
theorem pi_enumA {X : Cx} {e : Expr} {ta : TA} {p pos tpos : Pos} {elts : List Expr} {kk : Nat} (hg : Gl X "enumerate") (hm : X.mg "enumerate" = none) (ha : PA X [e] ta) (hs : starEach [e] X.env = [(false, eval e X.env)] := by rfl) :
    PI X (.Tuple elts kk tpos) (.Call (.Name "enumerate" p) [e] [] pos) (iEnumA X.K ta) := by
  refine ⟨fun pins s σ H R I h => ?_⟩
  refine Call_ (ld_blt I hg hm boot_enumerate (PyProof.Rows.callWith_type1 (thn (ha.run pos pins s σ H _ I h) fun us s1 ⟨vs, H1, I1, r1, q1⟩ => ?_) hs rfl))
  obtain ⟨a, xs, ex, hh⟩ := q1
  subst ex
  cases r1 with
  | cons r rr =>
    cases rr
    cases r
    have fp : ∀ b ∈ [s1.heap.objs.size + 1, s1.heap.objs.size], FpOk X pins H1 b := fun b hb => by
      have e' : b = s1.heap.objs.size + 1 ∨ b = s1.heap.objs.size := by simpa using hb
      have hle : s1.heap.objs.size ≤ b := by
        rcases e' with z | z
        · rw [z]; exact Nat.le_add_right _ _
        · rw [z]; exact Nat.le_refl _
      exact I1.fpOk hle (I1.hok.fresh hle)
    rcases hh with ⟨hq, q⟩ | ⟨hq, q⟩
    · obtain ⟨its, rv, p', hz⟩ := I1.list hq
      refine call_enumerate_list p'.isList fun h' he hit hsz hk => wpAny_pyIter_enum he ?_
      have I2 : Inv X pins σ H1 { s1 with heap := h' } := I1.kept (t' := s1.toks) hk
      exact ⟨s1.heap.objs.size + 1, [s1.heap.objs.size + 1, s1.heap.objs.size], _, _, H1, rfl, I2, turn_enum a (s1.heap.objs.size + 1) s1.heap.objs.size, ⟨⟨.none, he⟩, hit, Nat.succ_ne_self _⟩, fp, q⟩
    · obtain ⟨its, rv, p', hz⟩ := I1.tuple hq
      have hp : s1.heap.IsTuple a its.toArray := p'
      have hal : a < s1.heap.objs.size := by obtain ⟨o, ho, _⟩ := hp; exact Heap.lt_size ho
      refine call_enumerate_tuple hp fun h' he hit hsz hk => wpAny_pyIter_enum he ?_
      have I2 : Inv X pins σ H1 { s1 with heap := h' } := I1.kept (t' := s1.toks) hk
      exact ⟨s1.heap.objs.size + 1, [s1.heap.objs.size + 1, s1.heap.objs.size], _, _, H1, rfl, I2, turn_enumT a (s1.heap.objs.size + 1) s1.heap.objs.size (Nat.ne_of_lt hal) (Nat.ne_of_gt (Nat.lt_succ_of_lt hal)), ⟨⟨.none, he⟩, hit, Nat.succ_ne_self _⟩, fp, q⟩
theorem walk_enumT {K : PySem.W.Frag} {a : Addr} {xs : List V} : Walk (IteT K a) xs.length (fun H => SqT K H a xs) (YPair (fun i => some (.int (i : Nat))) (fun i => xs[i]?)) := by
  refine ⟨fun i _ hi q => ⟨xs, xs[i], q, by simp [hi]⟩, fun _ q => ⟨xs, q, Nat.le_refl _⟩, fun i H v H' _ q y => ?_⟩
  obtain ⟨T, x, h1, h2, h3, h4⟩ := y
  exact ⟨T, .int (i : Nat), x, h1, h2, h3, rfl, h4 xs q⟩
/-- a list, a tuple or a text is walked -/
def iSeqA (K : PySem.W.Frag) (tl : TE) : TI := fun σ H R => tl σ H fun x H1 => (∃ a xs, x = .ref a ∧ SqL K H1 a xs ∧ R (Itl K a) H1) ∨ (∃ a xs, x = .ref a ∧ SqT K H1 a xs ∧ R (Itt K a) H1) ∨ (∃ z, x = .str z ∧ R (Its z) H1)
theorem pi_seqA {X : Cx} {tg l : Expr} {tl : TE} (hl : PE X l tl) : PI X tg l (iSeqA X.K tl) := by
  refine ⟨fun pins s σ H R I h => ?_⟩
  refine thn (hl.run pins s σ H _ I h) fun v s1 ⟨x, H1, I1, r1, q1⟩ => ?_
  rcases q1 with ⟨a, xs, e, hq, q⟩ | ⟨a, xs, e, hq, q⟩ | ⟨z, e, q⟩
  · subst e
    cases r1
    obtain ⟨its, rv, p, hz⟩ := I1.list hq
    refine wpAny_pyIter_list p.isList ?_
    refine ⟨s1.heap.objs.size, [s1.heap.objs.size], _, _, H1, rfl, I1.kept (t' := s1.toks) fun b o e => Heap.get?_push_of_some _ e, turn_list a _, ⟨_, Heap.get?_push_size _ rfl, rfl, rfl⟩, fun b hb => ?_, q⟩
    have e : b = s1.heap.objs.size := by simpa using hb
    subst e
    exact I1.fpOk (Nat.le_refl _) (I1.hok.fresh (Nat.le_refl _))
  · subst e
    cases r1
    obtain ⟨its, rv, p, hz⟩ := I1.tuple hq
    refine wpAny_pyIter_tuple (show s1.heap.IsTuple a its.toArray from p) ?_
    refine ⟨s1.heap.objs.size, [s1.heap.objs.size], _, _, H1, rfl, I1.kept (t' := s1.toks) fun b o e => Heap.get?_push_of_some _ e, turn_tuple a _, ⟨_, Heap.get?_push_size _ rfl, rfl, rfl⟩, fun b hb => ?_, q⟩
    have e : b = s1.heap.objs.size := by simpa using hb
    subst e
    exact I1.fpOk (Nat.le_refl _) (I1.hok.fresh (Nat.le_refl _))
  · subst e
    obtain ⟨t, rfl⟩ := r1
    cases ha : z.cps.all (· < 128)
    · exact wpAny_pyIter_wide ha (pi_one (tk := s1.toks) I1 _ (turn_str _ z t "str_iterator" (.inr rfl)) ⟨_, Heap.get?_push_size _ rfl, rfl, rfl⟩ q)
    · exact wpAny_pyIter_ascii ha (pi_one (tk := s1.toks) I1 _ (turn_str _ z t "str_ascii_iterator" (.inl rfl)) ⟨_, Heap.get?_push_size _ rfl, rfl, rfl⟩ q)
end L2
namespace Q
open PySem L2
section
variable {S : Type} {C : Cn S} {W : L2.WX} {X : Cx}
/-- what may happen between two turns: statements (m), or expressions alone -/
def Mv (m : Bool) (T : StK S) (P : Pt) (s : S) (H : Hp) (P' : Pt) (s' : S) (H' : Hp) : Prop := if m = true then Stp T P s H P' s' H' else P' = P ∧ Xt T s s' H H'
structure Wm (m : Bool) (C : Cn S) (P : Pt) (s : S) (H : Hp) (J : It) (ds : List D) : Prop where
  go : ∀ i d P' s' H', ds[i]? = some d → Mv m C.T P s H P' s' H' → C.T.R s' H' → J.go i H' ∧ ∀ x H3, J.yld i H' x H3 → Xt C.T s' s' H' H3 ∧ C.T.R s' H3 ∧ Rp C.K H3 (fun a => Fc C P' s' a ∧ H a ≠ none) x d
  stop : ∀ P' s' H', Mv m C.T P s H P' s' H' → C.T.R s' H' → J.stop ds.length H'
def tI (m : Bool) (C : Cn S) (W : L2.WX) (f : EvL' S) : TI := fun σ H R => ∃ P s, Rel C P σ H s ∧ Run C W P σ H s (f P.ρ s) fun ds s' H' => ∀ J, Wm m C P s' H' J ds → R J H'
theorem Mv.stp {m : Bool} {T : StK S} {P P' : Pt} {s s' : S} {H H' : Hp} (x : Mv m T P s H P' s' H') : Stp T P s H P' s' H' := by
  unfold Mv at x
  split at x
  · exact x
  · obtain ⟨rfl, x⟩ := x; exact x.stp
theorem Mv.keep {m : Bool} {T : StK S} {P P' : Pt} {s s' : S} {H H' : Hp} (x : Mv m T P s H P' s' H') {a : Addr} {o : HO} (e : H a = some o) (n : ¬ T.A s a) (h : m = true → ¬ P.mroot a) : H' a = some o := by
  unfold Mv at x
  split at x
  · rename_i hm; exact x.keep a o e n (h hm)
  · exact x.2.keep a o e n
/-- a sequence as a value: a tuple; a list that stays -/
def Src (m : Bool) (C : Cn S) (P : Pt) (s : S) (H : Hp) (v : V) (ds : List D) : Prop :=
  ∃ a vs, v = .ref a ∧ RpL C.K H (Fc C P s) vs ds ∧ (SqT C.K H a vs ∨ (H a = some (.lst vs) ∧ ¬ C.T.A s a ∧ (m = true → ¬ P.mroot a)) ∨ Frz C.K H a vs)
theorem sqT_mv {m : Bool} {P P' : Pt} {σ : L2.St} {s s' : S} {H H' : Hp} {a : Addr} {vs : List V} (x : Mv m C.T P s H P' s' H') (R : Rel C P σ H s) (h : SqT C.K H a vs) : SqT C.K H' a vs :=
  sqT_stays (x.stp.stays R (F := fun _ => False) fun _ f => f.elim) h
theorem lst_mv {m : Bool} {P P' : Pt} {σ : L2.St} {s s' : S} {H H' : Hp} {a : Addr} {vs : List V} (x : Mv m C.T P s H P' s' H') (R : Rel C P σ H s)
    (h : (H a = some (.lst vs) ∧ ¬ C.T.A s a ∧ (m = true → ¬ P.mroot a)) ∨ Frz C.K H a vs) : SqL C.K H' a vs := by
  rcases h with ⟨e, n, r⟩ | e
  · exact .inl (.inl (x.keep e n r))
  · exact (e.stays (x.stp.stays R (F := fun _ => False) fun _ f => f.elim)).sq
theorem RpL.at {m : Bool} {P P' : Pt} {σ : L2.St} {s s' : S} {H H' : Hp} {vs : List V} {ds : List D} {i : Nat} {d : D} {v : V} (h : RpL C.K H (Fc C P s) vs ds) (x : Mv m C.T P s H P' s' H') (R : Rel C P σ H s) (e1 : ds[i]? = some d) (e2 : vs[i]? = some v) : Rp C.K H' (fun a => Fc C P' s' a ∧ H a ≠ none) v d := by
  obtain ⟨w, e3, r⟩ := (h.step (F' := fun a => Fc C P' s' a ∧ H a ≠ none) (x.stp.stays R fun _ f => ⟨f.2.2.2, fun m => f.2.1 (Pt.root_of m)⟩) fun a f n => ⟨x.stp.fc a f n, n⟩).get e1
  rw [e2] at e3
  cases e3
  exact r
theorem wm_of {m : Bool} {P : Pt} {σ : L2.St} {s : S} {H : Hp} {J : It} {G : Hp → Prop} {vs : List V} {ds : List D} (R : Rel C P σ H s) (r : RpL C.K H (Fc C P s) vs ds) (w : Walk J vs.length G (YAt vs)) (g : ∀ P' s' H', Mv m C.T P s H P' s' H' → G H') : Wm m C P s H J ds := by
  refine ⟨fun i d P' s' H' e x st => ?_, fun P' s' H' x st => ?_⟩
  · have hi : i < vs.length := by rw [r.length]; exact (List.getElem?_eq_some_iff.mp e).1
    refine ⟨w.goes i H' hi (g _ _ _ x), fun y H3 yy => ?_⟩
    obtain ⟨rfl, e2⟩ := w.yields i H' y H3 hi (g _ _ _ x) yy
    exact ⟨Xt.refl, st, r.at x R e e2⟩
  · rw [← r.length]; exact w.stops H' (g _ _ _ x)
theorem wm_src {m : Bool} {P : Pt} {σ : L2.St} {s : S} {H : Hp} {v : V} {ds : List D} (R : Rel C P σ H s) (h : Src m C P s H v ds) : ∃ a vs, v = .ref a ∧ ((SqL C.K H a vs ∧ Wm m C P s H (Itl C.K a) ds) ∨ (SqT C.K H a vs ∧ Wm m C P s H (Itt C.K a) ds)) := by
  obtain ⟨a, vs, rfl, r, h⟩ := h
  rcases h with h | h
  · exact ⟨a, vs, rfl, .inr ⟨h, wm_of R r walk_tup fun P' s' H' x => sqT_mv x R h⟩⟩
  · have h0 : SqL C.K H a vs := by
      rcases h with h | h
      · exact .inl (.inl h.1)
      · exact h.sq
    exact ⟨a, vs, rfl, .inl ⟨h0, wm_of R r walk_list fun P' s' H' x => lst_mv x R h⟩⟩
end
end Q

/-! Lay8: targets; the sources of walks. -/
namespace Q
open PySem L2
section
variable {S : Type} {C : Cn S} {W : L2.WX} {X : Cx}
/-! ### targets -/
theorem root_set {P : Pt} {i : Nat} {d : D} {a : Addr} (h : ({ P with ρ := P.ρ.set i (.val d) } : Pt).root a) : P.root a := by
  obtain ⟨j, sl, ds, e1, e2, e3⟩ := h
  by_cases hj : i = j
  · subst hj
    have e1' : (P.ρ.set i (.val d))[i]? = some sl := e1
    by_cases hl : i < P.ρ.length
    · rw [List.getElem?_set_self hl] at e1'
      cases e1'
      cases e2
    · rw [List.getElem?_eq_none (by simpa using hl)] at e1'
      cases e1'
  · have e1' : (P.ρ.set i (.val d))[j]? = some sl := e1
    rw [List.getElem?_set_ne hj] at e1'
    exact ⟨j, sl, ds, e1', e2, e3⟩
theorem mroot_set {P : Pt} {i : Nat} {d : D} {a : Addr} (h : ({ P with ρ := P.ρ.set i (.val d) } : Pt).mroot a) : P.mroot a := by
  obtain ⟨j, ds, e1, e3⟩ := h
  by_cases hj : i = j
  · subst hj
    have e1' : (P.ρ.set i (.val d))[i]? = some (.own ds) := e1
    by_cases hl : i < P.ρ.length
    · rw [List.getElem?_set_self hl] at e1'
      cases e1'
    · rw [List.getElem?_eq_none (by simpa using hl)] at e1'
      cases e1'
  · have e1' : (P.ρ.set i (.val d))[j]? = some (.own ds) := e1
    rw [List.getElem?_set_ne hj] at e1'
    exact ⟨j, ds, e1', e3⟩
theorem fc_set {P : Pt} {s : S} {i : Nat} {d : D} {a : Addr} (h : Fc C P s a) : Fc C { P with ρ := P.ρ.set i (.val d) } s a := ⟨h.1, fun q => h.2.1 (root_set q), h.2.2.1, h.2.2.2⟩
theorem Rel.setVal {P : Pt} {σ : L2.St} {H : Hp} {s : S} {i : Nat} {v : V} {d : D} (R : Rel C P σ H s) (r : Rp C.K H (Fc C P s) v d) (hi : i < P.ρ.length) : Rel C { P with ρ := P.ρ.set i (.val d) } (σ.set i (some v)) H s := by
  refine ⟨by simp [R.len], R.st, R.frm, R.live, R.grow, R.za, fun j sl e => ?_⟩
  have e' : (P.ρ.set i (.val d))[j]? = some sl := e
  by_cases hj : i = j
  · subst hj
    rw [List.getElem?_set_self hi] at e'
    cases e'
    exact ⟨v, by rw [List.getElem?_set_self (by rw [R.len]; exact hi)], r.wk fun a f _ => fc_set f⟩
  · rw [List.getElem?_set_ne hj] at e'
    have h := R.slot j sl e'
    have own : ∀ ds, isOwn sl = some ds → OwnOk C { P with ρ := P.ρ.set i (.val d) } (σ.set i (some v)) H s j ds := fun ds q => by
      have o : OwnOk C P σ H s j ds := R.own e' q
      obtain ⟨vs, x1, x2⟩ := o.is
      refine ⟨by rw [List.getElem?_set_ne hj]; exact o.at_, o.new, o.na, o.nz, fun j' sl' es q1 q2 q3 => ?_, vs, x1, x2.wk fun a f _ => fc_set f⟩
      have q1' : (P.ρ.set i (.val d))[j']? = some sl' := q1
      by_cases hj' : i = j'
      · subst hj'
        rw [List.getElem?_set_self hi] at q1'
        cases q1'
        cases q2
      · rw [List.getElem?_set_ne hj'] at q1'
        exact o.one j' sl' es q1' q2 q3
    cases sl with
    | no => trivial
    | val d' =>
      obtain ⟨w, e1, e2⟩ := h
      exact ⟨w, by rw [List.getElem?_set_ne hj]; exact e1, e2.wk fun a f _ => fc_set f⟩
    | own ds => exact own ds rfl
    | lck ds => exact own ds rfl
theorem stp_setVal {P : Pt} {s : S} {H : Hp} {i : Nat} {d : D} : Stp C.T P s H { P with ρ := P.ρ.set i (.val d) } s H :=
  ⟨fun _ _ e _ _ => e, fun _ h => h, fun _ h => .inl h, fun _ h => .inl (root_set h), fun _ h => .inl (mroot_set h), rfl, fun j es e => by
    have e' : (P.ρ.set i (.val d))[j]? = some (.lck es) := e
    by_cases hj : i = j
    · subst hj
      by_cases hl : i < P.ρ.length
      · rw [List.getElem?_set_self hl] at e'; cases e'
      · rw [List.getElem?_eq_none (by simpa using hl)] at e'; cases e'
    · rw [List.getElem?_set_ne hj] at e'; exact ⟨⟨es, e'⟩, rfl⟩⟩
/-- the slots ts alone are set -/
def Only (ts : List Nat) (σ σ' : L2.St) : Prop := σ'.length = σ.length ∧ ∀ j, j ∉ ts → σ'[j]? = σ[j]?
theorem Only.refl {ts : List Nat} {σ : L2.St} : Only ts σ σ := ⟨rfl, fun _ _ => rfl⟩
theorem Only.trans {ts us : List Nat} {σ σ1 σ2 : L2.St} (a : Only ts σ σ1) (b : Only us σ1 σ2) : Only (ts ++ us) σ σ2 :=
  ⟨b.1.trans a.1, fun j h => by simp only [List.mem_append, not_or] at h; exact (b.2 j h.2).trans (a.2 j h.1)⟩
def tG (C : Cn S) (ts : List Nat) (h : D → List Sl → Option (List Sl)) : TG := fun v σ H k => ∃ P s d ρ', Rel C P σ H s ∧ Rp C.K H (Fc C P s) v d ∧ h d P.ρ = some ρ' ∧
  ∀ σ', Rel C { P with ρ := ρ' } σ' H s → Stp C.T P s H { P with ρ := ρ' } s H → Only ts σ σ' → k σ' H
def tGs (C : Cn S) (ts : List Nat) (h : List D → List Sl → Option (List Sl)) : TGs := fun vs σ H k => ∃ P s ds ρ', Rel C P σ H s ∧ RpL C.K H (Fc C P s) vs ds ∧ h ds P.ρ = some ρ' ∧
  ∀ σ', Rel C { P with ρ := ρ' } σ' H s → Stp C.T P s H { P with ρ := ρ' } s H → Only ts σ σ' → k σ' H
theorem pg_mono {e : Expr} {t t' : TG} (h : PG X e t) (i : ∀ v σ H k, t' v σ H k → t v σ H k) : PG X e t' := ⟨fun pins s σ H v u Q I r q => h.run pins s σ H v u Q I r (i v σ H Q q)⟩
theorem pgs_mono {es : List Expr} {t t' : TGs} (h : PGs X es t) (i : ∀ v σ H k, t' v σ H k → t v σ H k) : PGs X es t' := ⟨fun pins s σ H v u Q I r q => h.run pins s σ H v u Q I r (i v σ H Q q)⟩
theorem pg_false {e : Expr} {t : TG} (i : ∀ v σ H k, ¬ t v σ H k) : PG X e t := ⟨fun pins s σ H v u Q I r q => (i v σ H Q q).elim⟩
theorem pgs_false {e : List Expr} {t : TGs} (i : ∀ v σ H k, ¬ t v σ H k) : PGs X e t := ⟨fun pins s σ H v u Q I r q => (i v σ H Q q).elim⟩
def tgName (N : List Str) (sc : Scope) (x : Str) (d : D) (ρ : List Sl) : Option (List Sl) := match slotOf N x with
  | some i => if locB sc x && decide (i < ρ.length) then some (ρ.set i (.val d)) else none
  | none => none
def tgSlot (N : List Str) (x : Str) : List Nat := (slotOf N x).toList
/-- where names are stored: ls, the scope as it is written -/
structure Xs (C : Cn S) (X : Cx) (N : List Str) (ls : Scope) : Prop where
  K : C.K = X.K
  names : X.N = N
  nd : N.Nodup
  calm : X.calm = true
  loc : ∀ x, locB ls x = true → L2.Loc X.env.scope x ∧ (X.fn x = true ∨ X.env.scope.names.lookup x = some .local)
theorem sg_name {N : List Str} {sc : Scope} (k : Xs C X N sc) {x : Str} {pos : Pos} : PG X (.Name x pos) (tG C (tgSlot N x) (tgName N sc x)) := by
  unfold tgName tgSlot
  split
  · rename_i i e
    by_cases hl : locB sc x = true
    · have hN : X.N[i]? = some x := by rw [k.names]; exact slotOf_some e
      obtain ⟨hL, hF⟩ := k.loc x hl
      refine pg_mono (pg_name (i := i) (by rw [k.names]; exact k.nd) hN hL hF) fun v σ H kk ⟨P, s, d, ρ', R, r, h, kx⟩ => ?_
      dsimp only at h
      split at h
      · rename_i hc
        cases h
        simp only [Bool.and_eq_true, decide_eq_true_eq] at hc
        refine kx _ (R.setVal r hc.2) stp_setVal ⟨by simp, fun j hj => ?_⟩
        rw [List.getElem?_set_ne]
        simpa [e, eq_comm] using hj
      · cases h
    · refine pg_false fun v σ H kk ⟨P, s, d, ρ', R, r, h, kx⟩ => ?_
      dsimp only at h
      rw [if_neg (by simp [hl])] at h
      cases h
  · exact pg_false fun v σ H kk ⟨P, s, d, ρ', R, r, h, kx⟩ => nomatch h
def gsN : List D → List Sl → Option (List Sl)
  | [], ρ => some ρ
  | _ :: _, _ => none
def gsC (f : D → List Sl → Option (List Sl)) (g : List D → List Sl → Option (List Sl)) : List D → List Sl → Option (List Sl)
  | [], _ => none
  | d :: ds, ρ => (f d ρ).bind fun ρ1 => g ds ρ1
theorem sgs_nil : PGs X [] (tGs C [] gsN) := pgs_mono pgs_nil fun v σ H k ⟨P, s, ds, ρ', R, r, h, kx⟩ => by
  cases r with
  | nil => cases h; exact ⟨rfl, kx _ R Stp.refl Only.refl⟩
  | cons _ _ => cases h
theorem sgs_cons {e : Expr} {es : List Expr} {ts us : List Nat} {f : D → List Sl → Option (List Sl)} {g : List D → List Sl → Option (List Sl)} (hs : isStar e = false) (h1 : PG X e (tG C ts f)) (h2 : PGs X es (tGs C us g)) : PGs X (e :: es) (tGs C (ts ++ us) (gsC f g)) := by
  refine pgs_mono (pgs_cons h1 h2 ?_) fun v σ H k ⟨P, s, ds, ρ', R, r, h, kx⟩ => ?_
  · cases e <;> first | rfl | (simp [isStar] at hs; done)
  · cases r with
    | nil => cases h
    | cons rv rs =>
      simp only [gsC, Option.bind_eq_some_iff] at h
      obtain ⟨ρ1, e1, e2⟩ := h
      refine ⟨_, _, rfl, P, s, _, ρ1, R, rv, e1, fun σ1 R1 s1 o1 => ?_⟩
      exact ⟨_, s, _, ρ', R1, rs.stp s1 R, e2, fun σ2 R2 s2 o2 => kx σ2 R2 (s1.trans s2) (o1.trans o2)⟩
def gTupD (n : Nat) (g : List D → List Sl → Option (List Sl)) : D → List Sl → Option (List Sl)
  | .tup ds, ρ => if ds.length = n then g ds ρ else none
  | _, _ => none
theorem each_len {env : Env} : ∀ es : List Expr, (assignEach es env).length = es.length
  | [] => rfl
  | e :: es => by cases e <;> simp only [assignEach, List.length_cons, each_len es]
theorem each_star {env : Env} : ∀ es : List Expr, es.all (fun e => !isStar e) = true → (assignEach es env).findIdx? (·.1) = none
  | [], _ => rfl
  | e :: es, h => by
    simp only [List.all_cons, Bool.and_eq_true, Bool.not_eq_true'] at h
    have ih := each_star (env := env) es h.2
    have hs := h.1
    cases e <;> first | (simp [isStar] at hs; done) | (simp only [assignEach, List.findIdx?_cons, ih]; rfl)
theorem sg_tup (hK : C.K = X.K) {es : List Expr} {kk : Nat} {pos : Pos} {ts : List Nat} {g : List D → List Sl → Option (List Sl)} (hc : X.calm = true) (hs : es.all (fun e => !isStar e) = true) (h : PGs X es (tGs C ts g)) : PG X (.Tuple es kk pos) (tG C ts (gTupD es.length g)) := by
  refine pg_mono (pg_tup hc h (each_len es) (each_star es hs)) fun v σ H k ⟨P, s, d, ρ', R, r, h, kx⟩ => ?_
  cases d <;> simp only [gTupD, reduceCtorEq] at h
  split at h
  · rename_i hn
    cases r with
    | tup hq q => exact ⟨_, _, rfl, by rw [← hK]; exact hq, q.length.trans hn, P, s, _, ρ', R, q, h, kx⟩
  · cases h

/-! ### sources -/
/-- as Top; with m the list stays whatever statements do -/
def TopM (m : Bool) (C : Cn S) (P : Pt) (s : S) (H : Hp) (v : V) (d : D) : Prop :=
  Rp C.K H (Fc C P s) v d ∨ ∃ a vs ds, v = .ref a ∧ d = .lst ds ∧ ¬ C.T.A s a ∧ (m = true → ¬ P.mroot a) ∧ H a = some (.lst vs) ∧ RpL C.K H (Fc C P s) vs ds
def tM (m : Bool) (C : Cn S) (W : L2.WX) (f : EvF S) : TE := fun σ H Q => ∃ P s, Rel C P σ H s ∧ Run C W P σ H s (f P.ρ s) fun d s' H' => ∀ v, TopM m C P s' H' v d → Q v H'
theorem TopM.xt {m : Bool} {P : Pt} {s s' : S} {H H' : Hp} {v : V} {d : D} (h : TopM m C P s H v d) (x : Xt C.T s s' H H') (st : C.T.R s H) : TopM m C P s' H' v d := by
  rcases h with h | ⟨a, vs, ds, e1, e2, na, nm, e, q⟩
  · exact .inl (h.xt x st)
  · refine .inr ⟨a, vs, ds, e1, e2, fun z => ?_, nm, x.keep _ _ e na, q.xt x st⟩
    rcases x.grow _ z with z | z
    · exact na z
    · rw [e] at z; cases z
theorem PE.m {m : Bool} {e : Expr} {f : EvF S} (h : PE X e (tP C W f)) : PE X e (tM m C W f) := pe_mono h fun σ H Q ⟨P, s, R, q⟩ => ⟨P, s, R, q.mono fun d s' H' _ _ k v r => k v (.inl r)⟩
theorem PE.km {e : Expr} {f : EvF S} (h : PE X e (tK C W f)) : PE X e (tM false C W f) := pe_mono h fun σ H Q ⟨P, s, R, q⟩ => ⟨P, s, R, q.mono fun d s' H' _ _ k v r => k v (by
  rcases r with r | ⟨a, vs, ds, e1, e2, na, e, q⟩
  · exact .inl r
  · exact .inr ⟨a, vs, ds, e1, e2, na, (fun z => Bool.noConfusion z), e, q⟩)⟩
/-- a name whose list stays: a value, or a locked own list -/
def evVarS (N : List Str) (sc : Scope) (x : Str) : EvF S := fun ρ s => match slotOf N x with
  | some i => if visB sc x && x != ("__debug__" : Str) && x != ("__classdict__" : Str) then (match ρ[i]? with
    | some (.val d) => .ok d s
    | some (.lck ds) => .ok (.lst ds) s
    | _ => .stuck) else .stuck
  | none => .stuck
theorem sd_varS {N : List Str} {sc : Scope} (k : Xk C W X N sc) (x : Str) (pos : Pos) : PE X (.Name x pos) (tM true C W (evVarS N sc x)) := by
  unfold evVarS
  split
  · rename_i i e
    split
    · rename_i h
      simp only [Bool.and_eq_true, bne_iff_ne, ne_eq] at h
      refine pe_mono (pe_var (i := i) (by rw [k.names]; exact slotOf_some e) (by rw [k.scope]; exact visB_ok h.1.1) (by simpa using h.1.2) (by simpa using h.2)) fun σ H Q ⟨P, s, R, q⟩ => ?_
      dsimp only at q
      split at q
      · rename_i d hd
        obtain ⟨v, e1, e2⟩ := R.slot i _ hd
        exact ⟨v, e1, (q.now R) v (.inl e2)⟩
      · rename_i d hd
        have o : OwnOk C P σ H s i d := R.slot i _ hd
        obtain ⟨vs, x1, x2⟩ := o.is
        refine ⟨_, o.at_, (q.now R) _ (.inr ⟨_, vs, d, rfl, rfl, o.na, fun _ ⟨j, es, y1, y2⟩ => ?_, x1, x2⟩)⟩
        have := o.one j _ es y1 rfl y2
        subst this
        rw [hd] at y1
        cases y1
      · exact q.elim
    · exact pe_false fun σ H Q ⟨P, s, R, q⟩ => q
  · exact pe_false fun σ H Q ⟨P, s, R, q⟩ => q
def seqOf : D → Option (List D)
  | .tup ds => some ds
  | .lst ds => some ds
  | .scr ds => some ds
  | _ => none
theorem src_of {m : Bool} {P : Pt} {s : S} {H : Hp} {v : V} {d : D} {ds : List D} (h : TopM m C P s H v d) (e : seqOf d = some ds) : Src m C P s H v ds := by
  rcases h with h | ⟨a, vs, es, rfl, rfl, na, nm, x, q⟩
  · cases h with
    | tup h q => cases e; exact ⟨_, _, rfl, q, .inl h⟩
    | lst f h q => cases e; exact ⟨_, _, rfl, q, .inr (.inl ⟨h, f.2.2.2, fun _ z => f.2.1 (Pt.root_of z)⟩)⟩
    | scr h q => cases e; exact ⟨_, _, rfl, q, .inr (.inr h)⟩
    | _ => cases e
  · cases e
    exact ⟨_, _, rfl, q, .inr (.inl ⟨x, na, nm⟩)⟩
def itemsOf : D → Option (List D)
  | .str z => some (z.cps.toList.map fun c => .str ⟨#[c]⟩)
  | d => seqOf d
def iSeq (f : EvF S) : EvL' S := fun ρ s => (f ρ s).bind fun d s1 => ofO (itemsOf d) s1
theorem pi_mono {tg e : Expr} {t t' : TI} (h : PI X tg e t) (i : ∀ σ H R, t' σ H R → t σ H R) : PI X tg e t' := ⟨fun pins s σ H R I q => h.run pins s σ H R I (i σ H R q)⟩
theorem pi_false {tg e : Expr} {t : TI} (i : ∀ σ H R, ¬ t σ H R) : PI X tg e t := ⟨fun pins s σ H R I q => (i σ H R q).elim⟩
theorem si_seq {m : Bool} {tg e : Expr} {f : EvF S} (hK : C.K = X.K) (he : PE X e (tM m C W f)) : PI X tg e (tI m C W (iSeq f)) := by
  refine pi_mono (pi_seqA he) fun σ H RR ⟨P, s, R, q⟩ => ⟨P, s, R, q.bind.mono fun d s1 H1 R1 x1 q1 v tv => ?_⟩
  obtain ⟨ds, e, k⟩ := run_ofO q1
  have k := k H1 R1 Xt.refl
  by_cases hs : ∃ z, d = .str z
  · obtain ⟨z, rfl⟩ := hs
    cases e
    have ev : v = .str z := by
      rcases tv with tv | ⟨_, _, _, _, e, _⟩
      · exact rp_str tv
      · cases e
    subst ev
    refine .inr (.inr ⟨z, rfl, k _ ⟨fun i d P' s' H' e x st => ?_, fun P' s' H' x st => ?_⟩⟩)
    · rw [List.getElem?_map, Option.map_eq_some_iff] at e
      obtain ⟨c, e, rfl⟩ := e
      have hi : i < z.cps.size := by have := (List.getElem?_eq_some_iff.mp e).1; simpa using this
      refine ⟨walk_str.goes i H' hi trivial, fun y H3 yy => ?_⟩
      obtain ⟨rfl, c', e', rfl⟩ := walk_str.yields i H' y H3 hi trivial yy
      have : c' = c := by
        rw [Array.getElem?_toList] at e
        rw [e] at e'; exact (Option.some.inj e').symm
      subst this
      exact ⟨Xt.refl, st, .str _⟩
    · have := (walk_str (z := z)).stops H' trivial
      simpa using this
  · have e' : seqOf d = some ds := by
      cases d <;> first | exact e | (exact absurd ⟨_, rfl⟩ hs)
    obtain ⟨a, vs, rfl, h⟩ := wm_src R1 (src_of tv e')
    rcases h with ⟨h1, h2⟩ | ⟨h1, h2⟩
    · rw [hK] at h1 h2; exact .inl ⟨a, vs, rfl, h1, k _ h2⟩
    · rw [hK] at h1 h2; exact .inr (.inl ⟨a, vs, rfl, h1, k _ h2⟩)
def enumFrom (n : Nat) : List D → List D
  | [] => []
  | d :: ds => .tup [.int (n : Nat), d] :: enumFrom (n + 1) ds
theorem enumFrom_get : ∀ (ds : List D) (n i : Nat), (enumFrom n ds)[i]? = ds[i]?.map fun d => .tup [.int ((n + i : Nat) : Int), d]
  | [], _, i => by simp [enumFrom]
  | d :: ds, n, 0 => by simp [enumFrom]
  | d :: ds, n, i + 1 => by simp [enumFrom, enumFrom_get ds (n + 1) i, Nat.add_assoc, Nat.add_comm 1 i]
theorem enumFrom_len : ∀ (ds : List D) (n : Nat), (enumFrom n ds).length = ds.length
  | [], _ => rfl
  | _ :: ds, n => by simp [enumFrom, enumFrom_len ds (n + 1)]
theorem wm_pair {m : Bool} {P : Pt} {σ : L2.St} {s : S} {H : Hp} {J : It} {G : Hp → Prop} {n : Nat} {xs ys : Nat → Option V} {ds : List D} (R : Rel C P σ H s) (hn : n = ds.length) (w : Walk J n G (YPair xs ys)) (g : ∀ P' s' H', Mv m C.T P s H P' s' H' → G H')
    (h : ∀ i d x y P' s' H', ds[i]? = some d → xs i = some x → ys i = some y → Mv m C.T P s H P' s' H' → ∃ dx dy, d = .tup [dx, dy] ∧ Rp C.K H' (fun a => Fc C P' s' a ∧ H a ≠ none) x dx ∧ Rp C.K H' (fun a => Fc C P' s' a ∧ H a ≠ none) y dy) : Wm m C P s H J ds := by
  refine ⟨fun i d P' s' H' e x st => ?_, fun P' s' H' x st => ?_⟩
  · have hi : i < n := by rw [hn]; exact (List.getElem?_eq_some_iff.mp e).1
    refine ⟨w.goes i H' hi (g _ _ _ x), fun v H3 yy => ?_⟩
    obtain ⟨T, a, b, rfl, hT, rfl, e1, e2⟩ := w.yields i H' v H3 hi (g _ _ _ x) yy
    obtain ⟨dx, dy, rfl, r1, r2⟩ := h i d a b P' s' H' e e1 e2 x
    exact ⟨Xt.new hT, st_new st hT, .tup (.inl (.inl upd_same)) ((RpL.cons r1 (.cons r2 .nil)).step ((Xt.new hT).stays st fun _ f => f.1.2.2.2) fun a f n => f)⟩
  · rw [← hn]; exact w.stops H' (g _ _ _ x)
def iEnum (f : EvF S) : EvL' S := fun ρ s => (f ρ s).bind fun d s1 => ofO ((seqOf d).map (enumFrom 0)) s1
theorem si_enum {m : Bool} {N : List Str} {sc : Scope} (k : Xk C W X N sc) {e : Expr} {es : List Expr} {kk : Nat} {tp p pos : Pos} {f : EvF S} (hg : glB sc "enumerate" = true) (hm : X.mg "enumerate" = none) (hs : isStar e = false) (he : PE X e (tM m C W f)) :
    PI X (.Tuple es kk tp) (.Call (.Name "enumerate" p) [e] [] pos) (tI m C W (iEnum f)) := by
  have hK := k.K
  refine pi_mono (pi_enumA (gl_of k hg).1 hm (pa_cons he pa_nil (star_no hs)) (by rw [star_no hs]; rfl)) fun σ H RR ⟨P, s, R, q⟩ => ⟨P, s, R, q.bind.mono fun d s1 H1 R1 x1 q1 v tv => ?_⟩
  obtain ⟨ds', e, k⟩ := run_ofO q1
  have k := k H1 R1 Xt.refl
  simp only [Option.map_eq_some_iff] at e
  obtain ⟨ds, e, rfl⟩ := e
  obtain ⟨a, vs, rfl, r, h⟩ := src_of tv e
  have pr : ∀ (i : Nat) (d : D) (x y : V) (P' : Pt) (s' : S) (H' : Hp), (enumFrom 0 ds)[i]? = some d → some (V.int (i : Nat)) = some x → vs[i]? = some y → Mv m C.T P s1 H1 P' s' H' → ∃ dx dy, d = .tup [dx, dy] ∧ Rp C.K H' (fun a => Fc C P' s' a ∧ H1 a ≠ none) x dx ∧ Rp C.K H' (fun a => Fc C P' s' a ∧ H1 a ≠ none) y dy := by
    intro i d x y P' s' H' e1 e2 e3 mv
    rw [enumFrom_get, Option.map_eq_some_iff] at e1
    obtain ⟨d', e1, rfl⟩ := e1
    cases e2
    exact ⟨_, d', rfl, by simpa using Rp.int _, r.at mv R1 e1 e3⟩
  have hn : vs.length = (enumFrom 0 ds).length := by rw [enumFrom_len, r.length]
  rcases h with h | h
  · exact ⟨a, vs, rfl, .inr ⟨by rw [← hK]; exact h, k _ (wm_pair R1 hn walk_enumT (fun P' s' H' x => by rw [← hK]; exact sqT_mv x R1 h) pr)⟩⟩
  · have h0 : SqL C.K H1 a vs := by
      rcases h with h | h
      · exact .inl (.inl h.1)
      · exact h.sq
    exact ⟨a, vs, rfl, .inl ⟨by rw [← hK]; exact h0, k _ (wm_pair R1 hn walk_enum (fun P' s' H' x => by rw [← hK]; exact lst_mv x R1 h) pr)⟩⟩
/-- range -/
def rangeD (lo : Int) : Nat → List D
  | 0 => []
  | n + 1 => .int lo :: rangeD (lo + 1) n
theorem rangeD_get : ∀ (n : Nat) (lo : Int) (i : Nat), i < n → (rangeD lo n)[i]? = some (.int (lo + i))
  | 0, _, _, h => by omega
  | n + 1, lo, 0, _ => by simp [rangeD]
  | n + 1, lo, i + 1, h => by
    simp only [rangeD, List.getElem?_cons_succ]
    rw [rangeD_get n (lo + 1) i (by omega)]
    congr 2
    omega
theorem rangeD_len : ∀ (n : Nat) (lo : Int), (rangeD lo n).length = n
  | 0, _ => rfl
  | n + 1, lo => by simp [rangeD, rangeD_len n]
theorem wm_range {m : Bool} {P : Pt} {s : S} {H : Hp} {lo : Int} {n : Nat} : Wm m C P s H (Itr lo n) (rangeD lo n) := by
  refine ⟨fun i d P' s' H' e x st => ?_, fun P' s' H' x st => by rw [rangeD_len]; exact walk_range.stops H' trivial⟩
  have hi : i < n := by have := (List.getElem?_eq_some_iff.mp e).1; rw [rangeD_len] at this; exact this
  refine ⟨walk_range.goes i H' hi trivial, fun y H3 yy => ?_⟩
  obtain ⟨rfl, rfl⟩ := walk_range.yields i H' y H3 hi trivial yy
  rw [rangeD_get n lo i hi] at e
  cases e
  exact ⟨Xt.refl, st, .int _⟩
def range1 : D → Option (List D)
  | .int j => if -(2 ^ 62) ≤ j ∧ j < 2 ^ 62 then some (rangeD 0 j.toNat) else none
  | _ => none
def range2 : D → D → Option (List D)
  | .int i, .int j => if -(2 ^ 62) ≤ i ∧ i < 2 ^ 62 ∧ -(2 ^ 62) ≤ j ∧ j < 2 ^ 62 then some (rangeD i (j - i).toNat) else none
  | _, _ => none
def iRange1 (f : EvF S) : EvL' S := fun ρ s => (f ρ s).bind fun d s1 => ofO (range1 d) s1
def iRange2 (f g : EvF S) : EvL' S := fun ρ s => (f ρ s).bind fun d s1 => (g ρ s1).bind fun e s2 => ofO (range2 d e) s2
theorem si_range1 {m : Bool} {N : List Str} {sc : Scope} (k : Xk C W X N sc) {tg a : Expr} {p pos : Pos} {f : EvF S} (hg : glB sc "range" = true) (hm : X.mg "range" = none) (hs : isStar a = false) (ha : PE X a (tK C W f)) :
    PI X tg (.Call (.Name "range" p) [a] [] pos) (tI m C W (iRange1 f)) := by
  refine pi_mono (pi_range1 (gl_of k hg).1 hm (pa_cons ha pa_nil (star_no hs)) (by rw [star_no hs]; rfl)) fun σ H RR ⟨P, s, R, q⟩ => ⟨P, s, R, q.bind.mono fun d s1 H1 R1 x1 q1 v tv => ?_⟩
  obtain ⟨es, e, k⟩ := run_ofO q1
  cases d <;> simp only [range1, reduceCtorEq] at e
  split at e
  · rename_i hb
    cases e
    have := top_int tv
    subst this
    exact ⟨_, rfl, hb.1, hb.2, k H1 R1 Xt.refl _ wm_range⟩
  · cases e
theorem si_range2 {m : Bool} {N : List Str} {sc : Scope} (k : Xk C W X N sc) {tg a b : Expr} {p pos : Pos} {f g : EvF S} (hg : glB sc "range" = true) (hm : X.mg "range" = none) (hs : isStar a = false) (hs2 : isStar b = false) (ha : PE X a (tK C W f)) (hb : PE X b (tK C W g)) :
    PI X tg (.Call (.Name "range" p) [a, b] [] pos) (tI m C W (iRange2 f g)) := by
  refine pi_mono (pi_range2 (gl_of k hg).1 hm (pa_cons ha (pa_cons hb pa_nil (star_no hs2)) (star_no hs)) (by rw [star_no hs, star_no hs2]; rfl) (by rw [star_no hs2]; rfl)) fun σ H RR ⟨P, s, R, q⟩ =>
    ⟨P, s, R, q.bind.mono fun d s1 H1 R1 x1 q1 v tv => ⟨P, s1, R1, q1.bind.mono fun d' s2 H2 R2 x2 q2 v' tv' => ?_⟩⟩
  obtain ⟨es, e, k⟩ := run_ofO q2
  cases d <;> cases d' <;> simp only [range2, reduceCtorEq] at e
  split at e
  · rename_i hb
    cases e
    have := top_int tv
    subst this
    have := top_int tv'
    subst this
    exact ⟨_, _, rfl, hb, k H2 R2 Xt.refl _ wm_range⟩
  · cases e
/-- zip of two lists, of two tuples -/
def zipD : List D → List D → List D
  | x :: xs, y :: ys => .tup [x, y] :: zipD xs ys
  | _, _ => []
theorem zipD_len : ∀ xs ys : List D, (zipD xs ys).length = min xs.length ys.length
  | [], _ => by simp [zipD]
  | _ :: _, [] => by simp [zipD]
  | _ :: xs, _ :: ys => by simp [zipD, zipD_len xs ys]
theorem zipD_get : ∀ (xs ys : List D) (i : Nat) (d : D), (zipD xs ys)[i]? = some d → ∃ x y, xs[i]? = some x ∧ ys[i]? = some y ∧ d = .tup [x, y]
  | [], _, _, _, h => by simp [zipD] at h
  | _ :: _, [], _, _, h => by simp [zipD] at h
  | x :: xs, y :: ys, 0, d, h => by simp [zipD] at h; exact ⟨x, y, rfl, rfl, h.symm⟩
  | x :: xs, y :: ys, i + 1, d, h => by
    simp only [zipD, List.getElem?_cons_succ] at h
    obtain ⟨a, b, h1, h2, h3⟩ := zipD_get xs ys i d h
    exact ⟨a, b, by simpa using h1, by simpa using h2, h3⟩
def zip2 : D → D → Option (List D)
  | .tup a, .tup b => some (zipD a b)
  | .lst a, .lst b => some (zipD a b)
  | _, _ => none
def iZip (f g : EvF S) : EvL' S := fun ρ s => (f ρ s).bind fun d s1 => (g ρ s1).bind fun e s2 => ofO (zip2 d e) s2
theorem walk_zipT {K : PySem.W.Frag} {a b : Addr} {xs ys : List V} {n : Nat} (hn : n = min xs.length ys.length) : Walk (RZ.ItzT K a b) n (fun H => SqT K H a xs ∧ SqT K H b ys) (YPair (fun i => xs[i]?) (fun i => ys[i]?)) := by
  subst hn
  refine ⟨fun i _ hi q => ?_, fun _ q => ⟨xs, ys, q.1, q.2, by omega⟩, fun i H v H' _ q y => ?_⟩
  · have h1 : i < xs.length := by omega
    have h2 : i < ys.length := by omega
    exact ⟨xs, ys, xs[i], ys[i], q.1, q.2, by simp [h1], by simp [h2]⟩
  · obtain ⟨T, x, z, h1, h2, h3, h4, h5⟩ := y
    exact ⟨T, x, z, h1, h2, h3, h4 xs q.1, h5 ys q.2⟩
theorem TopM.tup {m : Bool} {P : Pt} {s : S} {H : Hp} {v : V} {ds : List D} (h : TopM m C P s H v (.tup ds)) : ∃ a vs, v = .ref a ∧ SqT C.K H a vs ∧ RpL C.K H (Fc C P s) vs ds := by
  rcases h with h | ⟨a, vs, ds', e1, e2, _⟩
  · cases h with
    | tup h q => exact ⟨_, _, rfl, h, q⟩
  · cases e2
theorem TopM.lst {m : Bool} {P : Pt} {s : S} {H : Hp} {v : V} {ds : List D} (h : TopM m C P s H v (.lst ds)) : ∃ a vs, v = .ref a ∧ (H a = some (.lst vs) ∧ ¬ C.T.A s a ∧ (m = true → ¬ P.mroot a)) ∧ RpL C.K H (Fc C P s) vs ds := by
  rcases h with h | ⟨a, vs, ds', e1, e2, na, nm, e, q⟩
  · cases h with
    | lst f h q => exact ⟨_, _, rfl, ⟨h, f.2.2.2, fun _ z => f.2.1 (Pt.root_of z)⟩, q⟩
  · cases e2
    exact ⟨a, vs, e1, ⟨e, na, nm⟩, q⟩
theorem si_zip {m : Bool} {N : List Str} {sc : Scope} (k : Xk C W X N sc) {e e2 : Expr} {es : List Expr} {kk : Nat} {tp p pos : Pos} {f g : EvF S} (hg : glB sc "zip" = true) (hm : X.mg "zip" = none) (hs : isStar e = false) (hs2 : isStar e2 = false) (he : PE X e (tM m C W f)) (he2 : PE X e2 (tM m C W g)) :
    PI X (.Tuple es kk tp) (.Call (.Name "zip" p) [e, e2] [] pos) (tI m C W (iZip f g)) := by
  have hK := k.K
  refine pi_mono (RZ.pi_zipA (gl_of k hg).1 hm (pa_cons he (pa_cons he2 pa_nil (star_no hs2)) (star_no hs)) (by rw [star_no hs]) (star_back (by simp [hs2]))) fun σ H RR ⟨P, s, R, q⟩ =>
    ⟨P, s, R, q.bind.mono fun d s1 H1 R1 x1 q1 v tv => ⟨P, s1, R1, q1.bind.mono fun d' s2 H2 R2 x2 q2 v' tv' => ?_⟩⟩
  obtain ⟨es, e, k⟩ := run_ofO q2
  have k := k H2 R2 Xt.refl
  have tv := tv.xt x2 R1.st
  have pr : ∀ {vs ws : List V} {ds ds' : List D}, RpL C.K H2 (Fc C P s2) vs ds → RpL C.K H2 (Fc C P s2) ws ds' → ∀ (i : Nat) (d : D) (x y : V) (P' : Pt) (s' : S) (H' : Hp), (zipD ds ds')[i]? = some d → vs[i]? = some x → ws[i]? = some y → Mv m C.T P s2 H2 P' s' H' → ∃ dx dy, d = .tup [dx, dy] ∧ Rp C.K H' (fun a => Fc C P' s' a ∧ H2 a ≠ none) x dx ∧ Rp C.K H' (fun a => Fc C P' s' a ∧ H2 a ≠ none) y dy := by
    intro vs ws ds ds' r r' i d x y P' s' H' e1 e2 e3 mv
    obtain ⟨a, b, h1, h2, rfl⟩ := zipD_get _ _ _ _ e1
    exact ⟨a, b, rfl, r.at mv R2 h1 e2, r'.at mv R2 h2 e3⟩
  cases d <;> cases d' <;> simp only [zip2, reduceCtorEq, Option.some.injEq] at e
  · subst e
    obtain ⟨a, vs, rfl, ha, ra⟩ := tv.tup
    obtain ⟨b, ws, rfl, hb, rb⟩ := tv'.tup
    exact ⟨a, b, vs, ws, rfl, .inr ⟨by rw [← hK]; exact ha, by rw [← hK]; exact hb, k _ (wm_pair R2 (n := min vs.length ws.length) (by rw [zipD_len, ra.length, rb.length]) (walk_zipT rfl) (fun P' s' H' x => by rw [← hK]; exact ⟨sqT_mv x R2 ha, sqT_mv x R2 hb⟩) (pr ra rb))⟩⟩
  · subst e
    obtain ⟨a, vs, rfl, ha, ra⟩ := tv.lst
    obtain ⟨b, ws, rfl, hb, rb⟩ := tv'.lst
    exact ⟨a, b, vs, ws, rfl, .inl ⟨.inl (.inl ha.1), .inl (.inl hb.1), k _ (wm_pair R2 (n := min vs.length ws.length) (by rw [zipD_len, ra.length, rb.length]) (walk_zip rfl) (fun P' s' H' x => by rw [← hK]; exact ⟨lst_mv x R2 (.inl ha), lst_mv x R2 (.inl hb)⟩) (pr ra rb))⟩⟩
end
end Q

/-! Lay9: list comprehensions. -/
namespace Q
open PySem L2
section
variable {S : Type} {C : Cn S} {W : L2.WX} {X : Cx}
def OnlyS (ts : List Nat) (ρ ρ' : List Sl) : Prop := ρ'.length = ρ.length ∧ ∀ j, j ∉ ts → ρ'[j]? = ρ[j]?
def TgOk (ts : List Nat) (h : D → List Sl → Option (List Sl)) : Prop := ∀ d ρ ρ', h d ρ = some ρ' → OnlyS ts ρ ρ'
def TgsOk (ts : List Nat) (h : List D → List Sl → Option (List Sl)) : Prop := ∀ d ρ ρ', h d ρ = some ρ' → OnlyS ts ρ ρ'
theorem tgo_name {N : List Str} {sc : Scope} {x : Str} : TgOk (tgSlot N x) (tgName N sc x) := by
  intro d ρ ρ' h
  unfold tgName at h
  unfold tgSlot
  split at h
  · rename_i i e
    split at h
    · cases h
      refine ⟨by simp, fun j hj => ?_⟩
      rw [List.getElem?_set_ne]
      simpa [e, eq_comm] using hj
    · cases h
  · cases h
theorem tgo_nil : TgsOk [] gsN := by
  intro d ρ ρ' h
  cases d with
  | nil => cases h; exact ⟨rfl, fun _ _ => rfl⟩
  | cons _ _ => cases h
theorem tgo_cons {ts us : List Nat} {f : D → List Sl → Option (List Sl)} {g : List D → List Sl → Option (List Sl)} (a : TgOk ts f) (b : TgsOk us g) : TgsOk (ts ++ us) (gsC f g) := by
  intro d ρ ρ' h
  cases d with
  | nil => cases h
  | cons d ds =>
    simp only [gsC, Option.bind_eq_some_iff] at h
    obtain ⟨ρ1, e1, e2⟩ := h
    have x := a _ _ _ e1
    have y := b _ _ _ e2
    exact ⟨y.1.trans x.1, fun j hj => by simp only [List.mem_append, not_or] at hj; exact (y.2 j hj.2).trans (x.2 j hj.1)⟩
theorem tgo_tup {n : Nat} {ts : List Nat} {g : List D → List Sl → Option (List Sl)} (b : TgsOk ts g) : TgOk ts (gTupD n g) := by
  intro d ρ ρ' h
  cases d <;> simp only [gTupD, reduceCtorEq] at h
  split at h
  · exact b _ _ _ h
  · cases h

def wipeR (ρ : List Sl) : List Nat → List Sl
  | [] => ρ
  | v :: vs => (wipeR ρ vs).set v .no
theorem wipeR_len (ρ : List Sl) : ∀ vs, (wipeR ρ vs).length = ρ.length
  | [] => rfl
  | v :: vs => by simp [wipeR, wipeR_len ρ vs]
theorem wipeR_out {ρ : List Sl} {j : Nat} : ∀ {vs : List Nat}, j ∉ vs → (wipeR ρ vs)[j]? = ρ[j]?
  | [], _ => rfl
  | v :: vs, h => by
    simp only [List.mem_cons, not_or] at h
    rw [wipeR, List.getElem?_set_ne (Ne.symm h.1), wipeR_out h.2]
theorem wipeR_in {ρ : List Sl} {j : Nat} : ∀ {vs : List Nat}, j ∈ vs → j < ρ.length → (wipeR ρ vs)[j]? = some .no
  | v :: vs, h, hl => by
    rw [wipeR]
    by_cases e : v = j
    · subst e; rw [List.getElem?_set_self (by rw [wipeR_len]; exact hl)]
    · rw [List.getElem?_set_ne e]
      rcases List.mem_cons.mp h with z | z
      · exact absurd z.symm e
      · exact wipeR_in z hl
theorem wipe_out {σ : L2.St} {j : Nat} : ∀ {vs : List Nat}, j ∉ vs → (wipe σ vs)[j]? = σ[j]?
  | [], _ => rfl
  | v :: vs, h => by
    simp only [List.mem_cons, not_or] at h
    rw [wipe, List.getElem?_set_ne (Ne.symm h.1), wipe_out h.2]
theorem wipe_in {σ : L2.St} {j : Nat} : ∀ {vs : List Nat}, j ∈ vs → j < σ.length → (wipe σ vs)[j]? = some none
  | v :: vs, h, hl => by
    rw [wipe]
    by_cases e : v = j
    · subst e; rw [List.getElem?_set_self (by rw [wipe_length]; exact hl)]
    · rw [List.getElem?_set_ne e]
      rcases List.mem_cons.mp h with z | z
      · exact absurd z.symm e
      · exact wipe_in z hl
theorem wipe_ext {σ σ' : L2.St} {vs : List Nat} (hl : σ'.length = σ.length) (h : ∀ j, j ∉ vs → σ'[j]? = σ[j]?) : wipe σ' vs = wipe σ vs := by
  apply List.ext_getElem?
  intro j
  by_cases hj : j ∈ vs
  · by_cases hb : j < σ.length
    · rw [wipe_in hj hb, wipe_in hj (by rw [hl]; exact hb)]
    · rw [List.getElem?_eq_none (by rw [wipe_length]; omega), List.getElem?_eq_none (by rw [wipe_length]; omega)]
  · rw [wipe_out hj, wipe_out hj, h j hj]
def ownAt (ρ : List Sl) (i : Nat) : Bool := match ρ[i]? with
  | some sl => (isOwn sl).isSome
  | none => false

def Res.noErr {α : Type} : Res S α → Res S α
  | .err _ _ => .stuck
  | r => r
/-- the turns of a comprehension -/
def lcGo (h : D → List Sl → Option (List Sl)) (ft : EvT' S) (fe : EvF S) (ρ : List Sl) : List D → S → Res S (List D)
  | [], s => .ok [] s
  | d :: ds, s => match h d ρ with
    | none => .stuck
    | some ρ2 => (ft ρ2 s).noErr.bind fun b s1 => if b = true then (fe ρ2 s1).noErr.bind fun y s2 => (lcGo h ft fe ρ ds s2).bind fun ys s3 => .ok (y :: ys) s3 else lcGo h ft fe ρ ds s1
def lcE (fi : EvL' S) (h : D → List Sl → Option (List Sl)) (ft : EvT' S) (fe : EvF S) (vs : List Nat) : EvF S := fun ρ s => (fi ρ s).bind fun ds s1 =>
  if vs.any (ownAt ρ) then .stuck else (lcGo h ft fe (wipeR ρ vs) ds s1).bind fun ys s2 => if ys.length ≤ sizeLine then .ok (.lst ys) s2 else .stuck
theorem lcGo_ne {h : D → List Sl → Option (List Sl)} {ft : EvT' S} {fe : EvF S} {ρ : List Sl} : ∀ (ds : List D) (s : S) (x : Exn) (s' : S), lcGo h ft fe ρ ds s ≠ .err x s'
  | [], s, x, s', e => by simp [lcGo] at e
  | d :: ds, s, x, s', e => by
    unfold lcGo at e
    split at e
    · cases e
    · cases q : (ft _ s) with
      | stuck => rw [q] at e; cases e
      | err y t => rw [q] at e; cases e
      | ok b s1 =>
        rw [q] at e
        simp only [Res.noErr, Res.bind] at e
        split at e
        · cases q2 : (fe _ s1) with
          | stuck => rw [q2] at e; cases e
          | err y t => rw [q2] at e; cases e
          | ok y s2 =>
            rw [q2] at e
            simp only [Res.noErr, Res.bind] at e
            cases q3 : lcGo h ft fe ρ ds s2 with
            | stuck => rw [q3] at e; cases e
            | err z t => exact lcGo_ne ds s2 z t q3
            | ok ys s3 => rw [q3] at e; cases e
        · exact lcGo_ne ds s1 x s' e

/-! ### reserved places -/
def Pt.addZ (P : Pt) (a : Addr) : Pt := { P with Z := fun b => P.Z b ∨ b = a }
theorem fc_addZ {P : Pt} {s : S} {a b : Addr} (h : Fc C P s b) (n : b ≠ a) : Fc C (P.addZ a) s b := ⟨h.1, h.2.1, fun z => z.elim h.2.2.1 n, h.2.2.2⟩
theorem fc_unZ {P : Pt} {s : S} {a b : Addr} (h : Fc C (P.addZ a) s b) : Fc C P s b ∧ b ≠ a := ⟨⟨h.1, h.2.1, fun z => h.2.2.1 (.inl z), h.2.2.2⟩, fun e => h.2.2.1 (.inr e)⟩
theorem Rel.addZ {P : Pt} {σ : L2.St} {H : Hp} {s : S} {a : Addr} {o : HO} (R : Rel C P σ H s) (hp : H a = none) : Rel C (P.addZ a) σ (upd H a o) s := by
  have R1 : Rel C P σ (upd H a o) s := R.new hp
  have x : Xt C.T s s H (upd H a o) := Xt.new hp
  refine ⟨R1.len, R1.st, R1.frm, R1.live, R1.grow, fun b z => ?_, fun i sl e => ?_⟩
  · rcases z with z | z
    · exact R1.za b z
    · subst z
      exact ⟨R.none0 hp, by rw [upd_same]; simp, nN R.st hp⟩
  · have h := R.slot i sl e
    have stp : ∀ {F : Addr → Prop}, (∀ a, F a → ¬ C.T.A s a) → Stays F H (upd H a o) := fun hF => x.stays R.st hF
    have fz : ∀ b, Fc C P s b → H b ≠ none → Fc C (P.addZ a) s b := fun b f n => fc_addZ f fun e => n (by rw [e]; exact hp)
    have own : ∀ ds, isOwn sl = some ds → OwnOk C (P.addZ a) σ (upd H a o) s i ds := fun ds q => by
      have w : OwnOk C P σ H s i ds := R.own e q
      obtain ⟨vs, x1, x2⟩ := w.is
      refine ⟨w.at_, w.new, w.na, fun z => z.elim w.nz fun e => ?_, w.one, vs, x.keep _ _ x1 w.na, x2.step (stp fun _ f => f.2.2.2) fz⟩
      rw [show P.r i = a from e, hp] at x1; cases x1
    cases sl with
    | no => trivial
    | val d => obtain ⟨v, e1, e2⟩ := h; exact ⟨v, e1, e2.step (stp fun _ f => f.2.2.2) fz⟩
    | own ds => exact own ds rfl
    | lck ds => exact own ds rfl
theorem Rel.unZ {P : Pt} {σ : L2.St} {H : Hp} {s : S} {a : Addr} (R : Rel C (P.addZ a) σ H s) : Rel C P σ H s := by
  refine ⟨R.len, R.st, R.frm, R.live, R.grow, fun b z => R.za b (.inl z), fun i sl e => ?_⟩
  have h := R.slot i sl e
  have own : ∀ ds, isOwn sl = some ds → OwnOk C P σ H s i ds := fun ds q => by
    have w : OwnOk C (P.addZ a) σ H s i ds := R.own e q
    obtain ⟨vs, x1, x2⟩ := w.is
    exact ⟨w.at_, w.new, w.na, fun z => w.nz (.inl z), w.one, vs, x1, x2.wk fun b f _ => (fc_unZ f).1⟩
  cases sl with
  | no => trivial
  | val d => obtain ⟨v, e1, e2⟩ := h; exact ⟨v, e1, e2.wk fun b f _ => (fc_unZ f).1⟩
  | own ds => exact own ds rfl
  | lck ds => exact own ds rfl
/-- a reserved list is written -/
theorem stays_zmod {F : Addr → Prop} {H : Hp} {a : Addr} {xs ys : List V} (hx : H a = some (.lst xs)) (hF : ∀ b, F b → b ≠ a) : Stays F H (upd H a (.lst ys)) :=
  ⟨fun b zs e => by rw [upd_ne (fun z => by subst z; rw [hx] at e; cases e)]; exact e, fun b o u e => by rw [upd_ne (fun z => by subst z; rw [hx] at e; cases e)]; exact e, fun b zs f e => by rw [upd_ne (hF b f)]; exact e⟩
theorem Rel.zmod {P : Pt} {σ : L2.St} {H : Hp} {s : S} {a : Addr} {xs ys : List V} (R : Rel C P σ H s) (hz : P.Z a) (hx : H a = some (.lst xs)) : Rel C P σ (upd H a (.lst ys)) s := by
  obtain ⟨z1, z2, z3⟩ := R.za a hz
  have lv : ∀ b, H b ≠ none → upd H a (.lst ys) b ≠ none := fun b n => by
    by_cases e : b = a
    · subst e; rw [upd_same]; simp
    · rw [upd_ne e]; exact n
  have fz : ∀ b, Fc C P s b → b ≠ a := fun b f e => f.2.2.1 (by rw [e]; exact hz)
  refine ⟨R.len, C.T.mono R.st fun b o q e => by rw [upd_ne (fun z => z3 (by rw [← z]; exact q))]; exact e, fun b o e n => ?_, fun b n => lv b (R.live b n), R.grow, fun b z => ?_, fun i sl e => ?_⟩
  · rw [upd_ne (fun z => by rw [z, z1] at e; cases e)]; exact R.frm b o e n
  · obtain ⟨y1, y2, y3⟩ := R.za b z
    exact ⟨y1, lv b y2, y3⟩
  · have h := R.slot i sl e
    have own : ∀ ds, isOwn sl = some ds → OwnOk C P σ (upd H a (.lst ys)) s i ds := fun ds q => by
      have w : OwnOk C P σ H s i ds := R.own e q
      obtain ⟨vs, x1, x2⟩ := w.is
      exact ⟨w.at_, w.new, w.na, w.nz, w.one, vs, by rw [upd_ne (fun z => w.nz (by rw [z]; exact hz))]; exact x1, x2.step (stays_zmod hx fz) fun b f _ => f⟩
    cases sl with
    | no => trivial
    | val d => obtain ⟨v, e1, e2⟩ := h; exact ⟨v, e1, e2.step (stays_zmod hx fz) fun b f _ => f⟩
    | own ds => exact own ds rfl
    | lck ds => exact own ds rfl
/-! ### the block's slots -/
theorem ownAt_no {ρ : List Sl} {vs : List Nat} (h : ¬ vs.any (ownAt ρ) = true) {j : Nat} {sl : Sl} {ds : List D} (e1 : ρ[j]? = some sl) (e2 : isOwn sl = some ds) : j ∉ vs := fun hj => h (by
  rw [List.any_eq_true]
  exact ⟨j, hj, by unfold ownAt; rw [e1]; simp [e2]⟩)
theorem root_only {P : Pt} {vs : List Nat} {ρ' : List Sl} (hv : ¬ vs.any (ownAt P.ρ) = true) (ho : ∀ j, j ∉ vs → ρ'[j]? = P.ρ[j]?) {a : Addr} (h : P.root a) : ({ P with ρ := ρ' } : Pt).root a := by
  obtain ⟨j, sl, ds, e1, e2, e3⟩ := h
  exact ⟨j, sl, ds, (ho j (ownAt_no hv e1 e2)).trans e1, e2, e3⟩
theorem root_wipe {P : Pt} {vs : List Nat} {a : Addr} (h : ({ P with ρ := wipeR P.ρ vs } : Pt).root a) : P.root a := by
  obtain ⟨j, sl, ds, e1, e2, e3⟩ := h
  have e1' : (wipeR P.ρ vs)[j]? = some sl := e1
  by_cases hj : j ∈ vs
  · have hl : j < P.ρ.length := by have := (List.getElem?_eq_some_iff.mp e1').1; rw [wipeR_len] at this; exact this
    rw [wipeR_in hj hl] at e1'
    cases e1'
    cases e2
  · rw [wipeR_out hj] at e1'
    exact ⟨j, sl, ds, e1', e2, e3⟩
theorem Rel.wipe {P : Pt} {σ : L2.St} {H : Hp} {s : S} (R : Rel C P σ H s) (vs : List Nat) : Rel C { P with ρ := wipeR P.ρ vs } (L2.wipe σ vs) H s := by
  have fz : ∀ b, Fc C P s b → Fc C { P with ρ := wipeR P.ρ vs } s b := fun b f => ⟨f.1, fun q => f.2.1 (root_wipe q), f.2.2.1, f.2.2.2⟩
  refine ⟨by rw [wipe_length]; simpa [wipeR_len] using R.len, R.st, R.frm, R.live, R.grow, R.za, fun i sl e => ?_⟩
  have e' : (wipeR P.ρ vs)[i]? = some sl := e
  by_cases hi : i ∈ vs
  · have hl : i < P.ρ.length := by have := (List.getElem?_eq_some_iff.mp e').1; rw [wipeR_len] at this; exact this
    rw [wipeR_in hi hl] at e'
    cases e'
    trivial
  · rw [wipeR_out hi] at e'
    have h := R.slot i sl e'
    have own : ∀ ds, isOwn sl = some ds → OwnOk C { P with ρ := wipeR P.ρ vs } (L2.wipe σ vs) H s i ds := fun ds q => by
      have w : OwnOk C P σ H s i ds := R.own e' q
      obtain ⟨ws, x1, x2⟩ := w.is
      refine ⟨by rw [wipe_out hi]; exact w.at_, w.new, w.na, w.nz, fun j sl' es q1 q2 q3 => ?_, ws, x1, x2.wk fun b f _ => fz b f⟩
      have q1' : (wipeR P.ρ vs)[j]? = some sl' := q1
      by_cases hj : j ∈ vs
      · have hl : j < P.ρ.length := by have := (List.getElem?_eq_some_iff.mp q1').1; rw [wipeR_len] at this; exact this
        rw [wipeR_in hj hl] at q1'
        cases q1'
        cases q2
      · rw [wipeR_out hj] at q1'
        exact w.one j sl' es q1' q2 q3
    cases sl with
    | no => trivial
    | val d => obtain ⟨v, e1, e2⟩ := h; exact ⟨v, by rw [wipe_out hi]; exact e1, e2.wk fun b f _ => fz b f⟩
    | own ds => exact own ds rfl
    | lck ds => exact own ds rfl

abbrev W0 : L2.WX := fun _ _ _ _ => False
theorem noErr_ok {α : Type} {r : Res S α} {a : α} {s : S} (h : r.noErr = .ok a s) : r = .ok a s := by
  cases r <;> simp [Res.noErr] at h ⊢
  exact h
theorem bind_ok {α β : Type} {r : Res S α} {k : α → S → Res S β} {b : β} {s : S} (h : r.bind k = .ok b s) : ∃ a s1, r = .ok a s1 ∧ k a s1 = .ok b s := by
  cases r with
  | ok a s1 => exact ⟨a, s1, rfl, h⟩
  | err x s1 => cases h
  | stuck => cases h
theorem t_lc {fi : EvL' S} {h : D → List Sl → Option (List Sl)} {ft : EvT' S} {fe : EvF S} {vs ts : List Nat} {σ : L2.St} {H : Hp} {Q : VK} (ho : TgOk ts h) (hts : ∀ j ∈ ts, j ∈ vs) (q : tF C W (lcE fi h ft fe vs) σ H Q) :
    tLc (tI false C W fi) (tG C ts h) (tT C W0 ft) (tP C W0 fe) vs σ H Q := by
  obtain ⟨P, s, R, q⟩ := q
  refine ⟨P, s, R, q.bind.mono fun ds s1 H1 R1 x1 q1 J wm Da hDa => ?_⟩
  split at q1
  · exact q1.elim
  rename_i hv
  cases e : lcGo h ft fe (wipeR P.ρ vs) ds s1 with
  | stuck => rw [e] at q1; exact q1.elim
  | err x s' => exact absurd e (lcGo_ne _ _ _ _)
  | ok ys s' =>
    rw [e] at q1
    simp only [Res.bind] at q1
    split at q1
    · rename_i hz
      have RZ0 : Rel C (P.addZ Da) σ (upd H1 Da (.lst [])) s1 := R1.addZ hDa
      refine ⟨fun i m H' => m = ds.length - i ∧ i ≤ ds.length ∧ ∃ si av ad yi, Rel C (P.addZ Da) σ H' si ∧ Xt C.T s1 si H1 H' ∧ H' Da = some (.lst av) ∧ RpL C.K H' (Fc C (P.addZ Da) si) av ad ∧ lcGo h ft fe (wipeR P.ρ vs) (ds.drop i) si = .ok yi s' ∧ ad ++ yi = ys,
        ⟨ds.length, by simp, Nat.zero_le _, s1, [], [], ys, RZ0, Xt.new hDa, upd_same, .nil, by simpa using e, rfl⟩, ?_⟩
      rintro i m H' ⟨rfl, hi, si, av, ad, yi, RZ, x, hD, ra, el, ey⟩
      by_cases hlt : i < ds.length
      · right
        have hd : ds[i]? = some ds[i] := by simp [hlt]
        obtain ⟨g1, g2⟩ := wm.go i _ P si H' hd (by unfold Mv; rw [if_neg (by decide)]; exact ⟨rfl, x⟩) RZ.st
        refine ⟨g1, fun H'' => ∃ si av ad yi, Rel C (P.addZ Da) σ H'' si ∧ Xt C.T s1 si H1 H'' ∧ H'' Da = some (.lst av) ∧ RpL C.K H'' (Fc C (P.addZ Da) si) av ad ∧ lcGo h ft fe (wipeR P.ρ vs) (ds.drop (i + 1)) si = .ok yi s' ∧ ad ++ yi = ys, fun H'' hh => ⟨ds.length - (i + 1), by omega, rfl, hlt, hh⟩, fun xv H3 yy => ?_⟩
        obtain ⟨y1, y2, y3⟩ := g2 xv H3 yy
        have RZ3 : Rel C (P.addZ Da) σ H3 si := RZ.xt y1 y2
        rw [List.drop_eq_getElem_cons hlt] at el
        unfold lcGo at el
        split at el
        · cases el
        rename_i ρ2 eh
        obtain ⟨b, sa, eb, el⟩ := bind_ok el
        have eb := noErr_ok eb
        have only := ho _ _ _ eh
        have rx : Rp C.K H3 (Fc C { P.addZ Da with ρ := wipeR P.ρ vs } si) xv ds[i] := y3.wk fun a f _ => by
          have f' := fc_addZ (a := Da) f.1 fun e => f.2 (by rw [e]; exact hDa)
          exact ⟨f'.1, fun q => f'.2.1 (root_wipe (P := P.addZ Da) q), f'.2.2.1, f'.2.2.2⟩
        refine ⟨{ P.addZ Da with ρ := wipeR P.ρ vs }, si, ds[i], ρ2, RZ3.wipe vs, rx, eh, fun σ2 R2 stp2 on2 => ⟨?_, ?_⟩⟩
        · have : L2.wipe σ2 vs = L2.wipe (L2.wipe σ vs) vs := wipe_ext on2.1 fun j hj => on2.2 j fun hj' => hj (hts j hj')
          rw [this]
          exact wipe_ext (wipe_length σ vs) fun j hj => wipe_out hj
        · -- the test, the element
          have agree : ∀ j, j ∉ vs → ρ2[j]? = P.ρ[j]? := fun j hj => (only.2 j fun hj' => hj (hts j hj')).trans (wipeR_out hj)
          have back : ∀ {s2 : S} {a : Addr}, Fc C { P.addZ Da with ρ := ρ2 } s2 a → Fc C (P.addZ Da) s2 a := fun {s2 a} f =>
            ⟨f.1, fun q => f.2.1 (root_only (P := P.addZ Da) (vs := vs) hv agree q), f.2.2.1, f.2.2.2⟩
          refine ⟨_, si, R2, ?_⟩
          have eb' : ft ({ P.addZ Da with ρ := ρ2 } : Pt).ρ si = .ok b sa := eb
          rw [eb']
          intro H4 R4 x4
          have RZ4 : Rel C (P.addZ Da) σ H4 sa := RZ3.xt x4 R4.st
          have ra4 : RpL C.K H4 (Fc C (P.addZ Da) sa) av ad := (ra.xt y1 RZ.st).xt x4 y2
          have hD4 : H4 Da = some (.lst av) := x4.keep _ _ (y1.keep _ _ hD (RZ.za Da (.inr rfl)).2.2) (RZ3.za Da (.inr rfl)).2.2
          cases b with
          | false =>
            refine iteF ⟨sa, av, ad, yi, RZ4, (x.trans y1).trans x4, hD4, ra4, ?_, ey⟩
            simpa using el
          | true =>
            simp only [if_true] at el
            obtain ⟨y, sb, e2, el⟩ := bind_ok el
            have e2 := noErr_ok e2
            obtain ⟨yr, sc, e3, el⟩ := bind_ok el
            cases el
            refine iteT ⟨_, sa, R4, ?_⟩
            have e2' : fe ({ P.addZ Da with ρ := ρ2 } : Pt).ρ sa = .ok y sb := e2
            rw [e2']
            intro H5 R5 x5 v rv
            have RZ5 : Rel C (P.addZ Da) σ H5 sb := RZ4.xt x5 R5.st
            have ra5 : RpL C.K H5 (Fc C (P.addZ Da) sb) av ad := ra4.xt x5 RZ4.st
            have hD5 : H5 Da = some (.lst av) := x5.keep _ _ hD4 (RZ4.za Da (.inr rfl)).2.2
            have fD : ∀ b, Fc C (P.addZ Da) sb b → b ≠ Da := fun b f => (fc_unZ f).2
            refine ⟨av, hD5, ?_, sb, av ++ [v], ad ++ [y], yr, RZ5.zmod (.inr rfl) hD5, ?_, upd_same, ?_, e3, by rw [List.append_assoc]; exact ey⟩
            · have : ad.length < ys.length := by rw [← ey]; simp
              rw [ra5.length]; omega
            · have xx := ((x.trans y1).trans x4).trans x5
              refine ⟨fun a o ea na => by rw [upd_ne (ne_of_none ea hDa)]; exact xx.keep a o ea na, fun a na => ?_, xx.grow⟩
              by_cases hab : a = Da
              · subst hab; rw [upd_same]; simp
              · rw [upd_ne hab]; exact xx.live a na
            · exact (ra5.append (.cons (rv.wk fun a f _ => back f) .nil)).step (stays_zmod hD5 fD) fun b f _ => f
      · left
        have hin : i = ds.length := by omega
        subst hin
        refine ⟨wm.stop P si H' (by unfold Mv; rw [if_neg (by decide)]; exact ⟨rfl, x⟩) RZ.st, ?_⟩
        rw [List.drop_length] at el
        simp only [lcGo, Res.ok.injEq] at el
        obtain ⟨rfl, rfl⟩ := el
        rw [List.append_nil] at ey
        subst ey
        refine q1 H' RZ.unZ x _ ⟨.lst ?_ hD (ra.wk fun a f _ => (fc_unZ f).1), fun es e' => ?_⟩
        · obtain ⟨z1, z2, z3⟩ := RZ.za Da (.inr rfl)
          refine ⟨.inr z1, fun q => ?_, fun q => ?_, z3⟩
          · exact R1.noRoot hDa q
          · exact (R1.za Da q).2.1 hDa
        · cases e'
          exact ⟨Da, av, rfl, x1.none_of hDa, hD, ra.wk fun a f _ => fc_unZ f⟩
    · exact q1.elim
end
end Q

/-! Lay10: built-in functions by data. -/
namespace Q
open PySem L2
section
variable {S : Type} {C : Cn S} {W : L2.WX} {X : Cx}
inductive TopL (C : Cn S) (P : Pt) (s : S) (H : Hp) : List V → List D → Prop
  | nil : TopL C P s H [] []
  | cons {v : V} {vs : List V} {d : D} {ds : List D} : Top C P s H v d → TopL C P s H vs ds → TopL C P s H (v :: vs) (d :: ds)
theorem TopL.xt {P : Pt} {s s' : S} {H H' : Hp} (x : Xt C.T s s' H H') (st : C.T.R s H) : ∀ {vs : List V} {ds : List D}, TopL C P s H vs ds → TopL C P s' H' vs ds
  | _, _, .nil => .nil
  | _, _, .cons h r => .cons (h.xt x st) (TopL.xt x st r)
def tAK (C : Cn S) (W : L2.WX) (f : EvL' S) : TA := fun σ H Q => ∃ P s, Rel C P σ H s ∧ Run C W P σ H s (f P.ρ s) fun ds s' H' => ∀ vs, TopL C P s' H' vs ds → Q vs H'
theorem sak_nil : PA X [] (tAK C W nilA) := pa_mono pa_nil fun σ H Q ⟨P, s, R, q⟩ => (q.now R) _ .nil
theorem sak_cons {e : Expr} {es : List Expr} {f : EvF S} {g : EvL' S} (he : PE X e (tK C W f)) (hr : PA X es (tAK C W g)) (hs : isStar e = false) : PA X (e :: es) (tAK C W (consA f g)) :=
  pa_mono (pa_cons he hr (star_no hs)) fun σ H Q ⟨P, s, R, q⟩ => ⟨P, s, R, q.bind.mono fun d s1 H1 R1 x1 q1 v rv => ⟨P, s1, R1, q1.bind.mono fun ds s2 H2 R2 x2 q2 vs rvs => (q2.now R2) _ (.cons (rv.xt x2 R1.st) rvs)⟩⟩
def rC (C : Cn S) (f : List D → Option D) : List V → Hp → VK → Prop := fun vs H Q => ∃ P s σ ds d, Rel C P σ H s ∧ TopL C P s H vs ds ∧ f ds = some d ∧ ∀ v H', Xt C.T s s H H' → C.T.R s H' → Fr C P s H H' v d → Q v H'
def CallD (X : Cx) (g : Value) (f : List D → Option D) : Prop := ∀ {S : Type} (C : Cn S), C.K = X.K → CallR X g (rC C f)
def biF (f : List D → Option D) (g : EvL' S) : EvF S := fun ρ s => (g ρ s).bind fun ds s1 => ofO (f ds) s1
theorem t_bi {f : List D → Option D} {g : EvL' S} {σ : L2.St} {H : Hp} {Q : VK} (h : tF C W (biF f g) σ H Q) : tAK C W g σ H fun vs H1 => rC C f vs H1 Q := by
  obtain ⟨P, s, R, q⟩ := h
  refine ⟨P, s, R, q.bind.mono fun ds s1 H1 R1 x1 q1 vs tv => ?_⟩
  obtain ⟨d, e, k⟩ := run_ofO q1
  exact ⟨P, s1, σ, ds, d, R1, tv, e, fun v H' x st fr => k H' (R1.xt x st) x v (fr.back x1)⟩
theorem sd_bi {N : List Str} {sc : Scope} (k : Xk C W X N sc) {x : Str} {id : String} {f : List D → Option D} {g : EvL' S} {e : Expr} {es : List Expr} {p pos : Pos} (hc : CallD X (.builtin id) f) (hg : glB sc x = true) (hm : X.mg x = none) (hv : bootBuiltins x = some (.builtin id)) (ha : PA X (e :: es) (tAK C W g)) (hs : (e :: es).all (fun e => !isStar e) = true) :
    PE X (.Call (.Name x p) (e :: es) [] pos) (tF C W (biF f g)) := by
  obtain ⟨h1, h2, h3⟩ := gl_of k hg
  simp only [List.all_cons, Bool.and_eq_true, Bool.not_eq_true'] at hs
  exact pe_mono (pe_callB (hc C k.K) h1 hm hv ha h3 h2 (star_no hs.1) (star_back hs.2)) fun σ H Q h => t_bi h
theorem sd_ty {N : List Str} {sc : Scope} (k : Xk C W X N sc) {x : Str} {id : String} {f : List D → Option D} {g : EvL' S} {e : Expr} {es : List Expr} {p pos : Pos} (hc : CallD X (.type id) f) (hg : glB sc x = true) (hm : X.mg x = none) (hv : bootBuiltins x = some (.type id)) (ha : PA X (e :: es) (tAK C W g)) (hs : (e :: es).all (fun e => !isStar e) = true) :
    PE X (.Call (.Name x p) (e :: es) [] pos) (tF C W (biF f g)) := by
  obtain ⟨h1, h2, h3⟩ := gl_of k hg
  simp only [List.all_cons, Bool.and_eq_true, Bool.not_eq_true'] at hs
  exact pe_mono (pe_callTy (hc C k.K) h1 hm hv ha h3 h2 (star_no hs.1) (star_back hs.2)) fun σ H Q h => t_bi h
end

/-! ### len, int, abs, tuple, list -/
def bLen : List D → Option D
  | [.tup ds] => some (.int ds.length)
  | [.lst ds] => some (.int ds.length)
  | [.scr ds] => some (.int ds.length)
  | [.str z] => if z.length ≤ sizeLine then some (.int z.length) else none
  | _ => none
variable {X : Cx}
theorem cd_len : CallD X (.builtin "len") bLen := by
  intro S C hK pins s σ H vs us Q I rv ⟨P, st, σ', ds, d, R, tv, e, k⟩
  unfold bLen at e
  split at e
  · cases e
    cases tv with
    | cons t r =>
      cases r
      obtain ⟨a, ws, rfl, h, q⟩ := t.tup
      exact call_len_seq pins s σ H _ us Q I rv ⟨a, ws, rfl, .inr (by rw [← hK]; exact h), by rw [q.length]; exact k _ _ Xt.refl R.st (.int _)⟩
  · cases e
    cases tv with
    | cons t r =>
      cases r
      obtain ⟨a, ws, rfl, h, q⟩ := t.lst
      exact call_len_seq pins s σ H _ us Q I rv ⟨a, ws, rfl, .inl (.inl (.inl h)), by rw [q.length]; exact k _ _ Xt.refl R.st (.int _)⟩
  · cases e
    cases tv with
    | cons t r =>
      cases r
      obtain ⟨a, ws, rfl, h, q⟩ := t.scr
      exact call_len_seq pins s σ H _ us Q I rv ⟨a, ws, rfl, .inl (by rw [← hK]; exact h.sq), by rw [q.length]; exact k _ _ Xt.refl R.st (.int _)⟩
  · split at e
    · cases e
      cases tv with
      | cons t r =>
        cases r
        have := top_str t
        subst this
        exact call_len_str pins s σ H _ us Q I rv ⟨_, rfl, by assumption, k _ _ Xt.refl R.st (.int _)⟩
    · cases e
  · cases e
def bInt : List D → Option D
  | [.int i] => some (.int i)
  | [.bl b] => some (.int (if b then 1 else 0))
  | _ => none
theorem cd_int : CallD X (.type "int") bInt := by
  intro S C hK pins s σ H vs us Q I rv ⟨P, st, σ', ds, d, R, tv, e, k⟩
  unfold bInt at e
  split at e
  · cases e
    cases tv with
    | cons t r =>
      cases r
      have := top_int t
      subst this
      exact call_int1 pins s σ H _ us Q I rv (.inl ⟨_, rfl, k _ _ Xt.refl R.st (.int _)⟩)
  · cases e
    cases tv with
    | cons t r =>
      cases r
      have := top_bl t
      subst this
      exact call_int1 pins s σ H _ us Q I rv (.inr ⟨_, rfl, k _ _ Xt.refl R.st (.int _)⟩)
  · cases e
def bAbs : List D → Option D
  | [.int i] => some (.int (if i < 0 then -i else i))
  | _ => none
theorem cd_abs : CallD X (.builtin "abs") bAbs := by
  intro S C hK pins s σ H vs us Q I rv ⟨P, st, σ', ds, d, R, tv, e, k⟩
  unfold bAbs at e
  split at e
  · cases e
    cases tv with
    | cons t r =>
      cases r
      have := top_int t
      subst this
      exact call_abs pins s σ H _ us Q I rv ⟨_, rfl, k _ _ Xt.refl R.st (.int _)⟩
  · cases e
def bTuple : List D → Option D
  | [.tup ds] => some (.tup ds)
  | [.lst ds] => some (.tup ds)
  | _ => none
theorem cd_tuple : CallD X (.type "tuple") bTuple := by
  intro S C hK pins s σ H vs us Q I rv ⟨P, st, σ', ds, d, R, tv, e, k⟩
  unfold bTuple at e
  split at e
  · cases e
    cases tv with
    | cons t r =>
      cases r
      obtain ⟨a, ws, rfl, h, q⟩ := t.tup
      exact call_tuple_of pins s σ H _ us Q I rv ⟨a, ws, rfl, .inr ⟨by rw [← hK]; exact h, k _ _ Xt.refl R.st (Fr.plain (.tup h q) fun _ e => nomatch e)⟩⟩
  · cases e
    cases tv with
    | cons t r =>
      cases r
      obtain ⟨a, ws, rfl, h, q⟩ := t.lst
      exact call_tuple_of pins s σ H _ us Q I rv ⟨a, ws, rfl, .inl ⟨.inl (.inl h), fun p hp => k _ _ (Xt.new hp) (st_new R.st hp) (Fr.newT R hp q)⟩⟩
  · cases e
def bList : List D → Option D
  | [.tup ds] => some (.lst ds)
  | [.lst ds] => some (.lst ds)
  | _ => none
theorem cd_list : CallD X (.type "list") bList := by
  intro S C hK pins s σ H vs us Q I rv ⟨P, st, σ', ds, d, R, tv, e, k⟩
  unfold bList at e
  split at e
  · cases e
    cases tv with
    | cons t r =>
      cases r
      obtain ⟨a, ws, rfl, h, q⟩ := t.tup
      exact call_list_of pins s σ H _ us Q I rv ⟨a, ws, rfl, .inr (by rw [← hK]; exact h), fun p hp => k _ _ (Xt.new hp) (st_new R.st hp) (Fr.newL R hp q)⟩
  · cases e
    cases tv with
    | cons t r =>
      cases r
      obtain ⟨a, ws, rfl, h, q⟩ := t.lst
      exact call_list_of pins s σ H _ us Q I rv ⟨a, ws, rfl, .inl (.inl (.inl h)), fun p hp => k _ _ (Xt.new hp) (st_new R.st hp) (Fr.newL R hp q)⟩
  · cases e
/-! ### sum, max, min, all, any -/
def bSum : List D → Option D
  | [.lst ds] => (intsOf ds).map fun ns => .int ns.sum
  | [.tup ds] => (intsOf ds).map fun ns => .int ns.sum
  | _ => none
theorem sumT_raw {prog : Program} {w : World} {A : Around} {E : Value → Shared → Prop} {s : Shared} {l : Addr} {its : List Value} {ns : List Int} {Q : Value → Shared → Prop} (hh : A.handled = none) (hl : s.heap.IsTuple l its.toArray) (hi : PyProof.Rows.IntsAre its ns)
    (h : ∀ h' tk t', (∀ b o, s.heap.get? b = some o → h'.get? b = some o) → Q (.int ns.sum t') { s with heap := h', toks := tk }) : wpAny (model prog w) A (call (.builtin "sum") [.ref l]) Q E s := by
  obtain ⟨xs, e⟩ := hi.allInts.items
  have hn : numsOf (intItems xs).toList = ns := by rw [← e]; exact hi.numsOf
  rw [nums_intItems] at hn
  rw [e] at hl
  refine PySem.W.ktm_sumG hh hl fun h' tk t' hk => ?_
  rw [preSum_eq, List.take_of_length_le (by simp), hn]
  exact h h' tk t' hk
theorem cd_sum (hc : X.calm = true) : CallD X (.builtin "sum") bSum := by
  intro S C hK pins s σ H vs us Q I rv ⟨P, st, σ', ds, d, R, tv, e, k⟩
  unfold bSum at e
  split at e
  · simp only [Option.map_eq_some_iff] at e
    obtain ⟨ns, e, rfl⟩ := e
    cases tv with
    | cons t r =>
      cases r
      obtain ⟨a, ws, rfl, h, q⟩ := t.lst
      rw [ints_of q e] at h
      exact cr_sum hc pins s σ H _ us Q I rv ⟨a, ns, rfl, .inl (.inl h), k _ _ Xt.refl R.st (.int _)⟩
  · simp only [Option.map_eq_some_iff] at e
    obtain ⟨ns, e, rfl⟩ := e
    cases tv with
    | cons t r =>
      cases r
      obtain ⟨a, ws, rfl, h, q⟩ := t.tup
      rw [ints_of q e, hK] at h
      obtain ⟨its, rr, ht, _⟩ := I.tuple h
      rw [Vals.ref1 rv]
      exact sumT_raw (I.ok.hd hc) ht rr.ints fun h' tk t' hk => ⟨.int _, H, I.kept hk, ⟨_, rfl⟩, k _ _ Xt.refl R.st (.int _)⟩
  · cases e
theorem foldMax_le : ∀ (ns : List Int) (n : Int), n ≤ ns.foldl max n ∧ ∀ y ∈ ns, y ≤ ns.foldl max n
  | [], n => ⟨Int.le_refl _, fun _ h => nomatch h⟩
  | m :: ns, n => by
    obtain ⟨h1, h2⟩ := foldMax_le ns (max n m)
    refine ⟨by simp only [List.foldl_cons]; omega, fun y hy => ?_⟩
    simp only [List.foldl_cons]
    rcases List.mem_cons.mp hy with e | e
    · subst e; omega
    · exact h2 y e
theorem foldMax_mem : ∀ (ns : List Int) (n : Int), ns.foldl max n ∈ n :: ns
  | [], n => by simp
  | m :: ns, n => by
    simp only [List.foldl_cons]
    rcases List.mem_cons.mp (foldMax_mem ns (max n m)) with e | e
    · rw [e]
      rcases Int.le_total n m with h | h
      · rw [Int.max_eq_right h]; simp
      · rw [Int.max_eq_left h]; simp
    · exact List.mem_cons_of_mem _ (List.mem_cons_of_mem _ e)
theorem foldMin_le : ∀ (ns : List Int) (n : Int), ns.foldl min n ≤ n ∧ ∀ y ∈ ns, ns.foldl min n ≤ y
  | [], n => ⟨Int.le_refl _, fun _ h => nomatch h⟩
  | m :: ns, n => by
    obtain ⟨h1, h2⟩ := foldMin_le ns (min n m)
    refine ⟨by simp only [List.foldl_cons]; omega, fun y hy => ?_⟩
    simp only [List.foldl_cons]
    rcases List.mem_cons.mp hy with e | e
    · subst e; omega
    · exact h2 y e
theorem foldMin_mem : ∀ (ns : List Int) (n : Int), ns.foldl min n ∈ n :: ns
  | [], n => by simp
  | m :: ns, n => by
    simp only [List.foldl_cons]
    rcases List.mem_cons.mp (foldMin_mem ns (min n m)) with e | e
    · rw [e]
      rcases Int.le_total n m with h | h
      · rw [Int.min_eq_left h]; simp
      · rw [Int.min_eq_right h]; simp
    · exact List.mem_cons_of_mem _ (List.mem_cons_of_mem _ e)
def maxI : List Int → Option D
  | [] => none
  | n :: ns => some (.int (ns.foldl max n))
def minI : List Int → Option D
  | [] => none
  | n :: ns => some (.int (ns.foldl min n))
def bMax : List D → Option D
  | [.int i, .int j] => some (.int (if j > i then j else i))
  | [.lst ds] => (intsOf ds).bind maxI
  | [.tup ds] => (intsOf ds).bind maxI
  | _ => none
def bMin : List D → Option D
  | [.int i, .int j] => some (.int (if j < i then j else i))
  | [.lst ds] => (intsOf ds).bind minI
  | [.tup ds] => (intsOf ds).bind minI
  | _ => none
theorem alike_ints (ns : List Int) : PySem.W.AlikeAll (ns.map PyData.int) := by
  refine ⟨fun x hx y hy => ?_, fun x hx e => ?_⟩
  · obtain ⟨a, _, rfl⟩ := List.mem_map.mp hx
    obtain ⟨b, _, rfl⟩ := List.mem_map.mp hy
    simp [PySem.W.alike]
  · obtain ⟨a, _, rfl⟩ := List.mem_map.mp hx
    cases e
theorem depth_ints : ∀ ns : List Int, PyData.depthAll (ns.map PyData.int) ≤ 1
  | [] => by simp [PyData.depthAll]
  | n :: ns => by
    have := depth_ints ns
    simp only [List.map_cons, PyData.depthAll, PyData.depth]
    omega
theorem toPyL_ints : ∀ {ds : List D} {ns : List Int}, intsOf ds = some ns → toPyL ds = some (ns.map .int)
  | [], ns, e => by simp [intsOf] at e; subst e; rfl
  | d :: ds, ns, e => by
    cases d <;> simp only [intsOf, Option.map_eq_some_iff] at e <;> try cases e
    obtain ⟨e1, rfl⟩ := by assumption
    simp [toPyL, toPy, toPyL_ints e1]
theorem cd_max (hc : X.calm = true) (hu : X.A.units + 200 < cLine) : CallD X (.builtin "max") bMax := by
  intro S C hK pins s σ H vs us Q I rv ⟨P, st, σ', ds, d, R, tv, e, k⟩
  unfold bMax at e
  split at e
  · cases e
    cases tv with
    | cons t r =>
      cases r with
      | cons t2 r =>
        cases r
        have := top_int t
        subst this
        have := top_int t2
        subst this
        exact call_max2 hc pins s σ H _ us Q I rv ⟨_, _, rfl, k _ _ Xt.refl R.st (.int _)⟩
  · rw [Option.bind_eq_some_iff] at e
    obtain ⟨ns, e, e2⟩ := e
    cases ns with
    | nil => cases e2
    | cons n ns =>
      cases e2
      cases tv with
      | cons t r =>
        cases r
        obtain ⟨a, ws, rfl, h, q⟩ := t.lst
        rw [ints_of q e] at h
        refine cr_max hc pins s σ H _ us Q I rv ⟨a, n :: ns, rfl, .inl (.inl h), Nat.succ_pos _, fun m hm hy => ?_⟩
        have e1 : m = ns.foldl max n := Int.le_antisymm (by
          rcases List.mem_cons.mp hm with e | e
          · rw [e]; exact (foldMax_le ns n).1
          · exact (foldMax_le ns n).2 m e) (hy _ (foldMax_mem ns n))
        rw [e1]
        exact k _ _ Xt.refl R.st (.int _)
  · rw [Option.bind_eq_some_iff] at e
    obtain ⟨ns, e, e2⟩ := e
    cases ns with
    | nil => cases e2
    | cons n ns =>
      cases e2
      cases tv with
      | cons t r =>
        cases r
        obtain ⟨a, ws, rfl, h, q⟩ := t.tup
        have hp : DpAll X.K H ws ((n :: ns).map .int) := by rw [← hK]; exact dpL_of q (toPyL_ints e)
        rw [hK] at h
        obtain ⟨its, rr, ht, _⟩ := I.tuple h
        rw [Vals.ref1 rv]
        obtain ⟨as, ra⟩ := Dp.readsAll I _ _ its hp rr
        refine PySem.W.max_tuple_data (x := .int n) (xs := ns.map .int) (I.ok.hd hc) ht ra (alike_ints (n :: ns)) ?_ fun i v h' tk bs hv rd hk => ?_
        · have := depth_ints (n :: ns)
          simp only [List.map_cons] at this
          omega
        · rw [PySem.W.maxD_ints] at rd
          cases rd
          exact ⟨.int _, H, I.kept hk, ⟨_, rfl⟩, k _ _ Xt.refl R.st (.int _)⟩
  · cases e
theorem cd_min (hc : X.calm = true) (hu : X.A.units + 200 < cLine) : CallD X (.builtin "min") bMin := by
  intro S C hK pins s σ H vs us Q I rv ⟨P, st, σ', ds, d, R, tv, e, k⟩
  unfold bMin at e
  split at e
  · cases e
    cases tv with
    | cons t r =>
      cases r with
      | cons t2 r =>
        cases r
        have := top_int t
        subst this
        have := top_int t2
        subst this
        exact call_min2 hc pins s σ H _ us Q I rv ⟨_, _, rfl, k _ _ Xt.refl R.st (.int _)⟩
  · rw [Option.bind_eq_some_iff] at e
    obtain ⟨ns, e, e2⟩ := e
    cases ns with
    | nil => cases e2
    | cons n ns =>
      cases e2
      cases tv with
      | cons t r =>
        cases r
        obtain ⟨a, ws, rfl, h, q⟩ := t.lst
        rw [ints_of q e] at h
        refine cr_min hc pins s σ H _ us Q I rv ⟨a, n :: ns, rfl, .inl (.inl h), Nat.succ_pos _, fun m hm hy => ?_⟩
        have e1 : m = ns.foldl min n := Int.le_antisymm (hy _ (foldMin_mem ns n)) (by
          rcases List.mem_cons.mp hm with e | e
          · rw [e]; exact (foldMin_le ns n).1
          · exact (foldMin_le ns n).2 m e)
        rw [e1]
        exact k _ _ Xt.refl R.st (.int _)
  · rw [Option.bind_eq_some_iff] at e
    obtain ⟨ns, e, e2⟩ := e
    cases ns with
    | nil => cases e2
    | cons n ns =>
      cases e2
      cases tv with
      | cons t r =>
        cases r
        obtain ⟨a, ws, rfl, h, q⟩ := t.tup
        have hp : DpAll X.K H ws ((n :: ns).map .int) := by rw [← hK]; exact dpL_of q (toPyL_ints e)
        rw [hK] at h
        obtain ⟨its, rr, ht, _⟩ := I.tuple h
        rw [Vals.ref1 rv]
        obtain ⟨as, ra⟩ := Dp.readsAll I _ _ its hp rr
        refine PySem.W.min_tuple_data (x := .int n) (xs := ns.map .int) (I.ok.hd hc) ht ra (alike_ints (n :: ns)) ?_ fun i v h' tk bs hv rd hk => ?_
        · have := depth_ints (n :: ns)
          simp only [List.map_cons] at this
          omega
        · rw [PySem.W.minD_ints] at rd
          cases rd
          exact ⟨.int _, H, I.kept hk, ⟨_, rfl⟩, k _ _ Xt.refl R.st (.int _)⟩
  · cases e
def boolsOf : List D → Option (List Bool)
  | [] => some []
  | .bl i :: ds => (boolsOf ds).map (i :: ·)
  | _ => none
theorem bools_of {K : PySem.W.Frag} {H : Hp} {F : Addr → Prop} : ∀ {vs : List V} {ds : List D} {ns : List Bool}, RpL K H F vs ds → boolsOf ds = some ns → vs = ns.map V.bl
  | _, _, _, .nil, e => by simp [boolsOf] at e; subst e; rfl
  | _, _, _, .cons (d := d) h r, e => by
    cases d <;> simp only [boolsOf, Option.map_eq_some_iff] at e <;> try cases e
    obtain ⟨e1, rfl⟩ := by assumption
    rw [rp_bl h, bools_of r e1]
    rfl
def bAll : List D → Option D
  | [.lst ds] => (boolsOf ds).map fun bs => .bl (bs.all id)
  | _ => none
def bAny : List D → Option D
  | [.lst ds] => (boolsOf ds).map fun bs => .bl (bs.any id)
  | _ => none
theorem cd_all (hc : X.calm = true) : CallD X (.builtin "all") bAll := by
  intro S C hK pins s σ H vs us Q I rv ⟨P, st, σ', ds, d, R, tv, e, k⟩
  unfold bAll at e
  split at e
  · simp only [Option.map_eq_some_iff] at e
    obtain ⟨ns, e, rfl⟩ := e
    cases tv with
    | cons t r =>
      cases r
      obtain ⟨a, ws, rfl, h, q⟩ := t.lst
      rw [bools_of q e] at h
      exact cr_all hc pins s σ H _ us Q I rv ⟨a, ns, rfl, .inl (.inl h), k _ _ Xt.refl R.st (.bl _)⟩
  · cases e
theorem cd_any (hc : X.calm = true) : CallD X (.builtin "any") bAny := by
  intro S C hK pins s σ H vs us Q I rv ⟨P, st, σ', ds, d, R, tv, e, k⟩
  unfold bAny at e
  split at e
  · simp only [Option.map_eq_some_iff] at e
    obtain ⟨ns, e, rfl⟩ := e
    cases tv with
    | cons t r =>
      cases r
      obtain ⟨a, ws, rfl, h, q⟩ := t.lst
      rw [bools_of q e] at h
      exact cr_any hc pins s σ H _ us Q I rv ⟨a, ns, rfl, .inl (.inl h), k _ _ Xt.refl R.st (.bl _)⟩
  · cases e
/-! ### repr -/
def bRepr : List D → Option D
  | [d] => match d with
    | .tup _ | .lst _ => (toPy d).bind fun p => if p.showable = true ∧ p.depth ≤ 64 ∧ p.hasDict = false ∧ p.shown.length ≤ sizeLine then some (.str p.shown) else none
    | _ => none
  | _ => none
theorem cd_repr (hg : X.A.guards = some []) (hu : X.A.units + 200 < cLine) : CallD X (.builtin "repr") bRepr := by
  intro S C hK pins s σ H vs us Q I rv ⟨P, st, σ', ds, d, R, tv, e, k⟩
  have key : ∀ {v : V} {u : Value} {d' : D} {a : Addr}, v = .ref a → RelV v u → Top C P st H v d' → (toPy d').bind (fun p => if p.showable = true ∧ p.depth ≤ 64 ∧ p.hasDict = false ∧ p.shown.length ≤ sizeLine then some (.str p.shown) else none) = some d → wpAny (model X.prog X.w) X.A (call (.builtin "repr") [u]) (EP X pins σ Q) X.xe s := by
    intro v u d' a hv ru t e
    subst hv
    rw [Option.bind_eq_some_iff] at e
    obtain ⟨p, e1, e2⟩ := e
    split at e2
    · rename_i h
      cases e2
      obtain ⟨h1, h2, h3, h4⟩ := h
      have dp := dp_top t e1
      rw [hK] at dp
      obtain ⟨as, rd⟩ := Dp.reads I p _ u dp ru
      cases ru
      exact repr_of_reads' rd h1 (fun z => by rw [h3] at z; cases z) hg (by omega) (fun _ _ e => e) (fun h' u tk hk => ⟨.str _, H, I.kept hk, ⟨_, rfl⟩, k _ _ Xt.refl R.st (.str _)⟩) h4
    · cases e2
  unfold bRepr at e
  split at e
  · cases tv with
    | cons t r =>
      cases r
      cases rv with
      | cons ru rr =>
        cases rr
        split at e
        · obtain ⟨a, ws, rfl, h, q⟩ := t.tup
          exact key rfl ru t e
        · obtain ⟨a, ws, rfl, h, q⟩ := t.lst
          exact key rfl ru t e
        · cases e
  · cases e
end Q

/-! Lay11: x[::-1]; isinstance. -/
namespace L2
open PySem PySem.Spec PyProof.Rows
namespace HTR
section
variable {prog : Program} {w : World} {A : Around} {E : Value → Shared → Prop} {s : Shared}
theorem adjust_rev (n : Nat) : Builtin.Slice.sliceAdjust none none (-1) (n : Int) = ((n : Int) - 1, -1) := by
  unfold Builtin.Slice.sliceAdjust
  simp
theorem places_rev (n : Nat) : Builtin.Slice.slicePlaces ((n : Int) - 1) (-1) (-1) = n := by
  unfold Builtin.Slice.slicePlaces
  simp
  try omega
theorem sliceApplied_rev {sl : Addr} {vs : Value} {n : Nat} {Q : Int × Int × Nat → Shared → Prop} (hs : s.heap.IsSliceOf sl .none .none vs) (ps : IsPart vs (some (-1)))
    (h : Q ((n : Int) - 1, -1, n) s) : wpAny (model prog w) A (Builtin.Slice.sliceApplied (.ref sl) (pure (n : Int))) Q E s := by
  obtain ⟨os, hos, hcs, hds⟩ := id hs
  unfold Builtin.Slice.sliceApplied Builtin.Slice.sliceFields
  refine wpAny_bind (wpAny_bind (wpAny_field hos hds (x := .none) rfl (wpAny_bind (wpAny_field hos hds (x := .none) rfl (wpAny_bind (wpAny_field hos hds (x := vs) rfl (wpAny_pure ?_)))))))
  refine wpAny_bind (_root_.HT.slicePart_ ps ?_)
  show wpAny _ _ (if ((-1 : Int) == 0) = true then _ else _) _ _ s
  rw [if_neg (by decide)]
  refine wpAny_bind (slicePart_none (wpAny_bind (slicePart_none (wpAny_bind (wpAny_pure ?_)))))
  show wpAny _ _ (match Builtin.Slice.sliceAdjust none none (-1) (n : Int) with | (lo, hi) => pure (lo, (-1 : Int), Builtin.Slice.slicePlaces lo hi (-1))) _ _ s
  rw [adjust_rev n]
  show wpAny _ _ (pure ((n : Int) - 1, (-1 : Int), Builtin.Slice.slicePlaces ((n : Int) - 1) (-1) (-1))) _ _ s
  rw [places_rev]
  exact wpAny_pure h
theorem fm_congr {α β : Type} {f g : α → Option β} : ∀ {l : List α}, (∀ k ∈ l, f k = g k) → l.filterMap f = l.filterMap g
  | [], _ => rfl
  | a :: l, h => by
    rw [List.filterMap_cons, List.filterMap_cons, h a List.mem_cons_self, fm_congr fun k hk => h k (List.mem_cons_of_mem _ hk)]
theorem pick_rev (xs : Array Value) : ((List.range xs.size).filterMap fun (k : Nat) => xs[((xs.size : Int) - 1 + (k : Int) * -1).toNat]?).toArray = xs.toList.reverse.toArray := by
  congr 1
  have e : ∀ k ∈ List.range xs.size, xs[((xs.size : Int) - 1 + (k : Int) * -1).toNat]? = (xs.toList.reverse)[k]? := by
    intro k hk
    rw [List.mem_range] at hk
    rw [List.getElem?_reverse (by simpa using hk), Array.getElem?_toList, Array.length_toList]
    congr 1
    omega
  have f : (List.range xs.size).filterMap (fun (k : Nat) => xs[((xs.size : Int) - 1 + (k : Int) * -1).toNat]?) = (List.range xs.toList.reverse.length).filterMap fun k => (xs.toList.reverse)[k]? := by
    rw [List.length_reverse, Array.length_toList]
    exact fm_congr e
  rw [f]
  generalize xs.toList.reverse = l
  induction l with
  | nil => rfl
  | cons a l ih =>
    rw [List.length_cons, List.range_succ_eq_map, List.filterMap_cons]
    simp only [List.getElem?_cons_zero]
    rw [List.filterMap_map]
    congr 1
theorem getItem_tuple_rev {t sl : Addr} {items : Array Value} {vs : Value} {Q : Value → Shared → Prop} (ht : IsTup s.heap t items) (hs : s.heap.IsSliceOf sl .none .none vs) (ps : IsPart vs (some (-1)))
    (h : Q (.ref s.heap.objs.size) { s with heap := s.heap.push { cls := .type "tuple", data := .seq items.toList.reverse.toArray } }) (hsz : items.size ≤ sizeLine) : wpAny (model prog w) A (getItem (.ref t) (.ref sl)) Q E s := by
  have htake : sizeOk (.seq items.toList.reverse.toArray) := by
    show items.toList.reverse.toArray.size ≤ sizeLine
    simpa using hsz
  obtain ⟨os, hos, hcs, hds⟩ := id hs
  have hTs : s.TypeIs (.ref sl) "slice" := ⟨os, hos, hcs⟩
  unfold getItem
  try with_reducible refine wpAny_holding ?_
  first | refine wpAny_bind (wpAny_pure ?_) | skip
  refine wpAny_bind (wpAny_sequenceKey ht.typeIs (by decide) ?_)
  refine wpAny_bind (wpAny_callSpecial?_slot (name := Str.ofString "__getitem__") ht.typeIs PyProof.Rows.slot_tuple_getitem
    (wpAny_call_entry PyProof.Rows.slot_tuple_getitem ht.typeIs entry_tuple_getitem ?_ (args_tuple_getitem _ _)))
  show wpAny _ _ (Builtin.Tuple.tupleItemsOf (.ref t) >>= _) _ _ s
  refine wpAny_bind (tupleItemsOf_ ht ?_)
  refine wpAny_bind (wpAny_typeOf hTs ?_)
  rw [if_pos (by decide)]
  refine wpAny_bind (sliceApplied_rev hs ps ?_)
  show wpAny _ _ (if ((items.size : Int) - 1 == 0 && (-1 : Int) == 1 && items.size == items.size) = true then _ else _) _ _ s
  rw [if_neg (by simp), pick_rev]
  first
    | exact wpAny_bind (m := Builtin.Tuple.tupleExact _) (wpAny_newObj_type (wpAny_pure ⟨_, rfl, wpAny_pure h⟩) htake)
    | exact wpAny_bind (m := Builtin.Tuple.tupleExact _) (wpAny_newObj_type (wpAny_bind (wpAny_pure (wpAny_pure ⟨_, rfl, wpAny_pure h⟩))) htake)
    | exact wpAny_bind (wpAny_bind (m := Builtin.Tuple.tupleExact _) (wpAny_newObj_type (wpAny_pure (wpAny_pure ⟨_, rfl, wpAny_pure h⟩)) htake))
    | exact wpAny_bind (wpAny_bind (m := Builtin.Tuple.tupleExact _) (wpAny_newObj_type (wpAny_pure ⟨_, rfl, wpAny_pure h⟩) htake))
end
end HTR
section
variable {X : Cx}
def tRevA (K : PySem.W.Frag) (te : TE) : TE := fun σ H Q => te σ H fun x H1 => (∃ a xs, x = .ref a ∧ SqL K H1 a xs ∧ ∀ p, H1 p = none → Q (.ref p) (upd H1 p (.lst xs.reverse))) ∨ (∃ a xs, x = .ref a ∧ SqT K H1 a xs ∧ ∀ p, H1 p = none → Q (.ref p) (upd H1 p (.tup xs.reverse)))
theorem pe_revA {e : Expr} {te : TE} {k : Nat} {p1 p2 p3 pos : Pos} (he : PE X e te) : PE X (.Subscript e (.Slice none none (some (.UnaryOp .USub (.Constant (.int 1) k p1) p2)) p3) pos) (tRevA X.K te) := by
  refine ⟨fun pins s σ H Q I h => ?_⟩
  refine Subscript_ (thn (he.run pins s σ H _ I h) fun v s1 ⟨x, H1, I1, r1, q1⟩ => ?_)
  have hst : PO X (some (.UnaryOp .USub (.Constant (.int 1) k p1) p2)) (tPart (tUn (rU fun i => .int (-i)) (tC (.int 1)))) := po_some (pe_un un_neg pe_int)
  refine wpAny_Slice (thn (po_none.run pins s1 σ H1 (fun o H2 => o = none ∧ H2 = H1) I1 ⟨rfl, rfl⟩) fun vl s2 ⟨l, H2, I2, pl, el, e2⟩ => ?_)
  subst el e2
  refine thn (po_none.run pins s2 σ H2 (fun o H3 => o = none ∧ H3 = H2) I2 ⟨rfl, rfl⟩) fun vu s3 ⟨u, H3, I3, pu, eu, e3⟩ => ?_
  subst eu e3
  refine thn (hst.run pins s3 σ H3 (fun o H4 => o = some (-1) ∧ H4 = H3) I3 ⟨1, rfl, -1, rfl, rfl, rfl⟩) fun vs s4 ⟨o, H4, I4, ps, eo, e4⟩ => ?_
  subst eo e4
  have I5 : Inv X pins σ H4 { s4 with heap := s4.heap.push { cls := .type "slice", data := .fields #[vl, vu, vs] } } := I4.kept (t' := s4.toks) fun b ob q => Heap.get?_push_of_some _ q
  rcases q1 with ⟨a, xs, ex, hx, q⟩ | ⟨a, xs, ex, hx, q⟩
  · subst ex
    cases r1
    obtain ⟨its, r, ht, hz⟩ := I5.list hx
    have hlen := r.length
    refine tail_any (ops := [.ref a, .ref s4.heap.objs.size]) ht.isList.typeIs (PySem.slot_list_getitem.lookup) ?_ (by with_unfolding_all rfl)
    refine wpAny_getItem_list_slice ht.isList (Heap.IsSliceOf.new _ vl vu vs) pl pu ps (by decide) ?_ (by rw [List.size_toArray]; omega)
    rw [PySem.W.krv_pick]
    refine ⟨.ref _, _, I5.laid (t' := s4.toks) (o := .lst xs.reverse) (fun b ob q => Heap.get?_push_of_some _ q) (Nat.le_refl _) ?_, rfl, q _ (I5.hok.fresh (Nat.le_refl _))⟩
    exact ⟨by rw [List.length_reverse]; exact hz, _, 0, r.reverse, Heap.get?_push_size _ rfl⟩
  · subst ex
    cases r1
    obtain ⟨its, r, ht, hz⟩ := I5.tuple hx
    have hlen := r.length
    cases pl
    cases pu
    refine tail_any (ops := [.ref a, .ref s4.heap.objs.size]) ht.typeIs (PyProof.Rows.slot_tuple_getitem.lookup) ?_ (by with_unfolding_all rfl)
    refine HTR.getItem_tuple_rev ht (Heap.IsSliceOf.new _ .none .none vs) ps ?_ (by rw [List.size_toArray]; omega)
    refine ⟨.ref _, _, I5.laid (t' := s4.toks) (o := .tup xs.reverse) (fun b ob q => Heap.get?_push_of_some _ q) (Nat.le_refl _) ?_, rfl, q _ (I5.hok.fresh (Nat.le_refl _))⟩
    exact ⟨by rw [List.length_reverse]; exact hz, _, r.reverse, IsTup.new _ _⟩
end
end L2
namespace Q
open PySem L2
section
variable {S : Type} {C : Cn S} {W : L2.WX} {X : Cx}
def dRev : D → Option D
  | .tup ds => some (.tup ds.reverse)
  | .lst ds => some (.lst ds.reverse)
  | _ => none
def revE (f : EvF S) : EvF S := fun ρ s => (f ρ s).bind fun d s1 => ofO (dRev d) s1
theorem sd_rev {e : Expr} {k : Nat} {p1 p2 p3 pos : Pos} {f : EvF S} (hK : C.K = X.K) (he : PE X e (tK C W f)) : PE X (.Subscript e (.Slice none none (some (.UnaryOp .USub (.Constant (.int 1) k p1) p2)) p3) pos) (tF C W (revE f)) := by
  refine pe_mono (pe_revA he) fun σ H Q ⟨P, s, R, q⟩ => ⟨P, s, R, q.bind.mono fun d s1 H1 R1 x1 q1 v tv => ?_⟩
  obtain ⟨d', e, kk⟩ := run_ofO q1
  cases d <;> simp only [dRev, reduceCtorEq, Option.some.injEq] at e
  · subst e
    obtain ⟨a, vs, rfl, h, r⟩ := tv.tup
    exact .inr ⟨a, vs, rfl, by rw [← hK]; exact h, fun p hp => kk _ (R1.new hp) (Xt.new hp) _ ((Fr.newT R1 hp r.reverse).back x1)⟩
  · subst e
    obtain ⟨a, vs, rfl, h, r⟩ := tv.lst
    exact .inl ⟨a, vs, rfl, .inl (.inl h), fun p hp => kk _ (R1.new hp) (Xt.new hp) _ ((Fr.newL R1 hp r.reverse).back x1)⟩
/-! ### isinstance -/
def tyN : D → Option String
  | .non => some "NoneType"
  | .bl _ => some "bool"
  | .int _ => some "int"
  | .str _ => some "str"
  | .tup _ => some "tuple"
  | .lst _ => some "list"
  | .scr _ => none
  | .opq _ => none
def knownT : List String := ["int", "bool", "str", "tuple", "list", "dict"]
def isiT (t T : String) : Bool := t == T || (t == "bool" && T == "int")
def dIsi (d : D) (T : String) : Option Bool := match tyN d with
  | some t => if knownT.contains T then some (isiT t T) else none
  | none => none
theorem kit_all : ∀ t ∈ (["NoneType", "bool", "int", "str", "tuple", "list"] : List String), ∀ T ∈ knownT, kitB t T = some (isiT t T) := by decide +kernel
theorem tyN_mem {d : D} {t : String} (h : tyN d = some t) : t ∈ (["NoneType", "bool", "int", "str", "tuple", "list"] : List String) := by
  cases d <;> simp [tyN] at h <;> subst h <;> simp
theorem tyX_of {P : Pt} {s : S} {H : Hp} {v : V} {d : D} {t : String} (h : Top C P s H v d) (e : tyN d = some t) : TyX C.K H v (.type t) := by
  rcases h with h | ⟨a, vs, ds, rfl, rfl, _, h, q⟩
  · cases h with
    | non => cases e; exact .base .non
    | bl b => cases e; exact .base (.bl b)
    | int i => cases e; exact .base (.int i)
    | str x => cases e; exact .base (.str x)
    | opq v => cases e
    | tup h q =>
      cases e
      rcases h with (h | ⟨o, h⟩) | ⟨o, its, n, h1, h2, _⟩
      · exact .base (.tup h)
      · exact .fTuple h
      · exact .kTuple h1 h2
    | lst f h q => cases e; exact .base (.lst h)
    | scr h q => cases e
  · cases e; exact .base (.lst h)
/-- the built-in types by name -/
def tyName (x : Str) : Option String := knownT.find? fun T => x == Str.ofString T
theorem boot_all : ∀ T ∈ knownT, bootBuiltins (Str.ofString T) = some (.type T) ∧ Str.ofString T ≠ Str.ofString "__name__" ∧ (Str.ofString T == Str.ofString "__debug__") = false := by decide +kernel
theorem tyName_ok {x : Str} {T : String} (h : tyName x = some T) : T ∈ knownT ∧ x = Str.ofString T := by
  unfold tyName at h
  have h2 := List.find?_some h
  exact ⟨List.mem_of_find?_eq_some h, by simpa using h2⟩
def isiE (f : EvF S) (T : String) : EvF S := fun ρ s => (f ρ s).bind fun d s1 => ofO ((dIsi d T).map .bl) s1
theorem pe_tyName {N : List Str} {sc : Scope} (k : Xk C W X N sc) {x : Str} {T : String} {pos : Pos} (hT : tyName x = some T) (hg : glB sc x = true) (hm : X.mg x = none) : PE X (.Name x pos) (tC (.ty T)) := by
  obtain ⟨h1, h2, h3⟩ := gl_of k hg
  obtain ⟨hk, rfl⟩ := tyName_ok hT
  exact pe_bltn h1 hm (boot_all T hk).1 rfl h3 h2
theorem sd_isi {N : List Str} {sc : Scope} (k : Xk C W X N sc) {e : Expr} {x : Str} {T : String} {p p2 pos : Pos} {f : EvF S} (he : PE X e (tK C W f)) (hs : isStar e = false) (hg : glB sc "isinstance" = true) (hm : X.mg "isinstance" = none) (hT : tyName x = some T) (hg2 : glB sc x = true) (hm2 : X.mg x = none) :
    PE X (.Call (.Name "isinstance" p) [e, .Name x p2] [] pos) (tF C W (isiE f T)) := by
  obtain ⟨h1, h2, h3⟩ := gl_of k hg
  refine pe_mono (pe_callB call_isi h1 hm (by decide +kernel) (pa_cons he (pa_cons (pe_tyName k hT hg2 hm2) pa_nil) (star_no hs)) h3 h2 (star_no hs) (star_back (by rfl))) fun σ H Q ⟨P, s, R, q⟩ => ⟨P, s, R, q.bind.mono fun d s1 H1 R1 x1 q1 v tv => ?_⟩
  obtain ⟨d', e, kk⟩ := run_ofO q1
  simp only [Option.map_eq_some_iff] at e
  obtain ⟨b, e, rfl⟩ := e
  unfold dIsi at e
  split at e
  · rename_i t et
    split at e
    · rename_i hT'
      cases e
      exact ⟨v, .ty T, .type t, .type T, _, rfl, .ty T, by rw [← k.K]; exact tyX_of tv et, kit_ty (kit_all t (tyN_mem et) T (by simpa using hT')), kk H1 R1 Xt.refl _ (.bl _)⟩
    · cases e
  · cases e
/-- isinstance(e, (A, B)) -/
def isi2E (f : EvF S) (T U : String) : EvF S := fun ρ s => (f ρ s).bind fun d s1 => ofO ((dIsi d T).bind fun b => (dIsi d U).map fun c => .bl (b || c)) s1
theorem sd_isi2 {N : List Str} {sc : Scope} (k : Xk C W X N sc) {e : Expr} {x y : Str} {T U : String} {kk : Nat} {p p2 p3 p4 pos : Pos} {f : EvF S} (he : PE X e (tK C W f)) (hs : isStar e = false) (hg : glB sc "isinstance" = true) (hm : X.mg "isinstance" = none) (hT : tyName x = some T) (hg2 : glB sc x = true) (hm2 : X.mg x = none) (hU : tyName y = some U) (hg3 : glB sc y = true) (hm3 : X.mg y = none) :
    PE X (.Call (.Name "isinstance" p) [e, .Tuple [.Name x p2, .Name y p3] kk p4] [] pos) (tF C W (isi2E f T U)) := by
  obtain ⟨h1, h2, h3⟩ := gl_of k hg
  refine pe_mono (pe_callB call_isiT h1 hm (by decide +kernel) (pa_cons he (pa_cons (pe_tup (pa_cons (pe_tyName k hT hg2 hm2) (pa_cons (pe_tyName k hU hg3 hm3) pa_nil))) pa_nil) (star_no hs)) h3 h2 (star_no hs) (star_back (by rfl))) fun σ H Q ⟨P, s, R, q⟩ => ⟨P, s, R, q.bind.mono fun d s1 H1 R1 x1 q1 v tv => ?_⟩
  obtain ⟨d', e, kk⟩ := run_ofO q1
  simp only [Option.bind_eq_some_iff, Option.map_eq_some_iff] at e
  obtain ⟨b, e1, c, e2, rfl⟩ := e
  refine ⟨(by show 2 ≤ sizeLine; decide), fun tp hp => ?_⟩
  unfold dIsi at e1 e2
  split at e1
  · rename_i t et
    rw [et] at e2
    dsimp only at e2
    split at e1
    · rename_i hT'
      split at e2
      · rename_i hU'
        cases e1
        cases e2
        have y1 := tyX_of (tv.xt (Xt.new (o := .tup [.ty T, .ty U]) hp) R1.st) et
        rw [k.K] at y1
        refine ⟨v, tp, [.ty T, .ty U], .type t, [.type T, .type U], _, rfl, upd_same, .cons (.ty T) (.cons (.ty U) .nil), y1, ?_, kk _ (R1.new hp) (Xt.new hp) _ (.bl _)⟩
        have k1 := kit_ty (K := X.K) (kit_all t (tyN_mem et) T (by simpa using hT'))
        have k2 := kit_ty (K := X.K) (kit_all t (tyN_mem et) U (by simpa using hU'))
        refine kitAny_cons k1 (fun z => kitAny_cons (r := isiT t T || isiT t U) k2 (fun z2 => ?_) (fun z2 => by rw [z2]; simp)) (fun z => by rw [z]; simp)
        rw [z, z2]
        rfl
      · cases e2
    · cases e1
  · cases e1
end
end Q

/-! Lay12: expressions of the text, evaluated over data; that this is what they do. -/
namespace Q
open PySem L2

/-- an expression: whether a list that it gives is new; its value; its truth -/
structure Sem3 (S : Type) where
  fr : Bool
  v : EvF S
  t : EvT' S
structure Gk (S : Type) where
  glo : Str → Option D
  cal : Str → Option (Fn S)
  sp : List Str → Scope → (Expr → Sem3 S) → Expr → Option (Sem3 S) := fun _ _ _ _ => none
def bltNames : List String := ["len", "int", "abs", "tuple", "list", "sum", "max", "min", "all", "any", "repr", "isinstance", "range", "enumerate", "zip", "bool", "str", "dict", "sorted", "set"]
section
variable {S : Type} {C : Cn S} {W : L2.WX} {X : Cx}
structure Snd (C : Cn S) (W : L2.WX) (X : Cx) (e : Expr) (r : Sem3 S) : Prop where
  v : PE X e (tP C W r.v)
  f : r.fr = true → PE X e (tF C W r.v)
  t : PT X e (tT C W r.t)
/-- what is said of expressions apart -/
def SpOk (C : Cn S) (G : Gk S) : Prop := ∀ {W : L2.WX} {X : Cx} {N : List Str} {sc : Scope} {f : Expr → Sem3 S}, Xk C W X N sc → (∀ x ∈ bltNames, X.mg (Str.ofString x) = none) → (∀ e, Snd C W X e (f e)) → ∀ e r, G.sp N sc f e = some r → Snd C W X e r
theorem spOk_no {G : Gk S} (h : ∀ N sc f e, G.sp N sc f e = none) : SpOk C G := fun _ _ _ e r q => by
  rw [h] at q
  cases q
structure GkOk (C : Cn S) (X : Cx) (G : Gk S) : Prop where
  glo : ∀ x d, G.glo x = some d → ∃ v u, X.mg x = some u ∧ RelV v u ∧ (∀ H F, Rp C.K H F v d) ∧ ∀ ds, d ≠ .lst ds
  cal : ∀ x f, G.cal x = some f → CalOk C X x f
  blt : ∀ x ∈ bltNames, X.mg (Str.ofString x) = none
  spc : SpOk C G
/-! ### built-ins by name -/
theorem bt_len : bootBuiltins (Str.ofString "len") = some (.builtin "len") := by decide +kernel
theorem bt_abs : bootBuiltins (Str.ofString "abs") = some (.builtin "abs") := by decide +kernel
theorem bt_sum : bootBuiltins (Str.ofString "sum") = some (.builtin "sum") := by decide +kernel
theorem bt_max : bootBuiltins (Str.ofString "max") = some (.builtin "max") := by decide +kernel
theorem bt_min : bootBuiltins (Str.ofString "min") = some (.builtin "min") := by decide +kernel
theorem bt_all : bootBuiltins (Str.ofString "all") = some (.builtin "all") := by decide +kernel
theorem bt_any : bootBuiltins (Str.ofString "any") = some (.builtin "any") := by decide +kernel
theorem bt_repr : bootBuiltins (Str.ofString "repr") = some (.builtin "repr") := by decide +kernel
theorem bt_int : bootBuiltins (Str.ofString "int") = some (.type "int") := by decide +kernel
theorem bt_tuple : bootBuiltins (Str.ofString "tuple") = some (.type "tuple") := by decide +kernel
theorem bt_list : bootBuiltins (Str.ofString "list") = some (.type "list") := by decide +kernel
def bi (x : Str) : Option (List D → Option D) :=
  if x = "len" then some bLen else if x = "int" then some bInt else if x = "abs" then some bAbs else if x = "tuple" then some bTuple else if x = "list" then some bList else if x = "sum" then some bSum
  else if x = "max" then some bMax else if x = "min" then some bMin else if x = "all" then some bAll else if x = "any" then some bAny else if x = "repr" then some bRepr else none
theorem sd_bi_any {N : List Str} {sc : Scope} {G : Gk S} (k : Xk C W X N sc) (gk : GkOk C X G) {x : Str} {f : List D → Option D} {g : EvL' S} {e : Expr} {es : List Expr} {p pos : Pos} (hb : bi x = some f) (hg : glB sc x = true) (ha : PA X (e :: es) (tAK C W g)) (hs : (e :: es).all (fun e => !isStar e) = true) :
    PE X (.Call (.Name x p) (e :: es) [] pos) (tF C W (biF f g)) := by
  unfold bi at hb
  by_cases h : x = Str.ofString "len"
  · rw [if_pos h] at hb
    have hb := Option.some.inj hb
    rw [← hb]
    have hm := gk.blt "len" (by simp [bltNames])
    rw [← h] at hm
    have hv := bt_len
    rw [← h] at hv
    exact sd_bi k cd_len hg hm hv ha hs
  rw [if_neg h] at hb
  clear h
  by_cases h : x = Str.ofString "int"
  · rw [if_pos h] at hb
    have hb := Option.some.inj hb
    rw [← hb]
    have hm := gk.blt "int" (by simp [bltNames])
    rw [← h] at hm
    have hv := bt_int
    rw [← h] at hv
    exact sd_ty k cd_int hg hm hv ha hs
  rw [if_neg h] at hb
  clear h
  by_cases h : x = Str.ofString "abs"
  · rw [if_pos h] at hb
    have hb := Option.some.inj hb
    rw [← hb]
    have hm := gk.blt "abs" (by simp [bltNames])
    rw [← h] at hm
    have hv := bt_abs
    rw [← h] at hv
    exact sd_bi k cd_abs hg hm hv ha hs
  rw [if_neg h] at hb
  clear h
  by_cases h : x = Str.ofString "tuple"
  · rw [if_pos h] at hb
    have hb := Option.some.inj hb
    rw [← hb]
    have hm := gk.blt "tuple" (by simp [bltNames])
    rw [← h] at hm
    have hv := bt_tuple
    rw [← h] at hv
    exact sd_ty k cd_tuple hg hm hv ha hs
  rw [if_neg h] at hb
  clear h
  by_cases h : x = Str.ofString "list"
  · rw [if_pos h] at hb
    have hb := Option.some.inj hb
    rw [← hb]
    have hm := gk.blt "list" (by simp [bltNames])
    rw [← h] at hm
    have hv := bt_list
    rw [← h] at hv
    exact sd_ty k cd_list hg hm hv ha hs
  rw [if_neg h] at hb
  clear h
  by_cases h : x = Str.ofString "sum"
  · rw [if_pos h] at hb
    have hb := Option.some.inj hb
    rw [← hb]
    have hm := gk.blt "sum" (by simp [bltNames])
    rw [← h] at hm
    have hv := bt_sum
    rw [← h] at hv
    exact sd_bi k (cd_sum k.calm) hg hm hv ha hs
  rw [if_neg h] at hb
  clear h
  by_cases h : x = Str.ofString "max"
  · rw [if_pos h] at hb
    have hb := Option.some.inj hb
    rw [← hb]
    have hm := gk.blt "max" (by simp [bltNames])
    rw [← h] at hm
    have hv := bt_max
    rw [← h] at hv
    exact sd_bi k (cd_max k.calm k.hu) hg hm hv ha hs
  rw [if_neg h] at hb
  clear h
  by_cases h : x = Str.ofString "min"
  · rw [if_pos h] at hb
    have hb := Option.some.inj hb
    rw [← hb]
    have hm := gk.blt "min" (by simp [bltNames])
    rw [← h] at hm
    have hv := bt_min
    rw [← h] at hv
    exact sd_bi k (cd_min k.calm k.hu) hg hm hv ha hs
  rw [if_neg h] at hb
  clear h
  by_cases h : x = Str.ofString "all"
  · rw [if_pos h] at hb
    have hb := Option.some.inj hb
    rw [← hb]
    have hm := gk.blt "all" (by simp [bltNames])
    rw [← h] at hm
    have hv := bt_all
    rw [← h] at hv
    exact sd_bi k (cd_all k.calm) hg hm hv ha hs
  rw [if_neg h] at hb
  clear h
  by_cases h : x = Str.ofString "any"
  · rw [if_pos h] at hb
    have hb := Option.some.inj hb
    rw [← hb]
    have hm := gk.blt "any" (by simp [bltNames])
    rw [← h] at hm
    have hv := bt_any
    rw [← h] at hv
    exact sd_bi k (cd_any k.calm) hg hm hv ha hs
  rw [if_neg h] at hb
  clear h
  by_cases h : x = Str.ofString "repr"
  · rw [if_pos h] at hb
    have hb := Option.some.inj hb
    rw [← hb]
    have hm := gk.blt "repr" (by simp [bltNames])
    rw [← h] at hm
    have hv := bt_repr
    rw [← h] at hv
    exact sd_bi k (cd_repr k.gd k.hu) hg hm hv ha hs
  rw [if_neg h] at hb
  clear h
  cases hb

def stuckF : EvF S := fun _ _ => .stuck
def stuckT : EvT' S := fun _ _ => .stuck
def stuckL : EvL' S := fun _ _ => .stuck
theorem sd_stuckF {e : Expr} : PE X e (tF C W stuckF) := pe_false fun σ H Q ⟨P, s, R, q⟩ => q
theorem st_stuck {e : Expr} : PT X e (tT C W stuckT) := pt_false fun σ H Q ⟨P, s, R, q⟩ => q
theorem sa_stuck {es : List Expr} : PA X es (tA C W stuckL) := ⟨fun pos pins s σ H Q I ⟨P, st, R, q⟩ => q.elim⟩
theorem sak_stuck {es : List Expr} : PA X es (tAK C W stuckL) := ⟨fun pos pins s σ H Q I ⟨P, st, R, q⟩ => q.elim⟩
theorem si_stuck {m : Bool} {tg e : Expr} : PI X tg e (tI m C W stuckL) := pi_false fun σ H R ⟨P, s, RR, q⟩ => q
def stuck3 : Sem3 S := ⟨true, stuckF, stuckT⟩
theorem Snd.stuck {e : Expr} : Snd C W X e stuck3 := ⟨PE.clean sd_stuckF, fun _ => sd_stuckF, st_stuck⟩
/-- of a plain test -/
def plain3 (v : EvF S) : Sem3 S := ⟨true, v, truth v⟩
theorem Snd.plain {e : Expr} {v : EvF S} (hK : C.K = X.K) (h : PE X e (tF C W v)) (hp : plainTest e = true) : Snd C W X e (plain3 v) := ⟨PE.clean h, fun _ => h, st_truth hK (PE.peek (PE.clean h)) hp⟩
def val3 (v : EvF S) : Sem3 S := ⟨false, v, truth v⟩
theorem Snd.val {e : Expr} {v : EvF S} (hK : C.K = X.K) (h : PE X e (tP C W v)) (hp : plainTest e = true) : Snd C W X e (val3 v) := ⟨h, fun z => (Bool.noConfusion z), st_truth hK (PE.peek h) hp⟩
/-! ### names in other places -/
def pk (N : List Str) (sc : Scope) (f : Expr → Sem3 S) (e : Expr) : EvF S := match e with
  | .Name x _ => if visB sc x = true then evVarK N sc x else (f e).v
  | _ => (f e).v
def pm (m : Bool) (N : List Str) (sc : Scope) (f : Expr → Sem3 S) (e : Expr) : EvF S := match e with
  | .Name x _ => if visB sc x = true then (if m = true then evVarS N sc x else evVarK N sc x) else (f e).v
  | _ => (f e).v
theorem sd_pk {N : List Str} {sc : Scope} {f : Expr → Sem3 S} (k : Xk C W X N sc) (h : ∀ e, Snd C W X e (f e)) (e : Expr) : PE X e (tK C W (pk N sc f e)) := by
  unfold pk
  split
  · split
    · exact sd_varK k _ _
    · exact PE.peek (h _).v
  · exact PE.peek (h _).v
theorem sd_pm {m : Bool} {N : List Str} {sc : Scope} {f : Expr → Sem3 S} (k : Xk C W X N sc) (h : ∀ e, Snd C W X e (f e)) (e : Expr) : PE X e (tM m C W (pm m N sc f e)) := by
  unfold pm
  split
  · split
    · cases m with
      | true => exact sd_varS k _ _
      | false => exact PE.km (sd_varK k _ _)
    · exact PE.m (h _).v
  · exact PE.m (h _).v
def argsC (N : List Str) (sc : Scope) (f : Expr → Sem3 S) : List Expr → EvL' S
  | [] => nilA
  | .Starred e _ :: es => starA (pk N sc f e) (argsC N sc f es)
  | e :: es => consA (f e).v (argsC N sc f es)
theorem sa_args {N : List Str} {sc : Scope} {f : Expr → Sem3 S} (k : Xk C W X N sc) (h : ∀ e, Snd C W X e (f e)) : ∀ es : List Expr, PA X es (tA C W (argsC N sc f es))
  | [] => sa_nil
  | e :: es => by
    unfold argsC
    split
    · rename_i q; cases q
    · rename_i q; cases q; exact sa_star k.K (sd_pk k h _) (sa_args k h es)
    · rename_i hn q
      cases q
      refine sa_cons (h _).v (sa_args k h es) ?_
      cases e <;> first | rfl | (exact absurd rfl (hn _ _))
def argsK (N : List Str) (sc : Scope) (f : Expr → Sem3 S) : List Expr → EvL' S
  | [] => nilA
  | e :: es => consA (pk N sc f e) (argsK N sc f es)
theorem sak_args {N : List Str} {sc : Scope} {f : Expr → Sem3 S} (k : Xk C W X N sc) (h : ∀ e, Snd C W X e (f e)) : ∀ es : List Expr, es.all (fun e => !isStar e) = true → PA X es (tAK C W (argsK N sc f es))
  | [], _ => sak_nil
  | e :: es, hs => by
    simp only [List.all_cons, Bool.and_eq_true, Bool.not_eq_true'] at hs
    exact sak_cons (sd_pk k h e) (sak_args k h es hs.2) hs.1
/-! ### targets of the text -/
structure Tg where
  ts : List Nat
  g : D → List Sl → Option (List Sl)
def noTg : Tg := ⟨[], fun _ _ => none⟩
mutual
def tgt (N : List Str) (sc : Scope) : Nat → Expr → Tg
  | 0, _ => noTg
  | n + 1, e => match e with
    | .Name x _ => ⟨tgSlot N x, tgName N sc x⟩
    | .Tuple es _ _ => if es.all (fun e => !isStar e) = true then ⟨(tgts N sc n es).1, gTupD es.length (tgts N sc n es).2⟩ else noTg
    | _ => noTg
def tgts (N : List Str) (sc : Scope) : Nat → List Expr → List Nat × (List D → List Sl → Option (List Sl))
  | _, [] => ([], gsN)
  | 0, _ => ([], fun _ _ => none)
  | n + 1, e :: es => ((tgt N sc n e).ts ++ (tgts N sc n es).1, gsC (tgt N sc n e).g (tgts N sc n es).2)
end
theorem tgt_ok {N : List Str} {sc : Scope} : ∀ n : Nat, (∀ e, TgOk (tgt N sc n e).ts (tgt N sc n e).g) ∧ ∀ es, TgsOk (tgts N sc n es).1 (tgts N sc n es).2
  | 0 => by
    refine ⟨fun e => by unfold tgt; exact fun _ _ _ h => (nomatch h), fun es => ?_⟩
    cases es with
    | nil => unfold tgts; exact tgo_nil
    | cons e es => unfold tgts; exact fun _ _ _ h => nomatch h
  | n + 1 => by
    obtain ⟨i1, i2⟩ := tgt_ok (N := N) (sc := sc) n
    refine ⟨fun e => ?_, fun es => ?_⟩
    · unfold tgt
      split
      · exact tgo_name
      · split
        · exact tgo_tup (i2 _)
        · exact fun _ _ _ h => nomatch h
      · exact fun _ _ _ h => nomatch h
    · cases es with
      | nil => unfold tgts; exact tgo_nil
      | cons e es => unfold tgts; exact tgo_cons (i1 e) (i2 es)
structure TgSnd (C : Cn S) (X : Cx) (e : Expr) (t : Tg) : Prop where
  p : PG X e (tG C t.ts t.g)
  o : TgOk t.ts t.g
theorem TgSnd.no {e : Expr} : TgSnd C X e noTg := ⟨pg_false fun v σ H k ⟨P, s, d, ρ', R, r, h, kx⟩ => (nomatch h), fun _ _ _ h => nomatch h⟩
theorem tgt_snd {N : List Str} {sc : Scope} (k : Xs C X N sc) : ∀ n : Nat, (∀ e, TgSnd C X e (tgt N sc n e)) ∧ ∀ es, es.all (fun e => !isStar e) = true → PGs X es (tGs C (tgts N sc n es).1 (tgts N sc n es).2) ∧ TgsOk (tgts N sc n es).1 (tgts N sc n es).2
  | 0 => by
    refine ⟨fun e => by unfold tgt; exact TgSnd.no, fun es hs => ?_⟩
    cases es with
    | nil => unfold tgts; exact ⟨sgs_nil, tgo_nil⟩
    | cons e es => unfold tgts; exact ⟨pgs_false fun v σ H k ⟨P, s, d, ρ', R, r, h, kx⟩ => (nomatch h), fun _ _ _ h => nomatch h⟩
  | n + 1 => by
    obtain ⟨i1, i2⟩ := tgt_snd k n
    refine ⟨fun e => ?_, fun es hs => ?_⟩
    · unfold tgt
      split
      · exact ⟨sg_name k, tgo_name⟩
      · rename_i es _ _
        split
        · rename_i hs
          obtain ⟨h1, h2⟩ := i2 es hs
          exact ⟨sg_tup k.K k.calm hs h1, tgo_tup h2⟩
        · exact TgSnd.no
      · exact TgSnd.no
    · cases es with
      | nil => unfold tgts; exact ⟨sgs_nil, tgo_nil⟩
      | cons e es =>
        simp only [List.all_cons, Bool.and_eq_true, Bool.not_eq_true'] at hs
        obtain ⟨h1, h2⟩ := i2 es hs.2
        unfold tgts
        exact ⟨sgs_cons hs.1 (i1 e).p h1, tgo_cons (i1 e).o h2⟩
/-! ### what is walked -/
def isTup : Expr → Bool
  | .Tuple _ _ _ => true
  | _ => false
def src (m : Bool) (N : List Str) (sc : Scope) (f : Expr → Sem3 S) (tg iter : Expr) : EvL' S := match iter with
  | .Call (.Name x _) [a] [] _ =>
    if x = "range" then (if glB sc "range" = true ∧ isStar a = false then iRange1 (pk N sc f a) else stuckL)
    else if x = "enumerate" then (if glB sc "enumerate" = true ∧ isStar a = false ∧ isTup tg = true then iEnum (pm m N sc f a) else stuckL)
    else iSeq (f iter).v
  | .Call (.Name x _) [a, b] [] _ =>
    if x = "range" then (if glB sc "range" = true ∧ isStar a = false ∧ isStar b = false then iRange2 (pk N sc f a) (pk N sc f b) else stuckL)
    else if x = "zip" then (if glB sc "zip" = true ∧ isStar a = false ∧ isStar b = false ∧ isTup tg = true then iZip (pm m N sc f a) (pm m N sc f b) else stuckL)
    else iSeq (f iter).v
  | _ => iSeq (pm m N sc f iter)
theorem si_src {m : Bool} {N : List Str} {sc : Scope} {G : Gk S} {f : Expr → Sem3 S} (k : Xk C W X N sc) (gk : GkOk C X G) (h : ∀ e, Snd C W X e (f e)) (tg iter : Expr) : PI X tg iter (tI m C W (src m N sc f tg iter)) := by
  unfold src
  split
  · split
    · subst_vars
      split
      · rename_i q; exact si_range1 k q.1 (gk.blt "range" (by decide)) q.2 (sd_pk k h _)
      · exact si_stuck
    · split
      · subst_vars
        split
        · rename_i q
          obtain ⟨q1, q2, q3⟩ := q
          cases tg <;> first | (simp [isTup] at q3; done) | exact si_enum k q1 (gk.blt "enumerate" (by decide)) q2 (sd_pm k h _)
        · exact si_stuck
      · exact si_seq k.K (PE.m (h _).v)
  · split
    · subst_vars
      split
      · rename_i q; exact si_range2 k q.1 (gk.blt "range" (by decide)) q.2.1 q.2.2 (sd_pk k h _) (sd_pk k h _)
      · exact si_stuck
    · split
      · subst_vars
        split
        · rename_i q
          obtain ⟨q1, q2, q4, q3⟩ := q
          cases tg <;> first | (simp [isTup] at q3; done) | exact si_zip k q1 (gk.blt "zip" (by decide)) q2 q4 (sd_pm k h _) (sd_pm k h _)
        · exact si_stuck
      · exact si_seq k.K (PE.m (h _).v)
  · exact si_seq k.K (sd_pm k h _)
/-! ### tests of a comprehension -/
def yesT : EvT' S := fun _ s => .ok true s
def ifsT (f : Expr → Sem3 S) : List Expr → EvT' S
  | [] => yesT
  | [c] => (f c).t
  | _ => stuckT
theorem pts_mono {ifs : List Expr} {t t' : TT} (h : PTs X ifs t) (i : ∀ σ H Q, t' σ H Q → t σ H Q) : PTs X ifs t' := ⟨fun pins s σ H Q I q => h.run pins s σ H Q I (i σ H Q q)⟩
theorem st_ifs {f : Expr → Sem3 S} (h : ∀ e, Snd C W X e (f e)) (ifs : List Expr) : PTs X ifs (tT C W (ifsT f ifs)) := by
  unfold ifsT
  split
  · exact pts_mono pts_nil fun σ H Q ⟨P, s, R, q⟩ => q.now R
  · exact pts_one (h _).t
  · exact ⟨fun pins s σ H Q I ⟨P, st, R, q⟩ => q.elim⟩
/-- the slots of a comprehension's own names -/
def ownNames (N : List Str) (scope : Scope) : List (Str × Nat) := scope.names.filterMap fun y => match y.2 with
  | .local => (slotOf N y.1).map fun i => (y.1, i)
  | .cell => (slotOf N y.1).map fun i => (y.1, i)
  | _ => none
/-- the scope of a comprehension's block, as it runs in a def with the scope sc -/
def rl (scope sc : Scope) : Scope := { scope with names := scope.names.map fun (n, k) => if k == .free && sc.kind == .function && sc.names.lookup n == some .cell then (n, .cell) else (n, k) }
theorem rl_lookup {scope sc : Scope} {x : Str} {kd : NameKind} (hk : kd ≠ .free) (h : scope.names.lookup x = some kd) : (rl scope sc).names.lookup x = some kd := by
  unfold rl
  dsimp only
  generalize scope.names = l at h
  induction l with
  | nil => cases h
  | cons p l ih =>
    obtain ⟨n, k⟩ := p
    rw [List.lookup_cons] at h
    rw [List.map_cons]
    cases q : x == n with
    | true =>
      rw [q] at h
      cases h
      dsimp only
      split
      · rename_i z
        simp only [Bool.and_eq_true, beq_iff_eq] at z
        exact absurd z.1.1 hk
      · rw [List.lookup_cons, q]
    | false =>
      rw [q] at h
      dsimp only
      split
      · rw [List.lookup_cons, q]; exact ih h
      · rw [List.lookup_cons, q]; exact ih h
theorem Xk.blk {N : List Str} {sc : Scope} (k : Xk C W X N sc) (s : Shared) (H : Hp) (scope : Scope) (cl : List (Str × Addr)) (Ca : Addr) (fp : List Addr) : Xk C W0 (X.blk s H scope (compEnvC scope cl Ca X.env) fp) N (rl scope sc) := by
  refine ⟨k.K, k.names, k.nd, ?_, k.calm, k.hu, k.gd, takes0⟩
  rw [← k.scope]
  rfl
theorem Xs.blk {N : List Str} {sc : Scope} (k : Xk C W X N sc) (s : Shared) (H : Hp) (scope : Scope) (cl : List (Str × Addr)) (Ca : Addr) (fp : List Addr) : Xs C (X.blk s H scope (compEnvC scope cl Ca X.env) fp) N scope := by
  refine ⟨k.K, k.names, k.nd, k.calm, fun x h => ?_⟩
  have e : (X.blk s H scope (compEnvC scope cl Ca X.env) fp).env.scope = rl scope X.env.scope := rfl
  rcases locB_ok h with z | z
  · have := rl_lookup (sc := X.env.scope) (by decide) z
    exact ⟨.inl (by rw [e]; exact this), .inr (by rw [e]; exact this)⟩
  · have := rl_lookup (sc := X.env.scope) (by decide) z
    exact ⟨.inr (by rw [e]; exact this), .inl (by show (scope.names.lookup x == some .cell) = true; rw [z]; rfl)⟩
theorem GkOk.blk {G : Gk S} (g : GkOk C X G) (s : Shared) (H : Hp) (scope : Scope) (env : Env) (fp : List Addr) : GkOk C (X.blk s H scope env fp) G :=
  ⟨g.glo, fun x f h => ⟨(g.cal x f h).ok⟩, g.blt, g.spc⟩
def isSet : Expr → Bool
  | .Set _ _ _ => true
  | _ => false
def lc3 (N : List Str) (sc scope : Scope) (f f2 : Expr → Sem3 S) (elt tg iter : Expr) (ifs : List Expr) : EvF S :=
  if blkC N sc scope (ownNames N scope) = true ∧ ((tgt N scope 20 tg).ts.all fun j => ((ownNames N scope).map (·.2)).contains j) = true ∧ isSet iter = false
  then lcE (src false N sc f tg iter) (tgt N scope 20 tg).g (ifsT f2 ifs) (f2 elt).v ((ownNames N scope).map (·.2)) else stuckF
theorem sd_lc3 {N : List Str} {sc : Scope} {G : Gk S} {f f2 : Expr → Sem3 S} (k : Xk C W X N sc) (gk : GkOk C X G) (h : ∀ e, Snd C W X e (f e)) {scope : Scope} (h2 : ∀ {X' : Cx}, Xk C W0 X' N (rl scope sc) → GkOk C X' G → ∀ e, Snd C W0 X' e (f2 e)) (elt tg iter : Expr) (ifs : List Expr) (pos : Pos) :
    PE X (.ListComp elt [⟨tg, iter, ifs, 0⟩] scope pos) (tF C W (lc3 N sc scope f f2 elt tg iter ifs)) := by
  unfold lc3
  split
  · rename_i q
    obtain ⟨q1, q2, q3⟩ := q
    refine pe_mono (pe_lc k.calm (by rw [k.names]; exact k.nd) (si_src (m := false) k gk h tg iter) (blkOk_by (by rw [k.names, k.scope]; exact q1)) (fun s H Ca cl fp => ((tgt_snd (Xs.blk k s H scope cl Ca fp) 20).1 tg).p)
      (fun s H Ca cl fp => st_ifs (h2 (k.blk s H scope cl Ca fp) (gk.blk ..)) ifs) (fun s H Ca cl fp => (h2 (k.blk s H scope cl Ca fp) (gk.blk ..) elt).v) ?_) fun σ H Q hq => ?_
    · intro x
      cases iter <;> first | rfl | (simp [isSet] at q3; done)
    · refine t_lc ((tgt_ok 20).1 tg) (fun j hj => ?_) hq
      have := List.all_eq_true.mp q2 j hj
      simpa using this
  · exact sd_stuckF
end
end Q

/-! Lay13: the evaluation of expressions, whole. -/
namespace Q
open PySem L2
section
variable {S : Type} {C : Cn S} {W : L2.WX} {X : Cx}
def isBO : Expr → Bool
  | .BoolOp _ _ _ => true
  | _ => false
structure Snw (C : Cn S) (W : L2.WX) (X : Cx) (e : Expr) (r : Sem3 S) : Prop extends Snd C W X e r where
  w : isBO e = true → PW X e (tT C W r.t)
theorem Snw.of {e : Expr} {r : Sem3 S} (h : Snd C W X e r) (n : isBO e = false) : Snw C W X e r := ⟨h, fun z => by rw [n] at z; cases z⟩
theorem Snw.stuck {e : Expr} : Snw C W X e stuck3 := ⟨Snd.stuck, fun _ => ⟨fun wh pins s σ H Q I ⟨P, st, R, q⟩ => q.elim⟩⟩
def nm3 (G : Gk S) (N : List Str) (sc : Scope) (x : Str) : Sem3 S :=
  if visB sc x = true then ⟨false, evVar N sc x, truth (evVarK N sc x)⟩ else match G.glo x with
  | some d => if glB sc x = true then plain3 (evC (some d)) else stuck3
  | none => stuck3
theorem snd_nm {G : Gk S} {N : List Str} {sc : Scope} (k : Xk C W X N sc) (g : GkOk C X G) (x : Str) (pos : Pos) : Snd C W X (.Name x pos) (nm3 G N sc x) := by
  unfold nm3
  split
  · exact ⟨sd_var k x pos, fun z => Bool.noConfusion z, st_truth k.K (sd_varK k x pos) rfl⟩
  · split
    · rename_i d hd
      split
      · rename_i hg
        obtain ⟨h1, h2, h3⟩ := gl_of k hg
        obtain ⟨v, u, e1, e2, e3, e4⟩ := g.glo x d hd
        exact Snd.plain k.K (sd_c (t := tC v) (pe_glob h1 e1 e2 h2) e3 e4) rfl
      · exact Snd.stuck
    · exact Snd.stuck
def po3 (N : List Str) (sc : Scope) (f : Expr → Sem3 S) : Option Expr → EvO' S
  | none => noneO
  | some e => someO (pk N sc f e)
theorem so_po3 {N : List Str} {sc : Scope} {f : Expr → Sem3 S} (k : Xk C W X N sc) (h : ∀ e, Snd C W X e (f e)) (o : Option Expr) : PO X o (tO C W (po3 N sc f o)) := by
  cases o with
  | none => exact so_none
  | some e => exact so_some (sd_pk k h e)
/-! ### list(range(..)) -/
def lrD (lo hi : Int) : Option D := if -(2 ^ 62) ≤ lo ∧ lo < 2 ^ 62 ∧ -(2 ^ 62) ≤ hi ∧ hi < 2 ^ 62 ∧ (hi - lo).toNat ≤ 2 ^ 24 then some (.lst (rangeD lo (hi - lo).toNat)) else none
def lr1 (f : EvF S) : EvF S := fun ρ s => (f ρ s).bind fun d s1 => match d with
  | .int j => ofO (lrD 0 j) s1
  | _ => .stuck
def lr2 (f g : EvF S) : EvF S := fun ρ s => (f ρ s).bind fun d s1 => (g ρ s1).bind fun d2 s2 => match d, d2 with
  | .int i, .int j => ofO (lrD i j) s2
  | _, _ => .stuck
theorem rp_range {K : PySem.W.Frag} {H : Hp} {F : Addr → Prop} : ∀ (n : Nat) (lo : Int), RpL K H F ((List.range n).map fun i => V.int (lo + (i : Nat))) (rangeD lo n)
  | 0, _ => .nil
  | n + 1, lo => by
    rw [List.range_succ_eq_map, List.map_cons, List.map_map]
    refine .cons (by simpa using Rp.int lo) ?_
    have := rp_range (K := K) (H := H) (F := F) n (lo + 1)
    have e : ((fun i : Nat => V.int (lo + (i : Nat))) ∘ Nat.succ) = fun i : Nat => V.int (lo + 1 + (i : Nat)) := by
      funext i
      simp only [Function.comp, Nat.succ_eq_add_one]
      congr 1
      omega
    rw [e]
    exact this
theorem lr_end {P : Pt} {σ : L2.St} {H H1 : Hp} {s s1 : S} {lo hi : Int} {Q : VK} (R1 : Rel C P σ H1 s1) (x1 : Xt C.T s s1 H H1) (q : Run C W P σ H1 s1 (ofO (lrD lo hi) s1) fun d s' H' => ∀ v, Fr C P s' H H' v d → Q v H') :
    RgOk lo hi ∧ ∀ p, H1 p = none → Q (.ref p) (upd H1 p (.lst (rgV lo hi))) := by
  obtain ⟨d, e, k⟩ := run_ofO q
  unfold lrD at e
  split at e
  · rename_i hb
    cases e
    exact ⟨hb, fun p hp => k _ (R1.new hp) (Xt.new hp) _ ((Fr.newL R1 hp (rp_range _ _)).back x1)⟩
  · cases e
theorem sd_lr1 {N : List Str} {sc : Scope} {G : Gk S} (k : Xk C W X N sc) (g : GkOk C X G) {a : Expr} {p p2 pos pos2 : Pos} {f : EvF S} (hg : glB sc "list" = true) (hg2 : glB sc "range" = true) (hs : isStar a = false) (ha : PE X a (tK C W f)) : PE X (.Call (.Name "list" p) [.Call (.Name "range" p2) [a] [] pos2] [] pos) (tF C W (lr1 f)) := by
  refine pe_mono (pe_listRg k.calm (gl_of k hg).1 (g.blt "list" (by simp [bltNames])) (prg_1 (gl_of k hg2).1 (g.blt "range" (by simp [bltNames])) ha (star_no hs))) fun σ H Q ⟨P, s, R, q⟩ => ⟨P, s, R, q.bind.mono fun d s1 H1 R1 x1 q1 v tv => ?_⟩
  cases d with
  | int j => exact ⟨j, top_int tv, lr_end R1 x1 q1⟩
  | _ => exact q1.elim
theorem sd_lr2 {N : List Str} {sc : Scope} {G : Gk S} (k : Xk C W X N sc) (g : GkOk C X G) {a b : Expr} {p p2 pos pos2 : Pos} {f h : EvF S} (hg : glB sc "list" = true) (hg2 : glB sc "range" = true) (hs : isStar a = false) (hs2 : isStar b = false) (ha : PE X a (tK C W f)) (hb : PE X b (tK C W h)) :
    PE X (.Call (.Name "list" p) [.Call (.Name "range" p2) [a, b] [] pos2] [] pos) (tF C W (lr2 f h)) := by
  refine pe_mono (pe_listRg k.calm (gl_of k hg).1 (g.blt "list" (by simp [bltNames])) (prg_2 (gl_of k hg2).1 (g.blt "range" (by simp [bltNames])) ha hb (star_no hs) (star_no hs2) (star_back (by simp [hs2])))) fun σ H Q ⟨P, s, R, q⟩ => ⟨P, s, R, q.bind.mono fun d s1 H1 R1 x1 q1 v tv => ⟨P, s1, R1, q1.bind.mono fun d2 s2 H2 R2 x2 q2 v2 tv2 => ?_⟩⟩
  cases d with
  | int i =>
    cases d2 with
    | int j => exact ⟨i, j, top_int tv, top_int tv2, lr_end R2 (x1.trans x2) q2⟩
    | _ => exact q2.elim
  | _ => exact q2.elim
/-! ### calls by name -/
def isi3 (N : List Str) (sc : Scope) (f : Expr → Sem3 S) : List Expr → Sem3 S
  | [a, .Name T _] => match tyName T with
    | some T' => if glB sc "isinstance" = true ∧ isStar a = false ∧ glB sc T = true then plain3 (isiE (pk N sc f a) T') else stuck3
    | none => stuck3
  | [a, .Tuple [.Name T _, .Name U _] _ _] => match tyName T, tyName U with
    | some T', some U' => if glB sc "isinstance" = true ∧ isStar a = false ∧ glB sc T = true ∧ glB sc U = true then plain3 (isi2E (pk N sc f a) T' U') else stuck3
    | _, _ => stuck3
  | _ => stuck3
theorem ty_blt {x : Str} {T : String} (h : tyName x = some T) : ∃ n ∈ bltNames, x = Str.ofString n := by
  obtain ⟨h1, h2⟩ := tyName_ok h
  refine ⟨T, ?_, h2⟩
  have : ∀ T ∈ knownT, T ∈ bltNames := by decide
  exact this T h1
theorem snd_isi {N : List Str} {sc : Scope} {G : Gk S} {f : Expr → Sem3 S} (k : Xk C W X N sc) (g : GkOk C X G) (h : ∀ e, Snd C W X e (f e)) (as : List Expr) (p pos : Pos) : Snd C W X (.Call (.Name "isinstance" p) as [] pos) (isi3 N sc f as) := by
  unfold isi3
  split
  · split
    · rename_i T' hT
      split
      · rename_i q
        obtain ⟨n, hn, rfl⟩ := ty_blt hT
        exact Snd.plain k.K (sd_isi k (sd_pk k h _) q.2.1 q.1 (g.blt "isinstance" (by simp [bltNames])) hT q.2.2 (g.blt n hn)) rfl
      · exact Snd.stuck
    · exact Snd.stuck
  · split
    · rename_i T' U' hT hU
      split
      · rename_i q
        obtain ⟨n, hn, rfl⟩ := ty_blt hT
        obtain ⟨m, hm, rfl⟩ := ty_blt hU
        exact Snd.plain k.K (sd_isi2 k (sd_pk k h _) q.2.1 q.1 (g.blt "isinstance" (by simp [bltNames])) hT q.2.2.1 (g.blt n hn) hU q.2.2.2 (g.blt m hm)) rfl
      · exact Snd.stuck
    · exact Snd.stuck
  · exact Snd.stuck
def lr3 (N : List Str) (sc : Scope) (f : Expr → Sem3 S) : List Expr → Option (Sem3 S)
  | [.Call (.Name y _) [a] [] _] => if y = "range" ∧ glB sc "list" = true ∧ glB sc "range" = true ∧ isStar a = false then some (plain3 (lr1 (pk N sc f a))) else none
  | [.Call (.Name y _) [a, b] [] _] => if y = "range" ∧ glB sc "list" = true ∧ glB sc "range" = true ∧ isStar a = false ∧ isStar b = false then some (plain3 (lr2 (pk N sc f a) (pk N sc f b))) else none
  | _ => none
theorem snd_lr {N : List Str} {sc : Scope} {G : Gk S} {f : Expr → Sem3 S} (k : Xk C W X N sc) (g : GkOk C X G) (h : ∀ e, Snd C W X e (f e)) (as : List Expr) (p pos : Pos) (r : Sem3 S) (e : lr3 N sc f as = some r) : Snd C W X (.Call (.Name "list" p) as [] pos) r := by
  unfold lr3 at e
  split at e
  · split at e
    · rename_i q
      obtain ⟨rfl, q2, q3, q4⟩ := q
      cases e
      exact Snd.plain k.K (sd_lr1 k g q2 q3 q4 (sd_pk k h _)) rfl
    · cases e
  · split at e
    · rename_i q
      obtain ⟨rfl, q2, q3, q4, q5⟩ := q
      cases e
      exact Snd.plain k.K (sd_lr2 k g q2 q3 q4 q5 (sd_pk k h _) (sd_pk k h _)) rfl
    · cases e
  · cases e
def own3 (G : Gk S) (N : List Str) (sc : Scope) (f : Expr → Sem3 S) (x : Str) (as : List Expr) : Sem3 S := match G.cal x with
  | some fn => if glB sc x = true ∧ (as.all fun e => !isStar e) = true then ⟨fn.fr, callF fn (argsC N sc f as), truth (callF fn (argsC N sc f as))⟩ else stuck3
  | none => match bi x with
    | some bf => if glB sc x = true ∧ (as.all fun e => !isStar e) = true ∧ as.isEmpty = false then plain3 (biF bf (argsK N sc f as)) else stuck3
    | none => stuck3
theorem snd_own {N : List Str} {sc : Scope} {G : Gk S} {f : Expr → Sem3 S} (k : Xk C W X N sc) (g : GkOk C X G) (h : ∀ e, Snd C W X e (f e)) (x : Str) (as : List Expr) (p pos : Pos) : Snd C W X (.Call (.Name x p) as [] pos) (own3 G N sc f x as) := by
  unfold own3
  split
  · rename_i fn hc
    split
    · rename_i q
      have hn : as = [] → argsC N sc f as = nilA := fun e => by subst e; rfl
      have hv := sd_call (p := p) (pos := pos) k (g.cal x fn hc) q.1 (sa_args k h as) q.2 hn
      exact ⟨hv, fun z => sd_callF k (g.cal x fn hc) z q.1 (sa_args k h as) q.2 hn, st_truth k.K (PE.peek hv) rfl⟩
    · exact Snd.stuck
  · split
    · rename_i bf hb
      split
      · rename_i q
        obtain ⟨q1, q2, q3⟩ := q
        cases as with
        | nil => cases q3
        | cons a as => exact Snd.plain k.K (sd_bi_any k g hb q1 (sak_args k h _ q2) q2) rfl
      · exact Snd.stuck
    · exact Snd.stuck
def call3 (G : Gk S) (N : List Str) (sc : Scope) (f : Expr → Sem3 S) (x : Str) (as : List Expr) : Sem3 S :=
  if x = "isinstance" then isi3 N sc f as
  else if x = "list" then (match lr3 N sc f as with
    | some r => r
    | none => own3 G N sc f x as)
  else own3 G N sc f x as
theorem snd_call {N : List Str} {sc : Scope} {G : Gk S} {f : Expr → Sem3 S} (k : Xk C W X N sc) (g : GkOk C X G) (h : ∀ e, Snd C W X e (f e)) (x : Str) (as : List Expr) (p pos : Pos) : Snd C W X (.Call (.Name x p) as [] pos) (call3 G N sc f x as) := by
  unfold call3
  split
  · subst_vars; exact snd_isi k g h as p pos
  · split
    · subst_vars
      split
      · rename_i r e; exact snd_lr k g h as p pos r e
      · exact snd_own k g h _ as p pos
    · exact snd_own k g h _ as p pos
def sub3 (N : List Str) (sc : Scope) (f : Expr → Sem3 S) (a i : Expr) : Sem3 S := match i with
  | .Slice lo hi st _ => match st with
    | none => plain3 (slE (pk N sc f a) (po3 N sc f lo) (po3 N sc f hi))
    | some (.UnaryOp .USub (.Constant (.int z) _ _) _) => if z = 1 ∧ lo.isNone = true ∧ hi.isNone = true then plain3 (revE (pk N sc f a)) else stuck3
    | _ => stuck3
  | i => val3 (bin dIx (pk N sc f a) (pk N sc f i))
theorem snd_sub {N : List Str} {sc : Scope} {f : Expr → Sem3 S} (k : Xk C W X N sc) (h : ∀ e, Snd C W X e (f e)) (a i : Expr) (pos : Pos) : Snd C W X (.Subscript a i pos) (sub3 N sc f a i) := by
  unfold sub3
  split
  · rename_i lo hi st p2
    split
    · exact Snd.plain k.K (sd_sl k.K (sd_pk k h a) (so_po3 k h lo) (so_po3 k h hi)) rfl
    · split
      · rename_i q
        obtain ⟨rfl, q2, q3⟩ := q
        cases lo with
        | some _ => cases q2
        | none =>
          cases hi with
          | some _ => cases q3
          | none => exact Snd.plain k.K (sd_rev k.K (sd_pk k h a)) rfl
      · exact Snd.stuck
    · exact Snd.stuck
  · rename_i hn
    refine Snd.val k.K (sd_ix k.K (sd_pk k h a) (sd_pk k h i) ?_) rfl
    cases i <;> first | rfl | exact absurd rfl (hn _ _ _ _)
/-- the evaluation -/
def evB (G : Gk S) (N : List Str) : Nat → Scope → Expr → Sem3 S
  | 0, _, _ => stuck3
  | n + 1, sc, e => match (if isBO e = true then none else G.sp N sc (evB G N n sc) e) with
    | some r => r
    | none => match e with
    | .Name x _ => nm3 G N sc x
    | .Constant c _ _ => plain3 (evC (cD c))
    | .BinOp a o b _ => plain3 (bin (dBin o) (pk N sc (evB G N n sc) a) (pk N sc (evB G N n sc) b))
    | .Compare a [op] [b] _ => if behindInMarks op b = true then stuck3 else ⟨true, bin (dCmp op) (pk N sc (evB G N n sc) a) (pk N sc (evB G N n sc) b), testB (bin (dCmp op) (pk N sc (evB G N n sc) a) (pk N sc (evB G N n sc) b))⟩
    | .Compare a [op, op'] [b, c] _ => if lastMarks [op, op'] [b, c] = true then stuck3 else
      ⟨true, chain (dCmp op) (dCmp op') (pk N sc (evB G N n sc) a) (pk N sc (evB G N n sc) b) (pk N sc (evB G N n sc) c), testB (chain (dCmp op) (dCmp op') (pk N sc (evB G N n sc) a) (pk N sc (evB G N n sc) b) (pk N sc (evB G N n sc) c))⟩
    | .BoolOp _ [a] _ => ⟨(evB G N n sc a).fr, (evB G N n sc a).v, (evB G N n sc a).t⟩
    | .BoolOp .And (a :: b :: r) pos => ⟨false, andV (evB G N n sc a).v (evB G N n sc (.BoolOp .And (b :: r) pos)).v, andT (evB G N n sc a).t (evB G N n sc (.BoolOp .And (b :: r) pos)).t⟩
    | .BoolOp .Or (a :: b :: r) pos => ⟨false, orV (evB G N n sc a).v (evB G N n sc (.BoolOp .Or (b :: r) pos)).v, orT (evB G N n sc a).t (evB G N n sc (.BoolOp .Or (b :: r) pos)).t⟩
    | .UnaryOp .Not a _ => ⟨true, notV (pk N sc (evB G N n sc) a), notT (evB G N n sc a).t⟩
    | .UnaryOp .USub a _ => plain3 (negV (pk N sc (evB G N n sc) a))
    | .IfExp c a b _ => ⟨(evB G N n sc a).fr && (evB G N n sc b).fr, ifE (evB G N n sc c).t (evB G N n sc a).v (evB G N n sc b).v, stuckT⟩
    | .Tuple es _ _ => plain3 (tupE (argsC N sc (evB G N n sc) es))
    | .List es _ => plain3 (lstE (argsC N sc (evB G N n sc) es))
    | .Subscript a i _ => sub3 N sc (evB G N n sc) a i
    | .Call (.Name x _) as [] _ => call3 G N sc (evB G N n sc) x as
    | .ListComp elt [⟨tg, iter, ifs, a⟩] scope _ => if a = 0 then plain3 (lc3 N sc scope (evB G N n sc) (evB G N n (rl scope sc)) elt tg iter ifs) else stuck3
    | _ => stuck3
theorem ev_ok {G : Gk S} {N : List Str} : ∀ (n : Nat) {W : L2.WX} {X : Cx} {sc : Scope}, Xk C W X N sc → GkOk C X G → ∀ e, Snw C W X e (evB G N n sc e)
  | 0, _, _, _, _, _, _ => Snw.stuck
  | n + 1, W, X, sc, k, g, e => by
    have ih : ∀ e, Snw C W X e (evB G N n sc e) := ev_ok n k g
    have h : ∀ e, Snd C W X e (evB G N n sc e) := fun e => (ih e).toSnd
    unfold evB
    split
    · rename_i r q
      split at q
      · cases q
      · rename_i hb
        exact .of (g.spc k g.blt h _ _ q) (Bool.eq_false_iff.mpr hb)
    rename_i hno
    clear hno
    split
    · exact .of (snd_nm k g _ _) rfl
    · exact .of (Snd.plain k.K (sd_const _ _ _) rfl) rfl
    · exact .of (Snd.plain k.K (sd_bin k.K (sd_pk k h _) (sd_pk k h _)) rfl) rfl
    · split
      · exact .stuck
      · rename_i hm
        have hm := Bool.eq_false_iff.mpr hm
        exact .of ⟨PE.clean (sd_cmp k.K (by have := k.hu; omega) (sd_pk k h _) (sd_pk k h _) hm), fun _ => sd_cmp k.K (by have := k.hu; omega) (sd_pk k h _) (sd_pk k h _) hm, st_cmp k.K (by have := k.hu; omega) (sd_pk k h _) (sd_pk k h _) hm⟩ rfl
    · split
      · exact .stuck
      · rename_i hm
        have hm := Bool.eq_false_iff.mpr hm
        exact .of ⟨PE.clean (sd_chain k.K (by have := k.hu; omega) (sd_pk k h _) (sd_pk k h _) (sd_pk k h _) hm), fun _ => sd_chain k.K (by have := k.hu; omega) (sd_pk k h _) (sd_pk k h _) (sd_pk k h _) hm, st_chain k.K (by have := k.hu; omega) (sd_pk k h _) (sd_pk k h _) (sd_pk k h _) hm⟩ rfl
    · rename_i op a pos
      have hw : PW X (.BoolOp op [a] pos) (tT C W (evB G N n sc a).t) := by
        cases op
        · exact pw_and1 (h a).t
        · exact pw_or1 (h a).t
      exact ⟨⟨pe_one (h a).v, fun z => pe_one ((h a).f z), hw.pt⟩, fun _ => hw⟩
    · exact ⟨⟨sd_and k.K (h _).v (h _).v, fun z => Bool.noConfusion z, (sw_and (h _).t ((ih _).w rfl)).pt⟩, fun _ => sw_and (h _).t ((ih _).w rfl)⟩
    · exact ⟨⟨sd_or k.K (h _).v (h _).v, fun z => Bool.noConfusion z, (sw_or (h _).t ((ih _).w rfl)).pt⟩, fun _ => sw_or (h _).t ((ih _).w rfl)⟩
    · exact .of ⟨PE.clean (sd_not k.K (sd_pk k h _)), fun _ => sd_not k.K (sd_pk k h _), st_not (h _).t⟩ rfl
    · exact .of (Snd.plain k.K (sd_neg (sd_pk k h _)) rfl) rfl
    · refine .of ⟨sd_if (h _).t (h _).v (h _).v, fun z => ?_, st_stuck⟩ rfl
      simp only [Bool.and_eq_true] at z
      exact sd_ifF (h _).t ((h _).f z.1) ((h _).f z.2)
    · exact .of (Snd.plain k.K (sd_tup (sa_args k h _)) rfl) rfl
    · exact .of (Snd.plain k.K (sd_lst (sa_args k h _)) rfl) rfl
    · exact .of (snd_sub k h _ _ _) rfl
    · exact .of (snd_call k g h _ _ _ _) rfl
    · split
      · subst_vars
        exact .of (Snd.plain k.K (sd_lc3 k g h (fun k' g' e => (ev_ok n k' g' e).toSnd) _ _ _ _ _) rfl) rfl
      · exact .stuck
    · exact .stuck
end
end Q

/-! Lay14: own lists: how a name comes to have one, how it is written, let go. -/
namespace Q
open PySem L2
section
variable {S : Type} {C : Cn S} {W : L2.WX} {X : Cx}
def Pt.addZs (P : Pt) (rs : List Addr) : Pt := { P with Z := fun b => P.Z b ∨ b ∈ rs }
theorem addZs_nil (P : Pt) : P.addZs [] = P := by
  cases P; simp [Pt.addZs]
theorem addZs_cons (P : Pt) (a : Addr) (rs : List Addr) : (P.addZs [a]).addZs rs = P.addZs (a :: rs) := by
  unfold Pt.addZs
  congr 1
  funext b
  simp [or_assoc]
theorem fc_addZs {P : Pt} {s : S} {rs : List Addr} {b : Addr} (h : Fc C P s b) (n : b ∉ rs) : Fc C (P.addZs rs) s b := ⟨h.1, h.2.1, fun z => z.elim h.2.2.1 n, h.2.2.2⟩
theorem fc_unZs {P : Pt} {s : S} {rs : List Addr} {b : Addr} (h : Fc C (P.addZs rs) s b) : Fc C P s b ∧ b ∉ rs := ⟨⟨h.1, h.2.1, fun z => h.2.2.1 (.inl z), h.2.2.2⟩, fun e => h.2.2.1 (.inr e)⟩
/-- places that are new since H are reserved -/
theorem Rel.addZs {P : Pt} {σ : L2.St} {H H1 : Hp} {s s1 : S} {rs : List Addr} (R : Rel C P σ H s) (x : Xt C.T s s1 H H1) (st : C.T.R s1 H1) (hn : ∀ a ∈ rs, H a = none) (ht : ∀ a ∈ rs, H1 a ≠ none) (ha : ∀ a ∈ rs, ¬ C.T.A s1 a) : Rel C (P.addZs rs) σ H1 s1 := by
  have R1 : Rel C P σ H1 s1 := R.xt x st
  have fz : ∀ b, Fc C P s b → H b ≠ none → Fc C (P.addZs rs) s1 b := fun b f n => fc_addZs (x.fc b f n) fun e => n (hn b e)
  refine ⟨R1.len, R1.st, R1.frm, R1.live, R1.grow, fun b z => ?_, fun i sl e => ?_⟩
  · rcases z with z | z
    · exact R1.za b z
    · exact ⟨R.none0 (hn b z), ht b z, ha b z⟩
  · have h := R.slot i sl e
    have own : ∀ ds, isOwn sl = some ds → OwnOk C (P.addZs rs) σ H1 s1 i ds := fun ds q => by
      have w : OwnOk C P σ H s i ds := R.own e q
      have w1 : OwnOk C P σ H1 s1 i ds := w.xt x R.st
      obtain ⟨vs, x1, x2⟩ := w.is
      refine ⟨w.at_, w.new, w1.na, fun z => z.elim w.nz fun e => ?_, w.one, vs, x.keep _ _ x1 w.na, x2.step (x.stays R.st fun _ f => f.2.2.2) fz⟩
      have e' : P.r i ∈ rs := e
      rw [hn _ e'] at x1; cases x1
    cases sl with
    | no => trivial
    | val d => obtain ⟨v, e1, e2⟩ := h; exact ⟨v, e1, e2.step (x.stays R.st fun _ f => f.2.2.2) fz⟩
    | own ds => exact own ds rfl
    | lck ds => exact own ds rfl
/-- slot i has the own list at a -/
def Pt.ownAt (P : Pt) (i : Nat) (a : Addr) (ds : List D) : Pt := { P with r := fun j => if j = i then a else P.r j, ρ := P.ρ.set i (.own ds) }
theorem root_ownAt {P : Pt} {i : Nat} {a b : Addr} {ds : List D} (h : (P.ownAt i a ds).root b) : b = a ∨ P.root b := by
  obtain ⟨j, sl, es, e1, e2, e3⟩ := h
  by_cases hj : j = i
  · subst hj
    left
    have e3' : (if j = j then a else P.r j) = b := e3
    rw [if_pos rfl] at e3'
    exact e3'.symm
  · right
    have e1' : (P.ρ.set i (.own ds))[j]? = some sl := e1
    rw [List.getElem?_set_ne (Ne.symm hj)] at e1'
    have e3' : (if j = i then a else P.r j) = b := e3
    rw [if_neg hj] at e3'
    exact ⟨j, sl, es, e1', e2, e3'⟩
theorem mroot_ownAt {P : Pt} {i : Nat} {a b : Addr} {ds : List D} (h : (P.ownAt i a ds).mroot b) : b = a ∨ P.mroot b := by
  obtain ⟨j, es, e1, e3⟩ := h
  by_cases hj : j = i
  · subst hj
    left
    have e3' : (if j = j then a else P.r j) = b := e3
    rw [if_pos rfl] at e3'
    exact e3'.symm
  · right
    have e1' : (P.ρ.set i (.own ds))[j]? = some (.own es) := e1
    rw [List.getElem?_set_ne (Ne.symm hj)] at e1'
    have e3' : (if j = i then a else P.r j) = b := e3
    rw [if_neg hj] at e3'
    exact ⟨j, es, e1', e3'⟩
theorem fc_ownAt {P : Pt} {s : S} {i : Nat} {a b : Addr} {ds : List D} {rs : List Addr} (h : Fc C (P.addZs (a :: rs)) s b) : Fc C ((P.ownAt i a ds).addZs rs) s b := by
  obtain ⟨h1, h2⟩ := fc_unZs h
  simp only [List.mem_cons, not_or] at h2
  refine ⟨h1.1, fun q => ?_, fun z => z.elim h1.2.2.1 h2.2, h1.2.2.2⟩
  rcases root_ownAt (P := P) q with z | z
  · exact h2.1 z
  · exact h1.2.1 z
/-- a reserved list becomes a name's own -/
theorem Rel.takeOwn {P : Pt} {σ : L2.St} {H : Hp} {s : S} {i : Nat} {a : Addr} {rs : List Addr} {vs : List V} {ds : List D} (R : Rel C (P.addZs (a :: rs)) σ H s) (hl : H a = some (.lst vs)) (r : RpL C.K H (Fc C (P.addZs (a :: rs)) s) vs ds) (hi : i < P.ρ.length) (hr : a ∉ rs) (hz : ¬ P.Z a) :
    Rel C ((P.ownAt i a ds).addZs rs) (σ.set i (some (.ref a))) H s := by
  obtain ⟨z1, z2, z3⟩ := R.za a (.inr List.mem_cons_self)
  have nroot : ∀ j sl es, P.ρ[j]? = some sl → isOwn sl = some es → P.r j ≠ a := fun j sl es e1 e2 e3 => by
    have o : OwnOk C (P.addZs (a :: rs)) σ H s j es := R.own e1 e2
    exact o.nz (.inr (by rw [show (P.addZs (a :: rs)).r j = a from e3]; exact List.mem_cons_self))
  refine ⟨by simpa [Pt.ownAt, Pt.addZs] using R.len, R.st, R.frm, R.live, R.grow, fun b z => R.za b (z.elim .inl fun e => .inr (List.mem_cons_of_mem _ e)), fun j sl e => ?_⟩
  have e' : (P.ρ.set i (.own ds))[j]? = some sl := e
  by_cases hj : i = j
  · subst hj
    rw [List.getElem?_set_self hi] at e'
    cases e'
    have ra : ((P.ownAt i a ds).addZs rs).r i = a := by show (if i = i then a else P.r i) = a; rw [if_pos rfl]
    refine ⟨?_, by rw [ra]; exact z1, by rw [ra]; exact z3, by rw [ra]; exact fun z => z.elim hz hr, fun j' sl' es q1 q2 q3 => ?_, vs, by rw [ra]; exact hl, r.wk fun b f _ => fc_ownAt f⟩
    · rw [ra, List.getElem?_set_self]
      have := R.len
      rw [this]
      exact hi
    · by_cases hj' : j' = i
      · exact hj'
      · exfalso
        have q1' : (P.ρ.set i (.own ds))[j']? = some sl' := q1
        rw [List.getElem?_set_ne (Ne.symm hj')] at q1'
        have q3' : (if j' = i then a else P.r j') = (if i = i then a else P.r i) := q3
        rw [if_neg hj', if_pos rfl] at q3'
        exact nroot j' sl' es q1' q2 q3'
  · rw [List.getElem?_set_ne hj] at e'
    have h := R.slot j sl e'
    have rj : ((P.ownAt i a ds).addZs rs).r j = P.r j := by show (if j = i then a else P.r j) = P.r j; rw [if_neg (Ne.symm hj)]
    have own : ∀ es, isOwn sl = some es → OwnOk C ((P.ownAt i a ds).addZs rs) (σ.set i (some (.ref a))) H s j es := fun es q => by
      have w : OwnOk C (P.addZs (a :: rs)) σ H s j es := R.own e' q
      obtain ⟨ws, x1, x2⟩ := w.is
      have nz : ¬ (P.Z (P.r j) ∨ P.r j ∈ rs) := fun z => w.nz (z.elim .inl fun e => .inr (List.mem_cons_of_mem _ e))
      refine ⟨by rw [rj, List.getElem?_set_ne hj]; exact w.at_, by rw [rj]; exact w.new, by rw [rj]; exact w.na, by rw [rj]; exact nz, fun j' sl' es' q1 q2 q3 => ?_, ws, by rw [rj]; exact x1, x2.wk fun b f _ => fc_ownAt f⟩
      rw [rj] at q3
      have q1' : (P.ρ.set i (.own ds))[j']? = some sl' := q1
      by_cases hj' : j' = i
      · subst hj'
        exfalso
        have q3' : (if j' = j' then a else P.r j') = P.r j := q3
        rw [if_pos rfl] at q3'
        exact nroot j sl es e' q q3'.symm
      · rw [List.getElem?_set_ne (Ne.symm hj')] at q1'
        have q3' : (if j' = i then a else P.r j') = P.r j := q3
        rw [if_neg hj'] at q3'
        exact w.one j' sl' es' q1' q2 q3'
    cases sl with
    | no => trivial
    | val d =>
      obtain ⟨v, e1, e2⟩ := h
      exact ⟨v, by rw [List.getElem?_set_ne hj]; exact e1, e2.wk fun b f _ => fc_ownAt f⟩
    | own es => exact own es rfl
    | lck es => exact own es rfl
/-- an own list is written -/
theorem Rel.write {P : Pt} {σ : L2.St} {H : Hp} {s : S} {i : Nat} {ds es : List D} {ws : List V} (R : Rel C P σ H s) (e : P.ρ[i]? = some (.own ds)) (r : RpL C.K H (Fc C P s) ws es) :
    Rel C { P with ρ := P.ρ.set i (.own es) } σ (upd H (P.r i) (.lst ws)) s ∧ Stp C.T P s H { P with ρ := P.ρ.set i (.own es) } s (upd H (P.r i) (.lst ws)) := by
  have hi : i < P.ρ.length := (List.getElem?_eq_some_iff.mp e).1
  have o : OwnOk C P σ H s i ds := R.own e rfl
  obtain ⟨vs, hl, _⟩ := o.is
  have lv : ∀ b, H b ≠ none → upd H (P.r i) (.lst ws) b ≠ none := fun b n => by
    by_cases q : b = P.r i
    · subst q; rw [upd_same]; simp
    · rw [upd_ne q]; exact n
  have rt : ∀ {b}, ({ P with ρ := P.ρ.set i (.own es) } : Pt).root b → P.root b := fun {b} h => by
    obtain ⟨j, sl, fs, e1, e2, e3⟩ := h
    have e1' : (P.ρ.set i (.own es))[j]? = some sl := e1
    by_cases hj : i = j
    · subst hj; exact ⟨i, _, ds, e, rfl, e3⟩
    · rw [List.getElem?_set_ne hj] at e1'; exact ⟨j, sl, fs, e1', e2, e3⟩
  have mrt : ∀ {b}, ({ P with ρ := P.ρ.set i (.own es) } : Pt).mroot b → P.mroot b := fun {b} h => by
    obtain ⟨j, fs, e1, e3⟩ := h
    have e1' : (P.ρ.set i (.own es))[j]? = some (.own fs) := e1
    by_cases hj : i = j
    · subst hj; exact ⟨i, ds, e, e3⟩
    · rw [List.getElem?_set_ne hj] at e1'; exact ⟨j, fs, e1', e3⟩
  have fc : ∀ b, Fc C P s b → Fc C { P with ρ := P.ρ.set i (.own es) } s b := fun b f => ⟨f.1, fun q => f.2.1 (rt q), f.2.2.1, f.2.2.2⟩
  have fz : ∀ b, Fc C P s b → b ≠ P.r i := fun b f q => f.2.1 ⟨i, _, ds, e, rfl, q.symm⟩
  have sty : Stays (Fc C P s) H (upd H (P.r i) (.lst ws)) := stays_zmod hl fz
  refine ⟨⟨by simpa using R.len, C.T.mono R.st fun b u q h => by rw [upd_ne (fun z => o.na (by rw [← z]; exact q))]; exact h, fun b u h n => ?_, fun b n => lv b (R.live b n), R.grow, fun b z => ?_, fun j sl h => ?_⟩,
    ⟨fun b u h n m => by rw [upd_ne (fun z => m ⟨i, ds, e, z.symm⟩)]; exact h, lv, fun _ h => .inl h, fun _ h => .inl (rt h), fun _ h => .inl (mrt h), rfl, fun j fs h => ?_⟩⟩
  · rw [upd_ne (fun z => by rw [z, o.new] at h; cases h)]; exact R.frm b u h n
  · obtain ⟨y1, y2, y3⟩ := R.za b z
    exact ⟨y1, lv b y2, y3⟩
  · have h' : (P.ρ.set i (.own es))[j]? = some sl := h
    by_cases hj : i = j
    · subst hj
      rw [List.getElem?_set_self hi] at h'
      cases h'
      refine ⟨o.at_, o.new, o.na, o.nz, fun j' sl' es' q1 q2 q3 => ?_, ws, upd_same, r.step sty fun b f _ => fc b f⟩
      have q1' : (P.ρ.set i (.own es))[j']? = some sl' := q1
      by_cases hj' : i = j'
      · exact hj'.symm
      · rw [List.getElem?_set_ne hj'] at q1'
        exact o.one j' sl' es' q1' q2 q3
    · rw [List.getElem?_set_ne hj] at h'
      have hs := R.slot j sl h'
      have own : ∀ fs, isOwn sl = some fs → OwnOk C { P with ρ := P.ρ.set i (.own es) } σ (upd H (P.r i) (.lst ws)) s j fs := fun fs q => by
        have w : OwnOk C P σ H s j fs := R.own h' q
        obtain ⟨us, x1, x2⟩ := w.is
        refine ⟨w.at_, w.new, w.na, w.nz, fun j' sl' es' q1 q2 q3 => ?_, us, by rw [upd_ne (fun z => hj (w.one i _ ds e rfl z.symm))]; exact x1, x2.step sty fun b f _ => fc b f⟩
        have q1' : (P.ρ.set i (.own es))[j']? = some sl' := q1
        by_cases hj' : i = j'
        · subst hj'
          exact w.one i _ ds e rfl q3
        · rw [List.getElem?_set_ne hj'] at q1'
          exact w.one j' sl' es' q1' q2 q3
      cases sl with
      | no => trivial
      | val d =>
        obtain ⟨v, e1, e2⟩ := hs
        exact ⟨v, e1, e2.step sty fun b f _ => fc b f⟩
      | own fs => exact own fs rfl
      | lck fs => exact own fs rfl
  · have h' : (P.ρ.set i (.own es))[j]? = some (.lck fs) := h
    by_cases hj : i = j
    · subst hj; rw [List.getElem?_set_self hi] at h'; cases h'
    · rw [List.getElem?_set_ne hj] at h'; exact ⟨⟨fs, h'⟩, rfl⟩
/-! ### letting go, locking -/
/-- the slot as a plain value -/
def relS : Sl → Sl
  | .own ds => .val (.lst ds)
  | .lck ds => .val (.lst ds)
  | sl => sl
def relAt (ρ : List Sl) (i : Nat) : List Sl := match ρ[i]? with
  | some sl => ρ.set i (relS sl)
  | none => ρ
theorem Rel.release {P : Pt} {σ : L2.St} {H : Hp} {s : S} (R : Rel C P σ H s) (i : Nat) : Rel C { P with ρ := relAt P.ρ i } σ H s ∧ Stp C.T P s H { P with ρ := relAt P.ρ i } s H := by
  unfold relAt
  split
  · rename_i sl e
    cases q : isOwn sl with
    | none =>
      have : relS sl = sl := by cases sl <;> simp [isOwn] at q <;> rfl
      rw [this]
      have : P.ρ.set i sl = P.ρ := by
        apply List.ext_getElem?
        intro j
        by_cases hj : i = j
        · subst hj; rw [List.getElem?_set_self (List.getElem?_eq_some_iff.mp e).1, e]
        · rw [List.getElem?_set_ne hj]
      rw [this]
      exact ⟨R, Stp.refl⟩
    | some ds =>
      have hr : relS sl = .val (.lst ds) := by cases sl <;> simp [isOwn] at q <;> subst q <;> rfl
      rw [hr]
      have o : OwnOk C P σ H s i ds := R.own e q
      obtain ⟨vs, hl, r⟩ := o.is
      have hi : i < P.ρ.length := (List.getElem?_eq_some_iff.mp e).1
      refine ⟨?_, stp_setVal⟩
      have fa : Fc C { P with ρ := P.ρ.set i (.val (.lst ds)) } s (P.r i) := by
        refine ⟨.inr o.new, fun ⟨j, sl', es, e1, e2, e3⟩ => ?_, o.nz, o.na⟩
        have e1' : (P.ρ.set i (.val (.lst ds)))[j]? = some sl' := e1
        by_cases hj : i = j
        · subst hj; rw [List.getElem?_set_self hi] at e1'; cases e1'; cases e2
        · rw [List.getElem?_set_ne hj] at e1'
          exact hj (o.one j sl' es e1' e2 e3).symm
      refine ⟨by simpa using R.len, R.st, R.frm, R.live, R.grow, R.za, fun j sl' e' => ?_⟩
      have e'' : (P.ρ.set i (.val (.lst ds)))[j]? = some sl' := e'
      by_cases hj : i = j
      · subst hj
        rw [List.getElem?_set_self hi] at e''
        cases e''
        exact ⟨_, o.at_, .lst fa hl (r.wk fun b f _ => fc_set f)⟩
      · rw [List.getElem?_set_ne hj] at e''
        have h := R.slot j sl' e''
        have own : ∀ es, isOwn sl' = some es → OwnOk C { P with ρ := P.ρ.set i (.val (.lst ds)) } σ H s j es := fun es q' => by
          have w : OwnOk C P σ H s j es := R.own e'' q'
          obtain ⟨ws, x1, x2⟩ := w.is
          refine ⟨w.at_, w.new, w.na, w.nz, fun j' sl2 es' q1 q2 q3 => ?_, ws, x1, x2.wk fun b f _ => fc_set f⟩
          have q1' : (P.ρ.set i (.val (.lst ds)))[j']? = some sl2 := q1
          by_cases hj' : i = j'
          · subst hj'; rw [List.getElem?_set_self hi] at q1'; cases q1'; cases q2
          · rw [List.getElem?_set_ne hj'] at q1'; exact w.one j' sl2 es' q1' q2 q3
        cases sl' with
        | no => trivial
        | val d => obtain ⟨v, y1, y2⟩ := h; exact ⟨v, y1, y2.wk fun b f _ => fc_set f⟩
        | own es => exact own es rfl
        | lck es => exact own es rfl
  · exact ⟨R, Stp.refl⟩
/-- locked, unlocked: the same places -/
def lckAt (ρ : List Sl) (i : Nat) : List Sl := match ρ[i]? with
  | some (.own ds) => ρ.set i (.lck ds)
  | _ => ρ
def unlAt (ρ : List Sl) (i : Nat) : List Sl := match ρ[i]? with
  | some (.lck ds) => ρ.set i (.own ds)
  | _ => ρ
theorem Rel.swap {P : Pt} {σ : L2.St} {H : Hp} {s : S} {i : Nat} {sl sl' : Sl} {ds : List D} (R : Rel C P σ H s) (e : P.ρ[i]? = some sl) (q : isOwn sl = some ds) (q' : isOwn sl' = some ds) : Rel C { P with ρ := P.ρ.set i sl' } σ H s := by
  have hi : i < P.ρ.length := (List.getElem?_eq_some_iff.mp e).1
  have rt : ∀ {b}, ({ P with ρ := P.ρ.set i sl' } : Pt).root b → P.root b := fun {b} h => by
    obtain ⟨j, s2, fs, e1, e2, e3⟩ := h
    have e1' : (P.ρ.set i sl')[j]? = some s2 := e1
    by_cases hj : i = j
    · subst hj; exact ⟨i, _, ds, e, q, e3⟩
    · rw [List.getElem?_set_ne hj] at e1'; exact ⟨j, s2, fs, e1', e2, e3⟩
  have fc : ∀ b, Fc C P s b → Fc C { P with ρ := P.ρ.set i sl' } s b := fun b f => ⟨f.1, fun q => f.2.1 (rt q), f.2.2.1, f.2.2.2⟩
  refine ⟨by simpa using R.len, R.st, R.frm, R.live, R.grow, R.za, fun j s2 h => ?_⟩
  have h' : (P.ρ.set i sl')[j]? = some s2 := h
  have own : ∀ fs s3, P.ρ[j]? = some s3 → isOwn s3 = some fs → OwnOk C { P with ρ := P.ρ.set i sl' } σ H s j fs := fun fs s3 h3 q3 => by
    have w : OwnOk C P σ H s j fs := R.own h3 q3
    obtain ⟨us, x1, x2⟩ := w.is
    refine ⟨w.at_, w.new, w.na, w.nz, fun j' sl2 es' y1 y2 y3 => ?_, us, x1, x2.wk fun b f _ => fc b f⟩
    have y1' : (P.ρ.set i sl')[j']? = some sl2 := y1
    by_cases hj' : i = j'
    · subst hj'; exact w.one i sl ds e q y3
    · rw [List.getElem?_set_ne hj'] at y1'; exact w.one j' sl2 es' y1' y2 y3
  by_cases hj : i = j
  · subst hj
    rw [List.getElem?_set_self hi] at h'
    cases h'
    cases sl' <;> simp [isOwn] at q' <;> subst q' <;> exact own _ sl e q
  · rw [List.getElem?_set_ne hj] at h'
    have hs := R.slot j s2 h'
    cases s2 with
    | no => trivial
    | val d => obtain ⟨v, e1, e2⟩ := hs; exact ⟨v, e1, e2.wk fun b f _ => fc b f⟩
    | own fs => exact own fs _ h' rfl
    | lck fs => exact own fs _ h' rfl
theorem lk_ownAt {P : Pt} {i : Nat} {a : Addr} {ds : List D} {j : Nat} {es : List D} (h : (P.ownAt i a ds).ρ[j]? = some (.lck es)) : (∃ fs, P.ρ[j]? = some (.lck fs)) ∧ (P.ownAt i a ds).r j = P.r j := by
  have h' : (P.ρ.set i (.own ds))[j]? = some (.lck es) := h
  by_cases hj : j = i
  · subst hj
    by_cases hl : j < P.ρ.length
    · rw [List.getElem?_set_self hl] at h'; cases h'
    · rw [List.getElem?_eq_none (by simpa using hl)] at h'; cases h'
  · rw [List.getElem?_set_ne (Ne.symm hj)] at h'
    exact ⟨⟨es, h'⟩, by show (if j = i then a else P.r j) = P.r j; rw [if_neg hj]⟩
end
end Q

/-! Lay15: statements. -/
namespace Q
open PySem L2
/-- how a statement ends -/
inductive Out (S : Type) where
  | nxt (ρ : List Sl) (s : S) | ret (fr : Bool) (d : D) (s : S) | brk (ρ : List Sl) (s : S) | cnt (ρ : List Sl) (s : S) | err (x : Exn) (ρ : List Sl) (s : S) | stuck
abbrev ExF (S : Type) := List Sl → S → Out S
section
variable {S : Type} {C : Cn S} {W : L2.WX} {X : Cx}
def RunS (C : Cn S) (W : L2.WX) (P : Pt) (H : Hp) (s : S) (o : Out S) (Dn : Ends) : Prop := match o with
  | .nxt ρ' s' => ∀ P' σ' H', P'.ρ = ρ' → Rel C P' σ' H' s' → Stp C.T P s H P' s' H' → Dn.nx σ' H'
  | .brk ρ' s' => ∀ P' σ' H', P'.ρ = ρ' → Rel C P' σ' H' s' → Stp C.T P s H P' s' H' → Dn.bk σ' H'
  | .cnt ρ' s' => ∀ P' σ' H', P'.ρ = ρ' → Rel C P' σ' H' s' → Stp C.T P s H P' s' H' → Dn.ct σ' H'
  | .ret fr d s' => ∀ v H', Xt C.T C.s0 s' C.H0 H' → C.T.R s' H' → FrP C.K C.H0 H' (RetF C.T C.F0 C.H0 s') fr v d → Dn.rt v H'
  | .err x ρ' s' => ∀ P' σ' cls dd H', P'.ρ = ρ' → Rel C P' σ' H' s' → Stp C.T P s H P' s' H' → RX C (Fc C P' s') H' x cls dd → W cls dd σ' H'
  | .stuck => False
def tS (C : Cn S) (W : L2.WX) (g : ExF S) : TS := fun Dn σ H => ∃ P s, Rel C P σ H s ∧ RunS C W P H s (g P.ρ s) Dn
theorem RunS.step {P P' : Pt} {H H' : Hp} {s s' : S} {o : Out S} {Dn : Ends} (h : RunS C W P H s o Dn) (x : Stp C.T P s H P' s' H') : RunS C W P' H' s' o Dn := by
  cases o with
  | nxt ρ2 s2 => exact fun P2 σ2 H2 e R2 x2 => h P2 σ2 H2 e R2 (x.trans x2)
  | brk ρ2 s2 => exact fun P2 σ2 H2 e R2 x2 => h P2 σ2 H2 e R2 (x.trans x2)
  | cnt ρ2 s2 => exact fun P2 σ2 H2 e R2 x2 => h P2 σ2 H2 e R2 (x.trans x2)
  | ret fr d s2 => exact h
  | err y ρ2 s2 => exact fun P2 σ2 c dd H2 e R2 x2 => h P2 σ2 c dd H2 e R2 (x.trans x2)
  | stuck => exact h
/-- from an expression's end to a statement's -/
def thenS {α : Type} (ρ : List Sl) (m : Res S α) (k : α → S → Out S) : Out S := match m with
  | .ok a s => k a s
  | .err x s => .err x ρ s
  | .stuck => .stuck
theorem RunS.run {α : Type} {P : Pt} {σ : L2.St} {H : Hp} {s : S} {m : Res S α} {k : α → S → Out S} {Dn : Ends} (h : RunS C W P H s (thenS P.ρ m k) Dn) : Run C W P σ H s m fun a s1 H1 => RunS C W P H1 s1 (k a s1) Dn := by
  cases m with
  | ok a s1 => exact fun H1 R1 x1 => RunS.step (o := k a s1) h x1.stp
  | err y s1 => exact fun c dd H1 R1 x1 rx => h P σ c dd H1 rfl R1 x1.stp rx
  | stuck => exact h
theorem ps_mono {st : Stmt} {t t' : TS} (h : PS X st t) (i : ∀ D σ H, t' D σ H → t D σ H) : PS X st t' := ⟨fun pins s σ H D I q => h.run pins s σ H D I (i D σ H q)⟩
theorem pss_mono {st : List Stmt} {t t' : TS} (h : PSs X st t) (i : ∀ D σ H, t' D σ H → t D σ H) : PSs X st t' := ⟨fun pins s σ H D I q => h.run pins s σ H D I (i D σ H q)⟩
def stuckS : ExF S := fun _ _ => .stuck
theorem sx_stuck {st : Stmt} : PS X st (tS C W stuckS) := ⟨fun pins s σ H D I ⟨P, st, R, q⟩ => q.elim⟩
theorem sxs_stuck {st : List Stmt} : PSs X st (tS C W stuckS) := ⟨fun pins s σ H D I ⟨P, st, R, q⟩ => q.elim⟩
/-! ### blocks -/
def nextS : ExF S := fun ρ s => .nxt ρ s
def seqS (f g : ExF S) : ExF S := fun ρ s => match f ρ s with
  | .nxt ρ' s' => g ρ' s'
  | o => o
theorem sxs_nil : PSs X [] (tS C W nextS) := pss_mono pss_nil fun D σ H ⟨P, s, R, q⟩ => q P σ H rfl R Stp.refl
theorem sxs_cons {st : Stmt} {rest : List Stmt} {f g : ExF S} (h1 : PS X st (tS C W f)) (h2 : PSs X rest (tS C W g)) : PSs X (st :: rest) (tS C W (seqS f g)) := by
  refine pss_mono (pss_cons h1 h2) fun D σ H ⟨P, s, R, q⟩ => ⟨P, s, R, ?_⟩
  unfold seqS at q
  cases e : f P.ρ s with
  | nxt ρ' s' =>
    rw [e] at q
    intro P' σ' H' ep R' x
    exact ⟨P', s', R', by rw [ep]; exact RunS.step q x⟩
  | ret fr d s' => rw [e] at q; exact q
  | brk ρ' s' => rw [e] at q; exact q
  | cnt ρ' s' => rw [e] at q; exact q
  | err x ρ' s' => rw [e] at q; exact q
  | stuck => rw [e] at q; exact q
theorem sx_pass {pos : Pos} : PS X (.Pass pos) (tS C W nextS) := ps_mono ps_pass fun D σ H ⟨P, s, R, q⟩ => q P σ H rfl R Stp.refl
def brkS : ExF S := fun ρ s => .brk ρ s
def cntS : ExF S := fun ρ s => .cnt ρ s
theorem sx_brk {pos : Pos} : PS X (.Break pos) (tS C W brkS) := ps_mono ps_break fun D σ H ⟨P, s, R, q⟩ => q P σ H rfl R Stp.refl
theorem sx_cnt {pos : Pos} : PS X (.Continue pos) (tS C W cntS) := ps_mono ps_continue fun D σ H ⟨P, s, R, q⟩ => q P σ H rfl R Stp.refl
def ifS (c : EvT' S) (f g : ExF S) : ExF S := fun ρ s => thenS ρ (c ρ s) fun b s1 => if b = true then f ρ s1 else g ρ s1
theorem sx_if {c : Expr} {a b : List Stmt} {pos : Pos} {h : EvT' S} {f g : ExF S} (hc : PT X c (tT C W h)) (ha : PSs X a (tS C W f)) (hb : PSs X b (tS C W g)) : PS X (.If c a b pos) (tS C W (ifS h f g)) := by
  refine ps_mono (ps_if hc ha hb) fun D σ H ⟨P, s, R, q⟩ => ⟨P, s, R, q.run.mono fun b s1 H1 R1 x1 q1 => ?_⟩
  cases b with
  | true => exact iteT ⟨P, s1, R1, q1⟩
  | false => exact iteF ⟨P, s1, R1, q1⟩
/-! ### release ahead of a statement -/
def relAll (ρ : List Sl) : List Nat → List Sl
  | [] => ρ
  | i :: is => relAt (relAll ρ is) i
theorem Rel.releases {P : Pt} {σ : L2.St} {H : Hp} {s : S} (R : Rel C P σ H s) : ∀ is : List Nat, Rel C { P with ρ := relAll P.ρ is } σ H s ∧ Stp C.T P s H { P with ρ := relAll P.ρ is } s H
  | [] => ⟨R, Stp.refl⟩
  | i :: is => by
    obtain ⟨h1, h2⟩ := Rel.releases R is
    obtain ⟨h3, h4⟩ := h1.release i
    exact ⟨h3, h2.trans h4⟩
def relS' (is : List Nat) (f : ExF S) : ExF S := fun ρ s => f (relAll ρ is) s
theorem sx_rel {st : Stmt} {f : ExF S} (is : List Nat) (h : PS X st (tS C W f)) : PS X st (tS C W (relS' is f)) := ps_mono h fun D σ H ⟨P, s, R, q⟩ => by
  obtain ⟨h1, h2⟩ := R.releases is
  exact ⟨_, s, h1, RunS.step q h2⟩
/-! ### return -/
theorem Rel.ent {P : Pt} {σ : L2.St} {H : Hp} {s : S} (R : Rel C P σ H s) : Xt C.T C.s0 s C.H0 H := ⟨R.frm, R.live, R.grow⟩
def retV (fr : Bool) (f : EvF S) : ExF S := fun ρ s => thenS ρ (f ρ s) fun d s1 => .ret fr d s1
theorem fc_ret {P : Pt} {s : S} {a : Addr} (f : Fc C P s a) : RetF C.T C.F0 C.H0 s a := ⟨f.1, f.2.2.2⟩
theorem sx_ret {e : Expr} {pos : Pos} {f : EvF S} (h : PE X e (tP C W f)) : PS X (.Return (some e) pos) (tS C W (retV false f)) :=
  ps_mono (ps_ret h) fun D σ H ⟨P, s, R, q⟩ => ⟨P, s, R, q.run.mono fun d s1 H1 R1 x1 q1 v rv => q1 v H1 R1.ent R1.st ⟨rv.wk fun a f _ => fc_ret f, fun z => Bool.noConfusion z⟩⟩
theorem sx_retF {e : Expr} {pos : Pos} {f : EvF S} (h : PE X e (tF C W f)) : PS X (.Return (some e) pos) (tS C W (retV true f)) :=
  ps_mono (ps_ret h) fun D σ H ⟨P, s, R, q⟩ => ⟨P, s, R, q.run.mono fun d s1 H1 R1 x1 q1 v rv => q1 v H1 R1.ent R1.st ⟨rv.1.wk fun a f _ => fc_ret f, fun _ ds e => by
    obtain ⟨a, ws, h1, h2, h3, h4⟩ := rv.2 ds e
    exact ⟨a, ws, h1, R.none0 h2, h3, h4.wk fun b f _ => ⟨fc_ret f.1, f.2⟩⟩⟩⟩
/-- return x -/
def retN (N : List Str) (sc : Scope) (x : Str) : ExF S := fun ρ s => match slotOf N x with
  | some i => if visB sc x && x != ("__debug__" : Str) && x != ("__classdict__" : Str) then (match ρ[i]? with
    | some (.val d) => .ret false d s
    | some (.own ds) => .ret true (.lst ds) s
    | some (.lck ds) => .ret true (.lst ds) s
    | _ => .stuck) else .stuck
  | none => .stuck
theorem OwnOk.ret {P : Pt} {σ : L2.St} {H : Hp} {s : S} {i : Nat} {ds : List D} {sl : Sl} (o : OwnOk C P σ H s i ds) (e : P.ρ[i]? = some sl) (q : isOwn sl = some ds) : FrP C.K C.H0 H (RetF C.T C.F0 C.H0 s) true (.ref (P.r i)) (.lst ds) := by
  obtain ⟨vs, h1, h2⟩ := o.is
  refine ⟨.lst ⟨.inr o.new, o.na⟩ h1 (h2.wk fun a f _ => fc_ret f), fun _ es e' => ?_⟩
  cases e'
  exact ⟨_, vs, rfl, o.new, h1, h2.wk fun a f _ => ⟨fc_ret f, fun z => f.2.1 ⟨i, sl, ds, e, q, z.symm⟩⟩⟩
theorem sx_retN {N : List Str} {sc : Scope} (k : Xk C W X N sc) (x : Str) (p pos : Pos) : PS X (.Return (some (.Name x p)) pos) (tS C W (retN N sc x)) := by
  unfold retN
  split
  · rename_i i e
    split
    · rename_i h
      simp only [Bool.and_eq_true, bne_iff_ne, ne_eq] at h
      refine ps_mono (ps_ret (pe_var (i := i) (by rw [k.names]; exact slotOf_some e) (by rw [k.scope]; exact visB_ok h.1.1) (by simpa using h.1.2) (by simpa using h.2))) fun D σ H ⟨P, s, R, q⟩ => ?_
      dsimp only at q
      split at q
      · rename_i d hd
        obtain ⟨v, e1, e2⟩ := R.slot i _ hd
        exact ⟨v, e1, q v H R.ent R.st ⟨e2.wk fun a f _ => fc_ret f, fun z => Bool.noConfusion z⟩⟩
      · rename_i d hd
        have o : OwnOk C P σ H s i d := R.slot i _ hd
        exact ⟨_, o.at_, q _ H R.ent R.st (o.ret hd rfl)⟩
      · rename_i d hd
        have o : OwnOk C P σ H s i d := R.slot i _ hd
        exact ⟨_, o.at_, q _ H R.ent R.st (o.ret hd rfl)⟩
      · exact q.elim
    · exact sx_stuck
  · exact sx_stuck
def retNone : ExF S := fun _ s => .ret false .non s
theorem sx_retNone {pos : Pos} : PS X (.Return none pos) (tS C W retNone) := ps_mono ps_retN fun D σ H ⟨P, s, R, q⟩ => q .non H R.ent R.st ⟨.non, fun z => Bool.noConfusion z⟩
/-! ### values dropped -/
def dropS (f : EvF S) : ExF S := fun ρ s => thenS ρ (f ρ s) fun _ s1 => .nxt ρ s1
def isComp : Expr → Bool
  | .ListComp _ _ _ _ => true
  | .SetComp _ _ _ _ => true
  | .DictComp _ _ _ _ _ => true
  | _ => false
theorem swaps_no {e : Expr} {t : Option Expr} {l : Nat} {env : Env} (h : isComp e = false) : swapsWith e t l env = pure false := by
  cases e <;> first | rfl | (simp [isComp] at h; done)
theorem sx_drop {e : Expr} {pos : Pos} {f : EvF S} (hc : isComp e = false) (h : PE X e (tP C W f)) : PS X (.Expr e pos) (tS C W (dropS f)) :=
  ps_mono (ps_expr h (swaps_no hc)) fun D σ H ⟨P, s, R, q⟩ => ⟨P, s, R, q.run.mono fun d s1 H1 R1 x1 q1 v rv => q1 P σ H1 rfl R1 Stp.refl⟩
/-! ### assignments -/
def asgS (f : EvF S) (g : D → List Sl → Option (List Sl)) : ExF S := fun ρ s => thenS ρ (f ρ s) fun d s1 => match g d ρ with
  | some ρ' => .nxt ρ' s1
  | none => .stuck
theorem t_asg {f : EvF S} {ts : List Nat} {g : D → List Sl → Option (List Sl)} {D : Ends} {σ : L2.St} {H : Hp} (h : tS C W (asgS f g) D σ H) : tAsg (tP C W f) (tG C ts g) D σ H := by
  obtain ⟨P, s, R, q⟩ := h
  refine ⟨P, s, R, q.run.mono fun d s1 H1 R1 x1 q1 v rv => ?_⟩
  split at q1
  · rename_i ρ' e
    exact ⟨P, s1, d, ρ', R1, rv, e, fun σ' R' st _ => q1 { P with ρ := ρ' } σ' H1 rfl R' st⟩
  · exact q1.elim
theorem sx_asg {tg e : Expr} {pos : Pos} {f : EvF S} {ts : List Nat} {g : D → List Sl → Option (List Sl)} (he : PE X e (tP C W f)) (hg : PG X tg (tG C ts g)) (h1 : swapsWithSole [tg] e pos.line X.env = pure false) (h2 : swappedStores [tg] e X.env = pure none) (hs : isStar tg = false) : PS X (.Assign [tg] e pos) (tS C W (asgS f g)) :=
  ps_mono (ps_asg he hg h1 h2 (by cases tg <;> first | rfl | (simp [isStar] at hs; done))) fun D σ H h => t_asg h
/-- a name gets an own list -/
def ownS (i : Nat) (f : EvF S) : ExF S := fun ρ s => thenS ρ (f ρ s) fun d s1 => if i < ρ.length then (match d with
  | .lst ds => .nxt (ρ.set i (.own ds)) s1
  | d => .nxt (ρ.set i (.val d)) s1) else .stuck
theorem Rel.newOwn {P : Pt} {σ : L2.St} {H H1 : Hp} {s s1 : S} {i : Nat} {v : V} {ds : List D} (R : Rel C P σ H s) (R1 : Rel C P σ H1 s1) (x1 : Xt C.T s s1 H H1) (fr : Fr C P s1 H H1 v (.lst ds)) (hi : i < P.ρ.length) :
    ∃ a, Rel C (P.ownAt i a ds) (σ.set i (some v)) H1 s1 ∧ Stp C.T P s H (P.ownAt i a ds) s1 H1 := by
  obtain ⟨a, vs, rfl, h1, h2, h3⟩ := fr.2 ds rfl
  have fa : Fc C P s1 a := by
    have := fr.1
    cases this with
    | lst f _ _ => exact f
  have RZ : Rel C (P.addZs [a]) σ H1 s1 := R.addZs x1 R1.st (fun b hb => by simp at hb; subst hb; exact h1) (fun b hb => by simp at hb; subst hb; rw [h2]; simp) (fun b hb => by simp at hb; subst hb; exact fa.2.2.2)
  have r := Rel.takeOwn (i := i) RZ h2 (h3.wk fun b f _ => fc_addZs f.1 (by simpa using f.2)) hi (by simp) fa.2.2.1
  rw [addZs_nil] at r
  exact ⟨a, r, ⟨fun b o e n m => x1.keep b o e n, x1.live, x1.grow, fun b q => (root_ownAt q).elim (fun z => .inr (by rw [z]; exact h1)) .inl, fun b q => (mroot_ownAt q).elim (fun z => .inr (by rw [z]; exact h1)) .inl, rfl, fun j es e => lk_ownAt e⟩⟩
theorem t_own {i : Nat} {f : EvF S} {D : Ends} {σ : L2.St} {H : Hp} (h : tS C W (ownS i f) D σ H) : tAsg (tF C W f) (gName i) D σ H := by
  obtain ⟨P, s, R, q⟩ := h
  refine ⟨P, s, R, ?_⟩
  cases e : f P.ρ s with
  | stuck => rw [show ownS i f P.ρ s = _ from rfl] at q; unfold ownS at q; rw [e] at q; exact q
  | err y s1 =>
    unfold ownS at q; rw [e] at q
    exact fun c dd H1 R1 x1 rx => q P σ c dd H1 rfl R1 x1.stp rx
  | ok d s1 =>
    unfold ownS at q; rw [e] at q
    intro H1 R1 x1 v fr
    simp only [thenS] at q
    split at q
    · rename_i hi
      cases d with
      | lst ds =>
        obtain ⟨a, r, st⟩ := Rel.newOwn R R1 x1 fr hi
        exact q _ _ _ rfl r st
      | _ => exact q _ _ _ rfl (R1.setVal fr.1 hi) (x1.stp.trans stp_setVal)
    · exact q.elim
end
end Q

/-! Lay16: a, b = x, y; which way an assignment goes. -/
namespace Q
open PySem L2
section
variable {S : Type} {C : Cn S} {W : L2.WX} {X : Cx}
/-- values side by side: plain ones, own lists at rs -/
inductive OwnR (C : Cn S) (P : Pt) (s : S) (H : Hp) : List Bool → List V → List D → List Addr → Prop
  | nil : OwnR C P s H [] [] [] []
  | val {o : Bool} {os : List Bool} {v : V} {vs : List V} {d : D} {ds : List D} {rs : List Addr} : (o = true → ∀ es, d ≠ .lst es) → Rp C.K H (Fc C P s) v d → OwnR C P s H os vs ds rs → OwnR C P s H (o :: os) (v :: vs) (d :: ds) rs
  | own {os : List Bool} {a : Addr} {ws : List V} {es : List D} {vs : List V} {ds : List D} {rs : List Addr} : H a = some (.lst ws) → RpL C.K H (Fc C P s) ws es → OwnR C P s H os vs ds rs → OwnR C P s H (true :: os) (.ref a :: vs) (.lst es :: ds) (a :: rs)
theorem OwnR.mono {P P' : Pt} {s : S} {H : Hp} (i : ∀ b, Fc C P s b → Fc C P' s b) : ∀ {os : List Bool} {vs : List V} {ds : List D} {rs : List Addr}, OwnR C P s H os vs ds rs → OwnR C P' s H os vs ds rs
  | _, _, _, _, .nil => .nil
  | _, _, _, _, .val n r t => .val n (r.wk fun b f _ => i b f) (OwnR.mono i t)
  | _, _, _, _, .own h r t => .own h (r.wk fun b f _ => i b f) (OwnR.mono i t)
def tAZ (C : Cn S) (W : L2.WX) (os : List Bool) (f : EvL' S) : TA := fun σ H Q => ∃ P s, Rel C P σ H s ∧ Run C W P σ H s (f P.ρ s) fun ds s' H' => ∀ vs rs, (∀ a ∈ rs, H a = none) → rs.Nodup → Rel C (P.addZs rs) σ H' s' → OwnR C (P.addZs rs) s' H' os vs ds rs → Q vs H'
theorem saz_nil : PA X [] (tAZ C W [] nilA) := pa_mono pa_nil fun σ H Q ⟨P, s, R, q⟩ => (q.now R) [] [] (fun _ h => nomatch h) .nil (by rw [addZs_nil]; exact R) .nil
theorem saz_val {e : Expr} {es : List Expr} {os : List Bool} {f : EvF S} {g : EvL' S} (he : PE X e (tP C W f)) (hr : PA X es (tAZ C W os g)) (hs : isStar e = false) : PA X (e :: es) (tAZ C W (false :: os) (consA f g)) := by
  refine pa_mono (pa_cons he hr (star_no hs)) fun σ H Q ⟨P, s, R, q⟩ => ⟨P, s, R, q.bind.mono fun d s1 H1 R1 x1 q1 v rv => ⟨P, s1, R1, q1.bind.mono fun ds s2 H2 R2 x2 q2 vs rs hn nd RZ ow => ?_⟩⟩
  refine (q2.now R2) _ rs (fun a h => x1.none_of (hn a h)) nd RZ (.val (fun z => Bool.noConfusion z) ?_ ow)
  exact rv.step (x2.stays R1.st fun _ f => f.2.2.2) fun a f n => fc_addZs (x2.fc a f n) fun h => n (hn a h)
theorem saz_own {e : Expr} {es : List Expr} {os : List Bool} {f : EvF S} {g : EvL' S} (he : PE X e (tF C W f)) (hr : PA X es (tAZ C W os g)) (hs : isStar e = false) : PA X (e :: es) (tAZ C W (true :: os) (consA f g)) := by
  refine pa_mono (pa_cons he hr (star_no hs)) fun σ H Q ⟨P, s, R, q⟩ => ⟨P, s, R, q.bind.mono fun d s1 H1 R1 x1 q1 v fr => ?_⟩
  by_cases hl : ∃ es, d = .lst es
  · obtain ⟨es, rfl⟩ := hl
    obtain ⟨a, ws, rfl, h1, h2, h3⟩ := fr.2 es rfl
    have fa : Fc C P s1 a := by
      have := fr.1
      cases this with
      | lst f _ _ => exact f
    have RZ1 : Rel C (P.addZs [a]) σ H1 s1 := R.addZs x1 R1.st (fun b hb => by simp at hb; subst hb; exact h1) (fun b hb => by simp at hb; subst hb; rw [h2]; simp) (fun b hb => by simp at hb; subst hb; exact fa.2.2.2)
    refine ⟨P.addZs [a], s1, RZ1, ?_⟩
    have q1' := q1.bind
    cases e : g P.ρ s1 with
    | stuck => rw [e] at q1'; exact q1'.elim
    | err y s2 =>
      rw [e] at q1'
      have e' : g (P.addZs [a]).ρ s1 = .err y s2 := e
      rw [e']
      intro c dd H2 RZ2 x2 rx
      have R2 : Rel C P σ H2 s2 := R1.xt x2 RZ2.st
      obtain ⟨cc, y1, y2, y3, y4⟩ := rx
      refine q1' c dd H2 R2 x2 ⟨cc, y1, y2, y3, fun z => ?_⟩
      obtain ⟨dx, us, g1, g2, g3⟩ := y4 z
      exact ⟨dx, us, g1, g2, g3.wk fun b f _ => (fc_unZs f).1⟩
    | ok ds s2 =>
      rw [e] at q1'
      have e' : g (P.addZs [a]).ρ s1 = .ok ds s2 := e
      rw [e']
      intro H2 RZ2 x2 vs rs hn nd RZ3 ow
      have R2 : Rel C P σ H2 s2 := R1.xt x2 RZ2.st
      rw [addZs_cons] at RZ3 ow
      have ha : a ∉ rs := fun h => by rw [hn a h] at h2; cases h2
      refine (q1' H2 R2 x2).now R2 _ (a :: rs) (fun b hb => ?_) (List.nodup_cons.mpr ⟨ha, nd⟩) RZ3 (.own (x2.keep _ _ h2 fa.2.2.2) ?_ ow)
      · rcases List.mem_cons.mp hb with z | z
        · rw [z]; exact h1
        · exact x1.none_of (hn b z)
      · refine h3.step (x2.stays R1.st fun _ f => f.1.2.2.2) fun b f n => fc_addZs (x2.fc b f.1 n) fun h => ?_
        rcases List.mem_cons.mp h with z | z
        · exact f.2 z
        · exact n (hn b z)
  · refine ⟨P, s1, R1, q1.bind.mono fun ds s2 H2 R2 x2 q2 vs rs hn nd RZ ow => ?_⟩
    refine (q2.now R2) _ rs (fun a h => x1.none_of (hn a h)) nd RZ (.val (fun _ es e => hl ⟨es, e⟩) ?_ ow)
    exact fr.1.step (x2.stays R1.st fun _ f => f.2.2.2) fun a f n => fc_addZs (x2.fc a f n) fun h => n (hn a h)
/-- names set in turn -/
def slO (o : Bool) (d : D) : Sl := match o, d with
  | true, .lst es => .own es
  | _, d => .val d
def asgL : List (Nat × Bool) → List D → List Sl → Option (List Sl)
  | [], [], ρ => some ρ
  | (i, o) :: is, d :: ds, ρ => if i < ρ.length then asgL is ds (ρ.set i (slO o d)) else none
  | _, _, _ => none
def setAll : List Nat → List V → L2.St → L2.St
  | i :: is, v :: vs, σ => setAll is vs (σ.set i (some v))
  | _, _, σ => σ
theorem Rel.asgL : ∀ {is : List (Nat × Bool)} {P : Pt} {σ : L2.St} {H : Hp} {s : S} {vs : List V} {ds : List D} {rs : List Addr} {ρ' : List Sl}, Rel C (P.addZs rs) σ H s → OwnR C (P.addZs rs) s H (is.map (·.2)) vs ds rs → Q.asgL is ds P.ρ = some ρ' → rs.Nodup → (∀ a ∈ rs, ¬ P.Z a) →
    ∃ P' : Pt, P'.ρ = ρ' ∧ Rel C P' (setAll (is.map (·.1)) vs σ) H s ∧ P'.Z = P.Z ∧ (∀ b, P'.root b → P.root b ∨ b ∈ rs) ∧ (∀ b, P'.mroot b → P.mroot b ∨ b ∈ rs) ∧ ∀ j es, P'.ρ[j]? = some (.lck es) → (∃ fs, P.ρ[j]? = some (.lck fs)) ∧ P'.r j = P.r j
  | [], P, σ, H, s, vs, ds, rs, ρ', R, ow, e, nd, nz => by
    cases ow
    cases e
    rw [addZs_nil] at R
    exact ⟨P, rfl, R, rfl, fun _ h => .inl h, fun _ h => .inl h, fun j es e => ⟨⟨es, e⟩, rfl⟩⟩
  | (i, o) :: is, P, σ, H, s, vs, ds, rs, ρ', R, ow, e, nd, nz => by
    cases ow with
    | val n r t =>
      rename_i v vs d ds
      simp only [Q.asgL] at e
      split at e
      · rename_i hi
        have hs : slO o d = .val d := by
          cases o with
          | false => rfl
          | true => cases d <;> first | rfl | (exact absurd rfl (n rfl _))
        rw [hs] at e
        have R1 : Rel C (({ P with ρ := P.ρ.set i (.val d) } : Pt).addZs rs) (σ.set i (some v)) H s := R.setVal r hi
        have ow1 := t.mono (P' := ({ P with ρ := P.ρ.set i (.val d) } : Pt).addZs rs) fun b f => fc_set (P := P.addZs rs) f
        obtain ⟨P', h1, h2, h3, h4, h5, h6⟩ := Rel.asgL R1 ow1 e nd nz
        exact ⟨P', h1, h2, h3, fun b h => (h4 b h).elim (fun z => .inl (root_set (P := P) z)) .inr, fun b h => (h5 b h).elim (fun z => .inl (mroot_set (P := P) z)) .inr, fun j es h => by
          obtain ⟨⟨fs, g1⟩, g2⟩ := h6 j es h
          obtain ⟨g3, g4⟩ := (stp_setVal (C := C) (P := P) (s := s) (H := H) (i := i) (d := d)).lk j fs g1
          exact ⟨g3, g2.trans g4⟩⟩
      · cases e
    | own hl r t =>
      rename_i a ws es vs ds rs
      simp only [Q.asgL] at e
      split at e
      · rename_i hi
        have hn := List.nodup_cons.mp nd
        have R1 := Rel.takeOwn (i := i) R hl r hi hn.1 (nz a List.mem_cons_self)
        have ow1 := t.mono (P' := (P.ownAt i a es).addZs rs) fun b f => fc_ownAt f
        obtain ⟨P', h1, h2, h3, h4, h5, h6⟩ := Rel.asgL (P := P.ownAt i a es) R1 ow1 e hn.2 (fun b h => nz b (List.mem_cons_of_mem _ h))
        refine ⟨P', h1, h2, h3, fun b h => ?_, fun b h => ?_, fun j fs h => ?_⟩
        · rcases h4 b h with z | z
          · rcases root_ownAt z with z | z
            · exact .inr (by rw [z]; exact List.mem_cons_self)
            · exact .inl z
          · exact .inr (List.mem_cons_of_mem _ z)
        · rcases h5 b h with z | z
          · rcases mroot_ownAt z with z | z
            · exact .inr (by rw [z]; exact List.mem_cons_self)
            · exact .inl z
          · exact .inr (List.mem_cons_of_mem _ z)
        · obtain ⟨⟨gs, g1⟩, g2⟩ := h6 j fs h
          obtain ⟨g3, g4⟩ := lk_ownAt g1
          exact ⟨g3, g2.trans g4⟩
      · cases e
def parS (is : List (Nat × Bool)) (f : EvL' S) : ExF S := fun ρ s => thenS ρ (f ρ s) fun ds s1 => match asgL is ds ρ with
  | some ρ' => .nxt ρ' s1
  | none => .stuck
theorem OwnR.len {P : Pt} {s : S} {H : Hp} {os : List Bool} {vs : List V} {ds : List D} {rs : List Addr} (h : OwnR C P s H os vs ds rs) : vs.length = os.length := by
  induction h with
  | nil => rfl
  | val _ _ _ ih => simp [ih]
  | own _ _ _ ih => simp [ih]
theorem t_par {is : List (Nat × Bool)} {f : EvL' S} {D : Ends} {σ : L2.St} {H : Hp} (h : tS C W (parS is f) D σ H) : tAZ C W (is.map (·.2)) f σ H fun vs H1 => vs.length = is.length ∧ D.nx (setAll (is.map (·.1)) vs σ) H1 := by
  obtain ⟨P, s, R, q⟩ := h
  refine ⟨P, s, R, ?_⟩
  unfold parS at q
  cases e : f P.ρ s with
  | stuck => rw [e] at q; exact q
  | err y s1 => rw [e] at q; exact fun c dd H1 R1 x1 rx => q P σ c dd H1 rfl R1 x1.stp rx
  | ok ds s1 =>
    rw [e] at q
    intro H1 R1 x1 vs rs hn nd RZ ow
    simp only [thenS] at q
    split at q
    · rename_i ρ' e
      obtain ⟨P', h1, h2, h3, h4, h5, h6⟩ := Rel.asgL RZ ow e nd (fun a ha z => (R.za a z).2.1 (hn a ha))
      refine ⟨by simpa using ow.len, q P' _ H1 h1 h2 ⟨fun a o ea na _ => x1.keep a o ea na, x1.live, x1.grow, fun b hb => (h4 b hb).elim .inl fun z => .inr (hn b z), fun b hb => (h5 b hb).elim .inl fun z => .inr (hn b z), h3, h6⟩⟩
    · exact q.elim
/-! ### which way -/
def bkS (sc : Scope) : ScopeKind := if sc.kind.isAnnotationScope then .function else sc.kind
def swNames (sc : Scope) (ts : List Expr) : List Str := ts.filterMap fun
    | .Name id pos => if sc.names.lookup id == some .local && pos.line == (ts.head?.map (·.pos.line)).getD 0 then some id else none
    | _ => none
/-- what swappedStores says: none where it is not said -/
def sws (sc : Scope) (tg v : Expr) : Option (Option (List Str)) := match tg, v with
  | .Tuple ts _ _, .Tuple vs _ _ =>
    if !(ts.length == 2 || ts.length == 3) || vs.length != ts.length || bkS sc != .function then some none
    else if vs.any isStar then some none
    else if (swNames sc ts).length != ts.length || (swNames sc ts).eraseDups.length != (swNames sc ts).length then some none
    else if vs.all (foldedForSure 8) then some none
    else if vs.all (constantsAlone 8) then none
    else some (some (swNames sc ts))
  | .List _ _, .Tuple _ _ _ => none
  | _, _ => some none
def swsM (sc : Scope) (ts vs : List Expr) : Sem (Option (List Str)) :=
    if (!(ts.length == 2 || ts.length == 3) || vs.length != ts.length || bkS sc != .function) = true then pure none
    else if vs.any isStar = true then pure none
    else if ((swNames sc ts).length != ts.length || (swNames sc ts).eraseDups.length != (swNames sc ts).length) = true then pure none
    else if vs.all (foldedForSure 8) = true then pure none
    else if vs.all (constantsAlone 8) = true then (do unsupported "assign.tuple-of-constant-expressions:order-of-the-stores"; pure (some (swNames sc ts)))
    else pure (some (swNames sc ts))
theorem swsM_eq (env : Env) (ts vs : List Expr) (a c : Nat) (b d : Pos) : swappedStores [.Tuple ts a b] (.Tuple vs c d) env = swsM env.scope ts vs := by
  unfold swsM swNames bkS swappedStores Env.blockKind Env.kindOf
  rfl
theorem sws_ok {sc : Scope} {env : Env} (he : env.scope = sc) {tg v : Expr} {r : Option (List Str)} (h : sws sc tg v = some r) : swappedStores [tg] v env = pure r := by
  unfold sws at h
  split at h
  · rename_i ts _ _ vs _ _
    rw [swsM_eq, he]
    unfold swsM
    split at h
    · rename_i c; cases h; rw [if_pos c]
    rename_i c
    rw [if_neg c]
    split at h
    · rename_i c; cases h; rw [if_pos c]
    rename_i c
    rw [if_neg c]
    split at h
    · rename_i c; cases h; rw [if_pos c]
    rename_i c
    rw [if_neg c]
    split at h
    · rename_i c; cases h; rw [if_pos c]
    rename_i c
    rw [if_neg c]
    split at h
    · cases h
    rename_i c
    cases h
    rw [if_neg c]
  · cases h
  · cases h
    rename_i h1 h2
    unfold swappedStores
    cases tg <;> first
      | rfl
      | (cases v <;> first | rfl | (exfalso; first | exact h1 _ _ _ _ _ _ rfl rfl | exact h2 _ _ _ _ _ rfl rfl))
end
end Q

/-! Lay17: assignments of the text; append, extend, pop, items; loops. -/
namespace Q
open PySem L2
section
variable {S : Type} {C : Cn S} {W : L2.WX} {X : Cx}
/-- where statements run: in a def -/
structure Xd (C : Cn S) (W : L2.WX) (X : Cx) (N : List Str) (sc : Scope) : Prop extends Xk C W X N sc where
  s : Xs C X N sc
  own : PassesOwn (model X.prog X.w) X.A X.env X.xe
theorem sole_no {t e : Expr} {l : Nat} {env : Env} (h : isComp e = false) : swapsWithSole [t] e l env = pure false := by
  unfold swapsWithSole
  exact swaps_no h
theorem t_valN {N : List Str} {sc : Scope} {x : Str} {i : Nat} {f : EvF S} (hi : slotOf N x = some i) {D : Ends} {σ : L2.St} {H : Hp} (h : tS C W (asgS f (tgName N sc x)) D σ H) : tAsg (tF C W f) (gName i) D σ H := by
  obtain ⟨P, s, R, q⟩ := h
  refine ⟨P, s, R, q.run.mono fun d s1 H1 R1 x1 q1 v rv => ?_⟩
  unfold tgName at q1
  rw [hi] at q1
  dsimp only at q1
  split at q1
  · rename_i ρ' e
    split at e
    · rename_i c
      cases e
      simp only [Bool.and_eq_true, decide_eq_true_eq] at c
      exact q1 { P with ρ := P.ρ.set i (.val d) } _ H1 rfl (R1.setVal rv.1 c.2) stp_setVal
    · cases e
  · exact q1.elim
/-! ### comprehensions given to a name -/
def swB (sc : Scope) (e : Expr) (x : Str) (p : Pos) : Bool := match e with
  | .ListComp _ _ s _ => bkS sc == .function && sc.names.lookup x == some .local && p.line == e.pos.line && !(s.names.any fun (n, k) => n == x && (k == .local || k == .cell))
  | _ => false
theorem swB_eq {sc : Scope} {env : Env} (he : env.scope = sc) {elt : Expr} {gs : List Comprehension} {s : Scope} {pos : Pos} {x : Str} {p : Pos} {l : Nat} : swapsWith (.ListComp elt gs s pos) (some (.Name x p)) l env = pure (swB sc (.ListComp elt gs s pos) x p) := by
  subst he
  rfl
theorem ps_lcAsg {N : List Str} {sc : Scope} {G : Gk S} {f f2 : Expr → Sem3 S} (k : Xd C W X N sc) (gk : GkOk C X G) (h : ∀ e, Snd C W X e (f e)) {scope : Scope} (h2 : ∀ {X' : Cx}, Xk C W0 X' N (rl scope sc) → GkOk C X' G → ∀ e, Snd C W0 X' e (f2 e)) (elt tg iter : Expr) (ifs : List Expr) (pos py spos : Pos) (y : Str) (i : Nat) (hi : slotOf N y = some i) (hl : locB sc y = true) :
    PS X (.Assign [.Name y py] (.ListComp elt [⟨tg, iter, ifs, 0⟩] scope pos) spos) (tAsg (tF C W (lc3 N sc scope f f2 elt tg iter ifs)) (gName i)) := by
  have hN : X.N[i]? = some y := by rw [k.names]; exact slotOf_some hi
  obtain ⟨hL, hF⟩ := k.s.loc y hl
  cases hsw : swB sc (.ListComp elt [⟨tg, iter, ifs, 0⟩] scope pos) y py with
  | false =>
    exact ps_set (by rw [k.names]; exact k.nd) hN hL (sd_lc3 k.toXk gk h h2 elt tg iter ifs pos) (by rw [swB_eq k.scope, hsw]) hF
  | true =>
    have hy : X.env.scope.names.lookup y = some .local := by
      simp only [swB, Bool.and_eq_true, beq_iff_eq] at hsw
      rw [k.scope]
      exact hsw.1.1.2
    unfold lc3
    split
    · rename_i q
      obtain ⟨q1, q2, q3⟩ := q
      refine ps_mono (ps_setLc k.calm (by rw [k.names]; exact k.nd) hN hy (by rw [swB_eq k.scope, hsw]) (si_src (m := false) k.toXk gk h tg iter) (blkOk_by (by rw [k.names, k.scope]; exact q1)) (fun s H Ca cl fp => ((tgt_snd (Xs.blk k.toXk s H scope cl Ca fp) 20).1 tg).p)
        (fun s H Ca cl fp => st_ifs (h2 (k.toXk.blk s H scope cl Ca fp) (gk.blk ..)) ifs) (fun s H Ca cl fp => (h2 (k.toXk.blk s H scope cl Ca fp) (gk.blk ..) elt).v) ?_) fun D σ H hq => ?_
      · intro x
        cases iter <;> first | rfl | (simp [isSet] at q3; done)
      · refine t_lc ((tgt_ok 20).1 tg) (fun j hj => ?_) hq
        have := List.all_eq_true.mp q2 j hj
        simpa using this
    · exact ⟨fun pins s σ H D I ⟨P, st, R, q⟩ => q.elim⟩
/-- x = e -/
def setN (G : Gk S) (N : List Str) (sc : Scope) (ow : List Str) (n : Nat) (x : Str) (e : Expr) : ExF S := match slotOf N x with
  | some i => if locB sc x = true then (match e with
    | .ListComp elt [⟨tg, iter, ifs, a⟩] scope _ => if a = 0 then (if ow.contains x = true then ownS i (lc3 N sc scope (evB G N n sc) (evB G N n (rl scope sc)) elt tg iter ifs) else asgS (lc3 N sc scope (evB G N n sc) (evB G N n (rl scope sc)) elt tg iter ifs) (tgName N sc x)) else stuckS
    | e => if isComp e = true then stuckS else if ow.contains x = true ∧ (evB G N n sc e).fr = true then ownS i (evB G N n sc e).v else asgS (evB G N n sc e).v (tgName N sc x)) else stuckS
  | none => stuckS
theorem sx_setN {G : Gk S} {N : List Str} {sc : Scope} (k : Xd C W X N sc) (g : GkOk C X G) (ow : List Str) (n : Nat) (x : Str) (e : Expr) (px pos : Pos) (hw : swappedStores [.Name x px] e X.env = pure none) : PS X (.Assign [.Name x px] e pos) (tS C W (setN G N sc ow n x e)) := by
  have h : ∀ e, Snd C W X e (evB G N n sc e) := fun e => (ev_ok n k.toXk g e).toSnd
  unfold setN
  split
  · rename_i i hi
    split
    · rename_i hl
      have hN : X.N[i]? = some x := by rw [k.names]; exact slotOf_some hi
      obtain ⟨hL, hF⟩ := k.s.loc x hl
      split
      · split
        · subst_vars
          split
          · exact ps_mono (ps_lcAsg k g h (fun k' g' e => (ev_ok n k' g' e).toSnd) _ _ _ _ _ px pos x i hi hl) fun D σ H q => t_own q
          · exact ps_mono (ps_lcAsg k g h (fun k' g' e => (ev_ok n k' g' e).toSnd) _ _ _ _ _ px pos x i hi hl) fun D σ H q => t_valN hi q
        · exact sx_stuck
      · split
        · exact sx_stuck
        · rename_i hc
          have hc := Bool.eq_false_iff.mpr hc
          split
          · rename_i q
            exact ps_mono (ps_set (by rw [k.names]; exact k.nd) hN hL ((h _).f q.2) (swaps_no hc) hF) fun D σ H q => t_own q
          · exact sx_asg (h _).v (sg_name k.s) (sole_no hc) hw rfl
    · exact sx_stuck
  · exact sx_stuck
/-! ### a, b = x, y and a, b, c = x, y, z -/
def azs (f : Expr → Sem3 S) (ow : List Str) : List (Str × Expr) → List Bool × EvL' S
  | [] => ([], nilA)
  | (x, e) :: r => ((ow.contains x && (f e).fr) :: (azs f ow r).1, consA (f e).v (azs f ow r).2)
theorem sa_azs {f : Expr → Sem3 S} (h : ∀ e, Snd C W X e (f e)) (ow : List Str) : ∀ l : List (Str × Expr), (l.map (·.2)).all (fun e => !isStar e) = true → PA X (l.map (·.2)) (tAZ C W (azs f ow l).1 (azs f ow l).2)
  | [], _ => saz_nil
  | (x, e) :: r, hs => by
    simp only [List.map_cons, List.all_cons, Bool.and_eq_true, Bool.not_eq_true'] at hs
    unfold azs
    cases q : (ow.contains x && (f e).fr) with
    | true =>
      simp only [Bool.and_eq_true] at q
      exact saz_own ((h e).f q.2) (sa_azs h ow r hs.2) hs.1
    | false => exact saz_val (h e).v (sa_azs h ow r hs.2) hs.1
theorem tAZ.mono {os : List Bool} {f : EvL' S} {σ : L2.St} {H : Hp} {Q Q' : List V → Hp → Prop} (h : tAZ C W os f σ H Q) (i : ∀ vs H', Q vs H' → Q' vs H') : tAZ C W os f σ H Q' := by
  obtain ⟨P, s, R, q⟩ := h
  exact ⟨P, s, R, q.mono fun ds s' H' _ _ k vs rs h1 h2 h3 h4 => i vs H' (k vs rs h1 h2 h3 h4)⟩
def par3 (N : List Str) (sc : Scope) (f : Expr → Sem3 S) (ow : List Str) (names : List Str) (ts vs : List Expr) : ExF S := match ts, vs with
  | [.Name x _, .Name y _], [a, b] => match slotOf N x, slotOf N y with
    | some i, some j => if names = [x, y] ∧ i ≠ j ∧ sc.names.lookup x = some .local ∧ sc.names.lookup y = some .local ∧ isStar a = false ∧ isStar b = false then parS (List.zip [i, j] (azs f ow [(x, a), (y, b)]).1) (azs f ow [(x, a), (y, b)]).2 else stuckS
    | _, _ => stuckS
  | [.Name x _, .Name y _, .Name z _], [a, b, c] => match slotOf N x, slotOf N y, slotOf N z with
    | some i, some j, some l => if names = [x, y, z] ∧ i ≠ j ∧ i ≠ l ∧ j ≠ l ∧ sc.names.lookup x = some .local ∧ sc.names.lookup y = some .local ∧ sc.names.lookup z = some .local ∧ isStar a = false ∧ isStar b = false ∧ isStar c = false then parS (List.zip [i, j, l] (azs f ow [(x, a), (y, b), (z, c)]).1) (azs f ow [(x, a), (y, b), (z, c)]).2 else stuckS
    | _, _, _ => stuckS
  | _, _ => stuckS
theorem sx_par3 {N : List Str} {sc : Scope} {f : Expr → Sem3 S} (k : Xd C W X N sc) (h : ∀ e, Snd C W X e (f e)) (ow : List Str) (ts vs : List Expr) (kt k2 : Nat) (pt pt2 pos : Pos) (names : List Str) (hw : swappedStores [.Tuple ts kt pt] (.Tuple vs k2 pt2) X.env = pure (some names)) :
    PS X (.Assign [.Tuple ts kt pt] (.Tuple vs k2 pt2) pos) (tS C W (par3 N sc f ow names ts vs)) := by
  unfold par3
  split
  · rename_i x px y py a b
    split
    · rename_i i j hi hj
      split
      · rename_i q
        obtain ⟨rfl, q1, q2, q3, q4, q5⟩ := q
        refine ps_mono (ps_par k.calm (by rw [k.names]; exact k.nd) (by rw [k.names]; exact slotOf_some hi) (by rw [k.names]; exact slotOf_some hj) q1 (by rw [k.scope]; exact q2) (by rw [k.scope]; exact q3) (sa_azs h ow [(x, a), (y, b)] (by simp [q4, q5])) hw rfl) fun D σ H hq => ?_
        refine tAZ.mono (t_par hq) fun vs H' ⟨hl, hx⟩ => ?_
        match vs, hl with
        | [v, w], _ => exact ⟨v, w, rfl, hx⟩
      · exact sx_stuck
    · exact sx_stuck
  · rename_i x px y py z pz a b c
    split
    · rename_i i j l hi hj hl
      split
      · rename_i q
        obtain ⟨rfl, q1, q2, q3, q4, q5, q6, q7, q8, q9⟩ := q
        refine ps_mono (ps_par3 k.calm (by rw [k.names]; exact k.nd) (by rw [k.names]; exact slotOf_some hi) (by rw [k.names]; exact slotOf_some hj) (by rw [k.names]; exact slotOf_some hl) q1 q2 q3 (by rw [k.scope]; exact q4) (by rw [k.scope]; exact q5) (by rw [k.scope]; exact q6) (sa_azs h ow [(x, a), (y, b), (z, c)] (by simp [q7, q8, q9])) hw rfl) fun D σ H hq => ?_
        refine tAZ.mono (t_par hq) fun vs H' ⟨hl, hx⟩ => ?_
        match vs, hl with
        | [u, v, w], _ => exact ⟨u, v, w, rfl, hx⟩
      · exact sx_stuck
    · exact sx_stuck
  · exact sx_stuck
/-! ### methods of own lists -/
theorem nd_of {N : List Str} {sc : Scope} (k : Xd C W X N sc) : X.N.Nodup := by rw [k.names]; exact k.nd
/-- x, an own list in slot i -/
def okN (N : List Str) (sc : Scope) (x : Str) : Option Nat := match slotOf N x with
  | some i => if visB sc x && x != ("__debug__" : Str) && x != ("__classdict__" : Str) then some i else none
  | none => none
theorem pe_okN {N : List Str} {sc : Scope} (k : Xk C W X N sc) {x : Str} {i : Nat} {pos : Pos} (h : okN N sc x = some i) : PE X (.Name x pos) (tVar i) := by
  unfold okN at h
  split at h
  · rename_i j e
    split at h
    · rename_i c
      cases h
      simp only [Bool.and_eq_true, bne_iff_ne, ne_eq] at c
      exact pe_var (by rw [k.names]; exact slotOf_some e) (by rw [k.scope]; exact visB_ok c.1.1) (by simpa using c.1.2) (by simpa using c.2)
    · cases h
  · cases h
/-- x.append(e) -/
def appS (i : Nat) (f : EvF S) : ExF S := fun ρ s => match ρ[i]? with
  | some (.own ds) => thenS ρ (f ρ s) fun d s1 => if ds.length < sizeLine then .nxt (ρ.set i (.own (ds ++ [d]))) s1 else .stuck
  | _ => .stuck
theorem sx_app {N : List Str} {sc : Scope} (k : Xd C W X N sc) {x : Str} {i : Nat} {e : Expr} {p ap cp pos : Pos} {f : EvF S} (hi : okN N sc x = some i) (hs : isStar e = false) (hl : (ap.endLine == cp.line) = true) (he : PE X e (tP C W f)) :
    PS X (.Expr (.Call (.Attribute (.Name x p) "append" ap) [e] [] cp) pos) (tS C W (appS i f)) := by
  have hb : (((backTo cp (starEach [e] X.env)).all fun x => !x.1) && (backToKw cp (keywordEach [] X.env)).all fun x => x.1.isSome) && decide (([e].length + ([] : List Keyword).length + if ([] : List Keyword).isEmpty = true then 0 else 1) < 30) = true := by
    rw [star_no hs]; rfl
  refine ps_mono (ps_expr (pe_bm PySem.F.plainAttrs_list PySem.F.slot_list_append PySem.F.type_list_append mt_append (pe_okN k.toXk hi) (pa_cons he pa_nil (star_no hs)) rfl hb hl (star_no hs) (star_back (by rfl))) rfl) fun D σ H ⟨P, s, R, q⟩ => ?_
  unfold appS at q
  split at q
  · rename_i ds hd
    have o : OwnOk C P σ H s i ds := R.slot i _ hd
    obtain ⟨vs, h1, h2⟩ := o.is
    refine ⟨_, o.at_, .inl ⟨rfl, vs, .inl (.inl h1)⟩, P, s, R, q.run.mono fun d s1 H1 R1 x1 q1 v rv => ?_⟩
    have o1 : OwnOk C P σ H1 s1 i ds := R1.slot i _ hd
    obtain ⟨ws, g1, g2⟩ := o1.is
    split at q1
    · rename_i hz
      obtain ⟨w1, w2⟩ := R1.write hd (g2.append (.cons rv .nil))
      exact ⟨_, ws, v, rfl, rfl, g1, by rw [g2.length]; exact hz, q1 _ σ _ rfl w1 w2⟩
    · exact q1.elim
  · exact q.elim
/-- x[j] = e -/
def setItemS (i : Nat) (fe fj : EvF S) : ExF S := fun ρ s => match ρ[i]? with
  | some (.own ds) => thenS ρ (fe ρ s) fun d s1 => thenS ρ (fj ρ s1) fun j s2 => match j with
    | .int z => (match ixN ds.length z with
      | some n => .nxt (ρ.set i (.own (ds.set n d))) s2
      | none => .stuck)
    | _ => .stuck
  | _ => .stuck
theorem sx_setItem {N : List Str} {sc : Scope} (k : Xd C W X N sc) {x : Str} {i : Nat} {j e : Expr} {p tp pos : Pos} {fe fj : EvF S} (hi : okN N sc x = some i) (hc : isComp e = false) (hj : isSlice j = false) (hw : swappedStores [.Subscript (.Name x p) j tp] e X.env = pure none) (he : PE X e (tP C W fe)) (hjj : PE X j (tK C W fj)) :
    PS X (.Assign [.Subscript (.Name x p) j tp] e pos) (tS C W (setItemS i fe fj)) := by
  refine ps_mono (ps_asg he (pg_sub (pe_okN k.toXk hi) hjj set_list (by intro v; cases j <;> first | rfl | (simp [isSlice] at hj; done))) (sole_no hc) hw rfl) fun D σ H ⟨P, s, R, q⟩ => ?_
  unfold setItemS at q
  split at q
  · rename_i ds hd
    refine ⟨P, s, R, q.run.mono fun d s1 H1 R1 x1 q1 v rv => ?_⟩
    have o1 : OwnOk C P σ H1 s1 i ds := R1.slot i _ hd
    refine ⟨_, o1.at_, P, s1, R1, q1.run.mono fun z s2 H2 R2 x2 q2 w tw => ?_⟩
    have o2 : OwnOk C P σ H2 s2 i ds := R2.slot i _ hd
    obtain ⟨ws, g1, g2⟩ := o2.is
    cases z with
    | int z =>
      dsimp only at q2
      split at q2
      · rename_i n hn
        obtain ⟨w1, w2⟩ := R2.write hd (g2.set (rv.xt x2 R1.st) n)
        exact ⟨_, ws, z, n, rfl, top_int tw, g1, by rw [g2.length]; exact hn, q2 _ σ _ rfl w1 w2⟩
      · exact q2.elim
    | _ => exact q2.elim
  · exact q.elim
/-- x += e, of ints -/
def augI : Operator → Int → Int → Option Int
  | .Add, i, j => some (i + j)
  | .Sub, i, j => some (i - j)
  | _, _, _ => none
def augS (i : Nat) (op : Operator) (f : EvF S) : ExF S := fun ρ s => match ρ[i]? with
  | some (.val (.int a)) => thenS ρ (f ρ s) fun d s1 => match d with
    | .int b => (match augI op a b with
      | some c => .nxt (ρ.set i (.val (.int c))) s1
      | none => .stuck)
    | _ => .stuck
  | _ => .stuck
theorem sx_aug {N : List Str} {sc : Scope} (k : Xd C W X N sc) {x : Str} {i : Nat} {op : Operator} {e : Expr} {p pos : Pos} {f : EvF S} (ho : op = .Add ∨ op = .Sub) (hi : slotOf N x = some i) (hl : locB sc x = true) (he : PE X e (tK C W f)) : PS X (.AugAssign (.Name x p) op e pos) (tS C W (augS i op f)) := by
  have hN : X.N[i]? = some x := by rw [k.names]; exact slotOf_some hi
  obtain ⟨hL, hF⟩ := k.s.loc x hl
  have main : ∀ (g : Int → Int → Int), PIp X op (ipI g) → (∀ a b, augI op a b = some (g a b)) → PS X (.AugAssign (.Name x p) op e pos) (tS C W (augS i op f)) := by
    intro g hp hg
    refine ps_mono (ps_aug (nd_of k) hN hL he hp hF) fun D σ H ⟨P, s, R, q⟩ => ?_
    unfold augS at q
    split at q
    · rename_i a hd
      obtain ⟨v, e1, e2⟩ := R.slot i _ hd
      have := rp_int e2
      subst this
      refine ⟨_, e1, P, s, R, q.run.mono fun d s1 H1 R1 x1 q1 w tw => ?_⟩
      cases d with
      | int b =>
        dsimp only at q1
        rw [hg] at q1
        dsimp only at q1
        exact ⟨a, b, rfl, top_int tw, q1 { P with ρ := P.ρ.set i (.val (.int (g a b))) } _ H1 rfl (R1.setVal (.int _) (List.getElem?_eq_some_iff.mp hd).1) stp_setVal⟩
      | _ => exact q1.elim
    · exact q.elim
  rcases ho with rfl | rfl
  · exact main _ ip_add fun _ _ => rfl
  · exact main _ ip_sub fun _ _ => rfl
end
end Q

/-! Lay18: loops. -/
namespace Q
open PySem L2
section
variable {S : Type} {C : Cn S} {W : L2.WX} {X : Cx}
/-! ### locks -/
def unlO (i : Nat) : Out S → Out S
  | .nxt ρ s => .nxt (unlAt ρ i) s
  | .brk ρ s => .brk (unlAt ρ i) s
  | .cnt ρ s => .cnt (unlAt ρ i) s
  | .err x ρ s => .err x (unlAt ρ i) s
  | .ret fr d s => .ret fr d s
  | .stuck => .stuck
def lock1 (i : Nat) (f : ExF S) : ExF S := fun ρ s => match ρ[i]? with
  | some (.own ds) => unlO i (f (ρ.set i (.lck ds)) s)
  | _ => f ρ s
/-- slot i, locked or unlocked: what is there has the same places -/
theorem root_sw {P : Pt} {i : Nat} {sl sl' : Sl} {ds es : List D} (e : P.ρ[i]? = some sl) (q : isOwn sl = some ds) (q' : isOwn sl' = some es) {a : Addr} (h : ({ P with ρ := P.ρ.set i sl' } : Pt).root a) : P.root a := by
  obtain ⟨j, s2, fs, e1, e2, e3⟩ := h
  have e1' : (P.ρ.set i sl')[j]? = some s2 := e1
  by_cases hj : i = j
  · subst hj; exact ⟨i, _, ds, e, q, e3⟩
  · rw [List.getElem?_set_ne hj] at e1'; exact ⟨j, s2, fs, e1', e2, e3⟩
theorem Rel.unl {P' : Pt} {σ : L2.St} {H' : Hp} {s' : S} (i : Nat) (R : Rel C P' σ H' s') : Rel C { P' with ρ := unlAt P'.ρ i } σ H' s' := by
  unfold unlAt
  split
  · rename_i ds e; exact R.swap e rfl rfl
  · exact R
theorem stp_unl {T : StK S} {P P' : Pt} {s s' : S} {H H' : Hp} {i : Nat} {ds : List D} (e : P.ρ[i]? = some (.own ds)) (x : Stp T { P with ρ := P.ρ.set i (.lck ds) } s H P' s' H') : Stp T P s H { P' with ρ := unlAt P'.ρ i } s' H' := by
  have hi : i < P.ρ.length := (List.getElem?_eq_some_iff.mp e).1
  have rt : ∀ {a}, ({ P with ρ := P.ρ.set i (.lck ds) } : Pt).root a → P.root a := fun h => root_sw e rfl rfl h
  have mrt : ∀ {a}, ({ P with ρ := P.ρ.set i (.lck ds) } : Pt).mroot a → P.mroot a := fun {a} h => by
    obtain ⟨j, fs, e1, e3⟩ := h
    have e1' : (P.ρ.set i (.lck ds))[j]? = some (.own fs) := e1
    by_cases hj : i = j
    · subst hj; rw [List.getElem?_set_self hi] at e1'; cases e1'
    · rw [List.getElem?_set_ne hj] at e1'; exact ⟨j, fs, e1', e3⟩
  have urt : ∀ {a}, ({ P' with ρ := unlAt P'.ρ i } : Pt).root a → P'.root a := fun {a} h => by
    unfold unlAt at h
    split at h
    · rename_i es e'; exact root_sw e' rfl rfl h
    · exact h
  have unr : ∀ {j es}, (unlAt P'.ρ i)[j]? = some (.own es) → P'.ρ[j]? = some (.own es) ∨ (j = i ∧ ∃ fs, P'.ρ[i]? = some (.lck fs)) := fun {j es} h => by
    unfold unlAt at h
    split at h
    · rename_i fs e'
      by_cases hj : i = j
      · exact .inr ⟨hj.symm, fs, e'⟩
      · rw [List.getElem?_set_ne hj] at h; exact .inl h
    · exact .inl h
  have unk : ∀ {j es}, (unlAt P'.ρ i)[j]? = some (.lck es) → j ≠ i ∧ P'.ρ[j]? = some (.lck es) := fun {j es} h => by
    unfold unlAt at h
    split at h
    · rename_i fs e'
      by_cases hj : i = j
      · subst hj; rw [List.getElem?_set_self (List.getElem?_eq_some_iff.mp e').1] at h; cases h
      · rw [List.getElem?_set_ne hj] at h; exact ⟨Ne.symm hj, h⟩
    · rename_i hn
      refine ⟨fun q => ?_, h⟩
      subst q
      exact hn _ h
  refine ⟨fun a o h n m => x.keep a o h n fun q => m (mrt q), x.live, x.grow, fun a h => (x.rgrow a (urt h)).imp rt id, fun a h => ?_, x.zs, fun j es h => ?_⟩
  · obtain ⟨j, es, h1, h2⟩ := h
    rcases unr h1 with h1 | ⟨rfl, fs, h1⟩
    · exact (x.mgrow a ⟨j, es, h1, h2⟩).imp mrt id
    · obtain ⟨_, hr⟩ := x.lk j fs h1
      exact .inl ⟨j, ds, e, hr.symm.trans h2⟩
  · obtain ⟨hj, h1⟩ := unk h
    obtain ⟨⟨fs, h2⟩, h3⟩ := x.lk j es h1
    have h2' : (P.ρ.set i (.lck ds))[j]? = some (.lck fs) := h2
    rw [List.getElem?_set_ne (Ne.symm hj)] at h2'
    exact ⟨⟨fs, h2'⟩, h3⟩
theorem RX.at {P P' : Pt} {s : S} {H : Hp} {x : Exn} {cls : Value} {dd : Option Addr} (h : RX C (Fc C P s) H x cls dd) (hi : ∀ a, Fc C P s a → Fc C P' s a) : RX C (Fc C P' s) H x cls dd := by
  obtain ⟨c, h1, h2, h3, h4⟩ := h
  refine ⟨c, h1, h2, h3, fun n => ?_⟩
  obtain ⟨dx, vs, e1, e2, e3⟩ := h4 n
  exact ⟨dx, vs, e1, e2, e3.wk fun a f _ => hi a f⟩
theorem sx_lock {st : Stmt} {f : ExF S} (i : Nat) (h : PS X st (tS C W f)) : PS X st (tS C W (lock1 i f)) := ps_mono h fun Dn σ H ⟨P, s, R, q⟩ => by
  unfold lock1 at q
  split at q
  · rename_i ds e
    refine ⟨{ P with ρ := P.ρ.set i (.lck ds) }, s, R.swap e rfl rfl, ?_⟩
    dsimp only
    cases o : f (P.ρ.set i (.lck ds)) s with
    | nxt ρ' s' =>
      rw [o] at q
      exact fun P' σ' H' ep R' x => q { P' with ρ := unlAt P'.ρ i } σ' H' (by rw [← ep]) (R'.unl i) (stp_unl e x)
    | brk ρ' s' =>
      rw [o] at q
      exact fun P' σ' H' ep R' x => q { P' with ρ := unlAt P'.ρ i } σ' H' (by rw [← ep]) (R'.unl i) (stp_unl e x)
    | cnt ρ' s' =>
      rw [o] at q
      exact fun P' σ' H' ep R' x => q { P' with ρ := unlAt P'.ρ i } σ' H' (by rw [← ep]) (R'.unl i) (stp_unl e x)
    | err y ρ' s' =>
      rw [o] at q
      refine fun P' σ' c dd H' ep R' x rx => q { P' with ρ := unlAt P'.ρ i } σ' c dd H' (by rw [← ep]) (R'.unl i) (stp_unl e x) (rx.at fun a fa => ?_)
      refine ⟨fa.1, fun z => fa.2.1 ?_, fa.2.2.1, fa.2.2.2⟩
      unfold unlAt at z
      split at z
      · rename_i es e'; exact root_sw e' rfl rfl z
      · exact z
    | ret fr d s' => rw [o] at q; exact q
    | stuck => rw [o] at q; exact q
  · exact ⟨P, s, R, q⟩
def lockS : List Nat → ExF S → ExF S
  | [], f => f
  | i :: is, f => lock1 i (lockS is f)
theorem sx_locks {st : Stmt} {f : ExF S} (h : PS X st (tS C W f)) : ∀ is, PS X st (tS C W (lockS is f))
  | [] => h
  | i :: is => sx_lock i (sx_locks h is)
/-! ### while -/
def whileGo (c : EvT' S) (body : ExF S) : Nat → ExF S
  | 0 => stuckS
  | n + 1 => fun ρ s => thenS ρ (c ρ s) fun b s1 => if b = true then (match body ρ s1 with
    | .nxt ρ2 s2 => whileGo c body n ρ2 s2
    | .cnt ρ2 s2 => whileGo c body n ρ2 s2
    | .brk ρ2 s2 => .nxt ρ2 s2
    | o => o) else .nxt ρ s1
theorem sx_while {N : List Str} {sc : Scope} (k : Xd C W X N sc) {c : Expr} {body : List Stmt} {pos : Pos} {h : EvT' S} {f : ExF S} (hc : PT X c (tT C W h)) (hb : PSs X body (tS C W f)) (n : Nat) : PS X (.While c body [] pos) (tS C W (whileGo h f n)) := by
  refine ps_mono (ps_while k.own hc hb) fun D σ H q => ?_
  refine ⟨fun m σ H => tS C W (whileGo h f m) D σ H, ⟨n, q⟩, fun m σ H q => ?_⟩
  obtain ⟨P, s, R, q⟩ := q
  cases m with
  | zero => exact q.elim
  | succ m =>
    refine ⟨P, s, R, (RunS.run (σ := σ) q).mono fun b s1 H1 R1 x1 q1 => ?_⟩
    cases b with
    | true =>
      rw [if_pos rfl]
      rw [if_pos rfl] at q1
      refine ⟨fun σ' H' => tS C W (whileGo h f m) D σ' H', fun σ' H' z => ⟨m, Nat.lt_succ_self _, z⟩, P, s1, R1, ?_⟩
      cases o : f P.ρ s1 with
      | nxt ρ2 s2 => rw [o] at q1; exact fun P' σ' H' ep R' x => ⟨P', s2, R', by rw [ep]; exact RunS.step q1 x⟩
      | cnt ρ2 s2 => rw [o] at q1; exact fun P' σ' H' ep R' x => ⟨P', s2, R', by rw [ep]; exact RunS.step q1 x⟩
      | brk ρ2 s2 => rw [o] at q1; exact q1
      | ret fr d s2 => rw [o] at q1; exact q1
      | err y ρ2 s2 => rw [o] at q1; exact q1
      | stuck => rw [o] at q1; exact q1
    | false =>
      rw [if_neg Bool.false_ne_true]
      rw [if_neg Bool.false_ne_true] at q1
      exact q1 P σ H1 rfl R1 Stp.refl
/-! ### for -/
def forGo (g : D → List Sl → Option (List Sl)) (body : ExF S) : List D → ExF S
  | [] => nextS
  | d :: ds => fun ρ s => match g d ρ with
    | none => .stuck
    | some ρ1 => (match body ρ1 s with
      | .nxt ρ2 s2 => forGo g body ds ρ2 s2
      | .cnt ρ2 s2 => forGo g body ds ρ2 s2
      | .brk ρ2 s2 => .nxt ρ2 s2
      | o => o)
def forS (it : EvL' S) (g : D → List Sl → Option (List Sl)) (body : ExF S) : ExF S := fun ρ s => thenS ρ (it ρ s) fun ds s1 => forGo g body ds ρ s1
theorem sx_for {N : List Str} {sc : Scope} (k : Xd C W X N sc) {tg iter : Expr} {body : List Stmt} {pos : Pos} {it : EvL' S} {ts : List Nat} {g : D → List Sl → Option (List Sl)} {f : ExF S} (hi : PI X tg iter (tI true C W it)) (hg : PG X tg (tG C ts g)) (hb : PSs X body (tS C W f)) (hs : isSet iter = false) : PS X (.For tg iter body [] pos) (tS C W (forS it g f)) := by
  refine ps_mono (ps_for k.own k.calm hi hg hb (by intro x; cases iter <;> first | rfl | (simp [isSet] at hs; done))) fun D σ H ⟨P, s, R, q⟩ => ⟨P, s, R, (RunS.run (σ := σ) q).mono fun ds s1 H1 R1 x1 q1 J wm => ?_⟩
  refine ⟨fun i m σ' H' => m = ds.length - i ∧ i ≤ ds.length ∧ ∃ P' s', Rel C P' σ' H' s' ∧ Stp C.T P s1 H1 P' s' H' ∧ RunS C W P' H' s' (forGo g f (ds.drop i) P'.ρ s') D, ⟨_, rfl, Nat.zero_le _, P, s1, R1, Stp.refl, q1⟩, ?_⟩
  rintro i m σ' H' ⟨rfl, hl, P', s', R', x', q'⟩
  by_cases he : i = ds.length
  · left
    subst he
    refine ⟨wm.stop P' s' H' x' R'.st, ?_⟩
    rw [List.drop_length] at q'
    exact q' P' σ' H' rfl R' Stp.refl
  · right
    have hlt : i < ds.length := Nat.lt_of_le_of_ne hl he
    have hd : ds[i]? = some ds[i] := List.getElem?_eq_getElem hlt
    obtain ⟨go, yl⟩ := wm.go i _ P' s' H' hd x' R'.st
    rw [List.drop_eq_getElem_cons hlt] at q'
    refine ⟨go, fun σ2 H2 => ∃ P2 s2, Rel C P2 σ2 H2 s2 ∧ Stp C.T P s1 H1 P2 s2 H2 ∧ RunS C W P2 H2 s2 (forGo g f (ds.drop (i + 1)) P2.ρ s2) D, fun σ2 H2 z => ⟨_, by omega, rfl, hlt, z⟩, fun x H3 y => ?_⟩
    obtain ⟨x3, st3, r3⟩ := yl x H3 y
    have R3 : Rel C P' σ' H3 s' := R'.xt x3 st3
    unfold forGo at q'
    split at q'
    · exact q'.elim
    · rename_i ρ1 e1
      refine ⟨P', s', _, ρ1, R3, r3.wk fun a fa _ => fa.1, e1, fun σ4 R4 x4 _ => ⟨_, s', R4, ?_⟩⟩
      have x14 := x'.trans (x3.stp.trans x4)
      dsimp only
      cases o : f ρ1 s' with
      | nxt ρ2 s2 =>
        rw [o] at q'
        exact fun P5 σ5 H5 ep R5 x5 => ⟨P5, s2, R5, x14.trans x5, by rw [ep]; exact RunS.step q' (x3.stp.trans (x4.trans x5))⟩
      | cnt ρ2 s2 =>
        rw [o] at q'
        exact fun P5 σ5 H5 ep R5 x5 => ⟨P5, s2, R5, x14.trans x5, by rw [ep]; exact RunS.step q' (x3.stp.trans (x4.trans x5))⟩
      | brk ρ2 s2 =>
        rw [o] at q'
        exact fun P5 σ5 H5 ep R5 x5 => q' P5 σ5 H5 ep R5 (x3.stp.trans (x4.trans x5))
      | ret fr d s2 => rw [o] at q'; exact q'
      | err z ρ2 s2 =>
        rw [o] at q'
        exact fun P5 σ5 c dd H5 ep R5 x5 rx => q' P5 σ5 c dd H5 ep R5 (x3.stp.trans (x4.trans x5)) rx
      | stuck => rw [o] at q'; exact q'
end
end Q

/-! Lay19: the run of statements. -/
namespace Q
open PySem L2
/-! ### names that a statement hands on as values -/
def unstar : Expr → Expr
  | .Starred e _ => e
  | e => e
mutual
def escE (cal : Str → Bool) : Nat → Expr → List Str
  | 0, _ => []
  | n + 1, e => match e with
    | .Name x _ => [x]
    | .BinOp a _ b _ => escP cal n a ++ escP cal n b
    | .Compare a _ bs _ => escP cal n a ++ bs.flatMap (escP cal n)
    | .BoolOp _ vs _ => vs.flatMap (escE cal n)
    | .UnaryOp _ a _ => escP cal n a
    | .IfExp c a b _ => escT cal n c ++ escE cal n a ++ escE cal n b
    | .Tuple es _ _ => es.flatMap fun e => if isStar e = true then escP cal n (unstar e) else escE cal n e
    | .List es _ => es.flatMap fun e => if isStar e = true then escP cal n (unstar e) else escE cal n e
    | .Subscript a i _ => escP cal n a ++ escP cal n i
    | .Slice lo hi _ _ => (lo.toList ++ hi.toList).flatMap (escP cal n)
    | .Call (.Name f _) as _ _ => if cal f = true then as.flatMap (escE cal n) else as.flatMap (escP cal n)
    | .Call (.Attribute _ _ _) as _ _ => as.flatMap (escE cal n)
    | .ListComp elt gs _ _ => escE cal n elt ++ gs.flatMap fun g => escP cal n g.iter ++ g.ifs.flatMap (escT cal n)
    | _ => []
def escP (cal : Str → Bool) : Nat → Expr → List Str
  | 0, _ => []
  | n + 1, e => match e with
    | .Name _ _ => []
    | e => escE cal n e
def escT (cal : Str → Bool) : Nat → Expr → List Str
  | 0, _ => []
  | n + 1, e => match e with
    | .Name _ _ => []
    | .BoolOp _ vs _ => vs.flatMap (escT cal n)
    | .UnaryOp .Not a _ => escT cal n a
    | e => escE cal n e
end
/-- the names that are walked -/
def walked : Expr → List Str
  | .Name x _ => [x]
  | .Call (.Name _ _) as _ _ => as.flatMap fun
    | .Name x _ => [x]
    | _ => []
  | _ => []
def slots (N : List Str) (xs : List Str) : List Nat := (xs.filterMap (slotOf N)).eraseDups
section
variable {S : Type} {C : Cn S} {W : L2.WX} {X : Cx}
/-- what a def's statements need to know -/
structure Dk (S : Type) where
  G : Gk S
  N : List Str
  sc : Scope
  ow : List Str
  wf : Nat
  st : Stmt → Option (ExF S) := fun _ => none
def StOk (C : Cn S) (W : L2.WX) (X : Cx) (K : Dk S) : Prop := ∀ st f, K.st st = some f → PS X st (tS C W f)
theorem stOk_no {K : Dk S} (h : ∀ st, K.st st = none) : StOk C W X K := fun st f q => by
  rw [h] at q
  cases q
def Dk.ev (K : Dk S) (e : Expr) : Sem3 S := evB K.G K.N 40 K.sc e
def Dk.rE (K : Dk S) (e : Expr) : List Nat := slots K.N (escE (fun x => (K.G.cal x).isSome) 80 e)
def Dk.rT (K : Dk S) (e : Expr) : List Nat := slots K.N (escT (fun x => (K.G.cal x).isSome) 80 e)
def Dk.rP (K : Dk S) (e : Expr) : List Nat := slots K.N (escP (fun x => (K.G.cal x).isSome) 80 e)
def retS (K : Dk S) : Option Expr → ExF S
  | none => retNone
  | some e => match e with
    | .Name x _ => if visB K.sc x = true then retN K.N K.sc x else retV false (K.ev e).v
    | e => relS' (K.rE e) (if (K.ev e).fr = true then retV true (K.ev e).v else retV false (K.ev e).v)
theorem sx_rets {K : Dk S} (k : Xd C W X K.N K.sc) (g : GkOk C X K.G) (o : Option Expr) (pos : Pos) : PS X (.Return o pos) (tS C W (retS K o)) := by
  have h : ∀ e, Snd C W X e (K.ev e) := fun e => (ev_ok 40 k.toXk g e).toSnd
  unfold retS
  split
  · exact sx_retNone
  · split
    · split
      · exact sx_retN k.toXk _ _ _
      · exact sx_ret (h _).v
    · refine sx_rel _ ?_
      split
      · rename_i q; exact sx_retF ((h _).f q)
      · exact sx_ret (h _).v
def asg1 (K : Dk S) (tg e : Expr) : ExF S := match sws K.sc tg e with
  | none => stuckS
  | some none => (match tg with
    | .Name x _ => relS' (K.rE e) (setN K.G K.N K.sc K.ow 40 x e)
    | .Subscript (.Name x _) j _ => if isComp e = true ∨ isSlice j = true then stuckS else (match okN K.N K.sc x with
      | some i => relS' (K.rE e ++ K.rP j) (setItemS i (K.ev e).v (pk K.N K.sc K.ev j))
      | none => stuckS)
    | .Tuple ts kd p => if isComp e = true then stuckS else relS' (K.rE e) (asgS (K.ev e).v (tgt K.N K.sc 20 (.Tuple ts kd p)).g)
    | _ => stuckS)
  | some (some names) => (match tg, e with
    | .Tuple ts _ _, .Tuple vs _ _ => relS' (K.rE e) (par3 K.N K.sc K.ev K.ow names ts vs)
    | _, _ => stuckS)
theorem sx_asg1 {K : Dk S} (k : Xd C W X K.N K.sc) (g : GkOk C X K.G) (tg e : Expr) (pos : Pos) : PS X (.Assign [tg] e pos) (tS C W (asg1 K tg e)) := by
  have h : ∀ e, Snd C W X e (K.ev e) := fun e => (ev_ok 40 k.toXk g e).toSnd
  unfold asg1
  split
  · exact sx_stuck
  · rename_i hs
    have hw := sws_ok k.scope hs
    split
    · exact sx_rel _ (sx_setN k g _ 40 _ _ _ _ hw)
    · split
      · exact sx_stuck
      · rename_i q
        simp only [not_or, Bool.not_eq_true] at q
        split
        · rename_i i hi
          exact sx_rel _ (sx_setItem k hi q.1 q.2 hw (h _).v (sd_pk k.toXk h _))
        · exact sx_stuck
    · split
      · exact sx_stuck
      · rename_i q
        exact sx_rel _ (sx_asg (h _).v ((tgt_snd k.s 20).1 _).p (sole_no (Bool.eq_false_iff.mpr q)) hw rfl)
    · exact sx_stuck
  · rename_i names hs
    have hw := sws_ok k.scope hs
    split
    · exact sx_rel _ (sx_par3 k h _ _ _ _ _ _ _ _ _ hw)
    · exact sx_stuck
def expS (K : Dk S) (e : Expr) : ExF S := match e with
  | .Call (.Attribute (.Name x _) m ap) [a] [] cp => if m = "append" ∧ isStar a = false ∧ (ap.endLine == cp.line) = true then (match okN K.N K.sc x with
    | some i => relS' (K.rE a) (appS i (K.ev a).v)
    | none => stuckS) else stuckS
  | e => if isComp e = true then stuckS else relS' (K.rE e) (dropS (K.ev e).v)
theorem sx_exp {K : Dk S} (k : Xd C W X K.N K.sc) (g : GkOk C X K.G) (e : Expr) (pos : Pos) : PS X (.Expr e pos) (tS C W (expS K e)) := by
  have h : ∀ e, Snd C W X e (K.ev e) := fun e => (ev_ok 40 k.toXk g e).toSnd
  unfold expS
  split
  · split
    · rename_i q
      obtain ⟨rfl, q2, q3⟩ := q
      split
      · rename_i i hi
        exact sx_rel _ (sx_app k hi q2 q3 (h _).v)
      · exact sx_stuck
    · exact sx_stuck
  · split
    · exact sx_stuck
    · rename_i q
      exact sx_rel _ (sx_drop (Bool.eq_false_iff.mpr q) (h _).v)
def aug1 (K : Dk S) (tg : Expr) (op : Operator) (e : Expr) : ExF S := match tg with
  | .Name x _ => if op = .Add ∨ op = .Sub then (match slotOf K.N x with
    | some i => if locB K.sc x = true then relS' (K.rP e) (augS i op (pk K.N K.sc K.ev e)) else stuckS
    | none => stuckS) else stuckS
  | _ => stuckS
theorem sx_aug1 {K : Dk S} (k : Xd C W X K.N K.sc) (g : GkOk C X K.G) (tg : Expr) (op : Operator) (e : Expr) (pos : Pos) : PS X (.AugAssign tg op e pos) (tS C W (aug1 K tg op e)) := by
  have h : ∀ e, Snd C W X e (K.ev e) := fun e => (ev_ok 40 k.toXk g e).toSnd
  unfold aug1
  split
  · split
    · rename_i ho
      split
      · rename_i i hi
        split
        · rename_i hl
          exact sx_rel _ (sx_aug k ho hi hl (sd_pk k.toXk h _))
        · exact sx_stuck
      · exact sx_stuck
    · exact sx_stuck
  · exact sx_stuck
mutual
def exB (K : Dk S) : Nat → Stmt → ExF S
  | 0, _ => stuckS
  | m + 1, st => match K.st st with
    | some f => f
    | none => match st with
    | .Pass _ => nextS
    | .Break _ => brkS
    | .Continue _ => cntS
    | .Return o _ => retS K o
    | .Assign [tg] e _ => asg1 K tg e
    | .AugAssign tg op e _ => aug1 K tg op e
    | .Expr e _ => expS K e
    | .If c a b _ => relS' (K.rT c) (ifS (K.ev c).t (exs K m a) (exs K m b))
    | .While c body [] _ => whileGo (K.ev c).t (exs K m body) K.wf
    | .For tg iter body [] _ => if isSet iter = true then stuckS else lockS (slots K.N (walked iter)) (relS' (K.rP iter) (forS (src true K.N K.sc K.ev tg iter) (tgt K.N K.sc 20 tg).g (exs K m body)))
    | _ => stuckS
def exs (K : Dk S) : Nat → List Stmt → ExF S
  | 0, _ => stuckS
  | m + 1, l => match l with
    | [] => nextS
    | st :: r => seqS (exB K m st) (exs K m r)
end
theorem ex_ok {K : Dk S} (k : Xd C W X K.N K.sc) (g : GkOk C X K.G) (so : StOk C W X K) : ∀ m : Nat, (∀ st, PS X st (tS C W (exB K m st))) ∧ ∀ l, PSs X l (tS C W (exs K m l))
  | 0 => by
    refine ⟨fun st => ?_, fun l => ?_⟩
    · unfold exB; exact sx_stuck
    · unfold exs; exact sxs_stuck
  | m + 1 => by
    obtain ⟨i1, i2⟩ := ex_ok k g so m
    have h : ∀ e, Snd C W X e (K.ev e) := fun e => (ev_ok 40 k.toXk g e).toSnd
    refine ⟨fun st => ?_, fun l => ?_⟩
    · unfold exB
      split
      · rename_i f q; exact so st f q
      rename_i hno
      clear hno
      split
      · exact sx_pass
      · exact sx_brk
      · exact sx_cnt
      · exact sx_rets k g _ _
      · exact sx_asg1 k g _ _ _
      · exact sx_aug1 k g _ _ _ _
      · exact sx_exp k g _ _
      · exact sx_rel _ (sx_if (h _).t (i2 _) (i2 _))
      · exact sx_while k (h _).t (i2 _) _
      · split
        · exact sx_stuck
        · rename_i q
          exact sx_locks (sx_rel _ (sx_for k (si_src k.toXk g h _ _) ((tgt_snd k.s 20).1 _).p (i2 _) (Bool.eq_false_iff.mpr q))) _
      · exact sx_stuck
    · unfold exs
      split
      · exact sxs_nil
      · exact sxs_cons (i1 _) (i2 _)
end
end Q

/-! Lay20: defs by their bodies. -/
namespace Q
open PySem PySem.Spec PyProof.Rows L2
section
variable {S : Type}
def rho0 (N : List Str) (ds : List D) : List Sl := ds.map Sl.val ++ List.replicate (N.length - ds.length) .no
def isL : D → Bool
  | .lst _ => true
  | _ => false
def endR (fr : Bool) : Out S → Res S D
  | .nxt _ s => .ok .non s
  | .ret f d s => if fr = true ∧ f = false ∧ isL d = true then .stuck else .ok d s
  | .err x _ s => .err x s
  | _ => .stuck
/-- a def: its parameters' number, its body's run -/
def runDef (fr : Bool) (K : List D → S → Dk S) (m : Nat) (N : List Str) (np : Nat) (body : List Stmt) : Fn S := ⟨np, fr, fun ds s => endR fr (exs (K ds s) m body (rho0 N ds) s)⟩
/-- a name of the module that is called -/
def CalM (P : Program) (w : World) (K : PySem.W.Frag) (mg : Str → Option Value) (base : Heap) (T : StK S) (cls : Str → Option Addr) (k : Nat) (x : Str) (f : Fn S) : Prop :=
  ∃ (a : Addr) (fd : FuncData) (ps : List Str), FnG P w K mg base (L2.CX P w) k a fd ps (spS K T cls f) ∧ mg x = some (.ref a) ∧ PySem.W.keepIn K (.ref a) = true ∧ Binds K fd ps []
structure GkM (P : Program) (w : World) (K : PySem.W.Frag) (mg : Str → Option Value) (base : Heap) (T : StK S) (cls : Str → Option Addr) (k : Nat) (G : Gk S) : Prop where
  glo : ∀ x d, G.glo x = some d → ∃ v u, mg x = some u ∧ RelV v u ∧ (∀ H F, Rp K H F v d) ∧ ∀ ds, d ≠ .lst ds
  cal : ∀ x f, G.cal x = some f → CalM P w K mg base T cls k x f
  blt : ∀ x ∈ bltNames, mg (Str.ofString x) = none
  spc : ∀ C : Cn S, C.K = K → C.T = T → C.cls = cls → SpOk C G
theorem FnG.mono {P : Program} {w : World} {K : PySem.W.Frag} {mg : Str → Option Value} {base : Heap} {CX : CXT} {j k : Nat} {f : Addr} {fd : FuncData} {ps : List Str} {sp : Sp} (F : FnG P w K mg base CX j f fd ps sp) (h : j ≤ k) : FnG P w K mg base CX k f fd ps sp :=
  ⟨F.len, fun A outer s H args us vs Q E hr => F.run A outer s H args us vs Q E (hr.mono h)⟩
theorem CalM.mono {P : Program} {w : World} {K : PySem.W.Frag} {mg : Str → Option Value} {base : Heap} {T : StK S} {cls : Str → Option Addr} {j k : Nat} {x : Str} {f : Fn S} (c : CalM P w K mg base T cls j x f) (h : j ≤ k) : CalM P w K mg base T cls k x f :=
  let ⟨a, fd, ps, F, r⟩ := c; ⟨a, fd, ps, F.mono h, r⟩
theorem CalM.lift {P : Program} {w : World} {K : PySem.W.Frag} {mg : Str → Option Value} {base : Heap} {T : StK S} {cls : Str → Option Addr} {k : Nat} {x : Str} {f : Fn Unit} (c : CalM P w K mg base TU cls k x f) : CalM P w K mg base T cls k x (f.lift) :=
  let ⟨a, fd, ps, F, r⟩ := c; ⟨a, fd, ps, F.imp fun _ _ _ _ h => sp_lift h, r⟩
theorem spS_imp {K : PySem.W.Frag} {T : StK S} {cls : Str → Option Addr} {n : Nat} {fr : Bool} {F F' : List D → S → Res S D} (h : ∀ ds s, F' ds s ≠ .stuck → F ds s = F' ds s) {vs : List V} {H : Hp} {Q : VK} {E : XK} (q : spS K T cls ⟨n, fr, F'⟩ vs H Q E) : spS K T cls ⟨n, fr, F⟩ vs H Q E := by
  obtain ⟨hn, ds, s, F0, r, st, na, k⟩ := q
  refine ⟨hn, ds, s, F0, r, st, na, ?_⟩
  dsimp only at k ⊢
  by_cases z : F' ds s = .stuck
  · rw [z] at k; exact k.elim
  · rw [h ds s z]; exact k
/-- .. where it says as much -/
theorem CalM.imp {P : Program} {w : World} {K : PySem.W.Frag} {mg : Str → Option Value} {base : Heap} {T : StK S} {cls : Str → Option Addr} {k : Nat} {x : Str} {n : Nat} {fr : Bool} {F F' : List D → S → Res S D} (c : CalM P w K mg base T cls k x ⟨n, fr, F⟩) (h : ∀ ds s, F' ds s ≠ .stuck → F ds s = F' ds s) : CalM P w K mg base T cls k x ⟨n, fr, F'⟩ :=
  let ⟨a, fd, ps, G, r⟩ := c; ⟨a, fd, ps, G.imp fun _ _ _ _ q => spS_imp h q, r⟩
theorem fnG_of {CX : CXT} {P : Program} {w : World} {K : PySem.W.Frag} {mg : Str → Option Value} {base : Heap} {k : Nat} {f : Addr} {nm qual : Str} {params : Arguments} {body : List Stmt} {sco : Scope} {dV kV doc pm cdv ct oc : Value} {an od : Option Addr} {osl : Array (Option Value)} {N ps : List Str} {sp : Sp}
    (lk : K.lookup f = some ⟨oc, od, .func (PySem.W.fnOf nm qual params body sco dV kV doc pm an cdv ct), osl⟩) (hcd : PySem.W.codeIn K cdv qual = true) (hS : FnScope N ps sco) (hlen : ∀ vs H Q E, sp vs H Q E → vs.length = ps.length)
    (hrun : ∀ (A : Around) (outer : List Env) (s : Shared) (H : Hp) (vs : List V) (Q : VK) (E : XK), Room k (A.deeper (envOfC qual sco s.heap.objs.size f cdv)) → A.guards = some [] → sp vs H Q E → ∃ t, PSs (cxOf CX P w K mg base N qual sco f cdv A outer s H E) body t ∧ t ⟨fun _ H' => Q .non H', Q, fun _ _ => False, fun _ _ => False⟩ (start N vs) H) :
    FnG P w K mg base CX (k + 1) f (PySem.W.fnOf nm qual params body sco dV kV doc pm an cdv ct) ps sp := by
  refine ⟨hlen, fun A outer s H args us vs Q E room gd env bi rel wish => ?_⟩
  have kin : K.In s.heap := env.mod.kin.keeps fun b o e => (env.bs b o e).1
  have nl : s.heap.NoLimit := env.mod.nolimit.keeps fun b o e => (env.bs b o e).1
  refine codeAny_call_function room.depth (kin _ _ lk) rfl hS.co hS.gen rfl (PySem.W.codeRec_of kin hcd) (bi _ _ _ _ ?_)
  refine wpAny_newFunctionEnv_cells hS.kind (fun y hy => (hS.par y.1 (List.of_mem_zip (show (y.1, y.2) ∈ ps.zip us from hy)).1).imp id fun q => ⟨q, PySem.W.cellsFrom_some _ _ _ (.inl q)⟩) fun en he s1 x => ?_
  subst he
  refine ⟨nl.keeps x.toInCall.keep, codeAny_func ?_⟩
  obtain ⟨t, ht, hq⟩ := hrun A outer s H vs Q E (room.deeper _) gd wish
  have I0 := inv_start (CX := CX) (E := E) hS room.hd env (hlen _ _ _ _ wish) rel x
  refine wpAny_mono (ht.run [] s1 (start N vs) H _ I0 hq) (fun fl s' z => ?_) fun _ _ z => z
  cases fl with
  | next =>
    obtain ⟨_, H', J, q⟩ := z
    exact ⟨V.non, H', J.os, J.bare, J.base, J.hok, rfl, q⟩
  | ret u =>
    obtain ⟨v, _, H', J, rv, q⟩ := z
    exact ⟨v, H', J.os, J.bare, J.base, J.hok, rv, q⟩
  | brk => exact z.elim fun _ z => z.elim fun _ z => z.2.elim
  | cont => exact z.elim fun _ z => z.elim fun _ z => z.2.elim
theorem rel_start {K : PySem.W.Frag} {T : StK S} {cls : Str → Option Addr} {H : Hp} {s : S} {F0 : Addr → Prop} {N : List Str} {vs : List V} {ds : List D} (r : RpL K H F0 vs ds) (st : T.R s H) (na : ∀ a, F0 a → ¬ T.A s a) : Rel (⟨K, T, H, s, F0, cls⟩ : Cn S) ⟨fun _ => 0, fun _ => False, rho0 N ds⟩ (start N vs) H s := by
  have nr : ∀ a, ¬ (⟨fun _ => 0, fun _ => False, rho0 N ds⟩ : Pt).root a := by
    rintro a ⟨i, sl, es, e1, e2, _⟩
    have e1' : (rho0 N ds)[i]? = some sl := e1
    unfold rho0 at e1'
    by_cases hi : i < (ds.map Sl.val).length
    · rw [List.getElem?_append_left hi, List.getElem?_map] at e1'
      cases q : ds[i]? with
      | none => rw [q] at e1'; cases e1'
      | some d => rw [q] at e1'; cases e1'; cases e2
    · rw [List.getElem?_append_right (by omega), List.getElem?_replicate] at e1'
      split at e1'
      · cases e1'; cases e2
      · cases e1'
  refine ⟨?_, st, fun _ _ e _ => e, fun _ h => h, fun _ h => .inl h, fun _ z => z.elim, fun i sl e => ?_⟩
  · show (start N vs).length = (rho0 N ds).length
    unfold L2.start rho0
    simp [r.length]
  · have e' : (rho0 N ds)[i]? = some sl := e
    unfold rho0 at e'
    by_cases hi : i < (ds.map Sl.val).length
    · rw [List.getElem?_append_left hi, List.getElem?_map] at e'
      cases q : ds[i]? with
      | none => rw [q] at e'; cases e'
      | some d =>
        rw [q] at e'
        cases e'
        obtain ⟨v, e1, rv⟩ := r.get q
        refine ⟨v, ?_, rv.wk fun a f _ => ⟨.inl f, nr a, fun z => z, na a f⟩⟩
        unfold L2.start
        rw [List.getElem?_append_left (by rw [List.length_map]; exact (List.getElem?_eq_some_iff.mp e1).1), List.getElem?_map, e1]
        rfl
    · rw [List.getElem?_append_right (by omega), List.getElem?_replicate] at e'
      split at e'
      · cases e'; trivial
      · cases e'
theorem gk_of {P : Program} {w : World} {K : PySem.W.Frag} {mg : Str → Option Value} {base : Heap} {T : StK S} {cls : Str → Option Addr} {k : Nat} {G : Gk S} (g : GkM P w K mg base T cls k G) {C : Cn S} {X : Cx} (e1 : C.K = K) (e2 : C.T = T) (e3 : C.cls = cls) (x1 : X.prog = P) (x2 : X.w = w) (x3 : X.K = K) (x4 : X.mg = mg) (x5 : X.base = base) (hr : Room k X.A) : GkOk C X G := by
  subst e1 e2 e3 x1 x2 x4 x5
  refine ⟨fun x d h => ?_, fun x f h => ?_, g.blt, g.spc C rfl rfl rfl⟩
  · obtain ⟨v, u, h1, h2, h3, h4⟩ := g.glo x d h
    exact ⟨v, u, h1, h2, h3, h4⟩
  · obtain ⟨a, fd, ps, h1, h2, h3, h4⟩ := g.cal x f h
    rw [← x3] at h1 h3 h4
    refine ⟨a, fd, ps, k, ?_, hr, h2, h3, h4⟩
    rw [x3]
    rw [x3] at h1
    exact h1
/-- a def's promise, by the run of its body -/
theorem fn_run {P : Program} {w : World} {K : PySem.W.Frag} {mg : Str → Option Value} {base : Heap} {T : StK S} {cls : Str → Option Addr} {k : Nat} {f : Addr} {fd : FuncData} {x qual : Str} {params : Arguments} {body : List Stmt} {sco : Scope} {dvs : List V} {kws : List (Str × V)} {N ps : List Str} (F : FunD K x qual params body sco dvs kws f fd) (hS : FnScope N ps sco) (fr : Bool) (Ks : List D → S → Dk S) (m : Nat)
    (hK : ∀ ds s, (Ks ds s).N = N ∧ (Ks ds s).sc = sco ∧ GkM P w K mg base T cls k (Ks ds s).G ∧ ∀ {C : Cn S} {W : L2.WX} {X : Cx}, C.K = K → C.T = T → C.cls = cls → Xd C W X N sco → GkOk C X (Ks ds s).G → StOk C W X (Ks ds s)) : FnG P w K mg base (L2.CX P w) (k + 1) f fd ps (spS K T cls (runDef fr Ks m N ps.length body)) := by
  obtain ⟨oc, od, dV, kV, doc, pm, an, cdv, ct, osl, rfl, lk, hcd, _, _⟩ := F.ex
  refine fnG_of lk hcd hS (fun vs H Q E h => h.1) fun A outer s H vs Q E room gd wish => ?_
  obtain ⟨hn, ds, s0, F0, r, hst, na, hk⟩ := wish
  obtain ⟨h1, h2, h3, h4⟩ := hK ds s0
  let X := cxOf (L2.CX P w) P w K mg base N qual (sco) f cdv A outer s H E
  let C : Cn S := ⟨K, T, H, s0, F0, cls⟩
  let W : L2.WX := fun cl d _ H => E cl d H
  have xk : Xk C W X N (sco) := ⟨rfl, rfl, hS.nd, rfl, rfl, by have := room.un; show (A.deeper _).units + 200 < _; omega, gd, takes_of rfl rfl rfl rfl⟩
  have xs : Xs C X N (sco) := ⟨rfl, rfl, hS.nd, rfl, fun y hy => ⟨locB_ok hy, .inl rfl⟩⟩
  have xd : Xd C W X N (sco) := { xk with s := xs, own := passes_of rfl }
  have g : GkOk C X (Ks ds s0).G := gk_of h3 rfl rfl rfl rfl rfl rfl rfl rfl room
  have so := h4 rfl rfl rfl xd g
  rw [← h1, ← h2] at xd
  refine ⟨_, (ex_ok xd g so m).2 _, ⟨⟨fun _ => 0, fun _ => False, rho0 N ds⟩, s0, rel_start r hst na, ?_⟩⟩
  have hk' : (match endR fr (exs (Ks ds s0) m (body) (rho0 N ds) s0) with
  | .ok d s' => ∀ v H', Xt T s0 s' H H' → T.R s' H' → FrP K H H' (RetF T F0 H s') fr v d → Q v H'
  | .err x s' => ∀ c dd H', Xt T s0 s' H H' → T.R s' H' → RX (⟨K, T, H, s0, F0, cls⟩ : Cn S) (RetF T F0 H s') H' x c dd → E c dd H'
  | .stuck => False) := hk
  clear hk
  show RunS C W _ H s0 (exs (Ks ds s0) m (body) (rho0 N ds) s0) _
  cases o : exs (Ks ds s0) m (body) (rho0 N ds) s0 with
  | nxt ρ' s' =>
    rw [o] at hk'
    exact fun P' σ' H' _ R' _ => hk' .non H' R'.ent R'.st ⟨.non, fun _ _ e => by cases e⟩
  | ret b d s' =>
    rw [o] at hk'
    have q : endR fr (Out.ret b d s' : Out S) = if fr = true ∧ b = false ∧ isL d = true then .stuck else .ok d s' := rfl
    rw [q] at hk'
    by_cases z : fr = true ∧ b = false ∧ isL d = true
    · rw [if_pos z] at hk'; exact hk'.elim
    · rw [if_neg z] at hk'
      refine fun v H' x st' fp => hk' v H' x st' ⟨fp.1, fun hf es e => ?_⟩
      cases b with
      | true => exact fp.2 rfl es e
      | false => exact absurd ⟨hf, rfl, by rw [e]; rfl⟩ z
  | brk ρ' s' => rw [o] at hk'; exact hk'.elim
  | cnt ρ' s' => rw [o] at hk'; exact hk'.elim
  | err y ρ' s' =>
    rw [o] at hk'
    refine fun P' σ' c dd H' _ R' _ rx => hk' c dd H' R'.ent R'.st ?_
    obtain ⟨cc, g1, g2, g3, g4⟩ := rx
    refine ⟨cc, g1, g2, g3, fun n => ?_⟩
    obtain ⟨dx, ws, e1, e2, e3⟩ := g4 n
    exact ⟨dx, ws, e1, e2, e3.wk fun a fa _ => fc_ret fa⟩
  | stuck => rw [o] at hk'; exact hk'.elim
end
end Q

set_option maxHeartbeats 2000000
/-! Lay21: the end of a law's row, for promises that ask that no repr is going on. -/
namespace Q
open PySem PySem.Spec PyProof.Rows L2
theorem callerG : callerA.guards = some [] := rfl
/-- at the heap behind the top, with the heap H of what is tracked -/
theorem lawG {P : Program} {w : World} {K : PySem.W.Frag} {mg mb : Str → Option Value} {k : Nat} {fa a : Addr} {fd : FuncData} {x : Str} {sp : Sp} {s1 : Shared} {H : Hp} {vs : List Value} (kin : K.In s1.heap) (glo : s1.heap.Ns mainGlobals mg) (blt : s1.heap.Ns builtinsNs mb) (hmb : ∀ y : Str, y ≠ "__name__" → mb y = bootBuiltins y) (nl : s1.heap.NoLimit) (gens : s1.gens = #[])
    (at_ : s1.heap.get? a = some { cls := .type "list", data := .seq vs.toArray }) (room : Room k callerA) (F : ∀ base : Heap, K.In base → base.Ns mainGlobals mg → FnG P w K mg base (L2.CX P w) k fa fd [x] sp) (bi : ∀ (s : Shared) (u : Value), BindsTo s fd ⟨[u], []⟩ [(x, u)])
    (only : L2.Only H) (hok : HOk P w H s1.heap) (one : ∀ b u, H b = some u → b = a) (out : ∀ u, H a = some u → K.lookup a = none) (wish : sp [.ref a] H (fun v _ => v = .bl true) fun _ _ _ => False) :
    codeAny (model P w) callerA (.call (.ref fa) ⟨[.ref a], []⟩) (fun r s' => r = .ok (.ret (.bool true)) ∧ OldK s1.heap s'.heap ∧ s'.os = s1.os ∧ AllBare s'.gens) s1 := by
  have free : ∀ (b : Addr) (o : Obj), s1.heap.get? b = some o → (∀ us n, o.data ≠ .seq us n) → H b = none := by
    intro b o e hd
    cases q : H b with
    | none => rfl
    | some u =>
      have eb := one b u q
      subst eb
      rw [at_] at e
      cases e
      exact absurd rfl (hd _ _)
  have ns : ∀ {b : Addr} {m : Str → Option Value}, s1.heap.Ns b m → (hidT s1.heap H).Ns b m := by
    rintro b m ⟨o, es, ep, e, d, r⟩
    refine ⟨o, es, ep, hidT_get e (free b o e ?_), d, r⟩
    intro us n z
    rw [d] at z
    cases z
  have kin2 : K.In (hidT s1.heap H) := by
    intro b o e
    refine hidT_get (kin b o e) ?_
    cases q : H b with
    | none => rfl
    | some u =>
      have eb := one b u q
      subst eb
      rw [out u q] at e
      cases e
  obtain ⟨mc, n1, n2⟩ := nl
  have env : Env0 P w K mg (hidT s1.heap H) callerA [] s1 H := ⟨rfl, ⟨kin2, ns glo, ⟨mb, ns blt, hmb⟩, mc, ns n1, n2⟩, fun _ _ e => of_hidT e, (Nat.le_of_eq (hidT_size _ _)), trivial, fun b z => (nomatch z), hok, AllBare.of_eq gens⟩
  have go := (F _ kin2 (ns glo)).run callerA [] s1 H ⟨[.ref a], []⟩ [.ref a] [.ref a] _ _ room callerG env (bi s1 (.ref a)) (.cons rfl .nil) wish
  refine codeAny_mono go fun res s2 z => ?_
  match res, z with
  | .ok (.ret u), z =>
    obtain ⟨v, H2, e1, e2, un, hok2, rv, (ev : v = .bl true)⟩ := z
    subst ev
    have eu : u = Value.bool true := rv
    refine ⟨by rw [eu], OldK.of_keep fun b o e => ?_, e1, e2⟩
    rcases only b with q | ⟨ob, xs, q⟩
    · exact un.keep b o e q (fun y => nomatch y) (fun y => nomatch y)
    · obtain ⟨y1, _⟩ := hok b _ q
      obtain ⟨y2, _⟩ := hok2 b _ (un.frzs b ob _ q)
      rw [e] at y1
      cases y1
      exact y2
  | .error e, z =>
    obtain ⟨_, _, _, _, _, _, _, _, _, _, _, _, y⟩ := z
    exact y.elim
/-- the law's row: the written part, the function object, the promise over every base -/
theorem walkG {l : PySem.W.OpenLaw} {n k : Nat} {q : Program} {loose : List Str} {XP : (Str → Option Value) → Heap → Prop} {YP : World → Heap → Prop} {d : DefRec} {x : Str} (hn : l.most = some n) (hz : n ≤ sizeLine) (hdf : d.params.defaults = []) (room : Room k callerA)
    (F : ∀ (w : World) (mg : Str → Option Value) (fa : Addr) (h : Heap), YP w h → h.Ns mainGlobals mg → mg d.name = some (.ref fa) → ∃ (K : PySem.W.Frag) (fd : FuncData) (sp : Sp), K.In h ∧ (∀ (s : Shared) (u : Value), BindsTo s fd ⟨[u], []⟩ [(x, u)]) ∧
      (∀ (H : Hp) (a : Addr) (ns : List Int), ns.length ≤ n → Frz K H a (ns.map V.int) → sp [.ref a] H (fun v _ => v = .bl true) fun _ _ _ => False) ∧ ∀ base : Heap, K.In base → base.Ns mainGlobals mg → FnG l.prog w K mg base (L2.CX l.prog w) k fa fd [x] sp) :
    PySem.W.WalkO q loose XP YP l.row.toRowW d [] (fun f vs => PySem.call f vs) := by
  refine Att.attach_call hn hdf fun w s0 s1 mg mb fa o pm cd doc a vs ns G Y _ _ _ hmg at_ isI hlen gens => ?_
  obtain ⟨K, fd, sp, kin, bi, wish, pr⟩ := F w mg fa _ Y G.T.g hmg
  have hl : ns.length ≤ sizeLine := Nat.le_trans hlen hz
  have rv := vals_ints isI
  cases hk : K.lookup a with
  | some u =>
    have e := kin a u hk
    rw [at_] at e
    cases e
    refine lawG (H := fun _ => none) kin G.T.g G.T.b G.T.builtins G.T.nolimit gens at_ room pr bi (fun _ => .inl rfl) (fun b u z => nomatch z) (fun b u z => nomatch z) (fun u z => nomatch z) (wish _ a ns hlen (.inr ⟨_, vs.toArray, _, hk, rfl, rfl, rfl, ?_, by simpa using rv⟩))
    rw [List.size_toArray, isI.length]
    exact hl
  | none =>
    refine lawG (H := fun b => if b = a then some (.frz { cls := .type "list", data := .seq vs.toArray } (.lst (ns.map V.int))) else none) kin G.T.g G.T.b G.T.builtins G.T.nolimit gens at_ room pr bi (fun b => ?_) (fun b u z => ?_) (fun b u z => ?_) (fun _ _ => hk) (wish _ a ns hlen (.inl ⟨_, if_pos rfl⟩))
    · by_cases hb : b = a
      · exact .inr ⟨_, _, if_pos hb⟩
      · exact .inl (if_neg hb)
    · have z' : (if b = a then some (HO.frz { cls := .type "list", data := .seq vs.toArray } (.lst (ns.map V.int))) else none) = some u := z
      split at z'
      · rename_i hb
        subst hb
        cases z'
        exact ⟨at_, by rw [List.length_map]; exact hl, vs, _, rv, at_⟩
      · cases z'
    · have z' : (if b = a then some (HO.frz { cls := .type "list", data := .seq vs.toArray } (.lst (ns.map V.int))) else none) = some u := z
      split at z'
      · assumption
      · cases z'
end Q

/-! Lay22: the state from which a law draws. -/
namespace Q
open PySem PySem.Spec PyProof.Rows L2
structure Dw where
  cells : List Int
  great : List Int
  spot : Int
/-- where it lies: its dict, its two lists -/
structure Ad where
  m : Addr
  c : Addr
  g : Addr
def dwK (a : Ad) (n : Int) : List (Key × V) := [(.inr "cells", .ref a.c), (.inr "great", .ref a.g), (.inr "spot", .int n)]
def TD (a : Ad) : StK Dw where
  R s H := H a.m = some (.dK (dwK a s.spot)) ∧ H a.c = some (.lst (s.cells.map V.int)) ∧ H a.g = some (.lst (s.great.map V.int)) ∧ a.c ≠ a.g
  A _ b := b = a.m ∨ b = a.c ∨ b = a.g
  tr := by
    rintro s H b ⟨h1, h2, h3, _⟩ (rfl | rfl | rfl)
    · rw [h1]; trivial
    · rw [h2]; trivial
    · rw [h3]; trivial
  mono := fun ⟨h1, h2, h3, n⟩ k => ⟨k _ _ (.inl rfl) h1, k _ _ (.inr (.inl rfl)) h2, k _ _ (.inr (.inr rfl)) h3, n⟩
theorem kcs : ¬ ((.inr "cells" : Key) = .inr "spot") := by decide
theorem kgs : ¬ ((.inr "great" : Key) = .inr "spot") := by decide
theorem kcg : ¬ ((.inr "cells" : Key) = .inr "great") := by decide
theorem dw_spot {a : Ad} {n : Int} : valV (dwK a n) (.inr "spot") = some (.int n) := by
  unfold dwK
  rw [valV_neg kcs, valV_neg kgs, valV_pos rfl]
theorem dw_great {a : Ad} {n : Int} : valV (dwK a n) (.inr "great") = some (.ref a.g) := by
  unfold dwK
  rw [valV_neg kcg, valV_pos rfl]
theorem dw_cells {a : Ad} {n : Int} : valV (dwK a n) (.inr "cells") = some (.ref a.c) := by
  unfold dwK
  rw [valV_pos rfl]
theorem dw_put {a : Ad} {n z : Int} : putK (dwK a n) (.inr "spot") (.int z) = dwK a z := by
  unfold putK dwK
  have h1 : ¬ ((.inr "cells" : Key) = .inr "spot") := by decide
  have h2 : ¬ ((.inr "great" : Key) = .inr "spot") := by decide
  simp [h1, h2]
/-- m[key] -/
def mgetE (a : Ad) (i : Nat) (key : Str) : EvF Dw := fun ρ s => match ρ[i]? with
  | some (.val (.opq (.ref b))) => if b = a.m then (if key = "spot" then .ok (.int s.spot) s else if key = "great" then .ok (.opq (.ref a.g)) s else if key = "cells" then .ok (.opq (.ref a.c)) s else .stuck) else .stuck
  | _ => .stuck
def lotOf (a : Ad) (s : Dw) (b : Addr) : Option (List Int) := if b = a.g then some s.great else if b = a.c then some s.cells else none
def lenE (a : Ad) (i : Nat) : EvF Dw := fun ρ s => match ρ[i]? with
  | some (.val (.opq (.ref b))) => (match lotOf a s b with
    | some xs => .ok (.int xs.length) s
    | none => .stuck)
  | _ => .stuck
def lixE (a : Ad) (i : Nat) (f : EvF Dw) : EvF Dw := fun ρ s => match ρ[i]? with
  | some (.val (.opq (.ref b))) => (f ρ s).bind fun d s1 => match d with
    | .int z => (match lotOf a s1 b with
      | some xs => (match L2.atI xs z with
        | some y => .ok (.int y) s1
        | none => .stuck)
      | none => .stuck)
    | _ => .stuck
  | _ => .stuck
def greatT (a : Ad) (i : Nat) : EvT' Dw := fun ρ s => match ρ[i]? with
  | some (.val (.opq (.ref b))) => if b = a.m then (match deq (.lst (s.great.map .int)) (.lst []) with
    | some q => .ok (!q) s
    | none => .stuck) else .stuck
  | _ => .stuck
section
variable {C : Cn Dw} {W : L2.WX} {X : Cx} {a : Ad}
theorem slot_opq {P : Pt} {σ : L2.St} {H : Hp} {s : Dw} {i : Nat} {v : V} (R : Rel C P σ H s) (e : P.ρ[i]? = some (.val (.opq v))) : σ[i]? = some (some v) := by
  obtain ⟨w, e1, e2⟩ := R.slot i _ e
  cases e2
  exact e1
theorem st_at (hT : C.T = TD a) {P : Pt} {σ : L2.St} {H : Hp} {s : Dw} (R : Rel C P σ H s) : (TD a).R s H := by rw [← hT]; exact R.st
theorem lot_at (hT : C.T = TD a) {P : Pt} {σ : L2.St} {H : Hp} {s : Dw} (R : Rel C P σ H s) {b : Addr} {xs : List Int} (h : lotOf a s b = some xs) : H b = some (.lst (xs.map V.int)) := by
  obtain ⟨h1, h2, h3, n⟩ := st_at hT R
  unfold lotOf at h
  split at h
  · rename_i e; subst e; cases h; exact h3
  · split at h
    · rename_i e; subst e; cases h; exact h2
    · cases h
theorem sd_mget (hT : C.T = TD a) {N : List Str} {sc : Scope} (k : Xk C W X N sc) {x key : Str} {i j : Nat} {p p2 pos : Pos} (hi : okN N sc x = some i) : PE X (.Subscript (.Name x p) (.Constant (.str key) j p2) pos) (tF C W (mgetE a i key)) := by
  refine pe_mono (pe_dget (by have := k.hu; omega) (pe_okN k hi) pe_str (fun _ _ => rfl)) fun σ H Q ⟨P, s, R, q⟩ => ?_
  unfold mgetE at q
  split at q
  · rename_i b e
    split at q
    · rename_i eb
      subst eb
      obtain ⟨h1, h2, h3, n⟩ := st_at hT R
      refine ⟨_, slot_opq R e, a.m, ?_⟩
      split at q
      · rename_i ek
        subst ek
        exact ⟨_, rfl, by have := DGet.k (k := .inr "spot") h1; rw [dw_spot] at this; exact this, (q.now R) _ (Fr.plain (.int _) (fun _ e => nomatch e))⟩
      · split at q
        · rename_i ek
          subst ek
          exact ⟨_, rfl, by have := DGet.k (k := .inr "great") h1; rw [dw_great] at this; exact this, (q.now R) _ (Fr.plain (.opq _) (fun _ e => nomatch e))⟩
        · split at q
          · rename_i ek
            subst ek
            exact ⟨_, rfl, by have := DGet.k (k := .inr "cells") h1; rw [dw_cells] at this; exact this, (q.now R) _ (Fr.plain (.opq _) (fun _ e => nomatch e))⟩
          · exact q.elim
    · exact q.elim
  · exact q.elim
theorem sd_lotLen (hT : C.T = TD a) {N : List Str} {sc : Scope} (k : Xk C W X N sc) {x : Str} {i : Nat} {p p2 pos : Pos} (hi : okN N sc x = some i) (hg : glB sc "len" = true) (hm : X.mg "len" = none) : PE X (.Call (.Name "len" p) [.Name x p2] [] pos) (tF C W (lenE a i)) := by
  obtain ⟨g1, g2, g3⟩ := gl_of k hg
  refine pe_mono (pe_callB call_len_seq g1 hm bt_len (pa_cons (pe_okN k hi) pa_nil) g3 g2) fun σ H Q ⟨P, s, R, q⟩ => ?_
  unfold lenE at q
  split at q
  · rename_i b e
    split at q
    · rename_i xs ex
      have h := lot_at hT R ex
      exact ⟨_, slot_opq R e, b, _, rfl, .inl (.inl (.inl h)), by rw [List.length_map]; exact (q.now R) _ (Fr.plain (.int _) (fun _ e => nomatch e))⟩
    · exact q.elim
  · exact q.elim
theorem sd_lotIx (hT : C.T = TD a) {N : List Str} {sc : Scope} (k : Xk C W X N sc) {x : Str} {i : Nat} {e : Expr} {p pos : Pos} {f : EvF Dw} (hi : okN N sc x = some i) (he : PE X e (tK C W f)) (hs : isSlice e = false) : PE X (.Subscript (.Name x p) e pos) (tF C W (lixE a i f)) := by
  refine pe_mono (pe_ix ix_seq (pe_okN k hi) he (plainIx_of hs)) fun σ H Q ⟨P, s, R, q⟩ => ?_
  unfold lixE at q
  split at q
  · rename_i b eb
    refine ⟨_, slot_opq R eb, P, s, R, q.bind.mono fun d s1 H1 R1 x1 q1 v tv => ?_⟩
    cases d with
    | int z =>
      dsimp only at q1
      split at q1
      · rename_i xs ex
        split at q1
        · rename_i y ey
          have h := lot_at hT R1 ex
          have ey' : L2.atI (xs.map V.int) z = some (.int y) := by
            unfold L2.atI at ey ⊢
            rw [List.length_map]
            rw [Option.bind_eq_some_iff] at ey ⊢
            obtain ⟨n, en, ey⟩ := ey
            exact ⟨n, en, by rw [List.getElem?_map, ey]; rfl⟩
          exact .inl ⟨b, _, z, _, rfl, top_int tv, .inl (.inl h), ey', (q1.now R1) _ (Fr.plain (.int _) (fun _ e => nomatch e))⟩
        · exact q1.elim
      · exact q1.elim
    | _ => exact q1.elim
  · exact q.elim
theorem st_great (hT : C.T = TD a) {N : List Str} {sc : Scope} (k : Xk C W X N sc) {x : Str} {i j : Nat} {p p2 p3 p4 pos : Pos} (hi : okN N sc x = some i) : PT X (.Compare (.Subscript (.Name x p) (.Constant (.str "great") j p2) p3) [.NotEq] [.List [] p4] pos) (tT C W (greatT a i)) := by
  refine pt_mono (pt_cmpR (op_neD (by have := k.hu; omega)) (pe_dget (by have := k.hu; omega) (pe_okN k hi) pe_str (fun _ _ => rfl)) (sd_lst (C := C) (W := W) sa_nil) rfl) fun σ H Q ⟨P, s, R, q⟩ => ?_
  unfold greatT at q
  split at q
  · rename_i b eb
    split at q
    · rename_i e
      subst e
      split at q
      · rename_i z ez
        obtain ⟨h1, h2, h3, n⟩ := st_at hT R
        refine ⟨_, slot_opq R eb, a.m, _, rfl, by have := DGet.k (k := .inr "great") h1; rw [dw_great] at this; exact this, P, s, R, ?_⟩
        obtain ⟨d, d', e1, e2, z1, z2, rfl⟩ := deq_some ez
        refine fun H1 R1 x1 v fr => ⟨d, d', ?_, ?_, z1, z2, _, rfl, q H1 R1 x1⟩
        · obtain ⟨_, _, h3', _⟩ := st_at hT R1
          have rl : ∀ xs : List Int, RpL X.K H1 (fun _ => True) (xs.map V.int) (xs.map D.int) := fun xs => by
            induction xs with
            | nil => exact .nil
            | cons y ys ih => exact .cons (.int y) ih
          exact dp_of (F := fun _ => True) (.lst trivial h3' (rl _)) e1
        · rw [← k.K]; exact dp_of fr.1 e2
      · exact q.elim
    · exact q.elim
  · exact q.elim
/-- m['spot'] = e -/
def mputS (a : Ad) (i : Nat) (f : EvF Dw) : ExF Dw := fun ρ s => match ρ[i]? with
  | some (.val (.opq (.ref b))) => if b = a.m then thenS ρ (f ρ s) fun d s1 => (match d with
    | .int z => .nxt ρ { s1 with spot := z }
    | _ => .stuck) else .stuck
  | _ => .stuck
theorem Rel.touch (hT : C.T = TD a) {P : Pt} {σ : L2.St} {H : Hp} {s s' : Dw} {b : Addr} {o : HO} (R : Rel C P σ H s) (hb : b = a.m ∨ b = a.c ∨ b = a.g) (st : (TD a).R s' (upd H b o)) : Rel C P σ (upd H b o) s' ∧ Stp C.T P s H P s' (upd H b o) := by
  have x : Xt C.T s s' H (upd H b o) := by
    rw [hT]
    refine ⟨fun c u e n => ?_, fun c n => ?_, fun c h => .inl h⟩
    · rw [upd_ne (fun z => n (by rw [z]; exact hb))]; exact e
    · by_cases z : c = b
      · subst z; rw [upd_same]; simp
      · rw [upd_ne z]; exact n
  exact ⟨R.xt x (by rw [hT]; exact st), x.stp⟩
theorem sx_mput (hT : C.T = TD a) {N : List Str} {sc : Scope} (k : Xd C W X N sc) {x : Str} {i j : Nat} {e : Expr} {p p2 tp pos : Pos} {f : EvF Dw} (hi : okN N sc x = some i) (hc : isComp e = false) (he : PE X e (tP C W f)) : PS X (.Assign [.Subscript (.Name x p) (.Constant (.str "spot") j p2) tp] e pos) (tS C W (mputS a i f)) := by
  refine ps_mono (ps_dput (by have := k.hu; omega) (pe_okN k.toXk hi) pe_str he (swaps_no hc)) fun D σ H ⟨P, s, R, q⟩ => ?_
  unfold mputS at q
  split at q
  · rename_i b eb
    split at q
    · rename_i e'
      subst e'
      refine ⟨P, s, R, q.run.mono fun d s1 H1 R1 x1 q1 v rv => ⟨_, slot_opq R1 eb, ?_⟩⟩
      cases d with
      | int z =>
        have := rp_int rv
        subst this
        obtain ⟨h1, h2, h3, n⟩ := st_at hT R1
        refine ⟨a.m, _, rfl, DPut.k (k := .inr "spot") h1 (by show 3 < sizeLine; decide), ?_⟩
        rw [dw_put]
        have nc : a.c ≠ a.m := fun z => by rw [z, h1] at h2; cases h2
        have ng : a.g ≠ a.m := fun z => by rw [z, h1] at h3; cases h3
        obtain ⟨r, st⟩ := Rel.touch (s' := { s1 with spot := z }) hT R1 (.inl rfl) ⟨upd_same, by rw [upd_ne nc]; exact h2, by rw [upd_ne ng]; exact h3, n⟩
        exact q1 P σ _ rfl r st
      | _ => exact q1.elim
    · exact q.elim
  · exact q.elim
/-- lot[j] = e, lot the great ones -/
def lputS (a : Ad) (i : Nat) (fe fj : EvF Dw) : ExF Dw := fun ρ s => match ρ[i]? with
  | some (.val (.opq (.ref b))) => if b = a.g then thenS ρ (fe ρ s) fun d s1 => thenS ρ (fj ρ s1) fun z s2 => (match d, z with
    | .int y, .int z => (match ixN s2.great.length z with
      | some n => .nxt ρ { s2 with great := s2.great.set n y }
      | none => .stuck)
    | _, _ => .stuck) else .stuck
  | _ => .stuck
theorem sx_lput (hT : C.T = TD a) {N : List Str} {sc : Scope} (k : Xd C W X N sc) {x : Str} {i : Nat} {j e : Expr} {p tp pos : Pos} {fe fj : EvF Dw} (hi : okN N sc x = some i) (hc : isComp e = false) (hj : isSlice j = false) (hw : swappedStores [.Subscript (.Name x p) j tp] e X.env = pure none) (he : PE X e (tP C W fe)) (hjj : PE X j (tK C W fj)) :
    PS X (.Assign [.Subscript (.Name x p) j tp] e pos) (tS C W (lputS a i fe fj)) := by
  refine ps_mono (ps_asg he (pg_sub (pe_okN k.toXk hi) hjj set_list (by intro v; cases j <;> first | rfl | (simp [isSlice] at hj; done))) (sole_no hc) hw rfl) fun D σ H ⟨P, s, R, q⟩ => ?_
  unfold lputS at q
  split at q
  · rename_i b eb
    split at q
    · rename_i e'
      subst e'
      refine ⟨P, s, R, q.run.mono fun d s1 H1 R1 x1 q1 v rv => ⟨_, slot_opq R1 eb, P, s1, R1, q1.run.mono fun z s2 H2 R2 x2 q2 w tw => ?_⟩⟩
      cases d with
      | int y =>
        cases z with
        | int z =>
          have := rp_int rv
          subst this
          dsimp only at q2
          split at q2
          · rename_i n hn
            obtain ⟨h1, h2, h3, nn⟩ := st_at hT R2
            have ng : a.m ≠ a.g := fun z => by rw [z, h3] at h1; cases h1
            refine ⟨a.g, _, z, n, rfl, top_int tw, h3, by rw [List.length_map]; exact hn, ?_⟩
            rw [← List.map_set]
            obtain ⟨r, st⟩ := Rel.touch (s' := { s2 with great := s2.great.set n y }) hT R2 (.inr (.inr rfl)) ⟨by rw [upd_ne ng]; exact h1, by rw [upd_ne nn]; exact h2, upd_same, nn⟩
            exact q2 P σ _ rfl r st
          · exact q2.elim
        | _ => exact q2.elim
      | _ => exact q2.elim
    · exact q.elim
  · exact q.elim
end
end Q

/-! Lay23: the words of the drawing defs. -/
namespace Q
open PySem PySem.Spec PyProof.Rows L2
def drawSp (a : Ad) (N : List Str) (sc : Scope) (f : Expr → Sem3 Dw) : Expr → Option (Sem3 Dw)
  | .Subscript (.Name x _) i _ =>
    if x = "_law_m" then (match i, okN N sc x with
      | .Constant (.str key) _ _, some j => some (plain3 (mgetE a j key))
      | _, _ => none)
    else if x = "_law_lot" ∧ isSlice i = false then (match okN N sc x with
      | some j => some (plain3 (lixE a j (pk N sc f i)))
      | none => none)
    else none
  | .Call (.Name y _) [.Name x _] [] _ => if y = "len" ∧ x = "_law_lot" ∧ glB sc "len" = true then (match okN N sc x with
      | some j => some (plain3 (lenE a j))
      | none => none)
    else none
  | .Compare (.Subscript (.Name x _) (.Constant (.str key) _ _) _) [.NotEq] [.List [] _] _ => if x = "_law_m" ∧ key = "great" then (match okN N sc x with
      | some j => some ⟨false, stuckF, greatT a j⟩
      | none => none)
    else none
  | _ => none
theorem drawSp_ok {C : Cn Dw} {a : Ad} (hT : C.T = TD a) {G : Gk Dw} (hG : G.sp = drawSp a) : SpOk C G := by
  intro W X N sc f k hb h e r q
  rw [hG] at q
  unfold drawSp at q
  split at q
  · split at q
    · subst_vars
      split at q
      · rename_i hi
        cases q
        exact Snd.plain k.K (sd_mget hT k hi) rfl
      · cases q
    · split at q
      · rename_i hx
        obtain ⟨rfl, hs⟩ := hx
        split at q
        · rename_i j hi
          cases q
          exact Snd.plain k.K (sd_lotIx hT k hi (sd_pk k h _) hs) rfl
        · cases q
      · cases q
  · split at q
    · rename_i hx
      obtain ⟨rfl, rfl, hg⟩ := hx
      split at q
      · rename_i j hi
        cases q
        exact Snd.plain k.K (sd_lotLen hT k hi hg (hb "len" (by simp [bltNames]))) rfl
      · cases q
    · cases q
  · split at q
    · rename_i hx
      obtain ⟨rfl, rfl⟩ := hx
      split at q
      · rename_i j hi
        cases q
        exact ⟨PE.clean sd_stuckF, fun z => Bool.noConfusion z, st_great hT k hi⟩
      · cases q
    · cases q
  · cases q
def drawSt (a : Ad) (G : Gk Dw) (N : List Str) (sc : Scope) : Stmt → Option (ExF Dw)
  | .Assign [.Subscript (.Name x _) i _] e _ =>
    if x = "_law_m" ∧ isComp e = false then (match i, okN N sc x with
      | .Constant (.str key) _ _, some j => if key = "spot" then some (mputS a j (evB G N 40 sc e).v) else none
      | _, _ => none)
    else if x = "_law_lot" ∧ isComp e = false ∧ isSlice i = false then (match okN N sc x with
      | some j => some (lputS a j (evB G N 40 sc e).v (pk N sc (evB G N 40 sc) i))
      | none => none)
    else none
  | _ => none
theorem drawSt_ok {C : Cn Dw} {W : L2.WX} {X : Cx} {a : Ad} (hT : C.T = TD a) {K : Dk Dw} (hK : K.st = drawSt a K.G K.N K.sc) (k : Xd C W X K.N K.sc) (g : GkOk C X K.G) : StOk C W X K := by
  intro st f q
  have h : ∀ e, Snd C W X e (evB K.G K.N 40 K.sc e) := fun e => (ev_ok 40 k.toXk g e).toSnd
  rw [hK] at q
  unfold drawSt at q
  split at q
  · split at q
    · rename_i hx
      obtain ⟨rfl, hc⟩ := hx
      split at q
      · rename_i hi
        split at q
        · subst_vars
          cases q
          exact sx_mput hT k hi hc (h _).v
        · cases q
      · cases q
    · split at q
      · rename_i hx
        obtain ⟨rfl, hc, hs⟩ := hx
        split at q
        · rename_i j hi
          cases q
          exact sx_lput hT k hi hc hs (sws_ok k.scope (by rfl)) (h _).v (sd_pk k.toXk h _)
        · cases q
      · cases q
  · cases q
end Q

/-! Lay24: words that are read off a text: slots by number. -/
namespace Q
open PySem PySem.Spec PyProof.Rows L2
section
variable {S : Type}
/-- a slot's value; .. or own list; .. or locked list -/
def vC (i : Nat) : EvF S := fun ρ s => match ρ[i]? with
  | some (.val d) => .ok d s
  | _ => .stuck
def vK (i : Nat) : EvF S := fun ρ s => match ρ[i]? with
  | some (.val d) => .ok d s
  | some (.own ds) => .ok (.lst ds) s
  | some (.lck ds) => .ok (.lst ds) s
  | _ => .stuck
def vS (i : Nat) : EvF S := fun ρ s => match ρ[i]? with
  | some (.val d) => .ok d s
  | some (.lck ds) => .ok (.lst ds) s
  | _ => .stuck
def tN (i : Nat) (d : D) (ρ : List Sl) : Option (List Sl) := if decide (i < ρ.length) = true then some (ρ.set i (.val d)) else none
/-- return x -/
def rN (i : Nat) : ExF S := fun ρ s => match ρ[i]? with
  | some (.val d) => .ret false d s
  | some (.own ds) => .ret true (.lst ds) s
  | some (.lck ds) => .ret true (.lst ds) s
  | _ => .stuck
/-- a constant -/
def kD (d : D) : EvF S := fun _ s => .ok d s
end
end Q

/-! Lay25: how words run, one step at a time. -/
namespace Q
open PySem PySem.Spec PyProof.Rows L2
section
variable {S α β : Type}
@[simp] theorem bind_okS (x : α) (s : S) (k : α → S → Res S β) : (Res.ok x s).bind k = k x s := rfl
@[simp] theorem bind_err (x : Exn) (s : S) (k : α → S → Res S β) : (Res.err x s : Res S α).bind k = .err x s := rfl
@[simp] theorem bind_stuck (k : α → S → Res S β) : (Res.stuck : Res S α).bind k = .stuck := rfl
@[simp] theorem thenS_ok (ρ : List Sl) (x : α) (s : S) (k : α → S → Out S) : thenS ρ (.ok x s) k = k x s := rfl
@[simp] theorem thenS_err (ρ : List Sl) (x : Exn) (s : S) (k : α → S → Out S) : thenS ρ (.err x s) k = .err x ρ s := rfl
@[simp] theorem ofO_some (x : α) (s : S) : ofO (some x) s = .ok x s := rfl
@[simp] theorem noErr_okS (x : α) (s : S) : (Res.ok x s).noErr = .ok x s := rfl
def Out.next (o : Out S) (k : ExF S) : Out S := match o with
  | .nxt ρ s => k ρ s
  | o => o
@[simp] theorem next_nxt (ρ : List Sl) (s : S) (k : ExF S) : (Out.nxt ρ s).next k = k ρ s := rfl
@[simp] theorem next_ret (b : Bool) (d : D) (s : S) (k : ExF S) : (Out.ret b d s).next k = .ret b d s := rfl
@[simp] theorem next_brk (ρ : List Sl) (s : S) (k : ExF S) : (Out.brk ρ s).next k = .brk ρ s := rfl
@[simp] theorem next_cnt (ρ : List Sl) (s : S) (k : ExF S) : (Out.cnt ρ s).next k = .cnt ρ s := rfl
@[simp] theorem next_err (x : Exn) (ρ : List Sl) (s : S) (k : ExF S) : (Out.err x ρ s).next k = .err x ρ s := rfl
@[simp] theorem seqS_ap (f g : ExF S) (ρ : List Sl) (s : S) : seqS f g ρ s = (f ρ s).next g := by
  unfold seqS Out.next
  cases f ρ s <;> rfl
@[simp] theorem nextS_ap (ρ : List Sl) (s : S) : (nextS : ExF S) ρ s = .nxt ρ s := rfl
@[simp] theorem ifS_ap (c : EvT' S) (f g : ExF S) (ρ : List Sl) (s : S) : ifS c f g ρ s = thenS ρ (c ρ s) fun b s1 => if b = true then f ρ s1 else g ρ s1 := rfl
@[simp] theorem retV_ap (fr : Bool) (f : EvF S) (ρ : List Sl) (s : S) : retV fr f ρ s = thenS ρ (f ρ s) fun d s1 => .ret fr d s1 := rfl
@[simp] theorem dropS_ap (f : EvF S) (ρ : List Sl) (s : S) : dropS f ρ s = thenS ρ (f ρ s) fun _ s1 => .nxt ρ s1 := rfl
def stoO (o : Option (List Sl)) (s : S) : Out S := match o with
  | some ρ => .nxt ρ s
  | none => .stuck
@[simp] theorem stoO_some (ρ : List Sl) (s : S) : stoO (some ρ) s = .nxt ρ s := rfl
@[simp] theorem asgS_ap (f : EvF S) (g : D → List Sl → Option (List Sl)) (ρ : List Sl) (s : S) : asgS f g ρ s = thenS ρ (f ρ s) fun d s1 => stoO (g d ρ) s1 := by
  unfold asgS stoO
  rfl
def ownD : D → Sl
  | .lst ds => .own ds
  | d => .val d
@[simp] theorem ownD_lst (ds : List D) : ownD (.lst ds) = .own ds := rfl
@[simp] theorem ownS_ap (i : Nat) (f : EvF S) (ρ : List Sl) (s : S) : ownS i f ρ s = thenS ρ (f ρ s) fun d s1 => if i < ρ.length then .nxt (ρ.set i (ownD d)) s1 else .stuck := by
  unfold ownS
  congr 1
  funext d s1
  split
  · cases d <;> rfl
  · rfl
@[simp] theorem relS_val (d : D) : relS (.val d) = .val d := rfl
@[simp] theorem relS_own (ds : List D) : relS (.own ds) = .val (.lst ds) := rfl
@[simp] theorem relS_no : relS .no = .no := rfl
@[simp] theorem relS_ap (is : List Nat) (f : ExF S) (ρ : List Sl) (s : S) : relS' is f ρ s = f (relAll ρ is) s := rfl
@[simp] theorem relAll_nil (ρ : List Sl) : relAll ρ [] = ρ := rfl
@[simp] theorem relAll_cons (ρ : List Sl) (i : Nat) (is : List Nat) : relAll ρ (i :: is) = relAt (relAll ρ is) i := rfl
theorem relAt_def (ρ : List Sl) (i : Nat) : relAt ρ i = match ρ[i]? with
  | some sl => ρ.set i (relS sl)
  | none => ρ := rfl
def slC : Option Sl → S → Res S D
  | some (.val d), s => .ok d s
  | _, _ => .stuck
def slK : Option Sl → S → Res S D
  | some (.val d), s => .ok d s
  | some (.own ds), s => .ok (.lst ds) s
  | some (.lck ds), s => .ok (.lst ds) s
  | _, _ => .stuck
def slS : Option Sl → S → Res S D
  | some (.val d), s => .ok d s
  | some (.lck ds), s => .ok (.lst ds) s
  | _, _ => .stuck
@[simp] theorem slC_val (d : D) (s : S) : slC (some (.val d)) s = .ok d s := rfl
@[simp] theorem slK_val (d : D) (s : S) : slK (some (.val d)) s = .ok d s := rfl
@[simp] theorem slK_own (d : List D) (s : S) : slK (some (.own d)) s = .ok (.lst d) s := rfl
@[simp] theorem slK_lck (d : List D) (s : S) : slK (some (.lck d)) s = .ok (.lst d) s := rfl
@[simp] theorem slS_val (d : D) (s : S) : slS (some (.val d)) s = .ok d s := rfl
@[simp] theorem slS_lck (d : List D) (s : S) : slS (some (.lck d)) s = .ok (.lst d) s := rfl
@[simp] theorem vC_ap (i : Nat) (ρ : List Sl) (s : S) : vC i ρ s = slC ρ[i]? s := by
  unfold vC slC
  cases ρ[i]? with
  | none => rfl
  | some x => cases x <;> rfl
@[simp] theorem vK_ap (i : Nat) (ρ : List Sl) (s : S) : vK i ρ s = slK ρ[i]? s := by
  unfold vK slK
  cases ρ[i]? with
  | none => rfl
  | some x => cases x <;> rfl
@[simp] theorem vS_ap (i : Nat) (ρ : List Sl) (s : S) : vS i ρ s = slS ρ[i]? s := by
  unfold vS slS
  cases ρ[i]? with
  | none => rfl
  | some x => cases x <;> rfl
@[simp] theorem kD_ap (d : D) (ρ : List Sl) (s : S) : kD d ρ s = .ok d s := rfl
@[simp] theorem tN_ap (i : Nat) (d : D) (ρ : List Sl) : tN i d ρ = if i < ρ.length then some (ρ.set i (.val d)) else none := by
  unfold tN
  simp only [decide_eq_true_eq]
def slR : Option Sl → S → Out S
  | some (.val d), s => .ret false d s
  | some (.own ds), s => .ret true (.lst ds) s
  | some (.lck ds), s => .ret true (.lst ds) s
  | _, _ => .stuck
@[simp] theorem slR_val (d : D) (s : S) : slR (some (.val d)) s = .ret false d s := rfl
@[simp] theorem slR_own (d : List D) (s : S) : slR (some (.own d)) s = .ret true (.lst d) s := rfl
@[simp] theorem rN_ap (i : Nat) (ρ : List Sl) (s : S) : rN i ρ s = slR ρ[i]? s := by
  unfold rN slR
  cases ρ[i]? with
  | none => rfl
  | some x => cases x <;> rfl
@[simp] theorem bin_ap (op : D → D → Option D) (f g : EvF S) (ρ : List Sl) (s : S) : bin op f g ρ s = (f ρ s).bind fun x s1 => (g ρ s1).bind fun y s2 => ofO (op x y) s2 := rfl
def chK (op' : D → D → Option D) (fc : EvF S) (ρ : List Sl) (y : D) : D → S → Res S D
  | .bl true, s3 => (fc ρ s3).bind fun w s4 => ofO (op' y w) s4
  | .bl false, s3 => .ok (.bl false) s3
  | _, _ => .stuck
@[simp] theorem chK_bl (op' : D → D → Option D) (fc : EvF S) (ρ : List Sl) (y : D) (b : Bool) (s : S) : chK op' fc ρ y (.bl b) s = if b = true then (fc ρ s).bind fun w s4 => ofO (op' y w) s4 else .ok (.bl false) s := by cases b <;> rfl
@[simp] theorem chain_ap (op op' : D → D → Option D) (fa fb fc : EvF S) (ρ : List Sl) (s : S) : chain op op' fa fb fc ρ s = (fa ρ s).bind fun x s1 => (fb ρ s1).bind fun y s2 => (ofO (op x y) s2).bind (chK op' fc ρ y) := by
  unfold chain
  congr 1; funext x s1; congr 1; funext y s2; congr 1; funext z s3
  cases z with
  | bl b => cases b <;> rfl
  | _ => rfl
@[simp] theorem truth_ap (f : EvF S) (ρ : List Sl) (s : S) : truth f ρ s = (f ρ s).bind fun d s1 => ofO (dTru d) s1 := rfl
def tbK : D → S → Res S Bool
  | .bl b, s => .ok b s
  | _, _ => .stuck
@[simp] theorem tbK_bl (b : Bool) (s : S) : tbK (.bl b) s = .ok b s := rfl
@[simp] theorem testB_ap (f : EvF S) (ρ : List Sl) (s : S) : testB f ρ s = (f ρ s).bind tbK := by
  unfold testB
  congr 1; funext d s1
  cases d <;> rfl
@[simp] theorem notT_ap (f : EvT' S) (ρ : List Sl) (s : S) : notT f ρ s = (f ρ s).bind fun b s1 => .ok (!b) s1 := rfl
@[simp] theorem andT_ap (f g : EvT' S) (ρ : List Sl) (s : S) : andT f g ρ s = (f ρ s).bind fun b s1 => if b = true then g ρ s1 else .ok false s1 := rfl
@[simp] theorem orT_ap (f g : EvT' S) (ρ : List Sl) (s : S) : orT f g ρ s = (f ρ s).bind fun b s1 => if b = true then .ok true s1 else g ρ s1 := rfl
@[simp] theorem andV_ap (f g : EvF S) (ρ : List Sl) (s : S) : andV f g ρ s = (f ρ s).bind fun d s1 => (ofO (dTru d) s1).bind fun b s2 => if b = true then g ρ s2 else .ok d s2 := rfl
@[simp] theorem orV_ap (f g : EvF S) (ρ : List Sl) (s : S) : orV f g ρ s = (f ρ s).bind fun d s1 => (ofO (dTru d) s1).bind fun b s2 => if b = true then .ok d s2 else g ρ s2 := rfl
@[simp] theorem notV_ap (f : EvF S) (ρ : List Sl) (s : S) : notV f ρ s = (f ρ s).bind fun d s1 => (ofO (dTru d) s1).bind fun b s2 => .ok (.bl (!b)) s2 := rfl
@[simp] theorem dTru_bl (b : Bool) : dTru (.bl b) = some b := rfl
def ngK : D → S → Res S D
  | .int i, s => .ok (.int (-i)) s
  | _, _ => .stuck
@[simp] theorem ngK_int (i : Int) (s : S) : ngK (.int i) s = .ok (.int (-i)) s := rfl
@[simp] theorem negV_ap (f : EvF S) (ρ : List Sl) (s : S) : negV f ρ s = (f ρ s).bind ngK := by
  unfold negV
  congr 1; funext d s1
  cases d <;> rfl
@[simp] theorem ifE_ap (c : EvT' S) (f g : EvF S) (ρ : List Sl) (s : S) : ifE c f g ρ s = (c ρ s).bind fun b s1 => if b = true then f ρ s1 else g ρ s1 := rfl
@[simp] theorem nilA_ap (ρ : List Sl) (s : S) : (nilA : EvL' S) ρ s = .ok [] s := rfl
@[simp] theorem consA_ap (f : EvF S) (g : EvL' S) (ρ : List Sl) (s : S) : consA f g ρ s = (f ρ s).bind fun d s1 => (g ρ s1).bind fun ds s2 => .ok (d :: ds) s2 := rfl
@[simp] theorem tupE_ap (f : EvL' S) (ρ : List Sl) (s : S) : tupE f ρ s = (f ρ s).bind fun ds s1 => if ds.length ≤ sizeLine then .ok (.tup ds) s1 else .stuck := rfl
@[simp] theorem lstE_ap (f : EvL' S) (ρ : List Sl) (s : S) : lstE f ρ s = (f ρ s).bind fun ds s1 => if ds.length ≤ sizeLine then .ok (.lst ds) s1 else .stuck := rfl
@[simp] theorem noneO_ap (ρ : List Sl) (s : S) : (noneO : EvO' S) ρ s = .ok none s := rfl
def soK : D → S → Res S (Option Int)
  | .int i, s => .ok (some i) s
  | _, _ => .stuck
@[simp] theorem soK_int (i : Int) (s : S) : soK (.int i) s = .ok (some i) s := rfl
@[simp] theorem someO_ap (f : EvF S) (ρ : List Sl) (s : S) : someO f ρ s = (f ρ s).bind soK := by
  unfold someO
  congr 1; funext d s1
  cases d <;> rfl
@[simp] theorem slE_ap (f : EvF S) (g h : EvO' S) (ρ : List Sl) (s : S) : slE f g h ρ s = (f ρ s).bind fun x s1 => (g ρ s1).bind fun lo s2 => (h ρ s2).bind fun hi s3 => ofO (dSl x lo hi) s3 := rfl
@[simp] theorem revE_ap (f : EvF S) (ρ : List Sl) (s : S) : revE f ρ s = (f ρ s).bind fun d s1 => ofO (dRev d) s1 := rfl
@[simp] theorem isiE_ap (f : EvF S) (T : String) (ρ : List Sl) (s : S) : isiE f T ρ s = (f ρ s).bind fun d s1 => ofO ((dIsi d T).map .bl) s1 := rfl
@[simp] theorem biF_ap (f : List D → Option D) (g : EvL' S) (ρ : List Sl) (s : S) : biF f g ρ s = (g ρ s).bind fun ds s1 => ofO (f ds) s1 := rfl
@[simp] theorem callF_ap (n : Nat) (fr : Bool) (F : List D → S → Res S D) (g : EvL' S) (ρ : List Sl) (s : S) : callF ⟨n, fr, F⟩ g ρ s = (g ρ s).bind fun ds s1 => if ds.length = n then F ds s1 else .stuck := rfl
@[simp] theorem iSeq_ap (f : EvF S) (ρ : List Sl) (s : S) : iSeq f ρ s = (f ρ s).bind fun d s1 => ofO (itemsOf d) s1 := rfl
@[simp] theorem iEnum_ap (f : EvF S) (ρ : List Sl) (s : S) : iEnum f ρ s = (f ρ s).bind fun d s1 => ofO ((seqOf d).map (enumFrom 0)) s1 := rfl
@[simp] theorem iRange1_ap (f : EvF S) (ρ : List Sl) (s : S) : iRange1 f ρ s = (f ρ s).bind fun d s1 => ofO (range1 d) s1 := rfl
@[simp] theorem iRange2_ap (f g : EvF S) (ρ : List Sl) (s : S) : iRange2 f g ρ s = (f ρ s).bind fun d s1 => (g ρ s1).bind fun e s2 => ofO (range2 d e) s2 := rfl
@[simp] theorem iZip_ap (f g : EvF S) (ρ : List Sl) (s : S) : Q.iZip f g ρ s = (f ρ s).bind fun d s1 => (g ρ s1).bind fun e s2 => ofO (zip2 d e) s2 := rfl
@[simp] theorem itemsOf_tup (ds : List D) : itemsOf (.tup ds) = some ds := rfl
@[simp] theorem itemsOf_lst (ds : List D) : itemsOf (.lst ds) = some ds := rfl
@[simp] theorem seqOf_tup (ds : List D) : seqOf (.tup ds) = some ds := rfl
@[simp] theorem seqOf_lst (ds : List D) : seqOf (.lst ds) = some ds := rfl
@[simp] theorem seqOf_scr (ds : List D) : seqOf (.scr ds) = some ds := rfl
@[simp] theorem itemsOf_scr (ds : List D) : itemsOf (.scr ds) = some ds := rfl
@[simp] theorem lcE_ap (fi : EvL' S) (h : D → List Sl → Option (List Sl)) (ft : EvT' S) (fe : EvF S) (vs : List Nat) (ρ : List Sl) (s : S) : lcE fi h ft fe vs ρ s = (fi ρ s).bind fun ds s1 => if vs.any (ownAt ρ) then .stuck else (lcGo h ft fe (wipeR ρ vs) ds s1).bind fun ys s2 => if ys.length ≤ sizeLine then .ok (.lst ys) s2 else .stuck := rfl
@[simp] theorem wipeR_nil (ρ : List Sl) : wipeR ρ [] = ρ := rfl
@[simp] theorem wipeR_cons (ρ : List Sl) (v : Nat) (vs : List Nat) : wipeR ρ (v :: vs) = (wipeR ρ vs).set v .no := rfl
def oaK : Option Sl → Bool
  | some (.own _) => true
  | some (.lck _) => true
  | _ => false
@[simp] theorem oaK_val (d : D) : oaK (some (.val d)) = false := rfl
@[simp] theorem oaK_no : oaK (some .no) = false := rfl
@[simp] theorem ownAt_ap (ρ : List Sl) (i : Nat) : ownAt ρ i = oaK ρ[i]? := by
  unfold ownAt oaK
  cases ρ[i]? with
  | none => rfl
  | some sl => cases sl <;> rfl
@[simp] theorem yesT_ap (ρ : List Sl) (s : S) : (yesT : EvT' S) ρ s = .ok true s := rfl
theorem lcGo_nil (h : D → List Sl → Option (List Sl)) (ft : EvT' S) (fe : EvF S) (ρ : List Sl) (s : S) : lcGo h ft fe ρ [] s = .ok [] s := rfl
theorem lcGo_cons {h : D → List Sl → Option (List Sl)} {ρ ρ2 : List Sl} {d : D} (e : h d ρ = some ρ2) (ft : EvT' S) (fe : EvF S) (ds : List D) (s : S) : lcGo h ft fe ρ (d :: ds) s = (ft ρ2 s).noErr.bind fun b s1 => if b = true then (fe ρ2 s1).noErr.bind fun y s2 => (lcGo h ft fe ρ ds s2).bind fun ys s3 => .ok (y :: ys) s3 else lcGo h ft fe ρ ds s1 := by
  rw [lcGo, e]
@[simp] theorem gTupD_ap (n : Nat) (g : List D → List Sl → Option (List Sl)) (ds : List D) (ρ : List Sl) : gTupD n g (.tup ds) ρ = if ds.length = n then g ds ρ else none := rfl
@[simp] theorem gsN_ap (ρ : List Sl) : gsN [] ρ = some ρ := rfl
@[simp] theorem gsC_ap (f : D → List Sl → Option (List Sl)) (g : List D → List Sl → Option (List Sl)) (d : D) (ds : List D) (ρ : List Sl) : gsC f g (d :: ds) ρ = (f d ρ).bind fun ρ1 => g ds ρ1 := rfl
@[simp] theorem forS_ap (it : EvL' S) (g : D → List Sl → Option (List Sl)) (body : ExF S) (ρ : List Sl) (s : S) : forS it g body ρ s = thenS ρ (it ρ s) fun ds s1 => forGo g body ds ρ s1 := rfl
@[simp] theorem forGo_nil (g : D → List Sl → Option (List Sl)) (body : ExF S) (ρ : List Sl) (s : S) : forGo g body [] ρ s = .nxt ρ s := rfl
/-- behind a turn -/
def Out.turn (o : Out S) (k : ExF S) : Out S := match o with
  | .nxt ρ s => k ρ s
  | .cnt ρ s => k ρ s
  | .brk ρ s => .nxt ρ s
  | o => o
@[simp] theorem turn_nxt (ρ : List Sl) (s : S) (k : ExF S) : (Out.nxt ρ s).turn k = k ρ s := rfl
@[simp] theorem turn_cnt (ρ : List Sl) (s : S) (k : ExF S) : (Out.cnt ρ s).turn k = k ρ s := rfl
@[simp] theorem turn_brk (ρ : List Sl) (s : S) (k : ExF S) : (Out.brk ρ s).turn k = .nxt ρ s := rfl
@[simp] theorem turn_ret (b : Bool) (d : D) (s : S) (k : ExF S) : (Out.ret b d s).turn k = .ret b d s := rfl
theorem forGo_cons {g : D → List Sl → Option (List Sl)} {ρ ρ1 : List Sl} {d : D} (e : g d ρ = some ρ1) (body : ExF S) (ds : List D) (s : S) : forGo g body (d :: ds) ρ s = (body ρ1 s).turn (forGo g body ds) := by
  rw [forGo]
  dsimp only
  rw [e]
  dsimp only
  unfold Out.turn
  cases body ρ1 s <;> rfl
@[simp] theorem lockS_nil (f : ExF S) : lockS [] f = f := rfl
@[simp] theorem lockS_cons (i : Nat) (is : List Nat) (f : ExF S) (ρ : List Sl) (s : S) : lockS (i :: is) f ρ s = lock1 i (lockS is f) ρ s := rfl
theorem lock1_val {i : Nat} {ρ : List Sl} {d : D} (h : ρ[i]? = some (.val d)) (f : ExF S) (s : S) : lock1 i f ρ s = f ρ s := by
  unfold lock1
  rw [h]
theorem lock1_own {i : Nat} {ρ : List Sl} {ds : List D} (h : ρ[i]? = some (.own ds)) (f : ExF S) (s : S) : lock1 i f ρ s = unlO i (f (ρ.set i (.lck ds)) s) := by
  unfold lock1
  rw [h]
theorem while_succ (c : EvT' S) (body : ExF S) (n : Nat) (ρ : List Sl) (s : S) : whileGo c body (n + 1) ρ s = thenS ρ (c ρ s) fun b s1 => if b = true then (body ρ s1).turn (whileGo c body n) else .nxt ρ s1 := by
  rfl
def apK (i : Nat) (ρ : List Sl) (d : D) (s : S) : Option Sl → Out S
  | some (.own ds) => if ds.length < sizeLine then .nxt (ρ.set i (.own (ds ++ [d]))) s else .stuck
  | _ => .stuck
theorem appS_own {i : Nat} {ρ : List Sl} {ds : List D} (h : ρ[i]? = some (.own ds)) (f : EvF S) (s : S) : appS i f ρ s = thenS ρ (f ρ s) fun d s1 => if ds.length < sizeLine then .nxt (ρ.set i (.own (ds ++ [d]))) s1 else .stuck := by
  unfold appS
  rw [h]
@[simp] theorem endR_ret (d : D) (s : S) (f : Bool) : endR false (.ret f d s) = .ok d s := by
  unfold endR
  simp
@[simp] theorem endR_retT (d : D) (s : S) : endR true (.ret true d s) = .ok d s := by
  unfold endR
  simp
@[simp] theorem endR_nxt (fr : Bool) (ρ : List Sl) (s : S) : endR fr (.nxt ρ s) = .ok .non s := rfl
@[simp] theorem dLe_int (i j : Int) : dLe (.int i) (.int j) = some (.bl (decide (i ≤ j))) := rfl
@[simp] theorem dLt_int (i j : Int) : dLt (.int i) (.int j) = some (.bl (decide (i < j))) := rfl
@[simp] theorem dGt_int (i j : Int) : dGt (.int i) (.int j) = some (.bl (decide (j < i))) := rfl
@[simp] theorem dGe_int (i j : Int) : dGe (.int i) (.int j) = some (.bl (decide (j ≤ i))) := rfl
@[simp] theorem dAdd_int (i j : Int) : dAdd (.int i) (.int j) = some (.int (i + j)) := rfl
@[simp] theorem dSub_int (i j : Int) : dSub (.int i) (.int j) = some (.int (i - j)) := rfl
@[simp] theorem bLen_tup (ds : List D) : bLen [.tup ds] = some (.int ds.length) := rfl
@[simp] theorem bLen_lst (ds : List D) : bLen [.lst ds] = some (.int ds.length) := rfl
@[simp] theorem bLen_scr (ds : List D) : bLen [.scr ds] = some (.int ds.length) := rfl
@[simp] theorem bInt_int (i : Int) : bInt [.int i] = some (.int i) := rfl
@[simp] theorem bInt_bl (b : Bool) : bInt [.bl b] = some (.int (if b then 1 else 0)) := rfl
@[simp] theorem isi_tt (ds : List D) : dIsi (.tup ds) "tuple" = some true := by simp [dIsi, tyN, knownT, isiT]
@[simp] theorem isi_ii (i : Int) : dIsi (.int i) "int" = some true := by simp [dIsi, tyN, knownT, isiT]
@[simp] theorem isi_ib (i : Int) : dIsi (.int i) "bool" = some false := by simp [dIsi, tyN, knownT, isiT]
@[simp] theorem isi_ss (x : Str) : dIsi (.str x) "str" = some true := by simp [dIsi, tyN, knownT, isiT]
end
end Q

/-! Lay26: facts about data; loops by an invariant. -/
namespace Q
open PySem PySem.Spec PyProof.Rows L2
/-- whole numbers as data -/
def iD (l : List Int) : List D := l.map .int
@[simp] theorem iD_nil : iD [] = [] := rfl
@[simp] theorem iD_cons (x : Int) (l : List Int) : iD (x :: l) = .int x :: iD l := rfl
@[simp] theorem iD_len (l : List Int) : (iD l).length = l.length := by simp [iD]
theorem iD_append (l r : List Int) : iD (l ++ r) = iD l ++ iD r := by simp [iD]
theorem iD_rev (l : List Int) : (iD l).reverse = iD l.reverse := by simp [iD]
@[simp] theorem intsOf_iD : ∀ l : List Int, intsOf (iD l) = some l
  | [] => rfl
  | x :: l => by simp [intsOf, intsOf_iD l]
@[simp] theorem toPyL_iD : ∀ l : List Int, toPyL (iD l) = some (l.map .int)
  | [] => rfl
  | x :: l => by simp [toPyL, toPy, toPyL_iD l]
theorem canLay_ints : ∀ l : List Int, PyData.canLayAll0 (l.map .int) = true
  | [] => rfl
  | x :: l => by simp [PyData.canLayAll0, PyData.canLay0, canLay_ints l]
theorem depth_iD : ∀ l : List Int, PyData.depthAll (l.map .int) ≤ 1
  | [] => by simp [PyData.depthAll]
  | x :: l => by
    have := depth_iD l
    simp only [List.map_cons, PyData.depthAll, PyData.depth]
    omega
@[simp] theorem shaped_int (x : Int) : SeqAt.shaped (.int x) = true := by simp [SeqAt.shaped, PyData.canLay0, PyData.depth]
@[simp] theorem shaped_ints (l : List Int) : SeqAt.shaped (.list (l.map .int)) = true := by
  have := depth_iD l
  have h : (PyData.list (l.map .int)).depth ≤ 64 := by
    simp only [PyData.depth]
    omega
  simp [SeqAt.shaped, PyData.canLay0, canLay_ints, h]
@[simp] theorem shaped_nil : SeqAt.shaped (.list []) = true := by simpa using shaped_ints []
theorem dIn_int (x : Int) (l : List Int) : dIn (.int x) (.tup (iD l)) = some (.bl (l.any fun z => z == x)) := by
  simp [dIn, din, toPy, List.any_map, Function.comp_def, PyData.eqv]
theorem deq_nil (l : List Int) : deq (.lst (iD l)) (.lst []) = some (l.isEmpty) := by
  cases l <;> simp [deq, toPy, toPyL, PyData.eqv, PyData.eqvAll]
  rename_i x l
  have := shaped_ints (x :: l)
  simp at this
  simp [this]
theorem dNe_nil (l : List Int) : dNe (.lst (iD l)) (.lst []) = some (.bl (!l.isEmpty)) := by simp [dNe, deq_nil]
@[simp] theorem bSum_lst (l : List Int) : bSum [.lst (iD l)] = some (.int l.sum) := by simp [bSum]
@[simp] theorem bSum_tup (l : List Int) : bSum [.tup (iD l)] = some (.int l.sum) := by simp [bSum]
@[simp] theorem bMax_lst (x : Int) (l : List Int) : bMax [.lst (iD (x :: l))] = some (.int (l.foldl max x)) := by
  show (intsOf (iD (x :: l))).bind maxI = _
  rw [intsOf_iD]
  rfl
@[simp] theorem bTuple_lst (ds : List D) : bTuple [.lst ds] = some (.tup ds) := rfl
@[simp] theorem bTuple_tup (ds : List D) : bTuple [.tup ds] = some (.tup ds) := rfl
@[simp] theorem dRev_lst (ds : List D) : dRev (.lst ds) = some (.lst ds.reverse) := rfl
@[simp] theorem dRev_tup (ds : List D) : dRev (.tup ds) = some (.tup ds.reverse) := rfl
theorem ix_at {ds : List D} {i : Nat} {d : D} (h : ds[i]? = some d) : L2.atI ds (i : Int) = some d := by
  have hi : i < ds.length := (List.getElem?_eq_some_iff.mp h).1
  unfold L2.atI ixN
  have h1 : (0 : Int) ≤ (i : Int) ∧ (i : Int) < (ds.length : Int) := by omega
  simp [h1, h]
theorem range1_nat (n : Nat) (h : n < 1000000) : range1 (.int n) = some (rangeD 0 n) := by
  have h1 : (-(2 ^ 62) : Int) ≤ (n : Int) ∧ (n : Int) < 2 ^ 62 := by omega
  simp only [range1]
  rw [if_pos h1, Int.toNat_natCast]
theorem range2_nat (m n : Nat) (h : n < 1000000) (hm : m < 1000000) : range2 (.int m) (.int n) = some (rangeD m (n - m)) := by
  have h1 : (-(2 ^ 62) : Int) ≤ (m : Int) ∧ (m : Int) < 2 ^ 62 ∧ (-(2 ^ 62) : Int) ≤ (n : Int) ∧ (n : Int) < 2 ^ 62 := by omega
  simp only [range2]
  rw [if_pos h1, show ((n : Int) - m).toNat = n - m by omega]
section
variable {S : Type}
theorem lcGo_map {g : D → List Sl → Option (List Sl)} {ft : EvT' S} {fe : EvF S} {ρ : List Sl} {h : D → D} {s : S} : ∀ {ds : List D}, (∀ d ∈ ds, ∃ ρ2, g d ρ = some ρ2 ∧ ft ρ2 s = .ok true s ∧ fe ρ2 s = .ok (h d) s) → lcGo g ft fe ρ ds s = .ok (ds.map h) s
  | [], _ => rfl
  | d :: ds, k => by
    obtain ⟨ρ2, e1, e2, e3⟩ := k d List.mem_cons_self
    rw [lcGo_cons e1, e2]
    simp only [noErr_okS, bind_okS, if_true, e3, lcGo_map fun x hx => k x (List.mem_cons_of_mem _ hx), List.map_cons]
theorem lcGo_filter {g : D → List Sl → Option (List Sl)} {ft : EvT' S} {fe : EvF S} {ρ : List Sl} {p : D → Bool} {h : D → D} {s : S} : ∀ {ds : List D}, (∀ d ∈ ds, ∃ ρ2, g d ρ = some ρ2 ∧ ft ρ2 s = .ok (p d) s ∧ (p d = true → fe ρ2 s = .ok (h d) s)) → lcGo g ft fe ρ ds s = .ok ((ds.filter p).map h) s
  | [], _ => rfl
  | d :: ds, k => by
    obtain ⟨ρ2, e1, e2, e3⟩ := k d List.mem_cons_self
    rw [lcGo_cons e1, e2]
    have ih := lcGo_filter (ds := ds) fun x hx => k x (List.mem_cons_of_mem _ hx)
    cases q : p d with
    | true => simp [q, e3 q, ih]
    | false => simp [q, ih]
theorem forGo_inv {g : D → List Sl → Option (List Sl)} {body : ExF S} (I : List D → List Sl → S → Prop) (h : ∀ d r ρ s, I (d :: r) ρ s → ∃ ρ1, g d ρ = some ρ1 ∧ ∃ ρ2 s2, body ρ1 s = .nxt ρ2 s2 ∧ I r ρ2 s2) : ∀ (ds : List D) (ρ : List Sl) (s : S), I ds ρ s → ∃ ρ' s', forGo g body ds ρ s = .nxt ρ' s' ∧ I [] ρ' s'
  | [], ρ, s, i => ⟨ρ, s, rfl, i⟩
  | d :: ds, ρ, s, i => by
    obtain ⟨ρ1, e1, ρ2, s2, e2, i2⟩ := h d ds ρ s i
    rw [forGo_cons e1, e2, turn_nxt]
    exact forGo_inv I h ds ρ2 s2 i2
/-- a loop that may return -/
theorem forGo_ret {g : D → List Sl → Option (List Sl)} {body : ExF S} (I : List D → List Sl → S → Prop) (Rt : Out S → Prop) (h : ∀ d r ρ s, I (d :: r) ρ s → ∃ ρ1, g d ρ = some ρ1 ∧ ((∃ ρ2 s2, body ρ1 s = .nxt ρ2 s2 ∧ I r ρ2 s2) ∨ ∃ b x s2, body ρ1 s = .ret b x s2 ∧ Rt (.ret b x s2))) : ∀ (ds : List D) (ρ : List Sl) (s : S), I ds ρ s → (∃ ρ' s', forGo g body ds ρ s = .nxt ρ' s' ∧ I [] ρ' s') ∨ Rt (forGo g body ds ρ s)
  | [], ρ, s, i => .inl ⟨ρ, s, rfl, i⟩
  | d :: ds, ρ, s, i => by
    obtain ⟨ρ1, e1, q⟩ := h d ds ρ s i
    rw [forGo_cons e1]
    rcases q with ⟨ρ2, s2, e2, i2⟩ | ⟨b, x, s2, e2, r⟩
    · rw [e2, turn_nxt]; exact forGo_ret I Rt h ds ρ2 s2 i2
    · rw [e2, turn_ret]; exact .inr r
end
end Q

/-! Lay27: the def that begins the drawing state. -/
namespace Q
open PySem PySem.Spec PyProof.Rows L2
def spBegun (K : PySem.W.Frag) : Sp := fun vs H Q _ => ∃ (a : Addr) (ns : List Int), vs = [.ref a] ∧ Frz K H a (ns.map V.int) ∧ ns.length ≤ 63 ∧
  ∀ (ad : Ad) (s : Dw) (H' : Hp), (TD ad).R s H' → s.cells.length = 64 → s.spot = 0 → (∀ b o, H b = some o → H' b = some o) → H ad.m = none → H ad.c = none → H ad.g = none → Q (.ref ad.m) H'
theorem RpL.ints {K : PySem.W.Frag} {H : Hp} {F : Addr → Prop} {vs : List V} {l : List Int} (h : RpL K H F vs (iD l)) : vs = l.map V.int := ints_of h (intsOf_iD l)
theorem rp_ints {K : PySem.W.Frag} {H : Hp} {F : Addr → Prop} : ∀ l : List Int, RpL K H F (l.map V.int) (iD l)
  | [] => .nil
  | x :: l => .cons (.int x) (rp_ints l)
/-- for some context -/
def tEx (K : PySem.W.Frag) (cls : Str → Option Addr) (W : L2.WX) (f : EvF Unit) : TE := fun σ H Q => ∃ C : Cn Unit, C.K = K ∧ C.T = TU ∧ C.cls = cls ∧ tF C W f σ H Q
theorem pe_ex {X : Cx} {K : PySem.W.Frag} {cls : Str → Option Addr} {W : L2.WX} {f : EvF Unit} {e : Expr} (h : ∀ C : Cn Unit, C.K = K → C.T = TU → C.cls = cls → PE X e (tF C W f)) : PE X e (tEx K cls W f) :=
  ⟨fun pins s σ H Q I ⟨C, h1, h2, h3, q⟩ => (h C h1 h2 h3).run pins s σ H Q I q⟩
theorem dw_merge (p c g : Addr) (n : Int) : mergeK [] [(.inr "cells", .ref c), (.inr "great", .ref g), (.inr "spot", .int n)] = dwK ⟨p, c, g⟩ n := by
  have h1 : ¬ ((.inr "cells" : Key) = .inr "great") := by decide
  have h2 : ¬ ((.inr "cells" : Key) = .inr "spot") := by decide
  have h3 : ¬ ((.inr "great" : Key) = .inr "spot") := by decide
  simp [mergeK, putK, dwK, h1, h2, h3]
theorem dw_putG {a : Ad} {n : Int} {g : Addr} : putK (dwK a n) (.inr "great") (.ref g) = dwK ⟨a.m, a.c, g⟩ n := by
  unfold putK dwK
  have h1 : ¬ ((.inr "cells" : Key) = .inr "great") := by decide
  have h2 : ¬ ((.inr "spot" : Key) = .inr "great") := by decide
  simp [h1, h2]
def bEc : List Stmt → Expr
  | [.Assign _ (.Dict _ [e, _, _] _) _, _, _] => e
  | _ => .List [] ⟨0, 0, 0, 0⟩
def bE1 : List Stmt → Expr
  | [_, .Assign _ e _, _] => e
  | _ => .List [] ⟨0, 0, 0, 0⟩
abbrev nBegun : List Str := ["_law_script", "_law_m", "_law_cell"]
theorem begun_ok {P : Program} {w : World} {K : PySem.W.Frag} {mg : Str → Option Value} {base : Heap} {cls : Str → Option Addr} {k : Nat} {f : Addr} {fd : FuncData} {x qual : Str} {params : Arguments} {body : List Stmt} {sco : Scope} {dvs : List V} {kws : List (Str × V)}
    (F : FunD K x qual params body sco dvs kws f fd) (hS : FnScope nBegun ["_law_script"] sco) (G : Gk Unit) (hG : GkM P w K mg base TU cls k G)
    (ec e1 : Expr)
    (hb : ∃ (p1 p2 p3 p4 p8 p9 p10 p11 q1 q2 q3 q4 r1 r2 : Pos) (k1 k2 k3 k4 k5 : Nat), body = [.Assign [.Name "_law_m" p1] (.Dict [some (.Constant (.str "cells") k1 p2), some (.Constant (.str "great") k2 p3), some (.Constant (.str "spot") k3 p4)] [ec, .List [] p8, .Constant (.int 0) k4 p9] p10) p11,
      .Assign [.Subscript (.Name "_law_m" q1) (.Constant (.str "great") k5 q2) q3] e1 q4, .Return (some (.Name "_law_m" r1)) r2])
    (hl : locB sco "_law_m" = true) (ho : okN nBegun sco "_law_m" = some 1)
    {Fo : List D → Unit → Res Unit D} (hec : evB G nBegun 40 sco ec = ⟨true, callF ⟨1, true, Fo⟩ (consA (vC 0) nilA), truth (callF ⟨1, true, Fo⟩ (consA (vC 0) nilA))⟩)
    (he1 : evB G nBegun 40 sco e1 = plain3 (lcE (iSeq (vK 0)) (tN 2) yesT (ifE (testB (bin dGe (vK 2) (bin dPow (kD (.int 10)) (kD (.int 18))))) (vC 2) (kD (.int 0))) [2]))
    (hFo : ∀ ns : List Int, ∃ cells : List Int, cells.length = 64 ∧ Fo [.scr (iD ns)] () = .ok (.lst (iD cells)) ()) :
    FnG P w K mg base (L2.CX P w) (k + 1) f fd ["_law_script"] (spBegun K) := by
  obtain ⟨p1, p2, p3, p4, p8, p9, p10, p11, q1, q2, q3, q4, r1, r2, k1, k2, k3, k4, k5, hb⟩ := hb
  have hsw : ∀ env : Env, swapsWith e1 (some (.Subscript (.Name "_law_m" q1) (.Constant (.str "great") k5 q2) q3)) q4.line env = pure false := fun env => by cases e1 <;> rfl
  obtain ⟨oc, od, dV, kV, doc, pm, an, cdv, ct, osl, rfl, lk, hcd, _, _⟩ := F.ex
  refine fnG_of lk hcd hS (fun vs H Q E h => by obtain ⟨a, ns, rfl, _⟩ := h; rfl) fun A outer s H vs Q E room gd wish => ?_
  let X := cxOf (L2.CX P w) P w K mg base nBegun qual sco f cdv A outer s H E
  let W : L2.WX := fun cl d _ H => E cl d H
  have xd : ∀ C : Cn Unit, C.K = K → Xd C W X nBegun sco := fun C hC => by
    have xk : Xk C W X nBegun sco := ⟨hC, rfl, hS.nd, rfl, rfl, by have := room.un; show (A.deeper _).units + 200 < _; omega, gd, takes_of rfl rfl rfl rfl⟩
    have xs : Xs C X nBegun sco := ⟨hC, rfl, hS.nd, rfl, fun y hy => ⟨locB_ok hy, .inl rfl⟩⟩
    exact { xk with s := xs, own := passes_of rfl }
  have g : ∀ C : Cn Unit, C.K = K → C.T = TU → C.cls = cls → GkOk C X G := fun C h1 h2 h3 => gk_of hG h1 h2 h3 rfl rfl rfl rfl rfl room
  have pc : PE X ec (tEx K cls W (callF ⟨1, true, Fo⟩ (consA (vC 0) nilA))) := pe_ex fun C h1 h2 h3 => by
    have h := (ev_ok 40 (xd C h1).toXk (g C h1 h2 h3) ec).toSnd
    rw [hec] at h
    exact h.f rfl
  have p1' : PE X e1 (tEx K cls W (lcE (iSeq (vK 0)) (tN 2) yesT (ifE (testB (bin dGe (vK 2) (bin dPow (kD (.int 10)) (kD (.int 18))))) (vC 2) (kD (.int 0))) [2])) := pe_ex fun C h1 h2 h3 => by
    have h := (ev_ok 40 (xd C h1).toXk (g C h1 h2 h3) e1).toSnd
    rw [he1] at h
    exact h.f rfl
  have pl : PE X (.List [] p8) (tEx K cls W (lstE nilA)) := pe_ex fun C h1 h2 h3 => sd_lst sa_nil
  have pm1 : ∀ pos, PE X (.Name "_law_m" pos) (tVar 1) := fun pos => pe_okN (C := ⟨K, TU, H, (), fun _ => False, cls⟩) (xd _ rfl).toXk ho
  have hu : X.A.units + 200 < cLine := (xd ⟨K, TU, H, (), fun _ => False, cls⟩ rfl).hu
  obtain ⟨hL, hF⟩ := (xd ⟨K, TU, H, (), fun _ => False, cls⟩ rfl).s.loc _ hl
  rw [hb]
  refine ⟨_, pss_cons (ps_set (i := 1) hS.nd rfl hL (pe_disp (pps_cons pe_str pc (pps_cons pe_str pl (pps_cons pe_str pe_int pps_nil))) rfl rfl (by simp) (by simp)) rfl hF)
    (pss_cons (ps_dput (show X.A.units + 1 < cLine by omega) (pm1 _) pe_str p1' (hsw _)) (pss_one (ps_ret (pm1 _)))), ?_⟩
  obtain ⟨a, ns, rfl, hz, hn, hQ⟩ := wish
  obtain ⟨cells, hc64, hcall⟩ := hFo ns
  intro p hp
  have Hp0 : ∀ b o, H b = some o → (upd H p (.dK [])) b = some o := fun b o e => by rw [upd_ne (ne_of_none e hp)]; exact e
  -- the cells
  have fz : ∀ {H' : Hp}, (∀ b o, H b = some o → H' b = some o) → Frz K H' a (ns.map V.int) := fun k => hz.imp (fun ⟨o, e⟩ => ⟨o, k _ _ e⟩) id
  refine ⟨⟨K, TU, upd H p (.dK []), (), fun _ => False, cls⟩, rfl, rfl, rfl, _, (), rel_start (N := nBegun) (vs := [.ref a]) (ds := [.scr (iD ns)]) (.cons (.scr (fz Hp0) (rp_ints ns)) .nil) trivial (fun _ z => z.elim), ?_⟩
  have ev : callF (⟨1, true, Fo⟩ : Fn Unit) (consA (vC 0) nilA) (rho0 nBegun [.scr (iD ns)]) () = .ok (.lst (iD cells)) () := by
    rw [show rho0 nBegun [.scr (iD ns)] = [.val (.scr (iD ns)), .no, .no] from rfl]
    simp [hcall]
  show Run _ _ _ _ _ _ (callF (⟨1, true, Fo⟩ : Fn Unit) (consA (vC 0) nilA) (rho0 nBegun [.scr (iD ns)]) ()) _
  rw [ev]
  intro H1 R1 x1 v1 fr1
  obtain ⟨c, vs1, rfl, hc0, hc1, rc⟩ := fr1.2 _ rfl
  have e1v := rc.ints
  subst e1v
  have k1' : ∀ b o, (upd H p (.dK [])) b = some o → H1 b = some o := fun b o e => x1.keep b o e (fun z => z)
  have hp1 : H1 p = some (.dK []) := k1' p _ upd_same
  have cp : c ≠ p := fun z => by rw [z, upd_same] at hc0; cases hc0
  have Hk1 : ∀ b o, H b = some o → H1 b = some o := fun b o e => k1' b o (Hp0 b o e)
  -- an empty list
  refine ⟨⟨K, TU, H1, (), fun _ => False, cls⟩, rfl, rfl, rfl, _, (), rel_start (N := nBegun) (vs := [.ref a]) (ds := [.scr (iD ns)]) (.cons (.scr (fz Hk1) (rp_ints ns)) .nil) trivial (fun _ z => z.elim), ?_⟩
  show Run _ _ _ _ _ _ (lstE nilA (rho0 nBegun [.scr (iD ns)]) ()) _
  have ev2 : lstE (nilA : EvL' Unit) (rho0 nBegun [.scr (iD ns)]) () = .ok (.lst []) () := by simp
  rw [ev2]
  intro H2 R2 x2 v2 fr2
  obtain ⟨g0, vs2, rfl, hg0, hg1, rg⟩ := fr2.2 _ rfl
  have k2' : ∀ b o, H1 b = some o → H2 b = some o := fun b o e => x2.keep b o e (fun z => z)
  refine ⟨k2' p _ hp1, [(.inr "cells", .ref c), (.inr "great", .ref g0), (.inr "spot", .int 0)], rfl, by simp, ?_⟩
  rw [dw_merge p c g0 0]
  have Hk3 : ∀ b o, H b = some o → (upd H2 p (.dK (dwK ⟨p, c, g0⟩ 0))) b = some o := fun b o e => by rw [upd_ne (ne_of_none e hp)]; exact k2' b o (Hk1 b o e)
  have hc3 : (upd H2 p (.dK (dwK ⟨p, c, g0⟩ 0))) c = some (.lst (cells.map V.int)) := by rw [upd_ne cp]; exact k2' c _ hc1
  have hp3 : (upd H2 p (.dK (dwK ⟨p, c, g0⟩ 0))) p = some (.dK (dwK ⟨p, c, g0⟩ 0)) := upd_same
  generalize hH3 : upd H2 p (.dK (dwK ⟨p, c, g0⟩ 0)) = H3 at Hk3 hc3 hp3 ⊢
  -- the great ones
  have hst : L2.St := []
  refine ⟨⟨K, TU, H3, (), fun _ => False, cls⟩, rfl, rfl, rfl, _, (), rel_start (N := nBegun) (vs := [.ref a, .ref p]) (ds := [.scr (iD ns), .opq (.ref p)]) (.cons (.scr (fz Hk3) (rp_ints ns)) (.cons (.opq _) .nil)) trivial (fun _ z => z.elim), ?_⟩
  have hpw : dPow (.int 10) (.int 18) = some (.int 1000000000000000000) := by kernel_rfl
  have key : ∀ l : List Int, ∃ r : List Int, r.length = l.length ∧ lcGo (S := Unit) (tN 2) yesT (ifE (testB (bin dGe (vK 2) (bin dPow (kD (.int 10)) (kD (.int 18))))) (vC 2) (kD (.int 0))) [.val (.scr (iD ns)), .val (.opq (.ref p)), .no] (iD l) () = .ok (iD r) () := by
    intro l
    induction l with
    | nil => exact ⟨[], rfl, rfl⟩
    | cons y l ih =>
      obtain ⟨r, h1, h2⟩ := ih
      refine ⟨(if 1000000000000000000 ≤ y then y else 0) :: r, by simp [h1], ?_⟩
      rw [iD_cons, lcGo_cons (ρ2 := [.val (.scr (iD ns)), .val (.opq (.ref p)), .val (.int y)]) (by simp)]
      by_cases hy : (1000000000000000000 : Int) ≤ y <;> simp [hpw, hy, h2]
  obtain ⟨great, hgl, hgo⟩ := key ns
  have ev3 : lcE (S := Unit) (iSeq (vK 0)) (tN 2) yesT (ifE (testB (bin dGe (vK 2) (bin dPow (kD (.int 10)) (kD (.int 18))))) (vC 2) (kD (.int 0))) [2] (rho0 nBegun [.scr (iD ns), .opq (.ref p)]) () = .ok (.lst (iD great)) () := by
    have hzl : great.length ≤ sizeLine := by rw [sizeLine_eq]; omega
    rw [show rho0 nBegun [.scr (iD ns), .opq (.ref p)] = [.val (.scr (iD ns)), .val (.opq (.ref p)), .no] from rfl]
    simp [hgo, hzl]
  show Run _ _ _ _ _ _ (lcE (S := Unit) (iSeq (vK 0)) (tN 2) yesT (ifE (testB (bin dGe (vK 2) (bin dPow (kD (.int 10)) (kD (.int 18))))) (vC 2) (kD (.int 0))) [2] (rho0 nBegun [.scr (iD ns), .opq (.ref p)]) ()) _
  rw [ev3]
  intro H4 R4 x4 v4 fr4
  obtain ⟨g1, vs4, rfl, hg40, hg41, rg4⟩ := fr4.2 _ rfl
  have e4v := rg4.ints
  subst e4v
  have k4' : ∀ b o, H3 b = some o → H4 b = some o := fun b o e => x4.keep b o e (fun z => z)
  have hp4 := k4' p _ hp3
  refine ⟨_, rfl, p, _, rfl, DPut.k (k := .inr "great") hp4 (by show 3 < sizeLine; decide), _, rfl, ?_⟩
  rw [dw_putG]
  have gp : g1 ≠ p := fun z => by rw [z, hp3] at hg40; cases hg40
  have cg : c ≠ g1 := fun z => by rw [← z, hc3] at hg40; cases hg40
  refine hQ ⟨p, c, g1⟩ ⟨cells, great, 0⟩ _ ⟨upd_same, ?_, ?_, cg⟩ hc64 rfl (fun b o e => ?_) hp ?_ ?_
  · show upd H4 p _ c = _
    rw [upd_ne cp]; exact k4' c _ hc3
  · show upd H4 p _ g1 = _
    rw [upd_ne gp]; exact hg41
  · rw [upd_ne (ne_of_none e hp)]; exact k4' b o (Hk3 b o e)
  · cases q : H c with
    | none => rfl
    | some o => rw [Hp0 c o q] at hc0; cases hc0
  · cases q : H g1 with
    | none => rfl
    | some o => rw [Hk3 g1 o q] at hg40; cases hg40
end Q

/-! Lay28: the law itself: it begins its state, then runs. -/
namespace Q
open PySem PySem.Spec PyProof.Rows L2
theorem pe_callG {X : Cx} {W : L2.WX} {k : Nat} {f : Addr} {fd : FuncData} {ps : List Str} {sp : Sp} {x : Str} {e : Expr} {es : List Expr} {p pos : Pos} {ta : TA} (F : FnG X.prog X.w X.K X.mg X.base (L2.CX X.prog X.w) k f fd ps sp) (hr : Room k X.A) (hgd : X.A.guards = some []) (tk : Takes X W)
    (h1 : Gl X x) (h2 : (x == ("__debug__" : Str)) = false) (hm : X.mg x = some (.ref f)) (hk : PySem.W.keepIn X.K (.ref f) = true) (hb : Binds X.K fd ps []) (ha : PA X (e :: es) ta) (hs : (e :: es).all (fun e => !isStar e) = true) :
    PE X (.Call (.Name x p) (e :: es) [] pos) (fun σ H Q => ta σ H fun vs H1 => sp vs H1 Q (WE W σ)) := by
  simp only [List.all_cons, Bool.and_eq_true, Bool.not_eq_true'] at hs
  refine ⟨fun pins s σ H Q I h => ?_⟩
  refine wpAny_Call_Name_kw (ld_glob I h1 hm ?_ h2)
  refine PySem.W.callWith_K (h₀ := X.base) I.ok.mod.kin hk (thn (ha.run pos pins s σ H _ I h) fun us s1 ⟨vs, H1, I1, r, q⟩ => ⟨I1.kIn, ?_⟩) (star_no hs.1) (star_back hs.2)
  exact run_fnG (E := WE W) F hr hgd hb (passAt tk σ) I1 r q
def spLaw (K : PySem.W.Frag) : Sp := fun vs H Q _ => ∃ (a : Addr) (ns : List Int), vs = [.ref a] ∧ Frz K H a (ns.map V.int) ∧ ns.length ≤ 63 ∧ ∀ H', Q (.bl true) H'
theorem law_ok {P : Program} {w : World} {K : PySem.W.Frag} {mg : Str → Option Value} {base : Heap} {cls : Str → Option Addr} {k m : Nat} {f : Addr} {fd : FuncData} {x qual : Str} {params : Arguments} {body rest : List Stmt} {sco : Scope} {dvs : List V} {kws : List (Str × V)} {N' : List Str}
    (F : FunD K x qual params body sco dvs kws f fd) (hS : FnScope ("_law_script" :: "_law_m" :: N') ["_law_script"] sco)
    (hb : ∃ p1 p2 p3 p4 p5 : Pos, body = .Assign [.Name "_law_m" p1] (.Call (.Name "_law_begun" p2) [.Name "_law_script" p3] [] p4) p5 :: rest)
    (hl : locB sco "_law_m" = true) (ho : okN ("_law_script" :: "_law_m" :: N') sco "_law_script" = some 0) (hgl : glB sco "_law_begun" = true)
    {fb : Addr} {fdb : FuncData} (B : FnG P w K mg base (L2.CX P w) k fb fdb ["_law_script"] (spBegun K)) (hm : mg "_law_begun" = some (.ref fb)) (hk : PySem.W.keepIn K (.ref fb) = true) (hbi : Binds K fdb ["_law_script"] [])
    (Ks : Ad → Dk Dw) (hK : ∀ ad : Ad, (Ks ad).N = (("_law_script" : Str) :: ("_law_m" : Str) :: N') ∧ (Ks ad).sc = sco ∧ GkM P w K mg base (TD ad) cls k (Ks ad).G ∧ ∀ {C : Cn Dw} {W : L2.WX} {X : Cx}, C.K = K → C.T = TD ad → C.cls = cls → Xd C W X ("_law_script" :: "_law_m" :: N') sco → GkOk C X (Ks ad).G → StOk C W X (Ks ad))
    (run : ∀ (ad : Ad) (ns : List Int) (s : Dw), ad.c ≠ ad.g → ns.length ≤ 63 → s.cells.length = 64 → s.spot = 0 → ∃ (b : Bool) (s' : Dw), exs (Ks ad) m rest (rho0 ("_law_script" :: "_law_m" :: N') [.scr (iD ns), .opq (.ref ad.m)]) s = .ret b (.bl true) s') :
    FnG P w K mg base (L2.CX P w) (k + 1) f fd ["_law_script"] (spLaw K) := by
  obtain ⟨p1, p2, p3, p4, p5, hb⟩ := hb
  obtain ⟨oc, od, dV, kV, doc, pm, an, cdv, ct, osl, rfl, lk, hcd, _, _⟩ := F.ex
  refine fnG_of lk hcd hS (fun vs H Q E h => by obtain ⟨a, ns, rfl, _⟩ := h; rfl) fun A outer s H vs Q E room gd wish => ?_
  let N : List Str := "_law_script" :: "_law_m" :: N'
  let X := cxOf (L2.CX P w) P w K mg base N qual sco f cdv A outer s H E
  let W : L2.WX := fun cl d _ H => E cl d H
  have xd : ∀ {S : Type} (C : Cn S), C.K = K → Xd C W X N sco := fun C hC => by
    have xk : Xk C W X N sco := ⟨hC, rfl, hS.nd, rfl, rfl, by have := room.un; show (A.deeper _).units + 200 < _; omega, gd, takes_of rfl rfl rfl rfl⟩
    have xs : Xs C X N sco := ⟨hC, rfl, hS.nd, rfl, fun y hy => ⟨locB_ok hy, .inl rfl⟩⟩
    exact { xk with s := xs, own := passes_of rfl }
  have x0 := xd (⟨K, TU, H, (), fun _ => False, cls⟩ : Cn Unit) rfl
  obtain ⟨hL, hF⟩ := x0.s.loc _ hl
  obtain ⟨g1, g2, g3⟩ := gl_of x0.toXk hgl
  have pr : PSs X rest (fun D σ H => ∃ (ad : Ad) (C : Cn Dw), C.K = K ∧ C.T = TD ad ∧ C.cls = cls ∧ tS C W (exs (Ks ad) m rest) D σ H) := ⟨fun pins s σ H D I ⟨ad, C, h1, h2, h3, q⟩ => by
    obtain ⟨a1, a2, a3, a4⟩ := hK ad
    have gk : GkOk C X (Ks ad).G := gk_of a3 h1 h2 h3 rfl rfl rfl rfl rfl room
    have so := a4 h1 h2 h3 (xd C h1) gk
    have xd' := xd C h1
    rw [show N = (Ks ad).N from a1.symm, ← a2] at xd'
    exact ((ex_ok xd' gk so m).2 rest).run pins s σ H D I q⟩
  rw [hb]
  refine ⟨_, pss_cons (ps_set (i := 1) hS.nd rfl hL (pe_callG (W := W) B room gd (takes_of rfl rfl rfl rfl) g1 g2 hm hk hbi (pa_cons (pe_okN x0.toXk ho) pa_nil) rfl) rfl hF) pr, ?_⟩
  obtain ⟨a, ns, rfl, hz, hn, hQ⟩ := wish
  refine ⟨_, rfl, a, ns, rfl, hz, hn, fun ad st H' R h64 h0 keep n1 n2 n3 => ?_⟩
  refine ⟨ad, ⟨K, TD ad, H', st, fun _ => False, cls⟩, rfl, rfl, rfl, ⟨fun _ => 0, fun _ => False, rho0 N [.scr (iD ns), .opq (.ref ad.m)]⟩, st, ?_, ?_⟩
  · exact rel_start (N := N) (vs := [.ref a, .ref ad.m]) (ds := [.scr (iD ns), .opq (.ref ad.m)]) (.cons (.scr (hz.imp (fun ⟨o, e⟩ => ⟨o, keep _ _ e⟩) id) (rp_ints ns)) (.cons (.opq _) .nil)) R (fun _ z => z.elim)
  · obtain ⟨b, s', e⟩ := run ad ns st R.2.2.2 hn h64 h0
    show RunS _ _ _ _ _ (exs (Ks ad) m rest (rho0 N [.scr (iD ns), .opq (.ref ad.m)]) st) _
    rw [e]
    intro v H2 _ _ fp
    have := rp_bl fp.1
    subst this
    exact hQ H2
end Q

/-! Lay29: sets of whole numbers, in order. -/
namespace Q
open PySem PySem.Spec PyProof.Rows L2
/-! ### set(list of ints) -/
abbrev oS (w : World) : Obj := { cls := .type "set", dict := none, data := .set #[] 0 (.fresh 0 0 (!w.params.followText "set-order")) }
section
variable {P : Program} {w : World} {A : Around} {E : Value → Shared → Prop} {s : Shared}
set_option maxHeartbeats 3200000 in
theorem set_lstI {l : Addr} {its : Array Value} (ns : List Int) {R : Value → Shared → Prop} (ha : A.handled = none) (il : s.heap.IsList l its) (ii : IntsAre its.toList ns) (hs : ns.length + 1 < scanBound)
    (kk : ∀ (h' : Heap) (t c : Nat), SetR w h' s.heap.objs.size (fun j => decide (j ∈ ns)) c → c ≤ ns.length → (∀ b o, s.heap.get? b = some o → h'.get? b = some o) → R (.ref s.heap.objs.size) { s with heap := h', toks := t }) :
    wpAny (model P w) A (call (.type "set") [.ref l]) R E s := by
  have sz : its.size = ns.length := by simpa using IntsAre.length ii
  obtain ⟨c0, t0, m0⟩ := F.called_set.mro
  have m1 := F.called_set.made
  have m2 := F.called_set.sub
  refine wpAny_call (codeAny_of_tree (show wpAny _ _ (callAny (.type "set") _) _ _ _ from ?_))
  refine wpAny_pure ⟨Code.quiet_builtin _ (by decide +kernel), codeAny_builtin F.entry_type_call ?_⟩
  rw [Around.under_plain (weight_type_call_type "set" [.ref l] []) rfl]
  have m3 := F.called_set.notType
  have m4 := F.called_set.canCreate
  have m5 := F.typeCall_set_1 (.ref l)
  repeat (any_goals (first | assumption | wp_step))
  refine codeAny_mono (code_set_led1 (.ref l) (E := E) (Q₁ := fun o s1 => o = .ref s.heap.objs.size ∧ s1 = { s with heap := s.heap.push (oS w) }) ⟨rfl, rfl⟩) fun r s1 hr => ?_
  cases r with
  | error e => exact hr
  | ok fl =>
    cases fl with
    | ret o =>
      obtain ⟨rfl, rfl⟩ := hr
      have g0 : (s.heap.push (oS w)).get? s.heap.objs.size = some (oS w) := Heap.get?_push_size _ rfl
      have ty : Shared.TypeIs { s with heap := s.heap.push (oS w) } (.ref s.heap.objs.size) "set" := ⟨_, g0, rfl⟩
      have i1 := F.called_set.init.lookup
      have i2 := F.called_set.init.bind (.ref s.heap.objs.size)
      repeat (any_goals (first | assumption | wp_step))
      refine codeAny_mono (codeAny_call_builtin (R := wants (fun r s2 => r = .none ∧ ∃ h' t c, s2 = { s with heap := h', toks := t } ∧ SetR w h' s.heap.objs.size (fun j => decide (j ∈ ns)) c ∧ c ≤ ns.length ∧ ∀ b o, s.heap.get? b = some o → h'.get? b = some o) E) F.called_set.init.plain F.entry_set_init (check_set_init_1 ty ?_)) fun r2 s2 hr2 => ?_
      · obtain ⟨⟨oc, od, ot, os⟩, e0, e1, n0, e2⟩ := il
        simp only at e1 e2
        subst e1 e2
        have e3 : (s.heap.push (oS w)).get? l = some { cls := .type "list", dict := od, data := .seq its n0, slots := os } := Heap.get?_push_of_some _ e0
        have u1 := F.sub_list_set
        have u2 := F.sub_list_frozenset
        have u3 : (Value.type "list" == Value.type "dict") = false := by decide
        have il1 : (s.heap.push (oS w)).IsList l its := ⟨_, e3, rfl, n0, rfl⟩
        unfold Builtin.«set.__init__» noKeywords Builtin.Frozenset.updateFrom
        generalize hq : pyIter = qq
        wp_walk
        subst hq
        refine wpAny_pyIter_list il1 (wpAny_bind (wpAny_runValue ?_))
        have lt : l < s.heap.objs.size := Heap.lt_size e0
        have zz : (s.heap.push (oS w)).objs.size = s.heap.objs.size + 1 := Heap.size_push ..
        have na : A.in1.in1.in1.handled = none := by simp [ha]
        have n1 : l ≠ (s.heap.push (oS w)).objs.size := by rw [zz]; exact Nat.ne_of_lt (Nat.lt_succ_of_lt lt)
        have n2 : s.heap.objs.size ∉ [(s.heap.push (oS w)).objs.size, l] := by
          rw [zz]
          intro hm
          rcases List.mem_cons.mp hm with e | e
          · exact absurd e (Nat.ne_of_lt (Nat.lt_succ_self _))
          · exact absurd (List.mem_singleton.mp e) (Nat.ne_of_gt lt)
        have vv : ∀ (i : Nat) (v : Value), its[i]? = some v → ∃ k t, ns[i]? = some k ∧ v = .int k t := fun i v hv => by
          have hi : i < ns.length := by rw [← sz]; exact (Array.getElem?_eq_some_iff.mp hv).1
          obtain ⟨t, e⟩ := PyProof.Rows.IntsAre.int_at ii i v (by rw [Array.getElem?_toList]; exact hv)
          exact ⟨ns[i], t, List.getElem?_eq_getElem hi, by rw [e, List.getD_eq_getElem?_getD, List.getElem?_eq_getElem hi] <;> rfl⟩
        refine set_update_ints (Walks.list na _ l n1 its).toS s.heap.objs.size n2 ns sz hs vv (its.size - 0) 0 _ (by omega) (Nat.zero_le _) ⟨⟨_, Heap.get?_push_size _ rfl, rfl, rfl⟩, il1.push _⟩ ?a0 ?a1
        case a0 => exact ⟨0, Nat.le_refl 0, setR_new_at (Heap.get?_push_of_some _ g0)⟩
        case a1 =>
          rintro ⟨h', g', d', t', o'⟩ c' mv le sr
          have q1 : g' = s.gens := mv.gens
          have q2 : d' = s.drawn := mv.drawn
          have q3 : o' = s.os := mv.os
          subst q1 q2 q3
          refine wpAny_pure (show wpAny _ _ (ret Value.none) _ _ _ from ?_)
          rw [sz] at le
          refine wpAny_pure ⟨rfl, h', t', c', rfl, sr, le, fun b o e => ?_⟩
          have bl : b < s.heap.objs.size := Heap.lt_size e
          refine mv.heap b o (fun hm => ?_) (Heap.get?_push_of_some _ (Heap.get?_push_of_some _ e))
          rw [zz] at hm
          rcases List.mem_cons.mp hm with e | e
          · exact absurd e (Nat.ne_of_lt bl)
          · exact absurd (List.mem_singleton.mp e) (Nat.ne_of_lt (Nat.lt_succ_of_lt bl))
      · cases r2 with
        | error e => exact hr2
        | ok f2 =>
          cases f2 with
          | ret r =>
            obtain ⟨rfl, h', t, c', rfl, sr, le, k'⟩ := hr2
            repeat (any_goals (first | assumption | wp_step))
            exact kk _ _ _ sr le k'
          | _ => exact hr2.elim
    | _ => exact hr.elim
end
/-! ### sorted(set(list)) -/
def rSetL (K : PySem.W.Frag) (w : World) : List V → Hp → VK → Prop := fun xs H Q => ∃ (l : Addr) (ns : List Int), xs = [.ref l] ∧ SqL K H l (ns.map V.int) ∧ ns.length ≤ 1000 ∧ ∀ p n, H p = none → n ≤ ns.length → Q (.ref p) (upd H p (SetO w p (fun j => decide (j ∈ ns)) n))
theorem cr_setL {X : Cx} (hc : X.calm = true) : CallR X (.type "set") (rSetL X.K X.w) := by
  intro pins s σ H vs us Q I r h
  obtain ⟨l, ns, rfl, hs, hl, q⟩ := h
  rw [Vals.ref1 r]
  obtain ⟨its, rv, ⟨o, n, ho, hcl, hdn, hd⟩, hz⟩ := I.list hs
  refine set_lstI ns (I.ok.hd hc) (its := its.toArray) ⟨o, ho, hcl, n, hd⟩ (ints_of_vals rv) (by unfold scanBound; omega) fun h' t c R le k => ?_
  exact ⟨.ref _, upd H s.heap.objs.size (SetO X.w s.heap.objs.size (fun j => decide (j ∈ ns)) c), I.laid (t' := t) k (Nat.le_refl _) (setO_new R), rfl, q _ _ (I.hok.fresh (Nat.le_refl _)) le⟩
/-- ascending, each once -/
def insU (x : Int) : List Int → List Int
  | [] => [x]
  | y :: r => if x < y then x :: y :: r else if x = y then y :: r else y :: insU x r
def srtU (l : List Int) : List Int := l.foldr insU []
theorem mem_insU {x z : Int} : ∀ {l : List Int}, z ∈ insU x l ↔ z = x ∨ z ∈ l
  | [] => by simp [insU]
  | y :: r => by
    unfold insU
    split
    · simp
    · split
      · rename_i h; subst h; simp
      · simp only [List.mem_cons, mem_insU (l := r)]
        constructor
        · rintro (h | h | h) <;> simp [h]
        · rintro (h | h | h) <;> simp [h]
theorem mem_srtU {z : Int} : ∀ {l : List Int}, z ∈ srtU l ↔ z ∈ l
  | [] => by simp [srtU]
  | y :: r => by
    show z ∈ insU y (srtU r) ↔ _
    rw [mem_insU, mem_srtU (l := r), List.mem_cons]
theorem asc_insU {x : Int} : ∀ {l : List Int}, l.Pairwise (· < ·) → (insU x l).Pairwise (· < ·)
  | [], _ => by simp [insU]
  | y :: r, h => by
    obtain ⟨h1, h2⟩ := List.pairwise_cons.mp h
    unfold insU
    split
    · rename_i hx
      refine List.pairwise_cons.mpr ⟨fun z hz => ?_, h⟩
      rcases List.mem_cons.mp hz with rfl | hz
      · exact hx
      · have := h1 z hz; omega
    · split
      · exact h
      · refine List.pairwise_cons.mpr ⟨fun z hz => ?_, asc_insU h2⟩
        rcases mem_insU.mp hz with rfl | hz
        · omega
        · exact h1 z hz
theorem asc_srtU : ∀ l : List Int, (srtU l).Pairwise (· < ·)
  | [] => by simp [srtU]
  | _ :: r => asc_insU (asc_srtU r)
/-- two ascending lists with the same members are one -/
theorem asc_ext : ∀ {a b : List Int}, a.Pairwise (· < ·) → b.Pairwise (· < ·) → (∀ z, z ∈ a ↔ z ∈ b) → a = b
  | [], [], _, _, _ => rfl
  | [], y :: b, _, _, h => by have := (h y).mpr (by simp); simp at this
  | x :: a, [], _, _, h => by have := (h x).mp (by simp); simp at this
  | x :: a, y :: b, ha, hb, h => by
    obtain ⟨a1, a2⟩ := List.pairwise_cons.mp ha
    obtain ⟨b1, b2⟩ := List.pairwise_cons.mp hb
    have e : x = y := by
      have h1 := (h x).mp (by simp)
      have h2 := (h y).mpr (by simp)
      rcases List.mem_cons.mp h1 with z | z
      · exact z
      · rcases List.mem_cons.mp h2 with z' | z'
        · exact z'.symm
        · have := b1 x z; have := a1 y z'; omega
    subst e
    congr 1
    refine asc_ext a2 b2 fun z => ⟨fun hz => ?_, fun hz => ?_⟩
    · rcases List.mem_cons.mp ((h z).mp (List.mem_cons_of_mem _ hz)) with e | q
      · have := a1 z hz; omega
      · exact q
    · rcases List.mem_cons.mp ((h z).mpr (List.mem_cons_of_mem _ hz)) with e | q
      · have := b1 z hz; omega
      · exact q
def dSrtU : D → Option D
  | .lst ds => (intsOf ds).bind fun ns => if ns.length < 64 then some (.lst (iD (srtU ns))) else none
  | _ => none
section
variable {S : Type} {C : Cn S} {W : L2.WX} {X : Cx}
def ssE (f : EvF S) : EvF S := fun ρ s => (f ρ s).bind fun d s1 => ofO (dSrtU d) s1
theorem bt_set : bootBuiltins (Str.ofString "set") = some (.type "set") := by decide +kernel
theorem bt_sorted : bootBuiltins (Str.ofString "sorted") = some (.builtin "sorted") := by decide +kernel
theorem sd_srtU {N : List Str} {sc : Scope} (k : Xk C W X N sc) {e : Expr} {p p2 pos pos2 : Pos} {f : EvF S} (g1 : glB sc "sorted" = true) (g2 : glB sc "set" = true) (m1 : X.mg "sorted" = none) (m2 : X.mg "set" = none) (hs : isStar e = false) (he : PE X e (tK C W f)) :
    PE X (.Call (.Name "sorted" p) [.Call (.Name "set" p2) [e] [] pos2] [] pos) (tF C W (ssE f)) := by
  obtain ⟨a1, a2, a3⟩ := gl_of k g1
  obtain ⟨b1, b2, b3⟩ := gl_of k g2
  refine pe_mono (pe_callB (cr_sortedSet k.calm) a1 m1 bt_sorted (pa_cons (pe_callTy (cr_setL k.calm) b1 m2 bt_set (pa_cons he pa_nil (star_no hs)) b3 b2 (star_no hs) (star_back (by rfl))) pa_nil) a3 a2) fun σ H Q ⟨P, s, R, q⟩ => ⟨P, s, R, q.bind.mono fun d s1 H1 R1 x1 q1 v tv => ?_⟩
  obtain ⟨d', e1, kk⟩ := run_ofO q1
  cases d with
  | lst ds =>
    simp only [dSrtU, Option.bind_eq_some_iff] at e1
    obtain ⟨ns, e2, e3⟩ := e1
    split at e3
    · rename_i hl
      cases e3
      obtain ⟨a, vs, rfl, ha, rv⟩ := tv.lst
      have := ints_of rv e2
      subst this
      refine ⟨a, ns, rfl, .inl (.inl ha), by omega, fun p n hp hn => ?_⟩
      refine ⟨p, _, n, rfl, upd_same, by omega, fun ms l asc mem len hl => ?_⟩
      have em : ms = srtU ns := asc_ext asc (asc_srtU ns) fun z => by rw [mem z, mem_srtU]; simp
      subst em
      have x2 : Xt C.T s1 s1 H1 (upd H1 p (SetO X.w p (fun j => decide (j ∈ ns)) n)) := Xt.new hp
      have R2 := R1.new (o := SetO X.w p (fun j => decide (j ∈ ns)) n) hp
      exact kk _ (R2.new hl) (x2.trans (Xt.new hl)) _ ((Fr.newL R2 hl (rp_ints (srtU ns))).back (x1.trans x2))
    · cases e3
  | _ => simp [dSrtU] at e1
end
end Q

/-! Lay29b: stores into slices of own lists, augmented items of own lists. -/
namespace Q
open PySem PySem.Spec PyProof.Rows L2
section
variable {X : Cx}
theorem get_list : PGet X (rIxL X.K) := by
  intro pins s σ H o i ov iv Q I ro ri h
  obtain ⟨p, xs, k, z, rfl, rfl, hq, he, q⟩ := h
  cases ro
  obtain ⟨t, rfl⟩ := ri
  obtain ⟨its, r, pl, hz⟩ := I.list hq
  obtain ⟨j, h1, h2, h3, h4, h5⟩ := atI_get he
  obtain ⟨w, ew, rw'⟩ := r.get h2
  have hl := r.length
  have hn := line63
  have fin : EP X pins σ Q w s := ⟨z, H, I, rw', q⟩
  by_cases h0 : 0 ≤ k
  · have hj : k.toNat = j := by
      rw [seqIndex_of h0 h5] at h1
      exact Option.some.inj h1
    exact wpAny_getItem_list pl.isList h0 (by omega) (by rw [hj]; simpa using ew) fin
  · have hj : (k + (its.toArray.size : Int)).toNat = j := by
      rw [seqIndex_neg (by omega) h4] at h1
      rw [List.size_toArray, ← hl]
      exact Option.some.inj h1
    exact wpAny_getItem_list_neg pl.isList (by omega) (by rw [List.size_toArray] <;> omega) (by omega) (by rw [hj]; simpa using ew) fin
/-- o[a:c] = v -/
def gSlc (to tl th : TE) : TG := fun v σ H Q => to σ H fun o H1 => tl σ H1 fun a H2 => th σ H2 fun c H3 => ∃ p xs b ys ai ci, o = .ref p ∧ v = .ref b ∧ a = .int ai ∧ c = .int ci ∧ H3 p = some (.lst xs) ∧ H3 b = some (.lst ys) ∧ p ≠ b ∧ 0 ≤ ai ∧ ai ≤ ci ∧ ci ≤ (xs.length : Int) ∧ xs.length + ys.length ≤ sizeLine ∧ Q σ (upd H3 p (.lst (xs.take ai.toNat ++ ys ++ xs.drop ci.toNat)))
theorem pg_slc {o lo hi : Expr} {p2 pos : Pos} {to tl th : TE} (ho : PE X o to) (hl : PE X lo tl) (hh : PE X hi th) : PG X (.Subscript o (.Slice (some lo) (some hi) none p2) pos) (gSlc to tl th) := by
  refine ⟨fun pins s σ H v u Q I r h => ?_⟩
  show wpAny (model X.prog X.w) X.A (do
      let ov ← holding [u] (eval o X.env)
      let iv ← holding [u, ov] (eval (.Slice (some lo) (some hi) none p2) X.env)
      standAt pos
      holding [u, ov, iv] (setItem ov iv u)
      release [iv, u, ov] []) _ _ _
  refine wpAny_bind (wpAny_holding (thn (ho.run pins s σ H _ I h) fun ov s1 ⟨x, H1, I1, r1, q1⟩ => ?_))
  refine wpAny_bind (wpAny_holding ?_)
  refine wpAny_Slice ?_
  refine thn (hl.run pins s1 σ H1 _ I1 q1) fun vl s2 ⟨l, H2, I2, pl, q2⟩ => ?_
  refine thn (hh.run pins s2 σ H2 _ I2 q2) fun vu s3 ⟨c, H3, I3, pu, q3⟩ => ?_
  rw [evalPart_none]
  refine wpAny_pure ?_
  obtain ⟨p, xs, b, ys, ai, ci, rfl, rfl, rfl, rfl, h1, h2, hne, h0, hac, hc, hz, q⟩ := q3
  cases r1
  cases r
  have I4 : Inv X pins σ H3 { s3 with heap := s3.heap.push { cls := .type "slice", data := .fields #[vl, vu, .none] } } := I3.kept (t' := s3.toks) fun b ob q => Heap.get?_push_of_some _ q
  refine wpAny_bind (wpAny_standAt (wpAny_bind (wpAny_holding ?_)))
  exact set_slice I4 h1 h2 hne (Heap.IsSliceOf.new ..) pl pu h0 hac hc hz fun s' I5 => wpAny_release ⟨σ, _, I5, q⟩
end
section
variable {S : Type} {C : Cn S} {W : L2.WX} {X : Cx}
/-- x[a:c] = e, of an own list -/
def setSlS (i : Nat) (fe fa fc : EvF S) : ExF S := fun ρ s => match ρ[i]? with
  | some (.own ds) => thenS ρ (fe ρ s) fun d s1 => thenS ρ (fa ρ s1) fun a s2 => thenS ρ (fc ρ s2) fun c s3 => match d, a, c with
    | .lst es, .int a, .int c => if 0 ≤ a ∧ a ≤ c ∧ c ≤ (ds.length : Int) ∧ ds.length + es.length ≤ sizeLine then .nxt (ρ.set i (.own (ds.take a.toNat ++ es ++ ds.drop c.toNat))) s3 else .stuck
    | _, _, _ => .stuck
  | _ => .stuck
theorem sx_setSl {N : List Str} {sc : Scope} (k : Xd C W X N sc) {x : Str} {i : Nat} {a c e : Expr} {p p2 tp pos : Pos} {fe fa fc : EvF S} (hi : okN N sc x = some i) (hc : isComp e = false) (hw : swappedStores [.Subscript (.Name x p) (.Slice (some a) (some c) none p2) tp] e X.env = pure none) (he : PE X e (tP C W fe)) (ha : PE X a (tK C W fa)) (hcc : PE X c (tK C W fc)) :
    PS X (.Assign [.Subscript (.Name x p) (.Slice (some a) (some c) none p2) tp] e pos) (tS C W (setSlS i fe fa fc)) := by
  refine ps_mono (ps_asg he (pg_slc (pe_okN k.toXk hi) ha hcc) (sole_no hc) hw rfl) fun D σ H ⟨P, s, R, q⟩ => ?_
  unfold setSlS at q
  split at q
  · rename_i ds hd
    refine ⟨P, s, R, q.run.mono fun d s1 H1 R1 x1 q1 v rv => ?_⟩
    have o1 : OwnOk C P σ H1 s1 i ds := R1.slot i _ hd
    refine ⟨_, o1.at_, P, s1, R1, q1.run.mono fun z s2 H2 R2 x2 q2 w tw => ?_⟩
    refine ⟨P, s2, R2, q2.run.mono fun c s3 H3 R3 x3 q3 w3 tw3 => ?_⟩
    have o3 : OwnOk C P σ H3 s3 i ds := R3.slot i _ hd
    obtain ⟨ws, g1, g2⟩ := o3.is
    split at q3
    · rename_i es ai ci
      split at q3
      · rename_i hq
        obtain ⟨b1, b2, b3, b4⟩ := hq
        have r3 := (rv.xt x2 R1.st).xt x3 R2.st
        cases r3 with
        | @lst b ys _ fb hb rb =>
        obtain ⟨w1, w2⟩ := R3.write hd (((g2.take ai.toNat).append rb).append (g2.drop ci.toNat))
        refine ⟨_, ws, b, ys, ai, ci, rfl, rfl, top_int tw, top_int tw3, g1, hb, fun e => fb.2.1 ⟨i, _, ds, hd, rfl, e⟩, b1, b2, by rw [g2.length]; exact b3, by rw [g2.length, rb.length]; exact b4, q3 _ σ _ rfl w1 w2⟩
      · exact q3.elim
    · exact q3.elim
  · exact q.elim
/-- x[j] op= e, of an own list of ints -/
def augItS (i : Nat) (op : Operator) (fj fe : EvF S) : ExF S := fun ρ s => match ρ[i]? with
  | some (.own ds) => thenS ρ (fj ρ s) fun j s1 => match j with
    | .int z => (match ixN ds.length z with
      | some n => (match ds[n]? with
        | some (.int a) => thenS ρ (fe ρ s1) fun d s2 => (match d with
          | .int b => (match augI op a b with
            | some c => .nxt (ρ.set i (.own (ds.set n (.int c)))) s2
            | none => .stuck)
          | _ => .stuck)
        | _ => .stuck)
      | none => .stuck)
    | _ => .stuck
  | _ => .stuck
theorem sx_augIt {N : List Str} {sc : Scope} (k : Xd C W X N sc) {x : Str} {i : Nat} {op : Operator} {j e : Expr} {p tp pos : Pos} {fj fe : EvF S} (ho : op = .Add ∨ op = .Sub) (hi : okN N sc x = some i) (hj : isSlice j = false) (hjj : PE X j (tK C W fj)) (he : PE X e (tK C W fe)) :
    PS X (.AugAssign (.Subscript (.Name x p) j tp) op e pos) (tS C W (augItS i op fj fe)) := by
  have main : ∀ (g : Int → Int → Int), PIp X op (ipI g) → (∀ a b, augI op a b = some (g a b)) → PS X (.AugAssign (.Subscript (.Name x p) j tp) op e pos) (tS C W (augItS i op fj fe)) := by
    intro g hp hg
    refine ps_mono (ps_augS (pe_okN k.toXk hi) hjj get_list he hp set_list (by intro a b c; cases j <;> first | rfl | (simp [isSlice] at hj; done))) fun D σ H ⟨P, s, R, q⟩ => ?_
    unfold augItS at q
    split at q
    · rename_i ds hd
      have o : OwnOk C P σ H s i ds := R.slot i _ hd
      refine ⟨_, o.at_, P, s, R, q.run.mono fun z s1 H1 R1 x1 q1 w tw => ?_⟩
      have o1 : OwnOk C P σ H1 s1 i ds := R1.slot i _ hd
      obtain ⟨ws, g1, g2⟩ := o1.is
      split at q1
      · rename_i z
        split at q1
        · rename_i n hn
          split at q1
          · rename_i a ha
            obtain ⟨v, hv1, hv2⟩ := g2.get ha
            have := rp_int hv2
            subst this
            refine ⟨_, ws, z, .int a, rfl, top_int tw, .inl (.inl g1), by unfold atI; rw [g2.length, hn]; exact hv1, P, s1, R1, q1.run.mono fun d s2 H2 R2 x2 q2 w2 tw2 => ?_⟩
            have o2 : OwnOk C P σ H2 s2 i ds := R2.slot i _ hd
            obtain ⟨us, f1, f2⟩ := o2.is
            cases d with
            | int b =>
              dsimp only at q2
              rw [hg] at q2
              dsimp only at q2
              obtain ⟨w1, w2⟩ := R2.write hd (f2.set (.int (g a b)) n)
              exact ⟨a, b, rfl, top_int tw2, _, us, z, n, rfl, top_int tw, f1, by rw [f2.length]; exact hn, q2 _ σ _ rfl w1 w2⟩
            | _ => exact q2.elim
          · exact q1.elim
        · exact q1.elim
      · exact q1.elim
    · exact q.elim
  rcases ho with rfl | rfl
  · exact main _ ip_add fun _ _ => rfl
  · exact main _ ip_sub fun _ _ => rfl
end
end Q

/-! Lay30: further expressions. -/
namespace Q
open PySem PySem.Spec PyProof.Rows L2
section
variable {S : Type}
def moreSp (N : List Str) (sc : Scope) (f : Expr → Sem3 S) : Expr → Option (Sem3 S)
  | .Call (.Name y _) [.Call (.Name z _) [e] [] _] [] _ => if y = "sorted" ∧ z = "set" ∧ glB sc "sorted" = true ∧ glB sc "set" = true ∧ isStar e = false then some (plain3 (ssE (pk N sc f e))) else none
  | _ => none
theorem moreSp_ok {C : Cn S} {G : Gk S} (hG : G.sp = moreSp) : SpOk C G := by
  intro W X N sc f k hb h e r q
  rw [hG] at q
  unfold moreSp at q
  split at q
  · split at q
    · rename_i hx
      obtain ⟨rfl, rfl, g1, g2, hs⟩ := hx
      cases q
      exact Snd.plain k.K (sd_srtU k g1 g2 (hb "sorted" (by simp [bltNames])) (hb "set" (by simp [bltNames])) hs (sd_pk k h _)) rfl
    · cases q
  · cases q
/-! ### a, b, c, d = w, x, y, z -/
def tgtSlots (N : List Str) (sc : Scope) : List Expr → Option (List (Str × Nat))
  | [] => some []
  | .Name x _ :: r => match slotOf N x with
    | some i => if locB sc x = true then (tgtSlots N sc r).map ((x, i) :: ·) else none
    | none => none
  | _ => none
def gNames : List Nat → TGs
  | [] => gNil
  | i :: r => gCons (gName i) (gNames r)
theorem gNames_ok : ∀ {is : List Nat} {vs : List V} {σ : L2.St} {H : Hp} {Q : L2.St → Hp → Prop}, vs.length = is.length → Q (setAll is vs σ) H → gNames is vs σ H Q
  | [], [], _, _, _, _, q => ⟨rfl, q⟩
  | i :: is, v :: vs, σ, H, Q, hl, q => ⟨v, vs, rfl, gNames_ok (is := is) (by simpa using hl) q⟩
theorem sg_names {C : Cn S} {X : Cx} {N : List Str} {sc : Scope} (k : Xs C X N sc) : ∀ {ts : List Expr} {l : List (Str × Nat)}, tgtSlots N sc ts = some l → PGs X ts (gNames (l.map (·.2))) ∧ ts.all (fun e => !isStar e) = true ∧ l.length = ts.length
  | [], l, h => by cases h; exact ⟨pgs_nil, rfl, rfl⟩
  | e :: r, l, h => by
    unfold tgtSlots at h
    split at h
    · rename_i he; cases he
    · rename_i x p r' he
      cases he
      split at h
      · rename_i i hi
        split at h
        · rename_i hl
          rw [Option.map_eq_some_iff] at h
          obtain ⟨l', h1, rfl⟩ := h
          obtain ⟨q1, q2, q3⟩ := sg_names k h1
          obtain ⟨hL, hF⟩ := k.loc x hl
          exact ⟨pgs_cons (pg_name (i := i) (by rw [k.names]; exact k.nd) (by rw [k.names]; exact slotOf_some hi) hL hF) q1, by rw [List.all_cons, q2]; rfl, by simp [q3]⟩
        · cases h
      · cases h
    · cases h
theorem OwnR.new {C : Cn S} {P : Pt} {s : S} {H : Hp} {p : Addr} {o : HO} (st : C.T.R s H) (hp : H p = none) : ∀ {os : List Bool} {vs : List V} {ds : List D} {rs : List Addr}, OwnR C P s H os vs ds rs → OwnR C P s (upd H p o) os vs ds rs
  | _, _, _, _, .nil => .nil
  | _, _, _, _, .val n r t => .val n (r.xt (Xt.new hp) st) (OwnR.new st hp t)
  | _, _, _, _, .own h r t => .own (by rw [upd_ne (ne_of_none h hp)]; exact h) (r.xt (Xt.new hp) st) (OwnR.new st hp t)
theorem azs_len (f : Expr → Sem3 S) (ow : List Str) : ∀ l : List (Str × Expr), (azs f ow l).1.length = l.length
  | [] => rfl
  | _ :: r => by simp [azs, azs_len f ow r]
def parN (N : List Str) (sc : Scope) (f : Expr → Sem3 S) (ow : List Str) (ts vs : List Expr) (kt k2 : Nat) (pt pt2 : Pos) : Option (ExF S) := match tgtSlots N sc ts with
  | some l => if 2 ≤ ts.length ∧ ts.length ≤ 100 ∧ vs.length = ts.length ∧ vs.all (fun e => !isStar e) = true ∧ sws sc (.Tuple ts kt pt) (.Tuple vs k2 pt2) = some none then some (parS (List.zip (l.map (·.2)) (azs f ow (List.zip (l.map (·.1)) vs)).1) (azs f ow (List.zip (l.map (·.1)) vs)).2) else none
  | none => none
theorem zip_snd {α β : Type} : ∀ {a : List α} {b : List β}, a.length = b.length → (List.zip a b).map (·.2) = b
  | [], [], _ => rfl
  | _ :: _, _ :: _, h => by simp [zip_snd (by simpa using h)]
theorem zip_fst {α β : Type} : ∀ {a : List α} {b : List β}, a.length = b.length → (List.zip a b).map (·.1) = a
  | [], [], _ => rfl
  | _ :: _, _ :: _, h => by simp [zip_fst (by simpa using h)]
theorem sx_parN {C : Cn S} {W : L2.WX} {X : Cx} {N : List Str} {sc : Scope} {f : Expr → Sem3 S} (k : Xd C W X N sc) (h : ∀ e, Snd C W X e (f e)) (ow : List Str) (ts vs : List Expr) (kt k2 : Nat) (pt pt2 pos : Pos) (g : ExF S) (hg : parN N sc f ow ts vs kt k2 pt pt2 = some g) :
    PS X (.Assign [.Tuple ts kt pt] (.Tuple vs k2 pt2) pos) (tS C W g) := by
  unfold parN at hg
  split at hg
  · rename_i l hl
    split at hg
    · rename_i c
      obtain ⟨c1, c2, c3, c4, c5⟩ := c
      have e := Option.some.inj hg
      subst e
      obtain ⟨g1, g2, g3⟩ := sg_names k.s hl
      have hz : (l.map (·.1)).length = vs.length := by rw [List.length_map, g3, c3]
      have pa := sa_azs h ow (List.zip (l.map (·.1)) vs) (by rw [zip_snd hz]; exact c4)
      rw [zip_snd hz] at pa
      have hlen : (azs f ow (List.zip (l.map (·.1)) vs)).1.length = l.length := by rw [azs_len, List.length_zip, hz]; simp only [Nat.min_self]; omega
      refine ps_mono (ps_asg (pe_tup pa) (pg_tup k.calm g1 (each_len ts) (each_star ts g2)) rfl (sws_ok k.scope c5) rfl) fun D σ H hq => ?_
      obtain ⟨P, s, R, q⟩ := hq
      refine ⟨P, s, R, ?_⟩
      unfold parS at q
      cases e : (azs f ow (List.zip (l.map (·.1)) vs)).2 P.ρ s with
      | stuck => rw [e] at q; exact q
      | err y s1 => rw [e] at q; exact fun c dd H1 R1 x1 rx => q P σ c dd H1 rfl R1 x1.stp rx
      | ok ds s1 =>
        rw [e] at q
        intro H1 R1 x1 us rs hn nd RZ ow'
        have hul : us.length = l.length := by rw [ow'.len, hlen]
        refine ⟨by rw [hul, g3, sizeLine_eq]; omega, fun p hp => ?_⟩
        simp only [thenS] at q
        split at q
        · rename_i ρ' e'
          have hf : (List.zip (l.map (·.2)) (azs f ow (List.zip (l.map (·.1)) vs)).1).map (·.2) = (azs f ow (List.zip (l.map (·.1)) vs)).1 := zip_snd (by rw [List.length_map, hlen])
          have hf1 : (List.zip (l.map (·.2)) (azs f ow (List.zip (l.map (·.1)) vs)).1).map (·.1) = l.map (·.2) := zip_fst (by rw [List.length_map, hlen])
          have ow2 := OwnR.new (o := .tup us) RZ.st hp ow'
          rw [← hf] at ow2
          have x2 : Xt C.T s s1 H (upd H1 p (.tup us)) := x1.trans (Xt.new hp)
          obtain ⟨P', h1, h2, h3, h4, h5, h6⟩ := Rel.asgL (RZ.new (o := .tup us) hp) ow2 e' nd (fun a ha z => (R.za a z).2.1 (hn a ha))
          rw [hf1] at h2
          refine ⟨p, us, rfl, .inl (.inl upd_same), by rw [hul, g3], gNames_ok (by rw [List.length_map]; exact hul) ?_⟩
          exact q P' _ _ h1 h2 ⟨fun a o ea na _ => x2.keep a o ea na, x2.live, x2.grow, fun b hb => (h4 b hb).elim .inl fun z => .inr (hn b z), fun b hb => (h5 b hb).elim .inl fun z => .inr (hn b z), h3, h6⟩
        · exact q.elim
    · cases hg
  · cases hg
def moreSt (G : Gk S) (N : List Str) (sc : Scope) (ow : List Str) : Stmt → Option (ExF S)
  | .Assign [.Tuple ts kt pt] (.Tuple vs k2 pt2) _ => (parN N sc (evB G N 40 sc) ow ts vs kt k2 pt pt2).map (relS' (slots N (escE (fun x => (G.cal x).isSome) 80 (.Tuple vs k2 pt2))))
  | .Assign [.Subscript (.Name x _) (.Slice (some a) (some c) none _) _] e _ => if isComp e = true then none else (match okN N sc x with
    | some i => some (relS' (slots N (escE (fun x => (G.cal x).isSome) 80 e) ++ (slots N (escP (fun x => (G.cal x).isSome) 80 a) ++ slots N (escP (fun x => (G.cal x).isSome) 80 c))) (setSlS i (evB G N 40 sc e).v (pk N sc (evB G N 40 sc) a) (pk N sc (evB G N 40 sc) c)))
    | none => none)
  | .AugAssign (.Subscript (.Name x _) j _) op e _ => if isSlice j = true then none else if op = .Add ∨ op = .Sub then (match okN N sc x with
    | some i => some (relS' (slots N (escP (fun x => (G.cal x).isSome) 80 j) ++ slots N (escP (fun x => (G.cal x).isSome) 80 e)) (augItS i op (pk N sc (evB G N 40 sc) j) (pk N sc (evB G N 40 sc) e)))
    | none => none) else none
  | _ => none
theorem moreSt_ok {C : Cn S} {W : L2.WX} {X : Cx} {K : Dk S} (hK : K.st = moreSt K.G K.N K.sc K.ow) (k : Xd C W X K.N K.sc) (g : GkOk C X K.G) : StOk C W X K := by
  intro st f q
  have h : ∀ e, Snd C W X e (evB K.G K.N 40 K.sc e) := fun e => (ev_ok 40 k.toXk g e).toSnd
  rw [hK] at q
  unfold moreSt at q
  split at q
  · rw [Option.map_eq_some_iff] at q
    obtain ⟨g', q, rfl⟩ := q
    exact sx_rel _ (sx_parN k h _ _ _ _ _ _ _ _ _ q)
  · split at q
    · cases q
    · rename_i hc
      split at q
      · rename_i i hi
        cases q
        exact sx_rel _ (sx_setSl k hi (Bool.eq_false_iff.mpr hc) rfl (h _).v (sd_pk k.toXk h _) (sd_pk k.toXk h _))
      · cases q
  · split at q
    · cases q
    · rename_i hj
      split at q
      · rename_i ho
        split at q
        · rename_i i hi
          cases q
          exact sx_rel _ (sx_augIt k ho hi (Bool.eq_false_iff.mpr hj) (sd_pk k.toXk h _) (sd_pk k.toXk h _))
        · cases q
      · cases q
  · cases q
end
@[simp] theorem ssE_ap {S : Type} (f : EvF S) (ρ : List Sl) (s : S) : ssE f ρ s = (f ρ s).bind fun d s1 => ofO (dSrtU d) s1 := rfl
theorem dSrtU_ints (l : List Int) (h : l.length < 64) : dSrtU (.lst (iD l)) = some (.lst (iD (srtU l))) := by
  simp [dSrtU, h]
end Q

/-! words of defs -/
namespace Wd
open PySem PySem.Spec PyProof.Rows L2 Q
/-- as many turns as the first argument has items, and one more -/
def wfLen : List D → Nat
  | .tup l :: _ => l.length + 1
  | _ => 0
def cis_whole {S : Type} : ExF S := (seqS (retV false (andV (isiE (vK 0) "int") (andV (notV (isiE (vK 0) "bool")) (chain dLe dLe (vK 1) (vK 0) (vK 2))))) nextS)
def nis_whole : List Str := ["value", "least", "most"]
def cis_side {S : Type} (Fis_whole : List D → S → Res S D) : ExF S := (seqS (ifS (orT (notT (truth (isiE (vK 0) "tuple"))) (notT (testB (chain dLe dLe (kD (.int 1)) (biF bLen (consA (vK 0) nilA)) (kD (.int 3)))))) (seqS (retV true (kD (.bl false))) nextS) nextS) (seqS (relS' [1] (ifS (notT (truth (biF bAll (consA (lcE (iSeq (vK 0)) (tN 1) yesT (callF (⟨3, false, Fis_whole⟩ : Fn S) (consA (vC 1) (consA (kD (.int 0)) (consA (kD (.int 3)) nilA)))) [1]) nilA)))) (seqS (retV true (kD (.bl false))) nextS) nextS)) (seqS (retV true (biF bAll (consA (lcE (iZip (vK 0) (slE (vK 0) (someO (kD (.int 1))) noneO)) (gTupD 2 (gsC (tN 1) (gsC (tN 2) gsN))) yesT (bin dLt (vK 1) (vK 2)) [1, 2]) nilA))) nextS)))
def nis_side : List Str := ["value", "one", "other"]
def cis_test {S : Type} (Fis_side : List D → S → Res S D) : ExF S := (seqS (ifS (orT (notT (truth (isiE (vK 0) "tuple"))) (orT (testB (bin dNe (biF bLen (consA (vK 0) nilA)) (kD (.int 3)))) (orT (notT (truth (callF (⟨1, false, Fis_side⟩ : Fn S) (consA (bin dIx (vK 0) (kD (.int 0))) nilA)))) (notT (truth (callF (⟨1, false, Fis_side⟩ : Fn S) (consA (bin dIx (vK 0) (kD (.int 2))) nilA))))))) (seqS (retV true (kD (.bl false))) nextS) nextS) (seqS (ifS (orT (notT (truth (isiE (bin dIx (vK 0) (kD (.int 1))) "str"))) (testB (bin dNotIn (bin dIx (vK 0) (kD (.int 1))) (tupE (consA (kD (.str "below")) (consA (kD (.str "atmost")) nilA)))))) (seqS (retV true (kD (.bl false))) nextS) nextS) (seqS (retV true (notV (biF bAny (consA (lcE (iSeq (bin dIx (vK 0) (kD (.int 0)))) (tN 1) yesT (bin dIn (vK 1) (bin dIx (vK 0) (kD (.int 2)))) [1]) nilA)))) nextS)))
def nis_test : List Str := ["value", "one"]
def cwrong_in_tests {S : Type} (Fis_test : List D → S → Res S D) : ExF S := (seqS (ifS (orT (notT (truth (isiE (vK 0) "tuple"))) (testB (bin dGt (biF bLen (consA (vK 0) nilA)) (vK 1)))) (seqS (retV true (lstE (consA (tupE nilA) nilA))) nextS) nextS) (seqS (relS' [2, 3] (retV true (slE (lcE (iEnum (vK 0)) (gTupD 2 (gsC (tN 2) (gsC (tN 3) gsN))) (notT (truth (callF (⟨1, false, Fis_test⟩ : Fn S) (consA (vC 3) nilA)))) (tupE (consA (vC 2) nilA)) [2, 3]) noneO (someO (kD (.int 1)))))) nextS))
def nwrong_in_tests : List Str := ["value", "most", "number", "test"]
def cneed_wants {S : Type} (Fwrong_in_tests : List D → S → Res S D) : ExF S := (seqS (ifS (orT (notT (truth (isiE (vK 0) "tuple"))) (notT (testB (chain dLe dLe (kD (.int 1)) (biF bLen (consA (vK 0) nilA)) (kD (.int 3)))))) (seqS stuckS nextS) nextS) (seqS (lockS [0] (relS' [0] (forS (iSeq (callF (⟨2, false, Fwrong_in_tests⟩ : Fn S) (consA (vC 0) (consA (kD (.int 3)) nilA)))) (tN 1) (seqS stuckS nextS)))) (seqS (rN 0) nextS)))
def nneed_wants : List Str := ["wants", "path"]
def cneed_steep {S : Type} (Fneed_wants : List D → S → Res S D) : ExF S := (seqS (relS' [0] (dropS (callF (⟨1, false, Fneed_wants⟩ : Fn S) (consA (vC 0) nilA)))) (seqS (lockS [0] (forS (iEnum (vS 0)) (gTupD 2 (gsC (tN 1) (gsC (gTupD 3 (gsC (tN 2) (gsC (tN 3) (gsC (tN 4) gsN)))) gsN))) (seqS (ifS (orT (testB (bin dGt (biF bLen (consA (vK 4) nilA)) (kD (.int 1)))) (testB (bin dLt (bin dIx (vK 4) (kD (.int 0))) (bin dIx (vK 2) (negV (kD (.int 1))))))) (seqS stuckS nextS) nextS) nextS))) (seqS (rN 0) nextS)))
def nneed_steep : List Str := ["wants", "number", "left", "word", "right"]
def cleast_entries {S : Type} : ExF S := (seqS (ownS 2 (lstE nilA)) (seqS (lockS [1] (forS (iRange1 (vK 1)) (tN 3) (seqS (ownS 4 (lstE (consA (kD (.int 1)) nilA))) (seqS (lockS [0] (forS (iSeq (vS 0)) (gTupD 3 (gsC (tN 5) (gsC (tN 6) (gsC (tN 7) gsN)))) (seqS (asgS (bin dSub (vK 3) (bin dIx (vK 7) (kD (.int 0)))) (tN 8)) (seqS (ifS (testB (bin dGe (vK 8) (kD (.int 0)))) (seqS (appS 4 (bin dAdd (biF bSum (consA (lcE (iSeq (vK 5)) (tN 9) yesT (bin dIx (vK 2) (bin dAdd (vK 9) (vK 8))) [9]) nilA)) (ifE (testB (bin dEq (vK 6) (kD (.str "below")))) (kD (.int 1)) (kD (.int 0))))) nextS) nextS) nextS)))) (seqS (appS 2 (biF bMax (consA (vK 4) nilA))) nextS))))) (seqS (rN 2) nextS)))
def nleast_entries : List Str := ["wants", "many", "found", "place", "some", "left", "word", "right", "spot", "number"]
def cneed_depth {S : Type} (Fis_whole : List D → S → Res S D) : ExF S := (seqS (relS' [0] (ifS (notT (truth (callF (⟨3, false, Fis_whole⟩ : Fn S) (consA (vC 0) (consA (kD (.int 1)) (consA (kD (.int 400)) nilA)))))) (seqS stuckS nextS) nextS)) nextS)
def nneed_depth : List Str := ["depth"]
def cleast_pile {S : Type} (Fneed_steep : List D → S → Res S D) (Fneed_depth : List D → S → Res S D) (Fleast_entries : List D → S → Res S D) : ExF S := (seqS (relS' [0] (dropS (callF (⟨1, false, Fneed_steep⟩ : Fn S) (consA (vC 0) nilA)))) (seqS (relS' [1] (dropS (callF (⟨1, false, Fneed_depth⟩ : Fn S) (consA (vC 1) nilA)))) (seqS (relS' [0, 1] (retV true (biF bTuple (consA (revE (callF (⟨2, false, Fleast_entries⟩ : Fn S) (consA (vC 0) (consA (vC 1) nilA)))) nilA)))) nextS)))
def nleast_pile : List Str := ["wants", "depth"]
def cleast_total {S : Type} (Fleast_pile : List D → S → Res S D) : ExF S := (seqS (relS' [0, 1] (retV true (biF bSum (consA (callF (⟨2, false, Fleast_pile⟩ : Fn S) (consA (vC 0) (consA (vC 1) nilA))) nilA)))) nextS)
def nleast_total : List Str := ["wants", "depth"]
def cneed_total {S : Type} (Fis_whole : List D → S → Res S D) : ExF S := (seqS (relS' [0] (ifS (notT (truth (callF (⟨3, false, Fis_whole⟩ : Fn S) (consA (vC 0) (consA (kD (.int 1)) (consA (kD (.int 1000000000000000000000000000000)) nilA)))))) (seqS stuckS nextS) nextS)) nextS)
def nneed_total : List Str := ["total"]
def cdepth_in {S : Type} (Fleast_entries : List D → S → Res S D) : ExF S := (seqS (relS' [1] (asgS (vC 1) (tN 2))) (seqS (relS' [0] (forS (iEnum (callF (⟨2, false, Fleast_entries⟩ : Fn S) (consA (vC 0) (consA (kD (.int 400)) nilA)))) (gTupD 2 (gsC (tN 3) (gsC (tN 4) gsN))) (seqS (augS 2 .Sub (vK 4)) (seqS (ifS (testB (bin dLt (vK 2) (kD (.int 0)))) (seqS (rN 3) nextS) nextS) nextS)))) (seqS (retV false (kD (.int 400))) nextS)))
def ndepth_in : List Str := ["wants", "total", "rest", "number", "one"]
def cdepth_within {S : Type} (Fneed_steep : List D → S → Res S D) (Fneed_total : List D → S → Res S D) (Fdepth_in : List D → S → Res S D) : ExF S := (seqS (relS' [0] (dropS (callF (⟨1, false, Fneed_steep⟩ : Fn S) (consA (vC 0) nilA)))) (seqS (relS' [1] (dropS (callF (⟨1, false, Fneed_total⟩ : Fn S) (consA (vC 1) nilA)))) (seqS (relS' [0, 1] (retV false (callF (⟨2, false, Fdepth_in⟩ : Fn S) (consA (vC 0) (consA (vC 1) nilA))))) nextS)))
def ndepth_within : List Str := ["wants", "total"]
def c_law_mixed {S : Type} : ExF S := (seqS (asgS (bin dAdd (bin dAdd (bin dMod (biF bInt (consA (bin dMul (bin dMul (vK 0) (bin dAdd (kD (.int 1)) (bin dMul (kD (.int 2)) (vK 1)))) (kD (.int 48271))) nilA)) (kD (.int 2147483647))) (bin dMul (bin dMul (kD (.int 7919)) (vK 1)) (vK 1))) (bin dMul (kD (.int 104729)) (vK 1))) (tN 2)) (seqS (retV true (bin dDiv (bin dMod (biF bInt (consA (bin dMul (vK 2) (kD (.int 69621))) nilA)) (kD (.int 2147483629))) (kD (.int 7)))) nextS))
def n_law_mixed : List Str := ["_law_cell", "_law_n", "_law_blend"]
def c_law_folded {S : Type} : ExF S := (seqS (ownS 1 (lcE (iRange1 (kD (.int 64))) (tN 2) yesT (bin dAdd (kD (.int 17)) (vK 2)) [2])) (seqS (lockS [0] (forS (iEnum (vS 0)) (gTupD 2 (gsC (tN 2) (gsC (tN 3) gsN))) (seqS (setItemS 1 (bin dMod (biF bInt (consA (bin dAdd (bin dMul (bin dIx (vK 1) (bin dMod (biF bInt (consA (vK 2) nilA)) (kD (.int 64)))) (kD (.int 48271))) (vK 3)) nilA)) (kD (.int 2147483647))) (bin dMod (biF bInt (consA (vK 2) nilA)) (kD (.int 64)))) nextS))) (seqS (forS (iRange2 (kD (.int 1)) (kD (.int 64))) (tN 2) (seqS (setItemS 1 (bin dMod (biF bInt (consA (bin dAdd (bin dIx (vK 1) (vK 2)) (bin dMul (bin dIx (vK 1) (bin dSub (vK 2) (kD (.int 1)))) (kD (.int 16807)))) nilA)) (kD (.int 2147483647))) (vK 2)) nextS)) (seqS (rN 1) nextS))))
def n_law_folded : List Str := ["_law_script", "_law_found", "_law_n", "_law_cell"]
def c_law_draw (a : Ad) (F_law_mixed : List D → Dw → Res Dw D) : ExF Dw := (seqS (asgS (mgetE a 0 "spot") (tN 2)) (seqS (mputS a 0 (bin dAdd (vK 2) (kD (.int 1)))) (seqS (ifS (greatT a 0) (seqS (asgS (mgetE a 0 "great") (tN 3)) (seqS (asgS (bin dMod (biF bInt (consA (vK 2) nilA)) (lenE a 3)) (tN 4)) (seqS (asgS (lixE a 3 (vK 4)) (tN 5)) (seqS (ifS (testB (bin dGt (vK 5) (kD (.int 0)))) (seqS (lputS a 3 (bin dDiv (vK 5) (vK 1)) (vK 4)) (seqS (retV true (bin dMod (biF bInt (consA (vK 5) nilA)) (vK 1))) nextS)) nextS) nextS)))) nextS) (seqS (asgS (mgetE a 0 "cells") (tN 3)) (seqS (relS' [2] (retV true (bin dMod (biF bInt (consA (callF (⟨2, false, F_law_mixed⟩ : Fn Dw) (consA (callF (⟨2, false, F_law_mixed⟩ : Fn Dw) (consA (bin dAdd (lixE a 3 (bin dMod (biF bInt (consA (vK 2) nilA)) (kD (.int 64)))) (bin dMul (kD (.int 31)) (bin dDiv (vK 2) (kD (.int 64))))) (consA (vC 2) nilA))) (consA (bin dAdd (vK 2) (kD (.int 7))) nilA))) nilA)) (vK 1)))) nextS)))))
def n_law_draw : List Str := ["_law_m", "_law_limit", "_law_n", "_law_lot", "_law_here", "_law_cell"]
def c_law_like {S : Type} : ExF S := (seqS (retV true (bin dEq (biF bRepr (consA (vK 0) nilA)) (biF bRepr (consA (vK 1) nilA)))) nextS)
def n_law_like : List Str := ["_law_answer", "_law_due"]
def c_law_of (F_law_draw : List D → Dw → Res Dw D) : ExF Dw := (seqS (relS' [0] (retV false (bin dIx (vK 1) (callF (⟨2, false, F_law_draw⟩ : Fn Dw) (consA (vC 0) (consA (biF bLen (consA (vK 1) nilA)) nilA)))))) nextS)
def n_law_of : List Str := ["_law_m", "_law_some"]
def c_law_side (F_law_draw : List D → Dw → Res Dw D) : ExF Dw := (seqS (relS' [4, 0] (asgS (slE (lcE (iSeq (vK 1)) (tN 4) (testB (bin dEq (callF (⟨2, false, F_law_draw⟩ : Fn Dw) (consA (vC 0) (consA (kD (.int 2)) nilA))) (kD (.int 0)))) (vC 4) [4]) noneO (someO (vK 2))) (tN 3))) (seqS (relS' [0] (retV true (ifE (testB (bin dNe (vK 3) (lstE nilA))) (biF bTuple (consA (vK 3) nilA)) (tupE (consA (bin dIx (vK 1) (callF (⟨2, false, F_law_draw⟩ : Fn Dw) (consA (vC 0) (consA (biF bLen (consA (vK 1) nilA)) nilA)))) nilA))))) nextS))
def n_law_side : List Str := ["_law_m", "_law_some", "_law_most", "_law_found", "_law_one"]
def c_law_steep (F_law_side : List D → Dw → Res Dw D) (F_law_draw : List D → Dw → Res Dw D) (F_law_of : List D → Dw → Res Dw D) : ExF Dw := (seqS (asgS (tupE nilA) (tN 1)) (seqS (relS' [0] (forS (iRange1 (bin dAdd (kD (.int 1)) (callF (⟨2, false, F_law_draw⟩ : Fn Dw) (consA (vC 0) (consA (kD (.int 3)) nilA))))) (tN 2) (seqS (relS' [0] (asgS (bin dAdd (kD (.int 1)) (callF (⟨2, false, F_law_draw⟩ : Fn Dw) (consA (vC 0) (consA (kD (.int 3)) nilA)))) (tN 3))) (seqS (relS' [0] (asgS (callF (⟨3, false, F_law_side⟩ : Fn Dw) (consA (vC 0) (consA (lr1 (vK 3)) (consA (kD (.int 3)) nilA)))) (tN 4))) (seqS (relS' [4, 0, 3] (asgS (bin dAdd (vK 1) (tupE (consA (tupE (consA (vC 4) (consA (callF (⟨2, false, F_law_of⟩ : Fn Dw) (consA (vC 0) (consA (lstE (consA (kD (.str "below")) (consA (kD (.str "atmost")) nilA))) nilA))) (consA (tupE (consA (vC 3) nilA)) nilA)))) nilA))) (tN 1))) nextS))))) (seqS (rN 1) nextS)))
def n_law_steep : List Str := ["_law_m", "_law_found", "_law_k", "_law_right", "_law_left"]
def c_law_holds {S : Type} : ExF S := (seqS (asgS (slE (revE (vK 0)) (someO (vK 2)) noneO) (tN 3)) (seqS (ifS (testB (bin dGe (biF bMax (consA (bin dAdd (bin dIx (vK 1) (kD (.int 0))) (bin dIx (vK 1) (kD (.int 2)))) nilA)) (biF bLen (consA (vK 3) nilA)))) (seqS (retV true (kD (.bl true))) nextS) nextS) (seqS (parS [(4, false), (5, false)] (consA (biF bSum (consA (lcE (iSeq (bin dIx (vK 1) (kD (.int 0)))) (tN 6) yesT (bin dIx (vK 3) (vK 6)) [6]) nilA)) (consA (biF bSum (consA (lcE (iSeq (bin dIx (vK 1) (kD (.int 2)))) (tN 6) yesT (bin dIx (vK 3) (vK 6)) [6]) nilA)) nilA))) (seqS (retV true (ifE (testB (bin dEq (bin dIx (vK 1) (kD (.int 1))) (kD (.str "below")))) (bin dLt (vK 4) (vK 5)) (bin dLe (vK 4) (vK 5)))) nextS))))
def n_law_holds : List Str := ["_law_heap", "_law_test", "_law_spot", "_law_from_top", "_law_left", "_law_right", "_law_k"]
def c_law_all_hold {S : Type} (F_law_holds : List D → S → Res S D) : ExF S := (seqS (forS (iRange1 (biF bLen (consA (vK 0) nilA))) (tN 2) (seqS (relS' [3, 0, 2] (ifS (testB (bin dNe (lcE (iSeq (vK 1)) (tN 3) (notT (truth (callF (⟨3, false, F_law_holds⟩ : Fn S) (consA (vC 0) (consA (vC 3) (consA (vC 2) nilA)))))) (vC 3) [3]) (lstE nilA))) (seqS (retV true (kD (.bl false))) nextS) nextS)) nextS)) (seqS (retV true (kD (.bl true))) nextS))
def n_law_all_hold : List Str := ["_law_heap", "_law_wants_so", "_law_spot", "_law_want"]
def c_law_least {S : Type} : ExF S := (seqS (ownS 2 (lstE nilA)) (seqS (lockS [1] (forS (iRange1 (vK 1)) (tN 3) (seqS (asgS (kD (.int 1)) (tN 4)) (seqS (lockS [0] (forS (iSeq (vS 0)) (gTupD 3 (gsC (tN 5) (gsC (tN 6) (gsC (tN 7) gsN)))) (seqS (ifS (testB (bin dGe (vK 3) (bin dIx (vK 7) (kD (.int 0))))) (seqS (asgS (biF bSum (consA (lcE (iSeq (vK 5)) (tN 9) yesT (bin dIx (vK 2) (bin dAdd (bin dSub (vK 3) (bin dIx (vK 7) (kD (.int 0)))) (vK 9))) [9]) nilA)) (tN 8)) (seqS (asgS (biF bMax (consA (vK 4) (consA (bin dAdd (vK 8) (biF bInt (consA (bin dEq (vK 6) (kD (.str "below"))) nilA))) nilA))) (tN 4)) nextS)) nextS) nextS))) (seqS (relS' [4] (appS 2 (vC 4))) nextS))))) (seqS (rN 2) nextS)))
def n_law_least : List Str := ["_law_wants_so", "_law_many", "_law_found", "_law_k", "_law_here", "_law_left", "_law_word", "_law_right", "_law_whole", "_law_j"]
def c_law_deep {S : Type} (F_law_least : List D → S → Res S D) (WF : Nat) : ExF S := (seqS (relS' [0] (asgS (callF (⟨2, false, F_law_least⟩ : Fn S) (consA (vC 0) (consA (kD (.int 400)) nilA))) (tN 2))) (seqS (parS [(3, false), (4, false)] (consA (kD (.int 0)) (consA (kD (.int 0)) nilA))) (seqS (whileGo (andT (testB (bin dLt (vK 4) (kD (.int 400)))) (testB (bin dLe (bin dAdd (vK 3) (bin dIx (vK 2) (vK 4))) (vK 1)))) (seqS (parS [(3, false), (4, false)] (consA (bin dAdd (vK 3) (bin dIx (vK 2) (vK 4))) (consA (bin dAdd (vK 4) (kD (.int 1))) nilA))) nextS) WF) (seqS (rN 4) nextS))))
def n_law_deep : List Str := ["_law_wants_so", "_law_most", "_law_found", "_law_whole", "_law_many"]
def c_law_piles {S : Type} : ExF S := (seqS (asgS (lstE (consA (tupE nilA) nilA)) (tN 2)) (seqS (lockS [0] (forS (iRange1 (vK 0)) (tN 3) (seqS (asgS (lstE nilA) (tN 4)) (seqS (lockS [2] (forS (iSeq (vS 2)) (tN 5) (seqS (relS' [6] (asgS (bin dAdd (vK 4) (lcE (iRange2 (kD (.int 1)) (bin dAdd (vK 1) (kD (.int 1)))) (tN 6) yesT (bin dAdd (vK 5) (tupE (consA (vC 6) nilA))) [6])) (tN 4))) nextS))) (seqS (relS' [4] (asgS (vC 4) (tN 2))) nextS))))) (seqS (rN 2) nextS)))
def n_law_piles : List Str := ["_law_many", "_law_most", "_law_rows", "_law_k", "_law_longer", "_law_row", "_law_one"]
def cwrong_in_clause {S : Type} (Fwrong_in_tests : List D → S → Res S D) : ExF S := (seqS (ifS (orT (notT (truth (isiE (vK 0) "tuple"))) (testB (bin dNe (biF bLen (consA (vK 0) nilA)) (kD (.int 2))))) (seqS (retV true (lstE (consA (tupE nilA) nilA))) nextS) nextS) (seqS (asgS (lcE (iSeq (callF (⟨2, false, Fwrong_in_tests⟩ : Fn S) (consA (bin dIx (vK 0) (kD (.int 0))) (consA (kD (.int 3)) nilA)))) (tN 2) yesT (tupE (consA (kD (.int 0)) (starA (vK 2) nilA))) [2]) (tN 1)) (seqS (ifS (testB (bin dNe (vK 1) (lstE nilA))) (seqS (rN 1) nextS) nextS) (seqS (retV true (ifE (andT (truth (isiE (bin dIx (vK 0) (kD (.int 1))) "str")) (testB (bin dIn (bin dIx (vK 0) (kD (.int 1))) (tupE (consA (kD (.str "top")) (consA (kD (.str "under")) nilA)))))) (lstE nilA) (lstE (consA (tupE (consA (kD (.int 1)) nilA)) nilA)))) nextS))))
def nwrong_in_clause : List Str := ["value", "found", "path"]
def cwrong_in_clauses {S : Type} (Fwrong_in_clause : List D → S → Res S D) : ExF S := (seqS (ifS (orT (notT (truth (isiE (vK 0) "tuple"))) (notT (testB (chain dLe dLe (vK 1) (biF bLen (consA (vK 0) nilA)) (vK 2))))) (seqS (retV true (lstE (consA (tupE nilA) nilA))) nextS) nextS) (seqS (lockS [0] (forS (iEnum (vS 0)) (gTupD 2 (gsC (tN 3) (gsC (tN 4) gsN))) (seqS (lockS [4] (relS' [4] (forS (iSeq (callF (⟨1, false, Fwrong_in_clause⟩ : Fn S) (consA (vC 4) nilA))) (tN 5) (seqS (relS' [3] (retV true (lstE (consA (tupE (consA (vC 3) (starA (vK 5) nilA))) nilA)))) nextS)))) nextS))) (seqS (retV true (lstE nilA)) nextS)))
def nwrong_in_clauses : List Str := ["value", "least", "most", "number", "clause", "path"]
def cneed_sorter {S : Type} (Fwrong_in_clauses : List D → S → Res S D) : ExF S := (seqS (ifS (orT (notT (truth (isiE (vK 0) "tuple"))) (testB (bin dNe (biF bLen (consA (vK 0) nilA)) (kD (.int 2))))) (seqS stuckS nextS) nextS) (seqS (forS (iSeq (callF (⟨3, false, Fwrong_in_clauses⟩ : Fn S) (consA (bin dIx (vK 0) (kD (.int 0))) (consA (kD (.int 1)) (consA (kD (.int 6)) nilA))))) (tN 1) (seqS stuckS nextS)) (seqS (forS (iSeq (callF (⟨3, false, Fwrong_in_clauses⟩ : Fn S) (consA (bin dIx (vK 0) (kD (.int 1))) (consA (kD (.int 0)) (consA (kD (.int 2)) nilA))))) (tN 1) (seqS stuckS nextS)) (seqS (rN 0) nextS))))
def nneed_sorter : List Str := ["sorter", "path"]
def cneed_lengths {S : Type} (Fis_whole : List D → S → Res S D) : ExF S := (seqS (ifS (orT (notT (truth (isi2E (vK 0) "list" "tuple"))) (testB (bin dGt (biF bLen (consA (vK 0) nilA)) (kD (.int 400))))) (seqS stuckS nextS) nextS) (seqS (lockS [0] (forS (iEnum (vS 0)) (gTupD 2 (gsC (tN 1) (gsC (tN 2) gsN))) (seqS (relS' [2] (ifS (notT (truth (callF (⟨3, false, Fis_whole⟩ : Fn S) (consA (vC 2) (consA (kD (.int 1)) (consA (kD (.int 1000000000000000000000000000000)) nilA)))))) (seqS stuckS nextS) nextS)) nextS))) (seqS (retV true (biF bTuple (consA (vK 0) nilA))) nextS)))
def nneed_lengths : List Str := ["lengths", "number", "length"]
def creach_of {S : Type} : ExF S := (seqS (retV true (biF bMax (consA (bin dAdd (bin dIx (vK 0) (kD (.int 0))) (bin dIx (vK 0) (kD (.int 2)))) nilA))) nextS)
def nreach_of : List Str := ["test"]
def centry {S : Type} : ExF S := (seqS (retV false (bin dIx (vK 0) (bin dSub (bin dSub (biF bLen (consA (vK 0) nilA)) (kD (.int 1))) (vK 1)))) nextS)
def nentry : List Str := ["pile", "number"]
def cholds_at {S : Type} (Fentry : List D → S → Res S D) : ExF S := (seqS (relS' [0] (asgS (biF bSum (consA (lcE (iSeq (bin dIx (vK 1) (kD (.int 0)))) (tN 5) yesT (callF (⟨2, false, Fentry⟩ : Fn S) (consA (vC 0) (consA (bin dAdd (vK 5) (vK 2)) nilA))) [5]) nilA)) (tN 3))) (seqS (relS' [0] (asgS (biF bSum (consA (lcE (iSeq (bin dIx (vK 1) (kD (.int 2)))) (tN 5) yesT (callF (⟨2, false, Fentry⟩ : Fn S) (consA (vC 0) (consA (bin dAdd (vK 5) (vK 2)) nilA))) [5]) nilA)) (tN 4))) (seqS (retV true (ifE (testB (bin dEq (bin dIx (vK 1) (kD (.int 1))) (kD (.str "below")))) (bin dLt (vK 3) (vK 4)) (bin dLe (vK 3) (vK 4)))) nextS)))
def nholds_at : List Str := ["pile", "test", "spot", "left", "right", "number"]
def cdoes_apply {S : Type} (Fholds_at : List D → S → Res S D) (Freach_of : List D → S → Res S D) : ExF S := (seqS (relS' [1] (asgS (vC 1) (gTupD 2 (gsC (tN 2) (gsC (tN 3) gsN))))) (seqS (ifS (testB (bin dLt (biF bLen (consA (vK 0) nilA)) (ifE (testB (bin dEq (vK 3) (kD (.str "top")))) (kD (.int 2)) (kD (.int 3))))) (seqS (retV true (kD (.bl false))) nextS) nextS) (seqS (relS' [4, 0] (retV true (biF bAll (consA (lcE (iSeq (vK 2)) (tN 4) yesT (andV (bin dLt (callF (⟨1, false, Freach_of⟩ : Fn S) (consA (vC 4) nilA)) (biF bLen (consA (vK 0) nilA))) (callF (⟨3, false, Fholds_at⟩ : Fn S) (consA (vC 0) (consA (vC 4) (consA (kD (.int 0)) nilA))))) [4]) nilA)))) nextS)))
def ndoes_apply : List Str := ["pile", "clause", "tests", "deed", "test"]
def cfirst_deed {S : Type} (Fdoes_apply : List D → S → Res S D) : ExF S := (seqS (lockS [1] (forS (iSeq (vS 1)) (tN 2) (seqS (relS' [0, 2] (ifS (truth (callF (⟨2, false, Fdoes_apply⟩ : Fn S) (consA (vC 0) (consA (vC 2) nilA)))) (seqS (retV false (bin dIx (vK 2) (kD (.int 1)))) nextS) nextS)) nextS))) (seqS (retV true (kD .non)) nextS))
def nfirst_deed : List Str := ["pile", "clauses", "clause"]
def cneed_pile {S : Type} : ExF S := (seqS (ifS (orT (notT (truth (isiE (vK 0) "tuple"))) (testB (bin dGt (biF bLen (consA (vK 0) nilA)) (kD (.int 400))))) (seqS stuckS nextS) nextS) (seqS (lockS [0] (forS (iEnum (vS 0)) (gTupD 2 (gsC (tN 1) (gsC (tN 2) gsN))) (seqS (ifS (orT (notT (truth (isiE (vK 2) "int"))) (orT (truth (isiE (vK 2) "bool")) (testB (bin dLt (vK 2) (kD (.int 1)))))) (seqS stuckS nextS) nextS) nextS))) (seqS (rN 0) nextS)))
def nneed_pile : List Str := ["pile", "number", "one"]
def cmerged {S : Type} : ExF S := (seqS (ifS (testB (bin dEq (vK 1) (kD (.str "top")))) (seqS (retV true (bin dAdd (slE (vK 0) noneO (someO (negV (kD (.int 2))))) (tupE (consA (bin dAdd (bin dIx (vK 0) (negV (kD (.int 2)))) (bin dIx (vK 0) (negV (kD (.int 1))))) nilA)))) nextS) nextS) (seqS (retV true (bin dAdd (slE (vK 0) noneO (someO (negV (kD (.int 3))))) (tupE (consA (bin dAdd (bin dIx (vK 0) (negV (kD (.int 3)))) (bin dIx (vK 0) (negV (kD (.int 2))))) (consA (bin dIx (vK 0) (negV (kD (.int 1)))) nilA))))) nextS))
def nmerged : List Str := ["pile", "deed"]
def camount_of {S : Type} : ExF S := (seqS (retV true (ifE (testB (bin dEq (vK 1) (kD (.str "top")))) (bin dAdd (bin dIx (vK 0) (negV (kD (.int 2)))) (bin dIx (vK 0) (negV (kD (.int 1))))) (bin dAdd (bin dIx (vK 0) (negV (kD (.int 3)))) (bin dIx (vK 0) (negV (kD (.int 2))))))) nextS)
def namount_of : List Str := ["pile", "deed"]
def cfallen {S : Type} (Ffirst_deed : List D → S → Res S D) (Famount_of : List D → S → Res S D) (Fmerged : List D → S → Res S D) (WF : Nat) : ExF S := (seqS (parS [(2, true), (3, false)] (consA (lstE nilA) (consA (kD (.int 0)) nilA))) (seqS (relS' [0, 1] (asgS (callF (⟨2, false, Ffirst_deed⟩ : Fn S) (consA (vC 0) (consA (vC 1) nilA))) (tN 4))) (seqS (whileGo (testB (bin dIsNot (vK 4) (kD .non))) (seqS (relS' [4] (appS 2 (vC 4))) (seqS (relS' [0, 4] (augS 3 .Add (callF (⟨2, false, Famount_of⟩ : Fn S) (consA (vC 0) (consA (vC 4) nilA))))) (seqS (relS' [0, 4] (asgS (callF (⟨2, false, Fmerged⟩ : Fn S) (consA (vC 0) (consA (vC 4) nilA))) (tN 0))) (seqS (relS' [0, 1] (asgS (callF (⟨2, false, Ffirst_deed⟩ : Fn S) (consA (vC 0) (consA (vC 1) nilA))) (tN 4))) nextS)))) WF) (seqS (relS' [0, 2, 3] (retV true (tupE (consA (vC 0) (consA (vC 2) (consA (vC 3) nilA)))))) nextS))))
def nfallen : List Str := ["pile", "clauses", "deeds", "cost", "deed"]
def cgone_along {S : Type} (Ffallen : List D → S → Res S D) : ExF S := (seqS (parS [(2, false), (3, true), (4, true), (5, false)] (consA (tupE nilA) (consA (lstE nilA) (consA (lstE nilA) (consA (kD (.int 0)) nilA))))) (seqS (lockS [1] (forS (iSeq (vS 1)) (tN 6) (seqS (relS' [6] (asgS (callF (⟨2, false, Ffallen⟩ : Fn S) (consA (tupE (starA (vK 2) (consA (vC 6) nilA))) (consA (bin dIx (vK 0) (kD (.int 0))) nilA))) (gTupD 3 (gsC (tN 2) (gsC (tN 7) (gsC (tN 8) gsN)))))) (seqS (relS' [2] (appS 3 (vC 2))) (seqS (appS 4 (biF bTuple (consA (vK 7) nilA))) (seqS (augS 5 .Add (vK 8)) nextS)))))) (seqS (relS' [3, 4, 5] (retV true (tupE (consA (vC 3) (consA (vC 4) (consA (vC 5) nilA)))))) nextS)))
def ngone_along : List Str := ["sorter", "row", "pile", "piles", "deeds", "whole", "length", "some", "cost"]
def cfailing_in {S : Type} (Fholds_at : List D → S → Res S D) (Freach_of : List D → S → Res S D) : ExF S := (seqS (ownS 3 (lstE nilA)) (seqS (lockS [2] (forS (iRange2 (vK 2) (biF bLen (consA (vK 0) nilA))) (tN 4) (seqS (lockS [1] (forS (iEnum (vS 1)) (gTupD 2 (gsC (tN 5) (gsC (tN 6) gsN))) (seqS (relS' [6, 0, 4] (ifS (andT (testB (bin dLt (bin dAdd (callF (⟨1, false, Freach_of⟩ : Fn S) (consA (vC 6) nilA)) (vK 4)) (biF bLen (consA (vK 0) nilA)))) (notT (truth (callF (⟨3, false, Fholds_at⟩ : Fn S) (consA (vC 0) (consA (vC 6) (consA (vC 4) nilA))))))) (seqS (relS' [4, 5] (appS 3 (tupE (consA (vC 4) (consA (vC 5) nilA))))) nextS) nextS)) nextS))) nextS))) (seqS (rN 3) nextS)))
def nfailing_in : List Str := ["pile", "wants", "first", "found", "spot", "number", "want"]
def chold_on {S : Type} (Fneed_wants : List D → S → Res S D) (Ffailing_in : List D → S → Res S D) (Fneed_pile : List D → S → Res S D) : ExF S := (seqS (relS' [0] (dropS (callF (⟨1, false, Fneed_wants⟩ : Fn S) (consA (vC 0) nilA)))) (seqS (relS' [1, 0] (retV true (bin dEq (callF (⟨3, false, Ffailing_in⟩ : Fn S) (consA (callF (⟨1, false, Fneed_pile⟩ : Fn S) (consA (vC 1) nilA)) (consA (vC 0) (consA (kD (.int 0)) nilA)))) (lstE nilA)))) nextS))
def nhold_on : List Str := ["wants", "pile"]
def cfailing_on {S : Type} (Fneed_wants : List D → S → Res S D) (Ffailing_in : List D → S → Res S D) (Fneed_pile : List D → S → Res S D) : ExF S := (seqS (relS' [0] (dropS (callF (⟨1, false, Fneed_wants⟩ : Fn S) (consA (vC 0) nilA)))) (seqS (relS' [1, 0] (retV true (biF bTuple (consA (callF (⟨3, false, Ffailing_in⟩ : Fn S) (consA (callF (⟨1, false, Fneed_pile⟩ : Fn S) (consA (vC 1) nilA)) (consA (vC 0) (consA (kD (.int 0)) nilA)))) nilA)))) nextS))
def nfailing_on : List Str := ["wants", "pile"]
def cfirst_break {S : Type} (Fneed_sorter : List D → S → Res S D) (Fneed_wants : List D → S → Res S D) (Fgone_along : List D → S → Res S D) (Ffailing_in : List D → S → Res S D) (Fneed_lengths : List D → S → Res S D) : ExF S := (seqS (relS' [0] (dropS (callF (⟨1, false, Fneed_sorter⟩ : Fn S) (consA (vC 0) nilA)))) (seqS (relS' [1] (dropS (callF (⟨1, false, Fneed_wants⟩ : Fn S) (consA (vC 1) nilA)))) (seqS (relS' [0, 2] (forS (iEnum (bin dIx (callF (⟨2, false, Fgone_along⟩ : Fn S) (consA (vC 0) (consA (callF (⟨1, false, Fneed_lengths⟩ : Fn S) (consA (vC 2) nilA)) nilA))) (kD (.int 0)))) (gTupD 2 (gsC (tN 3) (gsC (tN 4) gsN))) (seqS (relS' [4, 1] (ifS (testB (bin dNe (callF (⟨3, false, Ffailing_in⟩ : Fn S) (consA (vC 4) (consA (vC 1) (consA (kD (.int 0)) nilA)))) (lstE nilA))) (seqS (rN 3) nextS) nextS)) nextS))) (seqS (retV true (kD .non)) nextS))))
def nfirst_break : List Str := ["sorter", "wants", "lengths", "number", "pile"]
def cis_loose_of {S : Type} (Ffirst_deed : List D → S → Res S D) (Ffailing_in : List D → S → Res S D) : ExF S := (seqS (relS' [2] (ifS (orT (notT (testB (chain dLe dLe (kD (.int 1)) (biF bLen (consA (vK 2) nilA)) (kD (.int 5))))) (testB (bin dIsNot (callF (⟨2, false, Ffirst_deed⟩ : Fn S) (consA (vC 2) (consA (bin dIx (vK 0) (kD (.int 0))) nilA))) (kD .non)))) (seqS (retV true (kD (.bl false))) nextS) nextS)) (seqS (relS' [2, 1] (retV false (andV (bin dEq (callF (⟨3, false, Ffailing_in⟩ : Fn S) (consA (vC 2) (consA (vC 1) (consA (kD (.int 2)) nilA)))) (lstE nilA)) (bin dNe (callF (⟨3, false, Ffailing_in⟩ : Fn S) (consA (vC 2) (consA (vC 1) (consA (kD (.int 0)) nilA)))) (lstE nilA))))) nextS))
def nis_loose_of : List Str := ["sorter", "wants", "pile"]
def cis_loose {S : Type} (Fneed_sorter : List D → S → Res S D) (Fneed_wants : List D → S → Res S D) (Fis_loose_of : List D → S → Res S D) (Fneed_pile : List D → S → Res S D) : ExF S := (seqS (relS' [0] (dropS (callF (⟨1, false, Fneed_sorter⟩ : Fn S) (consA (vC 0) nilA)))) (seqS (relS' [1] (dropS (callF (⟨1, false, Fneed_wants⟩ : Fn S) (consA (vC 1) nilA)))) (seqS (relS' [0, 1, 2] (retV false (callF (⟨3, false, Fis_loose_of⟩ : Fn S) (consA (vC 0) (consA (vC 1) (consA (callF (⟨1, false, Fneed_pile⟩ : Fn S) (consA (vC 2) nilA)) nilA)))))) nextS)))
def nis_loose : List Str := ["sorter", "wants", "pile"]
def c_law_like_v2 {S : Type} : ExF S := (seqS (retV true (bin dEq (biF bRepr (consA (vK 0) nilA)) (biF bRepr (consA (vK 1) nilA)))) nextS)
def n_law_like_v2 : List Str := ["_law_heard", "_law_due"]
def c_law_side_v2 (F_law_of : List D → Dw → Res Dw D) (F_law_draw : List D → Dw → Res Dw D) : ExF Dw := (seqS (relS' [0, 1] (retV true (biF bTuple (consA (ssE (lcE (iRange1 (bin dIx (lstE (consA (kD (.int 1)) (consA (kD (.int 1)) (consA (kD (.int 2)) (consA (kD (.int 3)) nilA))))) (callF (⟨2, false, F_law_draw⟩ : Fn Dw) (consA (vC 0) (consA (kD (.int 4)) nilA))))) (tN 2) yesT (callF (⟨2, false, F_law_of⟩ : Fn Dw) (consA (vC 0) (consA (vC 1) nilA))) [2])) nilA)))) nextS)
def n_law_side_v2 : List Str := ["_law_m", "_law_some", "_law_k"]
def c_law_test (F_law_side : List D → Dw → Res Dw D) (F_law_draw : List D → Dw → Res Dw D) : ExF Dw := (seqS (relS' [0] (asgS (callF (⟨2, false, F_law_side⟩ : Fn Dw) (consA (vC 0) (consA (lr1 (bin dAdd (vK 1) (kD (.int 1)))) nilA))) (tN 2))) (seqS (relS' [4] (asgS (lcE (iRange1 (bin dAdd (vK 1) (kD (.int 1)))) (tN 4) (testB (bin dNotIn (vK 4) (vK 2))) (vC 4) [4]) (tN 3))) (seqS (ifS (testB (bin dEq (vK 3) (lstE nilA))) (seqS (parS [(2, false), (3, false)] (consA (slE (vK 2) (someO (kD (.int 1))) noneO) (consA (lstE (consA (bin dIx (vK 2) (kD (.int 0))) nilA)) nilA))) nextS) nextS) (seqS (relS' [2, 0, 3] (retV true (tupE (consA (vC 2) (consA (bin dIx (lstE (consA (kD (.str "below")) (consA (kD (.str "atmost")) nilA))) (callF (⟨2, false, F_law_draw⟩ : Fn Dw) (consA (vC 0) (consA (kD (.int 2)) nilA)))) (consA (callF (⟨2, false, F_law_side⟩ : Fn Dw) (consA (vC 0) (consA (vC 3) nilA))) nilA)))))) nextS))))
def n_law_test : List Str := ["_law_m", "_law_deep", "_law_left", "_law_rest", "_law_k"]
def c_law_clauses (F_law_draw : List D → Dw → Res Dw D) (F_law_of : List D → Dw → Res Dw D) (F_law_test : List D → Dw → Res Dw D) : ExF Dw := (seqS (asgS (lstE (consA (tupE (consA (tupE (consA (tupE (consA (kD (.int 1)) nilA)) (consA (kD (.str "atmost")) (consA (tupE (consA (kD (.int 0)) nilA)) nilA)))) nilA)) (consA (tupE (consA (tupE (consA (tupE (consA (kD (.int 2)) nilA)) (consA (kD (.str "atmost")) (consA (tupE (consA (kD (.int 0)) (consA (kD (.int 1)) nilA))) nilA)))) nilA)) (consA (tupE (consA (tupE (consA (tupE (consA (kD (.int 1)) nilA)) (consA (kD (.str "below")) (consA (tupE (consA (kD (.int 0)) nilA)) nilA)))) nilA)) nilA)))) (tN 4)) (seqS (ownS 5 (lstE nilA)) (seqS (relS' [0] (forS (iRange1 (bin dAdd (vK 1) (callF (⟨2, false, F_law_draw⟩ : Fn Dw) (consA (vC 0) (consA (bin dAdd (bin dSub (vK 2) (vK 1)) (kD (.int 1))) nilA))))) (tN 6) (seqS (relS' [0, 4] (asgS (ifE (testB (bin dEq (callF (⟨2, false, F_law_draw⟩ : Fn Dw) (consA (vC 0) (consA (kD (.int 2)) nilA))) (kD (.int 0)))) (callF (⟨2, false, F_law_of⟩ : Fn Dw) (consA (vC 0) (consA (vC 4) nilA))) (tupE nilA)) (tN 7))) (seqS (relS' [0] (ifS (orT (testB (bin dEq (vK 7) (tupE nilA))) (testB (bin dEq (callF (⟨2, false, F_law_draw⟩ : Fn Dw) (consA (vC 0) (consA (kD (.int 3)) nilA))) (kD (.int 0))))) (seqS (relS' [0, 3] (asgS (bin dAdd (vK 7) (biF bTuple (consA (lcE (iRange1 (bin dAdd (kD (.int 1)) (callF (⟨2, false, F_law_draw⟩ : Fn Dw) (consA (vC 0) (consA (kD (.int 2)) nilA))))) (tN 8) yesT (callF (⟨2, false, F_law_test⟩ : Fn Dw) (consA (vC 0) (consA (vC 3) nilA))) [8]) nilA))) (tN 7))) nextS) nextS)) (seqS (relS' [0] (appS 5 (tupE (consA (slE (vK 7) noneO (someO (kD (.int 3)))) (consA (bin dIx (lstE (consA (kD (.str "top")) (consA (kD (.str "top")) (consA (kD (.str "under")) nilA)))) (callF (⟨2, false, F_law_draw⟩ : Fn Dw) (consA (vC 0) (consA (kD (.int 3)) nilA)))) nilA))))) nextS))))) (seqS (retV true (biF bTuple (consA (vK 5) nilA))) nextS))))
def n_law_clauses : List Str := ["_law_m", "_law_least", "_law_most", "_law_deep", "_law_usual", "_law_found", "_law_k", "_law_tests", "_law_n"]
def c_law_sorts (F_law_clauses : List D → Dw → Res Dw D) : ExF Dw := (seqS (relS' [0, 1] (retV true (tupE (consA (callF (⟨4, false, F_law_clauses⟩ : Fn Dw) (consA (vC 0) (consA (kD (.int 1)) (consA (kD (.int 3)) (consA (vC 1) nilA))))) (consA (callF (⟨4, false, F_law_clauses⟩ : Fn Dw) (consA (vC 0) (consA (kD (.int 0)) (consA (kD (.int 2)) (consA (vC 1) nilA))))) nilA))))) nextS)
def n_law_sorts : List Str := ["_law_m", "_law_deep"]
def c_law_row (F_law_draw : List D → Dw → Res Dw D) : ExF Dw := (seqS (relS' [1] (asgS (lstE (consA (kD (.int 1)) (consA (kD (.int 2)) (consA (vC 1) (consA (bin dPow (kD (.int 10)) (kD (.int 30))) nilA))))) (tN 3))) (seqS (relS' [0] (retV true (biF bTuple (consA (lcE (iRange1 (callF (⟨2, false, F_law_draw⟩ : Fn Dw) (consA (vC 0) (consA (bin dAdd (vK 2) (kD (.int 1))) nilA)))) (tN 4) yesT (bin dAdd (kD (.int 1)) (callF (⟨2, false, F_law_draw⟩ : Fn Dw) (consA (vC 0) (consA (bin dIx (vK 3) (callF (⟨2, false, F_law_draw⟩ : Fn Dw) (consA (vC 0) (consA (kD (.int 4)) nilA)))) nilA)))) [4]) nilA)))) nextS))
def n_law_row : List Str := ["_law_m", "_law_most", "_law_many", "_law_sizes", "_law_k"]
def c_law_holds_v2 {S : Type} : ExF S := (seqS (asgS (slE (revE (biF bList (consA (vK 0) nilA))) (someO (vK 2)) noneO) (tN 3)) (seqS (ifS (testB (bin dGe (biF bMax (consA (bin dAdd (bin dIx (vK 1) (kD (.int 0))) (bin dIx (vK 1) (kD (.int 2)))) nilA)) (biF bLen (consA (vK 3) nilA)))) (seqS (retV true (kD .non)) nextS) nextS) (seqS (parS [(4, false), (5, false)] (consA (biF bSum (consA (lcE (iSeq (bin dIx (vK 1) (kD (.int 0)))) (tN 6) yesT (bin dIx (vK 3) (vK 6)) [6]) nilA)) (consA (biF bSum (consA (lcE (iSeq (bin dIx (vK 1) (kD (.int 2)))) (tN 6) yesT (bin dIx (vK 3) (vK 6)) [6]) nilA)) nilA))) (seqS (retV false (orV (bin dLt (vK 4) (vK 5)) (andV (bin dEq (bin dIx (vK 1) (kD (.int 1))) (kD (.str "atmost"))) (bin dEq (vK 4) (vK 5))))) nextS))))
def n_law_holds_v2 : List Str := ["_law_stack", "_law_test_here", "_law_spot", "_law_top", "_law_left", "_law_right", "_law_k"]
def c_law_deed {S : Type} (F_law_holds : List D → S → Res S D) : ExF S := (seqS (lockS [1] (forS (iSeq (vS 1)) (gTupD 2 (gsC (tN 2) (gsC (tN 3) gsN))) (seqS (relS' [0, 5] (asgS (lcE (iSeq (vK 2)) (tN 5) yesT (callF (⟨3, false, F_law_holds⟩ : Fn S) (consA (vC 0) (consA (vC 5) (consA (kD (.int 0)) nilA)))) [5]) (tN 4))) (seqS (ifS (andT (testB (bin dGt (biF bLen (consA (vK 0) nilA)) (ifE (testB (bin dEq (vK 3) (kD (.str "top")))) (kD (.int 1)) (kD (.int 2))))) (andT (testB (bin dNotIn (kD .non) (vK 4))) (testB (bin dNotIn (kD (.bl false)) (vK 4))))) (seqS (rN 3) nextS) nextS) nextS)))) (seqS (retV true (kD .non)) nextS))
def n_law_deed : List Str := ["_law_stack", "_law_clauses_here", "_law_tests", "_law_deed_here", "_law_some", "_law_test_here"]
def c_law_done {S : Type} : ExF S := (seqS (asgS (bin dSub (biF bLen (consA (vK 0) nilA)) (ifE (testB (bin dEq (vK 1) (kD (.str "top")))) (kD (.int 2)) (kD (.int 3)))) (tN 2)) (seqS (asgS (bin dAdd (bin dIx (vK 0) (vK 2)) (bin dIx (vK 0) (bin dAdd (vK 2) (kD (.int 1))))) (tN 3)) (seqS (relS' [3] (retV true (tupE (consA (bin dAdd (bin dAdd (slE (vK 0) noneO (someO (vK 2))) (tupE (consA (vC 3) nilA))) (slE (vK 0) (someO (bin dAdd (vK 2) (kD (.int 2)))) noneO)) (consA (vC 3) nilA))))) nextS)))
def n_law_done : List Str := ["_law_stack", "_law_deed_here", "_law_at", "_law_amount"]
def c_law_fall {S : Type} (F_law_deed : List D → S → Res S D) (F_law_done : List D → S → Res S D) (WF : Nat) : ExF S := (seqS (parS [(2, true), (3, false)] (consA (lstE nilA) (consA (kD (.int 0)) nilA))) (seqS (relS' [0, 1] (asgS (callF (⟨2, false, F_law_deed⟩ : Fn S) (consA (vC 0) (consA (vC 1) nilA))) (tN 4))) (seqS (whileGo (testB (bin dIsNot (vK 4) (kD .non))) (seqS (relS' [4] (appS 2 (vC 4))) (seqS (relS' [0, 4] (asgS (callF (⟨2, false, F_law_done⟩ : Fn S) (consA (vC 0) (consA (vC 4) nilA))) (gTupD 2 (gsC (tN 0) (gsC (tN 5) gsN))))) (seqS (relS' [0, 1] (parS [(3, false), (4, false)] (consA (bin dAdd (vK 3) (vK 5)) (consA (callF (⟨2, false, F_law_deed⟩ : Fn S) (consA (vC 0) (consA (vC 1) nilA))) nilA)))) nextS))) WF) (seqS (relS' [0, 3] (retV true (tupE (consA (vC 0) (consA (biF bTuple (consA (vK 2) nilA)) (consA (vC 3) nilA)))))) nextS))))
def n_law_fall : List Str := ["_law_stack", "_law_clauses_here", "_law_deeds", "_law_amount", "_law_deed_here", "_law_more"]
def c_law_wish (F_law_draw : List D → Dw → Res Dw D) (F_law_of : List D → Dw → Res Dw D) (F_law_test : List D → Dw → Res Dw D) : ExF Dw := (seqS (asgS (lstE (consA (tupE (consA (tupE (consA (kD (.int 0)) nilA)) (consA (kD (.str "below")) (consA (tupE (consA (kD (.int 1)) nilA)) nilA)))) (consA (tupE (consA (tupE (consA (kD (.int 0)) (consA (kD (.int 1)) nilA))) (consA (kD (.str "below")) (consA (tupE (consA (kD (.int 2)) nilA)) nilA)))) (consA (tupE (consA (tupE (consA (kD (.int 0)) nilA)) (consA (kD (.str "atmost")) (consA (tupE (consA (kD (.int 1)) nilA)) nilA)))) (consA (tupE (consA (tupE (consA (kD (.int 0)) (consA (kD (.int 1)) nilA))) (consA (kD (.str "atmost")) (consA (tupE (consA (kD (.int 2)) nilA)) nilA)))) nilA))))) (tN 2)) (seqS (ownS 3 (lstE nilA)) (seqS (relS' [0] (forS (iRange1 (bin dAdd (kD (.int 1)) (callF (⟨2, false, F_law_draw⟩ : Fn Dw) (consA (vC 0) (consA (kD (.int 2)) nilA))))) (tN 4) (seqS (relS' [0, 2, 1] (appS 3 (ifE (testB (bin dGt (callF (⟨2, false, F_law_draw⟩ : Fn Dw) (consA (vC 0) (consA (kD (.int 3)) nilA))) (kD (.int 0)))) (callF (⟨2, false, F_law_of⟩ : Fn Dw) (consA (vC 0) (consA (vC 2) nilA))) (callF (⟨2, false, F_law_test⟩ : Fn Dw) (consA (vC 0) (consA (vC 1) nilA)))))) nextS))) (seqS (retV true (biF bTuple (consA (vK 3) nilA))) nextS))))
def n_law_wish : List Str := ["_law_m", "_law_deep", "_law_usual", "_law_found", "_law_k"]
def c_law_failing {S : Type} (F_law_holds : List D → S → Res S D) : ExF S := (seqS (ownS 3 (lstE nilA)) (seqS (lockS [2] (forS (iRange2 (vK 2) (biF bLen (consA (vK 0) nilA))) (tN 4) (seqS (lockS [1] (forS (iEnum (vS 1)) (gTupD 2 (gsC (tN 5) (gsC (tN 6) gsN))) (seqS (relS' [0, 6, 4] (ifS (testB (bin dIs (callF (⟨3, false, F_law_holds⟩ : Fn S) (consA (vC 0) (consA (vC 6) (consA (vC 4) nilA)))) (kD (.bl false)))) (seqS (relS' [4, 5] (appS 3 (tupE (consA (vC 4) (consA (vC 5) nilA))))) nextS) nextS)) nextS))) nextS))) (seqS (rN 3) nextS)))
def n_law_failing : List Str := ["_law_stack", "_law_wish_here", "_law_first", "_law_found", "_law_spot", "_law_k", "_law_test_here"]
def c_law_is_loose {S : Type} (F_law_deed : List D → S → Res S D) (F_law_failing : List D → S → Res S D) : ExF S := (seqS (relS' [2] (ifS (orT (notT (testB (chain dLe dLe (kD (.int 1)) (biF bLen (consA (vK 2) nilA)) (kD (.int 5))))) (testB (bin dIsNot (callF (⟨2, false, F_law_deed⟩ : Fn S) (consA (vC 2) (consA (bin dIx (vK 0) (kD (.int 0))) nilA))) (kD .non)))) (seqS (retV true (kD (.bl false))) nextS) nextS)) (seqS (relS' [2, 1] (retV false (andV (bin dEq (callF (⟨3, false, F_law_failing⟩ : Fn S) (consA (vC 2) (consA (vC 1) (consA (kD (.int 2)) nilA)))) (lstE nilA)) (bin dNe (callF (⟨3, false, F_law_failing⟩ : Fn S) (consA (vC 2) (consA (vC 1) (consA (kD (.int 0)) nilA)))) (lstE nilA))))) nextS))
def n_law_is_loose : List Str := ["_law_sorts_here", "_law_wish_here", "_law_stack"]
def c_law_first_break {S : Type} (F_law_fall : List D → S → Res S D) (F_law_failing : List D → S → Res S D) : ExF S := (seqS (asgS (tupE nilA) (tN 3)) (seqS (lockS [2] (forS (iEnum (vS 2)) (gTupD 2 (gsC (tN 4) (gsC (tN 5) gsN))) (seqS (relS' [5] (asgS (bin dIx (callF (⟨2, false, F_law_fall⟩ : Fn S) (consA (bin dAdd (vK 3) (tupE (consA (vC 5) nilA))) (consA (bin dIx (vK 0) (kD (.int 0))) nilA))) (kD (.int 0))) (tN 3))) (seqS (relS' [3, 1] (ifS (testB (bin dNe (callF (⟨3, false, F_law_failing⟩ : Fn S) (consA (vC 3) (consA (vC 1) (consA (kD (.int 0)) nilA)))) (lstE nilA))) (seqS (rN 4) nextS) nextS)) nextS)))) (seqS (retV true (kD .non)) nextS)))
def n_law_first_break : List Str := ["_law_sorts_here", "_law_wish_here", "_law_row_so", "_law_stack", "_law_k", "_law_length"]
def c_law_pile (F_law_draw : List D → Dw → Res Dw D) : ExF Dw := (seqS (parS [(1, true), (2, false)] (consA (lstE nilA) (consA (kD (.int 0)) nilA))) (seqS (relS' [0] (forS (iRange1 (callF (⟨2, false, F_law_draw⟩ : Fn Dw) (consA (vC 0) (consA (kD (.int 7)) nilA)))) (tN 3) (seqS (relS' [0] (asgS (bin dIx (lstE (consA (bin dAdd (kD (.int 1)) (callF (⟨2, false, F_law_draw⟩ : Fn Dw) (consA (vC 0) (consA (kD (.int 9)) nilA)))) (consA (bin dAdd (bin dAdd (vK 2) (kD (.int 1))) (callF (⟨2, false, F_law_draw⟩ : Fn Dw) (consA (vC 0) (consA (kD (.int 9)) nilA)))) (consA (bin dAdd (bin dMul (kD (.int 2)) (vK 2)) (kD (.int 1))) nilA)))) (callF (⟨2, false, F_law_draw⟩ : Fn Dw) (consA (vC 0) (consA (kD (.int 3)) nilA)))) (tN 2))) (seqS (relS' [2] (appS 1 (vC 2))) nextS)))) (seqS (retV true (biF bTuple (consA (revE (vK 1)) nilA))) nextS)))
def n_law_pile : List Str := ["_law_m", "_law_found", "_law_last", "_law_k"]
def cended_of {S : Type} (Ffirst_deed : List D → S → Res S D) (Famount_of : List D → S → Res S D) (Fmerged : List D → S → Res S D) (WF : Nat) : ExF S := (seqS (parS [(2, true), (3, false)] (consA (lstE nilA) (consA (kD (.int 0)) nilA))) (seqS (whileGo (testB (bin dGt (biF bLen (consA (vK 0) nilA)) (kD (.int 1)))) (seqS (relS' [0, 1] (asgS (callF (⟨2, false, Ffirst_deed⟩ : Fn S) (consA (vC 0) (consA (vC 1) nilA))) (tN 4))) (seqS (ifS (testB (bin dIs (vK 4) (kD .non))) (seqS (asgS (kD (.str "top")) (tN 4)) nextS) nextS) (seqS (relS' [4] (appS 2 (vC 4))) (seqS (relS' [0, 4] (augS 3 .Add (callF (⟨2, false, Famount_of⟩ : Fn S) (consA (vC 0) (consA (vC 4) nilA))))) (seqS (relS' [0, 4] (asgS (callF (⟨2, false, Fmerged⟩ : Fn S) (consA (vC 0) (consA (vC 4) nilA))) (tN 0))) nextS))))) WF) (seqS (relS' [2, 3] (retV true (tupE (consA (vC 2) (consA (vC 3) nilA))))) nextS)))
def nended_of : List Str := ["pile", "clauses", "deeds", "cost", "deed"]
def cpushed {S : Type} (Fneed_sorter : List D → S → Res S D) (Fneed_pile : List D → S → Res S D) (Fneed_lengths : List D → S → Res S D) (Ffallen : List D → S → Res S D) : ExF S := (seqS (relS' [0] (dropS (callF (⟨1, false, Fneed_sorter⟩ : Fn S) (consA (vC 0) nilA)))) (seqS (relS' [1] (dropS (callF (⟨1, false, Fneed_pile⟩ : Fn S) (consA (vC 1) nilA)))) (seqS (relS' [2] (dropS (callF (⟨1, false, Fneed_lengths⟩ : Fn S) (consA (tupE (consA (vC 2) nilA)) nilA)))) (seqS (relS' [2] (asgS (callF (⟨2, false, Ffallen⟩ : Fn S) (consA (tupE (starA (vK 1) (consA (vC 2) nilA))) (consA (bin dIx (vK 0) (kD (.int 0))) nilA))) (gTupD 3 (gsC (tN 3) (gsC (tN 4) (gsC (tN 5) gsN)))))) (seqS (relS' [3] (retV true (tupE (consA (vC 3) (consA (biF bTuple (consA (vK 4) nilA)) nilA))))) nextS)))))
def npushed : List Str := ["sorter", "pile", "length", "found", "deeds", "cost"]
def cended {S : Type} (Fneed_sorter : List D → S → Res S D) (Fended_of : List D → S → Res S D) (Fneed_pile : List D → S → Res S D) : ExF S := (seqS (relS' [0] (dropS (callF (⟨1, false, Fneed_sorter⟩ : Fn S) (consA (vC 0) nilA)))) (seqS (relS' [1] (retV true (biF bTuple (consA (bin dIx (callF (⟨2, false, Fended_of⟩ : Fn S) (consA (callF (⟨1, false, Fneed_pile⟩ : Fn S) (consA (vC 1) nilA)) (consA (bin dIx (vK 0) (kD (.int 1))) nilA))) (kD (.int 0))) nilA)))) nextS))
def nended : List Str := ["sorter", "pile"]
def cpiles_behind {S : Type} (Fneed_sorter : List D → S → Res S D) (Fgone_along : List D → S → Res S D) (Fneed_lengths : List D → S → Res S D) : ExF S := (seqS (relS' [0] (dropS (callF (⟨1, false, Fneed_sorter⟩ : Fn S) (consA (vC 0) nilA)))) (seqS (relS' [0, 1] (retV true (biF bTuple (consA (bin dIx (callF (⟨2, false, Fgone_along⟩ : Fn S) (consA (vC 0) (consA (callF (⟨1, false, Fneed_lengths⟩ : Fn S) (consA (vC 1) nilA)) nilA))) (kD (.int 0))) nilA)))) nextS))
def npiles_behind : List Str := ["sorter", "lengths"]
def crun {S : Type} (Fneed_sorter : List D → S → Res S D) (Fneed_lengths : List D → S → Res S D) (Fgone_along : List D → S → Res S D) (Fended_of : List D → S → Res S D) : ExF S := (seqS (relS' [0] (dropS (callF (⟨1, false, Fneed_sorter⟩ : Fn S) (consA (vC 0) nilA)))) (seqS (relS' [1] (asgS (callF (⟨1, false, Fneed_lengths⟩ : Fn S) (consA (vC 1) nilA)) (tN 2))) (seqS (relS' [0, 2] (asgS (callF (⟨2, false, Fgone_along⟩ : Fn S) (consA (vC 0) (consA (vC 2) nilA))) (gTupD 3 (gsC (tN 3) (gsC (tN 4) (gsC (tN 5) gsN)))))) (seqS (asgS (callF (⟨2, false, Fended_of⟩ : Fn S) (consA (ifE (testB (bin dNe (vK 3) (lstE nilA))) (bin dIx (vK 3) (negV (kD (.int 1)))) (tupE nilA)) (consA (bin dIx (vK 0) (kD (.int 1))) nilA))) (gTupD 2 (gsC (tN 6) (gsC (tN 7) gsN)))) (seqS (retV true (tupE (consA (biF bTuple (consA (vK 4) nilA)) (consA (biF bTuple (consA (vK 6) nilA)) (consA (bin dAdd (vK 5) (vK 7)) nilA))))) nextS)))))
def nrun : List Str := ["sorter", "lengths", "row", "piles", "deeds", "whole", "last", "cost"]
def ccost {S : Type} (Frun : List D → S → Res S D) : ExF S := (seqS (relS' [0, 1] (retV false (bin dIx (callF (⟨2, false, Frun⟩ : Fn S) (consA (vC 0) (consA (vC 1) nilA))) (kD (.int 2))))) nextS)
def ncost : List Str := ["sorter", "lengths"]
def cdeepest {S : Type} (Fpiles_behind : List D → S → Res S D) : ExF S := (seqS (relS' [0, 1] (retV true (biF bMax (consA (bin dAdd (lstE (consA (kD (.int 0)) nilA)) (lcE (iSeq (callF (⟨2, false, Fpiles_behind⟩ : Fn S) (consA (vC 0) (consA (vC 1) nilA)))) (tN 2) yesT (biF bLen (consA (vK 2) nilA)) [2])) nilA)))) nextS)
def ndeepest : List Str := ["sorter", "lengths", "pile"]
def ctouched {S : Type} (Fneed_sorter : List D → S → Res S D) (Fneed_lengths : List D → S → Res S D) (Frun : List D → S → Res S D) : ExF S := (seqS (relS' [0] (dropS (callF (⟨1, false, Fneed_sorter⟩ : Fn S) (consA (vC 0) nilA)))) (seqS (relS' [1] (asgS (callF (⟨1, false, Fneed_lengths⟩ : Fn S) (consA (vC 1) nilA)) (tN 2))) (seqS (parS [(3, true), (4, true), (5, false)] (consA (lstE nilA) (consA (bin dMul (lstE (consA (kD (.int 0)) nilA)) (biF bLen (consA (vK 2) nilA))) (consA (kD (.int 0)) nilA)))) (seqS (relS' [0, 2] (asgS (callF (⟨2, false, Frun⟩ : Fn S) (consA (vC 0) (consA (vC 2) nilA))) (gTupD 3 (gsC (tN 6) (gsC (tN 7) (gsC (tN 8) gsN)))))) (seqS (forS (iRange1 (bin dAdd (biF bLen (consA (vK 2) nilA)) (kD (.int 1)))) (tN 9) (seqS (ifS (testB (bin dLt (vK 9) (biF bLen (consA (vK 2) nilA)))) (seqS (relS' [9] (appS 3 (lstE (consA (vC 9) nilA)))) nextS) nextS) (seqS (relS' [7] (forS (iSeq (ifE (testB (bin dLt (vK 9) (biF bLen (consA (vK 2) nilA)))) (bin dIx (vK 6) (vK 9)) (vC 7))) (tN 10) (seqS (asgS (bin dSub (biF bLen (consA (vK 3) nilA)) (ifE (testB (bin dEq (vK 10) (kD (.str "top")))) (kD (.int 2)) (kD (.int 3)))) (tN 5)) (seqS (setSlS 3 (lstE (consA (bin dAdd (bin dIx (vK 3) (vK 5)) (bin dIx (vK 3) (bin dAdd (vK 5) (kD (.int 1))))) nilA)) (vK 5) (bin dAdd (vK 5) (kD (.int 2)))) (seqS (forS (iSeq (bin dIx (vK 3) (vK 5))) (tN 11) (seqS (augItS 4 .Add (vK 11) (kD (.int 1))) nextS)) nextS))))) nextS))) (seqS (retV true (biF bTuple (consA (vK 4) nilA))) nextS))))))
def ntouched : List Str := ["sorter", "lengths", "row", "pile", "found", "at", "deeds", "last", "whole", "number", "deed", "one"]
def c_law_end {S : Type} (F_law_done : List D → S → Res S D) (F_law_deed : List D → S → Res S D) (WF : Nat) : ExF S := (seqS (parS [(2, true), (3, false)] (consA (lstE nilA) (consA (kD (.int 0)) nilA))) (seqS (whileGo (testB (bin dGt (biF bLen (consA (vK 0) nilA)) (kD (.int 1)))) (seqS (relS' [0, 1] (asgS (orV (callF (⟨2, false, F_law_deed⟩ : Fn S) (consA (vC 0) (consA (vC 1) nilA))) (kD (.str "top"))) (tN 4))) (seqS (relS' [4] (appS 2 (vC 4))) (seqS (relS' [0, 4] (asgS (callF (⟨2, false, F_law_done⟩ : Fn S) (consA (vC 0) (consA (vC 4) nilA))) (gTupD 2 (gsC (tN 0) (gsC (tN 5) gsN))))) (seqS (asgS (bin dAdd (vK 3) (vK 5)) (tN 3)) nextS)))) WF) (seqS (relS' [3] (retV true (tupE (consA (biF bTuple (consA (vK 2) nilA)) (consA (vC 3) nilA))))) nextS)))
def n_law_end : List Str := ["_law_stack", "_law_clauses_here", "_law_deeds", "_law_amount", "_law_deed_here", "_law_more"]
def c_law_touched {S : Type} : ExF S := (seqS (parS [(3, true), (4, false)] (consA (lstE nilA) (consA (bin dMul (lstE (consA (kD (.int 0)) nilA)) (biF bLen (consA (vK 0) nilA))) nilA))) (seqS (relS' [2] (forS (iEnum (bin dAdd (biF bList (consA (vK 1) nilA)) (lstE (consA (vC 2) nilA)))) (gTupD 2 (gsC (tN 5) (gsC (tN 6) gsN))) (seqS (ifS (testB (bin dLt (vK 5) (biF bLen (consA (vK 0) nilA)))) (seqS (relS' [5] (appS 3 (lstE (consA (vC 5) nilA)))) nextS) nextS) (seqS (lockS [6] (forS (iSeq (vS 6)) (tN 7) (seqS (asgS (bin dSub (biF bLen (consA (vK 3) nilA)) (ifE (testB (bin dEq (vK 7) (kD (.str "top")))) (kD (.int 2)) (kD (.int 3)))) (tN 8)) (seqS (asgS (bin dAdd (bin dIx (vK 3) (vK 8)) (bin dIx (vK 3) (bin dAdd (vK 8) (kD (.int 1))))) (tN 9)) (seqS (relS' [9] (ownS 3 (bin dAdd (bin dAdd (slE (vK 3) noneO (someO (vK 8))) (lstE (consA (vC 9) nilA))) (slE (vK 3) (someO (bin dAdd (vK 8) (kD (.int 2)))) noneO)))) (seqS (asgS (lcE (iRange1 (biF bLen (consA (vK 0) nilA))) (tN 10) yesT (bin dAdd (bin dIx (vK 4) (vK 10)) (biF bInt (consA (bin dIn (vK 10) (vK 9)) nilA))) [10]) (tN 4)) nextS)))))) nextS)))) (seqS (retV true (biF bTuple (consA (vK 4) nilA))) nextS)))
def n_law_touched : List Str := ["_law_row_so", "_law_pushes", "_law_last", "_law_stack", "_law_found", "_law_k", "_law_deeds", "_law_deed_here", "_law_at", "_law_both", "_law_n"]
abbrev FF (S : Type) := List D → S → Res S D
def Fis_whole {S : Type} : FF S := fun ds s => endR false (cis_whole (rho0 nis_whole ds) s)
def Fis_side {S : Type} : FF S := fun ds s => endR false (cis_side Fis_whole (rho0 nis_side ds) s)
def Fis_test {S : Type} : FF S := fun ds s => endR false (cis_test Fis_side (rho0 nis_test ds) s)
def Fwrong_in_tests {S : Type} : FF S := fun ds s => endR false (cwrong_in_tests Fis_test (rho0 nwrong_in_tests ds) s)
def Fneed_wants {S : Type} : FF S := fun ds s => endR false (cneed_wants Fwrong_in_tests (rho0 nneed_wants ds) s)
def Fneed_steep {S : Type} : FF S := fun ds s => endR false (cneed_steep Fneed_wants (rho0 nneed_steep ds) s)
def Fleast_entries {S : Type} : FF S := fun ds s => endR false (cleast_entries (rho0 nleast_entries ds) s)
def Fneed_depth {S : Type} : FF S := fun ds s => endR false (cneed_depth Fis_whole (rho0 nneed_depth ds) s)
def Fleast_pile {S : Type} : FF S := fun ds s => endR false (cleast_pile Fneed_steep Fneed_depth Fleast_entries (rho0 nleast_pile ds) s)
def Fleast_total {S : Type} : FF S := fun ds s => endR false (cleast_total Fleast_pile (rho0 nleast_total ds) s)
def Fneed_total {S : Type} : FF S := fun ds s => endR false (cneed_total Fis_whole (rho0 nneed_total ds) s)
def Fdepth_in {S : Type} : FF S := fun ds s => endR false (cdepth_in Fleast_entries (rho0 ndepth_in ds) s)
def Fdepth_within {S : Type} : FF S := fun ds s => endR false (cdepth_within Fneed_steep Fneed_total Fdepth_in (rho0 ndepth_within ds) s)
def F_law_mixed {S : Type} : FF S := fun ds s => endR false (c_law_mixed (rho0 n_law_mixed ds) s)
def F_law_folded {S : Type} : FF S := fun ds s => endR true (c_law_folded (rho0 n_law_folded ds) s)
def F_law_draw (a : Ad) : FF Dw := fun ds s => endR false (c_law_draw a F_law_mixed (rho0 n_law_draw ds) s)
def F_law_like {S : Type} : FF S := fun ds s => endR false (c_law_like (rho0 n_law_like ds) s)
def F_law_of (a : Ad) : FF Dw := fun ds s => endR false (c_law_of (F_law_draw a) (rho0 n_law_of ds) s)
def F_law_side (a : Ad) : FF Dw := fun ds s => endR false (c_law_side (F_law_draw a) (rho0 n_law_side ds) s)
def F_law_steep (a : Ad) : FF Dw := fun ds s => endR false (c_law_steep (F_law_side a) (F_law_draw a) (F_law_of a) (rho0 n_law_steep ds) s)
def F_law_holds {S : Type} : FF S := fun ds s => endR false (c_law_holds (rho0 n_law_holds ds) s)
def F_law_all_hold {S : Type} : FF S := fun ds s => endR false (c_law_all_hold F_law_holds (rho0 n_law_all_hold ds) s)
def F_law_least {S : Type} : FF S := fun ds s => endR false (c_law_least (rho0 n_law_least ds) s)
def F_law_deep {S : Type} : FF S := fun ds s => endR false (c_law_deep F_law_least (401) (rho0 n_law_deep ds) s)
def F_law_piles {S : Type} : FF S := fun ds s => endR false (c_law_piles (rho0 n_law_piles ds) s)
def Fwrong_in_clause {S : Type} : FF S := fun ds s => endR false (cwrong_in_clause Fwrong_in_tests (rho0 nwrong_in_clause ds) s)
def Fwrong_in_clauses {S : Type} : FF S := fun ds s => endR false (cwrong_in_clauses Fwrong_in_clause (rho0 nwrong_in_clauses ds) s)
def Fneed_sorter {S : Type} : FF S := fun ds s => endR false (cneed_sorter Fwrong_in_clauses (rho0 nneed_sorter ds) s)
def Fneed_lengths {S : Type} : FF S := fun ds s => endR false (cneed_lengths Fis_whole (rho0 nneed_lengths ds) s)
def Freach_of {S : Type} : FF S := fun ds s => endR false (creach_of (rho0 nreach_of ds) s)
def Fentry {S : Type} : FF S := fun ds s => endR false (centry (rho0 nentry ds) s)
def Fholds_at {S : Type} : FF S := fun ds s => endR false (cholds_at Fentry (rho0 nholds_at ds) s)
def Fdoes_apply {S : Type} : FF S := fun ds s => endR false (cdoes_apply Fholds_at Freach_of (rho0 ndoes_apply ds) s)
def Ffirst_deed {S : Type} : FF S := fun ds s => endR false (cfirst_deed Fdoes_apply (rho0 nfirst_deed ds) s)
def Fneed_pile {S : Type} : FF S := fun ds s => endR false (cneed_pile (rho0 nneed_pile ds) s)
def Fmerged {S : Type} : FF S := fun ds s => endR false (cmerged (rho0 nmerged ds) s)
def Famount_of {S : Type} : FF S := fun ds s => endR false (camount_of (rho0 namount_of ds) s)
def Ffallen {S : Type} : FF S := fun ds s => endR false (cfallen Ffirst_deed Famount_of Fmerged (wfLen ds) (rho0 nfallen ds) s)
def Fgone_along {S : Type} : FF S := fun ds s => endR false (cgone_along Ffallen (rho0 ngone_along ds) s)
def Ffailing_in {S : Type} : FF S := fun ds s => endR false (cfailing_in Fholds_at Freach_of (rho0 nfailing_in ds) s)
def Fhold_on {S : Type} : FF S := fun ds s => endR false (chold_on Fneed_wants Ffailing_in Fneed_pile (rho0 nhold_on ds) s)
def Ffailing_on {S : Type} : FF S := fun ds s => endR false (cfailing_on Fneed_wants Ffailing_in Fneed_pile (rho0 nfailing_on ds) s)
def Ffirst_break {S : Type} : FF S := fun ds s => endR false (cfirst_break Fneed_sorter Fneed_wants Fgone_along Ffailing_in Fneed_lengths (rho0 nfirst_break ds) s)
def Fis_loose_of {S : Type} : FF S := fun ds s => endR false (cis_loose_of Ffirst_deed Ffailing_in (rho0 nis_loose_of ds) s)
def Fis_loose {S : Type} : FF S := fun ds s => endR false (cis_loose Fneed_sorter Fneed_wants Fis_loose_of Fneed_pile (rho0 nis_loose ds) s)
def F_law_like_v2 {S : Type} : FF S := fun ds s => endR false (c_law_like_v2 (rho0 n_law_like_v2 ds) s)
def F_law_side_v2 (a : Ad) : FF Dw := fun ds s => endR false (c_law_side_v2 (F_law_of a) (F_law_draw a) (rho0 n_law_side_v2 ds) s)
def F_law_test (a : Ad) : FF Dw := fun ds s => endR false (c_law_test (F_law_side_v2 a) (F_law_draw a) (rho0 n_law_test ds) s)
def F_law_clauses (a : Ad) : FF Dw := fun ds s => endR false (c_law_clauses (F_law_draw a) (F_law_of a) (F_law_test a) (rho0 n_law_clauses ds) s)
def F_law_sorts (a : Ad) : FF Dw := fun ds s => endR false (c_law_sorts (F_law_clauses a) (rho0 n_law_sorts ds) s)
def F_law_row (a : Ad) : FF Dw := fun ds s => endR false (c_law_row (F_law_draw a) (rho0 n_law_row ds) s)
def F_law_holds_v2 {S : Type} : FF S := fun ds s => endR false (c_law_holds_v2 (rho0 n_law_holds_v2 ds) s)
def F_law_deed {S : Type} : FF S := fun ds s => endR false (c_law_deed F_law_holds_v2 (rho0 n_law_deed ds) s)
def F_law_done {S : Type} : FF S := fun ds s => endR false (c_law_done (rho0 n_law_done ds) s)
def F_law_fall {S : Type} : FF S := fun ds s => endR false (c_law_fall F_law_deed F_law_done (wfLen ds) (rho0 n_law_fall ds) s)
def F_law_wish (a : Ad) : FF Dw := fun ds s => endR false (c_law_wish (F_law_draw a) (F_law_of a) (F_law_test a) (rho0 n_law_wish ds) s)
def F_law_failing {S : Type} : FF S := fun ds s => endR false (c_law_failing F_law_holds_v2 (rho0 n_law_failing ds) s)
def F_law_is_loose {S : Type} : FF S := fun ds s => endR false (c_law_is_loose F_law_deed F_law_failing (rho0 n_law_is_loose ds) s)
def F_law_first_break {S : Type} : FF S := fun ds s => endR false (c_law_first_break F_law_fall F_law_failing (rho0 n_law_first_break ds) s)
def F_law_pile (a : Ad) : FF Dw := fun ds s => endR false (c_law_pile (F_law_draw a) (rho0 n_law_pile ds) s)
def Fended_of {S : Type} : FF S := fun ds s => endR false (cended_of Ffirst_deed Famount_of Fmerged (wfLen ds) (rho0 nended_of ds) s)
def Fpushed {S : Type} : FF S := fun ds s => endR false (cpushed Fneed_sorter Fneed_pile Fneed_lengths Ffallen (rho0 npushed ds) s)
def Fended {S : Type} : FF S := fun ds s => endR false (cended Fneed_sorter Fended_of Fneed_pile (rho0 nended ds) s)
def Fpiles_behind {S : Type} : FF S := fun ds s => endR false (cpiles_behind Fneed_sorter Fgone_along Fneed_lengths (rho0 npiles_behind ds) s)
def Frun {S : Type} : FF S := fun ds s => endR false (crun Fneed_sorter Fneed_lengths Fgone_along Fended_of (rho0 nrun ds) s)
def Fcost {S : Type} : FF S := fun ds s => endR false (ccost Frun (rho0 ncost ds) s)
def Fdeepest {S : Type} : FF S := fun ds s => endR false (cdeepest Fpiles_behind (rho0 ndeepest ds) s)
def Ftouched {S : Type} : FF S := fun ds s => endR false (ctouched Fneed_sorter Fneed_lengths Frun (rho0 ntouched ds) s)
def F_law_end {S : Type} : FF S := fun ds s => endR false (c_law_end F_law_done F_law_deed (wfLen ds) (rho0 n_law_end ds) s)
def F_law_touched {S : Type} : FF S := fun ds s => endR false (c_law_touched (rho0 n_law_touched ds) s)
end Wd

set_option maxHeartbeats 0
/-! S1: sorters, wants, rows, piles as data; the program lets them by. -/
namespace Wd
open PySem PySem.Spec PyProof.Rows L2 Q
theorem sz {n : Nat} (h : n ≤ 100000) : n ≤ sizeLine := by rw [sizeLine_eq]; omega
theorem szl {n : Nat} (h : n ≤ 100000) : n < sizeLine := by rw [sizeLine_eq]; omega
def word (b : Bool) : Str := if b = true then "below" else "atmost"
def dword (b : Bool) : Str := if b = true then "top" else "under"
structure Tst where
  l : List Int
  b : Bool
  r : List Int
def Tst.d (t : Tst) : D := .tup [.tup (iD t.l), .str (word t.b), .tup (iD t.r)]
structure SideOk (l : List Int) : Prop where
  l1 : 1 ≤ l.length
  l3 : l.length ≤ 3
  rng : ∀ x ∈ l, 0 ≤ x ∧ x ≤ 3
  asc : l.Pairwise (· < ·)
structure Tst.Ok (t : Tst) : Prop where
  l : SideOk t.l
  r : SideOk t.r
  dis : ∀ x ∈ t.l, x ∉ t.r
structure Cl where
  ts : List Tst
  top : Bool
def Cl.d (c : Cl) : D := .tup [.tup (c.ts.map Tst.d), .str (dword c.top)]
structure Cl.Ok (c : Cl) : Prop where
  n : c.ts.length ≤ 3
  ok : ∀ t ∈ c.ts, t.Ok
structure So where
  rule : List Cl
  fin : List Cl
def csD (cs : List Cl) : D := .tup (cs.map Cl.d)
def So.d (s : So) : D := .tup [csD s.rule, csD s.fin]
structure So.Ok (s : So) : Prop where
  r1 : 1 ≤ s.rule.length
  r6 : s.rule.length ≤ 6
  f2 : s.fin.length ≤ 2
  ro : ∀ c ∈ s.rule, c.Ok
  fo : ∀ c ∈ s.fin, c.Ok
def wsD (ws : List Tst) : D := .tup (ws.map Tst.d)
structure WsOk (ws : List Tst) : Prop where
  n1 : 1 ≤ ws.length
  n3 : ws.length ≤ 3
  ok : ∀ t ∈ ws, t.Ok
theorem eq_below (b : Bool) : dEq (.str (word b)) (.str "below") = some (.bl b) := by cases b <;> kernel_rfl
theorem eq_atmost (b : Bool) : dEq (.str (word b)) (.str "atmost") = some (.bl (!b)) := by cases b <;> kernel_rfl
theorem eq_top (b : Bool) : dEq (.str (dword b)) (.str "top") = some (.bl b) := by cases b <;> kernel_rfl
theorem ni_word (b : Bool) : dNotIn (.str (word b)) (.tup [.str "below", .str "atmost"]) = some (.bl false) := by cases b <;> kernel_rfl
theorem in_deed (b : Bool) : dIn (.str (dword b)) (.tup [.str "top", .str "under"]) = some (.bl true) := by cases b <;> kernel_rfl
theorem at0 (d : D) (r : List D) : L2.atI (d :: r) 0 = some d := ix_at (i := 0) rfl
theorem at1 (d e : D) (r : List D) : L2.atI (d :: e :: r) 1 = some e := ix_at (i := 1) rfl
theorem at2 (d e f : D) (r : List D) : L2.atI (d :: e :: f :: r) 2 = some f := ix_at (i := 2) rfl
def mB (p : Int → Bool) : D → D
  | .int x => .bl (p x)
  | d => d
theorem boolsOf_map (p : Int → Bool) : ∀ l : List Int, boolsOf ((iD l).map (mB p)) = some (l.map p)
  | [] => rfl
  | x :: l => by simp [boolsOf, mB, boolsOf_map p l]
def upI (h : Int → Int) : D → D
  | .int x => .int (h x)
  | d => d
theorem map_upI (h : Int → Int) (l : List Int) : (iD l).map (upI h) = iD (l.map h) := by simp [iD, upI]
theorem mem_iD {d : D} {l : List Int} (h : d ∈ iD l) : ∃ x ∈ l, d = .int x := by
  simp only [iD, List.mem_map] at h
  obtain ⟨x, hx, rfl⟩ := h
  exact ⟨x, hx, rfl⟩
theorem mem_enum : ∀ {ds : List D} {n : Nat} {d : D}, d ∈ enumFrom n ds → ∃ (i : Int) (x : D), d = .tup [.int i, x] ∧ x ∈ ds
  | [], _, _, h => by simp [enumFrom] at h
  | e :: ds, n, d, h => by
    simp only [enumFrom, List.mem_cons] at h
    rcases h with rfl | h
    · exact ⟨_, _, rfl, List.mem_cons_self⟩
    · obtain ⟨i, x, e1, e2⟩ := mem_enum h
      exact ⟨i, x, e1, List.mem_cons_of_mem _ e2⟩
section
variable {S : Type}
theorem whole_spec (v lo hi : Int) (s : S) : Fis_whole [.int v, .int lo, .int hi] s = .ok (.bl (decide (lo ≤ v ∧ v ≤ hi))) s := by
  simp [Fis_whole, cis_whole, nis_whole, rho0]
  by_cases h : lo ≤ v <;> simp [h]
theorem side_spec {l : List Int} (h : SideOk l) (s : S) : Fis_side [.tup (iD l)] s = .ok (.bl true) s := by
  obtain ⟨h1, h3, hr, ha⟩ := h
  match l, h1, h3 with
  | [x], _, _ =>
    have hx := hr x (by simp)
    simp [Fis_side, cis_side, nis_side, rho0, relAt_def, lcGo, whole_spec, hx, sizeLine_eq, bAll, boolsOf, zip2, dSl, Q.cutD, zipD, HT.sIx]
  | [x, y], _, _ =>
    have hx := hr x (by simp)
    have hy := hr y (by simp)
    have hxy : x < y := (List.pairwise_cons.mp ha).1 y (by simp)
    simp [Fis_side, cis_side, nis_side, rho0, relAt_def, lcGo, whole_spec, hx, hy, hxy, sizeLine_eq, bAll, boolsOf, zip2, dSl, Q.cutD, zipD, HT.sIx]
  | [x, y, z], _, _ =>
    have hx := hr x (by simp)
    have hy := hr y (by simp)
    have hz := hr z (by simp)
    have hxy : x < y := (List.pairwise_cons.mp ha).1 y (by simp)
    have hyz : y < z := (List.pairwise_cons.mp (List.pairwise_cons.mp ha).2).1 z (by simp)
    simp [Fis_side, cis_side, nis_side, rho0, relAt_def, lcGo, whole_spec, hx, hy, hz, hxy, hyz, sizeLine_eq, bAll, boolsOf, zip2, dSl, Q.cutD, zipD, HT.sIx]
theorem test_c {Fs : FF S} {t : Tst} {s : S} (h : t.Ok) (e1 : Fs [.tup (iD t.l)] s = .ok (.bl true) s) (e2 : Fs [.tup (iD t.r)] s = .ok (.bl true) s) : endR false (cis_test Fs [Sl.val t.d, Sl.no] s) = .ok (.bl true) s := by
  have key : lcGo (tN 1) yesT (bin dIn (vK 1) (bin dIx (vK 0) (kD (D.int 2)))) [Sl.val t.d, Sl.no] (iD t.l) s = .ok ((iD t.l).map (mB fun _ => false)) s := by
    refine lcGo_map fun d hd => ?_
    obtain ⟨x, hx, rfl⟩ := mem_iD hd
    have e : dIn (.int x) (.tup (iD t.r)) = some (.bl false) := by
      rw [dIn_int]
      have : (t.r.any fun z => z == x) = false := by
        rw [List.any_eq_false]
        intro z hz
        have hne : z ≠ x := fun e => h.dis x hx (e ▸ hz)
        simpa using hne
      rw [this]
    exact ⟨[Sl.val t.d, Sl.val (.int x)], by simp, rfl, by simp [Tst.d, dIx, at2, e, mB]⟩
  have hb := boolsOf_map (fun _ => false) t.l
  have hz : t.l.length ≤ sizeLine := sz (by have := h.l.l3; omega)
  simp [cis_test, Tst.d, dIx, at0, at1, at2, e1, e2, dNe, deq, toPy, PyData.eqv, sizeLine_eq, ni_word]
  simp [Tst.d] at key
  simp [key, hz, bAny, hb]
  rw [sizeLine_eq] at hz
  simp [hz, hb]
theorem test_spec {t : Tst} (h : t.Ok) (s : S) : Fis_test [t.d] s = .ok (.bl true) s := test_c h (side_spec h.l s) (side_spec h.r s)
theorem wrongT_c {Ft : FF S} {ts : List Tst} {k : Int} {s : S} (hn : (ts.length : Int) ≤ k) (h : ∀ t ∈ ts, Ft [t.d] s = .ok (.bl true) s) : endR false (cwrong_in_tests Ft [Sl.val (wsD ts), Sl.val (.int k), .no, .no] s) = .ok (.lst []) s := by
  have key : lcGo (gTupD 2 (gsC (tN 2) (gsC (tN 3) gsN))) (notT (truth (callF ⟨1, false, Ft⟩ (consA (vC 3) nilA)))) (tupE (consA (vC 2) nilA)) [Sl.val (wsD ts), Sl.val (.int k), Sl.no, Sl.no] (enumFrom 0 (ts.map Tst.d)) s = .ok [] s := by
    have nl : ((enumFrom 0 (ts.map Tst.d)).filter fun _ => false).map id = ([] : List D) := by
      rw [List.filter_eq_nil_iff.mpr (by simp)]; rfl
    rw [← nl]
    refine lcGo_filter fun d hd => ?_
    obtain ⟨i, x, rfl, hx⟩ := mem_enum hd
    obtain ⟨t, ht, rfl⟩ := List.mem_map.mp hx
    exact ⟨[Sl.val (wsD ts), Sl.val (.int k), Sl.val (.int i), Sl.val t.d], by simp, by simp [h t ht], fun z => by cases z⟩
  have hn' : ¬ (k < (ts.length : Int)) := by omega
  simp [wsD] at key
  simp [cwrong_in_tests, wsD, relAt_def, hn', key, sizeLine_eq, dSl, Q.cutD, HT.sIx]
theorem wrongT_spec {ts : List Tst} {k : Int} (hn : (ts.length : Int) ≤ k) (h : ∀ t ∈ ts, t.Ok) (s : S) : Fwrong_in_tests [wsD ts, .int k] s = .ok (.lst []) s := wrongT_c hn fun t ht => test_spec (h t ht) s
theorem wrongC_c {Fw : FF S} {c : Cl} {s : S} (e : Fw [wsD c.ts, .int 3] s = .ok (.lst []) s) : endR false (cwrong_in_clause Fw [Sl.val c.d, .no, .no] s) = .ok (.lst []) s := by
  have hne : dNe (.lst []) (.lst []) = some (.bl false) := dNe_nil []
  have hz2 : 2 ≤ sizeLine := sz (by omega)
  simp only [wsD] at e
  simp [cwrong_in_clause, Cl.d, dIx, at0, at1, e, lcGo, dNe, deq, toPy, toPyL, PyData.eqv, PyData.eqvAll, hz2, in_deed, sizeLine_eq]
theorem wrongC_spec {c : Cl} (h : c.Ok) (s : S) : Fwrong_in_clause [c.d] s = .ok (.lst []) s := wrongC_c (wrongT_spec (by have := h.n; omega) h.ok s)
theorem wrongCs_c {Fw : FF S} {cs : List Cl} {lo hi : Int} {s : S} (h1 : lo ≤ cs.length) (h2 : (cs.length : Int) ≤ hi) (e : ∀ c ∈ cs, Fw [c.d] s = .ok (.lst []) s) : endR false (cwrong_in_clauses Fw [Sl.val (csD cs), Sl.val (.int lo), Sl.val (.int hi), .no, .no, .no] s) = .ok (.lst []) s := by
  have loop := forGo_inv (S := S) (g := gTupD 2 (gsC (tN 3) (gsC (tN 4) gsN)))
    (body := seqS (lockS [4] (relS' [4] (forS (iSeq (callF (⟨1, false, Fw⟩ : Fn S) (consA (vC 4) nilA))) (tN 5) (seqS (relS' [3] (retV true (lstE (consA (tupE (consA (vC 3) (starA (vK 5) nilA))) nilA)))) nextS)))) nextS)
    (fun r ρ s' => s' = s ∧ (∀ d ∈ r, ∃ (i : Int) (c : Cl), d = .tup [.int i, c.d] ∧ c ∈ cs) ∧ ∃ a b, ρ = [Sl.val (csD cs), Sl.val (.int lo), Sl.val (.int hi), a, b, Sl.no]) (fun d r ρ s' hI => by
      obtain ⟨rfl, hm, a, b, rfl⟩ := hI
      obtain ⟨i, c, rfl, hc⟩ := hm d List.mem_cons_self
      refine ⟨[Sl.val (csD cs), Sl.val (.int lo), Sl.val (.int hi), Sl.val (.int i), Sl.val c.d, Sl.no], by simp, [Sl.val (csD cs), Sl.val (.int lo), Sl.val (.int hi), Sl.val (.int i), Sl.val c.d, Sl.no], s', ?_, rfl, fun d hd => hm d (List.mem_cons_of_mem _ hd), _, _, rfl⟩
      rw [seqS_ap, lockS_cons, lockS_nil, lock1_val (d := c.d) rfl]
      simp [relAt_def, e c hc])
    (enumFrom 0 (cs.map Cl.d)) [Sl.val (csD cs), Sl.val (.int lo), Sl.val (.int hi), Sl.no, Sl.no, Sl.no] s ⟨rfl, fun d hd => by
      obtain ⟨i, x, rfl, hx⟩ := mem_enum hd
      obtain ⟨c, hc, rfl⟩ := List.mem_map.mp hx
      exact ⟨i, c, rfl, hc⟩, _, _, rfl⟩
  obtain ⟨ρ', s', e', rfl, _, a, b, rfl⟩ := loop
  simp only [csD] at e'
  simp [cwrong_in_clauses, csD, h1, h2, lock1, e']
theorem wrongCs_spec {cs : List Cl} {lo hi : Int} (h1 : lo ≤ cs.length) (h2 : (cs.length : Int) ≤ hi) (h : ∀ c ∈ cs, c.Ok) (s : S) : Fwrong_in_clauses [csD cs, .int lo, .int hi] s = .ok (.lst []) s := wrongCs_c h1 h2 fun c hc => wrongC_spec (h c hc) s
theorem needSo_c {Fw : FF S} {o : So} {s : S} (e1 : Fw [csD o.rule, .int 1, .int 6] s = .ok (.lst []) s) (e2 : Fw [csD o.fin, .int 0, .int 2] s = .ok (.lst []) s) : endR false (cneed_sorter Fw [Sl.val o.d, .no] s) = .ok o.d s := by
  simp [cneed_sorter, So.d, dIx, at0, at1, e1, e2, dNe, deq, toPy, PyData.eqv]
theorem needSo_spec {o : So} (h : o.Ok) (s : S) : Fneed_sorter [o.d] s = .ok o.d s := needSo_c (wrongCs_spec (by have := h.r1; omega) (by have := h.r6; omega) h.ro s) (wrongCs_spec (by omega) (by have := h.f2; omega) h.fo s)
theorem needWs_c {Fw : FF S} {ws : List Tst} {s : S} (h1 : 1 ≤ ws.length) (h3 : ws.length ≤ 3) (e : Fw [wsD ws, .int 3] s = .ok (.lst []) s) : endR false (cneed_wants Fw [Sl.val (wsD ws), .no] s) = .ok (wsD ws) s := by
  have h1' : (1 : Int) ≤ (ws.length : Int) := by omega
  have h3' : (ws.length : Int) ≤ 3 := by omega
  simp only [wsD] at e
  simp [cneed_wants, wsD, relAt_def, h1', h3', lock1, e]
theorem needWs_spec {ws : List Tst} (h : WsOk ws) (s : S) : Fneed_wants [wsD ws] s = .ok (wsD ws) s := needWs_c h.n1 h.n3 (wrongT_spec (by have := h.n3; omega) h.ok s)
def RowOk (l : List Int) : Prop := l.length ≤ 400 ∧ ∀ x ∈ l, 1 ≤ x ∧ x ≤ 1000000000000000000000000000000
abbrev nlB (Fw : FF S) : ExF S := (seqS (relS' [2] (ifS (notT (truth (callF (⟨3, false, Fw⟩ : Fn S) (consA (vC 2) (consA (kD (.int 1)) (consA (kD (.int 1000000000000000000000000000000)) nilA)))))) (seqS stuckS nextS) nextS)) nextS)
theorem needRow_loop {Fw : FF S} {s : S} (h : ∀ x : Int, 1 ≤ x → x ≤ 1000000000000000000000000000000 → Fw [.int x, .int 1, .int 1000000000000000000000000000000] s = .ok (.bl true) s) (r0 : Sl) : ∀ (l : List Int) (k : Nat) (a b : Sl), (∀ x ∈ l, 1 ≤ x ∧ x ≤ 1000000000000000000000000000000) → ∃ a' b', forGo (gTupD 2 (gsC (tN 1) (gsC (tN 2) gsN))) (nlB Fw) (enumFrom k (iD l)) [r0, a, b] s = .nxt [r0, a', b'] s
  | [], k, a, b, _ => ⟨a, b, rfl⟩
  | x :: l, k, a, b, hx => by
    obtain ⟨a', b', e⟩ := needRow_loop h r0 l (k + 1) (Sl.val (.int k)) (Sl.val (.int x)) fun y hy => hx y (List.mem_cons_of_mem _ hy)
    obtain ⟨x1, x2⟩ := hx x List.mem_cons_self
    refine ⟨a', b', ?_⟩
    rw [iD_cons, enumFrom, forGo_cons (ρ1 := [r0, Sl.val (.int k), Sl.val (.int x)]) (by simp)]
    have hb : nlB Fw [r0, Sl.val (.int k), Sl.val (.int x)] s = .nxt [r0, Sl.val (.int k), Sl.val (.int x)] s := by
      simp [relAt_def, h x x1 x2]
    rw [hb, turn_nxt, e]
theorem isi_lt (ds : List D) : dIsi (.lst ds) "tuple" = some false := by simp [dIsi, tyN, knownT, isiT]
theorem isi_ll (ds : List D) : dIsi (.lst ds) "list" = some true := by simp [dIsi, tyN, knownT, isiT]
theorem isi_tl (ds : List D) : dIsi (.tup ds) "list" = some false := by simp [dIsi, tyN, knownT, isiT]
@[simp] theorem isi2E_ap (f : EvF S) (T U : String) (ρ : List Sl) (s : S) : isi2E f T U ρ s = (f ρ s).bind fun d s1 => ofO ((dIsi d T).bind fun b => (dIsi d U).map fun c => .bl (b || c)) s1 := rfl
theorem wholeRow (x : Int) (h1 : 1 ≤ x) (h2 : x ≤ 1000000000000000000000000000000) (s : S) : Fis_whole [.int x, .int 1, .int 1000000000000000000000000000000] s = .ok (.bl true) s := by rw [whole_spec]; simp [h1, h2]
theorem needRow_c {Fw : FF S} {l : List Int} {s : S} (hl : RowOk l) (h : ∀ x : Int, 1 ≤ x → x ≤ 1000000000000000000000000000000 → Fw [.int x, .int 1, .int 1000000000000000000000000000000] s = .ok (.bl true) s) : endR false (cneed_lengths Fw [Sl.val (.tup (iD l)), .no, .no] s) = .ok (.tup (iD l)) s := by
  obtain ⟨a', b', e⟩ := needRow_loop h (Sl.val (.tup (iD l))) l 0 .no .no hl.2
  have h4 : ¬ ((400 : Int) < (l.length : Int)) := by have := hl.1; omega
  unfold nlB at e
  simp [cneed_lengths, isi_tl, h4, lock1, e]
theorem needRow_spec {l : List Int} (hl : RowOk l) (s : S) : Fneed_lengths [.tup (iD l)] s = .ok (.tup (iD l)) s := needRow_c hl fun x h1 h2 => wholeRow x h1 h2 s
theorem needRowL_c {Fw : FF S} {l : List Int} {s : S} (hl : RowOk l) (h : ∀ x : Int, 1 ≤ x → x ≤ 1000000000000000000000000000000 → Fw [.int x, .int 1, .int 1000000000000000000000000000000] s = .ok (.bl true) s) : endR false (cneed_lengths Fw [Sl.val (.lst (iD l)), .no, .no] s) = .ok (.tup (iD l)) s := by
  obtain ⟨a', b', e⟩ := needRow_loop h (Sl.val (.lst (iD l))) l 0 .no .no hl.2
  have h4 : ¬ ((400 : Int) < (l.length : Int)) := by have := hl.1; omega
  unfold nlB at e
  simp [cneed_lengths, isi_ll, isi_lt, h4, lock1, e]
theorem needRowL_spec {l : List Int} (hl : RowOk l) (s : S) : Fneed_lengths [.lst (iD l)] s = .ok (.tup (iD l)) s := needRowL_c hl fun x h1 h2 => wholeRow x h1 h2 s
def PileOk (l : List Int) : Prop := l.length ≤ 400 ∧ ∀ x ∈ l, 1 ≤ x
abbrev npB : ExF S := (seqS (ifS (orT (notT (truth (isiE (vK 2) "int"))) (orT (truth (isiE (vK 2) "bool")) (testB (bin dLt (vK 2) (kD (.int 1)))))) (seqS stuckS nextS) nextS) nextS)
theorem needPile_loop {s : S} (r0 : Sl) : ∀ (l : List Int) (k : Nat) (a b : Sl), (∀ x ∈ l, 1 ≤ x) → ∃ a' b', forGo (gTupD 2 (gsC (tN 1) (gsC (tN 2) gsN))) npB (enumFrom k (iD l)) [r0, a, b] s = .nxt [r0, a', b'] s
  | [], k, a, b, _ => ⟨a, b, rfl⟩
  | x :: l, k, a, b, hx => by
    obtain ⟨a', b', e⟩ := needPile_loop r0 l (k + 1) (Sl.val (.int k)) (Sl.val (.int x)) fun y hy => hx y (List.mem_cons_of_mem _ hy)
    have x1 : ¬ (x < 1) := by have := hx x List.mem_cons_self; omega
    refine ⟨a', b', ?_⟩
    rw [iD_cons, enumFrom, forGo_cons (ρ1 := [r0, Sl.val (.int k), Sl.val (.int x)]) (by simp)]
    have hb : npB (S := S) [r0, Sl.val (.int k), Sl.val (.int x)] s = .nxt [r0, Sl.val (.int k), Sl.val (.int x)] s := by
      simp [x1]
    rw [hb, turn_nxt, e]
theorem needPile_spec {l : List Int} (hl : PileOk l) (s : S) : Fneed_pile [.tup (iD l)] s = .ok (.tup (iD l)) s := by
  obtain ⟨a', b', e⟩ := needPile_loop (s := s) (Sl.val (.tup (iD l))) l 0 .no .no hl.2
  have h4 : ¬ ((400 : Int) < (l.length : Int)) := by have := hl.1; omega
  unfold npB at e
  show endR false (cneed_pile [Sl.val (.tup (iD l)), .no, .no] s) = _
  simp [cneed_pile, h4, lock1, e]
end
end Wd

set_option maxHeartbeats 0
/-! S2: piles: tests, deeds, falls. -/
namespace Wd
open PySem PySem.Spec PyProof.Rows L2 Q
/-- the greatest number of a test -/
def reach (t : Tst) : Int := (t.l ++ t.r).foldl max 0
/-- q: the entries from the top, from the spot on -/
def sumAt (q l : List Int) : Int := (l.map fun x => q.getD x.toNat 0).sum
def hold (q : List Int) (t : Tst) : Bool := if t.b = true then decide (sumAt q t.l < sumAt q t.r) else decide (sumAt q t.l ≤ sumAt q t.r)
def applies (q : List Int) (c : Cl) : Bool := decide ((if c.top = true then 2 else 3) ≤ q.length) && c.ts.all fun t => decide (reach t < q.length) && hold q t
def first (q : List Int) (cs : List Cl) : Option Bool := (cs.find? (applies q)).map (·.top)
def odD : Option Bool → D
  | none => .non
  | some b => .str (dword b)
def mrg : Bool → List Int → List Int
  | true, x :: y :: r => (y + x) :: r
  | false, x :: y :: z :: r => x :: (z + y) :: r
  | _, q => q
def amt : Bool → List Int → Int
  | true, x :: y :: _ => y + x
  | false, _ :: y :: z :: _ => z + y
  | _, _ => 0
def fallN (cs : List Cl) : Nat → List Int → List Bool × List Int × Int
  | 0, q => ([], q, 0)
  | n + 1, q => match first q cs with
    | none => ([], q, 0)
    | some b => (b :: (fallN cs n (mrg b q)).1, (fallN cs n (mrg b q)).2.1, amt b q + (fallN cs n (mrg b q)).2.2)
def fall (cs : List Cl) (q : List Int) : List Bool × List Int × Int := fallN cs q.length q
def dsD (ds : List Bool) : List D := ds.map fun b => .str (dword b)
theorem foldl_max_le : ∀ (l : List Int) (m b : Int), l.foldl max m ≤ b ↔ m ≤ b ∧ ∀ x ∈ l, x ≤ b
  | [], m, b => by simp
  | x :: l, m, b => by
    rw [List.foldl_cons, foldl_max_le l]
    simp only [List.mem_cons, forall_eq_or_imp]
    constructor
    · rintro ⟨h1, h2⟩; exact ⟨by omega, by omega, h2⟩
    · rintro ⟨h1, h2, h3⟩; exact ⟨by omega, h3⟩
theorem reach_lt {t : Tst} {n : Int} (h : reach t < n) : ∀ x, x ∈ t.l ∨ x ∈ t.r → x < n := fun x hx => by
  have := ((foldl_max_le (t.l ++ t.r) 0 (reach t)).mp (Int.le_refl _)).2 x (List.mem_append.mpr hx)
  omega
theorem ix_int {f : List Int} {i : Int} (h0 : 0 ≤ i) (h1 : i < f.length) : L2.atI (iD f) i = some (.int (f.getD i.toNat 0)) := by
  have hi : i.toNat < f.length := by omega
  have e := ix_at (ds := iD f) (i := i.toNat) (d := .int (f.getD i.toNat 0)) (by simp [iD, List.getD, List.getElem?_eq_getElem hi])
  rwa [show ((i.toNat : Nat) : Int) = i by omega] at e
theorem rev_getD (p : List Int) (k : Nat) (h : k < p.length) : p.getD (p.length - 1 - k) 0 = p.reverse.getD k 0 := by
  rw [List.getD, List.getD, List.getElem?_reverse h]
theorem drop_getD (p : List Int) (k i : Nat) : (p.drop k).getD i 0 = p.getD (k + i) 0 := by simp [List.getD, List.getElem?_drop]
theorem add_sides {t : Tst} (h : t.Ok) : dAdd (.tup (iD t.l)) (.tup (iD t.r)) = some (.tup (iD (t.l ++ t.r))) := by
  have : (iD t.l).length + (iD t.r).length ≤ sizeLine := by have := h.l.l3; have := h.r.l3; rw [sizeLine_eq]; simp; omega
  simp only [dAdd]
  rw [if_pos this, iD_append]
theorem max_sides {t : Tst} (h : t.Ok) : bMax [.tup (iD (t.l ++ t.r))] = some (.int (reach t)) := by
  have e : bMax [.tup (iD (t.l ++ t.r))] = (intsOf (iD (t.l ++ t.r))).bind maxI := rfl
  rw [e, intsOf_iD]
  obtain ⟨x, l, q⟩ : ∃ x l, t.l = x :: l := by
    cases q : t.l with
    | nil => have := h.l.l1; rw [q] at this; simp at this
    | cons x l => exact ⟨x, l, rfl⟩
  have hx : 0 ≤ x := (h.l.rng x (by rw [q]; simp)).1
  show (maxI (t.l ++ t.r)) = _
  unfold reach
  rw [q]
  show some (D.int ((l ++ t.r).foldl max x)) = _
  rw [List.cons_append, List.foldl_cons, Int.max_eq_right hx]
section
variable {S : Type}
theorem reach_spec {t : Tst} (h : t.Ok) (s : S) : Freach_of [t.d] s = .ok (.int (reach t)) s := by
  show endR false (creach_of [Sl.val t.d] s) = _
  simp [creach_of, Tst.d, dIx, at0, at2, add_sides h, max_sides h]
theorem entry_spec {p : List Int} {k : Int} (h0 : 0 ≤ k) (h1 : k < p.length) (s : S) : Fentry [.tup (iD p), .int k] s = .ok (.int (p.reverse.getD k.toNat 0)) s := by
  show endR false (centry [Sl.val (.tup (iD p)), Sl.val (.int k)] s) = _
  have e := ix_int (f := p) (i := (p.length : Int) - 1 - k) (by omega) (by omega)
  rw [show ((p.length : Int) - 1 - k).toNat = p.length - 1 - k.toNat by omega, rev_getD p k.toNat (by omega)] at e
  simp [centry, dIx, e]
theorem holds_c {Fe : FF S} {p : List Int} {t : Tst} {sp : Nat} {s : S} (ok : t.Ok) (hr : reach t + sp < p.length) (he : ∀ k : Int, 0 ≤ k → k < p.length → Fe [.tup (iD p), .int k] s = .ok (.int (p.reverse.getD k.toNat 0)) s) : endR false (cholds_at Fe [Sl.val (.tup (iD p)), Sl.val t.d, Sl.val (.int sp), .no, .no, .no] s) = .ok (.bl (hold (p.reverse.drop sp) t)) s := by
  have key : ∀ (l : List Int) (a b : Sl), (∀ x ∈ l, 0 ≤ x ∧ x + sp < p.length) → lcGo (tN 5) yesT (callF (⟨2, false, Fe⟩ : Fn S) (consA (vC 0) (consA (bin dAdd (vK 5) (vK 2)) nilA))) [Sl.val (.tup (iD p)), Sl.val t.d, Sl.val (.int sp), a, b, .no] (iD l) s = .ok (iD (l.map fun x => (p.reverse.drop sp).getD x.toNat 0)) s := by
    intro l a b hl
    rw [← map_upI (fun x => (p.reverse.drop sp).getD x.toNat 0)]
    refine lcGo_map fun d hd => ?_
    obtain ⟨x, hx, rfl⟩ := mem_iD hd
    obtain ⟨h1, h2⟩ := hl x hx
    refine ⟨[Sl.val (.tup (iD p)), Sl.val t.d, Sl.val (.int sp), a, b, Sl.val (.int x)], by simp, rfl, ?_⟩
    have e := he (x + sp) (by omega) (by omega)
    rw [show (x + (sp : Int)).toNat = sp + x.toNat by omega, ← drop_getD] at e
    simp [e, upI]
  have hlt := reach_lt (t := t) (n := (p.length : Int) - sp) (by omega)
  have kl := fun a b => key t.l a b fun x hx => ⟨(ok.l.rng x hx).1, by have := hlt x (.inl hx); omega⟩
  have kr := fun a b => key t.r a b fun x hx => ⟨(ok.r.rng x hx).1, by have := hlt x (.inr hx); omega⟩
  have hz1 : t.l.length ≤ sizeLine := sz (by have := ok.l.l3; omega)
  have hz2 : t.r.length ≤ sizeLine := sz (by have := ok.r.l3; omega)
  simp [Tst.d] at kl kr
  cases hb : t.b <;> rw [hb] at kl kr <;> simp [cholds_at, relAt_def, Tst.d, dIx, at0, at1, at2, kl, kr, hz1, hz2, hb, eq_below, hold, sumAt]
theorem holdsAt_spec {p : List Int} {t : Tst} {sp : Nat} (ok : t.Ok) (hr : reach t + sp < p.length) (s : S) : Fholds_at [.tup (iD p), t.d, .int sp] s = .ok (.bl (hold (p.reverse.drop sp) t)) s := holds_c ok hr fun k h0 h1 => entry_spec h0 h1 s
def tB (f : Tst → Bool) (ts : List Tst) : List D := ts.map fun t => .bl (f t)
theorem boolsOf_tB (f : Tst → Bool) : ∀ ts : List Tst, boolsOf (tB f ts) = some (ts.map f)
  | [] => rfl
  | t :: ts => by
    have := boolsOf_tB f ts
    simp only [tB, List.map_cons, boolsOf] at this ⊢
    rw [this]; rfl
theorem lcGo_tB {g : D → List Sl → Option (List Sl)} {ft : EvT' S} {fe : EvF S} {ρ : List Sl} {f : Tst → Bool} {s : S} : ∀ {ts : List Tst}, (∀ t ∈ ts, ∃ ρ2, g t.d ρ = some ρ2 ∧ ft ρ2 s = .ok true s ∧ fe ρ2 s = .ok (.bl (f t)) s) → lcGo g ft fe ρ (ts.map Tst.d) s = .ok (tB f ts) s
  | [], _ => rfl
  | t :: ts, k => by
    obtain ⟨ρ2, e1, e2, e3⟩ := k t List.mem_cons_self
    rw [List.map_cons, lcGo_cons e1, e2]
    simp only [noErr_okS, bind_okS, if_true, e3, lcGo_tB fun x hx => k x (List.mem_cons_of_mem _ hx)]
    rfl
theorem apply_c {Fh Fr : FF S} {p : List Int} {c : Cl} {s : S} (ok : c.Ok) (hr : ∀ t ∈ c.ts, Fr [t.d] s = .ok (.int (reach t)) s) (hh : ∀ t ∈ c.ts, reach t < p.length → Fh [.tup (iD p), t.d, .int 0] s = .ok (.bl (hold p.reverse t)) s) : endR false (cdoes_apply Fh Fr [Sl.val (.tup (iD p)), Sl.val c.d, .no, .no, .no] s) = .ok (.bl (applies p.reverse c)) s := by
  have key := lcGo_tB (S := S) (g := tN 4) (ft := yesT) (fe := andV (bin dLt (callF (⟨1, false, Fr⟩ : Fn S) (consA (vC 4) nilA)) (biF bLen (consA (vK 0) nilA))) (callF (⟨3, false, Fh⟩ : Fn S) (consA (vC 0) (consA (vC 4) (consA (kD (.int 0)) nilA))))) (ρ := [Sl.val (.tup (iD p)), Sl.val c.d, Sl.val (.tup (c.ts.map Tst.d)), Sl.val (.str (dword c.top)), .no]) (f := fun t => decide (reach t < p.length) && hold p.reverse t) (s := s) (ts := c.ts) (fun t ht => ⟨[Sl.val (.tup (iD p)), Sl.val c.d, Sl.val (.tup (c.ts.map Tst.d)), Sl.val (.str (dword c.top)), Sl.val t.d], by simp, rfl, by
    by_cases h : reach t < (p.length : Int)
    · simp [hr t ht, h, hh t ht h]
    · simp [hr t ht, h]⟩)
  have hb := boolsOf_tB (fun t => decide (reach t < p.length) && hold p.reverse t) c.ts
  have hz : (tB (fun t => decide (reach t < p.length) && hold p.reverse t) c.ts).length ≤ sizeLine := sz (by simp [tB]; have := ok.n; omega)
  have hall : bAll [.lst (tB (fun t => decide (reach t < p.length) && hold p.reverse t) c.ts)] = some (.bl (c.ts.all fun t => decide (reach t < p.length) && hold p.reverse t)) := by
    simp only [bAll, hb]
    simp [List.all_map, Function.comp_def]
  simp only [Cl.d] at key
  cases ht : c.top with
  | true =>
    rw [ht] at key
    by_cases h2 : (p.length : Int) < 2
    · simp [cdoes_apply, relAt_def, Cl.d, ht, eq_top, h2, applies]
      omega
    · have h2' : 2 ≤ p.length := by omega
      simp [cdoes_apply, relAt_def, Cl.d, ht, eq_top, h2, key, hz, hall, applies, h2']
  | false =>
    rw [ht] at key
    by_cases h2 : (p.length : Int) < 3
    · simp [cdoes_apply, relAt_def, Cl.d, ht, eq_top, h2, applies]
      omega
    · have h2' : 3 ≤ p.length := by omega
      simp [cdoes_apply, relAt_def, Cl.d, ht, eq_top, h2, key, hz, hall, applies, h2']
theorem apply_spec {p : List Int} {c : Cl} (ok : c.Ok) (s : S) : Fdoes_apply [.tup (iD p), c.d] s = .ok (.bl (applies p.reverse c)) s :=
  apply_c ok (fun t ht => reach_spec (ok.ok t ht) s) fun t ht h => by
    have := holdsAt_spec (p := p) (sp := 0) (ok.ok t ht) (by simpa using h) s
    simpa using this
theorem first_loop {Fa : FF S} {p : List Int} {s : S} (c0 : D) : ∀ (cs : List Cl) (a : Sl), (∀ c ∈ cs, Fa [.tup (iD p), c.d] s = .ok (.bl (applies p.reverse c)) s) → ∃ a', forGo (tN 2) (seqS (relS' [0, 2] (ifS (truth (callF (⟨2, false, Fa⟩ : Fn S) (consA (vC 0) (consA (vC 2) nilA)))) (seqS (retV false (bin dIx (vK 2) (kD (.int 1)))) nextS) nextS)) nextS) (cs.map Cl.d) [Sl.val (.tup (iD p)), Sl.val c0, a] s = match first p.reverse cs with
    | some b => .ret false (.str (dword b)) s
    | none => .nxt [Sl.val (.tup (iD p)), Sl.val c0, a'] s
  | [], a, _ => ⟨a, rfl⟩
  | c :: cs, a, h => by
    obtain ⟨a', e⟩ := first_loop c0 cs (Sl.val c.d) fun x hx => h x (List.mem_cons_of_mem _ hx)
    have hc := h c List.mem_cons_self
    refine ⟨a', ?_⟩
    rw [List.map_cons, forGo_cons (ρ1 := [Sl.val (.tup (iD p)), Sl.val c0, Sl.val c.d]) (by simp)]
    cases q : applies p.reverse c with
    | true =>
      rw [q] at hc
      have : first p.reverse (c :: cs) = some c.top := by simp [first, q]
      rw [this]
      simp [relAt_def, hc, Cl.d, dIx, at1]
      simp [Cl.d] at hc
      simp [hc, dIx, at1]
    | false =>
      rw [q] at hc
      have : first p.reverse (c :: cs) = first p.reverse cs := by simp [first, q]
      rw [this, ← e]
      simp [relAt_def, hc]
theorem firstDeed_c {Fa : FF S} {p : List Int} {cs : List Cl} {s : S} (h : ∀ c ∈ cs, Fa [.tup (iD p), c.d] s = .ok (.bl (applies p.reverse c)) s) : endR false (cfirst_deed Fa [Sl.val (.tup (iD p)), Sl.val (csD cs), .no] s) = .ok (odD (first p.reverse cs)) s := by
  obtain ⟨a', e⟩ := first_loop (S := S) (csD cs) cs .no h
  have hi : itemsOf (csD cs) = some (cs.map Cl.d) := rfl
  unfold cfirst_deed
  rw [seqS_ap, lockS_cons, lockS_nil, lock1_val (d := csD cs) rfl, forS_ap, iSeq_ap, vS_ap]
  have q : slS (S := S) ([Sl.val (.tup (iD p)), Sl.val (csD cs), .no] : List Sl)[1]? s = .ok (csD cs) s := rfl
  rw [q, bind_okS, hi, ofO_some, thenS_ok, e]
  cases first p.reverse cs with
  | some b => rw [next_ret, endR_ret]; rfl
  | none => rw [next_nxt]; simp [odD]
theorem firstDeed_spec {p : List Int} {cs : List Cl} (ok : ∀ c ∈ cs, c.Ok) (s : S) : Ffirst_deed [.tup (iD p), csD cs] s = .ok (odD (first p.reverse cs)) s := firstDeed_c fun c hc => apply_spec (ok c hc) s
end
end Wd

set_option maxHeartbeats 0
/-! S3: deeds on piles, falls. -/
namespace Wd
open PySem PySem.Spec PyProof.Rows L2 Q
theorem atL1 (l : List D) (a : D) : L2.atI (l ++ [a]) (-1) = some a := by
  have e1 : (-1 + ((l.length : Int) + 1)).toNat = l.length := by omega
  have e2 : (1 : Int) ≤ (l.length : Int) + 1 := by omega
  unfold L2.atI ixN
  simp [e1, e2]
theorem atL2 (l : List D) (a b : D) : L2.atI (l ++ [a, b]) (-2) = some a := by
  have e1 : (-2 + ((l.length : Int) + 2)).toNat = l.length := by omega
  have e2 : (2 : Int) ≤ (l.length : Int) + 2 := by omega
  unfold L2.atI ixN
  simp [e1, e2]
theorem atL1' (l : List D) (a b : D) : L2.atI (l ++ [a, b]) (-1) = some b := by
  have := atL1 (l ++ [a]) b
  simpa using this
theorem atL3 (l : List D) (a b c : D) : L2.atI (l ++ [a, b, c]) (-3) = some a := by
  have e1 : (-3 + ((l.length : Int) + 3)).toNat = l.length := by omega
  have e2 : (3 : Int) ≤ (l.length : Int) + 3 := by omega
  unfold L2.atI ixN
  simp [e1, e2]
theorem atL2' (l : List D) (a b c : D) : L2.atI (l ++ [a, b, c]) (-2) = some b := by
  have := atL2 (l ++ [a]) b c
  simpa using this
theorem atL1'' (l : List D) (a b c : D) : L2.atI (l ++ [a, b, c]) (-1) = some c := by
  have := atL1 (l ++ [a, b]) c
  simpa using this
theorem cutL2 (l : List D) (a b : D) : dSl (.tup (l ++ [a, b])) none (some (-2)) = some (.tup l) := by
  have e1 : (-2 + ((l.length : Int) + 2)).toNat = l.length := by omega
  simp [dSl, Q.cutD, HT.sIx, e1]
theorem cutL3 (l : List D) (a b c : D) : dSl (.tup (l ++ [a, b, c])) none (some (-3)) = some (.tup l) := by
  have e1 : (-3 + ((l.length : Int) + 3)).toNat = l.length := by omega
  simp [dSl, Q.cutD, HT.sIx, e1]
theorem addT (a b : List D) (h : a.length + b.length ≤ 100000) : dAdd (.tup a) (.tup b) = some (.tup (a ++ b)) := by
  simp only [dAdd]
  rw [if_pos (sz h)]
theorem addLs (a b : List D) (h : a.length + b.length ≤ 100000) : dAdd (.lst a) (.lst b) = some (.lst (a ++ b)) := by
  simp only [dAdd]
  rw [if_pos (sz h)]
def need (b : Bool) : Nat := if b = true then 2 else 3
theorem mrg_len (b : Bool) (q : List Int) (h : need b ≤ q.length) : (mrg b q).length + 1 = q.length := by
  cases b with
  | true => match q, h with
    | x :: y :: r, _ => simp [mrg]
  | false => match q, h with
    | x :: y :: z :: r, _ => simp [mrg]
theorem first_need {q : List Int} {cs : List Cl} {b : Bool} (h : first q cs = some b) : need b ≤ q.length := by
  unfold first at h
  rw [Option.map_eq_some_iff] at h
  obtain ⟨c, h1, rfl⟩ := h
  have := List.find?_some h1
  unfold applies at this
  simp only [Bool.and_eq_true, decide_eq_true_eq] at this
  exact this.1
section
variable {S : Type}
theorem rev2 (x y : Int) (r : List Int) : iD (x :: y :: r).reverse = iD r.reverse ++ [.int y, .int x] := by simp [iD]
theorem rev3 (x y z : Int) (r : List Int) : iD (x :: y :: z :: r).reverse = iD r.reverse ++ [.int z, .int y, .int x] := by simp [iD]
theorem merged_spec {q : List Int} {b : Bool} (h : need b ≤ q.length) (hq : q.length ≤ 50000) (s : S) : Fmerged [.tup (iD q.reverse), .str (dword b)] s = .ok (.tup (iD (mrg b q).reverse)) s := by
  show endR false (cmerged [Sl.val (.tup (iD q.reverse)), Sl.val (.str (dword b))] s) = _
  cases b with
  | true => match q, h with
    | x :: y :: r, _ =>
      rw [rev2]
      have ha := addT (iD r.reverse) [.int (y + x)] (by simp at hq ⊢; omega)
      simp [cmerged, eq_top, cutL2, dIx, atL2, atL1', ha, sz, mrg, iD_append]
  | false => match q, h with
    | x :: y :: z :: r, _ =>
      rw [rev3]
      have ha := addT (iD r.reverse) [.int (z + y), .int x] (by simp at hq ⊢; omega)
      simp [cmerged, eq_top, cutL3, dIx, atL3, atL2', atL1'', ha, sz, mrg]
      simp [iD]
theorem amount_spec {q : List Int} {b : Bool} (h : need b ≤ q.length) (s : S) : Famount_of [.tup (iD q.reverse), .str (dword b)] s = .ok (.int (amt b q)) s := by
  show endR false (camount_of [Sl.val (.tup (iD q.reverse)), Sl.val (.str (dword b))] s) = _
  cases b with
  | true => match q, h with
    | x :: y :: r, _ =>
      rw [rev2]
      simp [camount_of, eq_top, dIx, atL2, atL1', amt]
  | false => match q, h with
    | x :: y :: z :: r, _ =>
      rw [rev3]
      simp [camount_of, eq_top, dIx, atL3, atL2', amt]
theorem isNot_od (o : Option Bool) : dIsNot (odD o) .non = some (.bl o.isSome) := by cases o <;> simp [odD, dIsNot, dis]
abbrev faB (Ff Fm Fg : FF S) : ExF S := (seqS (relS' [4] (appS 2 (vC 4))) (seqS (relS' [0, 4] (augS 3 .Add (callF (⟨2, false, Fm⟩ : Fn S) (consA (vC 0) (consA (vC 4) nilA))))) (seqS (relS' [0, 4] (asgS (callF (⟨2, false, Fg⟩ : Fn S) (consA (vC 0) (consA (vC 4) nilA))) (tN 0))) (seqS (relS' [0, 1] (asgS (callF (⟨2, false, Ff⟩ : Fn S) (consA (vC 0) (consA (vC 1) nilA))) (tN 4))) nextS))))
theorem fall_loop {Ff Fm Fg : FF S} {cs : List Cl} {s : S} (hf : ∀ q : List Int, Ff [.tup (iD q.reverse), csD cs] s = .ok (odD (first q cs)) s) (hm : ∀ (q : List Int) (b : Bool), need b ≤ q.length → Fm [.tup (iD q.reverse), .str (dword b)] s = .ok (.int (amt b q)) s) (hg : ∀ (q : List Int) (b : Bool), need b ≤ q.length → q.length ≤ 50000 → Fg [.tup (iD q.reverse), .str (dword b)] s = .ok (.tup (iD (mrg b q).reverse)) s) :
    ∀ (n : Nat) (q : List Int) (ds : List Bool) (c : Int), q.length ≤ n → q.length ≤ 50000 → ds.length + q.length ≤ 60000 →
      whileGo (testB (bin dIsNot (vK 4) (kD .non))) (faB Ff Fm Fg) (n + 1) [Sl.val (.tup (iD q.reverse)), Sl.val (csD cs), Sl.own (dsD ds), Sl.val (.int c), Sl.val (odD (first q cs))] s
        = .nxt [Sl.val (.tup (iD (fallN cs n q).2.1.reverse)), Sl.val (csD cs), Sl.own (dsD (ds ++ (fallN cs n q).1)), Sl.val (.int (c + (fallN cs n q).2.2)), Sl.val .non] s
  | 0, q, ds, c, hn, hq, hd => by
    have : q = [] := List.eq_nil_of_length_eq_zero (by omega)
    subst this
    have hn : first [] cs = none := by
      cases e : first [] cs with
      | none => rfl
      | some b => have := first_need e; cases b <;> simp [need] at this
    rw [while_succ]
    simp [hn, isNot_od, fallN, odD, dIsNot, dis]
  | n + 1, q, ds, c, hn, hq, hd => by
    rw [while_succ]
    cases e : first q cs with
    | none =>
      simp [isNot_od, fallN, e, odD, dIsNot, dis]
    | some b =>
      have hb := first_need e
      have hl := mrg_len b q hb
      have ih := fall_loop hf hm hg n (mrg b q) (ds ++ [b]) (c + amt b q) (by omega) (by omega) (by simp; omega)
      have h1 : relS' (S := S) [4] (appS 2 (vC 4)) [Sl.val (.tup (iD q.reverse)), Sl.val (csD cs), Sl.own (dsD ds), Sl.val (.int c), Sl.val (odD (some b))] s = .nxt [Sl.val (.tup (iD q.reverse)), Sl.val (csD cs), Sl.own (dsD (ds ++ [b])), Sl.val (.int c), Sl.val (odD (some b))] s := by
        have hz : ds.length < sizeLine := szl (by omega)
        rw [relS_ap]
        simp only [relAll_cons, relAll_nil, relAt_def, List.getElem?_cons_succ, List.getElem?_cons_zero, List.set_cons_succ, List.set_cons_zero, relS_val]
        rw [appS_own (ds := dsD ds) rfl]
        simp [hz, dsD, odD]
      have h2 : relS' (S := S) [0, 4] (augS 3 .Add (callF (⟨2, false, Fm⟩ : Fn S) (consA (vC 0) (consA (vC 4) nilA)))) [Sl.val (.tup (iD q.reverse)), Sl.val (csD cs), Sl.own (dsD (ds ++ [b])), Sl.val (.int c), Sl.val (odD (some b))] s = .nxt [Sl.val (.tup (iD q.reverse)), Sl.val (csD cs), Sl.own (dsD (ds ++ [b])), Sl.val (.int (c + amt b q)), Sl.val (odD (some b))] s := by
        have := hm q b hb
        simp [relAt_def, augS, augI, odD, this]
      have h3 : relS' (S := S) [0, 4] (asgS (callF (⟨2, false, Fg⟩ : Fn S) (consA (vC 0) (consA (vC 4) nilA))) (tN 0)) [Sl.val (.tup (iD q.reverse)), Sl.val (csD cs), Sl.own (dsD (ds ++ [b])), Sl.val (.int (c + amt b q)), Sl.val (odD (some b))] s = .nxt [Sl.val (.tup (iD (mrg b q).reverse)), Sl.val (csD cs), Sl.own (dsD (ds ++ [b])), Sl.val (.int (c + amt b q)), Sl.val (odD (some b))] s := by
        have := hg q b hb hq
        simp [relAt_def, odD, this]
      have h4 : relS' (S := S) [0, 1] (asgS (callF (⟨2, false, Ff⟩ : Fn S) (consA (vC 0) (consA (vC 1) nilA))) (tN 4)) [Sl.val (.tup (iD (mrg b q).reverse)), Sl.val (csD cs), Sl.own (dsD (ds ++ [b])), Sl.val (.int (c + amt b q)), Sl.val (odD (some b))] s = .nxt [Sl.val (.tup (iD (mrg b q).reverse)), Sl.val (csD cs), Sl.own (dsD (ds ++ [b])), Sl.val (.int (c + amt b q)), Sl.val (odD (first (mrg b q) cs))] s := by
        have := hf (mrg b q)
        simp [relAt_def, this]
      have ht : testB (S := S) (bin dIsNot (vK 4) (kD .non)) [Sl.val (.tup (iD q.reverse)), Sl.val (csD cs), Sl.own (dsD ds), Sl.val (.int c), Sl.val (odD (some b))] s = .ok true s := by
        simp [odD, dIsNot, dis]
      rw [ht, thenS_ok, if_pos rfl]
      have hB : faB Ff Fm Fg [Sl.val (.tup (iD q.reverse)), Sl.val (csD cs), Sl.own (dsD ds), Sl.val (.int c), Sl.val (odD (some b))] s = .nxt [Sl.val (.tup (iD (mrg b q).reverse)), Sl.val (csD cs), Sl.own (dsD (ds ++ [b])), Sl.val (.int (c + amt b q)), Sl.val (odD (first (mrg b q) cs))] s := by
        unfold faB
        rw [seqS_ap, h1, next_nxt, seqS_ap, h2, next_nxt, seqS_ap, h3, next_nxt, seqS_ap, h4, next_nxt, nextS_ap]
      rw [hB, turn_nxt, ih]
      simp only [fallN, e, List.append_assoc, List.singleton_append]
      rw [Int.add_assoc]
theorem fallen_c {Ff Fm Fg : FF S} {cs : List Cl} {s : S} {q : List Int} (hq : q.length ≤ 50000) (hf : ∀ q : List Int, Ff [.tup (iD q.reverse), csD cs] s = .ok (odD (first q cs)) s) (hm : ∀ (q : List Int) (b : Bool), need b ≤ q.length → Fm [.tup (iD q.reverse), .str (dword b)] s = .ok (.int (amt b q)) s) (hg : ∀ (q : List Int) (b : Bool), need b ≤ q.length → q.length ≤ 50000 → Fg [.tup (iD q.reverse), .str (dword b)] s = .ok (.tup (iD (mrg b q).reverse)) s) :
    endR false (cfallen Ff Fm Fg (q.length + 1) [Sl.val (.tup (iD q.reverse)), Sl.val (csD cs), .no, .no, .no] s) = .ok (.tup [.tup (iD (fall cs q).2.1.reverse), .lst (dsD (fall cs q).1), .int (fall cs q).2.2]) s := by
  have e := fall_loop hf hm hg q.length q [] 0 (Nat.le_refl _) hq (by simp; omega)
  unfold cfallen
  have a1 : parS (S := S) [(2, true), (3, false)] (consA (lstE nilA) (consA (kD (.int 0)) nilA)) [Sl.val (.tup (iD q.reverse)), Sl.val (csD cs), .no, .no, .no] s = .nxt [Sl.val (.tup (iD q.reverse)), Sl.val (csD cs), .own (dsD []), .val (.int 0), .no] s := by
    simp [parS, asgL, slO, dsD]
  have a2 : relS' (S := S) [0, 1] (asgS (callF (⟨2, false, Ff⟩ : Fn S) (consA (vC 0) (consA (vC 1) nilA))) (tN 4)) [Sl.val (.tup (iD q.reverse)), Sl.val (csD cs), .own (dsD []), .val (.int 0), .no] s = .nxt [Sl.val (.tup (iD q.reverse)), Sl.val (csD cs), .own (dsD []), .val (.int 0), Sl.val (odD (first q cs))] s := by
    simp [relAt_def, hf q]
  rw [seqS_ap, a1, next_nxt, seqS_ap, a2, next_nxt, seqS_ap, e, next_nxt]
  simp [relAt_def, sz, fall]
theorem fallen_spec {cs : List Cl} (ok : ∀ c ∈ cs, c.Ok) {q : List Int} (hq : q.length ≤ 50000) (s : S) : Ffallen [.tup (iD q.reverse), csD cs] s = .ok (.tup [.tup (iD (fall cs q).2.1.reverse), .lst (dsD (fall cs q).1), .int (fall cs q).2.2]) s := by
  have h := fallen_c (S := S) (Ff := Ffirst_deed) (Fm := Famount_of) (Fg := Fmerged) (cs := cs) (s := s) hq (fun q => by have := firstDeed_spec (p := q.reverse) ok s; rwa [List.reverse_reverse] at this) (fun q b h => amount_spec h s) (fun q b h hq => merged_spec h hq s)
  have hw : wfLen [.tup (iD q.reverse), csD cs] = q.length + 1 := by simp [wfLen]
  show endR false (cfallen Ffirst_deed Famount_of Fmerged (wfLen [.tup (iD q.reverse), csD cs]) [Sl.val (.tup (iD q.reverse)), Sl.val (csD cs), .no, .no, .no] s) = _
  rw [hw]
  exact h
end
end Wd

set_option maxHeartbeats 0
/-! S4: rows gone along; wants on piles. -/
namespace Wd
open PySem PySem.Spec PyProof.Rows L2 Q
/-! ### a fall leaves no more entries -/
theorem fallN_len (cs : List Cl) : ∀ (n : Nat) (q : List Int), (fallN cs n q).2.1.length + (fallN cs n q).1.length = q.length
  | 0, q => by simp [fallN]
  | n + 1, q => by
    unfold fallN
    cases e : first q cs with
    | none => simp
    | some b =>
      have h1 := mrg_len b q (first_need e)
      have h2 := fallN_len cs n (mrg b q)
      simp only [List.length_cons]
      omega
theorem fall_len (cs : List Cl) (q : List Int) : (fall cs q).2.1.length + (fall cs q).1.length = q.length := fallN_len cs q.length q
theorem mrg_pos (b : Bool) (q : List Int) (h : ∀ x ∈ q, 1 ≤ x) : ∀ x ∈ mrg b q, 1 ≤ x := by
  cases b with
  | true => match q, h with
    | [], h => exact h
    | [_], h => exact h
    | x :: y :: r, h =>
      intro z hz
      have hx := h x (by simp)
      have hy := h y (by simp)
      simp [mrg] at hz
      rcases hz with rfl | hz
      · omega
      · exact h z (by simp [hz])
  | false => match q, h with
    | [], h => exact h
    | [_], h => exact h
    | [_, _], h => exact h
    | x :: y :: z :: r, h =>
      intro w hw
      have hx := h x (by simp)
      have hy := h y (by simp)
      have hz := h z (by simp)
      simp [mrg] at hw
      rcases hw with rfl | rfl | hw
      · exact hx
      · omega
      · exact h w (by simp [hw])
theorem fallN_pos (cs : List Cl) : ∀ (n : Nat) (q : List Int), (∀ x ∈ q, 1 ≤ x) → ∀ x ∈ (fallN cs n q).2.1, 1 ≤ x
  | 0, q, h => by simpa [fallN] using h
  | n + 1, q, h => by
    unfold fallN
    cases e : first q cs with
    | none => simpa using h
    | some b => exact fallN_pos cs n (mrg b q) (mrg_pos b q h)
theorem fall_pos (cs : List Cl) (q : List Int) (h : ∀ x ∈ q, 1 ≤ x) : ∀ x ∈ (fall cs q).2.1, 1 ≤ x := fallN_pos cs q.length q h
/-- behind each length: deeds, pile, cost -/
def along (cs : List Cl) : List Int → List Int → List (List Bool × List Int × Int)
  | [], _ => []
  | x :: l, q => fall cs (x :: q) :: along cs l (fall cs (x :: q)).2.1
theorem along_len (cs : List Cl) : ∀ (l q : List Int), (along cs l q).length = l.length
  | [], _ => rfl
  | x :: l, q => by simp [along, along_len cs l]
def pD (r : List Bool × List Int × Int) : D := .tup (iD r.2.1.reverse)
def eD (r : List Bool × List Int × Int) : D := .tup (dsD r.1)
def costs (l : List (List Bool × List Int × Int)) : Int := (l.map fun r => r.2.2).sum
section
variable {S : Type}
def stK (g : EvL' S) (ρ : List Sl) : D → S → Res S (List D)
  | .tup xs, s1 => (g ρ s1).bind fun ds s2 => .ok (xs ++ ds) s2
  | .lst xs, s1 => (g ρ s1).bind fun ds s2 => .ok (xs ++ ds) s2
  | _, _ => .stuck
@[simp] theorem starA_ap (f : EvF S) (g : EvL' S) (ρ : List Sl) (s : S) : starA f g ρ s = (f ρ s).bind (stK g ρ) := by
  unfold starA
  congr 1
  funext d s1
  cases d <;> rfl
@[simp] theorem stK_tup (g : EvL' S) (ρ : List Sl) (xs : List D) (s : S) : stK g ρ (.tup xs) s = (g ρ s).bind fun ds s2 => .ok (xs ++ ds) s2 := rfl
abbrev gaB (Ff : FF S) : ExF S := (seqS (relS' [6] (asgS (callF (⟨2, false, Ff⟩ : Fn S) (consA (tupE (starA (vK 2) (consA (vC 6) nilA))) (consA (bin dIx (vK 0) (kD (.int 0))) nilA))) (gTupD 3 (gsC (tN 2) (gsC (tN 7) (gsC (tN 8) gsN)))))) (seqS (relS' [2] (appS 3 (vC 2))) (seqS (appS 4 (biF bTuple (consA (vK 7) nilA))) (seqS (augS 5 .Add (vK 8)) nextS))))
theorem gone_loop {Ff : FF S} {o : So} {s : S} (hf : ∀ q : List Int, q.length ≤ 50000 → Ff [.tup (iD q.reverse), csD o.rule] s = .ok (.tup [.tup (iD (fall o.rule q).2.1.reverse), .lst (dsD (fall o.rule q).1), .int (fall o.rule q).2.2]) s) (r0 : Sl) :
    ∀ (l q : List Int) (acc : List (List Bool × List Int × Int)) (w : Int) (x6 x7 x8 : Sl), q.length + l.length ≤ 40000 → acc.length + l.length ≤ 40000 → ∃ q' y6 y7 y8,
      forGo (tN 6) (gaB Ff) (iD l) [Sl.val o.d, r0, Sl.val (.tup (iD q.reverse)), Sl.own (acc.map pD), Sl.own (acc.map eD), Sl.val (.int w), x6, x7, x8] s
        = .nxt [Sl.val o.d, r0, Sl.val (.tup (iD q')), Sl.own ((acc ++ along o.rule l q).map pD), Sl.own ((acc ++ along o.rule l q).map eD), Sl.val (.int (w + costs (along o.rule l q))), y6, y7, y8] s
  | [], q, acc, w, x6, x7, x8, _, _ => ⟨q.reverse, x6, x7, x8, by simp [along, costs]⟩
  | x :: l, q, acc, w, x6, x7, x8, h1, h2 => by
    simp only [List.length_cons] at h1 h2
    have e := hf (x :: q) (by simp; omega)
    have hl := fall_len o.rule (x :: q)
    simp only [List.length_cons] at hl
    obtain ⟨q', y6, y7, y8, ih⟩ := gone_loop hf r0 l (fall o.rule (x :: q)).2.1 (acc ++ [fall o.rule (x :: q)]) (w + (fall o.rule (x :: q)).2.2) (Sl.val (.int x)) (Sl.val (.lst (dsD (fall o.rule (x :: q)).1))) (Sl.val (.int (fall o.rule (x :: q)).2.2)) (by omega) (by simp; omega)
    refine ⟨q', y6, y7, y8, ?_⟩
    rw [iD_cons, forGo_cons (ρ1 := [Sl.val o.d, r0, Sl.val (.tup (iD q.reverse)), Sl.own (acc.map pD), Sl.own (acc.map eD), Sl.val (.int w), Sl.val (.int x), x7, x8]) (by simp)]
    have er : iD q.reverse ++ [D.int x] = iD (x :: q).reverse := by simp [iD]
    generalize hR : fall o.rule (x :: q) = R at e ih hl
    have b1 : relS' (S := S) [6] (asgS (callF (⟨2, false, Ff⟩ : Fn S) (consA (tupE (starA (vK 2) (consA (vC 6) nilA))) (consA (bin dIx (vK 0) (kD (.int 0))) nilA))) (gTupD 3 (gsC (tN 2) (gsC (tN 7) (gsC (tN 8) gsN))))) [Sl.val o.d, r0, Sl.val (.tup (iD q.reverse)), Sl.own (acc.map pD), Sl.own (acc.map eD), Sl.val (.int w), Sl.val (.int x), x7, x8] s = .nxt [Sl.val o.d, r0, Sl.val (.tup (iD R.2.1.reverse)), Sl.own (acc.map pD), Sl.own (acc.map eD), Sl.val (.int w), Sl.val (.int x), Sl.val (.lst (dsD R.1)), Sl.val (.int R.2.2)] s := by
      have hz : q.length + 1 ≤ sizeLine := sz (by omega)
      have er' := er
      simp at er'
      simp at e
      simp [relAt_def, hz, er', So.d, dIx, at0, e]
    have b2 : relS' (S := S) [2] (appS 3 (vC 2)) [Sl.val o.d, r0, Sl.val (.tup (iD R.2.1.reverse)), Sl.own (acc.map pD), Sl.own (acc.map eD), Sl.val (.int w), Sl.val (.int x), Sl.val (.lst (dsD R.1)), Sl.val (.int R.2.2)] s = .nxt [Sl.val o.d, r0, Sl.val (.tup (iD R.2.1.reverse)), Sl.own ((acc ++ [R]).map pD), Sl.own (acc.map eD), Sl.val (.int w), Sl.val (.int x), Sl.val (.lst (dsD R.1)), Sl.val (.int R.2.2)] s := by
      have hz : acc.length < sizeLine := szl (by omega)
      rw [relS_ap]
      simp only [relAll_cons, relAll_nil, relAt_def, List.getElem?_cons_succ, List.getElem?_cons_zero, List.set_cons_succ, List.set_cons_zero, relS_val]
      rw [appS_own (ds := acc.map pD) rfl]
      simp [hz, pD]
    have b3 : appS (S := S) 4 (biF bTuple (consA (vK 7) nilA)) [Sl.val o.d, r0, Sl.val (.tup (iD R.2.1.reverse)), Sl.own ((acc ++ [R]).map pD), Sl.own (acc.map eD), Sl.val (.int w), Sl.val (.int x), Sl.val (.lst (dsD R.1)), Sl.val (.int R.2.2)] s = .nxt [Sl.val o.d, r0, Sl.val (.tup (iD R.2.1.reverse)), Sl.own ((acc ++ [R]).map pD), Sl.own ((acc ++ [R]).map eD), Sl.val (.int w), Sl.val (.int x), Sl.val (.lst (dsD R.1)), Sl.val (.int R.2.2)] s := by
      have hz : acc.length < sizeLine := szl (by omega)
      rw [appS_own (ds := acc.map eD) rfl]
      simp [hz, eD]
    have b4 : augS (S := S) 5 .Add (vK 8) [Sl.val o.d, r0, Sl.val (.tup (iD R.2.1.reverse)), Sl.own ((acc ++ [R]).map pD), Sl.own ((acc ++ [R]).map eD), Sl.val (.int w), Sl.val (.int x), Sl.val (.lst (dsD R.1)), Sl.val (.int R.2.2)] s = .nxt [Sl.val o.d, r0, Sl.val (.tup (iD R.2.1.reverse)), Sl.own ((acc ++ [R]).map pD), Sl.own ((acc ++ [R]).map eD), Sl.val (.int (w + R.2.2)), Sl.val (.int x), Sl.val (.lst (dsD R.1)), Sl.val (.int R.2.2)] s := by
      simp [augS, augI]
    unfold gaB
    rw [seqS_ap, b1, next_nxt, seqS_ap, b2, next_nxt, seqS_ap, b3, next_nxt, seqS_ap, b4, next_nxt, nextS_ap, turn_nxt]
    unfold gaB at ih
    rw [ih]
    simp only [along, hR, List.append_assoc, List.singleton_append, costs, List.map_cons, List.sum_cons]
    rw [Int.add_assoc]
theorem gone_c {Ff : FF S} {o : So} {s : S} (hf : ∀ q : List Int, q.length ≤ 50000 → Ff [.tup (iD q.reverse), csD o.rule] s = .ok (.tup [.tup (iD (fall o.rule q).2.1.reverse), .lst (dsD (fall o.rule q).1), .int (fall o.rule q).2.2]) s) {l : List Int} (hl : l.length ≤ 30000) :
    endR false (cgone_along Ff [Sl.val o.d, Sl.val (.tup (iD l)), .no, .no, .no, .no, .no, .no, .no] s) = .ok (.tup [.lst ((along o.rule l []).map pD), .lst ((along o.rule l []).map eD), .int (costs (along o.rule l []))]) s := by
  obtain ⟨q', y6, y7, y8, e⟩ := gone_loop hf (Sl.val (.tup (iD l))) l [] [] 0 .no .no .no (by simp; omega) (by simp; omega)
  unfold cgone_along
  have a1 : parS (S := S) [(2, false), (3, true), (4, true), (5, false)] (consA (tupE nilA) (consA (lstE nilA) (consA (lstE nilA) (consA (kD (.int 0)) nilA)))) [Sl.val o.d, Sl.val (.tup (iD l)), .no, .no, .no, .no, .no, .no, .no] s = .nxt [Sl.val o.d, Sl.val (.tup (iD l)), Sl.val (.tup []), Sl.own [], Sl.own [], Sl.val (.int 0), .no, .no, .no] s := by
    simp [parS, asgL, slO]
  rw [seqS_ap, a1, next_nxt, seqS_ap, lockS_cons, lockS_nil, lock1_val (d := .tup (iD l)) rfl, forS_ap, iSeq_ap, vS_ap]
  have q0 : slS (S := S) ([Sl.val o.d, Sl.val (.tup (iD l)), Sl.val (.tup []), Sl.own [], Sl.own [], Sl.val (.int 0), .no, .no, .no] : List Sl)[1]? s = .ok (.tup (iD l)) s := rfl
  rw [q0, bind_okS, itemsOf_tup, ofO_some, thenS_ok]
  simp only [List.reverse_nil, iD_nil, List.map_nil, List.nil_append, Int.zero_add] at e
  rw [e, next_nxt]
  simp [relAt_def, sz]
theorem gone_spec {o : So} (ok : o.Ok) {l : List Int} (hl : l.length ≤ 30000) (s : S) : Fgone_along [o.d, .tup (iD l)] s = .ok (.tup [.lst ((along o.rule l []).map pD), .lst ((along o.rule l []).map eD), .int (costs (along o.rule l []))]) s :=
  gone_c (fun q hq => fallen_spec ok.ro hq s) hl
end
/-! ### where wants fail -/
def fpD (l : List (Nat × Nat)) : List D := l.map fun x => .tup [.int x.1, .int x.2]
def failK (f : Nat → Tst → Bool) (sp : Nat) : Nat → List Tst → List (Nat × Nat)
  | _, [] => []
  | k, t :: r => (if f sp t = true then [(sp, k)] else []) ++ failK f sp (k + 1) r
theorem failK_len (f : Nat → Tst → Bool) (sp : Nat) : ∀ (ts : List Tst) (k : Nat), (failK f sp k ts).length ≤ ts.length
  | [], k => by simp [failK]
  | t :: r, k => by
    have := failK_len f sp r (k + 1)
    simp only [failK, List.length_append, List.length_cons]
    split <;> simp <;> omega
def failF (q : List Int) (sp : Nat) (t : Tst) : Bool := decide (reach t + sp < q.length) && !hold (q.drop sp) t
def failing (q : List Int) (ws : List Tst) (lo : Nat) : List (Nat × Nat) := (List.range' lo (q.length - lo)).flatMap fun sp => failK (failF q) sp 0 ws
section
variable {S : Type}
theorem fail_inner {body : ExF S} {a0 a1 a2 : Sl} {ws0 : List Tst} {f : Nat → Tst → Bool} {s : S} {sp : Nat} (hb : ∀ (k : Nat) (t : Tst), t ∈ ws0 → ∀ fnd : List (Nat × Nat), fnd.length ≤ 9000 → body [a0, a1, a2, Sl.own (fpD fnd), Sl.val (.int sp), Sl.val (.int k), Sl.val t.d] s = .nxt [a0, a1, a2, Sl.own (fpD (fnd ++ if f sp t = true then [(sp, k)] else [])), Sl.val (.int sp), Sl.val (.int k), Sl.val t.d] s) :
    ∀ (ts : List Tst) (k : Nat) (fnd : List (Nat × Nat)) (x5 x6 : Sl), (∀ t ∈ ts, t ∈ ws0) → fnd.length + ts.length ≤ 9000 → ∃ y5 y6,
      forGo (gTupD 2 (gsC (tN 5) (gsC (tN 6) gsN))) body (enumFrom k (ts.map Tst.d)) [a0, a1, a2, Sl.own (fpD fnd), Sl.val (.int sp), x5, x6] s = .nxt [a0, a1, a2, Sl.own (fpD (fnd ++ failK f sp k ts)), Sl.val (.int sp), y5, y6] s
  | [], k, fnd, x5, x6, _, _ => ⟨x5, x6, by simp [enumFrom, failK]⟩
  | t :: ts, k, fnd, x5, x6, hm, hl => by
    simp only [List.length_cons] at hl
    have e := hb k t (hm t List.mem_cons_self) fnd (by omega)
    obtain ⟨y5, y6, ih⟩ := fail_inner hb ts (k + 1) (fnd ++ if f sp t = true then [(sp, k)] else []) (Sl.val (.int k)) (Sl.val t.d) (fun x hx => hm x (List.mem_cons_of_mem _ hx)) (by split <;> simp <;> omega)
    refine ⟨y5, y6, ?_⟩
    rw [List.map_cons, enumFrom, forGo_cons (ρ1 := [a0, a1, a2, Sl.own (fpD fnd), Sl.val (.int sp), Sl.val (.int k), Sl.val t.d]) (by simp), e, turn_nxt, ih, failK, List.append_assoc]
theorem fail_outer {body : ExF S} {a0 a2 : Sl} {ws : List Tst} {f : Nat → Tst → Bool} {s : S} (hw : ws.length ≤ 3) (hb : ∀ (sp k : Nat) (t : Tst), t ∈ ws → ∀ fnd : List (Nat × Nat), fnd.length ≤ 9000 → body [a0, Sl.val (wsD ws), a2, Sl.own (fpD fnd), Sl.val (.int sp), Sl.val (.int k), Sl.val t.d] s = .nxt [a0, Sl.val (wsD ws), a2, Sl.own (fpD (fnd ++ if f sp t = true then [(sp, k)] else [])), Sl.val (.int sp), Sl.val (.int k), Sl.val t.d] s) :
    ∀ (m lo : Nat) (fnd : List (Nat × Nat)) (x4 x5 x6 : Sl), fnd.length + 3 * m ≤ 9000 → ∃ y4 y5 y6,
      forGo (tN 4) (seqS (lockS [1] (forS (iEnum (vS 1)) (gTupD 2 (gsC (tN 5) (gsC (tN 6) gsN))) body)) nextS) (rangeD lo m) [a0, Sl.val (wsD ws), a2, Sl.own (fpD fnd), x4, x5, x6] s = .nxt [a0, Sl.val (wsD ws), a2, Sl.own (fpD (fnd ++ (List.range' lo m).flatMap fun sp => failK f sp 0 ws)), y4, y5, y6] s
  | 0, lo, fnd, x4, x5, x6, _ => ⟨x4, x5, x6, by simp [rangeD]⟩
  | m + 1, lo, fnd, x4, x5, x6, hl => by
    obtain ⟨y5, y6, e⟩ := fail_inner (hb lo) ws 0 fnd x5 x6 (fun t ht => ht) (by omega)
    have hk := failK_len f lo ws 0
    obtain ⟨z4, z5, z6, ih⟩ := fail_outer hw hb m (lo + 1) (fnd ++ failK f lo 0 ws) (Sl.val (.int lo)) y5 y6 (by simp; omega)
    refine ⟨z4, z5, z6, ?_⟩
    rw [rangeD, forGo_cons (ρ1 := [a0, Sl.val (wsD ws), a2, Sl.own (fpD fnd), Sl.val (.int lo), x5, x6]) (by simp)]
    have hi : seqOf (wsD ws) = some (ws.map Tst.d) := rfl
    rw [seqS_ap, lockS_cons, lockS_nil, lock1_val (d := wsD ws) rfl, forS_ap, iEnum_ap, vS_ap]
    have q0 : slS (S := S) ([a0, Sl.val (wsD ws), a2, Sl.own (fpD fnd), Sl.val (.int lo), x5, x6] : List Sl)[1]? s = .ok (wsD ws) s := rfl
    rw [q0, bind_okS, hi, Option.map_some, ofO_some, thenS_ok, e, next_nxt, nextS_ap, turn_nxt]
    have ec : ((lo : Int) + 1) = ((lo + 1 : Nat) : Int) := by omega
    rw [ec, ih, List.range'_succ, List.flatMap_cons, List.append_assoc]
abbrev fiB (Fh Fr : FF S) : ExF S := (seqS (relS' [6, 0, 4] (ifS (andT (testB (bin dLt (bin dAdd (callF (⟨1, false, Fr⟩ : Fn S) (consA (vC 6) nilA)) (vK 4)) (biF bLen (consA (vK 0) nilA)))) (notT (truth (callF (⟨3, false, Fh⟩ : Fn S) (consA (vC 0) (consA (vC 6) (consA (vC 4) nilA))))))) (seqS (relS' [4, 5] (appS 3 (tupE (consA (vC 4) (consA (vC 5) nilA))))) nextS) nextS)) nextS)
theorem app3 {a0 a1 a2 x6 : Sl} {fnd : List (Nat × Nat)} {sp k : Nat} {s : S} (h : fnd.length ≤ 9000) : (seqS (relS' [4, 5] (appS 3 (tupE (consA (vC 4) (consA (vC 5) nilA))))) nextS : ExF S) [a0, a1, a2, Sl.own (fpD fnd), Sl.val (.int sp), Sl.val (.int k), x6] s = .nxt [a0, a1, a2, Sl.own (fpD (fnd ++ [(sp, k)])), Sl.val (.int sp), Sl.val (.int k), x6] s := by
  have hz : fnd.length < sizeLine := szl (by omega)
  rw [seqS_ap, relS_ap]
  simp only [relAll_cons, relAll_nil, relAt_def, List.getElem?_cons_succ, List.getElem?_cons_zero, List.set_cons_succ, List.set_cons_zero, relS_val]
  rw [appS_own (ds := fpD fnd) rfl]
  simp [hz, fpD, sz]
abbrev fiT (Fh Fr : FF S) : EvT' S := andT (testB (bin dLt (bin dAdd (callF (⟨1, false, Fr⟩ : Fn S) (consA (vC 6) nilA)) (vK 4)) (biF bLen (consA (vK 0) nilA)))) (notT (truth (callF (⟨3, false, Fh⟩ : Fn S) (consA (vC 0) (consA (vC 6) (consA (vC 4) nilA))))))
theorem fiT1 {Fh Fr : FF S} {q : List Int} {td : D} {r : Int} {b : Bool} {a1 a2 a3 a5 : Sl} {s : S} {sp : Int} (hr : Fr [td] s = .ok (.int r) s) (h : r + sp < q.length) (e : Fh [.tup (iD q.reverse), td, .int sp] s = .ok (.bl b) s) : fiT Fh Fr [Sl.val (.tup (iD q.reverse)), a1, a2, a3, Sl.val (.int sp), a5, Sl.val td] s = .ok (!b) s := by
  simp [hr, h, e]
theorem fiT0 {Fh Fr : FF S} {q : List Int} {td : D} {r : Int} {a1 a2 a3 a5 : Sl} {s : S} {sp : Int} (hr : Fr [td] s = .ok (.int r) s) (h : ¬ (r + sp < q.length)) : fiT Fh Fr [Sl.val (.tup (iD q.reverse)), a1, a2, a3, Sl.val (.int sp), a5, Sl.val td] s = .ok false s := by
  simp [hr, h]
theorem failB {Fh Fr : FF S} {q : List Int} {a1 a2 : Sl} {t : Tst} {s : S} {sp k : Nat} {fnd : List (Nat × Nat)} (hf : fnd.length ≤ 9000) (hr : Fr [t.d] s = .ok (.int (reach t)) s) (hh : reach t + sp < q.length → Fh [.tup (iD q.reverse), t.d, .int sp] s = .ok (.bl (hold (q.drop sp) t)) s) :
    fiB Fh Fr [Sl.val (.tup (iD q.reverse)), a1, a2, Sl.own (fpD fnd), Sl.val (.int sp), Sl.val (.int k), Sl.val t.d] s = .nxt [Sl.val (.tup (iD q.reverse)), a1, a2, Sl.own (fpD (fnd ++ if failF q sp t = true then [(sp, k)] else [])), Sl.val (.int sp), Sl.val (.int k), Sl.val t.d] s := by
  have ha := app3 (S := S) (a0 := Sl.val (.tup (iD q.reverse))) (a1 := a1) (a2 := a2) (x6 := Sl.val t.d) (sp := sp) (k := k) (s := s) hf
  unfold fiB
  rw [seqS_ap, relS_ap]
  have r0 : relAll [Sl.val (.tup (iD q.reverse)), a1, a2, Sl.own (fpD fnd), Sl.val (.int sp), Sl.val (.int k), Sl.val t.d] [6, 0, 4] = [Sl.val (.tup (iD q.reverse)), a1, a2, Sl.own (fpD fnd), Sl.val (.int sp), Sl.val (.int k), Sl.val t.d] := rfl
  rw [r0, ifS_ap]
  by_cases h : reach t + (sp : Int) < q.length
  · have e := fiT1 (a1 := a1) (a2 := a2) (a3 := Sl.own (fpD fnd)) (a5 := Sl.val (.int k)) hr h (hh h)
    have ef : failF q sp t = !hold (q.drop sp) t := by rw [failF, decide_eq_true h, Bool.true_and]
    unfold fiT at e
    rw [e, thenS_ok, ef]
    cases hold (q.drop sp) t with
    | true => rw [if_neg (by decide), if_neg (by decide), List.append_nil]; rfl
    | false => rw [if_pos (by decide), if_pos (by decide), ha, next_nxt, nextS_ap]
  · have e := fiT0 (Fh := Fh) (a1 := a1) (a2 := a2) (a3 := Sl.own (fpD fnd)) (a5 := Sl.val (.int k)) hr h
    have ef : failF q sp t = false := by rw [failF, decide_eq_false h, Bool.false_and]
    unfold fiT at e
    rw [e, thenS_ok, ef, if_neg (by decide), if_neg (by decide), List.append_nil]
    rfl
theorem iR2 {f g : EvF S} {ρ : List Sl} {s s1 s2 : S} {lo hi : Nat} (h1 : f ρ s = .ok (.int lo) s1) (h2 : g ρ s1 = .ok (.int hi) s2) (b : hi < 1000000) (c : lo < 1000000) : iRange2 f g ρ s = .ok (rangeD lo (hi - lo)) s2 := by
  rw [iRange2_ap, h1, bind_okS, h2, bind_okS, range2_nat lo hi b c, ofO_some]
theorem iR1 {f : EvF S} {ρ : List Sl} {s s1 : S} {hi : Nat} (h1 : f ρ s = .ok (.int hi) s1) (b : hi < 1000000) : iRange1 f ρ s = .ok (rangeD (0 : Nat) hi) s1 := by
  rw [iRange1_ap, h1, bind_okS, range1_nat hi b, ofO_some]
  rfl
theorem failIn_c {Fh Fr : FF S} {q : List Int} {ws : List Tst} {lo : Nat} {s : S} (hq : q.length ≤ 1000) (hlo : lo ≤ 1000) (hw : ws.length ≤ 3) (hr : ∀ t ∈ ws, Fr [t.d] s = .ok (.int (reach t)) s) (hh : ∀ t ∈ ws, ∀ sp : Nat, reach t + sp < q.length → Fh [.tup (iD q.reverse), t.d, .int sp] s = .ok (.bl (hold (q.drop sp) t)) s) :
    endR false (cfailing_in Fh Fr [Sl.val (.tup (iD q.reverse)), Sl.val (wsD ws), Sl.val (.int lo), .no, .no, .no, .no] s) = .ok (.lst (fpD (failing q ws lo))) s := by
  obtain ⟨y4, y5, y6, e⟩ := fail_outer (S := S) (body := fiB Fh Fr) (a0 := Sl.val (.tup (iD q.reverse))) (a2 := Sl.val (.int lo)) (ws := ws) (f := failF q) (s := s) hw (fun sp k t ht fnd hf => failB hf (hr t ht) (hh t ht sp)) (q.length - lo) lo [] .no .no .no (by simp; omega)
  unfold cfailing_in
  have a1 : ownS (S := S) 3 (lstE nilA) [Sl.val (.tup (iD q.reverse)), Sl.val (wsD ws), Sl.val (.int lo), .no, .no, .no, .no] s = .nxt [Sl.val (.tup (iD q.reverse)), Sl.val (wsD ws), Sl.val (.int lo), .own (fpD []), .no, .no, .no] s := by
    simp [fpD]
  rw [seqS_ap, a1, next_nxt, seqS_ap, lockS_cons, lockS_nil, lock1_val (d := .int lo) rfl, forS_ap]
  have q0 : iRange2 (S := S) (vK 2) (biF bLen (consA (vK 0) nilA)) [Sl.val (.tup (iD q.reverse)), Sl.val (wsD ws), Sl.val (.int lo), .own (fpD []), .no, .no, .no] s = .ok (rangeD lo (q.length - lo)) s :=
    iR2 (s1 := s) (lo := lo) (hi := q.length) (by simp) (by simp) (by omega) (by omega)
  rw [q0, thenS_ok, e, next_nxt]
  simp [failing]
theorem failIn_spec {q : List Int} {ws : List Tst} {lo : Nat} (hq : q.length ≤ 1000) (hlo : lo ≤ 1000) (hw : ws.length ≤ 3) (ok : ∀ t ∈ ws, t.Ok) (s : S) : Ffailing_in [.tup (iD q.reverse), wsD ws, .int lo] s = .ok (.lst (fpD (failing q ws lo))) s :=
  failIn_c hq hlo hw (fun t ht => reach_spec (ok t ht) s) fun t ht sp h => by
    have := holdsAt_spec (p := q.reverse) (sp := sp) (ok t ht) (by simpa using h) s
    rwa [List.reverse_reverse] at this
end
end Wd

set_option maxHeartbeats 0
/-! S5: wants on piles, the program's calls. -/
namespace Wd
open PySem PySem.Spec PyProof.Rows L2 Q
def fpP (l : List (Nat × Nat)) : List PyData := l.map fun x => .tuple [.int x.1, .int x.2]
theorem toPyL_fp : ∀ l : List (Nat × Nat), toPyL (fpD l) = some (fpP l)
  | [] => rfl
  | x :: l => by
    have := toPyL_fp l
    simp only [fpD, fpP, List.map_cons, toPyL, toPy] at this ⊢
    simp [this, toPyL, toPy]
theorem canLay_fp : ∀ l : List (Nat × Nat), PyData.canLayAll0 (fpP l) = true
  | [] => rfl
  | x :: l => by
    have := canLay_fp l
    simp only [fpP, List.map_cons, PyData.canLayAll0, PyData.canLay0] at this ⊢
    simp [this]
theorem depth_fp : ∀ l : List (Nat × Nat), PyData.depthAll (fpP l) ≤ 2
  | [] => by simp [fpP, PyData.depthAll]
  | x :: l => by
    have := depth_fp l
    simp only [fpP, List.map_cons, PyData.depthAll, PyData.depth] at this ⊢
    omega
theorem shaped_fp (l : List (Nat × Nat)) : SeqAt.shaped (.list (fpP l)) = true := by
  have := depth_fp l
  have h : (PyData.list (fpP l)).depth ≤ 64 := by simp only [PyData.depth]; omega
  simp [SeqAt.shaped, PyData.canLay0, canLay_fp, h]
theorem deq_fp (l : List (Nat × Nat)) : deq (.lst (fpD l)) (.lst []) = some l.isEmpty := by
  simp only [deq, toPy, toPyL_fp, toPyL, Option.map_some, shaped_fp, shaped_nil, and_self, if_true]
  cases l <;> rfl
theorem dEq_fp (l : List (Nat × Nat)) : dEq (.lst (fpD l)) (.lst []) = some (.bl l.isEmpty) := by
  simp [dEq, deq_fp]
theorem dNe_fp (l : List (Nat × Nat)) : dNe (.lst (fpD l)) (.lst []) = some (.bl (!l.isEmpty)) := by
  simp [dNe, deq_fp]
def loose (o : So) (ws : List Tst) (q : List Int) : Bool := if 1 ≤ q.length ∧ q.length ≤ 5 ∧ first q o.rule = none then (failing q ws 2).isEmpty && !(failing q ws 0).isEmpty else false
/-- the first pile on which wants fail -/
def brkK (ws : List Tst) : Nat → List (List Bool × List Int × Int) → Option Nat
  | _, [] => none
  | k, r :: l => if (failing r.2.1 ws 0).isEmpty = true then brkK ws (k + 1) l else some k
def onD : Option Nat → D
  | none => .non
  | some k => .int k
section
variable {S : Type}
theorem holdOn_c {Fw Ff Fp : FF S} {wd pd : D} {l : List (Nat × Nat)} {s : S} (e1 : Fw [wd] s = .ok wd s) (e2 : Fp [pd] s = .ok pd s) (e3 : Ff [pd, wd, .int 0] s = .ok (.lst (fpD l)) s) : endR false (chold_on Fw Ff Fp [Sl.val wd, Sl.val pd] s) = .ok (.bl l.isEmpty) s := by
  simp [chold_on, relAt_def, e1, e2, e3, dEq_fp]
theorem holdOn_spec {ws : List Tst} {q : List Int} (hw : WsOk ws) (hq : PileOk q.reverse) (s : S) : Fhold_on [wsD ws, .tup (iD q.reverse)] s = .ok (.bl (failing q ws 0).isEmpty) s :=
  holdOn_c (needWs_spec hw s) (needPile_spec hq s) (failIn_spec (lo := 0) (by have := hq.1; simp at this; omega) (by omega) hw.n3 hw.ok s)
theorem failOn_c {Fw Ff Fp : FF S} {wd pd : D} {l : List (Nat × Nat)} {s : S} (e1 : Fw [wd] s = .ok wd s) (e2 : Fp [pd] s = .ok pd s) (e3 : Ff [pd, wd, .int 0] s = .ok (.lst (fpD l)) s) : endR false (cfailing_on Fw Ff Fp [Sl.val wd, Sl.val pd] s) = .ok (.tup (fpD l)) s := by
  simp [cfailing_on, relAt_def, e1, e2, e3]
theorem failOn_spec {ws : List Tst} {q : List Int} (hw : WsOk ws) (hq : PileOk q.reverse) (s : S) : Ffailing_on [wsD ws, .tup (iD q.reverse)] s = .ok (.tup (fpD (failing q ws 0))) s :=
  failOn_c (needWs_spec hw s) (needPile_spec hq s) (failIn_spec (lo := 0) (by have := hq.1; simp at this; omega) (by omega) hw.n3 hw.ok s)
theorem looseOf_c {Ff Fi : FF S} {o : So} {ws : List Tst} {q : List Int} {s : S} (e1 : Ff [.tup (iD q.reverse), csD o.rule] s = .ok (odD (first q o.rule)) s) (e2 : Fi [.tup (iD q.reverse), wsD ws, .int 2] s = .ok (.lst (fpD (failing q ws 2))) s) (e3 : Fi [.tup (iD q.reverse), wsD ws, .int 0] s = .ok (.lst (fpD (failing q ws 0))) s) :
    endR false (cis_loose_of Ff Fi [Sl.val o.d, Sl.val (wsD ws), Sl.val (.tup (iD q.reverse))] s) = .ok (.bl (loose o ws q)) s := by
  unfold loose
  by_cases h1 : (1 : Int) ≤ q.length
  · by_cases h2 : (q.length : Int) ≤ 5
    · have h1' : 1 ≤ q.length := by omega
      have h2' : q.length ≤ 5 := by omega
      cases h3 : first q o.rule with
      | some b =>
        rw [h3] at e1
        simp [cis_loose_of, relAt_def, h1, h2, So.d, dIx, at0, e1, isNot_od]
      | none =>
        rw [h3] at e1
        cases hf : (failing q ws 2).isEmpty with
        | true => simp [cis_loose_of, relAt_def, h1, h2, So.d, dIx, at0, e1, isNot_od, e2, e3, dEq_fp, dNe_fp, hf, h1', h2']
        | false => simp [cis_loose_of, relAt_def, h1, h2, So.d, dIx, at0, e1, isNot_od, e2, e3, dEq_fp, dNe_fp, hf, h1', h2']
    · have h2' : ¬ (q.length ≤ 5) := by omega
      simp [cis_loose_of, relAt_def, h1, h2, h2']
  · have h1' : ¬ (1 ≤ q.length) := by omega
    simp [cis_loose_of, relAt_def, h1, h1']
theorem looseOf_spec {o : So} {ws : List Tst} {q : List Int} (ok : o.Ok) (hw : WsOk ws) (hq : q.length ≤ 1000) (s : S) : Fis_loose_of [o.d, wsD ws, .tup (iD q.reverse)] s = .ok (.bl (loose o ws q)) s :=
  looseOf_c (by have := firstDeed_spec (p := q.reverse) ok.ro s; rwa [List.reverse_reverse] at this) (failIn_spec (lo := 2) hq (by omega) hw.n3 hw.ok s) (failIn_spec (lo := 0) hq (by omega) hw.n3 hw.ok s)
theorem isLoose_c {Fo Fw Fl Fp : FF S} {od wd pd x : D} {s : S} (e1 : Fo [od] s = .ok od s) (e2 : Fw [wd] s = .ok wd s) (e3 : Fp [pd] s = .ok pd s) (e4 : Fl [od, wd, pd] s = .ok x s) : endR false (cis_loose Fo Fw Fl Fp [Sl.val od, Sl.val wd, Sl.val pd] s) = .ok x s := by
  simp [cis_loose, relAt_def, e1, e2, e3, e4]
theorem isLoose_spec {o : So} {ws : List Tst} {q : List Int} (ok : o.Ok) (hw : WsOk ws) (hq : PileOk q.reverse) (s : S) : Fis_loose [o.d, wsD ws, .tup (iD q.reverse)] s = .ok (.bl (loose o ws q)) s :=
  isLoose_c (needSo_spec ok s) (needWs_spec hw s) (needPile_spec hq s) (looseOf_spec ok hw (by have := hq.1; simp at this; omega) s)
abbrev fbB (Ff : FF S) : ExF S := (seqS (relS' [4, 1] (ifS (testB (bin dNe (callF (⟨3, false, Ff⟩ : Fn S) (consA (vC 4) (consA (vC 1) (consA (kD (.int 0)) nilA)))) (lstE nilA))) (seqS (rN 3) nextS) nextS)) nextS)
theorem fb_turn {Ff : FF S} {wd pd : D} {a0 a2 : Sl} {l : List (Nat × Nat)} {k : Nat} {s : S} (e : Ff [pd, wd, .int 0] s = .ok (.lst (fpD l)) s) : fbB Ff [a0, Sl.val wd, a2, Sl.val (.int k), Sl.val pd] s = if l.isEmpty = true then .nxt [a0, Sl.val wd, a2, Sl.val (.int k), Sl.val pd] s else .ret false (.int k) s := by
  cases h : l.isEmpty <;> simp [relAt_def, e, dNe_fp, h]
theorem fb_loop {Ff : FF S} {ws : List Tst} {a0 a2 : Sl} {s : S} : ∀ (rs : List (List Bool × List Int × Int)) (k : Nat) (x3 x4 : Sl), (∀ r ∈ rs, Ff [pD r, wsD ws, .int 0] s = .ok (.lst (fpD (failing r.2.1 ws 0))) s) → ∃ y3 y4,
    forGo (gTupD 2 (gsC (tN 3) (gsC (tN 4) gsN))) (fbB Ff) (enumFrom k (rs.map pD)) [a0, Sl.val (wsD ws), a2, x3, x4] s = match brkK ws k rs with
      | some j => .ret false (.int j) s
      | none => .nxt [a0, Sl.val (wsD ws), a2, y3, y4] s
  | [], k, x3, x4, _ => ⟨x3, x4, rfl⟩
  | r :: rs, k, x3, x4, h => by
    have e := fb_turn (a0 := a0) (a2 := a2) (k := k) (h r List.mem_cons_self)
    obtain ⟨y3, y4, ih⟩ := fb_loop (a0 := a0) (a2 := a2) rs (k + 1) (Sl.val (.int k)) (Sl.val (pD r)) fun x hx => h x (List.mem_cons_of_mem _ hx)
    refine ⟨y3, y4, ?_⟩
    rw [List.map_cons, enumFrom, forGo_cons (ρ1 := [a0, Sl.val (wsD ws), a2, Sl.val (.int k), Sl.val (pD r)]) (by simp), e, brkK]
    cases hq : (failing r.2.1 ws 0).isEmpty with
    | true =>
      rw [if_pos rfl, turn_nxt, if_pos rfl]
      exact ih
    | false => rw [if_neg (by decide), turn_ret, if_neg (by decide)]
theorem firstBreak_c {Fo Fw Fg Ff Fl : FF S} {od ld : D} {ws : List Tst} {l : List Int} {rs : List (List Bool × List Int × Int)} {z1 z2 : D} {s : S} (e1 : Fo [od] s = .ok od s) (e2 : Fw [wsD ws] s = .ok (wsD ws) s) (e3 : Fl [ld] s = .ok (.tup (iD l)) s) (e4 : Fg [od, .tup (iD l)] s = .ok (.tup [.lst (rs.map pD), z1, z2]) s) (e5 : ∀ r ∈ rs, Ff [pD r, wsD ws, .int 0] s = .ok (.lst (fpD (failing r.2.1 ws 0))) s) :
    endR false (cfirst_break Fo Fw Fg Ff Fl [Sl.val od, Sl.val (wsD ws), Sl.val ld, .no, .no] s) = .ok (onD (brkK ws 0 rs)) s := by
  obtain ⟨y3, y4, e⟩ := fb_loop (a0 := Sl.val od) (a2 := Sl.val ld) rs 0 .no .no e5
  unfold cfirst_break
  have a1 : relS' (S := S) [0] (dropS (callF (⟨1, false, Fo⟩ : Fn S) (consA (vC 0) nilA))) [Sl.val od, Sl.val (wsD ws), Sl.val ld, .no, .no] s = .nxt [Sl.val od, Sl.val (wsD ws), Sl.val ld, .no, .no] s := by simp [relAt_def, e1]
  have a2 : relS' (S := S) [1] (dropS (callF (⟨1, false, Fw⟩ : Fn S) (consA (vC 1) nilA))) [Sl.val od, Sl.val (wsD ws), Sl.val ld, .no, .no] s = .nxt [Sl.val od, Sl.val (wsD ws), Sl.val ld, .no, .no] s := by simp [relAt_def, e2]
  rw [seqS_ap, a1, next_nxt, seqS_ap, a2, next_nxt, seqS_ap, relS_ap]
  have r0 : relAll [Sl.val od, Sl.val (wsD ws), Sl.val ld, .no, .no] [0, 2] = [Sl.val od, Sl.val (wsD ws), Sl.val ld, .no, .no] := rfl
  rw [r0, forS_ap]
  have q0 : iEnum (S := S) (bin dIx (callF (⟨2, false, Fg⟩ : Fn S) (consA (vC 0) (consA (callF (⟨1, false, Fl⟩ : Fn S) (consA (vC 2) nilA)) nilA))) (kD (.int 0))) [Sl.val od, Sl.val (wsD ws), Sl.val ld, .no, .no] s = .ok (enumFrom 0 (rs.map pD)) s := by
    simp [e3, e4, dIx, at0]
  rw [q0, thenS_ok, e]
  cases brkK ws 0 rs with
  | some j => rw [next_ret, endR_ret]; rfl
  | none => rw [next_nxt]; simp [onD]
theorem along_ok (cs : List Cl) : ∀ (l q : List Int), (∀ x ∈ l, 1 ≤ x) → (∀ x ∈ q, 1 ≤ x) → ∀ r ∈ along cs l q, r.2.1.length ≤ q.length + l.length ∧ ∀ x ∈ r.2.1, 1 ≤ x
  | [], q, _, _, r, h => by cases h
  | x :: l, q, hl, hq, r, h => by
    have hp := fall_pos cs (x :: q) (fun y hy => by rcases List.mem_cons.mp hy with rfl | hy; exact hl _ (by simp); exact hq y hy)
    have hn := fall_len cs (x :: q)
    simp only [List.length_cons] at hn ⊢
    rcases List.mem_cons.mp h with rfl | h
    · exact ⟨by omega, hp⟩
    · have := along_ok cs l (fall cs (x :: q)).2.1 (fun y hy => hl y (List.mem_cons_of_mem _ hy)) hp r h
      exact ⟨by omega, this.2⟩
theorem firstBreak_g {o : So} {ws : List Tst} {l : List Int} (ok : o.Ok) (hw : WsOk ws) (hl : RowOk l) (ld : D) (s : S) (e : Fneed_lengths [ld] s = .ok (.tup (iD l)) s) : Ffirst_break [o.d, wsD ws, ld] s = .ok (onD (brkK ws 0 (along o.rule l []))) s :=
  firstBreak_c (needSo_spec ok s) (needWs_spec hw s) e (gone_spec ok (by have := hl.1; omega) s) fun r hr => by
    have h := (along_ok o.rule l [] (fun x hx => (hl.2 x hx).1) (by simp) r hr).1
    have := hl.1
    exact failIn_spec (lo := 0) (by simp at h; omega) (by omega) hw.n3 hw.ok s
theorem firstBreak_spec {o : So} {ws : List Tst} {l : List Int} (ok : o.Ok) (hw : WsOk ws) (hl : RowOk l) (s : S) : Ffirst_break [o.d, wsD ws, .tup (iD l)] s = .ok (onD (brkK ws 0 (along o.rule l []))) s := firstBreak_g ok hw hl _ s (needRow_spec hl s)
theorem firstBreakL_spec {o : So} {ws : List Tst} {l : List Int} (ok : o.Ok) (hw : WsOk ws) (hl : RowOk l) (s : S) : Ffirst_break [o.d, wsD ws, .lst (iD l)] s = .ok (onD (brkK ws 0 (along o.rule l []))) s := firstBreak_g ok hw hl _ s (needRowL_spec hl s)
end
end Wd

set_option maxHeartbeats 0
/-! L1: the laws' own going along (first family). -/
namespace Wd
open PySem PySem.Spec PyProof.Rows L2 Q
def hvD (q : List Int) (sp : Nat) (t : Tst) : D := if reach t + sp < q.length then .bl (hold (q.drop sp) t) else .non
theorem reach_nn (t : Tst) : 0 ≤ reach t := ((foldl_max_le (t.l ++ t.r) 0 (reach t)).mp (Int.le_refl _)).1
theorem cutFromL (p : List Int) (k : Nat) : dSl (.lst (iD p)) (some (k : Int)) none = some (.lst (iD (p.drop k))) := by
  have h1 : ¬ ((k : Int) < 0) := by omega
  have h2 : (iD p).drop (min k p.length) = iD (p.drop k) := by
    by_cases h : k ≤ p.length
    · rw [Nat.min_eq_left h]; simp [iD]
    · rw [Nat.min_eq_right (by omega), List.drop_eq_nil_of_le (by simp), List.drop_eq_nil_of_le (by omega)]; rfl
  simp only [dSl, Q.cutD, HT.sIx, h1, if_false, Int.toNat_natCast, iD_len, h2]
  rw [List.take_of_length_le (by simp; omega)]
theorem dEq_int (x y : Int) : dEq (.int x) (.int y) = some (.bl (decide (x = y))) := by
  simp only [dEq, deq, toPy]
  simp [PyData.eqv]
  rfl
section
variable {S : Type}
theorem lpick {q l : List Int} {s : S} {x0 x1 x2 x4 x5 : Sl} (h : ∀ x ∈ l, 0 ≤ x ∧ x < q.length) : lcGo (tN 6) yesT (bin dIx (vK 3) (vK 6)) [x0, x1, x2, Sl.val (.lst (iD q)), x4, x5, Sl.no] (iD l) s = .ok (iD (l.map fun x => q.getD x.toNat 0)) s := by
  rw [← map_upI (fun x => q.getD x.toNat 0)]
  refine lcGo_map fun d hd => ?_
  obtain ⟨x, hx, rfl⟩ := mem_iD hd
  have e := ix_int (f := q) (i := x) (h x hx).1 (h x hx).2
  exact ⟨[x0, x1, x2, Sl.val (.lst (iD q)), x4, x5, Sl.val (.int x)], by simp, rfl, by simp [dIx, e, upI]⟩
theorem lawHolds_spec {q : List Int} {t : Tst} {sp : Nat} (ok : t.Ok) (s : S) : F_law_holds_v2 [.tup (iD q.reverse), t.d, .int sp] s = .ok (hvD q sp t) s := by
  have hc := cutFromL q sp
  have hz1 : t.l.length ≤ sizeLine := sz (by have := ok.l.l3; omega)
  have hz2 : t.r.length ≤ sizeLine := sz (by have := ok.r.l3; omega)
  have hm := max_sides ok
  have ha := add_sides ok
  have hbl : bList [.tup (iD q.reverse)] = some (.lst (iD q.reverse)) := rfl
  have hrv : (iD q.reverse).reverse = iD q := by rw [iD_rev, List.reverse_reverse]
  show endR false (c_law_holds_v2 [Sl.val (.tup (iD q.reverse)), Sl.val t.d, Sl.val (.int sp), .no, .no, .no, .no] s) = _
  have b1 : asgS (S := S) (slE (revE (biF bList (consA (vK 0) nilA))) (someO (vK 2)) noneO) (tN 3) [Sl.val (.tup (iD q.reverse)), Sl.val t.d, Sl.val (.int sp), .no, .no, .no, .no] s = .nxt [Sl.val (.tup (iD q.reverse)), Sl.val t.d, Sl.val (.int sp), Sl.val (.lst (iD (q.drop sp))), .no, .no, .no] s := by
    simp [hbl, hrv, hc]
  unfold c_law_holds_v2
  rw [seqS_ap, b1, next_nxt]
  unfold hvD
  generalize hq : q.drop sp = u at hc ⊢
  have hu : u.length = q.length - sp := by rw [← hq, List.length_drop]
  have hrn := reach_nn t
  by_cases hl : reach t + (sp : Int) < q.length
  · rw [if_pos hl]
    have hl' : ¬ ((u.length : Int) ≤ reach t) := by omega
    have hlt := reach_lt (t := t) (n := u.length) (by omega)
    have p1 := fun x4 x5 => lpick (S := S) (q := u) (l := t.l) (s := s) (x0 := Sl.val (.tup (iD q.reverse))) (x1 := Sl.val t.d) (x2 := Sl.val (.int sp)) (x4 := x4) (x5 := x5) (fun x hx => ⟨(ok.l.rng x hx).1, hlt x (.inl hx)⟩)
    have p2 := fun x4 x5 => lpick (S := S) (q := u) (l := t.r) (s := s) (x0 := Sl.val (.tup (iD q.reverse))) (x1 := Sl.val t.d) (x2 := Sl.val (.int sp)) (x4 := x4) (x5 := x5) (fun x hx => ⟨(ok.r.rng x hx).1, hlt x (.inr hx)⟩)
    simp [Tst.d] at p1 p2
    generalize hA : (t.l.map fun x => u.getD x.toNat 0).sum = A
    generalize hB : (t.r.map fun x => u.getD x.toNat 0).sum = B
    simp at hA hB
    have hold' : hold u t = if t.b = true then decide (A < B) else decide (A ≤ B) := by simp [hold, sumAt, hA, hB]
    rw [hold']
    cases hb : t.b with
    | true =>
      rw [hb] at p1 p2
      by_cases hab : A < B <;> simp [Tst.d, dIx, at0, at1, at2, ha, hm, hl', p1, p2, hz1, hz2, parS, asgL, slO, hb, eq_atmost, hA, hB, hab]
    | false =>
      rw [hb] at p1 p2
      by_cases hab : A < B
      · have : A ≤ B := by omega
        simp [Tst.d, dIx, at0, at1, at2, ha, hm, hl', p1, p2, hz1, hz2, parS, asgL, slO, hb, eq_atmost, hA, hB, hab, this]
      · have : decide (A = B) = decide (A ≤ B) := by rw [decide_eq_decide]; omega
        simp [Tst.d, dIx, at0, at1, at2, ha, hm, hl', p1, p2, hz1, hz2, parS, asgL, slO, hb, eq_atmost, hA, hB, hab, dEq_int, this]
  · rw [if_neg hl]
    have hl' : (u.length : Int) ≤ reach t := by omega
    simp [Tst.d, dIx, at0, at2, ha, hm, hl']
/-! ### the deed -/
def hvP (q : List Int) (sp : Nat) (t : Tst) : PyData := if reach t + sp < q.length then .bool (hold (q.drop sp) t) else .none
theorem toPy_hv (q : List Int) (sp : Nat) (t : Tst) : toPy (hvD q sp t) = some (hvP q sp t) := by
  unfold hvD hvP
  split <;> simp [toPy]
theorem toPyL_hv (q : List Int) (sp : Nat) : ∀ ts : List Tst, toPyL (ts.map (hvD q sp)) = some (ts.map (hvP q sp))
  | [] => rfl
  | t :: ts => by simp [toPyL, toPy_hv, toPyL_hv q sp ts]
theorem canLay_hv (q : List Int) (sp : Nat) : ∀ ts : List Tst, PyData.canLayAll0 (ts.map (hvP q sp)) = true
  | [] => rfl
  | t :: ts => by
    have h : PyData.canLay0 (hvP q sp t) = true := by unfold hvP; split <;> simp [PyData.canLay0]
    simp [PyData.canLayAll0, h, canLay_hv q sp ts]
theorem depth_hv (q : List Int) (sp : Nat) : ∀ ts : List Tst, PyData.depthAll (ts.map (hvP q sp)) ≤ 1
  | [] => by simp [PyData.depthAll]
  | t :: ts => by
    have h : PyData.depth (hvP q sp t) ≤ 1 := by unfold hvP; split <;> simp [PyData.depth]
    have := depth_hv q sp ts
    simp only [List.map_cons, PyData.depthAll]
    omega
theorem shaped_hv (q : List Int) (sp : Nat) (ts : List Tst) : SeqAt.shaped (.list (ts.map (hvP q sp))) = true := by
  have := depth_hv q sp ts
  have h : (PyData.list (ts.map (hvP q sp))).depth ≤ 64 := by simp only [PyData.depth]; omega
  simp [SeqAt.shaped, PyData.canLay0, canLay_hv, h]
theorem any_none (q : List Int) : ∀ ts : List Tst, ((ts.map (hvP q 0)).any fun z => PyData.eqv z .none) = ts.any fun t => !decide (reach t < q.length)
  | [] => rfl
  | t :: ts => by
    have ih := any_none q ts
    simp only [List.map_cons, List.any_cons, ih]
    congr 1
    unfold hvP
    by_cases h : reach t < (q.length : Int) <;> simp [h, PyData.eqv]
theorem any_false (q : List Int) : ∀ ts : List Tst, ((ts.map (hvP q 0)).any fun z => PyData.eqv z (.bool false)) = ts.any fun t => decide (reach t < q.length) && !hold q t
  | [] => rfl
  | t :: ts => by
    have ih := any_false q ts
    simp only [List.map_cons, List.any_cons, ih]
    congr 1
    unfold hvP
    by_cases h : reach t < (q.length : Int) <;> simp [h, PyData.eqv]
theorem notIn_none (q : List Int) (ts : List Tst) : dNotIn .non (.lst (ts.map (hvD q 0))) = some (.bl (ts.all fun t => decide (reach t < q.length))) := by
  have h1 : SeqAt.shaped .none = true := by simp [SeqAt.shaped, PyData.canLay0, PyData.depth]
  simp only [dNotIn, din, toPy, toPyL_hv, h1, shaped_hv, and_self, if_true, any_none, Option.map_some]
  congr 2
  rw [Bool.eq_iff_iff]
  simp
theorem notIn_false (q : List Int) (ts : List Tst) : dNotIn (.bl false) (.lst (ts.map (hvD q 0))) = some (.bl (ts.all fun t => !(decide (reach t < q.length) && !hold q t))) := by
  have h1 : SeqAt.shaped (.bool false) = true := by simp [SeqAt.shaped, PyData.canLay0, PyData.depth]
  simp only [dNotIn, din, toPy, toPyL_hv, h1, shaped_hv, and_self, if_true, any_false, Option.map_some]
  congr 2
  rw [Bool.eq_iff_iff]
  simp
  constructor
  · intro h x hx
    by_cases hr : reach x < (q.length : Int)
    · exact .inr (h x hx hr)
    · exact .inl (by omega)
  · intro h x hx hr
    rcases h x hx with z | z
    · omega
    · exact z
theorem lcGo_T {g : D → List Sl → Option (List Sl)} {ft : EvT' S} {fe : EvF S} {ρ : List Sl} {f : Tst → D} {s : S} : ∀ {ts : List Tst}, (∀ t ∈ ts, ∃ ρ2, g t.d ρ = some ρ2 ∧ ft ρ2 s = .ok true s ∧ fe ρ2 s = .ok (f t) s) → lcGo g ft fe ρ (ts.map Tst.d) s = .ok (ts.map f) s
  | [], _ => rfl
  | t :: ts, k => by
    obtain ⟨ρ2, e1, e2, e3⟩ := k t List.mem_cons_self
    rw [List.map_cons, lcGo_cons e1, e2]
    simp only [noErr_okS, bind_okS, if_true, e3, lcGo_T fun x hx => k x (List.mem_cons_of_mem _ hx)]
    rfl
abbrev ldB (Fh : FF S) : ExF S := (seqS (relS' [0, 5] (asgS (lcE (iSeq (vK 2)) (tN 5) yesT (callF (⟨3, false, Fh⟩ : Fn S) (consA (vC 0) (consA (vC 5) (consA (kD (.int 0)) nilA)))) [5]) (tN 4))) (seqS (ifS (andT (testB (bin dGt (biF bLen (consA (vK 0) nilA)) (ifE (testB (bin dEq (vK 3) (kD (.str "top")))) (kD (.int 1)) (kD (.int 2))))) (andT (testB (bin dNotIn (kD .non) (vK 4))) (testB (bin dNotIn (kD (.bl false)) (vK 4))))) (seqS (rN 3) nextS) nextS) nextS))
theorem ld_turn {Fh : FF S} {q : List Int} {c : Cl} {a1 a4 : Sl} {s : S} (ok : c.Ok) (hh : ∀ t ∈ c.ts, Fh [.tup (iD q.reverse), t.d, .int 0] s = .ok (hvD q 0 t) s) : ldB Fh [Sl.val (.tup (iD q.reverse)), a1, Sl.val (.tup (c.ts.map Tst.d)), Sl.val (.str (dword c.top)), a4, .no] s = if applies q c = true then .ret false (.str (dword c.top)) s else .nxt [Sl.val (.tup (iD q.reverse)), a1, Sl.val (.tup (c.ts.map Tst.d)), Sl.val (.str (dword c.top)), Sl.val (.lst (c.ts.map (hvD q 0))), .no] s := by
  have key := lcGo_T (S := S) (g := tN 5) (ft := yesT) (fe := callF (⟨3, false, Fh⟩ : Fn S) (consA (vC 0) (consA (vC 5) (consA (kD (.int 0)) nilA)))) (ρ := [Sl.val (.tup (iD q.reverse)), a1, Sl.val (.tup (c.ts.map Tst.d)), Sl.val (.str (dword c.top)), a4, .no]) (f := hvD q 0) (s := s) (ts := c.ts) (fun t ht => ⟨[Sl.val (.tup (iD q.reverse)), a1, Sl.val (.tup (c.ts.map Tst.d)), Sl.val (.str (dword c.top)), a4, Sl.val t.d], by simp, rfl, by simp [hh t ht]⟩)
  have hz : c.ts.length ≤ sizeLine := sz (by have := ok.n; omega)
  have b1 : relS' (S := S) [0, 5] (asgS (lcE (iSeq (vK 2)) (tN 5) yesT (callF (⟨3, false, Fh⟩ : Fn S) (consA (vC 0) (consA (vC 5) (consA (kD (.int 0)) nilA)))) [5]) (tN 4)) [Sl.val (.tup (iD q.reverse)), a1, Sl.val (.tup (c.ts.map Tst.d)), Sl.val (.str (dword c.top)), a4, .no] s = .nxt [Sl.val (.tup (iD q.reverse)), a1, Sl.val (.tup (c.ts.map Tst.d)), Sl.val (.str (dword c.top)), Sl.val (.lst (c.ts.map (hvD q 0))), .no] s := by
    simp [relAt_def, key, hz]
  have happ : applies q c = (decide ((if c.top = true then 1 else 2) < q.length) && ((c.ts.all fun t => decide (reach t < q.length)) && (c.ts.all fun t => !(decide (reach t < q.length) && !hold q t)))) := by
    rw [Bool.eq_iff_iff]
    unfold applies
    simp only [Bool.and_eq_true, decide_eq_true_eq, List.all_eq_true, Bool.not_eq_true', Bool.and_eq_false_imp, Bool.not_eq_false']
    constructor
    · rintro ⟨h1, h2⟩
      exact ⟨by split at h1 <;> split <;> omega, fun t ht => (h2 t ht).1, fun t ht _ => (h2 t ht).2⟩
    · rintro ⟨h1, h2, h3⟩
      exact ⟨by split at h1 <;> split <;> omega, fun t ht => ⟨h2 t ht, h3 t ht (h2 t ht)⟩⟩
  have n1 := notIn_none q c.ts
  have n2 := notIn_false q c.ts
  unfold ldB
  rw [seqS_ap, b1, next_nxt, happ]
  generalize (c.ts.all fun t => decide (reach t < q.length)) = A at n1
  generalize (c.ts.all fun t => !(decide (reach t < q.length) && !hold q t)) = B at n2
  generalize c.ts.map (hvD q 0) = Z at n1 n2
  cases hc : c.top with
  | true =>
    by_cases h : (1 : Int) < q.length
    · have h' : 1 < q.length := by omega
      cases A <;> cases B <;> simp [hc, eq_top, h, h', n1, n2]
    · have h' : ¬ (1 < q.length) := by omega
      simp [hc, eq_top, h, h']
  | false =>
    by_cases h : (2 : Int) < q.length
    · have h' : 2 < q.length := by omega
      cases A <;> cases B <;> simp [hc, eq_top, h, h', n1, n2]
    · have h' : ¬ (2 < q.length) := by omega
      simp [hc, eq_top, h, h']
theorem ld_loop {Fh : FF S} {q : List Int} {a1 : Sl} {s : S} : ∀ (cs : List Cl) (x2 x3 x4 : Sl), (∀ c ∈ cs, c.Ok) → (∀ c ∈ cs, ∀ t ∈ c.ts, Fh [.tup (iD q.reverse), t.d, .int 0] s = .ok (hvD q 0 t) s) → ∃ y2 y3 y4,
    forGo (gTupD 2 (gsC (tN 2) (gsC (tN 3) gsN))) (ldB Fh) (cs.map Cl.d) [Sl.val (.tup (iD q.reverse)), a1, x2, x3, x4, .no] s = match first q cs with
      | some b => .ret false (.str (dword b)) s
      | none => .nxt [Sl.val (.tup (iD q.reverse)), a1, y2, y3, y4, .no] s
  | [], x2, x3, x4, _, _ => ⟨x2, x3, x4, rfl⟩
  | c :: cs, x2, x3, x4, ok, h => by
    have e := ld_turn (a1 := a1) (a4 := x4) (ok c List.mem_cons_self) (h c List.mem_cons_self)
    obtain ⟨y2, y3, y4, ih⟩ := ld_loop (a1 := a1) cs (Sl.val (.tup (c.ts.map Tst.d))) (Sl.val (.str (dword c.top))) (Sl.val (.lst (c.ts.map (hvD q 0)))) (fun x hx => ok x (List.mem_cons_of_mem _ hx)) fun x hx => h x (List.mem_cons_of_mem _ hx)
    refine ⟨y2, y3, y4, ?_⟩
    rw [List.map_cons, forGo_cons (ρ1 := [Sl.val (.tup (iD q.reverse)), a1, Sl.val (.tup (c.ts.map Tst.d)), Sl.val (.str (dword c.top)), x4, .no]) (by simp [Cl.d]), e]
    cases hq : applies q c with
    | true =>
      have : first q (c :: cs) = some c.top := by simp [first, hq]
      rw [if_pos rfl, turn_ret, this]
    | false =>
      have : first q (c :: cs) = first q cs := by simp [first, hq]
      rw [if_neg (by decide), turn_nxt, this]
      exact ih
theorem lawDeed_c {Fh : FF S} {q : List Int} {cs : List Cl} {s : S} (ok : ∀ c ∈ cs, c.Ok) (h : ∀ c ∈ cs, ∀ t ∈ c.ts, Fh [.tup (iD q.reverse), t.d, .int 0] s = .ok (hvD q 0 t) s) : endR false (c_law_deed Fh [Sl.val (.tup (iD q.reverse)), Sl.val (csD cs), .no, .no, .no, .no] s) = .ok (odD (first q cs)) s := by
  obtain ⟨y2, y3, y4, e⟩ := ld_loop (a1 := Sl.val (csD cs)) cs .no .no .no ok h
  have hi : itemsOf (csD cs) = some (cs.map Cl.d) := rfl
  unfold c_law_deed
  rw [seqS_ap, lockS_cons, lockS_nil, lock1_val (d := csD cs) rfl, forS_ap, iSeq_ap, vS_ap]
  have q0 : slS (S := S) ([Sl.val (.tup (iD q.reverse)), Sl.val (csD cs), .no, .no, .no, .no] : List Sl)[1]? s = .ok (csD cs) s := rfl
  rw [q0, bind_okS, hi, ofO_some, thenS_ok, e]
  cases first q cs with
  | some b => rw [next_ret, endR_ret]; rfl
  | none => rw [next_nxt]; simp [odD]
theorem lawDeed_spec {q : List Int} {cs : List Cl} (ok : ∀ c ∈ cs, c.Ok) (s : S) : F_law_deed [.tup (iD q.reverse), csD cs] s = .ok (odD (first q cs)) s :=
  lawDeed_c ok fun c hc t ht => by
    have := lawHolds_spec (q := q) (sp := 0) ((ok c hc).ok t ht) s
    simpa using this
end
end Wd

set_option maxHeartbeats 0
/-! L2f: the laws' own falls, where wants fail (first family). -/
namespace Wd
open PySem PySem.Spec PyProof.Rows L2 Q
section
variable {S : Type}
theorem cutTo (l r : List D) : dSl (.tup (l ++ r)) none (some (l.length : Int)) = some (.tup l) := by
  have h1 : ¬ ((l.length : Int) < 0) := by omega
  simp [dSl, Q.cutD, HT.sIx, h1]
theorem cutFr (l r : List D) (k : Int) (hk : k = l.length) : dSl (.tup (l ++ r)) (some k) none = some (.tup r) := by
  subst hk
  have h1 : ¬ ((l.length : Int) < 0) := by omega
  simp [dSl, Q.cutD, HT.sIx, h1]
theorem atP (l r : List D) (d : D) (k : Int) (hk : k = l.length) : L2.atI (l ++ d :: r) k = some d := by
  subst hk
  exact ix_at (by simp)
theorem lawDone_spec {q : List Int} {b : Bool} (h : need b ≤ q.length) (hq : q.length ≤ 40000) (s : S) : F_law_done [.tup (iD q.reverse), .str (dword b)] s = .ok (.tup [.tup (iD (mrg b q).reverse), .int (amt b q)]) s := by
  show endR false (c_law_done [Sl.val (.tup (iD q.reverse)), Sl.val (.str (dword b)), .no, .no] s) = _
  cases b with
  | true => match q, h with
    | x :: y :: r, _ =>
      simp only [List.length_cons] at hq
      rw [rev2]
      generalize hL : iD r.reverse = L
      have hl : (L.length : Int) = r.length := by rw [← hL]; simp
      have i1 := atP L [.int x] (.int y) L.length rfl
      have i2 := atP (L ++ [.int y]) [] (.int x) ((L.length : Int) + 1) (by simp)
      have c1 := cutTo L [.int y, .int x]
      have c2 := cutFr (L ++ [.int y, .int x]) [] ((L.length : Int) + 2) (by simp)
      have a1 := addT L [.int (y + x)] (by simp; omega)
      have a2 := addT (L ++ [.int (y + x)]) [] (by simp; omega)
      simp only [List.append_assoc, List.cons_append, List.nil_append, List.append_nil] at i2 c2 a2
      have e : (iD (mrg true (x :: y :: r)).reverse) = L ++ [.int (y + x)] := by rw [← hL]; simp [mrg, iD]
      simp [c_law_done, relAt_def, eq_top, dIx, sz, amt, i1, i2, c1, c2, a1, a2, e]
  | false => match q, h with
    | x :: y :: z :: r, _ =>
      simp only [List.length_cons] at hq
      rw [rev3]
      generalize hL : iD r.reverse = L
      have hl : (L.length : Int) = r.length := by rw [← hL]; simp
      have i1 := atP L [.int y, .int x] (.int z) L.length rfl
      have i2 := atP (L ++ [.int z]) [.int x] (.int y) ((L.length : Int) + 1) (by simp)
      have c1 := cutTo L [.int z, .int y, .int x]
      have c2 := cutFr (L ++ [.int z, .int y]) [.int x] ((L.length : Int) + 2) (by simp)
      have a1 := addT L [.int (z + y)] (by simp; omega)
      have a2 := addT (L ++ [.int (z + y)]) [.int x] (by simp; omega)
      simp only [List.append_assoc, List.cons_append, List.nil_append, List.append_nil] at i2 c2 a2
      have e : (iD (mrg false (x :: y :: z :: r)).reverse) = L ++ [.int (z + y), .int x] := by rw [← hL]; simp [mrg, iD]
      simp [c_law_done, relAt_def, eq_top, dIx, sz, amt, i1, i2, c1, c2, a1, a2, e]
abbrev lfB (Fd Fo : FF S) : ExF S := (seqS (relS' [4] (appS 2 (vC 4))) (seqS (relS' [0, 4] (asgS (callF (⟨2, false, Fo⟩ : Fn S) (consA (vC 0) (consA (vC 4) nilA))) (gTupD 2 (gsC (tN 0) (gsC (tN 5) gsN))))) (seqS (relS' [0, 1] (parS [(3, false), (4, false)] (consA (bin dAdd (vK 3) (vK 5)) (consA (callF (⟨2, false, Fd⟩ : Fn S) (consA (vC 0) (consA (vC 1) nilA))) nilA)))) nextS)))
theorem lfall_loop {Fd Fo : FF S} {cs : List Cl} {s : S} (hf : ∀ q : List Int, Fd [.tup (iD q.reverse), csD cs] s = .ok (odD (first q cs)) s) (hg : ∀ (q : List Int) (b : Bool), need b ≤ q.length → q.length ≤ 40000 → Fo [.tup (iD q.reverse), .str (dword b)] s = .ok (.tup [.tup (iD (mrg b q).reverse), .int (amt b q)]) s) :
    ∀ (n : Nat) (q : List Int) (ds : List Bool) (c : Int) (x5 : Sl), q.length ≤ n → q.length ≤ 40000 → ds.length + q.length ≤ 60000 → ∃ y5,
      whileGo (testB (bin dIsNot (vK 4) (kD .non))) (lfB Fd Fo) (n + 1) [Sl.val (.tup (iD q.reverse)), Sl.val (csD cs), Sl.own (dsD ds), Sl.val (.int c), Sl.val (odD (first q cs)), x5] s
        = .nxt [Sl.val (.tup (iD (fallN cs n q).2.1.reverse)), Sl.val (csD cs), Sl.own (dsD (ds ++ (fallN cs n q).1)), Sl.val (.int (c + (fallN cs n q).2.2)), Sl.val .non, y5] s
  | 0, q, ds, c, x5, hn, hq, hd => by
    have : q = [] := List.eq_nil_of_length_eq_zero (by omega)
    subst this
    have hn : first [] cs = none := by
      cases e : first [] cs with
      | none => rfl
      | some b => have := first_need e; cases b <;> simp [need] at this
    refine ⟨x5, ?_⟩
    rw [while_succ]
    simp [hn, isNot_od, fallN, odD, dIsNot, dis]
  | n + 1, q, ds, c, x5, hn, hq, hd => by
    rw [while_succ]
    cases e : first q cs with
    | none =>
      refine ⟨x5, ?_⟩
      simp [isNot_od, fallN, e, odD, dIsNot, dis]
    | some b =>
      have hb := first_need e
      have hl := mrg_len b q hb
      obtain ⟨y5, ih⟩ := lfall_loop hf hg n (mrg b q) (ds ++ [b]) (c + amt b q) (Sl.val (.int (amt b q))) (by omega) (by omega) (by simp; omega)
      refine ⟨y5, ?_⟩
      have h1 : relS' (S := S) [4] (appS 2 (vC 4)) [Sl.val (.tup (iD q.reverse)), Sl.val (csD cs), Sl.own (dsD ds), Sl.val (.int c), Sl.val (odD (some b)), x5] s = .nxt [Sl.val (.tup (iD q.reverse)), Sl.val (csD cs), Sl.own (dsD (ds ++ [b])), Sl.val (.int c), Sl.val (odD (some b)), x5] s := by
        have hz : ds.length < sizeLine := szl (by omega)
        rw [relS_ap]
        simp only [relAll_cons, relAll_nil, relAt_def, List.getElem?_cons_succ, List.getElem?_cons_zero, List.set_cons_succ, List.set_cons_zero, relS_val]
        rw [appS_own (ds := dsD ds) rfl]
        simp [hz, dsD, odD]
      have h2 : relS' (S := S) [0, 4] (asgS (callF (⟨2, false, Fo⟩ : Fn S) (consA (vC 0) (consA (vC 4) nilA))) (gTupD 2 (gsC (tN 0) (gsC (tN 5) gsN)))) [Sl.val (.tup (iD q.reverse)), Sl.val (csD cs), Sl.own (dsD (ds ++ [b])), Sl.val (.int c), Sl.val (odD (some b)), x5] s = .nxt [Sl.val (.tup (iD (mrg b q).reverse)), Sl.val (csD cs), Sl.own (dsD (ds ++ [b])), Sl.val (.int c), Sl.val (odD (some b)), Sl.val (.int (amt b q))] s := by
        have := hg q b hb hq
        simp [relAt_def, odD, this]
      have h3 : relS' (S := S) [0, 1] (parS [(3, false), (4, false)] (consA (bin dAdd (vK 3) (vK 5)) (consA (callF (⟨2, false, Fd⟩ : Fn S) (consA (vC 0) (consA (vC 1) nilA))) nilA))) [Sl.val (.tup (iD (mrg b q).reverse)), Sl.val (csD cs), Sl.own (dsD (ds ++ [b])), Sl.val (.int c), Sl.val (odD (some b)), Sl.val (.int (amt b q))] s = .nxt [Sl.val (.tup (iD (mrg b q).reverse)), Sl.val (csD cs), Sl.own (dsD (ds ++ [b])), Sl.val (.int (c + amt b q)), Sl.val (odD (first (mrg b q) cs)), Sl.val (.int (amt b q))] s := by
        have := hf (mrg b q)
        simp [relAt_def, this, parS, asgL, slO]
      have ht : testB (S := S) (bin dIsNot (vK 4) (kD .non)) [Sl.val (.tup (iD q.reverse)), Sl.val (csD cs), Sl.own (dsD ds), Sl.val (.int c), Sl.val (odD (some b)), x5] s = .ok true s := by
        simp [odD, dIsNot, dis]
      rw [ht, thenS_ok, if_pos rfl]
      have hB : lfB Fd Fo [Sl.val (.tup (iD q.reverse)), Sl.val (csD cs), Sl.own (dsD ds), Sl.val (.int c), Sl.val (odD (some b)), x5] s = .nxt [Sl.val (.tup (iD (mrg b q).reverse)), Sl.val (csD cs), Sl.own (dsD (ds ++ [b])), Sl.val (.int (c + amt b q)), Sl.val (odD (first (mrg b q) cs)), Sl.val (.int (amt b q))] s := by
        unfold lfB
        rw [seqS_ap, h1, next_nxt, seqS_ap, h2, next_nxt, seqS_ap, h3, next_nxt, nextS_ap]
      rw [hB, turn_nxt, ih]
      simp only [fallN, e, List.append_assoc, List.singleton_append]
      rw [Int.add_assoc]
theorem lawFall_c {Fd Fo : FF S} {cs : List Cl} {s : S} {q : List Int} (hq : q.length ≤ 40000) (hf : ∀ q : List Int, Fd [.tup (iD q.reverse), csD cs] s = .ok (odD (first q cs)) s) (hg : ∀ (q : List Int) (b : Bool), need b ≤ q.length → q.length ≤ 40000 → Fo [.tup (iD q.reverse), .str (dword b)] s = .ok (.tup [.tup (iD (mrg b q).reverse), .int (amt b q)]) s) :
    endR false (c_law_fall Fd Fo (q.length + 1) [Sl.val (.tup (iD q.reverse)), Sl.val (csD cs), .no, .no, .no, .no] s) = .ok (.tup [.tup (iD (fall cs q).2.1.reverse), .tup (dsD (fall cs q).1), .int (fall cs q).2.2]) s := by
  obtain ⟨y5, e⟩ := lfall_loop hf hg q.length q [] 0 .no (Nat.le_refl _) hq (by simp; omega)
  unfold c_law_fall
  have a1 : parS (S := S) [(2, true), (3, false)] (consA (lstE nilA) (consA (kD (.int 0)) nilA)) [Sl.val (.tup (iD q.reverse)), Sl.val (csD cs), .no, .no, .no, .no] s = .nxt [Sl.val (.tup (iD q.reverse)), Sl.val (csD cs), .own (dsD []), .val (.int 0), .no, .no] s := by
    simp [parS, asgL, slO, dsD]
  have a2 : relS' (S := S) [0, 1] (asgS (callF (⟨2, false, Fd⟩ : Fn S) (consA (vC 0) (consA (vC 1) nilA))) (tN 4)) [Sl.val (.tup (iD q.reverse)), Sl.val (csD cs), .own (dsD []), .val (.int 0), .no, .no] s = .nxt [Sl.val (.tup (iD q.reverse)), Sl.val (csD cs), .own (dsD []), .val (.int 0), Sl.val (odD (first q cs)), .no] s := by
    simp [relAt_def, hf q]
  rw [seqS_ap, a1, next_nxt, seqS_ap, a2, next_nxt, seqS_ap, e, next_nxt]
  simp [relAt_def, sz, fall]
theorem lawFall_spec {cs : List Cl} (ok : ∀ c ∈ cs, c.Ok) {q : List Int} (hq : q.length ≤ 40000) (s : S) : F_law_fall [.tup (iD q.reverse), csD cs] s = .ok (.tup [.tup (iD (fall cs q).2.1.reverse), .tup (dsD (fall cs q).1), .int (fall cs q).2.2]) s := by
  have h := lawFall_c (S := S) (Fd := F_law_deed) (Fo := F_law_done) (cs := cs) (s := s) hq (fun q => lawDeed_spec ok s) (fun q b h hq => lawDone_spec h hq s)
  have hw : wfLen [.tup (iD q.reverse), csD cs] = q.length + 1 := by simp [wfLen]
  show endR false (c_law_fall F_law_deed F_law_done (wfLen [.tup (iD q.reverse), csD cs]) [Sl.val (.tup (iD q.reverse)), Sl.val (csD cs), .no, .no, .no, .no] s) = _
  rw [hw]
  exact h
/-! ### where wants fail -/
abbrev lwB (Fh : FF S) : ExF S := (seqS (relS' [0, 6, 4] (ifS (testB (bin dIs (callF (⟨3, false, Fh⟩ : Fn S) (consA (vC 0) (consA (vC 6) (consA (vC 4) nilA)))) (kD (.bl false)))) (seqS (relS' [4, 5] (appS 3 (tupE (consA (vC 4) (consA (vC 5) nilA))))) nextS) nextS)) nextS)
theorem lwT {Fh : FF S} {pd td x : D} {b : Bool} {a1 a2 a3 a5 : Sl} {s : S} {sp : Int} (e : Fh [pd, td, .int sp] s = .ok x s) (hx : dIs x (.bl false) = some (.bl b)) : testB (bin dIs (callF (⟨3, false, Fh⟩ : Fn S) (consA (vC 0) (consA (vC 6) (consA (vC 4) nilA)))) (kD (.bl false))) [Sl.val pd, a1, a2, a3, Sl.val (.int sp), a5, Sl.val td] s = .ok b s := by
  simp [e, hx]
theorem isF_hv (q : List Int) (sp : Nat) (t : Tst) : dIs (hvD q sp t) (.bl false) = some (.bl (failF q sp t)) := by
  unfold hvD failF
  by_cases h : reach t + (sp : Int) < q.length
  · rw [if_pos h, decide_eq_true h]
    cases hold (q.drop sp) t <;> simp [dIs, dis]
  · rw [if_neg h, decide_eq_false h]
    simp [dIs, dis]
theorem lwTurn {Fh : FF S} {q : List Int} {a1 a2 : Sl} {t : Tst} {s : S} {sp k : Nat} {fnd : List (Nat × Nat)} (hf : fnd.length ≤ 9000) (hh : Fh [.tup (iD q.reverse), t.d, .int sp] s = .ok (hvD q sp t) s) :
    lwB Fh [Sl.val (.tup (iD q.reverse)), a1, a2, Sl.own (fpD fnd), Sl.val (.int sp), Sl.val (.int k), Sl.val t.d] s = .nxt [Sl.val (.tup (iD q.reverse)), a1, a2, Sl.own (fpD (fnd ++ if failF q sp t = true then [(sp, k)] else [])), Sl.val (.int sp), Sl.val (.int k), Sl.val t.d] s := by
  have ha := app3 (S := S) (a0 := Sl.val (.tup (iD q.reverse))) (a1 := a1) (a2 := a2) (x6 := Sl.val t.d) (sp := sp) (k := k) (s := s) hf
  have e := lwT (a1 := a1) (a2 := a2) (a3 := Sl.own (fpD fnd)) (a5 := Sl.val (.int k)) hh (isF_hv q sp t)
  unfold lwB
  rw [seqS_ap, relS_ap]
  have r0 : relAll [Sl.val (.tup (iD q.reverse)), a1, a2, Sl.own (fpD fnd), Sl.val (.int sp), Sl.val (.int k), Sl.val t.d] [0, 6, 4] = [Sl.val (.tup (iD q.reverse)), a1, a2, Sl.own (fpD fnd), Sl.val (.int sp), Sl.val (.int k), Sl.val t.d] := rfl
  rw [r0, ifS_ap, e, thenS_ok]
  cases failF q sp t with
  | true => rw [if_pos rfl, if_pos rfl, ha, next_nxt, nextS_ap]
  | false => rw [if_neg (by decide), if_neg (by decide), List.append_nil]; rfl
theorem lawFailing_c {Fh : FF S} {q : List Int} {ws : List Tst} {lo : Nat} {s : S} (hq : q.length ≤ 1000) (hlo : lo ≤ 1000) (hw : ws.length ≤ 3) (hh : ∀ t ∈ ws, ∀ sp : Nat, Fh [.tup (iD q.reverse), t.d, .int sp] s = .ok (hvD q sp t) s) :
    endR false (c_law_failing Fh [Sl.val (.tup (iD q.reverse)), Sl.val (wsD ws), Sl.val (.int lo), .no, .no, .no, .no] s) = .ok (.lst (fpD (failing q ws lo))) s := by
  obtain ⟨y4, y5, y6, e⟩ := fail_outer (S := S) (body := lwB Fh) (a0 := Sl.val (.tup (iD q.reverse))) (a2 := Sl.val (.int lo)) (ws := ws) (f := failF q) (s := s) hw (fun sp k t ht fnd hf => lwTurn hf (hh t ht sp)) (q.length - lo) lo [] .no .no .no (by simp; omega)
  unfold c_law_failing
  have a1 : ownS (S := S) 3 (lstE nilA) [Sl.val (.tup (iD q.reverse)), Sl.val (wsD ws), Sl.val (.int lo), .no, .no, .no, .no] s = .nxt [Sl.val (.tup (iD q.reverse)), Sl.val (wsD ws), Sl.val (.int lo), .own (fpD []), .no, .no, .no] s := by
    simp [fpD]
  rw [seqS_ap, a1, next_nxt, seqS_ap, lockS_cons, lockS_nil, lock1_val (d := .int lo) rfl, forS_ap]
  have q0 : iRange2 (S := S) (vK 2) (biF bLen (consA (vK 0) nilA)) [Sl.val (.tup (iD q.reverse)), Sl.val (wsD ws), Sl.val (.int lo), .own (fpD []), .no, .no, .no] s = .ok (rangeD lo (q.length - lo)) s :=
    iR2 (s1 := s) (lo := lo) (hi := q.length) (by simp) (by simp) (by omega) (by omega)
  rw [q0, thenS_ok, e, next_nxt]
  simp [failing]
theorem lawFailing_spec {q : List Int} {ws : List Tst} {lo : Nat} (hq : q.length ≤ 1000) (hlo : lo ≤ 1000) (hw : ws.length ≤ 3) (ok : ∀ t ∈ ws, t.Ok) (s : S) : F_law_failing [.tup (iD q.reverse), wsD ws, .int lo] s = .ok (.lst (fpD (failing q ws lo))) s :=
  lawFailing_c hq hlo hw fun t ht sp => lawHolds_spec (ok t ht) s
theorem lawLoose_c {Ff Fi : FF S} {o : So} {ws : List Tst} {q : List Int} {s : S} (e1 : Ff [.tup (iD q.reverse), csD o.rule] s = .ok (odD (first q o.rule)) s) (e2 : Fi [.tup (iD q.reverse), wsD ws, .int 2] s = .ok (.lst (fpD (failing q ws 2))) s) (e3 : Fi [.tup (iD q.reverse), wsD ws, .int 0] s = .ok (.lst (fpD (failing q ws 0))) s) :
    endR false (c_law_is_loose Ff Fi [Sl.val o.d, Sl.val (wsD ws), Sl.val (.tup (iD q.reverse))] s) = .ok (.bl (loose o ws q)) s := looseOf_c e1 e2 e3
theorem lawLoose_spec {o : So} {ws : List Tst} {q : List Int} (ok : o.Ok) (hw : WsOk ws) (hq : q.length ≤ 1000) (s : S) : F_law_is_loose [o.d, wsD ws, .tup (iD q.reverse)] s = .ok (.bl (loose o ws q)) s :=
  lawLoose_c (lawDeed_spec ok.ro s) (lawFailing_spec (lo := 2) hq (by omega) hw.n3 hw.ok s) (lawFailing_spec (lo := 0) hq (by omega) hw.n3 hw.ok s)
abbrev lbB (Fl Fi : FF S) : ExF S := (seqS (relS' [5] (asgS (bin dIx (callF (⟨2, false, Fl⟩ : Fn S) (consA (bin dAdd (vK 3) (tupE (consA (vC 5) nilA))) (consA (bin dIx (vK 0) (kD (.int 0))) nilA))) (kD (.int 0))) (tN 3))) (seqS (relS' [3, 1] (ifS (testB (bin dNe (callF (⟨3, false, Fi⟩ : Fn S) (consA (vC 3) (consA (vC 1) (consA (kD (.int 0)) nilA)))) (lstE nilA))) (seqS (rN 4) nextS) nextS)) nextS))
theorem lb_turn {Fl Fi : FF S} {o : So} {wd : D} {a2 : Sl} {q : List Int} {x : Int} {k : Nat} {R : List Bool × List Int × Int} {l : List (Nat × Nat)} {z1 z2 : D} {s : S} (hq : q.length ≤ 40000) (e1 : Fl [.tup (iD (x :: q).reverse), csD o.rule] s = .ok (.tup [pD R, z1, z2]) s) (e2 : Fi [pD R, wd, .int 0] s = .ok (.lst (fpD l)) s) :
    lbB Fl Fi [Sl.val o.d, Sl.val wd, a2, Sl.val (.tup (iD q.reverse)), Sl.val (.int k), Sl.val (.int x)] s = if l.isEmpty = true then .nxt [Sl.val o.d, Sl.val wd, a2, Sl.val (pD R), Sl.val (.int k), Sl.val (.int x)] s else .ret false (.int k) s := by
  have ha := addT (iD q.reverse) [.int x] (by simp; omega)
  have er : iD q.reverse ++ [D.int x] = iD (x :: q).reverse := by simp [iD]
  rw [er] at ha
  have b1 : relS' (S := S) [5] (asgS (bin dIx (callF (⟨2, false, Fl⟩ : Fn S) (consA (bin dAdd (vK 3) (tupE (consA (vC 5) nilA))) (consA (bin dIx (vK 0) (kD (.int 0))) nilA))) (kD (.int 0))) (tN 3)) [Sl.val o.d, Sl.val wd, a2, Sl.val (.tup (iD q.reverse)), Sl.val (.int k), Sl.val (.int x)] s = .nxt [Sl.val o.d, Sl.val wd, a2, Sl.val (pD R), Sl.val (.int k), Sl.val (.int x)] s := by
    simp only [List.reverse_cons] at ha e1
    simp [relAt_def, sz, ha, So.d, dIx, at0, e1]
  unfold lbB
  rw [seqS_ap, b1, next_nxt]
  cases h : l.isEmpty <;> simp [relAt_def, e2, dNe_fp, h]
theorem lb_loop {Fl Fi : FF S} {o : So} {ws : List Tst} {a2 : Sl} {s : S} (hl : ∀ q : List Int, q.length ≤ 40000 → Fl [.tup (iD q.reverse), csD o.rule] s = .ok (.tup [.tup (iD (fall o.rule q).2.1.reverse), .tup (dsD (fall o.rule q).1), .int (fall o.rule q).2.2]) s) (hf : ∀ q : List Int, q.length ≤ 1000 → Fi [.tup (iD q.reverse), wsD ws, .int 0] s = .ok (.lst (fpD (failing q ws 0))) s) :
    ∀ (l q : List Int) (k : Nat) (x4 x5 : Sl), q.length + l.length ≤ 1000 → ∃ y3 y4 y5,
      forGo (gTupD 2 (gsC (tN 4) (gsC (tN 5) gsN))) (lbB Fl Fi) (enumFrom k (iD l)) [Sl.val o.d, Sl.val (wsD ws), a2, Sl.val (.tup (iD q.reverse)), x4, x5] s = match brkK ws k (along o.rule l q) with
        | some j => .ret false (.int j) s
        | none => .nxt [Sl.val o.d, Sl.val (wsD ws), a2, y3, y4, y5] s
  | [], q, k, x4, x5, _ => ⟨_, x4, x5, rfl⟩
  | x :: l, q, k, x4, x5, h => by
    simp only [List.length_cons] at h
    have hn := fall_len o.rule (x :: q)
    simp only [List.length_cons] at hn
    have e := lb_turn (Fl := Fl) (Fi := Fi) (o := o) (wd := wsD ws) (a2 := a2) (q := q) (x := x) (k := k) (R := fall o.rule (x :: q)) (l := failing (fall o.rule (x :: q)).2.1 ws 0) (s := s) (by omega) (hl (x :: q) (by simp; omega)) (hf _ (by omega))
    obtain ⟨y3, y4, y5, ih⟩ := lb_loop hl hf l (fall o.rule (x :: q)).2.1 (k + 1) (Sl.val (.int k)) (Sl.val (.int x)) (by omega)
    refine ⟨y3, y4, y5, ?_⟩
    rw [iD_cons, enumFrom, forGo_cons (ρ1 := [Sl.val o.d, Sl.val (wsD ws), a2, Sl.val (.tup (iD q.reverse)), Sl.val (.int k), Sl.val (.int x)]) (by simp), e, along, brkK]
    cases hq : (failing (fall o.rule (x :: q)).2.1 ws 0).isEmpty with
    | true =>
      rw [if_pos rfl, turn_nxt, if_pos rfl]
      exact ih
    | false => rw [if_neg (by decide), turn_ret, if_neg (by decide)]
theorem lawBreak_c {Fl Fi : FF S} {o : So} {ws : List Tst} {l : List Int} {s : S} (h : l.length ≤ 1000) (hl : ∀ q : List Int, q.length ≤ 40000 → Fl [.tup (iD q.reverse), csD o.rule] s = .ok (.tup [.tup (iD (fall o.rule q).2.1.reverse), .tup (dsD (fall o.rule q).1), .int (fall o.rule q).2.2]) s) (hf : ∀ q : List Int, q.length ≤ 1000 → Fi [.tup (iD q.reverse), wsD ws, .int 0] s = .ok (.lst (fpD (failing q ws 0))) s) :
    endR false (c_law_first_break Fl Fi [Sl.val o.d, Sl.val (wsD ws), Sl.val (.tup (iD l)), .no, .no, .no] s) = .ok (onD (brkK ws 0 (along o.rule l []))) s := by
  obtain ⟨y3, y4, y5, e⟩ := lb_loop (a2 := Sl.val (.tup (iD l))) hl hf l [] 0 .no .no (by simp; omega)
  unfold c_law_first_break
  have a1 : asgS (S := S) (tupE nilA) (tN 3) [Sl.val o.d, Sl.val (wsD ws), Sl.val (.tup (iD l)), .no, .no, .no] s = .nxt [Sl.val o.d, Sl.val (wsD ws), Sl.val (.tup (iD l)), Sl.val (.tup (iD ([] : List Int).reverse)), .no, .no] s := by simp
  rw [seqS_ap, a1, next_nxt, seqS_ap, lockS_cons, lockS_nil, lock1_val (d := .tup (iD l)) rfl, forS_ap, iEnum_ap, vS_ap]
  have q0 : slS (S := S) ([Sl.val o.d, Sl.val (wsD ws), Sl.val (.tup (iD l)), Sl.val (.tup (iD ([] : List Int).reverse)), .no, .no] : List Sl)[2]? s = .ok (.tup (iD l)) s := rfl
  rw [q0, bind_okS, seqOf_tup, Option.map_some, ofO_some, thenS_ok, e]
  cases brkK ws 0 (along o.rule l []) with
  | some j => rw [next_ret, endR_ret]; rfl
  | none => rw [next_nxt]; simp [onD]
theorem lawBreak_spec {o : So} {ws : List Tst} {l : List Int} (ok : o.Ok) (hw : WsOk ws) (h : l.length ≤ 1000) (s : S) : F_law_first_break [o.d, wsD ws, .tup (iD l)] s = .ok (onD (brkK ws 0 (along o.rule l []))) s :=
  lawBreak_c h (fun q hq => lawFall_spec ok.ro hq s) fun q hq => lawFailing_spec (lo := 0) hq (by omega) hw.n3 hw.ok s
end
end Wd

set_option maxHeartbeats 0
/-! S6: ends of piles, runs. -/
namespace Wd
open PySem PySem.Spec PyProof.Rows L2 Q
def nextB (cs : List Cl) (q : List Int) : Bool := (first q cs).getD true
def endN (cs : List Cl) : Nat → List Int → List Bool × Int
  | 0, _ => ([], 0)
  | n + 1, q => if q.length ≤ 1 then ([], 0) else (nextB cs q :: (endN cs n (mrg (nextB cs q) q)).1, amt (nextB cs q) q + (endN cs n (mrg (nextB cs q) q)).2)
def ends (cs : List Cl) (q : List Int) : List Bool × Int := endN cs q.length q
theorem nextB_need {cs : List Cl} {q : List Int} (h : 1 < q.length) : need (nextB cs q) ≤ q.length := by
  unfold nextB
  cases e : first q cs with
  | none => simp [need]; omega
  | some b => simpa using first_need e
section
variable {S : Type}
theorem isNon_od (o : Option Bool) : dIs (odD o) .non = some (.bl o.isNone) := by cases o <;> simp [odD, dIs, dis]
theorem od_next (cs : List Cl) (q : List Int) : (if (first q cs).isNone = true then D.str "top" else odD (first q cs)) = .str (dword (nextB cs q)) := by
  unfold nextB
  cases first q cs <;> simp [odD, dword]
abbrev enT : EvT' S := testB (bin dGt (biF bLen (consA (vK 0) nilA)) (kD (.int 1)))
theorem enT_ap {q : List Int} {r : List Sl} {s : S} : enT (S := S) (Sl.val (.tup (iD q.reverse)) :: r) s = .ok (decide (1 < q.length)) s := by
  have : decide ((1 : Int) < q.length) = decide (1 < q.length) := by
    by_cases h : 1 < q.length
    · rw [decide_eq_true h, decide_eq_true (by omega)]
    · rw [decide_eq_false h, decide_eq_false (by omega)]
  simp [this]
abbrev eoB (Ff Fm Fg : FF S) : ExF S := (seqS (relS' [0, 1] (asgS (callF (⟨2, false, Ff⟩ : Fn S) (consA (vC 0) (consA (vC 1) nilA))) (tN 4))) (seqS (ifS (testB (bin dIs (vK 4) (kD .non))) (seqS (asgS (kD (.str "top")) (tN 4)) nextS) nextS) (seqS (relS' [4] (appS 2 (vC 4))) (seqS (relS' [0, 4] (augS 3 .Add (callF (⟨2, false, Fm⟩ : Fn S) (consA (vC 0) (consA (vC 4) nilA))))) (seqS (relS' [0, 4] (asgS (callF (⟨2, false, Fg⟩ : Fn S) (consA (vC 0) (consA (vC 4) nilA))) (tN 0))) nextS)))))
theorem eo_loop {Ff Fm Fg : FF S} {cs : List Cl} {s : S} (hf : ∀ q : List Int, Ff [.tup (iD q.reverse), csD cs] s = .ok (odD (first q cs)) s) (hm : ∀ (q : List Int) (b : Bool), need b ≤ q.length → Fm [.tup (iD q.reverse), .str (dword b)] s = .ok (.int (amt b q)) s) (hg : ∀ (q : List Int) (b : Bool), need b ≤ q.length → q.length ≤ 50000 → Fg [.tup (iD q.reverse), .str (dword b)] s = .ok (.tup (iD (mrg b q).reverse)) s) :
    ∀ (n : Nat) (q : List Int) (ds : List Bool) (c : Int) (x4 : Sl), q.length ≤ n → q.length ≤ 50000 → ds.length + q.length ≤ 60000 → ∃ y0 y4,
      whileGo enT (eoB Ff Fm Fg) (n + 1) [Sl.val (.tup (iD q.reverse)), Sl.val (csD cs), Sl.own (dsD ds), Sl.val (.int c), x4] s
        = .nxt [y0, Sl.val (csD cs), Sl.own (dsD (ds ++ (endN cs n q).1)), Sl.val (.int (c + (endN cs n q).2)), y4] s
  | 0, q, ds, c, x4, hn, hq, hd => by
    have : q = [] := List.eq_nil_of_length_eq_zero (by omega)
    subst this
    refine ⟨Sl.val (.tup []), x4, ?_⟩
    rw [while_succ, enT_ap, thenS_ok, if_neg (by simp)]
    simp [endN]
  | n + 1, q, ds, c, x4, hn, hq, hd => by
    rw [while_succ, enT_ap, thenS_ok]
    by_cases h : 1 < q.length
    · rw [if_pos (by simpa using h)]
      have hb := nextB_need (cs := cs) h
      have he : endN cs (n + 1) q = (nextB cs q :: (endN cs n (mrg (nextB cs q) q)).1, amt (nextB cs q) q + (endN cs n (mrg (nextB cs q) q)).2) := by rw [endN, if_neg (by omega)]
      have hn' := od_next cs q
      rw [he]
      generalize nextB cs q = b at hb hn' ⊢
      have hl := mrg_len b q hb
      obtain ⟨y0, y4, ih⟩ := eo_loop hf hm hg n (mrg b q) (ds ++ [b]) (c + amt b q) (Sl.val (.str (dword b))) (by omega) (by omega) (by simp; omega)
      refine ⟨y0, y4, ?_⟩
      have h0 : relS' (S := S) [0, 1] (asgS (callF (⟨2, false, Ff⟩ : Fn S) (consA (vC 0) (consA (vC 1) nilA))) (tN 4)) [Sl.val (.tup (iD q.reverse)), Sl.val (csD cs), Sl.own (dsD ds), Sl.val (.int c), x4] s = .nxt [Sl.val (.tup (iD q.reverse)), Sl.val (csD cs), Sl.own (dsD ds), Sl.val (.int c), Sl.val (odD (first q cs))] s := by
        simp [relAt_def, hf q]
      have h00 : (ifS (testB (bin dIs (vK 4) (kD .non))) (seqS (asgS (kD (.str "top")) (tN 4)) nextS) nextS : ExF S) [Sl.val (.tup (iD q.reverse)), Sl.val (csD cs), Sl.own (dsD ds), Sl.val (.int c), Sl.val (odD (first q cs))] s = .nxt [Sl.val (.tup (iD q.reverse)), Sl.val (csD cs), Sl.own (dsD ds), Sl.val (.int c), Sl.val (.str (dword b))] s := by
        rw [← hn']
        cases h : first q cs <;> simp [isNon_od]
      have h1 : relS' (S := S) [4] (appS 2 (vC 4)) [Sl.val (.tup (iD q.reverse)), Sl.val (csD cs), Sl.own (dsD ds), Sl.val (.int c), Sl.val (.str (dword b))] s = .nxt [Sl.val (.tup (iD q.reverse)), Sl.val (csD cs), Sl.own (dsD (ds ++ [b])), Sl.val (.int c), Sl.val (.str (dword b))] s := by
        have hz : ds.length < sizeLine := szl (by omega)
        rw [relS_ap]
        simp only [relAll_cons, relAll_nil, relAt_def, List.getElem?_cons_succ, List.getElem?_cons_zero, List.set_cons_succ, List.set_cons_zero, relS_val]
        rw [appS_own (ds := dsD ds) rfl]
        simp [hz, dsD]
      have h2 : relS' (S := S) [0, 4] (augS 3 .Add (callF (⟨2, false, Fm⟩ : Fn S) (consA (vC 0) (consA (vC 4) nilA)))) [Sl.val (.tup (iD q.reverse)), Sl.val (csD cs), Sl.own (dsD (ds ++ [b])), Sl.val (.int c), Sl.val (.str (dword b))] s = .nxt [Sl.val (.tup (iD q.reverse)), Sl.val (csD cs), Sl.own (dsD (ds ++ [b])), Sl.val (.int (c + amt b q)), Sl.val (.str (dword b))] s := by
        have := hm q b hb
        simp [relAt_def, augS, augI, this]
      have h3 : relS' (S := S) [0, 4] (asgS (callF (⟨2, false, Fg⟩ : Fn S) (consA (vC 0) (consA (vC 4) nilA))) (tN 0)) [Sl.val (.tup (iD q.reverse)), Sl.val (csD cs), Sl.own (dsD (ds ++ [b])), Sl.val (.int (c + amt b q)), Sl.val (.str (dword b))] s = .nxt [Sl.val (.tup (iD (mrg b q).reverse)), Sl.val (csD cs), Sl.own (dsD (ds ++ [b])), Sl.val (.int (c + amt b q)), Sl.val (.str (dword b))] s := by
        have := hg q b hb hq
        simp [relAt_def, this]
      have hB : eoB Ff Fm Fg [Sl.val (.tup (iD q.reverse)), Sl.val (csD cs), Sl.own (dsD ds), Sl.val (.int c), x4] s = .nxt [Sl.val (.tup (iD (mrg b q).reverse)), Sl.val (csD cs), Sl.own (dsD (ds ++ [b])), Sl.val (.int (c + amt b q)), Sl.val (.str (dword b))] s := by
        unfold eoB
        rw [seqS_ap, h0, next_nxt, seqS_ap, h00, next_nxt, seqS_ap, h1, next_nxt, seqS_ap, h2, next_nxt, seqS_ap, h3, next_nxt, nextS_ap]
      rw [hB, turn_nxt, ih]
      simp only [List.append_assoc, List.singleton_append]
      rw [Int.add_assoc]
    · rw [if_neg (by simpa using h)]
      refine ⟨Sl.val (.tup (iD q.reverse)), x4, ?_⟩
      rw [endN, if_pos (by omega)]
      simp
theorem endedOf_c {Ff Fm Fg : FF S} {cs : List Cl} {s : S} {q : List Int} (hq : q.length ≤ 50000) (hf : ∀ q : List Int, Ff [.tup (iD q.reverse), csD cs] s = .ok (odD (first q cs)) s) (hm : ∀ (q : List Int) (b : Bool), need b ≤ q.length → Fm [.tup (iD q.reverse), .str (dword b)] s = .ok (.int (amt b q)) s) (hg : ∀ (q : List Int) (b : Bool), need b ≤ q.length → q.length ≤ 50000 → Fg [.tup (iD q.reverse), .str (dword b)] s = .ok (.tup (iD (mrg b q).reverse)) s) :
    endR false (cended_of Ff Fm Fg (q.length + 1) [Sl.val (.tup (iD q.reverse)), Sl.val (csD cs), .no, .no, .no] s) = .ok (.tup [.lst (dsD (ends cs q).1), .int (ends cs q).2]) s := by
  obtain ⟨y0, y4, e⟩ := eo_loop hf hm hg q.length q [] 0 .no (Nat.le_refl _) hq (by simp; omega)
  unfold cended_of
  have a1 : parS (S := S) [(2, true), (3, false)] (consA (lstE nilA) (consA (kD (.int 0)) nilA)) [Sl.val (.tup (iD q.reverse)), Sl.val (csD cs), .no, .no, .no] s = .nxt [Sl.val (.tup (iD q.reverse)), Sl.val (csD cs), .own (dsD []), .val (.int 0), .no] s := by
    simp [parS, asgL, slO, dsD]
  rw [seqS_ap, a1, next_nxt, seqS_ap, e, next_nxt]
  simp [relAt_def, sz, ends]
theorem endedOf_spec {cs : List Cl} (ok : ∀ c ∈ cs, c.Ok) {q : List Int} (hq : q.length ≤ 50000) (s : S) : Fended_of [.tup (iD q.reverse), csD cs] s = .ok (.tup [.lst (dsD (ends cs q).1), .int (ends cs q).2]) s := by
  have h := endedOf_c (S := S) (Ff := Ffirst_deed) (Fm := Famount_of) (Fg := Fmerged) (cs := cs) (s := s) hq (fun q => by have := firstDeed_spec (p := q.reverse) ok s; rwa [List.reverse_reverse] at this) (fun q b h => amount_spec h s) (fun q b h hq => merged_spec h hq s)
  have hw : wfLen [.tup (iD q.reverse), csD cs] = q.length + 1 := by simp [wfLen]
  show endR false (cended_of Ffirst_deed Famount_of Fmerged (wfLen [.tup (iD q.reverse), csD cs]) [Sl.val (.tup (iD q.reverse)), Sl.val (csD cs), .no, .no, .no] s) = _
  rw [hw]
  exact h
/-! ### the law's own end -/
abbrev leB (Fd Fo : FF S) : ExF S := (seqS (relS' [0, 1] (asgS (orV (callF (⟨2, false, Fd⟩ : Fn S) (consA (vC 0) (consA (vC 1) nilA))) (kD (.str "top"))) (tN 4))) (seqS (relS' [4] (appS 2 (vC 4))) (seqS (relS' [0, 4] (asgS (callF (⟨2, false, Fo⟩ : Fn S) (consA (vC 0) (consA (vC 4) nilA))) (gTupD 2 (gsC (tN 0) (gsC (tN 5) gsN))))) (seqS (asgS (bin dAdd (vK 3) (vK 5)) (tN 3)) nextS))))
theorem tru_dword (b : Bool) : dTru (.str (dword b)) = some true := by cases b <;> kernel_rfl
theorem le_loop {Fd Fo : FF S} {cs : List Cl} {s : S} (hf : ∀ q : List Int, Fd [.tup (iD q.reverse), csD cs] s = .ok (odD (first q cs)) s) (hg : ∀ (q : List Int) (b : Bool), need b ≤ q.length → q.length ≤ 40000 → Fo [.tup (iD q.reverse), .str (dword b)] s = .ok (.tup [.tup (iD (mrg b q).reverse), .int (amt b q)]) s) :
    ∀ (n : Nat) (q : List Int) (ds : List Bool) (c : Int) (x4 x5 : Sl), q.length ≤ n → q.length ≤ 40000 → ds.length + q.length ≤ 60000 → ∃ y0 y4 y5,
      whileGo enT (leB Fd Fo) (n + 1) [Sl.val (.tup (iD q.reverse)), Sl.val (csD cs), Sl.own (dsD ds), Sl.val (.int c), x4, x5] s
        = .nxt [y0, Sl.val (csD cs), Sl.own (dsD (ds ++ (endN cs n q).1)), Sl.val (.int (c + (endN cs n q).2)), y4, y5] s
  | 0, q, ds, c, x4, x5, hn, hq, hd => by
    have : q = [] := List.eq_nil_of_length_eq_zero (by omega)
    subst this
    refine ⟨Sl.val (.tup []), x4, x5, ?_⟩
    rw [while_succ, enT_ap, thenS_ok, if_neg (by simp)]
    simp [endN]
  | n + 1, q, ds, c, x4, x5, hn, hq, hd => by
    rw [while_succ, enT_ap, thenS_ok]
    by_cases h : 1 < q.length
    · rw [if_pos (by simpa using h)]
      have hb := nextB_need (cs := cs) h
      have he : endN cs (n + 1) q = (nextB cs q :: (endN cs n (mrg (nextB cs q) q)).1, amt (nextB cs q) q + (endN cs n (mrg (nextB cs q) q)).2) := by rw [endN, if_neg (by omega)]
      have hn' := od_next cs q
      rw [he]
      generalize nextB cs q = b at hb hn' ⊢
      have hl := mrg_len b q hb
      obtain ⟨y0, y4, y5, ih⟩ := le_loop hf hg n (mrg b q) (ds ++ [b]) (c + amt b q) (Sl.val (.str (dword b))) (Sl.val (.int (amt b q))) (by omega) (by omega) (by simp; omega)
      refine ⟨y0, y4, y5, ?_⟩
      have h0 : relS' (S := S) [0, 1] (asgS (orV (callF (⟨2, false, Fd⟩ : Fn S) (consA (vC 0) (consA (vC 1) nilA))) (kD (.str "top"))) (tN 4)) [Sl.val (.tup (iD q.reverse)), Sl.val (csD cs), Sl.own (dsD ds), Sl.val (.int c), x4, x5] s = .nxt [Sl.val (.tup (iD q.reverse)), Sl.val (csD cs), Sl.own (dsD ds), Sl.val (.int c), Sl.val (.str (dword b)), x5] s := by
        rw [← hn']
        have e := hf q
        cases h : first q cs with
        | none => rw [h] at e; simp [relAt_def, e, odD, dTru]
        | some z => rw [h] at e; simp [relAt_def, e, odD, tru_dword]
      have h1 : relS' (S := S) [4] (appS 2 (vC 4)) [Sl.val (.tup (iD q.reverse)), Sl.val (csD cs), Sl.own (dsD ds), Sl.val (.int c), Sl.val (.str (dword b)), x5] s = .nxt [Sl.val (.tup (iD q.reverse)), Sl.val (csD cs), Sl.own (dsD (ds ++ [b])), Sl.val (.int c), Sl.val (.str (dword b)), x5] s := by
        have hz : ds.length < sizeLine := szl (by omega)
        rw [relS_ap]
        simp only [relAll_cons, relAll_nil, relAt_def, List.getElem?_cons_succ, List.getElem?_cons_zero, List.set_cons_succ, List.set_cons_zero, relS_val]
        rw [appS_own (ds := dsD ds) rfl]
        simp [hz, dsD]
      have h2 : relS' (S := S) [0, 4] (asgS (callF (⟨2, false, Fo⟩ : Fn S) (consA (vC 0) (consA (vC 4) nilA))) (gTupD 2 (gsC (tN 0) (gsC (tN 5) gsN)))) [Sl.val (.tup (iD q.reverse)), Sl.val (csD cs), Sl.own (dsD (ds ++ [b])), Sl.val (.int c), Sl.val (.str (dword b)), x5] s = .nxt [Sl.val (.tup (iD (mrg b q).reverse)), Sl.val (csD cs), Sl.own (dsD (ds ++ [b])), Sl.val (.int c), Sl.val (.str (dword b)), Sl.val (.int (amt b q))] s := by
        have := hg q b hb hq
        simp [relAt_def, this]
      have h3 : (asgS (bin dAdd (vK 3) (vK 5)) (tN 3) : ExF S) [Sl.val (.tup (iD (mrg b q).reverse)), Sl.val (csD cs), Sl.own (dsD (ds ++ [b])), Sl.val (.int c), Sl.val (.str (dword b)), Sl.val (.int (amt b q))] s = .nxt [Sl.val (.tup (iD (mrg b q).reverse)), Sl.val (csD cs), Sl.own (dsD (ds ++ [b])), Sl.val (.int (c + amt b q)), Sl.val (.str (dword b)), Sl.val (.int (amt b q))] s := by
        simp
      have hB : leB Fd Fo [Sl.val (.tup (iD q.reverse)), Sl.val (csD cs), Sl.own (dsD ds), Sl.val (.int c), x4, x5] s = .nxt [Sl.val (.tup (iD (mrg b q).reverse)), Sl.val (csD cs), Sl.own (dsD (ds ++ [b])), Sl.val (.int (c + amt b q)), Sl.val (.str (dword b)), Sl.val (.int (amt b q))] s := by
        unfold leB
        rw [seqS_ap, h0, next_nxt, seqS_ap, h1, next_nxt, seqS_ap, h2, next_nxt, seqS_ap, h3, next_nxt, nextS_ap]
      rw [hB, turn_nxt, ih]
      simp only [List.append_assoc, List.singleton_append]
      rw [Int.add_assoc]
    · rw [if_neg (by simpa using h)]
      refine ⟨Sl.val (.tup (iD q.reverse)), x4, x5, ?_⟩
      rw [endN, if_pos (by omega)]
      simp
theorem lawEnd_c {Fd Fo : FF S} {cs : List Cl} {s : S} {q : List Int} (hq : q.length ≤ 40000) (hf : ∀ q : List Int, Fd [.tup (iD q.reverse), csD cs] s = .ok (odD (first q cs)) s) (hg : ∀ (q : List Int) (b : Bool), need b ≤ q.length → q.length ≤ 40000 → Fo [.tup (iD q.reverse), .str (dword b)] s = .ok (.tup [.tup (iD (mrg b q).reverse), .int (amt b q)]) s) :
    endR false (c_law_end Fo Fd (q.length + 1) [Sl.val (.tup (iD q.reverse)), Sl.val (csD cs), .no, .no, .no, .no] s) = .ok (.tup [.tup (dsD (ends cs q).1), .int (ends cs q).2]) s := by
  obtain ⟨y0, y4, y5, e⟩ := le_loop hf hg q.length q [] 0 .no .no (Nat.le_refl _) hq (by simp; omega)
  unfold c_law_end
  have a1 : parS (S := S) [(2, true), (3, false)] (consA (lstE nilA) (consA (kD (.int 0)) nilA)) [Sl.val (.tup (iD q.reverse)), Sl.val (csD cs), .no, .no, .no, .no] s = .nxt [Sl.val (.tup (iD q.reverse)), Sl.val (csD cs), .own (dsD []), .val (.int 0), .no, .no] s := by
    simp [parS, asgL, slO, dsD]
  rw [seqS_ap, a1, next_nxt, seqS_ap, e, next_nxt]
  simp [relAt_def, sz, ends]
theorem lawEnd_spec {cs : List Cl} (ok : ∀ c ∈ cs, c.Ok) {q : List Int} (hq : q.length ≤ 40000) (s : S) : F_law_end [.tup (iD q.reverse), csD cs] s = .ok (.tup [.tup (dsD (ends cs q).1), .int (ends cs q).2]) s := by
  have h := lawEnd_c (S := S) (Fd := F_law_deed) (Fo := F_law_done) (cs := cs) (s := s) hq (fun q => lawDeed_spec ok s) (fun q b h hq => lawDone_spec h hq s)
  have hw : wfLen [.tup (iD q.reverse), csD cs] = q.length + 1 := by simp [wfLen]
  show endR false (c_law_end F_law_done F_law_deed (wfLen [.tup (iD q.reverse), csD cs]) [Sl.val (.tup (iD q.reverse)), Sl.val (csD cs), .no, .no, .no, .no] s) = _
  rw [hw]
  exact h
/-! ### pushes, ends, runs -/
theorem pushed_c {Fo Fp Fl Ff : FF S} {o : So} {q : List Int} {x : Int} {R : List Bool × List Int × Int} {s : S} (hq : q.length ≤ 40000) (e1 : Fo [o.d] s = .ok o.d s) (e2 : Fp [.tup (iD q.reverse)] s = .ok (.tup (iD q.reverse)) s) (e3 : Fl [.tup (iD [x])] s = .ok (.tup (iD [x])) s) (e4 : Ff [.tup (iD (x :: q).reverse), csD o.rule] s = .ok (.tup [pD R, .lst (dsD R.1), .int R.2.2]) s) :
    endR false (cpushed Fo Fp Fl Ff [Sl.val o.d, Sl.val (.tup (iD q.reverse)), Sl.val (.int x), .no, .no, .no] s) = .ok (.tup [pD R, eD R]) s := by
  have er : iD (x :: q).reverse = iD q.reverse ++ [D.int x] := by simp [iD]
  rw [er] at e4
  have hz : q.length + 1 ≤ sizeLine := sz (by omega)
  have i0 : dIx o.d (.int 0) = some (csD o.rule) := by simp [So.d, dIx, at0]
  simp only [iD_cons, iD_nil] at e3
  simp [cpushed, relAt_def, e1, e2, sz, e3, i0, hz, e4, eD]
theorem pushed_spec {o : So} {q : List Int} {x : Int} (ok : o.Ok) (hq : PileOk q.reverse) (hx : 1 ≤ x ∧ x ≤ 1000000000000000000000000000000) (s : S) : Fpushed [o.d, .tup (iD q.reverse), .int x] s = .ok (.tup [pD (fall o.rule (x :: q)), eD (fall o.rule (x :: q))]) s :=
  have hl : q.length ≤ 400 := by have := hq.1; simpa using this
  pushed_c (by omega) (needSo_spec ok s) (needPile_spec hq s) (needRow_spec ⟨by simp, fun y hy => by simp at hy; subst hy; exact hx⟩ s) (fallen_spec ok.ro (by simp; omega) s)
theorem ended_c {Fo Fe Fp : FF S} {o : So} {q : List Int} {ds : List Bool} {c : Int} {s : S} (e1 : Fo [o.d] s = .ok o.d s) (e2 : Fp [.tup (iD q.reverse)] s = .ok (.tup (iD q.reverse)) s) (e3 : Fe [.tup (iD q.reverse), csD o.fin] s = .ok (.tup [.lst (dsD ds), .int c]) s) :
    endR false (cended Fo Fe Fp [Sl.val o.d, Sl.val (.tup (iD q.reverse))] s) = .ok (.tup (dsD ds)) s := by
  have i1 : dIx o.d (.int 1) = some (csD o.fin) := by simp [So.d, dIx, at1]
  have i0 : dIx (.tup [.lst (dsD ds), .int c]) (.int 0) = some (.lst (dsD ds)) := by simp [dIx, at0]
  simp [cended, relAt_def, e1, e2, i1, e3, i0]
theorem ended_spec {o : So} {q : List Int} (ok : o.Ok) (hq : PileOk q.reverse) (s : S) : Fended [o.d, .tup (iD q.reverse)] s = .ok (.tup (dsD (ends o.fin q).1)) s :=
  have hl : q.length ≤ 400 := by have := hq.1; simpa using this
  ended_c (needSo_spec ok s) (needPile_spec hq s) (endedOf_spec ok.fo (by omega) s)
def topOf (rs : List (List Bool × List Int × Int)) : List Int := (rs.getLast?.map fun r => r.2.1).getD []
def runD (o : So) (l : List Int) : D := .tup [.tup ((along o.rule l []).map eD), .tup (dsD (ends o.fin (topOf (along o.rule l []))).1), .int (costs (along o.rule l []) + (ends o.fin (topOf (along o.rule l []))).2)]
/-! equality with the empty list -/
theorem toPyL_iD : ∀ l : List Int, toPyL (iD l) = some (l.map .int)
  | [] => rfl
  | x :: l => by
    have := toPyL_iD l
    simp [toPyL, toPy, this]
theorem toPyL_pD : ∀ rs : List (List Bool × List Int × Int), toPyL (rs.map pD) = some (rs.map fun r => PyData.tuple (r.2.1.reverse.map .int))
  | [] => rfl
  | r :: rs => by
    have := toPyL_pD rs
    simp [toPyL, toPy, this, pD, toPyL_iD]
theorem canLay_ints : ∀ l : List Int, PyData.canLayAll0 (l.map .int) = true
  | [] => rfl
  | x :: l => by
    have := canLay_ints l
    simp [PyData.canLayAll0, PyData.canLay0, this]
theorem depth_ints : ∀ l : List Int, PyData.depthAll (l.map .int) ≤ 1
  | [] => by simp [PyData.depthAll]
  | x :: l => by
    have := depth_ints l
    simp only [List.map_cons, PyData.depthAll, PyData.depth]
    omega
theorem canLay_ps : ∀ rs : List (List Int), PyData.canLayAll0 (rs.map fun r => PyData.tuple (r.map .int)) = true
  | [] => rfl
  | x :: l => by
    have := canLay_ps l
    simp [PyData.canLayAll0, PyData.canLay0, this, canLay_ints]
theorem depth_ps : ∀ rs : List (List Int), PyData.depthAll (rs.map fun r => PyData.tuple (r.map .int)) ≤ 2
  | [] => by simp [PyData.depthAll]
  | x :: l => by
    have := depth_ps l
    have := depth_ints x
    simp only [List.map_cons, PyData.depthAll, PyData.depth]
    omega
theorem shaped_of {ps : List PyData} (hc : PyData.canLayAll0 ps = true) (h1 : (PyData.list ps).depth ≤ 64) : SeqAt.shaped (.list ps) = true := by
  simp [SeqAt.shaped, PyData.canLay0, hc, h1]
theorem dNe_pD (rs : List (List Bool × List Int × Int)) : dNe (.lst (rs.map pD)) (.lst []) = some (.bl (!rs.isEmpty)) := by
  have e : (rs.map fun r => PyData.tuple (r.2.1.reverse.map .int)) = (rs.map fun r => r.2.1.reverse).map fun r => PyData.tuple (r.map .int) := by simp
  have hd := depth_ps (rs.map fun r => r.2.1.reverse)
  have hc := canLay_ps (rs.map fun r => r.2.1.reverse)
  rw [← e] at hd hc
  have h1 : (PyData.list (rs.map fun r => PyData.tuple (r.2.1.reverse.map .int))).depth ≤ 64 := by simp only [PyData.depth]; omega
  have h : SeqAt.shaped (.list (rs.map fun r => PyData.tuple (r.2.1.reverse.map .int))) = true := shaped_of hc h1
  have q : deq (.lst (rs.map pD)) (.lst []) = some rs.isEmpty := by
    simp only [deq, toPy, toPyL_pD, toPyL, Option.map_some, h, shaped_nil, and_self, if_true]
    cases rs <;> rfl
  simp [dNe, q]
theorem at_last : ∀ (l : List D) (d : D), l.getLast? = some d → L2.atI l (-1) = some d := fun l d h => by
  obtain ⟨l', rfl⟩ := List.getLast?_eq_some_iff.mp h
  exact atL1 l' d
theorem run_c {Fo Fl Fg Fe : FF S} {o : So} {l : List Int} {ld : D} {rs : List (List Bool × List Int × Int)} {w : Int} {ds : List Bool} {c : Int} {s : S} (e1 : Fo [o.d] s = .ok o.d s) (e2 : Fl [ld] s = .ok (.tup (iD l)) s) (e3 : Fg [o.d, .tup (iD l)] s = .ok (.tup [.lst (rs.map pD), .lst (rs.map eD), .int w]) s) (e4 : Fe [.tup (iD (topOf rs).reverse), csD o.fin] s = .ok (.tup [.lst (dsD ds), .int c]) s) :
    endR false (crun Fo Fl Fg Fe [Sl.val o.d, Sl.val ld, .no, .no, .no, .no, .no, .no] s) = .ok (.tup [.tup (rs.map eD), .tup (dsD ds), .int (w + c)]) s := by
  have i1 : dIx o.d (.int 1) = some (csD o.fin) := by simp [So.d, dIx, at1]
  have hn := dNe_pD rs
  cases h : rs.getLast? with
  | none =>
    have : rs = [] := List.getLast?_eq_none_iff.mp h
    subst this
    simp [topOf] at e4
    simp at e3 hn
    simp [crun, relAt_def, e1, e2, e3, hn, i1, e4, sz]
  | some r =>
    have h0 : rs.isEmpty = false := by cases rs with
      | nil => simp at h
      | cons _ _ => rfl
    have ht : topOf rs = r.2.1 := by simp [topOf, h]
    rw [ht] at e4
    have il : dIx (.lst (rs.map pD)) (.int (-1)) = some (.tup (iD r.2.1.reverse)) := by
      have := at_last (rs.map pD) (pD r) (by rw [List.getLast?_map, h]; rfl)
      simp [dIx, this, pD]
    rw [h0] at hn
    have e5 : Fl [ld] s = .ok (.tup (iD l)) s := e2
    simp [crun, relAt_def, e1, e5, e3, hn, i1, il, e4, sz]
theorem run_g {o : So} {l : List Int} (ok : o.Ok) (hl : RowOk l) (ld : D) (s : S) (e : Fneed_lengths [ld] s = .ok (.tup (iD l)) s) (ht : (topOf (along o.rule l [])).length ≤ 50000) : Frun [o.d, ld] s = .ok (runD o l) s :=
  run_c (needSo_spec ok s) e (gone_spec ok (by have := hl.1; omega) s) (endedOf_spec ok.fo ht s)
end
end Wd

set_option maxHeartbeats 0
/-! Dr1: numbers that are drawn. -/
namespace Wd
open PySem PySem.Spec PyProof.Rows L2 Q
theorem mul_r {i j : Int} (h1 : -(2 ^ 60) < j) (h2 : j < 2 ^ 60) : dMul (.int i) (.int j) = some (.int (i * j)) := by
  have h : CMul i j ∨ CMulW i j := .inl (.inr ⟨by omega, by omega⟩)
  simp only [dMul]
  rw [if_pos h]
theorem mul_l {i j : Int} (h1 : -(2 ^ 60) < i) (h2 : i < 2 ^ 60) : dMul (.int i) (.int j) = some (.int (i * j)) := by
  have h : CMul i j ∨ CMulW i j := .inl (.inl ⟨by omega, by omega⟩)
  simp only [dMul]
  rw [if_pos h]
theorem mod_p {i j : Int} (h : 0 < j) : dMod (.int i) (.int j) = some (.int (i % j)) := by
  simp only [dMod]
  rw [if_pos h]
def big : Int := 2 ^ 200
theorem log2_le {j : Int} (h0 : 0 < j) (h1 : j < big) : j.natAbs.log2 < 9000 := by
  have e : big = ((2 ^ 200 : Nat) : Int) := by decide +kernel
  have : j.natAbs < 2 ^ 200 := by rw [e] at h1; omega
  have h := (Nat.log2_lt (by omega)).mpr this
  omega
theorem div_p {i j : Int} (h0 : 0 < j) (h1 : j < big) : dDiv (.int i) (.int j) = some (.int (i / j)) := by
  have h : CDivW i j := ⟨h0, log2_le h0 h1⟩
  simp only [dDiv]
  rw [if_pos h]
theorem big_ge : (10 ^ 30 : Int) < big := by decide +kernel
theorem big_lt {j : Int} (h : j ≤ 1000000000000000000000000000000) : j < big := by
  have : (1000000000000000000000000000000 : Int) < big := by decide +kernel
  omega
def mixI (c n : Int) : Int := ((c * (1 + 2 * n) * 48271) % 2147483647 + 7919 * n * n + 104729 * n) * 69621 % 2147483629 / 7
theorem mixed_spec {S : Type} (c n : Int) (h0 : 0 ≤ n) (h1 : n < 2 ^ 50) (s : S) : F_law_mixed [.int c, .int n] s = .ok (.int (mixI c n)) s := by
  show endR false (c_law_mixed [Sl.val (.int c), Sl.val (.int n), .no] s) = _
  have m1 : dMul (.int 2) (.int n) = some (.int (2 * n)) := mul_l (by omega) (by omega)
  have m2 : dMul (.int c) (.int (1 + 2 * n)) = some (.int (c * (1 + 2 * n))) := mul_r (by omega) (by omega)
  have m3 : ∀ i : Int, dMul (.int i) (.int 48271) = some (.int (i * 48271)) := fun i => mul_r (by omega) (by omega)
  have m4 : dMul (.int 7919) (.int n) = some (.int (7919 * n)) := mul_l (by omega) (by omega)
  have m5 : ∀ i : Int, dMul (.int i) (.int n) = some (.int (i * n)) := fun i => mul_r (by omega) (by omega)
  have m6 : dMul (.int 104729) (.int n) = some (.int (104729 * n)) := mul_l (by omega) (by omega)
  have m7 : ∀ i : Int, dMul (.int i) (.int 69621) = some (.int (i * 69621)) := fun i => mul_r (by omega) (by omega)
  have m8 : ∀ i : Int, dMod (.int i) (.int 2147483647) = some (.int (i % 2147483647)) := fun i => mod_p (by omega)
  have m9 : ∀ i : Int, dMod (.int i) (.int 2147483629) = some (.int (i % 2147483629)) := fun i => mod_p (by omega)
  have m10 : ∀ i : Int, dDiv (.int i) (.int 7) = some (.int (i / 7)) := fun i => div_p (by omega) (big_lt (by omega))
  simp [c_law_mixed, m1, m2, m3, m4, m5, m6, m7, m8, m9, m10, mixI]
theorem s_gs : ¬ ((Str.ofString "great") = Str.ofString "spot") := by decide
theorem s_cs : ¬ ((Str.ofString "cells") = Str.ofString "spot") := by decide
theorem s_cg : ¬ ((Str.ofString "cells") = Str.ofString "great") := by decide
theorem at_int {l : List Int} {i : Int} (h0 : 0 ≤ i) (h1 : i < l.length) : L2.atI l i = some (l.getD i.toNat 0) := by
  have hi : i.toNat < l.length := by omega
  unfold L2.atI ixN
  simp [h0, h1, List.getD, List.getElem?_eq_getElem hi]
theorem ixN_nat {n : Nat} {i : Int} (h0 : 0 ≤ i) (h1 : i < n) : ixN n i = some i.toNat := by
  unfold ixN
  simp [h0, h1]
theorem great_eq (l : List Int) : deq (.lst (l.map .int)) (.lst []) = some l.isEmpty := deq_nil l
def dTail (a : Ad) (Fm : FF Dw) : ExF Dw := (seqS (asgS (mgetE a 0 "cells") (tN 3)) (seqS (relS' [2] (retV true (bin dMod (biF bInt (consA (callF (⟨2, false, Fm⟩ : Fn Dw) (consA (callF (⟨2, false, Fm⟩ : Fn Dw) (consA (bin dAdd (lixE a 3 (bin dMod (biF bInt (consA (vK 2) nilA)) (kD (.int 64)))) (bin dMul (kD (.int 31)) (bin dDiv (vK 2) (kD (.int 64))))) (consA (vC 2) nilA))) (consA (bin dAdd (vK 2) (kD (.int 7))) nilA))) nilA)) (vK 1)))) nextS))
theorem tail_c {Fm : FF Dw} (hm : ∀ c n s, 0 ≤ n → n < 2 ^ 50 → Fm [.int c, .int n] s = .ok (.int (mixI c n)) s) {a : Ad} (hac : a.c ≠ a.g) {s : Dw} {lim n : Int} (hc : s.cells.length = 64) (h0 : 0 ≤ n) (h1 : n < 2 ^ 49) (l1 : 1 ≤ lim) (x3 x4 x5 : Sl) :
    ∃ r, dTail a Fm [Sl.val (.opq (.ref a.m)), Sl.val (.int lim), Sl.val (.int n), x3, x4, x5] s = .ret true (.int r) s ∧ 0 ≤ r ∧ r < lim := by
  have m1 : dMod (.int n) (.int 64) = some (.int (n % 64)) := mod_p (by omega)
  have m2 : dDiv (.int n) (.int 64) = some (.int (n / 64)) := div_p (by omega) (big_lt (by omega))
  have m3 : ∀ i : Int, dMul (.int 31) (.int i) = some (.int (31 * i)) := fun i => mul_l (by omega) (by omega)
  have m4 : ∀ i : Int, dMod (.int i) (.int lim) = some (.int (i % lim)) := fun i => mod_p (by omega)
  have m5 := at_int (l := s.cells) (i := n % 64) (by omega) (by omega)
  have q1 := fun c s' => hm c n s' h0 (by omega)
  have q2 := fun c s' => hm c (n + 7) s' (by omega) (by omega)
  refine ⟨mixI (mixI (s.cells.getD (n % 64).toNat 0 + 31 * (n / 64)) n) (n + 7) % lim, ?_, Int.emod_nonneg _ (by omega), Int.emod_lt_of_pos _ (by omega)⟩
  simp [dTail, mgetE, lixE, lotOf, s_cs, s_cg, hac, relAt_def, m1, m2, m3, m4, m5, q1, q2]
theorem draw_c {Fm : FF Dw} (hm : ∀ c n s, 0 ≤ n → n < 2 ^ 50 → Fm [.int c, .int n] s = .ok (.int (mixI c n)) s) {a : Ad} (hac : a.c ≠ a.g) {s : Dw} {lim : Int} (hc : s.cells.length = 64) (h0 : 0 ≤ s.spot) (h1 : s.spot < 2 ^ 49) (l1 : 1 ≤ lim) (l2 : lim < big) :
    ∃ r s', endR false (c_law_draw a Fm [Sl.val (.opq (.ref a.m)), Sl.val (.int lim), .no, .no, .no, .no] s) = .ok (.int r) s' ∧ 0 ≤ r ∧ r < lim ∧ s'.cells = s.cells ∧ s'.spot = s.spot + 1 := by
  have step : c_law_draw a Fm [Sl.val (.opq (.ref a.m)), Sl.val (.int lim), .no, .no, .no, .no] s = ((ifS (greatT a 0) (seqS (asgS (mgetE a 0 "great") (tN 3)) (seqS (asgS (bin dMod (biF bInt (consA (vK 2) nilA)) (lenE a 3)) (tN 4)) (seqS (asgS (lixE a 3 (vK 4)) (tN 5)) (seqS (ifS (testB (bin dGt (vK 5) (kD (.int 0)))) (seqS (lputS a 3 (bin dDiv (vK 5) (vK 1)) (vK 4)) (seqS (retV true (bin dMod (biF bInt (consA (vK 5) nilA)) (vK 1))) nextS)) nextS) nextS)))) nextS : ExF Dw) [Sl.val (.opq (.ref a.m)), Sl.val (.int lim), Sl.val (.int s.spot), .no, .no, .no] { s with spot := s.spot + 1 }).next (dTail a Fm) := by
    simp [c_law_draw, mgetE, mputS]
    rfl
  rw [step]
  by_cases hg : s.great = []
  · obtain ⟨r, e, r0, r1⟩ := tail_c hm hac (s := { s with spot := s.spot + 1 }) (n := s.spot) hc h0 h1 l1 .no .no .no
    refine ⟨r, { s with spot := s.spot + 1 }, ?_, r0, r1, rfl, rfl⟩
    have hT : (greatT a 0 [Sl.val (.opq (.ref a.m)), Sl.val (.int lim), Sl.val (.int s.spot), .no, .no, .no] { s with spot := s.spot + 1 }) = .ok false { s with spot := s.spot + 1 } := by
      have z := great_eq s.great
      simp only [greatT, List.getElem?_cons_zero, if_true, z]
      rw [hg]
      rfl
    rw [ifS_ap, hT, thenS_ok, if_neg Bool.false_ne_true, nextS_ap, next_nxt, e, endR_ret]
  · have hgl : 0 < s.great.length := by cases q : s.great with
      | nil => exact absurd q hg
      | cons _ _ => simp
    have hge : s.great.isEmpty = false := by cases q : s.great with
      | nil => exact absurd q hg
      | cons _ _ => rfl
    have m1 : dMod (.int s.spot) (.int (s.great.length : Int)) = some (.int (s.spot % s.great.length)) := mod_p (by omega)
    have hi0 : 0 ≤ s.spot % (s.great.length : Int) := Int.emod_nonneg _ (by omega)
    have hi1 : s.spot % (s.great.length : Int) < s.great.length := Int.emod_lt_of_pos _ (by omega)
    have m2 := at_int (l := s.great) hi0 hi1
    have m3 : ∀ i : Int, dDiv (.int i) (.int lim) = some (.int (i / lim)) := fun i => div_p (by omega) l2
    have m4 : ∀ i : Int, dMod (.int i) (.int lim) = some (.int (i % lim)) := fun i => mod_p (by omega)
    have m5 := ixN_nat hi0 hi1
    generalize hcell : s.great.getD (s.spot % (s.great.length : Int)).toNat 0 = cell at m2
    by_cases hp : 0 < cell
    · refine ⟨cell % lim, { s with spot := s.spot + 1, great := s.great.set (s.spot % (s.great.length : Int)).toNat (cell / lim) }, ?_, Int.emod_nonneg _ (by omega), Int.emod_lt_of_pos _ (by omega), rfl, rfl⟩
      simp [greatT, great_eq, hge, mgetE, lenE, lixE, lotOf, s_gs, m1, m2, hp, lputS, m3, m4, m5]
    · obtain ⟨r, e, r0, r1⟩ := tail_c hm hac (s := { s with spot := s.spot + 1 }) (n := s.spot) hc h0 h1 l1 (Sl.val (.opq (.ref a.g))) (Sl.val (.int (s.spot % s.great.length))) (Sl.val (.int cell))
      refine ⟨r, { s with spot := s.spot + 1 }, ?_, r0, r1, rfl, rfl⟩
      simp [greatT, great_eq, hge, mgetE, lenE, lixE, lotOf, s_gs, m1, m2, hp, e]
/-- the state, drawn from at most B times -/
structure Sk (B : Int) (s : Dw) : Prop where
  cells : s.cells.length = 64
  pos : 0 ≤ s.spot
  le : s.spot ≤ B
theorem Sk.mono {B B' : Int} {s : Dw} (h : Sk B s) (l : B ≤ B') : Sk B' s := ⟨h.cells, h.pos, Int.le_trans h.le l⟩
/-- F draws from m -/
def Draws (F : FF Dw) (m : D) : Prop := ∀ (s : Dw) (B lim : Int), Sk B s → B < 2 ^ 40 → 1 ≤ lim → lim < big → ∃ r s', F [m, .int lim] s = .ok (.int r) s' ∧ 0 ≤ r ∧ r < lim ∧ Sk (B + 1) s'
theorem draws {a : Ad} (hac : a.c ≠ a.g) : Draws (F_law_draw a) (.opq (.ref a.m)) := fun s B lim k hB l1 l2 => by
  obtain ⟨r, s', e, r0, r1, h1, h2⟩ := draw_c (Fm := F_law_mixed) (fun c n s h0 h1 => mixed_spec c n h0 h1 s) hac (s := s) (lim := lim) k.cells k.pos (by have := k.le; omega) l1 l2
  exact ⟨r, s', e, r0, r1, by rw [h1]; exact k.cells, by have := k.pos; omega, by have := k.le; omega⟩
def Ofs (Fo : FF Dw) (m : D) : Prop := ∀ (xs : List D) (s : Dw) (B : Int), 1 ≤ xs.length → xs.length < 1000000 → Sk B s → B < 2 ^ 40 → ∃ x ∈ xs, ∃ s', Fo [m, .lst xs] s = .ok x s' ∧ Sk (B + 1) s'
theorem of_c {Fd : FF Dw} {m : D} (hd : Draws Fd m) {xs : List D} (hx : 1 ≤ xs.length) (hx2 : xs.length < 1000000) {s : Dw} {B : Int} (k : Sk B s) (hB : B < 2 ^ 40) : ∃ x ∈ xs, ∃ s', endR false (c_law_of Fd [Sl.val m, Sl.val (.lst xs)] s) = .ok x s' ∧ Sk (B + 1) s' := by
  obtain ⟨r, s', e, r0, r1, k'⟩ := hd s B (xs.length : Int) k hB (by omega) (big_lt (by omega))
  have hi : r.toNat < xs.length := by omega
  have ex := ix_at (ds := xs) (i := r.toNat) (List.getElem?_eq_getElem hi)
  rw [show ((r.toNat : Nat) : Int) = r by omega] at ex
  exact ⟨xs[r.toNat], List.getElem_mem hi, s', by simp [c_law_of, relAt_def, e, dIx, ex], k'⟩
theorem ofs {a : Ad} (hac : a.c ≠ a.g) : Ofs (F_law_of a) (.opq (.ref a.m)) := fun xs s B h1 h2 k hB => of_c (draws hac) h1 h2 k hB
/-! ### sides (first family) -/
theorem len_insU (x : Int) : ∀ l : List Int, (insU x l).length ≤ l.length + 1
  | [] => by simp [insU]
  | y :: r => by
    have := len_insU x r
    unfold insU
    split
    · simp
    · split <;> simp <;> omega
theorem len_srtU : ∀ l : List Int, (srtU l).length ≤ l.length
  | [] => by simp [srtU]
  | x :: r => by
    have h1 := len_insU x (srtU r)
    have h2 := len_srtU r
    show (insU x (srtU r)).length ≤ _
    simp
    omega
theorem side2_go {Fo : FF Dw} {m : D} (ho : Ofs Fo m) {l : List Int} (h1 : 1 ≤ l.length) (h2 : l.length < 1000) : ∀ (n : Nat) (lo : Int) (s : Dw) (B : Int), Sk B s → B + n < 2 ^ 40 → ∃ xs s', lcGo (tN 2) yesT (callF (⟨2, false, Fo⟩ : Fn Dw) (consA (vC 0) (consA (vC 1) nilA))) [Sl.val m, Sl.val (.lst (iD l)), Sl.no] (rangeD lo n) s = .ok (iD xs) s' ∧ xs.length = n ∧ (∀ x ∈ xs, x ∈ l) ∧ Sk (B + n) s'
  | 0, lo, s, B, k, _ => ⟨[], s, rfl, rfl, by simp, k.mono (by simp)⟩
  | n + 1, lo, s, B, k, hB => by
    obtain ⟨x, hx, s1, e, k1⟩ := ho (iD l) s B (by simpa using h1) (by simp; omega) k (by omega)
    obtain ⟨y, hy, rfl⟩ := mem_iD hx
    obtain ⟨xs, s2, e2, hn, hm, k2⟩ := side2_go ho h1 h2 n (lo + 1) s1 (B + 1) k1 (by omega)
    refine ⟨y :: xs, s2, ?_, by simp [hn], fun z hz => ?_, k2.mono (by omega)⟩
    · rw [rangeD, lcGo_cons (ρ2 := [Sl.val m, Sl.val (.lst (iD l)), Sl.val (.int lo)]) (by simp)]
      simp [e, e2]
    · rcases List.mem_cons.mp hz with rfl | hz
      · exact hy
      · exact hm z hz
def Sides (Fs : FF Dw) (m : D) : Prop := ∀ (l : List Int) (s : Dw) (B : Int), 1 ≤ l.length → l.length < 1000 → Sk B s → B < 2 ^ 39 → ∃ l' s', Fs [m, .lst (iD l)] s = .ok (.tup (iD l')) s' ∧ 1 ≤ l'.length ∧ l'.length ≤ 3 ∧ l'.Pairwise (· < ·) ∧ (∀ x ∈ l', x ∈ l) ∧ Sk (B + 4) s'
theorem side2_c {Fo Fd : FF Dw} {m : D} (ho : Ofs Fo m) (hd : Draws Fd m) {l : List Int} (h1 : 1 ≤ l.length) (h2 : l.length < 1000) {s : Dw} {B : Int} (k : Sk B s) (hB : B < 2 ^ 39) : ∃ l' s', endR false (c_law_side_v2 Fo Fd [Sl.val m, Sl.val (.lst (iD l)), .no] s) = .ok (.tup (iD l')) s' ∧ 1 ≤ l'.length ∧ l'.length ≤ 3 ∧ l'.Pairwise (· < ·) ∧ (∀ x ∈ l', x ∈ l) ∧ Sk (B + 4) s' := by
  obtain ⟨r, s1, e1, r0, r1, k1⟩ := hd s B 4 k (by omega) (by omega) (big_lt (by omega))
  obtain ⟨n, en, n1, n3⟩ : ∃ n : Nat, L2.atI [D.int 1, D.int 1, D.int 2, D.int 3] r = some (.int n) ∧ 1 ≤ n ∧ n ≤ 3 := by
    have : r = 0 ∨ r = 1 ∨ r = 2 ∨ r = 3 := by omega
    rcases this with rfl | rfl | rfl | rfl
    · exact ⟨1, by kernel_rfl, by omega, by omega⟩
    · exact ⟨1, by kernel_rfl, by omega, by omega⟩
    · exact ⟨2, by kernel_rfl, by omega, by omega⟩
    · exact ⟨3, by kernel_rfl, by omega, by omega⟩
  obtain ⟨xs, s2, e2, hn, hm, k2⟩ := side2_go ho h1 h2 n (0 : Nat) s1 (B + 1) k1 (by omega)
  refine ⟨srtU xs, s2, ?_, ?_, ?_, asc_srtU xs, fun x hx => hm x (mem_srtU.mp hx), k2.mono (by omega)⟩
  · have hz4 : 4 ≤ sizeLine := sz (by omega)
    have q0 : iRange1 (S := Dw) (bin dIx (lstE (consA (kD (.int 1)) (consA (kD (.int 1)) (consA (kD (.int 2)) (consA (kD (.int 3)) nilA))))) (callF (⟨2, false, Fd⟩ : Fn Dw) (consA (vC 0) (consA (kD (.int 4)) nilA)))) [Sl.val m, Sl.val (.lst (iD l)), .no] s = .ok (rangeD (0 : Nat) n) s1 :=
      iR1 (s1 := s1) (hi := n) (by simp [hz4, e1, dIx, en]) (by omega)
    have q1 : lcE (S := Dw) (iRange1 (bin dIx (lstE (consA (kD (.int 1)) (consA (kD (.int 1)) (consA (kD (.int 2)) (consA (kD (.int 3)) nilA))))) (callF (⟨2, false, Fd⟩ : Fn Dw) (consA (vC 0) (consA (kD (.int 4)) nilA))))) (tN 2) yesT (callF (⟨2, false, Fo⟩ : Fn Dw) (consA (vC 0) (consA (vC 1) nilA))) [2] [Sl.val m, Sl.val (.lst (iD l)), .no] s = .ok (.lst (iD xs)) s2 := by
      rw [lcE_ap, q0, bind_okS]
      have w : wipeR [Sl.val m, Sl.val (.lst (iD l)), .no] [2] = [Sl.val m, Sl.val (.lst (iD l)), .no] := rfl
      have o : [2].any (ownAt [Sl.val m, Sl.val (.lst (iD l)), .no]) = false := rfl
      rw [o, if_neg (by decide), w, e2, bind_okS, if_pos (sz (by simp; omega))]
    have hs := dSrtU_ints xs (by omega)
    unfold c_law_side_v2
    rw [seqS_ap, relS_ap]
    have r0 : relAll [Sl.val m, Sl.val (.lst (iD l)), .no] [0, 1] = [Sl.val m, Sl.val (.lst (iD l)), .no] := rfl
    rw [r0, retV_ap, biF_ap, consA_ap, ssE_ap, q1, bind_okS, hs, ofO_some, bind_okS, nilA_ap, bind_okS, bind_okS, bTuple_lst, ofO_some, thenS_ok, next_ret, endR_ret]
  · obtain ⟨y, ys, q⟩ : ∃ y ys, xs = y :: ys := by
      cases q : xs with
      | nil => rw [q] at hn; simp at hn; omega
      | cons y ys => exact ⟨y, ys, rfl⟩
    have : y ∈ srtU xs := mem_srtU.mpr (by rw [q]; simp)
    exact List.length_pos_of_mem this
  · have := len_srtU xs
    omega
theorem sides2 {a : Ad} (hac : a.c ≠ a.g) : Sides (F_law_side_v2 a) (.opq (.ref a.m)) := fun l s B h1 h2 k hB => side2_c (ofs hac) (draws hac) h1 h2 k hB
end Wd

set_option maxHeartbeats 0
/-! Dr2: drawn tests, clauses, sorters, wants, rows, piles (first family). -/
namespace Wd
open PySem PySem.Spec PyProof.Rows L2 Q
theorem lr1_apS {S : Type} (f : EvF S) (ρ : List Sl) (s s1 : S) (j : Int) (h : f ρ s = .ok (.int j) s1) : lr1 f ρ s = ofO (lrD 0 j) s1 := by
  unfold lr1
  rw [h]
  rfl
theorem rangeD_eq : ∀ (n : Nat) (lo : Nat), rangeD lo n = iD ((List.range' lo n).map Int.ofNat)
  | 0, _ => rfl
  | n + 1, lo => by
    rw [rangeD, List.range'_succ, List.map_cons, iD_cons]
    have := rangeD_eq n (lo + 1)
    rw [Int.natCast_add] at this
    rw [← this]
    rfl
def isI (p : Int → Bool) : D → Bool
  | .int x => p x
  | _ => false
theorem iD_filter (p : Int → Bool) : ∀ l : List Int, (iD l).filter (isI p) = iD (l.filter p)
  | [] => rfl
  | x :: l => by
    rw [iD_cons, List.filter_cons, List.filter_cons, iD_filter p l]
    show (if p x = true then _ else _) = _
    split <;> rfl
theorem dNotIn_int (x : Int) (l : List Int) : dNotIn (.int x) (.tup (iD l)) = some (.bl (!l.any fun z => z == x)) := by
  have := dIn_int x l
  simp only [dIn, Option.map_eq_some_iff] at this
  obtain ⟨b, h1, h2⟩ := this
  cases h2
  simp [dNotIn, h1]
theorem dEq_nil (l : List Int) : dEq (.lst (iD l)) (.lst []) = some (.bl l.isEmpty) := by
  simp [dEq, deq_nil]
/-- 0, 1, .. up to deep -/
def upTo (deep : Nat) : List Int := (List.range' 0 (deep + 1)).map Int.ofNat
theorem mem_upTo {deep : Nat} {x : Int} : x ∈ upTo deep ↔ 0 ≤ x ∧ x ≤ deep := by
  unfold upTo
  simp only [List.mem_map, List.mem_range'_1]
  constructor
  · rintro ⟨k, hk, rfl⟩; simp; omega
  · rintro ⟨h1, h2⟩
    exact ⟨x.toNat, by omega, by simp; omega⟩
theorem lr_upTo {deep : Nat} (h : deep ≤ 3) : lrD 0 ((deep : Int) + 1) = some (.lst (iD (upTo deep))) := by
  have : deep = 0 ∨ deep = 1 ∨ deep = 2 ∨ deep = 3 := by omega
  rcases this with rfl | rfl | rfl | rfl <;> kernel_rfl
theorem cutFromT (p : List Int) (k : Nat) : dSl (.tup (iD p)) (some (k : Int)) none = some (.tup (iD (p.drop k))) := by
  have h1 : ¬ ((k : Int) < 0) := by omega
  have h2 : (iD p).drop (min k p.length) = iD (p.drop k) := by
    by_cases h : k ≤ p.length
    · rw [Nat.min_eq_left h]; simp [iD]
    · rw [Nat.min_eq_right (by omega), List.drop_eq_nil_of_le (by simp), List.drop_eq_nil_of_le (by omega)]; rfl
  simp only [dSl, Q.cutD, HT.sIx, h1, if_false, Int.toNat_natCast, iD_len, h2]
  rw [List.take_of_length_le (by simp; omega)]
/-- what is parted: left, the rest -/
theorem parts {deep : Nat} (d1 : 1 ≤ deep) {l rest : List Int} {m : D} {s1 : Dw} (hrest : rest = (upTo deep).filter fun x => !l.any fun z => z == x) (hrl : rest.length ≤ 4) (l1 : 1 ≤ l.length) (l3 : l.length ≤ 3) (la : l.Pairwise (· < ·)) (lm : ∀ x ∈ l, x ∈ upTo deep) :
    ∃ l' r' : List Int, (ifS (S := Dw) (testB (bin dEq (vK 3) (lstE nilA))) (seqS (parS [(2, false), (3, false)] (consA (slE (vK 2) (someO (kD (.int 1))) noneO) (consA (lstE (consA (bin dIx (vK 2) (kD (.int 0))) nilA)) nilA))) nextS) nextS) [Sl.val m, Sl.val (.int deep), Sl.val (.tup (iD l)), Sl.val (.lst (iD rest)), .no] s1 = .nxt [Sl.val m, Sl.val (.int deep), Sl.val (.tup (iD l')), Sl.val (.lst (iD r')), .no] s1 ∧ 1 ≤ l'.length ∧ l'.length ≤ 3 ∧ l'.Pairwise (· < ·) ∧ (∀ x ∈ l', x ∈ upTo deep) ∧ (1 ≤ r'.length ∧ r'.length ≤ 4 ∧ ∀ x ∈ r', x ∈ upTo deep) ∧ ∀ x ∈ l', x ∉ r' := by
  have hde := dEq_nil rest
  have hmem : ∀ x, x ∈ rest → x ∈ upTo deep ∧ x ∉ l := fun x hx => by
    rw [hrest] at hx
    obtain ⟨h1, h2⟩ := List.mem_filter.mp hx
    refine ⟨h1, fun h => ?_⟩
    have : (l.any fun z => z == x) = true := List.any_eq_true.mpr ⟨x, h, by simp⟩
    rw [this] at h2
    cases h2
  cases hr : rest.isEmpty with
  | false =>
    rw [hr] at hde
    refine ⟨l, rest, by simp [hde], l1, l3, la, lm, ⟨?_, hrl, fun x hx => (hmem x hx).1⟩, fun x hx hx2 => (hmem x hx2).2 hx⟩
    cases hq : rest with
    | nil => rw [hq] at hr; cases hr
    | cons _ _ => simp
  | true =>
    rw [hr] at hde
    have hn : rest = [] := List.isEmpty_iff.mp hr
    have hall : ∀ x, x ∈ upTo deep → x ∈ l := fun x hx => by
      rw [hrest] at hn
      have h := List.filter_eq_nil_iff.mp hn x hx
      cases ha : (l.any fun z => z == x) with
      | false => rw [ha] at h; exact absurd rfl h
      | true =>
        obtain ⟨z, hz, e⟩ := List.any_eq_true.mp ha
        have : z = x := by simpa using e
        exact this ▸ hz
    clear hrest hmem hn
    cases l with
    | nil => simp at l1
    | cons x l =>
      cases l with
      | nil =>
        have h0 := hall 0 (mem_upTo.mpr ⟨by omega, by omega⟩)
        have h1 := hall 1 (mem_upTo.mpr ⟨by omega, by omega⟩)
        simp at h0 h1
        omega
      | cons y z =>
        obtain ⟨a1, a2⟩ := List.pairwise_cons.mp la
        have hc := cutFromT (x :: y :: z) 1
        refine ⟨y :: z, [x], ?_, by simp, by simp at l3 ⊢; omega, a2, fun w hw => lm w (List.mem_cons_of_mem _ hw), ⟨by simp, by simp, fun w hw => lm w (by simp at hw; simp [hw])⟩, fun w hw hx => ?_⟩
        · simp at hc
          simp [hde, hc, dIx, at0, parS, asgL, slO, sz]
        · simp at hx
          subst hx
          have := a1 w hw
          omega
def Tests (Ft : FF Dw) (m : D) : Prop := ∀ (deep : Nat) (s : Dw) (B : Int), 1 ≤ deep → deep ≤ 3 → Sk B s → B < 2 ^ 38 → ∃ (t : Tst) (s' : Dw), Ft [m, .int deep] s = .ok t.d s' ∧ t.Ok ∧ Sk (B + 10) s'
theorem test_draw {Fs Fd : FF Dw} {m : D} (hs : Sides Fs m) (hd : Draws Fd m) {deep : Nat} (d1 : 1 ≤ deep) (d3 : deep ≤ 3) {s : Dw} {B : Int} (k : Sk B s) (hB : B < 2 ^ 38) : ∃ (t : Tst) (s' : Dw), endR false (c_law_test Fs Fd [Sl.val m, Sl.val (.int deep), .no, .no, .no] s) = .ok t.d s' ∧ t.Ok ∧ Sk (B + 10) s' := by
  have hlen : (upTo deep).length = deep + 1 := by simp [upTo]
  obtain ⟨l, s1, e1, l1, l3, la, lm, k1⟩ := hs (upTo deep) s B (by omega) (by omega) k (by omega)
  have b1 : relS' (S := Dw) [0] (asgS (callF (⟨2, false, Fs⟩ : Fn Dw) (consA (vC 0) (consA (lr1 (bin dAdd (vK 1) (kD (.int 1)))) nilA))) (tN 2)) [Sl.val m, Sl.val (.int deep), .no, .no, .no] s = .nxt [Sl.val m, Sl.val (.int deep), Sl.val (.tup (iD l)), .no, .no] s1 := by
    have hl := lr_upTo d3
    have q := lr1_apS (S := Dw) (bin dAdd (vK 1) (kD (.int 1))) [Sl.val m, Sl.val (.int deep), .no, .no, .no] s s ((deep : Int) + 1) (by simp)
    have hv : vC (S := Dw) 0 [Sl.val m, Sl.val (.int deep), .no, .no, .no] s = .ok m s := rfl
    have hl' : lr1 (S := Dw) (bin dAdd (vK 1) (kD (.int 1))) [Sl.val m, Sl.val (.int deep), .no, .no, .no] s = .ok (.lst (iD (upTo deep))) s := by rw [q, hl, ofO_some]
    have qa : consA (S := Dw) (vC 0) (consA (lr1 (bin dAdd (vK 1) (kD (.int 1)))) nilA) [Sl.val m, Sl.val (.int deep), .no, .no, .no] s = .ok [m, .lst (iD (upTo deep))] s := by rw [consA_ap, hv, bind_okS, consA_ap, hl', bind_okS, nilA_ap, bind_okS, bind_okS]
    have r0 : relAll [Sl.val m, Sl.val (.int deep), .no, .no, .no] [0] = [Sl.val m, Sl.val (.int deep), .no, .no, .no] := rfl
    rw [relS_ap, r0, asgS_ap, callF_ap, qa, bind_okS, if_pos (by rfl), e1, thenS_ok]
    rfl
  -- the rest
  obtain ⟨rest, hrest⟩ : ∃ r, r = (upTo deep).filter fun x => !l.any fun z => z == x := ⟨_, rfl⟩
  have e0 := rangeD_eq (deep + 1) 0
  have key : lcGo (S := Dw) (tN 4) (testB (bin dNotIn (vK 4) (vK 2))) (vC 4) [Sl.val m, Sl.val (.int deep), Sl.val (.tup (iD l)), .no, .no] (rangeD (0 : Nat) (deep + 1)) s1 = .ok (iD rest) s1 := by
    have hm : iD rest = ((rangeD (0 : Nat) (deep + 1)).filter (isI fun x => !l.any fun z => z == x)).map id := by
      rw [List.map_id, e0, iD_filter, hrest]
      rfl
    rw [hm]
    refine lcGo_filter fun d hd => ?_
    rw [e0] at hd
    obtain ⟨x, hx, rfl⟩ := mem_iD hd
    exact ⟨[Sl.val m, Sl.val (.int deep), Sl.val (.tup (iD l)), .no, Sl.val (.int x)], by simp, by simp [dNotIn_int, isI], fun _ => by simp⟩
  have hrl : rest.length ≤ 4 := by
    have := List.length_filter_le (fun x => !l.any fun z => z == x) (upTo deep)
    rw [hrest]
    omega
  have b2 : relS' (S := Dw) [4] (asgS (lcE (iRange1 (bin dAdd (vK 1) (kD (.int 1)))) (tN 4) (testB (bin dNotIn (vK 4) (vK 2))) (vC 4) [4]) (tN 3)) [Sl.val m, Sl.val (.int deep), Sl.val (.tup (iD l)), .no, .no] s1 = .nxt [Sl.val m, Sl.val (.int deep), Sl.val (.tup (iD l)), Sl.val (.lst (iD rest)), .no] s1 := by
    rw [relS_ap]
    have r0 : relAll [Sl.val m, Sl.val (.int deep), Sl.val (.tup (iD l)), .no, .no] [4] = [Sl.val m, Sl.val (.int deep), Sl.val (.tup (iD l)), .no, .no] := rfl
    have q0 : iRange1 (S := Dw) (bin dAdd (vK 1) (kD (.int 1))) [Sl.val m, Sl.val (.int deep), Sl.val (.tup (iD l)), .no, .no] s1 = .ok (rangeD (0 : Nat) (deep + 1)) s1 := iR1 (s1 := s1) (hi := deep + 1) (by simp) (by omega)
    have w : wipeR [Sl.val m, Sl.val (.int deep), Sl.val (.tup (iD l)), .no, .no] [4] = [Sl.val m, Sl.val (.int deep), Sl.val (.tup (iD l)), .no, .no] := rfl
    have o : [4].any (ownAt [Sl.val m, Sl.val (.int deep), Sl.val (.tup (iD l)), .no, .no]) = false := rfl
    rw [r0, asgS_ap, lcE_ap, q0, bind_okS, o, if_neg (by decide), w, key, bind_okS, if_pos (sz (by simp; omega)), thenS_ok]
    rfl
  -- left and rest, parted
  obtain ⟨l', r', e3, p1, p2, p3, p4, p5, p6⟩ := parts (m := m) (s1 := s1) d1 hrest hrl l1 l3 la lm
  obtain ⟨r, s2, e4, r0, r1, k2⟩ := hd s1 (B + 4) 2 k1 (by omega) (by omega) (big_lt (by omega))
  obtain ⟨q, s3, e5, q1, q3, qa, qm, k3⟩ := hs r' s2 (B + 4 + 1) p5.1 (by omega) k2 (by omega)
  obtain ⟨b, eb⟩ : ∃ b, L2.atI [D.str "below", D.str "atmost"] r = some (.str (word b)) := by
    have : r = 0 ∨ r = 1 := by omega
    rcases this with rfl | rfl
    · exact ⟨true, by kernel_rfl⟩
    · exact ⟨false, by kernel_rfl⟩
  have rg : ∀ x, x ∈ upTo deep → 0 ≤ x ∧ x ≤ 3 := fun x hx => by have := mem_upTo.mp hx; omega
  refine ⟨⟨l', b, q⟩, s3, ?_, ⟨⟨p1, p2, fun x hx => rg x (p4 x hx), p3⟩, ⟨q1, q3, fun x hx => rg x (p5.2.2 x (qm x hx)), qa⟩, fun x hx hq => p6 x hx (qm x hq)⟩, k3.mono (by omega)⟩
  unfold c_law_test
  rw [seqS_ap, b1, next_nxt, seqS_ap, b2, next_nxt, seqS_ap, e3, next_nxt]
  simp [relAt_def, sz, e4, dIx, eb, e5, Tst.d]
theorem tests1 {a : Ad} (hac : a.c ≠ a.g) : Tests (F_law_test a) (.opq (.ref a.m)) := fun deep s B d1 d3 k hB => test_draw (sides2 hac) (draws hac) d1 d3 k hB
/-! ### rows -/
theorem row_go {Fd : FF Dw} {m : D} (hd : Draws Fd m) {most : Int} (m1 : 1 ≤ most) (m2 : most ≤ 1000000000000000000000000000000) (a1 a2 : Sl) : ∀ (n : Nat) (lo : Int) (s : Dw) (B : Int), Sk B s → B + 2 * n < 2 ^ 40 → ∃ xs s', lcGo (tN 4) yesT (bin dAdd (kD (.int 1)) (callF (⟨2, false, Fd⟩ : Fn Dw) (consA (vC 0) (consA (bin dIx (vK 3) (callF (⟨2, false, Fd⟩ : Fn Dw) (consA (vC 0) (consA (kD (.int 4)) nilA)))) nilA)))) [Sl.val m, a1, a2, Sl.val (.lst (iD [1, 2, most, 1000000000000000000000000000000])), .no] (rangeD lo n) s = .ok (iD xs) s' ∧ xs.length = n ∧ (∀ x ∈ xs, 1 ≤ x ∧ x ≤ 1000000000000000000000000000000) ∧ Sk (B + 2 * n) s'
  | 0, lo, s, B, k, _ => ⟨[], s, rfl, rfl, by simp, k.mono (by simp)⟩
  | n + 1, lo, s, B, k, hB => by
    obtain ⟨r, s1, e1, r0, r1, k1⟩ := hd s B 4 k (by omega) (by omega) (big_lt (by omega))
    obtain ⟨z, ez, z1, z2⟩ : ∃ z : Int, L2.atI (iD [1, 2, most, 1000000000000000000000000000000]) r = some (.int z) ∧ 1 ≤ z ∧ z ≤ 1000000000000000000000000000000 := by
      refine ⟨_, ix_int (f := [1, 2, most, 1000000000000000000000000000000]) (i := r) r0 (by simpa using r1), ?_⟩
      have : r = 0 ∨ r = 1 ∨ r = 2 ∨ r = 3 := by omega
      rcases this with rfl | rfl | rfl | rfl <;> simp [List.getD] <;> omega
    obtain ⟨y, s2, e2, y0, y1, k2⟩ := hd s1 (B + 1) z k1 (by omega) z1 (big_lt z2)
    obtain ⟨xs, s3, e3, hn, hm, k3⟩ := row_go hd m1 m2 a1 a2 n (lo + 1) s2 (B + 1 + 1) k2 (by omega)
    refine ⟨(1 + y) :: xs, s3, ?_, by simp [hn], fun w hw => ?_, k3.mono (by omega)⟩
    · rw [rangeD, lcGo_cons (ρ2 := [Sl.val m, a1, a2, Sl.val (.lst (iD [1, 2, most, 1000000000000000000000000000000])), Sl.val (.int lo)]) (by simp)]
      simp only [iD_cons, iD_nil] at ez e3
      simp [e1, dIx, ez, e2, e3]
    · rcases List.mem_cons.mp hw with rfl | hw
      · exact ⟨by omega, by omega⟩
      · exact hm w hw
def Rows (Fr : FF Dw) (m : D) : Prop := ∀ (most : Int) (many : Nat) (s : Dw) (B : Int), 1 ≤ most → most ≤ 1000000000000000000000000000000 → many ≤ 400 → Sk B s → B < 2 ^ 38 → ∃ (l : List Int) (s' : Dw), Fr [m, .int most, .int many] s = .ok (.tup (iD l)) s' ∧ l.length ≤ many ∧ (∀ x ∈ l, 1 ≤ x ∧ x ≤ 1000000000000000000000000000000) ∧ Sk (B + 1000) s'
theorem pow30 : dPow (.int 10) (.int 30) = some (.int 1000000000000000000000000000000) := by kernel_rfl
theorem row_draw {Fd : FF Dw} {m : D} (hd : Draws Fd m) {most : Int} (m1 : 1 ≤ most) (m2 : most ≤ 1000000000000000000000000000000) {many : Nat} (hm : many ≤ 400) {s : Dw} {B : Int} (k : Sk B s) (hB : B < 2 ^ 38) : ∃ (l : List Int) (s' : Dw), endR false (c_law_row Fd [Sl.val m, Sl.val (.int most), Sl.val (.int many), .no, .no] s) = .ok (.tup (iD l)) s' ∧ l.length ≤ many ∧ (∀ x ∈ l, 1 ≤ x ∧ x ≤ 1000000000000000000000000000000) ∧ Sk (B + 1000) s' := by
  obtain ⟨r, s1, e1, r0, r1, k1⟩ := hd s B ((many : Int) + 1) k (by omega) (by omega) (big_lt (by omega))
  obtain ⟨xs, s2, e2, hn, hx, k2⟩ := row_go hd m1 m2 (Sl.val (.int most)) (Sl.val (.int many)) r.toNat (0 : Nat) s1 (B + 1) k1 (by omega)
  refine ⟨xs, s2, ?_, by omega, hx, k2.mono (by omega)⟩
  have b1 : relS' (S := Dw) [1] (asgS (lstE (consA (kD (.int 1)) (consA (kD (.int 2)) (consA (vC 1) (consA (bin dPow (kD (.int 10)) (kD (.int 30))) nilA))))) (tN 3)) [Sl.val m, Sl.val (.int most), Sl.val (.int many), .no, .no] s = .nxt [Sl.val m, Sl.val (.int most), Sl.val (.int many), Sl.val (.lst (iD [1, 2, most, 1000000000000000000000000000000])), .no] s := by
    simp [relAt_def, pow30, sz]
  unfold c_law_row
  rw [seqS_ap, b1, next_nxt, seqS_ap, relS_ap]
  have r0' : relAll [Sl.val m, Sl.val (.int most), Sl.val (.int many), Sl.val (.lst (iD [1, 2, most, 1000000000000000000000000000000])), .no] [0] = [Sl.val m, Sl.val (.int most), Sl.val (.int many), Sl.val (.lst (iD [1, 2, most, 1000000000000000000000000000000])), .no] := rfl
  have er : ((r.toNat : Nat) : Int) = r := by omega
  have q0 : iRange1 (S := Dw) (callF (⟨2, false, Fd⟩ : Fn Dw) (consA (vC 0) (consA (bin dAdd (vK 2) (kD (.int 1))) nilA))) [Sl.val m, Sl.val (.int most), Sl.val (.int many), Sl.val (.lst (iD [1, 2, most, 1000000000000000000000000000000])), .no] s = .ok (rangeD (0 : Nat) r.toNat) s1 := iR1 (s1 := s1) (hi := r.toNat) (by rw [er]; simp [e1]) (by omega)
  have w : wipeR [Sl.val m, Sl.val (.int most), Sl.val (.int many), Sl.val (.lst (iD [1, 2, most, 1000000000000000000000000000000])), .no] [4] = [Sl.val m, Sl.val (.int most), Sl.val (.int many), Sl.val (.lst (iD [1, 2, most, 1000000000000000000000000000000])), .no] := rfl
  have o : [4].any (ownAt [Sl.val m, Sl.val (.int most), Sl.val (.int many), Sl.val (.lst (iD [1, 2, most, 1000000000000000000000000000000])), .no]) = false := rfl
  rw [r0', retV_ap, biF_ap, consA_ap, lcE_ap, q0, bind_okS, o, if_neg (by decide), w, e2, bind_okS, if_pos (sz (by simp; omega)), bind_okS, nilA_ap, bind_okS, bind_okS, bTuple_lst, ofO_some, thenS_ok, next_ret, endR_ret]
theorem rows1 {a : Ad} (hac : a.c ≠ a.g) : Rows (F_law_row a) (.opq (.ref a.m)) := fun most many s B m1 m2 hm k hB => row_draw (draws hac) m1 m2 hm k hB
end Wd

set_option maxHeartbeats 0
/-! Tc: how often each length became one with others. -/
namespace Wd
open PySem PySem.Spec PyProof.Rows L2 Q
def nlD (l : List Nat) : List D := l.map fun (n : Nat) => D.int (n : Int)
def lD (t : List (List Nat)) : List D := t.map fun l => .lst (nlD l)
def cD (n : Nat) (f : Nat → Int) : List D := (List.range n).map fun i => .int (f i)
@[simp] theorem nlD_len (l : List Nat) : (nlD l).length = l.length := by simp [nlD]
@[simp] theorem lD_len (l : List (List Nat)) : (lD l).length = l.length := by simp [lD]
@[simp] theorem cD_len (n : Nat) (f : Nat → Int) : (cD n f).length = n := by simp [cD]
structure TS where
  t : List (List Nat)
  f : Nat → Int
def mL : Bool → List (List Nat) → List (List Nat)
  | true, x :: y :: r => (y ++ x) :: r
  | false, x :: y :: z :: r => x :: (z ++ y) :: r
  | _, t => t
def bth : Bool → List (List Nat) → List Nat
  | true, x :: y :: _ => y ++ x
  | false, _ :: y :: z :: _ => z ++ y
  | _, _ => []
def doD (b : Bool) (st : TS) : TS := ⟨mL b st.t, fun i => st.f i + ((bth b st.t).count i : Nat)⟩
def doDs (ds : List Bool) (st : TS) : TS := ds.foldl (fun st b => doD b st) st
def psh (n k : Nat) (st : TS) : TS := if k < n then ⟨[k] :: st.t, st.f⟩ else st
def tGo (n : Nat) : Nat → List (List Bool) → TS → TS
  | _, [], st => st
  | k, ds :: r, st => tGo n (k + 1) r (doDs ds (psh n k st))
def fine : Nat → List Bool → Prop
  | _, [] => True
  | m, b :: r => need b ≤ m ∧ fine (m - 1) r
def fineAll (n : Nat) : Nat → Nat → List (List Bool) → Prop
  | _, _, [] => True
  | k, m, ds :: r => fine (m + if k < n then 1 else 0) ds ∧ fineAll n (k + 1) ((m + if k < n then 1 else 0) - ds.length) r
/-! ### what stays -/
structure Inv' (k n : Nat) (t : List (List Nat)) : Prop where
  fl : t.flatten.length ≤ k
  nd : t.flatten.Nodup
  lt : ∀ i ∈ t.flatten, i < k
  ln : ∀ i ∈ t.flatten, i < n
theorem mL_perm (b : Bool) (t : List (List Nat)) : (mL b t).flatten.Perm t.flatten := by
  cases b with
  | true => match t with
    | [] => exact .refl _
    | [_] => exact .refl _
    | x :: y :: r =>
      simp only [mL, List.flatten_cons, ← List.append_assoc]
      exact (List.perm_append_comm).append_right _
  | false => match t with
    | [] => exact .refl _
    | [_] => exact .refl _
    | [_, _] => exact .refl _
    | x :: y :: z :: r =>
      simp only [mL, List.flatten_cons, ← List.append_assoc]
      refine List.Perm.append_right _ ?_
      rw [List.append_assoc, List.append_assoc]
      exact (List.perm_append_comm).append_left _
theorem Inv'.mL {k n : Nat} {t : List (List Nat)} (h : Inv' k n t) (b : Bool) : Inv' k n (mL b t) :=
  ⟨by rw [(mL_perm b t).length_eq]; exact h.fl, (mL_perm b t).nodup_iff.mpr h.nd, fun i hi => h.lt i ((mL_perm b t).mem_iff.mp hi), fun i hi => h.ln i ((mL_perm b t).mem_iff.mp hi)⟩
theorem Inv'.up {k k' n : Nat} {t : List (List Nat)} (h : Inv' k n t) (hk : k ≤ k') : Inv' k' n t := ⟨Nat.le_trans h.fl hk, h.nd, fun i hi => Nat.lt_of_lt_of_le (h.lt i hi) hk, h.ln⟩
theorem Inv'.push {k n : Nat} {t : List (List Nat)} (h : Inv' k n t) (hk : k < n) : Inv' (k + 1) n ([k] :: t) := by
  refine ⟨by have := h.fl; simp; simpa using this, ?_, fun i hi => ?_, fun i hi => ?_⟩
  · simp only [List.flatten_cons, List.singleton_append, List.nodup_cons]
    exact ⟨fun hm => Nat.lt_irrefl _ (h.lt k hm), h.nd⟩
  · simp only [List.flatten_cons, List.singleton_append, List.mem_cons] at hi
    rcases hi with rfl | hi
    · omega
    · have := h.lt i hi; omega
  · simp only [List.flatten_cons, List.singleton_append, List.mem_cons] at hi
    rcases hi with rfl | hi
    · exact hk
    · exact h.ln i hi
theorem bth_sub (b : Bool) (t : List (List Nat)) : List.Sublist (bth b t) (mL b t).flatten := by
  cases b with
  | true => match t with
    | [] => exact List.nil_sublist _
    | [_] => exact List.nil_sublist _
    | x :: y :: r =>
      simp only [mL, bth, List.flatten_cons]
      exact List.sublist_append_left _ _
  | false => match t with
    | [] => exact List.nil_sublist _
    | [_] => exact List.nil_sublist _
    | [_, _] => exact List.nil_sublist _
    | x :: y :: z :: r =>
      simp only [mL, bth, List.flatten_cons]
      exact (List.sublist_append_left _ _).trans (List.sublist_append_right _ _)
theorem Inv'.both {k n : Nat} {t : List (List Nat)} (h : Inv' k n t) (b : Bool) : (bth b t).length ≤ k ∧ (bth b t).Nodup ∧ ∀ i ∈ bth b t, i < n :=
  ⟨Nat.le_trans (bth_sub b t).length_le (h.mL b).fl, (h.mL b).nd.sublist (bth_sub b t), fun i hi => (h.mL b).ln i ((bth_sub b t).mem hi)⟩
theorem mL_len (b : Bool) (t : List (List Nat)) (h : need b ≤ t.length) : (mL b t).length + 1 = t.length := by
  cases b with
  | true => match t, h with
    | x :: y :: r, _ => simp [mL]
  | false => match t, h with
    | x :: y :: z :: r, _ => simp [mL]
/-! ### the words -/
section
variable {S : Type}
theorem augIt_ap {i n : Nat} {ρ : List Sl} {ds : List D} {fj fe : EvF S} {z a b : Int} {s : S} (h : ρ[i]? = some (.own ds)) (h1 : fj ρ s = .ok (.int z) s) (h2 : ixN ds.length z = some n) (h3 : ds[n]? = some (.int a)) (h4 : fe ρ s = .ok (.int b) s) :
    augItS i .Add fj fe ρ s = .nxt (ρ.set i (.own (ds.set n (.int (a + b))))) s := by
  simp [augItS, h, h1, h2, h3, h4, augI]
theorem setSl_ap {i : Nat} {ρ : List Sl} {ds es : List D} {fe fa fc : EvF S} {a c : Int} {s : S} (h : ρ[i]? = some (.own ds)) (h1 : fe ρ s = .ok (.lst es) s) (h2 : fa ρ s = .ok (.int a) s) (h3 : fc ρ s = .ok (.int c) s) (b1 : 0 ≤ a) (b2 : a ≤ c) (b3 : c ≤ ds.length) (b4 : ds.length + es.length ≤ sizeLine) :
    setSlS i fe fa fc ρ s = .nxt (ρ.set i (.own (ds.take a.toNat ++ es ++ ds.drop c.toNat))) s := by
  simp [setSlS, h, h1, h2, h3, b1, b2, b3, b4]
theorem cD_get {n i : Nat} {f : Nat → Int} (h : i < n) : (cD n f)[i]? = some (.int (f i)) := by
  simp [cD, h]
theorem cD_set {n x : Nat} {f : Nat → Int} {v : Int} : (cD n f).set x (.int v) = cD n (fun i => if i = x then v else f i) := by
  apply List.ext_getElem?
  intro j
  by_cases hj : j < n
  · by_cases hx : x = j
    · subst hx
      rw [List.getElem?_set_self (by simpa using hj), cD_get hj, if_pos rfl]
    · rw [List.getElem?_set_ne hx, cD_get hj, cD_get hj, if_neg (fun e => hx e.symm)]
  · rw [List.getElem?_eq_none (by simp; omega), List.getElem?_eq_none (by simp; omega)]
theorem ix_nat {m j : Nat} (h : j < m) : ixN m (j : Int) = some j := by
  have h1 : (0 : Int) ≤ (j : Int) ∧ (j : Int) < (m : Int) := by omega
  simp [ixN, h1]
abbrev icB : ExF S := seqS (augItS 4 .Add (vK 11) (kD (.int 1))) nextS
theorem inc_loop {a0 a1 a2 a3 a5 a6 a7 a8 a9 a10 : Sl} {n : Nat} {s : S} : ∀ (l : List Nat) (f : Nat → Int) (x : Sl), (∀ i ∈ l, i < n) → ∃ y,
    forGo (tN 11) (icB (S := S)) (nlD l) [a0, a1, a2, a3, Sl.own (cD n f), a5, a6, a7, a8, a9, a10, x] s = .nxt [a0, a1, a2, a3, Sl.own (cD n (fun i => f i + (l.count i : Nat))), a5, a6, a7, a8, a9, a10, y] s
  | [], f, x, _ => ⟨x, by simp [nlD]⟩
  | i :: l, f, x, h => by
    have hi := h i List.mem_cons_self
    obtain ⟨y, ih⟩ := inc_loop (a0 := a0) (a1 := a1) (a2 := a2) (a3 := a3) (a5 := a5) (a6 := a6) (a7 := a7) (a8 := a8) (a9 := a9) (a10 := a10) (n := n) (s := s) l (fun j => if j = i then f i + 1 else f j) (Sl.val (.int i)) fun j hj => h j (List.mem_cons_of_mem _ hj)
    refine ⟨y, ?_⟩
    have e0 : nlD (i :: l) = .int (i : Int) :: nlD l := rfl
    rw [e0, forGo_cons (ρ1 := [a0, a1, a2, a3, Sl.own (cD n f), a5, a6, a7, a8, a9, a10, Sl.val (.int i)]) (by simp)]
    have e1 := augIt_ap (S := S) (i := 4) (ρ := [a0, a1, a2, a3, Sl.own (cD n f), a5, a6, a7, a8, a9, a10, Sl.val (.int i)]) (ds := cD n f) (fj := vK 11) (fe := kD (.int 1)) (z := i) (n := i) (a := f i) (b := 1) (s := s) rfl (by simp) (by rw [cD_len]; exact ix_nat hi) (cD_get hi) (by simp)
    have e2 : icB (S := S) [a0, a1, a2, a3, Sl.own (cD n f), a5, a6, a7, a8, a9, a10, Sl.val (.int i)] s = .nxt [a0, a1, a2, a3, Sl.own (cD n fun j => if j = i then f i + 1 else f j), a5, a6, a7, a8, a9, a10, Sl.val (.int i)] s := by
      unfold icB
      rw [seqS_ap, e1, next_nxt, nextS_ap, cD_set]
      rfl
    rw [e2, turn_nxt, ih]
    have : (fun j => (if j = i then f i + 1 else f j) + ((l.count j : Nat) : Int)) = fun j => f j + (((i :: l).count j : Nat) : Int) := by
      funext j
      rw [List.count_cons]
      by_cases hj : j = i
      · subst hj
        simp
        omega
      · have : (i == j) = false := by simpa using fun e => hj e.symm
        simp [hj, this]
    rw [this]
/-- u and v become one -/
abbrev tdB : ExF S := (seqS (asgS (bin dSub (biF bLen (consA (vK 3) nilA)) (ifE (testB (bin dEq (vK 10) (kD (.str "top")))) (kD (.int 2)) (kD (.int 3)))) (tN 5)) (seqS (setSlS 3 (lstE (consA (bin dAdd (bin dIx (vK 3) (vK 5)) (bin dIx (vK 3) (bin dAdd (vK 5) (kD (.int 1))))) nilA)) (vK 5) (bin dAdd (vK 5) (kD (.int 2)))) (seqS (forS (iSeq (bin dIx (vK 3) (vK 5))) (tN 11) icB) nextS)))
theorem td_core {a0 a1 a2 a5 a6 a7 a8 a9 x : Sl} {n : Nat} {f : Nat → Int} {L R : List D} {u v : List Nat} {b : Bool} {s : S} (hu : u.length + v.length ≤ 10000) (hL : L.length ≤ 10000) (hR : (R.length : Int) = if b = true then 0 else 1) (hn : ∀ i ∈ u ++ v, i < n) :
    ∃ y5 y, tdB (S := S) [a0, a1, a2, Sl.own (L ++ [.lst (nlD u), .lst (nlD v)] ++ R), Sl.own (cD n f), a5, a6, a7, a8, a9, Sl.val (.str (dword b)), x] s = .nxt [a0, a1, a2, Sl.own (L ++ [.lst (nlD (u ++ v))] ++ R), Sl.own (cD n (fun i => f i + ((u ++ v).count i : Nat))), y5, a6, a7, a8, a9, Sl.val (.str (dword b)), y] s := by
  obtain ⟨y, e⟩ := inc_loop (S := S) (a0 := a0) (a1 := a1) (a2 := a2) (a3 := Sl.own (L ++ [.lst (nlD (u ++ v))] ++ R)) (a5 := Sl.val (.int L.length)) (a6 := a6) (a7 := a7) (a8 := a8) (a9 := a9) (a10 := Sl.val (.str (dword b))) (n := n) (s := s) (u ++ v) f x hn
  refine ⟨Sl.val (.int L.length), y, ?_⟩
  have i1 := atP L ([.lst (nlD v)] ++ R) (.lst (nlD u)) L.length rfl
  have i2 := atP (L ++ [.lst (nlD u)]) R (.lst (nlD v)) ((L.length : Int) + 1) (by simp)
  have i3 := atP L R (.lst (nlD (u ++ v))) L.length rfl
  have hadd := addLs (nlD u) (nlD v) (by simp; omega)
  have huv : nlD u ++ nlD v = nlD (u ++ v) := by simp [nlD]
  rw [huv] at hadd
  simp only [List.append_assoc, List.cons_append, List.nil_append] at i1 i2 i3
  have s1 : asgS (S := S) (bin dSub (biF bLen (consA (vK 3) nilA)) (ifE (testB (bin dEq (vK 10) (kD (.str "top")))) (kD (.int 2)) (kD (.int 3)))) (tN 5) [a0, a1, a2, Sl.own (L ++ [.lst (nlD u), .lst (nlD v)] ++ R), Sl.own (cD n f), a5, a6, a7, a8, a9, Sl.val (.str (dword b)), x] s = .nxt [a0, a1, a2, Sl.own (L ++ [.lst (nlD u), .lst (nlD v)] ++ R), Sl.own (cD n f), Sl.val (.int L.length), a6, a7, a8, a9, Sl.val (.str (dword b)), x] s := by
    cases b with
    | true =>
      have : R.length = 0 := by simpa using hR
      have h : ((L.length : Int) + ((R.length : Int) + 1 + 1)) - 2 = L.length := by omega
      simp [eq_top, h]
    | false =>
      have : (R.length : Int) = 1 := by simpa using hR
      have h : ((L.length : Int) + ((R.length : Int) + 1 + 1)) - 3 = L.length := by omega
      simp [eq_top, h]
  have s2 := setSl_ap (S := S) (i := 3) (ρ := [a0, a1, a2, Sl.own (L ++ [.lst (nlD u), .lst (nlD v)] ++ R), Sl.own (cD n f), Sl.val (.int L.length), a6, a7, a8, a9, Sl.val (.str (dword b)), x]) (ds := L ++ [.lst (nlD u), .lst (nlD v)] ++ R) (es := [.lst (nlD (u ++ v))]) (fe := lstE (consA (bin dAdd (bin dIx (vK 3) (vK 5)) (bin dIx (vK 3) (bin dAdd (vK 5) (kD (.int 1))))) nilA)) (fa := vK 5) (fc := bin dAdd (vK 5) (kD (.int 2))) (a := L.length) (c := L.length + 2) (s := s) rfl
    (by simp [dIx, i1, i2, hadd, sz]) (by simp) (by simp) (by omega) (by omega) (by simp only [List.length_append, List.length_cons, List.length_nil]; omega) (by
      have : (R.length : Int) ≤ 1 := by rw [hR]; split <;> omega
      simp only [List.length_append, List.length_cons, List.length_nil]
      exact sz (by omega))
  have t1 : ((L.length : Int)).toNat = L.length := by omega
  have t2 : ((L.length : Int) + 2).toNat = L.length + 2 := by omega
  have t3 : (L ++ [D.lst (nlD u), .lst (nlD v)] ++ R).take L.length = L := by simp
  have t4 : (L ++ [D.lst (nlD u), .lst (nlD v)] ++ R).drop (L.length + 2) = R := by
    have : L.length + 2 = (L ++ [D.lst (nlD u), .lst (nlD v)]).length := by simp
    rw [this, List.drop_left]
  rw [t1, t2, t3, t4] at s2
  unfold tdB
  rw [seqS_ap, s1, next_nxt, seqS_ap, s2, next_nxt, seqS_ap, forS_ap]
  have s3 : iSeq (S := S) (bin dIx (vK 3) (vK 5)) [a0, a1, a2, Sl.own (L ++ [.lst (nlD (u ++ v))] ++ R), Sl.own (cD n f), Sl.val (.int L.length), a6, a7, a8, a9, Sl.val (.str (dword b)), x] s = .ok (nlD (u ++ v)) s := by
    simp [dIx, i3]
  have s2' : ([a0, a1, a2, Sl.own (L ++ [.lst (nlD u), .lst (nlD v)] ++ R), Sl.own (cD n f), Sl.val (.int L.length), a6, a7, a8, a9, Sl.val (.str (dword b)), x] : List Sl).set 3 (Sl.own (L ++ [.lst (nlD (u ++ v))] ++ R)) = [a0, a1, a2, Sl.own (L ++ [.lst (nlD (u ++ v))] ++ R), Sl.own (cD n f), Sl.val (.int L.length), a6, a7, a8, a9, Sl.val (.str (dword b)), x] := rfl
  rw [s2', s3, thenS_ok, e, next_nxt, nextS_ap]
theorem td_turn {a0 a1 a2 a5 a6 a7 a8 a9 x : Sl} {k n : Nat} {st : TS} {b : Bool} {s : S} (hb : need b ≤ st.t.length) (ht : st.t.length ≤ 5000) (hk : k ≤ 5000) (hi : Inv' k n st.t) :
    ∃ y5 y, tdB (S := S) [a0, a1, a2, Sl.own (lD st.t.reverse), Sl.own (cD n st.f), a5, a6, a7, a8, a9, Sl.val (.str (dword b)), x] s = .nxt [a0, a1, a2, Sl.own (lD (doD b st).t.reverse), Sl.own (cD n (doD b st).f), y5, a6, a7, a8, a9, Sl.val (.str (dword b)), y] s := by
  obtain ⟨h1, h2, h3⟩ := hi.both b
  obtain ⟨t, f⟩ := st
  cases b with
  | true => match t, hb with
    | u :: v :: r, _ =>
      simp only [bth, List.length_append] at h1 h2 h3
      simp only [List.length_cons] at ht
      obtain ⟨y5, y, e⟩ := td_core (S := S) (a0 := a0) (a1 := a1) (a2 := a2) (a5 := a5) (a6 := a6) (a7 := a7) (a8 := a8) (a9 := a9) (x := x) (n := n) (f := f) (L := lD r.reverse) (R := []) (u := v) (v := u) (b := true) (s := s) (by omega) (by simp; omega) (by simp) h3
      refine ⟨y5, y, ?_⟩
      have e1 : lD (u :: v :: r).reverse = lD r.reverse ++ [.lst (nlD v), .lst (nlD u)] ++ [] := by simp [lD]
      have e2 : lD (doD true ⟨u :: v :: r, f⟩).t.reverse = lD r.reverse ++ [.lst (nlD (v ++ u))] ++ [] := by simp [lD, doD, mL]
      rw [e1, e2]
      exact e
  | false => match t, hb with
    | w :: u :: v :: r, _ =>
      simp only [bth, List.length_append] at h1 h2 h3
      simp only [List.length_cons] at ht
      obtain ⟨y5, y, e⟩ := td_core (S := S) (a0 := a0) (a1 := a1) (a2 := a2) (a5 := a5) (a6 := a6) (a7 := a7) (a8 := a8) (a9 := a9) (x := x) (n := n) (f := f) (L := lD r.reverse) (R := [.lst (nlD w)]) (u := v) (v := u) (b := false) (s := s) (by omega) (by simp; omega) (by simp) h3
      refine ⟨y5, y, ?_⟩
      have e1 : lD (w :: u :: v :: r).reverse = lD r.reverse ++ [.lst (nlD v), .lst (nlD u)] ++ [.lst (nlD w)] := by simp [lD]
      have e2 : lD (doD false ⟨w :: u :: v :: r, f⟩).t.reverse = lD r.reverse ++ [.lst (nlD (v ++ u))] ++ [.lst (nlD w)] := by simp [lD, doD, mL]
      rw [e1, e2]
      exact e
theorem doD_len {b : Bool} {st : TS} (h : need b ≤ st.t.length) : (doD b st).t.length = st.t.length - 1 := by
  have := mL_len b st.t h
  simp only [doD]
  omega
theorem doDs_inv {k n : Nat} : ∀ {ds : List Bool} {st : TS}, fine st.t.length ds → Inv' k n st.t → Inv' k n (doDs ds st).t ∧ (doDs ds st).t.length = st.t.length - ds.length
  | [], st, _, hi => ⟨hi, by simp [doDs]⟩
  | b :: ds, st, hf, hi => by
    have hl := doD_len hf.1
    have := doDs_inv (ds := ds) (st := doD b st) (by rw [hl]; exact hf.2) (hi.mL b)
    refine ⟨this.1, ?_⟩
    have e : doDs (b :: ds) st = doDs ds (doD b st) := rfl
    rw [e, this.2, hl, List.length_cons]
    omega
theorem td_loop {a0 a1 a2 a6 a7 a8 a9 : Sl} {k n : Nat} {s : S} (hk : k ≤ 5000) : ∀ (ds : List Bool) (st : TS) (x5 x10 x11 : Sl), st.t.length ≤ 5000 → fine st.t.length ds → Inv' k n st.t → ∃ y5 y10 y11,
    forGo (tN 10) (tdB (S := S)) (dsD ds) [a0, a1, a2, Sl.own (lD st.t.reverse), Sl.own (cD n st.f), x5, a6, a7, a8, a9, x10, x11] s = .nxt [a0, a1, a2, Sl.own (lD (doDs ds st).t.reverse), Sl.own (cD n (doDs ds st).f), y5, a6, a7, a8, a9, y10, y11] s
  | [], st, x5, x10, x11, _, _, _ => ⟨x5, x10, x11, by simp [dsD, doDs]⟩
  | b :: ds, st, x5, x10, x11, ht, hf, hi => by
    obtain ⟨z5, z11, e⟩ := td_turn (S := S) (a0 := a0) (a1 := a1) (a2 := a2) (a5 := x5) (a6 := a6) (a7 := a7) (a8 := a8) (a9 := a9) (x := x11) (s := s) hf.1 ht hk hi
    have hl := doD_len hf.1
    obtain ⟨y5, y10, y11, ih⟩ := td_loop (a0 := a0) (a1 := a1) (a2 := a2) (a6 := a6) (a7 := a7) (a8 := a8) (a9 := a9) (s := s) hk ds (doD b st) z5 (Sl.val (.str (dword b))) z11 (by omega) (by rw [hl]; exact hf.2) (hi.mL b)
    refine ⟨y5, y10, y11, ?_⟩
    have e0 : dsD (b :: ds) = .str (dword b) :: dsD ds := rfl
    rw [e0, forGo_cons (ρ1 := [a0, a1, a2, Sl.own (lD st.t.reverse), Sl.own (cD n st.f), x5, a6, a7, a8, a9, Sl.val (.str (dword b)), x11]) (by simp), e, turn_nxt, ih]
    rfl
/-! ### all lengths -/
theorem psh_inv {k n : Nat} {st : TS} (hi : Inv' k n st.t) : Inv' (k + 1) n (psh n k st).t ∧ (psh n k st).t.length = st.t.length + if k < n then 1 else 0 := by
  unfold psh
  by_cases h : k < n
  · rw [if_pos h, if_pos h]
    exact ⟨hi.push h, by simp⟩
  · rw [if_neg h, if_neg h]
    exact ⟨hi.up (by omega), by simp⟩
abbrev otB : ExF S := (seqS (ifS (testB (bin dLt (vK 9) (biF bLen (consA (vK 2) nilA)))) (seqS (relS' [9] (appS 3 (lstE (consA (vC 9) nilA)))) nextS) nextS) (seqS (relS' [7] (forS (iSeq (ifE (testB (bin dLt (vK 9) (biF bLen (consA (vK 2) nilA)))) (bin dIx (vK 6) (vK 9)) (vC 7))) (tN 10) tdB)) nextS))
def esD (dss : List (List Bool)) : List D := dss.map fun ds => .tup (dsD ds)
theorem ot_turn {a0 a1 a8 x5 x10 x11 : Sl} {l : List Int} {dss : List (List Bool)} {last ds : List Bool} {k : Nat} {st : TS} {s : S} (hd : dss.length = l.length) (hg : (dss ++ [last])[k]? = some ds) (hk : k ≤ 4000) (ht : st.t.length ≤ 4000) (hf : fine (psh l.length k st).t.length ds) (hi : Inv' k l.length st.t) : ∃ y5 y10 y11,
    otB (S := S) [a0, a1, Sl.val (.tup (iD l)), Sl.own (lD st.t.reverse), Sl.own (cD l.length st.f), x5, Sl.val (.tup (esD dss)), Sl.val (.tup (dsD last)), a8, Sl.val (.int k), x10, x11] s = .nxt [a0, a1, Sl.val (.tup (iD l)), Sl.own (lD (doDs ds (psh l.length k st)).t.reverse), Sl.own (cD l.length (doDs ds (psh l.length k st)).f), y5, Sl.val (.tup (esD dss)), Sl.val (.tup (dsD last)), a8, Sl.val (.int k), y10, y11] s := by
  obtain ⟨hi', hl'⟩ := psh_inv hi
  obtain ⟨y5, y10, y11, e⟩ := td_loop (S := S) (a0 := a0) (a1 := a1) (a2 := Sl.val (.tup (iD l))) (a6 := Sl.val (.tup (esD dss))) (a7 := Sl.val (.tup (dsD last))) (a8 := a8) (a9 := Sl.val (.int k)) (s := s) (by omega) ds (psh l.length k st) x5 x10 x11 (by rw [hl']; split <;> omega) hf hi'
  refine ⟨y5, y10, y11, ?_⟩
  have p1 : (ifS (testB (bin dLt (vK 9) (biF bLen (consA (vK 2) nilA)))) (seqS (relS' [9] (appS 3 (lstE (consA (vC 9) nilA)))) nextS) nextS : ExF S) [a0, a1, Sl.val (.tup (iD l)), Sl.own (lD st.t.reverse), Sl.own (cD l.length st.f), x5, Sl.val (.tup (esD dss)), Sl.val (.tup (dsD last)), a8, Sl.val (.int k), x10, x11] s = .nxt [a0, a1, Sl.val (.tup (iD l)), Sl.own (lD (psh l.length k st).t.reverse), Sl.own (cD l.length (psh l.length k st).f), x5, Sl.val (.tup (esD dss)), Sl.val (.tup (dsD last)), a8, Sl.val (.int k), x10, x11] s := by
    unfold psh
    by_cases h : k < l.length
    · have h' : (k : Int) < l.length := by omega
      have ea : (seqS (relS' [9] (appS 3 (lstE (consA (vC 9) nilA)))) nextS : ExF S) [a0, a1, Sl.val (.tup (iD l)), Sl.own (lD st.t.reverse), Sl.own (cD l.length st.f), x5, Sl.val (.tup (esD dss)), Sl.val (.tup (dsD last)), a8, Sl.val (.int k), x10, x11] s = .nxt [a0, a1, Sl.val (.tup (iD l)), Sl.own (lD st.t.reverse ++ [.lst [.int k]]), Sl.own (cD l.length st.f), x5, Sl.val (.tup (esD dss)), Sl.val (.tup (dsD last)), a8, Sl.val (.int k), x10, x11] s := by
        have hz : st.t.length < sizeLine := szl (by omega)
        rw [seqS_ap, relS_ap]
        simp only [relAll_cons, relAll_nil, relAt_def, List.getElem?_cons_succ, List.getElem?_cons_zero, List.set_cons_succ, List.set_cons_zero, relS_val]
        rw [appS_own (ds := lD st.t.reverse) rfl]
        simp [hz, sz]
      rw [ifS_ap]
      have et : testB (S := S) (bin dLt (vK 9) (biF bLen (consA (vK 2) nilA))) [a0, a1, Sl.val (.tup (iD l)), Sl.own (lD st.t.reverse), Sl.own (cD l.length st.f), x5, Sl.val (.tup (esD dss)), Sl.val (.tup (dsD last)), a8, Sl.val (.int k), x10, x11] s = .ok true s := by simp [h']
      rw [et, thenS_ok, if_pos rfl, ea, if_pos h]
      have : lD ([k] :: st.t).reverse = lD st.t.reverse ++ [.lst [.int k]] := by simp [lD, nlD]
      rw [this]
    · have h' : ¬ ((k : Int) < l.length) := by omega
      rw [if_neg h]
      simp [h']
  have p2 : iSeq (S := S) (ifE (testB (bin dLt (vK 9) (biF bLen (consA (vK 2) nilA)))) (bin dIx (vK 6) (vK 9)) (vC 7)) [a0, a1, Sl.val (.tup (iD l)), Sl.own (lD (psh l.length k st).t.reverse), Sl.own (cD l.length (psh l.length k st).f), x5, Sl.val (.tup (esD dss)), Sl.val (.tup (dsD last)), a8, Sl.val (.int k), x10, x11] s = .ok (dsD ds) s := by
    by_cases h : k < l.length
    · have h' : (k : Int) < l.length := by omega
      have hg' : (esD dss)[k]? = some (.tup (dsD ds)) := by
        rw [List.getElem?_append_left (by omega)] at hg
        simp [esD, hg]
      have := ix_at hg'
      simp [h', dIx, this]
    · have h' : ¬ ((k : Int) < l.length) := by omega
      have : ds = last := by
        rw [List.getElem?_append_right (by omega)] at hg
        have hk' : k - dss.length = 0 := by
          have := (List.getElem?_eq_some_iff.mp hg).1
          simp at this
          omega
        rw [hk'] at hg
        simpa using hg.symm
      subst this
      simp [h']
  unfold otB
  rw [seqS_ap, p1, next_nxt, seqS_ap, relS_ap]
  have r0 : relAll [a0, a1, Sl.val (.tup (iD l)), Sl.own (lD (psh l.length k st).t.reverse), Sl.own (cD l.length (psh l.length k st).f), x5, Sl.val (.tup (esD dss)), Sl.val (.tup (dsD last)), a8, Sl.val (.int k), x10, x11] [7] = [a0, a1, Sl.val (.tup (iD l)), Sl.own (lD (psh l.length k st).t.reverse), Sl.own (cD l.length (psh l.length k st).f), x5, Sl.val (.tup (esD dss)), Sl.val (.tup (dsD last)), a8, Sl.val (.int k), x10, x11] := rfl
  rw [r0, forS_ap, p2, thenS_ok, e, next_nxt, nextS_ap]
theorem ot_loop {a0 a1 a8 : Sl} {l : List Int} {dss : List (List Bool)} {last : List Bool} {s : S} (hd : dss.length = l.length) (hl : l.length ≤ 2000) : ∀ (r : List (List Bool)) (k : Nat) (st : TS) (x5 x9 x10 x11 : Sl), (dss ++ [last]).drop k = r → k + r.length = l.length + 1 → st.t.length ≤ k → fineAll l.length k st.t.length r → Inv' k l.length st.t → ∃ z3 y5 y9 y10 y11,
    forGo (tN 9) (otB (S := S)) (rangeD (k : Nat) r.length) [a0, a1, Sl.val (.tup (iD l)), Sl.own (lD st.t.reverse), Sl.own (cD l.length st.f), x5, Sl.val (.tup (esD dss)), Sl.val (.tup (dsD last)), a8, x9, x10, x11] s = .nxt [a0, a1, Sl.val (.tup (iD l)), z3, Sl.own (cD l.length (tGo l.length k r st).f), y5, Sl.val (.tup (esD dss)), Sl.val (.tup (dsD last)), a8, y9, y10, y11] s
  | [], k, st, x5, x9, x10, x11, _, _, _, _, _ => ⟨_, x5, x9, x10, x11, rfl⟩
  | ds :: r, k, st, x5, x9, x10, x11, hr, hk, ht, hf, hi => by
    simp only [List.length_cons] at hk
    have hg : (dss ++ [last])[k]? = some ds := by
      have : ((dss ++ [last]).drop k)[0]? = some ds := by rw [hr]; rfl
      rw [List.getElem?_drop] at this
      simpa using this
    have hr' : (dss ++ [last]).drop (k + 1) = r := by
      rw [← List.drop_drop, hr]
      rfl
    obtain ⟨hi1, hl1⟩ := psh_inv hi
    have hf1 : fine (psh l.length k st).t.length ds := by rw [hl1]; exact hf.1
    obtain ⟨hi2, hl2⟩ := doDs_inv hf1 hi1
    obtain ⟨z5, z10, z11, e⟩ := ot_turn (S := S) (a0 := a0) (a1 := a1) (a8 := a8) (x5 := x5) (x10 := x10) (x11 := x11) (s := s) hd hg (by omega) (by omega) hf1 hi
    obtain ⟨z3, y5, y9, y10, y11, ih⟩ := ot_loop (a0 := a0) (a1 := a1) (a8 := a8) (s := s) hd hl r (k + 1) (doDs ds (psh l.length k st)) z5 (Sl.val (.int k)) z10 z11 hr' (by omega) (by rw [hl2, hl1]; split <;> omega) (by rw [hl2, hl1]; exact hf.2) hi2
    refine ⟨z3, y5, y9, y10, y11, ?_⟩
    rw [List.length_cons, rangeD, forGo_cons (ρ1 := [a0, a1, Sl.val (.tup (iD l)), Sl.own (lD st.t.reverse), Sl.own (cD l.length st.f), x5, Sl.val (.tup (esD dss)), Sl.val (.tup (dsD last)), a8, Sl.val (.int k), x10, x11]) (by simp), e, turn_nxt]
    have ec : ((k : Int) + 1) = ((k + 1 : Nat) : Int) := by omega
    rw [ec, ih]
    rfl
end
end Wd

set_option maxHeartbeats 0
/-! Tc2: the law's own count. -/
namespace Wd
open PySem PySem.Spec PyProof.Rows L2 Q
section
variable {S : Type}
theorem cutToL (l r : List D) : dSl (.lst (l ++ r)) none (some (l.length : Int)) = some (.lst l) := by
  have h1 : ¬ ((l.length : Int) < 0) := by omega
  simp [dSl, Q.cutD, HT.sIx, h1]
theorem cutFrL (l r : List D) (k : Int) (hk : k = l.length) : dSl (.lst (l ++ r)) (some k) none = some (.lst r) := by
  subst hk
  have h1 : ¬ ((l.length : Int) < 0) := by omega
  simp [dSl, Q.cutD, HT.sIx, h1]
theorem nlD_iD (l : List Nat) : nlD l = iD (l.map fun (n : Nat) => (n : Int)) := by simp [nlD, iD]
theorem dIn_nat (i : Nat) (w : List Nat) : dIn (.int (i : Int)) (.lst (nlD w)) = some (.bl (decide (i ∈ w))) := by
  have e : dIn (.int (i : Int)) (.lst (nlD w)) = dIn (.int (i : Int)) (.tup (iD (w.map fun (n : Nat) => (n : Int)))) := by rw [nlD_iD]; rfl
  rw [e, dIn_int]
  congr 2
  rw [Bool.eq_iff_iff]
  simp only [List.any_eq_true, List.mem_map, beq_iff_eq, decide_eq_true_eq]
  constructor
  · rintro ⟨z, ⟨a, ha, rfl⟩, hz⟩
    have : a = i := by omega
    exact this ▸ ha
  · intro h
    exact ⟨i, ⟨i, h, rfl⟩, rfl⟩
theorem count_nd {w : List Nat} (h : w.Nodup) (i : Nat) : ((w.count i : Nat) : Int) = if i ∈ w then 1 else 0 := by
  by_cases hm : i ∈ w
  · rw [if_pos hm]
    have h1 := List.nodup_iff_count.mp h i
    have h2 := List.count_pos_iff.mpr hm
    omega
  · rw [if_neg hm, List.count_eq_zero_of_not_mem hm]
    rfl
abbrev ltB : ExF S := (seqS (asgS (bin dSub (biF bLen (consA (vK 3) nilA)) (ifE (testB (bin dEq (vK 7) (kD (.str "top")))) (kD (.int 2)) (kD (.int 3)))) (tN 8)) (seqS (asgS (bin dAdd (bin dIx (vK 3) (vK 8)) (bin dIx (vK 3) (bin dAdd (vK 8) (kD (.int 1))))) (tN 9)) (seqS (relS' [9] (ownS 3 (bin dAdd (bin dAdd (slE (vK 3) noneO (someO (vK 8))) (lstE (consA (vC 9) nilA))) (slE (vK 3) (someO (bin dAdd (vK 8) (kD (.int 2)))) noneO)))) (seqS (asgS (lcE (iRange1 (biF bLen (consA (vK 0) nilA))) (tN 10) yesT (bin dAdd (bin dIx (vK 4) (vK 10)) (biF bInt (consA (bin dIn (vK 10) (vK 9)) nilA))) [10]) (tN 4)) nextS))))
theorem lt_core {a1 a2 a5 a6 x8 x9 : Sl} {l : List Int} {f : Nat → Int} {L R : List D} {u v : List Nat} {b : Bool} {s : S} (hu : u.length + v.length ≤ 10000) (hL : L.length ≤ 10000) (hl : l.length ≤ 10000) (hR : (R.length : Int) = if b = true then 0 else 1) (hn : (u ++ v).Nodup) :
    ∃ y8 y9, ltB (S := S) [Sl.val (.tup (iD l)), a1, a2, Sl.own (L ++ [.lst (nlD u), .lst (nlD v)] ++ R), Sl.val (.lst (cD l.length f)), a5, a6, Sl.val (.str (dword b)), x8, x9, .no] s = .nxt [Sl.val (.tup (iD l)), a1, a2, Sl.own (L ++ [.lst (nlD (u ++ v))] ++ R), Sl.val (.lst (cD l.length (fun i => f i + ((u ++ v).count i : Nat)))), a5, a6, Sl.val (.str (dword b)), y8, y9, .no] s := by
  refine ⟨Sl.val (.int L.length), Sl.val (.lst (nlD (u ++ v))), ?_⟩
  have i1 := atP L ([.lst (nlD v)] ++ R) (.lst (nlD u)) L.length rfl
  have i2 := atP (L ++ [.lst (nlD u)]) R (.lst (nlD v)) ((L.length : Int) + 1) (by simp)
  have hadd := addLs (nlD u) (nlD v) (by simp; omega)
  have huv : nlD u ++ nlD v = nlD (u ++ v) := by simp [nlD]
  rw [huv] at hadd
  have hR1 : (R.length : Int) ≤ 1 := by rw [hR]; split <;> omega
  have c1 := cutToL L ([.lst (nlD u), .lst (nlD v)] ++ R)
  have c2 := cutFrL (L ++ [.lst (nlD u), .lst (nlD v)]) R ((L.length : Int) + 2) (by simp)
  have a1' := addLs L [.lst (nlD (u ++ v))] (by simp; omega)
  have a2' := addLs (L ++ [.lst (nlD (u ++ v))]) R (by simp; omega)
  simp only [List.append_assoc, List.cons_append, List.nil_append] at i1 i2 c1 c2 a1' a2'
  have s1 : asgS (S := S) (bin dSub (biF bLen (consA (vK 3) nilA)) (ifE (testB (bin dEq (vK 7) (kD (.str "top")))) (kD (.int 2)) (kD (.int 3)))) (tN 8) [Sl.val (.tup (iD l)), a1, a2, Sl.own (L ++ [.lst (nlD u), .lst (nlD v)] ++ R), Sl.val (.lst (cD l.length f)), a5, a6, Sl.val (.str (dword b)), x8, x9, .no] s = .nxt [Sl.val (.tup (iD l)), a1, a2, Sl.own (L ++ [.lst (nlD u), .lst (nlD v)] ++ R), Sl.val (.lst (cD l.length f)), a5, a6, Sl.val (.str (dword b)), Sl.val (.int L.length), x9, .no] s := by
    cases b with
    | true =>
      have : R.length = 0 := by simpa using hR
      have h : ((L.length : Int) + ((R.length : Int) + 1 + 1)) - 2 = L.length := by omega
      simp [eq_top, h]
    | false =>
      have : (R.length : Int) = 1 := by simpa using hR
      have h : ((L.length : Int) + ((R.length : Int) + 1 + 1)) - 3 = L.length := by omega
      simp [eq_top, h]
  have s2 : asgS (S := S) (bin dAdd (bin dIx (vK 3) (vK 8)) (bin dIx (vK 3) (bin dAdd (vK 8) (kD (.int 1))))) (tN 9) [Sl.val (.tup (iD l)), a1, a2, Sl.own (L ++ [.lst (nlD u), .lst (nlD v)] ++ R), Sl.val (.lst (cD l.length f)), a5, a6, Sl.val (.str (dword b)), Sl.val (.int L.length), x9, .no] s = .nxt [Sl.val (.tup (iD l)), a1, a2, Sl.own (L ++ [.lst (nlD u), .lst (nlD v)] ++ R), Sl.val (.lst (cD l.length f)), a5, a6, Sl.val (.str (dword b)), Sl.val (.int L.length), Sl.val (.lst (nlD (u ++ v))), .no] s := by
    simp [dIx, i1, i2, hadd]
  have s3 : relS' (S := S) [9] (ownS 3 (bin dAdd (bin dAdd (slE (vK 3) noneO (someO (vK 8))) (lstE (consA (vC 9) nilA))) (slE (vK 3) (someO (bin dAdd (vK 8) (kD (.int 2)))) noneO))) [Sl.val (.tup (iD l)), a1, a2, Sl.own (L ++ [.lst (nlD u), .lst (nlD v)] ++ R), Sl.val (.lst (cD l.length f)), a5, a6, Sl.val (.str (dword b)), Sl.val (.int L.length), Sl.val (.lst (nlD (u ++ v))), .no] s = .nxt [Sl.val (.tup (iD l)), a1, a2, Sl.own (L ++ [.lst (nlD (u ++ v))] ++ R), Sl.val (.lst (cD l.length f)), a5, a6, Sl.val (.str (dword b)), Sl.val (.int L.length), Sl.val (.lst (nlD (u ++ v))), .no] s := by
    simp [relAt_def, c1, c2, sz, a1', a2']
  have key : lcGo (S := S) (tN 10) yesT (bin dAdd (bin dIx (vK 4) (vK 10)) (biF bInt (consA (bin dIn (vK 10) (vK 9)) nilA))) [Sl.val (.tup (iD l)), a1, a2, Sl.own (L ++ [.lst (nlD (u ++ v))] ++ R), Sl.val (.lst (cD l.length f)), a5, a6, Sl.val (.str (dword b)), Sl.val (.int L.length), Sl.val (.lst (nlD (u ++ v))), .no] (rangeD (0 : Nat) l.length) s = .ok (cD l.length (fun i => f i + ((u ++ v).count i : Nat))) s := by
    have hm : cD l.length (fun i => f i + ((u ++ v).count i : Nat)) = (rangeD (0 : Nat) l.length).map (upI fun z => f z.toNat + ((u ++ v).count z.toNat : Nat)) := by
      rw [rangeD_eq, map_upI]
      simp [cD, iD, List.range_eq_range', Function.comp_def]
    rw [hm]
    refine lcGo_map fun d hd => ?_
    rw [rangeD_eq] at hd
    obtain ⟨x, hx, rfl⟩ := mem_iD hd
    rw [List.mem_map] at hx
    obtain ⟨i, hi, rfl⟩ := hx
    have hil : i < l.length := by simp at hi; omega
    refine ⟨[Sl.val (.tup (iD l)), a1, a2, Sl.own (L ++ [.lst (nlD (u ++ v))] ++ R), Sl.val (.lst (cD l.length f)), a5, a6, Sl.val (.str (dword b)), Sl.val (.int L.length), Sl.val (.lst (nlD (u ++ v))), Sl.val (.int (Int.ofNat i))], by simp, by simp, ?_⟩
    have g := ix_at (cD_get (f := f) hil)
    have hd := dIn_nat i (u ++ v)
    have hc := count_nd hn i
    have e1 : dIx (.lst (cD l.length f)) (.int (i : Int)) = some (.int (f i)) := by simp [dIx, g]
    simp only [Int.ofNat_eq_natCast, bin_ap, vK_ap, List.getElem?_cons_succ, List.getElem?_cons_zero, slK_val, bind_okS, e1, ofO_some, biF_ap, consA_ap, nilA_ap, hd, bInt_bl, dAdd_int, upI, Int.toNat_natCast, hc, decide_eq_true_eq]
  have s4 : asgS (S := S) (lcE (iRange1 (biF bLen (consA (vK 0) nilA))) (tN 10) yesT (bin dAdd (bin dIx (vK 4) (vK 10)) (biF bInt (consA (bin dIn (vK 10) (vK 9)) nilA))) [10]) (tN 4) [Sl.val (.tup (iD l)), a1, a2, Sl.own (L ++ [.lst (nlD (u ++ v))] ++ R), Sl.val (.lst (cD l.length f)), a5, a6, Sl.val (.str (dword b)), Sl.val (.int L.length), Sl.val (.lst (nlD (u ++ v))), .no] s = .nxt [Sl.val (.tup (iD l)), a1, a2, Sl.own (L ++ [.lst (nlD (u ++ v))] ++ R), Sl.val (.lst (cD l.length (fun i => f i + ((u ++ v).count i : Nat)))), a5, a6, Sl.val (.str (dword b)), Sl.val (.int L.length), Sl.val (.lst (nlD (u ++ v))), .no] s := by
    have q0 : iRange1 (S := S) (biF bLen (consA (vK 0) nilA)) [Sl.val (.tup (iD l)), a1, a2, Sl.own (L ++ [.lst (nlD (u ++ v))] ++ R), Sl.val (.lst (cD l.length f)), a5, a6, Sl.val (.str (dword b)), Sl.val (.int L.length), Sl.val (.lst (nlD (u ++ v))), .no] s = .ok (rangeD (0 : Nat) l.length) s := iR1 (s1 := s) (hi := l.length) (by simp) (by omega)
    have w : wipeR [Sl.val (.tup (iD l)), a1, a2, Sl.own (L ++ [.lst (nlD (u ++ v))] ++ R), Sl.val (.lst (cD l.length f)), a5, a6, Sl.val (.str (dword b)), Sl.val (.int L.length), Sl.val (.lst (nlD (u ++ v))), .no] [10] = [Sl.val (.tup (iD l)), a1, a2, Sl.own (L ++ [.lst (nlD (u ++ v))] ++ R), Sl.val (.lst (cD l.length f)), a5, a6, Sl.val (.str (dword b)), Sl.val (.int L.length), Sl.val (.lst (nlD (u ++ v))), .no] := rfl
    have o : [10].any (ownAt [Sl.val (.tup (iD l)), a1, a2, Sl.own (L ++ [.lst (nlD (u ++ v))] ++ R), Sl.val (.lst (cD l.length f)), a5, a6, Sl.val (.str (dword b)), Sl.val (.int L.length), Sl.val (.lst (nlD (u ++ v))), .no]) = false := rfl
    rw [asgS_ap, lcE_ap, q0, bind_okS, o, if_neg (by decide), w, key, bind_okS, if_pos (sz (by simp; omega)), thenS_ok]
    rfl
  unfold ltB
  rw [seqS_ap, s1, next_nxt, seqS_ap, s2, next_nxt, seqS_ap, s3, next_nxt, seqS_ap, s4, next_nxt, nextS_ap]
theorem lt_turn {a1 a2 a5 a6 x8 x9 : Sl} {l : List Int} {k : Nat} {st : TS} {b : Bool} {s : S} (hb : need b ≤ st.t.length) (ht : st.t.length ≤ 5000) (hk : k ≤ 5000) (hl : l.length ≤ 5000) (hi : Inv' k l.length st.t) :
    ∃ y8 y9, ltB (S := S) [Sl.val (.tup (iD l)), a1, a2, Sl.own (lD st.t.reverse), Sl.val (.lst (cD l.length st.f)), a5, a6, Sl.val (.str (dword b)), x8, x9, .no] s = .nxt [Sl.val (.tup (iD l)), a1, a2, Sl.own (lD (doD b st).t.reverse), Sl.val (.lst (cD l.length (doD b st).f)), a5, a6, Sl.val (.str (dword b)), y8, y9, .no] s := by
  obtain ⟨h1, h2, h3⟩ := hi.both b
  obtain ⟨t, f⟩ := st
  cases b with
  | true => match t, hb with
    | u :: v :: r, _ =>
      simp only [bth, List.length_append] at h1 h2 h3
      simp only [List.length_cons] at ht
      obtain ⟨y5, y, e⟩ := lt_core (S := S) (a1 := a1) (a2 := a2) (a5 := a5) (a6 := a6) (x8 := x8) (x9 := x9) (l := l) (f := f) (L := lD r.reverse) (R := []) (u := v) (v := u) (b := true) (s := s) (by omega) (by simp; omega) (by omega) (by simp) h2
      refine ⟨y5, y, ?_⟩
      have e1 : lD (u :: v :: r).reverse = lD r.reverse ++ [.lst (nlD v), .lst (nlD u)] ++ [] := by simp [lD]
      have e2 : lD (doD true ⟨u :: v :: r, f⟩).t.reverse = lD r.reverse ++ [.lst (nlD (v ++ u))] ++ [] := by simp [lD, doD, mL]
      rw [e1, e2]
      exact e
  | false => match t, hb with
    | w :: u :: v :: r, _ =>
      simp only [bth, List.length_append] at h1 h2 h3
      simp only [List.length_cons] at ht
      obtain ⟨y5, y, e⟩ := lt_core (S := S) (a1 := a1) (a2 := a2) (a5 := a5) (a6 := a6) (x8 := x8) (x9 := x9) (l := l) (f := f) (L := lD r.reverse) (R := [.lst (nlD w)]) (u := v) (v := u) (b := false) (s := s) (by omega) (by simp; omega) (by omega) (by simp) h2
      refine ⟨y5, y, ?_⟩
      have e1 : lD (w :: u :: v :: r).reverse = lD r.reverse ++ [.lst (nlD v), .lst (nlD u)] ++ [.lst (nlD w)] := by simp [lD]
      have e2 : lD (doD false ⟨w :: u :: v :: r, f⟩).t.reverse = lD r.reverse ++ [.lst (nlD (v ++ u))] ++ [.lst (nlD w)] := by simp [lD, doD, mL]
      rw [e1, e2]
      exact e
theorem lt_loop {a1 a2 a5 a6 : Sl} {l : List Int} {k : Nat} {s : S} (hk : k ≤ 5000) (hl : l.length ≤ 5000) : ∀ (ds : List Bool) (st : TS) (x7 x8 x9 : Sl), st.t.length ≤ 5000 → fine st.t.length ds → Inv' k l.length st.t → ∃ y7 y8 y9,
    forGo (tN 7) (ltB (S := S)) (dsD ds) [Sl.val (.tup (iD l)), a1, a2, Sl.own (lD st.t.reverse), Sl.val (.lst (cD l.length st.f)), a5, a6, x7, x8, x9, .no] s = .nxt [Sl.val (.tup (iD l)), a1, a2, Sl.own (lD (doDs ds st).t.reverse), Sl.val (.lst (cD l.length (doDs ds st).f)), a5, a6, y7, y8, y9, .no] s
  | [], st, x7, x8, x9, _, _, _ => ⟨x7, x8, x9, by simp [dsD, doDs]⟩
  | b :: ds, st, x7, x8, x9, ht, hf, hi => by
    obtain ⟨z8, z9, e⟩ := lt_turn (S := S) (a1 := a1) (a2 := a2) (a5 := a5) (a6 := a6) (x8 := x8) (x9 := x9) (s := s) hf.1 ht hk hl hi
    have hl' := doD_len hf.1
    obtain ⟨y7, y8, y9, ih⟩ := lt_loop (a1 := a1) (a2 := a2) (a5 := a5) (a6 := a6) (s := s) hk hl ds (doD b st) (Sl.val (.str (dword b))) z8 z9 (by omega) (by rw [hl']; exact hf.2) (hi.mL b)
    refine ⟨y7, y8, y9, ?_⟩
    have e0 : dsD (b :: ds) = .str (dword b) :: dsD ds := rfl
    rw [e0, forGo_cons (ρ1 := [Sl.val (.tup (iD l)), a1, a2, Sl.own (lD st.t.reverse), Sl.val (.lst (cD l.length st.f)), a5, a6, Sl.val (.str (dword b)), x8, x9, .no]) (by simp), e, turn_nxt, ih]
    rfl
abbrev loB : ExF S := (seqS (ifS (testB (bin dLt (vK 5) (biF bLen (consA (vK 0) nilA)))) (seqS (relS' [5] (appS 3 (lstE (consA (vC 5) nilA)))) nextS) nextS) (seqS (lockS [6] (forS (iSeq (vS 6)) (tN 7) ltB)) nextS))
theorem lo_turn {a1 a2 x7 x8 x9 : Sl} {l : List Int} {ds : List Bool} {k : Nat} {st : TS} {s : S} (hk : k ≤ 4000) (hl : l.length ≤ 4000) (ht : st.t.length ≤ 4000) (hf : fine (psh l.length k st).t.length ds) (hi : Inv' k l.length st.t) : ∃ y7 y8 y9,
    loB (S := S) [Sl.val (.tup (iD l)), a1, a2, Sl.own (lD st.t.reverse), Sl.val (.lst (cD l.length st.f)), Sl.val (.int k), Sl.val (.tup (dsD ds)), x7, x8, x9, .no] s = .nxt [Sl.val (.tup (iD l)), a1, a2, Sl.own (lD (doDs ds (psh l.length k st)).t.reverse), Sl.val (.lst (cD l.length (doDs ds (psh l.length k st)).f)), Sl.val (.int k), Sl.val (.tup (dsD ds)), y7, y8, y9, .no] s := by
  obtain ⟨hi', hl'⟩ := psh_inv hi
  obtain ⟨y7, y8, y9, e⟩ := lt_loop (S := S) (a1 := a1) (a2 := a2) (a5 := Sl.val (.int k)) (a6 := Sl.val (.tup (dsD ds))) (s := s) (k := k + 1) (by omega) (by omega) ds (psh l.length k st) x7 x8 x9 (by rw [hl']; split <;> omega) hf hi'
  refine ⟨y7, y8, y9, ?_⟩
  have p1 : (ifS (testB (bin dLt (vK 5) (biF bLen (consA (vK 0) nilA)))) (seqS (relS' [5] (appS 3 (lstE (consA (vC 5) nilA)))) nextS) nextS : ExF S) [Sl.val (.tup (iD l)), a1, a2, Sl.own (lD st.t.reverse), Sl.val (.lst (cD l.length st.f)), Sl.val (.int k), Sl.val (.tup (dsD ds)), x7, x8, x9, .no] s = .nxt [Sl.val (.tup (iD l)), a1, a2, Sl.own (lD (psh l.length k st).t.reverse), Sl.val (.lst (cD l.length (psh l.length k st).f)), Sl.val (.int k), Sl.val (.tup (dsD ds)), x7, x8, x9, .no] s := by
    unfold psh
    by_cases h : k < l.length
    · have h' : (k : Int) < l.length := by omega
      have ea : (seqS (relS' [5] (appS 3 (lstE (consA (vC 5) nilA)))) nextS : ExF S) [Sl.val (.tup (iD l)), a1, a2, Sl.own (lD st.t.reverse), Sl.val (.lst (cD l.length st.f)), Sl.val (.int k), Sl.val (.tup (dsD ds)), x7, x8, x9, .no] s = .nxt [Sl.val (.tup (iD l)), a1, a2, Sl.own (lD st.t.reverse ++ [.lst [.int k]]), Sl.val (.lst (cD l.length st.f)), Sl.val (.int k), Sl.val (.tup (dsD ds)), x7, x8, x9, .no] s := by
        have hz : st.t.length < sizeLine := szl (by omega)
        rw [seqS_ap, relS_ap]
        simp only [relAll_cons, relAll_nil, relAt_def, List.getElem?_cons_succ, List.getElem?_cons_zero, List.set_cons_succ, List.set_cons_zero, relS_val]
        rw [appS_own (ds := lD st.t.reverse) rfl]
        simp [hz, sz]
      rw [ifS_ap]
      have et : testB (S := S) (bin dLt (vK 5) (biF bLen (consA (vK 0) nilA))) [Sl.val (.tup (iD l)), a1, a2, Sl.own (lD st.t.reverse), Sl.val (.lst (cD l.length st.f)), Sl.val (.int k), Sl.val (.tup (dsD ds)), x7, x8, x9, .no] s = .ok true s := by simp [h']
      rw [et, thenS_ok, if_pos rfl, ea, if_pos h]
      have : lD ([k] :: st.t).reverse = lD st.t.reverse ++ [.lst [.int k]] := by simp [lD, nlD]
      rw [this]
    · have h' : ¬ ((k : Int) < l.length) := by omega
      rw [if_neg h]
      simp [h']
  unfold loB
  rw [seqS_ap, p1, next_nxt, seqS_ap, lockS_cons, lockS_nil, lock1_val (d := .tup (dsD ds)) rfl, forS_ap, iSeq_ap, vS_ap]
  have q0 : slS (S := S) ([Sl.val (.tup (iD l)), a1, a2, Sl.own (lD (psh l.length k st).t.reverse), Sl.val (.lst (cD l.length (psh l.length k st).f)), Sl.val (.int k), Sl.val (.tup (dsD ds)), x7, x8, x9, .no] : List Sl)[6]? s = .ok (.tup (dsD ds)) s := rfl
  rw [q0, bind_okS, itemsOf_tup, ofO_some, thenS_ok, e, next_nxt, nextS_ap]
theorem lo_loop {a1 a2 : Sl} {l : List Int} {s : S} (hl : l.length ≤ 2000) : ∀ (r : List (List Bool)) (k : Nat) (st : TS) (x5 x6 x7 x8 x9 : Sl), k + r.length ≤ l.length + 1 → st.t.length ≤ k → fineAll l.length k st.t.length r → Inv' k l.length st.t → ∃ z3 y5 y6 y7 y8 y9,
    forGo (gTupD 2 (gsC (tN 5) (gsC (tN 6) gsN))) (loB (S := S)) (enumFrom k (esD r)) [Sl.val (.tup (iD l)), a1, a2, Sl.own (lD st.t.reverse), Sl.val (.lst (cD l.length st.f)), x5, x6, x7, x8, x9, .no] s = .nxt [Sl.val (.tup (iD l)), a1, a2, z3, Sl.val (.lst (cD l.length (tGo l.length k r st).f)), y5, y6, y7, y8, y9, .no] s
  | [], k, st, x5, x6, x7, x8, x9, _, _, _, _ => ⟨_, x5, x6, x7, x8, x9, rfl⟩
  | ds :: r, k, st, x5, x6, x7, x8, x9, hk, ht, hf, hi => by
    simp only [List.length_cons] at hk
    obtain ⟨hi1, hl1⟩ := psh_inv hi
    have hf1 : fine (psh l.length k st).t.length ds := by rw [hl1]; exact hf.1
    obtain ⟨hi2, hl2⟩ := doDs_inv hf1 hi1
    obtain ⟨z7, z8, z9, e⟩ := lo_turn (S := S) (a1 := a1) (a2 := a2) (x7 := x7) (x8 := x8) (x9 := x9) (s := s) (by omega) (by omega) (by omega) hf1 hi
    obtain ⟨z3, y5, y6, y7, y8, y9, ih⟩ := lo_loop (a1 := a1) (a2 := a2) (s := s) hl r (k + 1) (doDs ds (psh l.length k st)) (Sl.val (.int k)) (Sl.val (.tup (dsD ds))) z7 z8 z9 (by omega) (by rw [hl2, hl1]; split <;> omega) (by rw [hl2, hl1]; exact hf.2) hi2
    refine ⟨z3, y5, y6, y7, y8, y9, ?_⟩
    have e0 : esD (ds :: r) = .tup (dsD ds) :: esD r := rfl
    rw [e0, enumFrom, forGo_cons (ρ1 := [Sl.val (.tup (iD l)), a1, a2, Sl.own (lD st.t.reverse), Sl.val (.lst (cD l.length st.f)), Sl.val (.int k), Sl.val (.tup (dsD ds)), x7, x8, x9, .no]) (by simp), e, turn_nxt, ih]
    rfl
end
end Wd

set_option maxHeartbeats 0
/-! Tc3: runs, costs, depths, counts: what the program and the law tell. -/
namespace Wd
open PySem PySem.Spec PyProof.Rows L2 Q
theorem fallN_fine (cs : List Cl) : ∀ (n : Nat) (q : List Int), fine q.length (fallN cs n q).1
  | 0, q => by simp [fallN, fine]
  | n + 1, q => by
    unfold fallN
    cases e : first q cs with
    | none => simp [fine]
    | some b =>
      have h1 := mrg_len b q (first_need e)
      have h2 := fallN_fine cs n (mrg b q)
      refine ⟨first_need e, ?_⟩
      have : q.length - 1 = (mrg b q).length := by omega
      rw [this]
      exact h2
theorem fall_fine (cs : List Cl) (q : List Int) : fine q.length (fall cs q).1 := fallN_fine cs q.length q
theorem endN_fine (cs : List Cl) : ∀ (n : Nat) (q : List Int), fine q.length (endN cs n q).1
  | 0, q => by simp [endN, fine]
  | n + 1, q => by
    unfold endN
    by_cases h : q.length ≤ 1
    · rw [if_pos h]; simp [fine]
    · rw [if_neg h]
      have hb := nextB_need (cs := cs) (q := q) (by omega)
      have h1 := mrg_len _ q hb
      have h2 := endN_fine cs n (mrg (nextB cs q) q)
      refine ⟨hb, ?_⟩
      have : q.length - 1 = (mrg (nextB cs q) q).length := by omega
      rw [this]
      exact h2
theorem ends_fine (cs : List Cl) (q : List Int) : fine q.length (ends cs q).1 := endN_fine cs q.length q
/-- the pile behind all lengths -/
def lastP (cs : List Cl) : List Int → List Int → List Int
  | [], q => q
  | x :: l, q => lastP cs l (fall cs (x :: q)).2.1
theorem last_along (cs : List Cl) : ∀ (l q : List Int), ((along cs l q).getLast?.map fun r => r.2.1).getD q = lastP cs l q
  | [], q => rfl
  | [x], q => by simp [along, lastP]
  | x :: y :: l, q => by
    have := last_along cs (y :: l) (fall cs (x :: q)).2.1
    rw [lastP, ← this]
    simp only [along]
    rw [List.getLast?_cons_cons, List.getLast?_cons]
    rfl
theorem topOf_eq (cs : List Cl) (l : List Int) : topOf (along cs l []) = lastP cs l [] := last_along cs l []
theorem lastP_len (cs : List Cl) : ∀ (l q : List Int), (lastP cs l q).length ≤ q.length + l.length
  | [], q => by simp [lastP]
  | x :: l, q => by
    have h1 := lastP_len cs l (fall cs (x :: q)).2.1
    have h2 := fall_len cs (x :: q)
    simp only [List.length_cons] at h2 ⊢
    rw [lastP]
    omega
def dOf (cs : List Cl) (l q : List Int) : List (List Bool) := (along cs l q).map (·.1)
theorem dOf_len (cs : List Cl) (l q : List Int) : (dOf cs l q).length = l.length := by simp [dOf, along_len]
theorem dOf_eD (rs : List (List Bool × List Int × Int)) : rs.map eD = esD (rs.map (·.1)) := by simp [esD, eD]
theorem along_fine (cs : List Cl) (last : List Bool) (n : Nat) : ∀ (l q : List Int) (k : Nat), k + l.length = n → fine (lastP cs l q).length last → fineAll n k q.length (dOf cs l q ++ [last])
  | [], q, k, hk, hf => by
    simp only [dOf, along, List.map_nil, List.nil_append, fineAll, and_true]
    rw [if_neg (by simp at hk; omega)]
    exact hf
  | x :: l, q, k, hk, hf => by
    simp only [List.length_cons] at hk
    have h2 := fall_len cs (x :: q)
    have h3 := fall_fine cs (x :: q)
    simp only [List.length_cons] at h2 h3
    have ih := along_fine cs last n l (fall cs (x :: q)).2.1 (k + 1) (by omega) hf
    have e : dOf cs (x :: l) q ++ [last] = (fall cs (x :: q)).1 :: (dOf cs l (fall cs (x :: q)).2.1 ++ [last]) := by simp [dOf, along]
    rw [e]
    simp only [fineAll]
    rw [if_pos (show k < n by omega)]
    refine ⟨h3, ?_⟩
    have : q.length + 1 - (fall cs (x :: q)).1.length = (fall cs (x :: q)).2.1.length := by omega
    rw [this]
    exact ih
def allD (o : So) (l : List Int) : List (List Bool) := dOf o.rule l [] ++ [(ends o.fin (lastP o.rule l [])).1]
theorem allD_fine (o : So) (l : List Int) : fineAll l.length 0 0 (allD o l) := along_fine o.rule _ l.length l [] 0 (by simp) (ends_fine _ _)
def tchF (o : So) (l : List Int) : Nat → Int := (tGo l.length 0 (allD o l) ⟨[], fun _ => 0⟩).f
theorem inv0 (n : Nat) : Inv' 0 n ([] : List (List Nat)) := ⟨by simp, by simp, by simp, by simp⟩
theorem zeros (n : Nat) (h : n ≤ 5000) : dMul (.lst [.int 0]) (.int n) = some (.lst (cD n fun _ => 0)) := by
  have h1 : (-(2 ^ 63) : Int) ≤ (n : Int) ∧ (n : Int) < 2 ^ 63 := by omega
  have h2 : [D.int 0].length * ((n : Int)).toNat ≤ sizeLine := by
    simp only [List.length_cons, List.length_nil, Int.toNat_natCast]
    exact sz (by omega)
  have e : (List.replicate n [D.int 0]).flatten = cD n fun _ => 0 := by
    simp [cD, List.map_const']
  simp only [dMul]
  rw [if_pos ⟨h1, h2⟩, Int.toNat_natCast, e]
section
variable {S : Type}
theorem mulE {f g : EvF S} {ρ : List Sl} {s : S} {x y z : D} (h1 : f ρ s = .ok x s) (h2 : g ρ s = .ok y s) (h3 : dMul x y = some z) : bin dMul f g ρ s = .ok z s := by
  rw [bin_ap, h1, bind_okS, h2, bind_okS, h3, ofO_some]
theorem par_tch {mm : EvF S} {z : List D} {x0 x1 x2 : Sl} {s : S} (em : mm [x0, x1, x2, .no, .no, .no, .no, .no, .no, .no, .no, .no] s = .ok (.lst z) s) : parS (S := S) [(3, true), (4, true), (5, false)] (consA (lstE nilA) (consA mm (consA (kD (.int 0)) nilA))) [x0, x1, x2, .no, .no, .no, .no, .no, .no, .no, .no, .no] s = .nxt [x0, x1, x2, Sl.own [], Sl.own z, Sl.val (.int 0), .no, .no, .no, .no, .no, .no] s := by
  simp [parS, asgL, slO, em]
theorem par_ltc {mm : EvF S} {z : List D} {x0 x1 x2 : Sl} {s : S} (em : mm [x0, x1, x2, .no, .no, .no, .no, .no, .no, .no, .no] s = .ok (.lst z) s) : parS (S := S) [(3, true), (4, false)] (consA (lstE nilA) (consA mm nilA)) [x0, x1, x2, .no, .no, .no, .no, .no, .no, .no, .no] s = .nxt [x0, x1, x2, Sl.own [], Sl.val (.lst z), .no, .no, .no, .no, .no, .no] s := by
  simp [parS, asgL, slO, em]
theorem runD_eq (o : So) (l : List Int) : runD o l = .tup [.tup (esD (dOf o.rule l [])), .tup (dsD (ends o.fin (lastP o.rule l [])).1), .int (costs (along o.rule l []) + (ends o.fin (lastP o.rule l [])).2)] := by
  unfold runD
  rw [topOf_eq, dOf_eD]
  rfl
theorem run_spec {o : So} {l : List Int} (ok : o.Ok) (hl : RowOk l) (s : S) : Frun [o.d, .tup (iD l)] s = .ok (runD o l) s :=
  run_g ok hl _ s (needRow_spec hl s) (by rw [topOf_eq]; have := lastP_len o.rule l []; have := hl.1; simp at *; omega)
theorem runL_spec {o : So} {l : List Int} (ok : o.Ok) (hl : RowOk l) (s : S) : Frun [o.d, .lst (iD l)] s = .ok (runD o l) s :=
  run_g ok hl _ s (needRowL_spec hl s) (by rw [topOf_eq]; have := lastP_len o.rule l []; have := hl.1; simp at *; omega)
def costOf (o : So) (l : List Int) : Int := costs (along o.rule l []) + (ends o.fin (lastP o.rule l [])).2
theorem cost_c {Fr : FF S} {od ld x y : D} {c : Int} {s : S} (e : Fr [od, ld] s = .ok (.tup [x, y, .int c]) s) : endR false (ccost Fr [Sl.val od, Sl.val ld] s) = .ok (.int c) s := by
  have i2 : dIx (.tup [x, y, .int c]) (.int 2) = some (.int c) := by simp [dIx, at2]
  simp [ccost, relAt_def, e, i2]
theorem cost_spec {o : So} {l : List Int} (ok : o.Ok) (hl : RowOk l) (s : S) : Fcost [o.d, .tup (iD l)] s = .ok (.int (costOf o l)) s :=
  cost_c (by rw [run_spec ok hl s, runD_eq]; rfl)
theorem behind_c {Fo Fg Fl : FF S} {od ld ld' z1 z2 : D} {rs : List (List Bool × List Int × Int)} {s : S} (e1 : Fo [od] s = .ok od s) (e2 : Fl [ld] s = .ok ld' s) (e3 : Fg [od, ld'] s = .ok (.tup [.lst (rs.map pD), z1, z2]) s) : endR false (cpiles_behind Fo Fg Fl [Sl.val od, Sl.val ld] s) = .ok (.tup (rs.map pD)) s := by
  have i0 : dIx (.tup [.lst (rs.map pD), z1, z2]) (.int 0) = some (.lst (rs.map pD)) := by simp [dIx, at0]
  simp [cpiles_behind, relAt_def, e1, e2, e3, i0]
theorem behind_spec {o : So} {l : List Int} (ok : o.Ok) (hl : RowOk l) (s : S) : Fpiles_behind [o.d, .tup (iD l)] s = .ok (.tup ((along o.rule l []).map pD)) s :=
  behind_c (needSo_spec ok s) (needRow_spec hl s) (gone_spec ok (by have := hl.1; omega) s)
def lens (rs : List (List Bool × List Int × Int)) : List Int := rs.map fun r => (r.2.1.length : Int)
def highest (rs : List (List Bool × List Int × Int)) : Int := (lens rs).foldl max 0
def lenD : D → D
  | .tup ds => .int ds.length
  | d => d
theorem map_lenD (rs : List (List Bool × List Int × Int)) : (rs.map pD).map lenD = iD (lens rs) := by simp [lens, iD, pD, lenD]
theorem deepest_c {Fb : FF S} {od ld : D} {rs : List (List Bool × List Int × Int)} {s : S} (hr : rs.length ≤ 5000) (e : Fb [od, ld] s = .ok (.tup (rs.map pD)) s) : endR false (cdeepest Fb [Sl.val od, Sl.val ld, .no] s) = .ok (.int (highest rs)) s := by
  have key : lcGo (S := S) (tN 2) yesT (biF bLen (consA (vK 2) nilA)) [Sl.val od, Sl.val ld, .no] (rs.map pD) s = .ok (iD (lens rs)) s := by
    rw [← map_lenD]
    refine lcGo_map fun d hd => ?_
    obtain ⟨r, _, rfl⟩ := List.mem_map.mp hd
    exact ⟨[Sl.val od, Sl.val ld, Sl.val (pD r)], by simp, by simp, by simp [pD, lenD]⟩
  have ha := addLs [.int 0] (iD (lens rs)) (by simp [lens]; omega)
  have hm := bMax_lst 0 (lens rs)
  rw [iD_cons] at hm
  have hz : (lens rs).length ≤ sizeLine := sz (by simp [lens]; omega)
  simp only [List.cons_append, List.nil_append] at ha
  simp [cdeepest, relAt_def, e, key, ha, hm, hz, sz, highest]
theorem deepest_spec {o : So} {l : List Int} (ok : o.Ok) (hl : RowOk l) (s : S) : Fdeepest [o.d, .tup (iD l)] s = .ok (.int (highest (along o.rule l []))) s :=
  deepest_c (by rw [along_len]; have := hl.1; omega) (behind_spec ok hl s)
theorem touched_c {Fo Fl Fr : FF S} {o : So} {l : List Int} {s : S} (hl : l.length ≤ 2000) (e1 : Fo [o.d] s = .ok o.d s) (e2 : Fl [.tup (iD l)] s = .ok (.tup (iD l)) s) (e3 : Fr [o.d, .tup (iD l)] s = .ok (runD o l) s) :
    endR false (ctouched Fo Fl Fr [Sl.val o.d, Sl.val (.tup (iD l)), .no, .no, .no, .no, .no, .no, .no, .no, .no, .no] s) = .ok (.tup (cD l.length (tchF o l))) s := by
  rw [runD_eq] at e3
  obtain ⟨z3, y5, y9, y10, y11, e⟩ := ot_loop (S := S) (a0 := Sl.val o.d) (a1 := Sl.val (.tup (iD l))) (a8 := Sl.val (.int (costs (along o.rule l []) + (ends o.fin (lastP o.rule l [])).2))) (l := l) (dss := dOf o.rule l []) (last := (ends o.fin (lastP o.rule l [])).1) (s := s) (dOf_len ..) hl (allD o l) 0 ⟨[], fun _ => 0⟩ (Sl.val (.int 0)) .no .no .no rfl (by simp [allD, dOf_len]) (by simp) (allD_fine o l) (inv0 _)
  have hz := zeros l.length (by omega)
  have hlen : (allD o l).length = l.length + 1 := by simp [allD, dOf_len]
  rw [hlen] at e
  unfold ctouched
  have b1 : relS' (S := S) [0] (dropS (callF (⟨1, false, Fo⟩ : Fn S) (consA (vC 0) nilA))) [Sl.val o.d, Sl.val (.tup (iD l)), .no, .no, .no, .no, .no, .no, .no, .no, .no, .no] s = .nxt [Sl.val o.d, Sl.val (.tup (iD l)), .no, .no, .no, .no, .no, .no, .no, .no, .no, .no] s := by
    simp [relAt_def, e1]
  have b2 : relS' (S := S) [1] (asgS (callF (⟨1, false, Fl⟩ : Fn S) (consA (vC 1) nilA)) (tN 2)) [Sl.val o.d, Sl.val (.tup (iD l)), .no, .no, .no, .no, .no, .no, .no, .no, .no, .no] s = .nxt [Sl.val o.d, Sl.val (.tup (iD l)), Sl.val (.tup (iD l)), .no, .no, .no, .no, .no, .no, .no, .no, .no] s := by
    simp [relAt_def, e2]
  have b3 : parS (S := S) [(3, true), (4, true), (5, false)] (consA (lstE nilA) (consA (bin dMul (lstE (consA (kD (.int 0)) nilA)) (biF bLen (consA (vK 2) nilA))) (consA (kD (.int 0)) nilA))) [Sl.val o.d, Sl.val (.tup (iD l)), Sl.val (.tup (iD l)), .no, .no, .no, .no, .no, .no, .no, .no, .no] s = .nxt [Sl.val o.d, Sl.val (.tup (iD l)), Sl.val (.tup (iD l)), Sl.own [], Sl.own (cD l.length fun _ => 0), Sl.val (.int 0), .no, .no, .no, .no, .no, .no] s :=
    par_tch (mulE (x := .lst [.int 0]) (y := .int l.length) (by simp [sz]) (by simp) hz)
  have b4 : relS' (S := S) [0, 2] (asgS (callF (⟨2, false, Fr⟩ : Fn S) (consA (vC 0) (consA (vC 2) nilA))) (gTupD 3 (gsC (tN 6) (gsC (tN 7) (gsC (tN 8) gsN))))) [Sl.val o.d, Sl.val (.tup (iD l)), Sl.val (.tup (iD l)), Sl.own [], Sl.own (cD l.length fun _ => 0), Sl.val (.int 0), .no, .no, .no, .no, .no, .no] s = .nxt [Sl.val o.d, Sl.val (.tup (iD l)), Sl.val (.tup (iD l)), Sl.own [], Sl.own (cD l.length fun _ => 0), Sl.val (.int 0), Sl.val (.tup (esD (dOf o.rule l []))), Sl.val (.tup (dsD (ends o.fin (lastP o.rule l [])).1)), Sl.val (.int (costs (along o.rule l []) + (ends o.fin (lastP o.rule l [])).2)), .no, .no, .no] s := by
    simp [relAt_def, e3]
  rw [seqS_ap, b1, next_nxt, seqS_ap, b2, next_nxt, seqS_ap, b3, next_nxt, seqS_ap, b4, next_nxt, seqS_ap, forS_ap]
  have q0 : iRange1 (S := S) (bin dAdd (biF bLen (consA (vK 2) nilA)) (kD (.int 1))) [Sl.val o.d, Sl.val (.tup (iD l)), Sl.val (.tup (iD l)), Sl.own [], Sl.own (cD l.length fun _ => 0), Sl.val (.int 0), Sl.val (.tup (esD (dOf o.rule l []))), Sl.val (.tup (dsD (ends o.fin (lastP o.rule l [])).1)), Sl.val (.int (costs (along o.rule l []) + (ends o.fin (lastP o.rule l [])).2)), .no, .no, .no] s = .ok (rangeD (0 : Nat) (l.length + 1)) s := iR1 (s1 := s) (hi := l.length + 1) (by simp) (by omega)
  rw [q0, thenS_ok]
  have e' := e
  simp only [List.reverse_nil, show lD ([] : List (List Nat)) = [] from rfl] at e'
  unfold otB tdB icB at e'
  rw [e', next_nxt]
  simp [tchF]
theorem touched_spec {o : So} {l : List Int} (ok : o.Ok) (hl : RowOk l) (s : S) : Ftouched [o.d, .tup (iD l)] s = .ok (.tup (cD l.length (tchF o l))) s :=
  touched_c (by have := hl.1; omega) (needSo_spec ok s) (needRow_spec hl s) (run_spec ok hl s)
theorem lawTouched_spec {o : So} {l : List Int} (hl : l.length ≤ 2000) (s : S) : F_law_touched [.tup (iD l), .lst (esD (dOf o.rule l [])), .tup (dsD (ends o.fin (lastP o.rule l [])).1)] s = .ok (.tup (cD l.length (tchF o l))) s := by
  show endR false (c_law_touched [Sl.val (.tup (iD l)), Sl.val (.lst (esD (dOf o.rule l []))), Sl.val (.tup (dsD (ends o.fin (lastP o.rule l [])).1)), .no, .no, .no, .no, .no, .no, .no, .no] s) = _
  obtain ⟨z3, y5, y6, y7, y8, y9, e⟩ := lo_loop (S := S) (a1 := Sl.val (.lst (esD (dOf o.rule l [])))) (a2 := Sl.val (.tup (dsD (ends o.fin (lastP o.rule l [])).1))) (l := l) (s := s) hl (allD o l) 0 ⟨[], fun _ => 0⟩ .no .no .no .no .no (by simp [allD, dOf_len]) (by simp) (allD_fine o l) (inv0 _)
  have hz := zeros l.length (by omega)
  unfold c_law_touched
  have b1 : parS (S := S) [(3, true), (4, false)] (consA (lstE nilA) (consA (bin dMul (lstE (consA (kD (.int 0)) nilA)) (biF bLen (consA (vK 0) nilA))) nilA)) [Sl.val (.tup (iD l)), Sl.val (.lst (esD (dOf o.rule l []))), Sl.val (.tup (dsD (ends o.fin (lastP o.rule l [])).1)), .no, .no, .no, .no, .no, .no, .no, .no] s = .nxt [Sl.val (.tup (iD l)), Sl.val (.lst (esD (dOf o.rule l []))), Sl.val (.tup (dsD (ends o.fin (lastP o.rule l [])).1)), Sl.own [], Sl.val (.lst (cD l.length fun _ => 0)), .no, .no, .no, .no, .no, .no] s :=
    par_ltc (mulE (x := .lst [.int 0]) (y := .int l.length) (by simp [sz]) (by simp) hz)
  rw [seqS_ap, b1, next_nxt, seqS_ap, relS_ap]
  have r0 : relAll [Sl.val (.tup (iD l)), Sl.val (.lst (esD (dOf o.rule l []))), Sl.val (.tup (dsD (ends o.fin (lastP o.rule l [])).1)), Sl.own [], Sl.val (.lst (cD l.length fun _ => 0)), .no, .no, .no, .no, .no, .no] [2] = [Sl.val (.tup (iD l)), Sl.val (.lst (esD (dOf o.rule l []))), Sl.val (.tup (dsD (ends o.fin (lastP o.rule l [])).1)), Sl.own [], Sl.val (.lst (cD l.length fun _ => 0)), .no, .no, .no, .no, .no, .no] := rfl
  have ha := addLs (esD (dOf o.rule l [])) [.tup (dsD (ends o.fin (lastP o.rule l [])).1)] (by simp [esD, dOf_len]; omega)
  have hb : bList [.lst (esD (dOf o.rule l []))] = some (.lst (esD (dOf o.rule l []))) := rfl
  have he : esD (dOf o.rule l []) ++ [.tup (dsD (ends o.fin (lastP o.rule l [])).1)] = esD (allD o l) := by simp [esD, allD]
  rw [he] at ha
  have q0 : iEnum (S := S) (bin dAdd (biF bList (consA (vK 1) nilA)) (lstE (consA (vC 2) nilA))) [Sl.val (.tup (iD l)), Sl.val (.lst (esD (dOf o.rule l []))), Sl.val (.tup (dsD (ends o.fin (lastP o.rule l [])).1)), Sl.own [], Sl.val (.lst (cD l.length fun _ => 0)), .no, .no, .no, .no, .no, .no] s = .ok (enumFrom 0 (esD (allD o l))) s := by
    simp [hb, sz, ha]
  rw [r0, forS_ap, q0, thenS_ok]
  have e' := e
  simp only [List.reverse_nil, show lD ([] : List (List Nat)) = [] from rfl] at e'
  unfold loB ltB at e'
  rw [e', next_nxt]
  simp [tchF]
end
end Wd

set_option maxHeartbeats 0
/-! Dr3: drawn clauses, sorters, wants, piles (first family). -/
namespace Wd
open PySem PySem.Spec PyProof.Rows L2 Q
def tP (t : Tst) : PyData := .tuple [.tuple (t.l.map .int), .str (word t.b), .tuple (t.r.map .int)]
theorem toPy_tst (t : Tst) : toPy t.d = some (tP t) := by simp [Tst.d, toPy, toPyL, tP]
theorem toPyL_tst : ∀ ts : List Tst, toPyL (ts.map Tst.d) = some (ts.map tP)
  | [] => rfl
  | t :: ts => by simp [toPyL, toPy_tst, toPyL_tst ts]
theorem word_ok (b : Bool) : PyData.canLay0 (.str (word b)) = true := by cases b <;> kernel_rfl
theorem dword_ok (b : Bool) : PyData.canLay0 (.str (dword b)) = true := by cases b <;> kernel_rfl
theorem canLay_tst : ∀ ts : List Tst, PyData.canLayAll0 (ts.map tP) = true
  | [] => rfl
  | t :: ts => by
    have h := word_ok t.b
    simp only [List.map_cons, PyData.canLayAll0, tP, PyData.canLay0, canLay_ints, canLay_tst ts] at h ⊢
    simp [h]
theorem depth_tst : ∀ ts : List Tst, PyData.depthAll (ts.map tP) ≤ 3
  | [] => by simp [PyData.depthAll]
  | t :: ts => by
    have h1 := depth_tst ts
    have h2 := depth_iD t.l
    have h3 := depth_iD t.r
    simp only [List.map_cons, PyData.depthAll, tP, PyData.depth]
    omega
theorem shaped_tst (ts : List Tst) : SeqAt.shaped (.tuple (ts.map tP)) = true := by
  have := depth_tst ts
  have h : (PyData.tuple (ts.map tP)).depth ≤ 64 := by simp only [PyData.depth]; omega
  simp [SeqAt.shaped, PyData.canLay0, canLay_tst, h]
theorem shaped_t0 : SeqAt.shaped (.tuple []) = true := by simpa using shaped_tst []
theorem dEq_ws (ts : List Tst) : dEq (wsD ts) (.tup []) = some (.bl ts.isEmpty) := by
  have e : deq (wsD ts) (.tup []) = some ts.isEmpty := by
    simp only [deq, wsD, toPy, toPyL_tst, toPyL, Option.map_some, shaped_tst, shaped_t0, and_self, if_true]
    cases ts <;> rfl
  simp only [dEq, wsD] at e ⊢
  simp [e]
def usualC : List (List Tst) := [[⟨[1], false, [0]⟩], [⟨[2], false, [0, 1]⟩], [⟨[1], true, [0]⟩]]
theorem ok1 (x y : Int) (b : Bool) (h : x ≠ y) (hx : 0 ≤ x ∧ x ≤ 3) (hy : 0 ≤ y ∧ y ≤ 3) : (⟨[x], b, [y]⟩ : Tst).Ok :=
  ⟨⟨by simp, by simp, by simpa using hx, by simp⟩, ⟨by simp, by simp, by simpa using hy, by simp⟩, by simpa using h⟩
theorem usualC_ok : ∀ ts ∈ usualC, ts.length = 1 ∧ ∀ t ∈ ts, t.Ok := by
  intro ts h
  simp [usualC] at h
  rcases h with rfl | rfl | rfl
  · exact ⟨rfl, by intro t ht; simp at ht; subst ht; exact ok1 1 0 _ (by decide) (by decide) (by decide)⟩
  · exact ⟨rfl, by intro t ht; simp at ht; subst ht; exact ⟨⟨by simp, by simp, by simp, by simp⟩, ⟨by simp, by simp, by simp, by simp⟩, by simp⟩⟩
  · exact ⟨rfl, by intro t ht; simp at ht; subst ht; exact ok1 1 0 _ (by decide) (by decide) (by decide)⟩
theorem tests_go {Ft : FF Dw} {m : D} (ht : Tests Ft m) {deep : Nat} (d1 : 1 ≤ deep) (d3 : deep ≤ 3) (a1 a2 a4 a5 a6 a7 : Sl) : ∀ (n : Nat) (lo : Int) (s : Dw) (B : Int), n ≤ 10 → Sk B s → B + 10 * n < 2 ^ 38 → ∃ (ts : List Tst) (s' : Dw), lcGo (tN 8) yesT (callF (⟨2, false, Ft⟩ : Fn Dw) (consA (vC 0) (consA (vC 3) nilA))) [Sl.val m, a1, a2, Sl.val (.int deep), a4, a5, a6, a7, .no] (rangeD lo n) s = .ok (ts.map Tst.d) s' ∧ ts.length = n ∧ (∀ t ∈ ts, t.Ok) ∧ Sk (B + 10 * n) s'
  | 0, lo, s, B, _, k, _ => ⟨[], s, rfl, rfl, by simp, k.mono (by simp)⟩
  | n + 1, lo, s, B, hn, k, hB => by
    obtain ⟨t, s1, e1, ok, k1⟩ := ht deep s B d1 d3 k (by omega)
    obtain ⟨ts, s2, e2, h1, h2, k2⟩ := tests_go ht d1 d3 a1 a2 a4 a5 a6 a7 n (lo + 1) s1 (B + 10) (by omega) k1 (by omega)
    refine ⟨t :: ts, s2, ?_, by simp [h1], fun x hx => ?_, k2.mono (by omega)⟩
    · rw [rangeD, lcGo_cons (ρ2 := [Sl.val m, a1, a2, Sl.val (.int deep), a4, a5, a6, a7, Sl.val (.int lo)]) (by simp)]
      simp [e1, e2]
    · rcases List.mem_cons.mp hx with rfl | hx
      · exact ok
      · exact h2 x hx
abbrev clA (Fd Fo : FF Dw) : ExF Dw := relS' [0, 4] (asgS (ifE (testB (bin dEq (callF (⟨2, false, Fd⟩ : Fn Dw) (consA (vC 0) (consA (kD (.int 2)) nilA))) (kD (.int 0)))) (callF (⟨2, false, Fo⟩ : Fn Dw) (consA (vC 0) (consA (vC 4) nilA))) (tupE nilA)) (tN 7))
theorem clA_ok {Fd Fo : FF Dw} {m : D} (hd : Draws Fd m) (ho : Ofs Fo m) (a1 a2 a3 a5 a6 a7 : Sl) {s : Dw} {B : Int} (k : Sk B s) (hB : B < 2 ^ 38) : ∃ (ts : List Tst) (s' : Dw), clA Fd Fo [Sl.val m, a1, a2, a3, Sl.val (.lst (usualC.map wsD)), a5, a6, a7, .no] s = .nxt [Sl.val m, a1, a2, a3, Sl.val (.lst (usualC.map wsD)), a5, a6, Sl.val (wsD ts), .no] s' ∧ ts.length ≤ 1 ∧ (∀ t ∈ ts, t.Ok) ∧ Sk (B + 2) s' := by
  obtain ⟨r, s1, e1, r0, r1, k1⟩ := hd s B 2 k (by omega) (by omega) (big_lt (by omega))
  by_cases h : r = 0
  · subst h
    obtain ⟨x, hx, s2, e2, k2⟩ := ho (usualC.map wsD) s1 (B + 1) (by simp [usualC]) (by simp [usualC]) k1 (by omega)
    obtain ⟨ts, hts, rfl⟩ := List.mem_map.mp hx
    obtain ⟨h1, h2⟩ := usualC_ok ts hts
    refine ⟨ts, s2, ?_, by omega, h2, k2.mono (by omega)⟩
    have q : dEq (.int 0) (.int 0) = some (.bl true) := by rw [dEq_int]; rfl
    simp [relAt_def, e1, q, e2]
  · refine ⟨[], s1, ?_, by simp, by simp, k1.mono (by omega)⟩
    have q : dEq (.int r) (.int 0) = some (.bl false) := by rw [dEq_int, decide_eq_false h]
    simp [relAt_def, e1, q, wsD]
abbrev clB (Fd Ft : FF Dw) : ExF Dw := relS' [0] (ifS (orT (testB (bin dEq (vK 7) (tupE nilA))) (testB (bin dEq (callF (⟨2, false, Fd⟩ : Fn Dw) (consA (vC 0) (consA (kD (.int 3)) nilA))) (kD (.int 0))))) (seqS (relS' [0, 3] (asgS (bin dAdd (vK 7) (biF bTuple (consA (lcE (iRange1 (bin dAdd (kD (.int 1)) (callF (⟨2, false, Fd⟩ : Fn Dw) (consA (vC 0) (consA (kD (.int 2)) nilA))))) (tN 8) yesT (callF (⟨2, false, Ft⟩ : Fn Dw) (consA (vC 0) (consA (vC 3) nilA))) [8]) nilA))) (tN 7))) nextS) nextS)
theorem clB_add {Fd Ft : FF Dw} {m : D} (hd : Draws Fd m) (ht : Tests Ft m) {deep : Nat} (d1 : 1 ≤ deep) (d3 : deep ≤ 3) (a1 a2 a4 a5 a6 : Sl) {ts : List Tst} (hts : ts.length ≤ 1) (ok : ∀ t ∈ ts, t.Ok) {s : Dw} {B : Int} (k : Sk B s) (hB : B < 2 ^ 37) : ∃ (ts' : List Tst) (s' : Dw), (seqS (relS' [0, 3] (asgS (bin dAdd (vK 7) (biF bTuple (consA (lcE (iRange1 (bin dAdd (kD (.int 1)) (callF (⟨2, false, Fd⟩ : Fn Dw) (consA (vC 0) (consA (kD (.int 2)) nilA))))) (tN 8) yesT (callF (⟨2, false, Ft⟩ : Fn Dw) (consA (vC 0) (consA (vC 3) nilA))) [8]) nilA))) (tN 7))) nextS : ExF Dw) [Sl.val m, a1, a2, Sl.val (.int deep), a4, a5, a6, Sl.val (wsD ts), .no] s = .nxt [Sl.val m, a1, a2, Sl.val (.int deep), a4, a5, a6, Sl.val (wsD ts'), .no] s' ∧ ts'.length ≤ 3 ∧ (∀ t ∈ ts', t.Ok) ∧ Sk (B + 21) s' := by
  obtain ⟨r, s1, e1, r0, r1, k1⟩ := hd s B 2 k (by omega) (by omega) (big_lt (by omega))
  obtain ⟨us, s2, e2, h1, h2, k2⟩ := tests_go ht d1 d3 a1 a2 a4 a5 a6 (Sl.val (wsD ts)) (1 + r).toNat (0 : Nat) s1 (B + 1) (by omega) k1 (by omega)
  refine ⟨ts ++ us, s2, ?_, by simp; omega, fun t h => ?_, k2.mono (by omega)⟩
  · have er : (((1 + r).toNat : Nat) : Int) = 1 + r := by omega
    have q0 : iRange1 (S := Dw) (bin dAdd (kD (.int 1)) (callF (⟨2, false, Fd⟩ : Fn Dw) (consA (vC 0) (consA (kD (.int 2)) nilA)))) [Sl.val m, a1, a2, Sl.val (.int deep), a4, a5, a6, Sl.val (wsD ts), .no] s = .ok (rangeD (0 : Nat) (1 + r).toNat) s1 := iR1 (s1 := s1) (hi := (1 + r).toNat) (by rw [er]; simp [e1]) (by omega)
    have w : wipeR [Sl.val m, a1, a2, Sl.val (.int deep), a4, a5, a6, Sl.val (wsD ts), .no] [8] = [Sl.val m, a1, a2, Sl.val (.int deep), a4, a5, a6, Sl.val (wsD ts), .no] := rfl
    have o : [8].any (ownAt [Sl.val m, a1, a2, Sl.val (.int deep), a4, a5, a6, Sl.val (wsD ts), .no]) = false := rfl
    have q1 : lcE (S := Dw) (iRange1 (bin dAdd (kD (.int 1)) (callF (⟨2, false, Fd⟩ : Fn Dw) (consA (vC 0) (consA (kD (.int 2)) nilA))))) (tN 8) yesT (callF (⟨2, false, Ft⟩ : Fn Dw) (consA (vC 0) (consA (vC 3) nilA))) [8] [Sl.val m, a1, a2, Sl.val (.int deep), a4, a5, a6, Sl.val (wsD ts), .no] s = .ok (.lst (us.map Tst.d)) s2 := by
      rw [lcE_ap, q0, bind_okS, o, if_neg (by decide), w, e2, bind_okS, if_pos (sz (by simp; omega))]
    have ha : dAdd (wsD ts) (.tup (us.map Tst.d)) = some (wsD (ts ++ us)) := by
      have := addT (ts.map Tst.d) (us.map Tst.d) (by simp; omega)
      simp only [wsD, List.map_append]
      exact this
    have r0' : relAll [Sl.val m, a1, a2, Sl.val (.int deep), a4, a5, a6, Sl.val (wsD ts), .no] [0, 3] = [Sl.val m, a1, a2, Sl.val (.int deep), a4, a5, a6, Sl.val (wsD ts), .no] := rfl
    have hv : vK (S := Dw) 7 [Sl.val m, a1, a2, Sl.val (.int deep), a4, a5, a6, Sl.val (wsD ts), .no] s = .ok (wsD ts) s := rfl
    rw [seqS_ap, relS_ap, r0', asgS_ap, bin_ap, hv, bind_okS, biF_ap, consA_ap, q1, bind_okS, nilA_ap, bind_okS, bind_okS, bTuple_lst, ofO_some, bind_okS, ha, ofO_some, thenS_ok]
    rfl
  · rcases List.mem_append.mp h with h | h
    · exact ok t h
    · exact h2 t h
theorem clB_ok {Fd Ft : FF Dw} {m : D} (hd : Draws Fd m) (ht : Tests Ft m) {deep : Nat} (d1 : 1 ≤ deep) (d3 : deep ≤ 3) (a1 a2 a4 a5 a6 : Sl) {ts : List Tst} (hts : ts.length ≤ 1) (ok : ∀ t ∈ ts, t.Ok) {s : Dw} {B : Int} (k : Sk B s) (hB : B < 2 ^ 36) : ∃ (ts' : List Tst) (s' : Dw), clB Fd Ft [Sl.val m, a1, a2, Sl.val (.int deep), a4, a5, a6, Sl.val (wsD ts), .no] s = .nxt [Sl.val m, a1, a2, Sl.val (.int deep), a4, a5, a6, Sl.val (wsD ts'), .no] s' ∧ ts'.length ≤ 3 ∧ (∀ t ∈ ts', t.Ok) ∧ Sk (B + 22) s' := by
  have r0' : relAll [Sl.val m, a1, a2, Sl.val (.int deep), a4, a5, a6, Sl.val (wsD ts), .no] [0] = [Sl.val m, a1, a2, Sl.val (.int deep), a4, a5, a6, Sl.val (wsD ts), .no] := rfl
  have hq := dEq_ws ts
  unfold clB
  rw [relS_ap, r0', ifS_ap]
  cases he : ts.isEmpty with
  | true =>
    rw [he] at hq
    obtain ⟨ts', s', e, h1, h2, k2⟩ := clB_add hd ht d1 d3 a1 a2 a4 a5 a6 hts ok k (by omega)
    have t1 : orT (S := Dw) (testB (bin dEq (vK 7) (tupE nilA))) (testB (bin dEq (callF (⟨2, false, Fd⟩ : Fn Dw) (consA (vC 0) (consA (kD (.int 3)) nilA))) (kD (.int 0)))) [Sl.val m, a1, a2, Sl.val (.int deep), a4, a5, a6, Sl.val (wsD ts), .no] s = .ok true s := by simp [hq]
    exact ⟨ts', s', by rw [t1, thenS_ok, if_pos rfl, e], h1, h2, k2.mono (by omega)⟩
  | false =>
    rw [he] at hq
    obtain ⟨r, s1, e1, r0, r1, k1⟩ := hd s B 3 k (by omega) (by omega) (big_lt (by omega))
    have hi := dEq_int r 0
    have t1 : orT (S := Dw) (testB (bin dEq (vK 7) (tupE nilA))) (testB (bin dEq (callF (⟨2, false, Fd⟩ : Fn Dw) (consA (vC 0) (consA (kD (.int 3)) nilA))) (kD (.int 0)))) [Sl.val m, a1, a2, Sl.val (.int deep), a4, a5, a6, Sl.val (wsD ts), .no] s = .ok (decide (r = 0)) s1 := by simp [hq, e1, hi]
    rw [t1, thenS_ok]
    by_cases hr : r = 0
    · obtain ⟨ts', s', e, h1, h2, k2⟩ := clB_add hd ht d1 d3 a1 a2 a4 a5 a6 hts ok k1 (by omega)
      exact ⟨ts', s', by rw [decide_eq_true hr, if_pos rfl, e], h1, h2, k2.mono (by omega)⟩
    · exact ⟨ts, s1, by rw [decide_eq_false hr, if_neg (by decide), nextS_ap], by omega, ok, k1.mono (by omega)⟩
abbrev clC (Fd : FF Dw) : ExF Dw := relS' [0] (appS 5 (tupE (consA (slE (vK 7) noneO (someO (kD (.int 3)))) (consA (bin dIx (lstE (consA (kD (.str "top")) (consA (kD (.str "top")) (consA (kD (.str "under")) nilA)))) (callF (⟨2, false, Fd⟩ : Fn Dw) (consA (vC 0) (consA (kD (.int 3)) nilA)))) nilA))))
theorem cut3 (ts : List Tst) (h : ts.length ≤ 3) : dSl (wsD ts) none (some 3) = some (wsD ts) := by
  have e : ¬ ((3 : Int) < 0) := by omega
  have e3 : (3 : Int).toNat = 3 := rfl
  simp only [dSl, wsD, Q.cutD, HT.sIx, e, if_false, e3, List.drop_zero]
  rw [List.take_of_length_le (by simp; omega)]
theorem clC_ok {Fd : FF Dw} {m : D} (hd : Draws Fd m) (a1 a2 a3 a4 a6 : Sl) {ts : List Tst} (hts : ts.length ≤ 3) (ok : ∀ t ∈ ts, t.Ok) {cs : List Cl} (hcs : cs.length ≤ 100) {s : Dw} {B : Int} (k : Sk B s) (hB : B < 2 ^ 38) : ∃ (c : Cl) (s' : Dw), clC Fd [Sl.val m, a1, a2, a3, a4, Sl.own (cs.map Cl.d), a6, Sl.val (wsD ts), .no] s = .nxt [Sl.val m, a1, a2, a3, a4, Sl.own ((cs ++ [c]).map Cl.d), a6, Sl.val (wsD ts), .no] s' ∧ c.Ok ∧ Sk (B + 1) s' := by
  obtain ⟨r, s1, e1, r0, r1, k1⟩ := hd s B 3 k (by omega) (by omega) (big_lt (by omega))
  obtain ⟨b, eb⟩ : ∃ b, L2.atI [D.str "top", D.str "top", D.str "under"] r = some (.str (dword b)) := by
    have : r = 0 ∨ r = 1 ∨ r = 2 := by omega
    rcases this with rfl | rfl | rfl
    · exact ⟨true, by kernel_rfl⟩
    · exact ⟨true, by kernel_rfl⟩
    · exact ⟨false, by kernel_rfl⟩
  refine ⟨⟨ts, b⟩, s1, ?_, ⟨hts, ok⟩, k1⟩
  have hc := cut3 ts hts
  have r0' : relAll [Sl.val m, a1, a2, a3, a4, Sl.own (cs.map Cl.d), a6, Sl.val (wsD ts), .no] [0] = [Sl.val m, a1, a2, a3, a4, Sl.own (cs.map Cl.d), a6, Sl.val (wsD ts), .no] := rfl
  have hz : cs.length < sizeLine := szl (by omega)
  unfold clC
  rw [relS_ap, r0', appS_own (ds := cs.map Cl.d) rfl]
  simp only [wsD] at hc
  simp [hc, sz, e1, dIx, eb, hz, Cl.d, wsD]
abbrev clT (Fd Fo Ft : FF Dw) : ExF Dw := (seqS (clA Fd Fo) (seqS (clB Fd Ft) (seqS (clC Fd) nextS)))
theorem cl_loop {Fd Fo Ft : FF Dw} {m : D} (hd : Draws Fd m) (ho : Ofs Fo m) (ht : Tests Ft m) {deep : Nat} (d1 : 1 ≤ deep) (d3 : deep ≤ 3) (a1 a2 : Sl) : ∀ (n : Nat) (lo : Int) (cs : List Cl) (s : Dw) (B : Int) (x6 x7 : Sl), cs.length + n ≤ 50 → (∀ c ∈ cs, c.Ok) → Sk B s → B + 30 * n < 2 ^ 35 → ∃ (cs' : List Cl) (s' : Dw) (y6 y7 : Sl),
    forGo (tN 6) (clT Fd Fo Ft) (rangeD lo n) [Sl.val m, a1, a2, Sl.val (.int deep), Sl.val (.lst (usualC.map wsD)), Sl.own (cs.map Cl.d), x6, x7, .no] s = .nxt [Sl.val m, a1, a2, Sl.val (.int deep), Sl.val (.lst (usualC.map wsD)), Sl.own (cs'.map Cl.d), y6, y7, .no] s' ∧ cs'.length = cs.length + n ∧ (∀ c ∈ cs', c.Ok) ∧ Sk (B + 30 * n) s'
  | 0, lo, cs, s, B, x6, x7, _, ok, k, _ => ⟨cs, s, x6, x7, rfl, rfl, ok, k.mono (by simp)⟩
  | n + 1, lo, cs, s, B, x6, x7, hn, ok, k, hB => by
    obtain ⟨ts, s1, e1, t1, o1, k1⟩ := clA_ok hd ho a1 a2 (Sl.val (.int deep)) (Sl.own (cs.map Cl.d)) (Sl.val (.int lo)) x7 k (by omega)
    obtain ⟨us, s2, e2, t2, o2, k2⟩ := clB_ok hd ht d1 d3 a1 a2 (Sl.val (.lst (usualC.map wsD))) (Sl.own (cs.map Cl.d)) (Sl.val (.int lo)) t1 o1 k1 (by omega)
    obtain ⟨c, s3, e3, o3, k3⟩ := clC_ok hd a1 a2 (Sl.val (.int deep)) (Sl.val (.lst (usualC.map wsD))) (Sl.val (.int lo)) t2 o2 (cs := cs) (by omega) k2 (by omega)
    obtain ⟨cs', s', y6, y7, ih, l1, l2, l3⟩ := cl_loop hd ho ht d1 d3 a1 a2 n (lo + 1) (cs ++ [c]) s3 (B + 30) (Sl.val (.int lo)) (Sl.val (wsD us)) (by simp; omega) (fun x hx => by
      rcases List.mem_append.mp hx with h | h
      · exact ok x h
      · simp at h; subst h; exact o3) (k3.mono (by omega)) (by omega)
    refine ⟨cs', s', y6, y7, ?_, by rw [l1]; simp; omega, l2, l3.mono (by omega)⟩
    rw [rangeD, forGo_cons (ρ1 := [Sl.val m, a1, a2, Sl.val (.int deep), Sl.val (.lst (usualC.map wsD)), Sl.own (cs.map Cl.d), Sl.val (.int lo), x7, .no]) (by simp)]
    unfold clT
    rw [seqS_ap, e1, next_nxt, seqS_ap, e2, next_nxt, seqS_ap, e3, next_nxt, nextS_ap, turn_nxt]
    unfold clT at ih
    rw [ih]
def Clauses (Fc : FF Dw) (m : D) : Prop := ∀ (lo hi deep : Nat) (s : Dw) (B : Int), lo ≤ hi → hi ≤ 10 → 1 ≤ deep → deep ≤ 3 → Sk B s → B < 2 ^ 34 → ∃ (cs : List Cl) (s' : Dw), Fc [m, .int lo, .int hi, .int deep] s = .ok (csD cs) s' ∧ lo ≤ cs.length ∧ cs.length ≤ hi ∧ (∀ c ∈ cs, c.Ok) ∧ Sk (B + 400) s'
theorem clauses_c {Fd Fo Ft : FF Dw} {m : D} (hd : Draws Fd m) (ho : Ofs Fo m) (ht : Tests Ft m) {lo hi deep : Nat} (h1 : lo ≤ hi) (h2 : hi ≤ 10) (d1 : 1 ≤ deep) (d3 : deep ≤ 3) {s : Dw} {B : Int} (k : Sk B s) (hB : B < 2 ^ 34) : ∃ (cs : List Cl) (s' : Dw), endR false (c_law_clauses Fd Fo Ft [Sl.val m, Sl.val (.int lo), Sl.val (.int hi), Sl.val (.int deep), .no, .no, .no, .no, .no] s) = .ok (csD cs) s' ∧ lo ≤ cs.length ∧ cs.length ≤ hi ∧ (∀ c ∈ cs, c.Ok) ∧ Sk (B + 400) s' := by
  obtain ⟨r, s1, e1, r0, r1, k1⟩ := hd s B ((hi : Int) - lo + 1) k (by omega) (by omega) (big_lt (by omega))
  obtain ⟨cs, s2, y6, y7, e2, l1, l2, l3⟩ := cl_loop hd ho ht d1 d3 (Sl.val (.int lo)) (Sl.val (.int hi)) ((lo : Int) + r).toNat (0 : Nat) [] s1 (B + 1) .no .no (by simp; omega) (by simp) k1 (by omega)
  refine ⟨cs, s2, ?_, by simp at l1; omega, by simp at l1; omega, l2, l3.mono (by omega)⟩
  have b1 : asgS (S := Dw) (lstE (consA (tupE (consA (tupE (consA (tupE (consA (kD (.int 1)) nilA)) (consA (kD (.str "atmost")) (consA (tupE (consA (kD (.int 0)) nilA)) nilA)))) nilA)) (consA (tupE (consA (tupE (consA (tupE (consA (kD (.int 2)) nilA)) (consA (kD (.str "atmost")) (consA (tupE (consA (kD (.int 0)) (consA (kD (.int 1)) nilA))) nilA)))) nilA)) (consA (tupE (consA (tupE (consA (tupE (consA (kD (.int 1)) nilA)) (consA (kD (.str "below")) (consA (tupE (consA (kD (.int 0)) nilA)) nilA)))) nilA)) nilA)))) (tN 4) [Sl.val m, Sl.val (.int lo), Sl.val (.int hi), Sl.val (.int deep), .no, .no, .no, .no, .no] s = .nxt [Sl.val m, Sl.val (.int lo), Sl.val (.int hi), Sl.val (.int deep), Sl.val (.lst (usualC.map wsD)), .no, .no, .no, .no] s := by
    simp [sz, usualC, wsD, Tst.d, word]
  have b2 : ownS (S := Dw) 5 (lstE nilA) [Sl.val m, Sl.val (.int lo), Sl.val (.int hi), Sl.val (.int deep), Sl.val (.lst (usualC.map wsD)), .no, .no, .no, .no] s = .nxt [Sl.val m, Sl.val (.int lo), Sl.val (.int hi), Sl.val (.int deep), Sl.val (.lst (usualC.map wsD)), Sl.own (([] : List Cl).map Cl.d), .no, .no, .no] s := by simp
  have r0' : relAll [Sl.val m, Sl.val (.int lo), Sl.val (.int hi), Sl.val (.int deep), Sl.val (.lst (usualC.map wsD)), Sl.own (([] : List Cl).map Cl.d), .no, .no, .no] [0] = [Sl.val m, Sl.val (.int lo), Sl.val (.int hi), Sl.val (.int deep), Sl.val (.lst (usualC.map wsD)), Sl.own (([] : List Cl).map Cl.d), .no, .no, .no] := rfl
  have er : ((((lo : Int) + r).toNat : Nat) : Int) = lo + r := by omega
  have q0 : iRange1 (S := Dw) (bin dAdd (vK 1) (callF (⟨2, false, Fd⟩ : Fn Dw) (consA (vC 0) (consA (bin dAdd (bin dSub (vK 2) (vK 1)) (kD (.int 1))) nilA)))) [Sl.val m, Sl.val (.int lo), Sl.val (.int hi), Sl.val (.int deep), Sl.val (.lst (usualC.map wsD)), Sl.own (([] : List Cl).map Cl.d), .no, .no, .no] s = .ok (rangeD (0 : Nat) ((lo : Int) + r).toNat) s1 := iR1 (s1 := s1) (hi := ((lo : Int) + r).toNat) (by rw [er]; simp [e1]) (by omega)
  unfold c_law_clauses
  rw [seqS_ap, b1, next_nxt, seqS_ap, b2, next_nxt, seqS_ap, relS_ap, r0', forS_ap, q0, thenS_ok]
  unfold clT at e2
  rw [e2, next_nxt]
  simp [csD]
theorem clauses1 {a : Ad} (hac : a.c ≠ a.g) : Clauses (F_law_clauses a) (.opq (.ref a.m)) := fun lo hi deep s B h1 h2 d1 d3 k hB => clauses_c (draws hac) (ofs hac) (tests1 hac) h1 h2 d1 d3 k hB
def Sorts (Fs : FF Dw) (m : D) : Prop := ∀ (deep : Nat) (s : Dw) (B : Int), 1 ≤ deep → deep ≤ 3 → Sk B s → B < 2 ^ 33 → ∃ (o : So) (s' : Dw), Fs [m, .int deep] s = .ok o.d s' ∧ o.Ok ∧ Sk (B + 800) s'
theorem sorts_c {Fc : FF Dw} {m : D} (hc : Clauses Fc m) {deep : Nat} (d1 : 1 ≤ deep) (d3 : deep ≤ 3) {s : Dw} {B : Int} (k : Sk B s) (hB : B < 2 ^ 33) : ∃ (o : So) (s' : Dw), endR false (c_law_sorts Fc [Sl.val m, Sl.val (.int deep)] s) = .ok o.d s' ∧ o.Ok ∧ Sk (B + 800) s' := by
  obtain ⟨r, s1, e1, a1, a2, a3, k1⟩ := hc 1 3 deep s B (by omega) (by omega) d1 d3 k (by omega)
  obtain ⟨f, s2, e2, b1, b2, b3, k2⟩ := hc 0 2 deep s1 (B + 400) (by omega) (by omega) d1 d3 k1 (by omega)
  refine ⟨⟨r, f⟩, s2, ?_, ⟨a1, by show r.length ≤ 6; omega, b2, a3, b3⟩, k2.mono (by omega)⟩
  have e1' : Fc [m, .int 1, .int 3, .int deep] s = .ok (csD r) s1 := e1
  have e2' : Fc [m, .int 0, .int 2, .int deep] s1 = .ok (csD f) s2 := e2
  simp [c_law_sorts, relAt_def, e1', e2', sz, So.d]
theorem sorts1 {a : Ad} (hac : a.c ≠ a.g) : Sorts (F_law_sorts a) (.opq (.ref a.m)) := fun deep s B d1 d3 k hB => sorts_c (clauses1 hac) d1 d3 k hB
end Wd

set_option maxHeartbeats 0
/-! Dr4: drawn wants, piles (first family). -/
namespace Wd
open PySem PySem.Spec PyProof.Rows L2 Q
def usualW : List Tst := [⟨[0], true, [1]⟩, ⟨[0, 1], true, [2]⟩, ⟨[0], false, [1]⟩, ⟨[0, 1], false, [2]⟩]
theorem usualW_ok : ∀ t ∈ usualW, t.Ok := by
  intro t h
  simp [usualW] at h
  rcases h with rfl | rfl | rfl | rfl
  · exact ok1 0 1 _ (by decide) (by decide) (by decide)
  · exact ⟨⟨by simp, by simp, by simp, by simp⟩, ⟨by simp, by simp, by simp, by simp⟩, by simp⟩
  · exact ok1 0 1 _ (by decide) (by decide) (by decide)
  · exact ⟨⟨by simp, by simp, by simp, by simp⟩, ⟨by simp, by simp, by simp, by simp⟩, by simp⟩
abbrev wiB (Fd Fo Ft : FF Dw) : ExF Dw := (seqS (relS' [0, 2, 1] (appS 3 (ifE (testB (bin dGt (callF (⟨2, false, Fd⟩ : Fn Dw) (consA (vC 0) (consA (kD (.int 3)) nilA))) (kD (.int 0)))) (callF (⟨2, false, Fo⟩ : Fn Dw) (consA (vC 0) (consA (vC 2) nilA))) (callF (⟨2, false, Ft⟩ : Fn Dw) (consA (vC 0) (consA (vC 1) nilA)))))) nextS)
theorem wi_turn {Fd Fo Ft : FF Dw} {m : D} (hd : Draws Fd m) (ho : Ofs Fo m) (ht : Tests Ft m) {deep : Nat} (d1 : 1 ≤ deep) (d3 : deep ≤ 3) (a4 : Sl) {ts : List Tst} (hts : ts.length ≤ 50) {s : Dw} {B : Int} (k : Sk B s) (hB : B < 2 ^ 37) : ∃ (t : Tst) (s' : Dw), wiB Fd Fo Ft [Sl.val m, Sl.val (.int deep), Sl.val (.lst (usualW.map Tst.d)), Sl.own (ts.map Tst.d), a4] s = .nxt [Sl.val m, Sl.val (.int deep), Sl.val (.lst (usualW.map Tst.d)), Sl.own ((ts ++ [t]).map Tst.d), a4] s' ∧ t.Ok ∧ Sk (B + 11) s' := by
  obtain ⟨r, s1, e1, r0, r1, k1⟩ := hd s B 3 k (by omega) (by omega) (big_lt (by omega))
  have r0' : relAll [Sl.val m, Sl.val (.int deep), Sl.val (.lst (usualW.map Tst.d)), Sl.own (ts.map Tst.d), a4] [0, 2, 1] = [Sl.val m, Sl.val (.int deep), Sl.val (.lst (usualW.map Tst.d)), Sl.own (ts.map Tst.d), a4] := rfl
  have hz : ts.length < sizeLine := szl (by omega)
  unfold wiB
  rw [seqS_ap, relS_ap, r0', appS_own (ds := ts.map Tst.d) rfl]
  by_cases h : 0 < r
  · obtain ⟨x, hx, s2, e2, k2⟩ := ho (usualW.map Tst.d) s1 (B + 1) (by simp [usualW]) (by simp [usualW]) k1 (by omega)
    obtain ⟨t, htm, rfl⟩ := List.mem_map.mp hx
    exact ⟨t, s2, by simp [e1, h, e2, hz], usualW_ok t htm, k2.mono (by omega)⟩
  · obtain ⟨t, s2, e2, ok, k2⟩ := ht deep s1 (B + 1) d1 d3 k1 (by omega)
    exact ⟨t, s2, by simp [e1, h, e2, hz], ok, k2.mono (by omega)⟩
theorem wi_loop {Fd Fo Ft : FF Dw} {m : D} (hd : Draws Fd m) (ho : Ofs Fo m) (ht : Tests Ft m) {deep : Nat} (d1 : 1 ≤ deep) (d3 : deep ≤ 3) : ∀ (n : Nat) (lo : Int) (ts : List Tst) (s : Dw) (B : Int) (x4 : Sl), ts.length + n ≤ 50 → (∀ t ∈ ts, t.Ok) → Sk B s → B + 11 * n < 2 ^ 36 → ∃ (ts' : List Tst) (s' : Dw) (y4 : Sl),
    forGo (tN 4) (wiB Fd Fo Ft) (rangeD lo n) [Sl.val m, Sl.val (.int deep), Sl.val (.lst (usualW.map Tst.d)), Sl.own (ts.map Tst.d), x4] s = .nxt [Sl.val m, Sl.val (.int deep), Sl.val (.lst (usualW.map Tst.d)), Sl.own (ts'.map Tst.d), y4] s' ∧ ts'.length = ts.length + n ∧ (∀ t ∈ ts', t.Ok) ∧ Sk (B + 11 * n) s'
  | 0, lo, ts, s, B, x4, _, ok, k, _ => ⟨ts, s, x4, rfl, rfl, ok, k.mono (by simp)⟩
  | n + 1, lo, ts, s, B, x4, hn, ok, k, hB => by
    obtain ⟨t, s1, e1, o1, k1⟩ := wi_turn hd ho ht d1 d3 (Sl.val (.int lo)) (ts := ts) (by omega) k (by omega)
    obtain ⟨ts', s', y4, ih, l1, l2, l3⟩ := wi_loop hd ho ht d1 d3 n (lo + 1) (ts ++ [t]) s1 (B + 11) (Sl.val (.int lo)) (by simp; omega) (fun x hx => by
      rcases List.mem_append.mp hx with h | h
      · exact ok x h
      · simp at h; subst h; exact o1) k1 (by omega)
    refine ⟨ts', s', y4, ?_, by rw [l1]; simp; omega, l2, l3.mono (by omega)⟩
    rw [rangeD, forGo_cons (ρ1 := [Sl.val m, Sl.val (.int deep), Sl.val (.lst (usualW.map Tst.d)), Sl.own (ts.map Tst.d), Sl.val (.int lo)]) (by simp), e1, turn_nxt, ih]
def Wishes (Fw : FF Dw) (m : D) : Prop := ∀ (deep : Nat) (s : Dw) (B : Int), 1 ≤ deep → deep ≤ 3 → Sk B s → B < 2 ^ 35 → ∃ (ws : List Tst) (s' : Dw), Fw [m, .int deep] s = .ok (wsD ws) s' ∧ WsOk ws ∧ Sk (B + 30) s'
theorem wish_c {Fd Fo Ft : FF Dw} {m : D} (hd : Draws Fd m) (ho : Ofs Fo m) (ht : Tests Ft m) {deep : Nat} (d1 : 1 ≤ deep) (d3 : deep ≤ 3) {s : Dw} {B : Int} (k : Sk B s) (hB : B < 2 ^ 35) : ∃ (ws : List Tst) (s' : Dw), endR false (c_law_wish Fd Fo Ft [Sl.val m, Sl.val (.int deep), .no, .no, .no] s) = .ok (wsD ws) s' ∧ WsOk ws ∧ Sk (B + 30) s' := by
  obtain ⟨r, s1, e1, r0, r1, k1⟩ := hd s B 2 k (by omega) (by omega) (big_lt (by omega))
  obtain ⟨ts, s2, y4, e2, l1, l2, l3⟩ := wi_loop hd ho ht d1 d3 (1 + r).toNat (0 : Nat) [] s1 (B + 1) .no (by simp; omega) (by simp) k1 (by omega)
  simp at l1
  refine ⟨ts, s2, ?_, ⟨by omega, by omega, l2⟩, l3.mono (by omega)⟩
  have b1 : asgS (S := Dw) (lstE (consA (tupE (consA (tupE (consA (kD (.int 0)) nilA)) (consA (kD (.str "below")) (consA (tupE (consA (kD (.int 1)) nilA)) nilA)))) (consA (tupE (consA (tupE (consA (kD (.int 0)) (consA (kD (.int 1)) nilA))) (consA (kD (.str "below")) (consA (tupE (consA (kD (.int 2)) nilA)) nilA)))) (consA (tupE (consA (tupE (consA (kD (.int 0)) nilA)) (consA (kD (.str "atmost")) (consA (tupE (consA (kD (.int 1)) nilA)) nilA)))) (consA (tupE (consA (tupE (consA (kD (.int 0)) (consA (kD (.int 1)) nilA))) (consA (kD (.str "atmost")) (consA (tupE (consA (kD (.int 2)) nilA)) nilA)))) nilA))))) (tN 2) [Sl.val m, Sl.val (.int deep), .no, .no, .no] s = .nxt [Sl.val m, Sl.val (.int deep), Sl.val (.lst (usualW.map Tst.d)), .no, .no] s := by
    simp [sz, usualW, Tst.d, word]
  have b2 : ownS (S := Dw) 3 (lstE nilA) [Sl.val m, Sl.val (.int deep), Sl.val (.lst (usualW.map Tst.d)), .no, .no] s = .nxt [Sl.val m, Sl.val (.int deep), Sl.val (.lst (usualW.map Tst.d)), Sl.own (([] : List Tst).map Tst.d), .no] s := by simp
  have r0' : relAll [Sl.val m, Sl.val (.int deep), Sl.val (.lst (usualW.map Tst.d)), Sl.own (([] : List Tst).map Tst.d), .no] [0] = [Sl.val m, Sl.val (.int deep), Sl.val (.lst (usualW.map Tst.d)), Sl.own (([] : List Tst).map Tst.d), .no] := rfl
  have er : (((1 + r).toNat : Nat) : Int) = 1 + r := by omega
  have q0 : iRange1 (S := Dw) (bin dAdd (kD (.int 1)) (callF (⟨2, false, Fd⟩ : Fn Dw) (consA (vC 0) (consA (kD (.int 2)) nilA)))) [Sl.val m, Sl.val (.int deep), Sl.val (.lst (usualW.map Tst.d)), Sl.own (([] : List Tst).map Tst.d), .no] s = .ok (rangeD (0 : Nat) (1 + r).toNat) s1 := iR1 (s1 := s1) (hi := (1 + r).toNat) (by rw [er]; simp [e1]) (by omega)
  unfold c_law_wish
  rw [seqS_ap, b1, next_nxt, seqS_ap, b2, next_nxt, seqS_ap, relS_ap, r0', forS_ap, q0, thenS_ok, e2, next_nxt]
  simp [wsD]
theorem wishes1 {a : Ad} (hac : a.c ≠ a.g) : Wishes (F_law_wish a) (.opq (.ref a.m)) := fun deep s B d1 d3 k hB => wish_c (draws hac) (ofs hac) (tests1 hac) d1 d3 k hB
/-! ### piles -/
abbrev piB (Fd : FF Dw) : ExF Dw := (seqS (relS' [0] (asgS (bin dIx (lstE (consA (bin dAdd (kD (.int 1)) (callF (⟨2, false, Fd⟩ : Fn Dw) (consA (vC 0) (consA (kD (.int 9)) nilA)))) (consA (bin dAdd (bin dAdd (vK 2) (kD (.int 1))) (callF (⟨2, false, Fd⟩ : Fn Dw) (consA (vC 0) (consA (kD (.int 9)) nilA)))) (consA (bin dAdd (bin dMul (kD (.int 2)) (vK 2)) (kD (.int 1))) nilA)))) (callF (⟨2, false, Fd⟩ : Fn Dw) (consA (vC 0) (consA (kD (.int 3)) nilA)))) (tN 2))) (seqS (relS' [2] (appS 1 (vC 2))) nextS))
theorem pi_turn {Fd : FF Dw} {m : D} (hd : Draws Fd m) (a3 : Sl) {q : List Int} (hq : q.length ≤ 50) {z : Int} (hz0 : 0 ≤ z) {s : Dw} {B : Int} (k : Sk B s) (hB : B < 2 ^ 37) : ∃ (x : Int) (s' : Dw), piB Fd [Sl.val m, Sl.own (iD q), Sl.val (.int z), a3] s = .nxt [Sl.val m, Sl.own (iD (q ++ [x])), Sl.val (.int x), a3] s' ∧ 1 ≤ x ∧ Sk (B + 3) s' := by
  obtain ⟨r, s1, e1, r0, r1, k1⟩ := hd s B 9 k (by omega) (by omega) (big_lt (by omega))
  obtain ⟨r', s2, e2, r0', r1', k2⟩ := hd s1 (B + 1) 9 k1 (by omega) (by omega) (big_lt (by omega))
  obtain ⟨j, s3, e3, j0, j1, k3⟩ := hd s2 (B + 1 + 1) 3 k2 (by omega) (by omega) (big_lt (by omega))
  obtain ⟨x, ex, hx⟩ : ∃ x : Int, L2.atI [D.int (1 + r), D.int (z + 1 + r'), D.int (2 * z + 1)] j = some (.int x) ∧ 1 ≤ x := by
    have : j = 0 ∨ j = 1 ∨ j = 2 := by omega
    rcases this with rfl | rfl | rfl
    · exact ⟨_, at0 _ _, by omega⟩
    · exact ⟨_, at1 _ _ _, by omega⟩
    · exact ⟨_, at2 _ _ _ _, by omega⟩
  refine ⟨x, s3, ?_, hx, k3.mono (by omega)⟩
  have hm : dMul (.int 2) (.int z) = some (.int (2 * z)) := mul_l (by omega) (by omega)
  have b1 : relS' (S := Dw) [0] (asgS (bin dIx (lstE (consA (bin dAdd (kD (.int 1)) (callF (⟨2, false, Fd⟩ : Fn Dw) (consA (vC 0) (consA (kD (.int 9)) nilA)))) (consA (bin dAdd (bin dAdd (vK 2) (kD (.int 1))) (callF (⟨2, false, Fd⟩ : Fn Dw) (consA (vC 0) (consA (kD (.int 9)) nilA)))) (consA (bin dAdd (bin dMul (kD (.int 2)) (vK 2)) (kD (.int 1))) nilA)))) (callF (⟨2, false, Fd⟩ : Fn Dw) (consA (vC 0) (consA (kD (.int 3)) nilA)))) (tN 2)) [Sl.val m, Sl.own (iD q), Sl.val (.int z), a3] s = .nxt [Sl.val m, Sl.own (iD q), Sl.val (.int x), a3] s3 := by
    simp [relAt_def, e1, e2, hm, e3, dIx, ex, sz]
  have hz : q.length < sizeLine := szl (by omega)
  unfold piB
  rw [seqS_ap, b1, next_nxt, seqS_ap, relS_ap]
  have r0'' : relAll [Sl.val m, Sl.own (iD q), Sl.val (.int x), a3] [2] = [Sl.val m, Sl.own (iD q), Sl.val (.int x), a3] := rfl
  rw [r0'', appS_own (ds := iD q) rfl]
  simp [hz, iD_append]
theorem pi_loop {Fd : FF Dw} {m : D} (hd : Draws Fd m) : ∀ (n : Nat) (lo : Int) (q : List Int) (z : Int) (s : Dw) (B : Int) (x3 : Sl), q.length + n ≤ 50 → 0 ≤ z → (∀ x ∈ q, 1 ≤ x) → Sk B s → B + 3 * n < 2 ^ 36 → ∃ (q' : List Int) (z' : Int) (s' : Dw) (y3 : Sl),
    forGo (tN 3) (piB Fd) (rangeD lo n) [Sl.val m, Sl.own (iD q), Sl.val (.int z), x3] s = .nxt [Sl.val m, Sl.own (iD q'), Sl.val (.int z'), y3] s' ∧ q'.length = q.length + n ∧ (∀ x ∈ q', 1 ≤ x) ∧ Sk (B + 3 * n) s'
  | 0, lo, q, z, s, B, x3, _, _, ok, k, _ => ⟨q, z, s, x3, rfl, rfl, ok, k.mono (by simp)⟩
  | n + 1, lo, q, z, s, B, x3, hn, hz, ok, k, hB => by
    obtain ⟨x, s1, e1, o1, k1⟩ := pi_turn hd (Sl.val (.int lo)) (q := q) (by omega) hz k (by omega)
    obtain ⟨q', z', s', y3, ih, l1, l2, l3⟩ := pi_loop hd n (lo + 1) (q ++ [x]) x s1 (B + 3) (Sl.val (.int lo)) (by simp; omega) (by omega) (fun y hy => by
      rcases List.mem_append.mp hy with h | h
      · exact ok y h
      · simp at h; subst h; exact o1) k1 (by omega)
    refine ⟨q', z', s', y3, ?_, by rw [l1]; simp; omega, l2, l3.mono (by omega)⟩
    rw [rangeD, forGo_cons (ρ1 := [Sl.val m, Sl.own (iD q), Sl.val (.int z), Sl.val (.int lo)]) (by simp), e1, turn_nxt, ih]
def Piles (Fp : FF Dw) (m : D) : Prop := ∀ (s : Dw) (B : Int), Sk B s → B < 2 ^ 35 → ∃ (q : List Int) (s' : Dw), Fp [m] s = .ok (.tup (iD q.reverse)) s' ∧ q.length ≤ 6 ∧ (∀ x ∈ q, 1 ≤ x) ∧ Sk (B + 20) s'
theorem pile_c {Fd : FF Dw} {m : D} (hd : Draws Fd m) {s : Dw} {B : Int} (k : Sk B s) (hB : B < 2 ^ 35) : ∃ (q : List Int) (s' : Dw), endR false (c_law_pile Fd [Sl.val m, .no, .no, .no] s) = .ok (.tup (iD q.reverse)) s' ∧ q.length ≤ 6 ∧ (∀ x ∈ q, 1 ≤ x) ∧ Sk (B + 20) s' := by
  obtain ⟨r, s1, e1, r0, r1, k1⟩ := hd s B 7 k (by omega) (by omega) (big_lt (by omega))
  obtain ⟨q, z, s2, y3, e2, l1, l2, l3⟩ := pi_loop hd r.toNat (0 : Nat) [] 0 s1 (B + 1) .no (by simp; omega) (by omega) (by simp) k1 (by omega)
  simp at l1
  refine ⟨q, s2, ?_, by omega, l2, l3.mono (by omega)⟩
  have b1 : parS (S := Dw) [(1, true), (2, false)] (consA (lstE nilA) (consA (kD (.int 0)) nilA)) [Sl.val m, .no, .no, .no] s = .nxt [Sl.val m, Sl.own (iD []), Sl.val (.int 0), .no] s := by simp [parS, asgL, slO]
  have r0' : relAll [Sl.val m, Sl.own (iD []), Sl.val (.int 0), .no] [0] = [Sl.val m, Sl.own (iD []), Sl.val (.int 0), .no] := rfl
  have er : ((r.toNat : Nat) : Int) = r := by omega
  have q0 : iRange1 (S := Dw) (callF (⟨2, false, Fd⟩ : Fn Dw) (consA (vC 0) (consA (kD (.int 7)) nilA))) [Sl.val m, Sl.own (iD []), Sl.val (.int 0), .no] s = .ok (rangeD (0 : Nat) r.toNat) s1 := iR1 (s1 := s1) (hi := r.toNat) (by rw [er]; simp [e1]) (by omega)
  unfold c_law_pile
  rw [seqS_ap, b1, next_nxt, seqS_ap, relS_ap, r0', forS_ap, q0, thenS_ok, e2, next_nxt]
  simp [iD_rev]
theorem piles1 {a : Ad} (hac : a.c ≠ a.g) : Piles (F_law_pile a) (.opq (.ref a.m)) := fun s B k hB => pile_c (draws hac) k hB
end Wd

set_option maxHeartbeats 0
/-! Rp1: what repr may show. -/
namespace Wd
open PySem PySem.Spec PyProof.Rows L2 Q
theorem app_len (a b : Str) : (a ++ b).length = a.length + b.length := by
  show (a.cps ++ b.cps).size = _
  rw [Array.size_append]
  rfl
theorem textFrom_le : ∀ (ts : List Str) (k : Nat) (acc : Str), (textFrom k acc ts).length ≤ acc.length + piled ts
  | [], k, acc => by simp [textFrom, piled]
  | t :: r, k, acc => by
    have ih := textFrom_le r (k + 1) (acc ++ (if k > 0 then ", " else "" : String) ++ t)
    have hs : ((if k > 0 then ", " else "" : String) : Str).length ≤ 2 := by split <;> decide
    rw [app_len, app_len] at ih
    rw [textFrom, piled_cons]
    omega
theorem listText_le (ts : List Str) : (listText ts).length ≤ piled ts + 2 := by
  have h := textFrom_le ts 0 "["
  have h1 : ("[" : Str).length = 1 := by decide
  have h2 : ("]" : Str).length = 1 := by decide
  unfold listText
  rw [app_len, h2]
  omega
theorem tupleText_le (ts : List Str) : (tupleText ts).length ≤ piled ts + 3 := by
  have h1 : ("(" : Str).length = 1 := by decide
  have h2 : ((if ts.length == 1 then ",)" else ")" : String) : Str).length ≤ 2 := by split <;> decide
  unfold tupleText
  rw [app_len, app_len, h1]
  cases ts with
  | nil => simp [Str.join, piled] at h2 ⊢; decide
  | cons t r =>
    have := join_length_add (t :: r) (by simp)
    omega
structure Shw (p : PyData) (k n : Nat) : Prop where
  sh : p.showable = true
  nd : p.hasDict = false
  dp : p.depth ≤ k
  len : p.shown.length ≤ n
structure ShwL (ps : List PyData) (k n : Nat) : Prop where
  sh : PyData.showableAll ps = true
  nd : PyData.hasDictAll ps = false
  dp : PyData.depthAll ps ≤ k
  len : piled (PyData.shownAll ps) ≤ n
theorem log2_of {x : Int} {k : Nat} (h : x.natAbs < 2 ^ k) (hk : 0 < k) : x.natAbs.log2 < k := by
  by_cases hz : x.natAbs = 0
  · rw [hz]; simpa using hk
  · exact (Nat.log2_lt hz).mpr h
theorem shw_int {x : Int} {d : Nat} (hd : 1 ≤ d) (h0 : 0 ≤ x) (h1 : x < 10 ^ d) (h2 : x.natAbs < 2 ^ 1920) : Shw (.int x) 0 d :=
  ⟨by simp only [PyData.showable]; simpa using log2_of h2 (by omega), by simp [PyData.hasDict], by simp [PyData.depth], toString_length_le h0 hd h1⟩
theorem pow31 : (10 : Nat) ^ 40 < 2 ^ 1920 := by decide +kernel
/-- whole numbers of at most forty figures -/
theorem shw_i {x : Int} (h0 : 0 ≤ x) (h1 : x < 10 ^ 40) : Shw (.int x) 0 40 := shw_int (by omega) h0 h1 (by
  have : (x.natAbs : Int) < ((10 ^ 40 : Nat) : Int) := by
    rw [Int.natCast_pow]
    have e : ((x.natAbs : Nat) : Int) = x := by omega
    rw [e]
    exact h1
  exact Nat.lt_trans (Int.ofNat_lt.mp this) pow31)
theorem shw_bl (b : Bool) : Shw (.bool b) 0 5 := ⟨by simp [PyData.showable], by simp [PyData.hasDict], by simp [PyData.depth], by cases b <;> decide +kernel⟩
theorem shw_non : Shw .none 0 4 := ⟨by simp [PyData.showable], by simp [PyData.hasDict], by simp [PyData.depth], by decide +kernel⟩
theorem shw_str {x : Str} {n : Nat} (h : (PyData.str x).shown.length ≤ n) : Shw (.str x) 0 n := ⟨by simp [PyData.showable], by simp [PyData.hasDict], by simp [PyData.depth], h⟩
theorem shw_word (b : Bool) : Shw (.str (word b)) 0 8 := shw_str (by cases b <;> decide +kernel)
theorem shw_dword (b : Bool) : Shw (.str (dword b)) 0 7 := shw_str (by cases b <;> decide +kernel)
theorem shwL_nil {k : Nat} : ShwL [] k 0 := ⟨by simp [PyData.showableAll], by simp [PyData.hasDictAll], by simp [PyData.depthAll], by simp [PyData.shownAll, piled]⟩
theorem Shw.up {p : PyData} {k n k' n' : Nat} (h : Shw p k n) (hk : k ≤ k') (hn : n ≤ n') : Shw p k' n' := ⟨h.sh, h.nd, Nat.le_trans h.dp hk, Nat.le_trans h.len hn⟩
theorem ShwL.up {p : List PyData} {k n k' n' : Nat} (h : ShwL p k n) (hk : k ≤ k') (hn : n ≤ n') : ShwL p k' n' := ⟨h.sh, h.nd, Nat.le_trans h.dp hk, Nat.le_trans h.len hn⟩
theorem shwL_cons {p : PyData} {ps : List PyData} {k n j k' : Nat} (h : Shw p k' n) (r : ShwL ps k j) : ShwL (p :: ps) (max k k') (n + 2 + j) :=
  ⟨by simp [PyData.showableAll, h.sh, r.sh], by simp [PyData.hasDictAll, h.nd, r.nd], by have := h.dp; have := r.dp; simp only [PyData.depthAll]; omega, by
    have := h.len; have := r.len
    rw [PyData.shownAll, piled_cons]; omega⟩
theorem shw_tup {ps : List PyData} {k n : Nat} (h : ShwL ps k n) : Shw (.tuple ps) (k + 1) (n + 3) :=
  ⟨by simpa only [PyData.showable] using h.sh, by simpa only [PyData.hasDict] using h.nd, by have := h.dp; simp only [PyData.depth]; omega, by
    have := h.len
    have e : (PyData.tuple ps).shown = tupleText (PyData.shownAll ps) := by simp only [PyData.shown]
    rw [e]
    have := tupleText_le (PyData.shownAll ps); omega⟩
theorem shw_lst {ps : List PyData} {k n : Nat} (h : ShwL ps k n) : Shw (.list ps) (k + 1) (n + 2) :=
  ⟨by simpa only [PyData.showable] using h.sh, by simpa only [PyData.hasDict] using h.nd, by have := h.dp; simp only [PyData.depth]; omega, by
    have := h.len
    have e : (PyData.list ps).shown = listText (PyData.shownAll ps) := by simp only [PyData.shown]
    rw [e]
    have := listText_le (PyData.shownAll ps); omega⟩
/-- many of a kind -/
theorem shwL_all {k n : Nat} : ∀ ps : List PyData, (∀ p ∈ ps, Shw p k n) → ShwL ps k (ps.length * (n + 2))
  | [], _ => by simpa using shwL_nil
  | p :: ps, h => by
    have r := shwL_all ps fun q hq => h q (List.mem_cons_of_mem _ hq)
    have := shwL_cons (h p List.mem_cons_self) r
    rw [Nat.max_self] at this
    exact this.up (Nat.le_refl _) (by rw [List.length_cons, Nat.add_mul]; omega)
theorem shwL_ints (l : List Int) (h : ∀ x ∈ l, 0 ≤ x ∧ x < 10 ^ 40) : ShwL (l.map .int) 0 (l.length * 42) := by
  have := shwL_all (k := 0) (n := 40) (l.map .int) fun p hp => by
    obtain ⟨x, hx, rfl⟩ := List.mem_map.mp hp
    exact shw_i (h x hx).1 (h x hx).2
  simpa using this
def ReprOk (d : D) : Prop := ∃ x, bRepr [d] = some (.str x)
/-- the data d is shown as p, deep at most k, long at most n -/
structure Rw (d : D) (k n : Nat) : Prop where
  ex : ∃ p, toPy d = some p ∧ Shw p k n
structure RwL (ds : List D) (k n : Nat) : Prop where
  ex : ∃ ps, toPyL ds = some ps ∧ ShwL ps k n
theorem rw_int {x : Int} (h0 : 0 ≤ x) (h1 : x < 10 ^ 40) : Rw (.int x) 0 40 := ⟨_, by simp [toPy], shw_i h0 h1⟩
theorem rw_nat {x : Nat} (h1 : x < 10 ^ 9) : Rw (.int x) 0 40 := rw_int (by omega) (by omega)
theorem rw_bl (b : Bool) : Rw (.bl b) 0 40 := ⟨_, by simp [toPy], (shw_bl b).up (Nat.le_refl _) (by omega)⟩
theorem rw_non : Rw .non 0 40 := ⟨_, by simp [toPy], shw_non.up (Nat.le_refl _) (by omega)⟩
theorem rw_word (b : Bool) : Rw (.str (word b)) 0 40 := ⟨_, by simp [toPy], (shw_word b).up (Nat.le_refl _) (by omega)⟩
theorem rw_dword (b : Bool) : Rw (.str (dword b)) 0 40 := ⟨_, by simp [toPy], (shw_dword b).up (Nat.le_refl _) (by omega)⟩
theorem rwl_nil {k : Nat} : RwL [] k 0 := ⟨_, rfl, shwL_nil⟩
theorem rwl_cons {d : D} {ds : List D} {k k' n j : Nat} (h : Rw d k' n) (r : RwL ds k j) : RwL (d :: ds) (max k k') (n + 2 + j) := by
  obtain ⟨p, e1, s1⟩ := h.ex
  obtain ⟨ps, e2, s2⟩ := r.ex
  exact ⟨p :: ps, by simp [toPyL, e1, e2], shwL_cons s1 s2⟩
theorem rw_tup {ds : List D} {k n : Nat} (h : RwL ds k n) : Rw (.tup ds) (k + 1) (n + 3) := by
  obtain ⟨ps, e, s⟩ := h.ex
  exact ⟨_, by simp [toPy, e], shw_tup s⟩
theorem rw_lst {ds : List D} {k n : Nat} (h : RwL ds k n) : Rw (.lst ds) (k + 1) (n + 3) := by
  obtain ⟨ps, e, s⟩ := h.ex
  exact ⟨_, by simp [toPy, e], (shw_lst s).up (Nat.le_refl _) (by omega)⟩
theorem Rw.up {d : D} {k n k' n' : Nat} (h : Rw d k n) (hk : k ≤ k') (hn : n ≤ n') : Rw d k' n' := let ⟨p, e, s⟩ := h.ex; ⟨p, e, s.up hk hn⟩
theorem RwL.up {d : List D} {k n k' n' : Nat} (h : RwL d k n) (hk : k ≤ k') (hn : n ≤ n') : RwL d k' n' := let ⟨p, e, s⟩ := h.ex; ⟨p, e, s.up hk hn⟩
theorem rwl_all {k n : Nat} : ∀ {ds : List D}, (∀ d ∈ ds, Rw d k n) → RwL ds k (ds.length * (n + 2))
  | [], _ => by simpa using rwl_nil
  | d :: ds, h => by
    have r := rwl_all (ds := ds) fun q hq => h q (List.mem_cons_of_mem _ hq)
    have := rwl_cons (h d List.mem_cons_self) r
    rw [Nat.max_self] at this
    exact this.up (Nat.le_refl _) (by rw [List.length_cons, Nat.add_mul]; omega)
theorem rwl_ints {l : List Int} (h : ∀ x ∈ l, 0 ≤ x ∧ x < 10 ^ 40) : RwL (iD l) 0 (l.length * 42) := by
  have := rwl_all (k := 0) (n := 40) (ds := iD l) fun d hd => by
    obtain ⟨x, hx, rfl⟩ := mem_iD hd
    exact rw_int (h x hx).1 (h x hx).2
  simpa using this
theorem repr_of {d : D} {k n : Nat} (h : Rw d k n) (hk : k ≤ 64) (hn : n ≤ 16000000) (hd : (∃ ds, d = .tup ds) ∨ ∃ ds, d = .lst ds) : ReprOk d := by
  obtain ⟨p, e, s⟩ := h.ex
  have hl : p.shown.length ≤ sizeLine := by have := s.len; rw [sizeLine_eq]; omega
  have hdp : p.depth ≤ 64 := Nat.le_trans s.dp hk
  refine ⟨p.shown, ?_⟩
  rcases hd with ⟨ds, rfl⟩ | ⟨ds, rfl⟩
  · have : bRepr [.tup ds] = (toPy (.tup ds)).bind fun p => if p.showable = true ∧ p.depth ≤ 64 ∧ p.hasDict = false ∧ p.shown.length ≤ sizeLine then some (.str p.shown) else none := rfl
    rw [this, e, Option.bind_some, if_pos ⟨s.sh, hdp, s.nd, hl⟩]
  · have : bRepr [.lst ds] = (toPy (.lst ds)).bind fun p => if p.showable = true ∧ p.depth ≤ 64 ∧ p.hasDict = false ∧ p.shown.length ≤ sizeLine then some (.str p.shown) else none := rfl
    rw [this, e, Option.bind_some, if_pos ⟨s.sh, hdp, s.nd, hl⟩]
/-! ### sorters, wants, rows -/
theorem rw_side {l : List Int} (h : SideOk l) : Rw (.tup (iD l)) 1 200 := by
  have h3 : (3 : Int) < 10 ^ 40 := by decide +kernel
  have := rw_tup (rwl_ints (l := l) fun x hx => ⟨(h.rng x hx).1, by have := (h.rng x hx).2; omega⟩)
  exact this.up (by omega) (by have := h.l3; omega)
theorem rw_tst {t : Tst} (h : t.Ok) : Rw t.d 2 500 := (rw_tup (rwl_cons (rw_side h.l) (rwl_cons (rw_word t.b) (rwl_cons (rw_side h.r) (rwl_nil (k := 0)))))).up (by omega) (by omega)
theorem rw_ws {ts : List Tst} (hn : ts.length ≤ 3) (h : ∀ t ∈ ts, t.Ok) : Rw (wsD ts) 3 2000 := by
  have := rw_tup (rwl_all (k := 2) (n := 500) (ds := ts.map Tst.d) fun d hd => by
    obtain ⟨t, ht, rfl⟩ := List.mem_map.mp hd
    exact rw_tst (h t ht))
  exact this.up (by omega) (by simp; omega)
theorem rw_cl {c : Cl} (h : c.Ok) : Rw c.d 4 3000 := (rw_tup (rwl_cons (rw_ws h.n h.ok) (rwl_cons (rw_dword c.top) (rwl_nil (k := 0))))).up (by omega) (by omega)
theorem rw_cs {cs : List Cl} (hn : cs.length ≤ 6) (h : ∀ c ∈ cs, c.Ok) : Rw (csD cs) 5 20000 := by
  have := rw_tup (rwl_all (k := 4) (n := 3000) (ds := cs.map Cl.d) fun d hd => by
    obtain ⟨c, hc, rfl⟩ := List.mem_map.mp hd
    exact rw_cl (h c hc))
  exact this.up (by omega) (by simp; omega)
theorem rw_so {o : So} (h : o.Ok) : Rw o.d 6 50000 := (rw_tup (rwl_cons (rw_cs h.r6 h.ro) (rwl_cons (rw_cs (by have := h.f2; omega) h.fo) (rwl_nil (k := 0))))).up (by omega) (by omega)
theorem rw_row {l : List Int} (h : RowOk l) : Rw (.tup (iD l)) 1 20000 := by
  have := rw_tup (rwl_ints (l := l) fun x hx => ⟨by have := (h.2 x hx).1; omega, by
    have h1 := (h.2 x hx).2
    have : (1000000000000000000000000000000 : Int) < 10 ^ 40 := by decide +kernel
    omega⟩)
  exact this.up (by omega) (by have := h.1; omega)
theorem dNe_same (x : Str) : dNe (.str x) (.str x) = some (.bl false) := by simp [dNe]
theorem dEq_same (x : Str) : dEq (.str x) (.str x) = some (.bl true) := by simp [dEq]
theorem like2_spec {S : Type} {d : D} (h : ReprOk d) (s : S) : F_law_like_v2 [d, d] s = .ok (.bl true) s := by
  obtain ⟨x, e⟩ := h
  show endR false (c_law_like_v2 [Sl.val d, Sl.val d] s) = _
  simp [c_law_like_v2, e, dEq_same]
end Wd

set_option maxHeartbeats 0
/-! Bd: how great sums, costs, counts are; what repr may show of runs. -/
namespace Wd
open PySem PySem.Spec PyProof.Rows L2 Q
structure Bd (M : Int) (q : List Int) : Prop where
  pos : ∀ x ∈ q, 1 ≤ x
  sum : q.sum ≤ M
theorem sum_nn : ∀ {q : List Int}, (∀ x ∈ q, 1 ≤ x) → 0 ≤ q.sum
  | [], _ => by simp
  | x :: q, h => by
    have := sum_nn (q := q) fun y hy => h y (List.mem_cons_of_mem _ hy)
    have := h x List.mem_cons_self
    simp only [List.sum_cons]
    omega
theorem mem_le_sum : ∀ {q : List Int}, (∀ x ∈ q, 1 ≤ x) → ∀ x ∈ q, x ≤ q.sum
  | [], _, x, hx => by cases hx
  | y :: q, h, x, hx => by
    have h0 := sum_nn (q := q) fun z hz => h z (List.mem_cons_of_mem _ hz)
    have h1 := h y List.mem_cons_self
    simp only [List.sum_cons]
    rcases List.mem_cons.mp hx with rfl | hx
    · omega
    · have := mem_le_sum (q := q) (fun z hz => h z (List.mem_cons_of_mem _ hz)) x hx
      omega
theorem mrg_sum (b : Bool) (q : List Int) : (mrg b q).sum = q.sum := by
  cases b with
  | true => match q with
    | [] => rfl
    | [_] => rfl
    | x :: y :: r => simp [mrg]; omega
  | false => match q with
    | [] => rfl
    | [_] => rfl
    | [_, _] => rfl
    | x :: y :: z :: r => simp [mrg]; omega
theorem Bd.mrg {M : Int} {q : List Int} (h : Bd M q) (b : Bool) : Bd M (mrg b q) := ⟨mrg_pos b q h.pos, by rw [mrg_sum]; exact h.sum⟩
theorem Bd.amt {M : Int} {q : List Int} (h : Bd M q) {b : Bool} (hb : need b ≤ q.length) : 0 ≤ amt b q ∧ amt b q ≤ M := by
  have hs := h.sum
  have hp := h.pos
  cases b with
  | true => match q, hb with
    | x :: y :: r, _ =>
      have h0 := sum_nn (q := r) fun z hz => hp z (by simp [hz])
      have h1 := hp x (by simp)
      have h2 := hp y (by simp)
      simp only [List.sum_cons] at hs
      simp only [Wd.amt]
      omega
  | false => match q, hb with
    | x :: y :: w :: r, _ =>
      have h0 := sum_nn (q := r) fun z hz => hp z (by simp [hz])
      have h1 := hp x (by simp)
      have h2 := hp y (by simp)
      have h3 := hp w (by simp)
      simp only [List.sum_cons] at hs
      simp only [Wd.amt]
      omega
theorem succ_mul' (n : Nat) (M : Int) : ((n + 1 : Nat) : Int) * M = M + n * M := by rw [Int.natCast_add, Int.add_mul]; simp; omega
theorem fallN_bd {M : Int} (cs : List Cl) : ∀ (n : Nat) (q : List Int), Bd M q → Bd M (fallN cs n q).2.1 ∧ 0 ≤ (fallN cs n q).2.2 ∧ (fallN cs n q).2.2 ≤ ((fallN cs n q).1.length : Nat) * M
  | 0, q, h => by simpa [fallN] using h
  | n + 1, q, h => by
    unfold fallN
    cases e : first q cs with
    | none => simpa using h
    | some b =>
      obtain ⟨h1, h2, h3⟩ := fallN_bd cs n (mrg b q) (h.mrg b)
      have ha := h.amt (first_need e)
      refine ⟨h1, by simp only; omega, ?_⟩
      simp only [List.length_cons]
      rw [succ_mul']
      omega
theorem fall_bd {M : Int} {cs : List Cl} {q : List Int} (h : Bd M q) : Bd M (fall cs q).2.1 ∧ 0 ≤ (fall cs q).2.2 ∧ (fall cs q).2.2 ≤ ((fall cs q).1.length : Nat) * M := fallN_bd cs q.length q h
theorem endN_bd {M : Int} (cs : List Cl) : ∀ (n : Nat) (q : List Int), Bd M q → (endN cs n q).1.length ≤ q.length ∧ 0 ≤ (endN cs n q).2 ∧ (endN cs n q).2 ≤ ((endN cs n q).1.length : Nat) * M
  | 0, q, h => by simp [endN]
  | n + 1, q, h => by
    unfold endN
    by_cases hl : q.length ≤ 1
    · rw [if_pos hl]; simp
    · rw [if_neg hl]
      have hb := nextB_need (cs := cs) (q := q) (by omega)
      have h1 := mrg_len _ q hb
      obtain ⟨h2, h3, h4⟩ := endN_bd cs n (mrg (nextB cs q) q) (h.mrg _)
      have ha := h.amt hb
      refine ⟨by simp only [List.length_cons]; omega, by simp only; omega, ?_⟩
      simp only [List.length_cons]
      rw [succ_mul']
      omega
theorem ends_bd {M : Int} {cs : List Cl} {q : List Int} (h : Bd M q) : (ends cs q).1.length ≤ q.length ∧ 0 ≤ (ends cs q).2 ∧ (ends cs q).2 ≤ ((ends cs q).1.length : Nat) * M := endN_bd cs q.length q h
/-- what is known of a pile behind a push -/
structure Ro (M : Int) (n : Nat) (r : List Bool × List Int × Int) : Prop where
  bd : Bd M r.2.1
  ln : r.2.1.length ≤ n
  ld : r.1.length ≤ n
  c0 : 0 ≤ r.2.2
  cm : r.2.2 ≤ (n : Int) * M
theorem Bd.nn {M : Int} {q : List Int} (h : Bd M q) : 0 ≤ M := Int.le_trans (sum_nn h.pos) h.sum
theorem ro_fall {M : Int} {n : Nat} {cs : List Cl} {q : List Int} (h : Bd M q) (hn : q.length ≤ n) : Ro M n (fall cs q) := by
  obtain ⟨h1, h2, h3⟩ := fall_bd (cs := cs) h
  have hl := fall_len cs q
  refine ⟨h1, by omega, by omega, h2, Int.le_trans h3 (Int.mul_le_mul_of_nonneg_right (by omega) h.nn)⟩
theorem along_ro {M : Int} {n : Nat} (cs : List Cl) : ∀ (l q : List Int), (∀ x ∈ l, 1 ≤ x) → (∀ x ∈ q, 1 ≤ x) → q.sum + l.sum ≤ M → q.length + l.length ≤ n → (∀ r ∈ along cs l q, Ro M n r) ∧ Bd M (lastP cs l q)
  | [], q, _, hq, hs, hn => ⟨by simp [along], ⟨hq, by simp only [List.sum_nil] at hs; show q.sum ≤ M; omega⟩⟩
  | x :: l, q, hl, hq, hs, hn => by
    have hl0 := sum_nn (q := l) fun z hz => hl z (List.mem_cons_of_mem _ hz)
    have hx := hl x List.mem_cons_self
    simp only [List.sum_cons, List.length_cons] at hs hn
    have hb : Bd (q.sum + x) (x :: q) := ⟨fun z hz => by
      rcases List.mem_cons.mp hz with rfl | hz
      · exact hx
      · exact hq z hz, by simp; omega⟩
    have hb' : Bd M (x :: q) := ⟨hb.pos, by have := hb.sum; omega⟩
    have hf := fall_bd (cs := cs) hb
    have hfl := fall_len cs (x :: q)
    simp only [List.length_cons] at hfl
    obtain ⟨i1, i2⟩ := along_ro (M := M) (n := n) cs l (fall cs (x :: q)).2.1 (fun z hz => hl z (List.mem_cons_of_mem _ hz)) hf.1.pos (by have := hf.1.sum; omega) (by omega)
    refine ⟨fun r hr => ?_, i2⟩
    simp only [along, List.mem_cons] at hr
    rcases hr with rfl | hr
    · exact ro_fall hb' (by simp; omega)
    · exact i1 r hr
theorem costs_bd {M : Int} {n : Nat} : ∀ {rs : List (List Bool × List Int × Int)}, (∀ r ∈ rs, Ro M n r) → 0 ≤ costs rs ∧ costs rs ≤ (rs.length : Int) * (n * M)
  | [], _ => by simp [costs]
  | r :: rs, h => by
    have ih := costs_bd (rs := rs) fun z hz => h z (List.mem_cons_of_mem _ hz)
    have h1 := h r List.mem_cons_self
    have := h1.c0
    have := h1.cm
    have e : costs (r :: rs) = r.2.2 + costs rs := by simp [costs]
    rw [e, List.length_cons, succ_mul']
    omega
/-- the greatest sum of thirty lengths -/
abbrev MM : Int := 30000000000000000000000000000000
theorem sum_le : ∀ {l : List Int}, (∀ x ∈ l, x ≤ 1000000000000000000000000000000) → l.sum ≤ (l.length : Int) * 1000000000000000000000000000000
  | [], _ => by simp
  | x :: l, h => by
    have := sum_le (l := l) fun z hz => h z (List.mem_cons_of_mem _ hz)
    have := h x List.mem_cons_self
    simp only [List.sum_cons, List.length_cons]
    rw [succ_mul']
    omega
theorem big40 : (100000000000000000000000000000000000000 : Int) < 10 ^ 40 := by decide +kernel
/-! ### counts -/
theorem doDs_cnt {k n : Nat} : ∀ {ds : List Bool} {st : TS} {c : Int}, fine st.t.length ds → Inv' k n st.t → (∀ i, 0 ≤ st.f i ∧ st.f i ≤ c) → ∀ i, 0 ≤ (doDs ds st).f i ∧ (doDs ds st).f i ≤ c + ds.length
  | [], st, c, _, _, h => fun i => by simpa [doDs] using h i
  | b :: ds, st, c, hf, hi, h => fun i => by
    have hl := doD_len hf.1
    have hc : ∀ i, 0 ≤ (doD b st).f i ∧ (doD b st).f i ≤ c + 1 := fun i => by
      have h1 := h i
      have h2 := List.nodup_iff_count.mp (hi.both b).2.1 i
      simp only [doD]
      omega
    have := doDs_cnt (ds := ds) (st := doD b st) (by rw [hl]; exact hf.2) (hi.mL b) hc i
    have e : doDs (b :: ds) st = doDs ds (doD b st) := rfl
    rw [e, List.length_cons]
    omega
theorem tGo_cnt {n z : Nat} : ∀ {r : List (List Bool)} {k : Nat} {st : TS} {c : Int}, (∀ ds ∈ r, ds.length ≤ z) → fineAll n k st.t.length r → Inv' k n st.t → (∀ i, 0 ≤ st.f i ∧ st.f i ≤ c) → ∀ i, 0 ≤ (tGo n k r st).f i ∧ (tGo n k r st).f i ≤ c + r.length * z
  | [], k, st, c, _, _, _, h => fun i => by simpa [tGo] using h i
  | ds :: r, k, st, c, hz, hf, hi, h => fun i => by
    obtain ⟨hi1, hl1⟩ := psh_inv hi
    have hf1 : fine (psh n k st).t.length ds := by rw [hl1]; exact hf.1
    obtain ⟨hi2, hl2⟩ := doDs_inv hf1 hi1
    have hp : ∀ i, 0 ≤ (psh n k st).f i ∧ (psh n k st).f i ≤ c := fun i => by
      unfold psh
      split
      · exact h i
      · exact h i
    have h1 := doDs_cnt hf1 hi1 hp
    have hd := hz ds List.mem_cons_self
    have := tGo_cnt (r := r) (c := c + z) (fun d hd => hz d (List.mem_cons_of_mem _ hd)) (by rw [hl2, hl1]; exact hf.2) hi2 (fun i => by have := h1 i; omega) i
    rw [tGo, List.length_cons, succ_mul']
    omega
/-! ### what repr may show -/
theorem rw_pile {q : List Int} (h : Bd MM q) (hl : q.length ≤ 40) : Rw (.tup (iD q.reverse)) 1 2000 := by
  have := rw_tup (rwl_ints (l := q.reverse) fun x hx => by
    rw [List.mem_reverse] at hx
    have h1 := h.pos x hx
    have h2 := mem_le_sum h.pos x hx
    have h3 := h.sum
    have := big40
    unfold MM at h3
    omega)
  exact this.up (by omega) (by simp; omega)
theorem rw_deeds {ds : List Bool} (hl : ds.length ≤ 40) : Rw (.tup (dsD ds)) 1 2000 := by
  have := rw_tup (rwl_all (k := 0) (n := 40) (ds := dsD ds) fun d hd => by
    obtain ⟨b, _, rfl⟩ := List.mem_map.mp hd
    exact rw_dword b)
  exact this.up (by omega) (by simp [dsD]; omega)
theorem rw_piles {rs : List (List Bool × List Int × Int)} (h : ∀ r ∈ rs, Ro MM 31 r) (hl : rs.length ≤ 40) : Rw (.tup (rs.map pD)) 2 90000 := by
  have := rw_tup (rwl_all (k := 1) (n := 2000) (ds := rs.map pD) fun d hd => by
    obtain ⟨r, hr, rfl⟩ := List.mem_map.mp hd
    exact rw_pile (h r hr).bd (by have := (h r hr).ln; omega))
  exact this.up (by omega) (by simp; omega)
theorem rw_es {dss : List (List Bool)} (h : ∀ ds ∈ dss, ds.length ≤ 40) (hl : dss.length ≤ 40) : Rw (.tup (esD dss)) 2 90000 := by
  have := rw_tup (rwl_all (k := 1) (n := 2000) (ds := esD dss) fun d hd => by
    obtain ⟨r, hr, rfl⟩ := List.mem_map.mp hd
    exact rw_deeds (h r hr))
  exact this.up (by omega) (by simp [esD]; omega)
theorem rw_cnt {n : Nat} {f : Nat → Int} (h : ∀ i, 0 ≤ f i ∧ f i ≤ 100000) (hn : n ≤ 40) : Rw (.tup (cD n f)) 1 2000 := by
  have := rw_tup (rwl_all (k := 0) (n := 40) (ds := cD n f) fun d hd => by
    obtain ⟨i, _, rfl⟩ := List.mem_map.mp hd
    have := big40
    exact rw_int (h i).1 (by have := (h i).2; omega))
  exact this.up (by omega) (by simp; omega)
/-- all that is known of a row of thirty lengths -/
structure Wo (o : So) (l : List Int) : Prop where
  ro : ∀ r ∈ along o.rule l [], Ro MM 31 r
  lp : Bd MM (lastP o.rule l [])
  ll : (lastP o.rule l []).length ≤ 31
  le : (ends o.fin (lastP o.rule l [])).1.length ≤ 31
  c0 : 0 ≤ costOf o l
  cm : costOf o l ≤ 100000000000000000000000000000000000000
  t0 : ∀ i, 0 ≤ tchF o l i ∧ tchF o l i ≤ 100000
  h0 : 0 ≤ highest (along o.rule l []) ∧ highest (along o.rule l []) ≤ 31
theorem fmax_le {b : Int} : ∀ {l : List Int} {a : Int}, 0 ≤ a → a ≤ b → (∀ x ∈ l, x ≤ b) → 0 ≤ l.foldl max a ∧ l.foldl max a ≤ b
  | [], a, h0, h, _ => ⟨h0, h⟩
  | x :: l, a, h0, h, hx => by
    have := hx x List.mem_cons_self
    exact fmax_le (l := l) (a := max a x) (by omega) (by omega) fun z hz => hx z (List.mem_cons_of_mem _ hz)
theorem wo_of {o : So} {l : List Int} (h : RowOk l) (hl : l.length ≤ 30) : Wo o l := by
  have hs := sum_le fun x hx => (h.2 x hx).2
  have hm : l.sum ≤ MM := by
    have : (l.length : Int) * 1000000000000000000000000000000 ≤ 30 * 1000000000000000000000000000000 := Int.mul_le_mul_of_nonneg_right (by omega) (by omega)
    unfold MM
    omega
  obtain ⟨h1, h2⟩ := along_ro (M := MM) (n := 31) o.rule l [] (fun x hx => (h.2 x hx).1) (by simp) (by simpa using hm) (by simp; omega)
  have h3 := lastP_len o.rule l []
  simp only [List.length_nil, Nat.zero_add] at h3
  obtain ⟨e1, e2, e3⟩ := ends_bd (cs := o.fin) h2
  have hc := costs_bd h1
  rw [along_len] at hc
  have hc2 : (l.length : Int) * ((31 : Nat) * MM) ≤ 30 * (31 * MM) := Int.mul_le_mul_of_nonneg_right (by omega) (by unfold MM; omega)
  have he2 : ((ends o.fin (lastP o.rule l [])).1.length : Int) * MM ≤ 31 * MM := Int.mul_le_mul_of_nonneg_right (by omega) (by unfold MM; omega)
  refine ⟨h1, h2, by omega, by omega, ?_, ?_, ?_, ?_⟩
  · unfold costOf; omega
  · unfold costOf; unfold MM at *; omega
  · intro i
    have := tGo_cnt (n := l.length) (z := 31) (r := allD o l) (k := 0) (st := ⟨[], fun _ => 0⟩) (c := 0) (fun ds hd => by
      unfold allD at hd
      rw [List.mem_append] at hd
      rcases hd with hd | hd
      · obtain ⟨r, hr, rfl⟩ := List.mem_map.mp hd
        exact (h1 r hr).ld
      · simp at hd
        subst hd
        omega) (allD_fine o l) (inv0 _) (fun i => by simp) i
    have hlen : (allD o l).length = l.length + 1 := by simp [allD, dOf_len]
    rw [hlen] at this
    unfold tchF
    omega
  · unfold highest
    refine fmax_le (by omega) (by omega) fun x hx => ?_
    obtain ⟨r, hr, rfl⟩ := List.mem_map.mp hx
    have := (h1 r hr).ln
    omega
theorem rw_run {o : So} {l : List Int} (w : Wo o l) (hl : l.length ≤ 30) : Rw (runD o l) 3 200000 := by
  rw [runD_eq]
  have hd : ∀ ds ∈ dOf o.rule l [], ds.length ≤ 40 := fun ds hd => by
    obtain ⟨r, hr, rfl⟩ := List.mem_map.mp hd
    have := (w.ro r hr).ld
    omega
  have hc := w.cm
  have := big40
  exact (rw_tup (rwl_cons (rw_es hd (by rw [dOf_len]; omega)) (rwl_cons (rw_deeds (by have := w.le; omega)) (rwl_cons (rw_int w.c0 (by omega)) (rwl_nil (k := 0)))))).up (by omega) (by omega)
end Wd

set_option maxHeartbeats 0
/-! the head of k03 -/
namespace H03
open PySem PySem.Spec PyProof.Rows L2
def top (i : Nat) : Stmt := PySem.Challenge.pw_pilerules_k03_whole_runs.main.body.getD i (.Pass ⟨0, 0, 0, 0⟩)
def dd (x : Str) (i : Nat) : He.DefD := ⟨(x, none), x, x, defArgs (top i), defBody (top i), defScope (top i), [], []⟩
def fn0 : List He.DefD := [dd "is_whole" 16, dd "is_side" 17, dd "is_test" 18, dd "wrong_in_tests" 19, dd "wrong_in_clause" 20, dd "wrong_in_clauses" 21, dd "need_sorter" 22, dd "need_lengths" 23, dd "reach_of" 24, dd "entry" 25, dd "holds_at" 26, dd "does_apply" 27, dd "first_deed" 28, dd "need_pile" 30, dd "merged" 31, dd "amount_of" 32, dd "fallen" 33, dd "ended_of" 34, dd "pushed" 35, dd "ended" 36, dd "gone_along" 37, dd "piles_behind" 38, dd "run" 39, dd "cost" 40, dd "deepest" 41, dd "touched" 42, dd "_law_mixed" 44, dd "_law_folded" 45, dd "_law_draw" 46, dd "_law_begun" 47]
def fn1 : List He.DefD := [dd "_law_like" 48, dd "_law_of" 49, dd "_law_side" 50, dd "_law_test" 51, dd "_law_clauses" 52, dd "_law_sorts" 53, dd "_law_row" 54, dd "_law_holds" 55, dd "_law_deed" 56, dd "_law_done" 57, dd "_law_fall" 58, dd "_law_end" 59, dd "_law_touched" 60, dd "law" 61]
def fn : List He.DefD := fn0 ++ fn1
def fa0 : List He.Fa := [.glo "is_whole", .glo "is_side", .glo "is_test", .glo "wrong_in_tests", .glo "wrong_in_clause", .glo "wrong_in_clauses", .glo "need_sorter", .glo "need_lengths", .glo "reach_of", .glo "entry", .glo "holds_at", .glo "does_apply", .glo "first_deed", .glo "need_pile", .glo "merged", .glo "amount_of", .glo "fallen", .glo "ended_of", .glo "pushed", .glo "ended", .glo "gone_along", .glo "piles_behind", .glo "run", .glo "cost", .glo "deepest", .glo "touched", .glo "_law_mixed", .glo "_law_folded", .glo "_law_draw", .glo "_law_begun"]
def fa1 : List He.Fa := [.glo "_law_like", .glo "_law_of", .glo "_law_side", .glo "_law_test", .glo "_law_clauses", .glo "_law_sorts", .glo "_law_row", .glo "_law_holds", .glo "_law_deed", .glo "_law_done", .glo "_law_fall", .glo "_law_end", .glo "_law_touched", .glo "law", .free "len", .free "int", .free "abs", .free "tuple", .free "list", .free "sum", .free "max", .free "min", .free "all", .free "any", .free "repr", .free "isinstance", .free "range", .free "enumerate", .free "zip", .free "bool"]
def fa2 : List He.Fa := [.free "str", .free "dict", .free "sorted", .free "set", .int "MOST_REACH" (3), .int "MOST_SIDE" (3), .int "MOST_TESTS" (3), .int "MOST_CLAUSES" (6), .int "MOST_FINISH" (2), .int "MOST_LENGTH" (1000000000000000000000000000000), .int "MOST_LENGTHS" (400), .str "BELOW" "below", .str "ATMOST" "atmost", .str "TOP" "top", .str "UNDER" "under"]
def fa : List He.Fa := fa0 ++ fa1 ++ fa2
def names0 : List PySem.Str := ["is_whole", "is_side", "is_test", "wrong_in_tests", "wrong_in_clause", "wrong_in_clauses", "need_sorter", "need_lengths", "reach_of", "entry", "holds_at", "does_apply", "first_deed", "need_pile", "merged", "amount_of", "fallen", "ended_of", "pushed", "ended", "gone_along", "piles_behind", "run", "cost", "deepest", "touched", "_law_mixed", "_law_folded", "_law_draw", "_law_begun"]
def names1 : List PySem.Str := ["_law_like", "_law_of", "_law_side", "_law_test", "_law_clauses", "_law_sorts", "_law_row", "_law_holds", "_law_deed", "_law_done", "_law_fall", "_law_end", "_law_touched", "MOST_REACH", "MOST_SIDE", "MOST_TESTS", "MOST_CLAUSES", "MOST_FINISH", "MOST_LENGTH", "MOST_LENGTHS", "BELOW", "ATMOST", "TOP", "UNDER", "PileError", "BadSorter", "BadLengths"]
def names : List PySem.Str := names0 ++ names1
abbrev R : PySem.W.OpenRow := PySem.W.OpenLaw.row PySem.Challenge.rw_pilerules_k03_whole_runs
abbrev hk : PySem.W.Hook := He.hookD 4 fa fn
def ob (s : PySem.W.SharedT) : He.AlD := He.obsDG 4 fa fn (HandSHeadRun.getT s)
theorem ob_eq (s : PySem.W.SharedT) : ob s = hk.obs s.abs := He.obsDG_eq (HandSHeadRun.getT_eq s)
theorem run (w : World) : HandSHeadRun.RunEq R (PySem.W.view R.prog [61]) hk ob 6000 names w := by
  intro os
  kernel_rfl
end H03

set_option maxHeartbeats 0
/-! what the reader gives: k03 -/
namespace D03
open PySem PySem.Spec PyProof.Rows L2 Q Wd
abbrev top := H03.top
def glo : Str → Option D := fun x => if x = "MOST_REACH" then some (.int 3) else if x = "MOST_SIDE" then some (.int 3) else if x = "MOST_TESTS" then some (.int 3) else if x = "MOST_CLAUSES" then some (.int 6) else if x = "MOST_FINISH" then some (.int 2) else if x = "MOST_LENGTH" then some (.int 1000000000000000000000000000000) else if x = "MOST_LENGTHS" then some (.int 400) else if x = "BELOW" then some (.str "below") else if x = "ATMOST" then some (.str "atmost") else if x = "TOP" then some (.str "top") else if x = "UNDER" then some (.str "under") else none
def gis_whole {S : Type} : Gk S := { glo := glo, cal := fun x => none, sp := moreSp }
def kis_whole {S : Type} : Dk S := { G := gis_whole (S := S), N := nis_whole, sc := defScope (top 16), ow := [], wf := 0, st := moreSt (gis_whole (S := S)) nis_whole (defScope (top 16)) [] }
theorem eis_whole {S : Type} : exs (kis_whole (S := S)) 60 (defBody (top 16)) = cis_whole (S := S) := by kernel_rfl
def gis_side {S : Type} (Fis_whole : FF S) : Gk S := { glo := glo, cal := fun x => if x = "is_whole" then some ⟨3, false, Fis_whole⟩ else none, sp := moreSp }
def kis_side {S : Type} (Fis_whole : FF S) : Dk S := { G := gis_side (S := S) Fis_whole, N := nis_side, sc := defScope (top 17), ow := [], wf := 0, st := moreSt (gis_side (S := S) Fis_whole) nis_side (defScope (top 17)) [] }
theorem eis_side {S : Type} (Fis_whole : FF S) : exs (kis_side (S := S) Fis_whole) 60 (defBody (top 17)) = cis_side (S := S) Fis_whole := by kernel_rfl
def gis_test {S : Type} (Fis_side : FF S) : Gk S := { glo := glo, cal := fun x => if x = "is_side" then some ⟨1, false, Fis_side⟩ else none, sp := moreSp }
def kis_test {S : Type} (Fis_side : FF S) : Dk S := { G := gis_test (S := S) Fis_side, N := nis_test, sc := defScope (top 18), ow := [], wf := 0, st := moreSt (gis_test (S := S) Fis_side) nis_test (defScope (top 18)) [] }
theorem eis_test {S : Type} (Fis_side : FF S) : exs (kis_test (S := S) Fis_side) 60 (defBody (top 18)) = cis_test (S := S) Fis_side := by kernel_rfl
def gwrong_in_tests {S : Type} (Fis_test : FF S) : Gk S := { glo := glo, cal := fun x => if x = "is_test" then some ⟨1, false, Fis_test⟩ else none, sp := moreSp }
def kwrong_in_tests {S : Type} (Fis_test : FF S) : Dk S := { G := gwrong_in_tests (S := S) Fis_test, N := nwrong_in_tests, sc := defScope (top 19), ow := [], wf := 0, st := moreSt (gwrong_in_tests (S := S) Fis_test) nwrong_in_tests (defScope (top 19)) [] }
theorem ewrong_in_tests {S : Type} (Fis_test : FF S) : exs (kwrong_in_tests (S := S) Fis_test) 60 (defBody (top 19)) = cwrong_in_tests (S := S) Fis_test := by kernel_rfl
def gwrong_in_clause {S : Type} (Fwrong_in_tests : FF S) : Gk S := { glo := glo, cal := fun x => if x = "wrong_in_tests" then some ⟨2, false, Fwrong_in_tests⟩ else none, sp := moreSp }
def kwrong_in_clause {S : Type} (Fwrong_in_tests : FF S) : Dk S := { G := gwrong_in_clause (S := S) Fwrong_in_tests, N := nwrong_in_clause, sc := defScope (top 20), ow := [], wf := 0, st := moreSt (gwrong_in_clause (S := S) Fwrong_in_tests) nwrong_in_clause (defScope (top 20)) [] }
theorem ewrong_in_clause {S : Type} (Fwrong_in_tests : FF S) : exs (kwrong_in_clause (S := S) Fwrong_in_tests) 60 (defBody (top 20)) = cwrong_in_clause (S := S) Fwrong_in_tests := by kernel_rfl
def gwrong_in_clauses {S : Type} (Fwrong_in_clause : FF S) : Gk S := { glo := glo, cal := fun x => if x = "wrong_in_clause" then some ⟨1, false, Fwrong_in_clause⟩ else none, sp := moreSp }
def kwrong_in_clauses {S : Type} (Fwrong_in_clause : FF S) : Dk S := { G := gwrong_in_clauses (S := S) Fwrong_in_clause, N := nwrong_in_clauses, sc := defScope (top 21), ow := [], wf := 0, st := moreSt (gwrong_in_clauses (S := S) Fwrong_in_clause) nwrong_in_clauses (defScope (top 21)) [] }
theorem ewrong_in_clauses {S : Type} (Fwrong_in_clause : FF S) : exs (kwrong_in_clauses (S := S) Fwrong_in_clause) 60 (defBody (top 21)) = cwrong_in_clauses (S := S) Fwrong_in_clause := by kernel_rfl
def gneed_sorter {S : Type} (Fwrong_in_clauses : FF S) : Gk S := { glo := glo, cal := fun x => if x = "wrong_in_clauses" then some ⟨3, false, Fwrong_in_clauses⟩ else none, sp := moreSp }
def kneed_sorter {S : Type} (Fwrong_in_clauses : FF S) : Dk S := { G := gneed_sorter (S := S) Fwrong_in_clauses, N := nneed_sorter, sc := defScope (top 22), ow := [], wf := 0, st := moreSt (gneed_sorter (S := S) Fwrong_in_clauses) nneed_sorter (defScope (top 22)) [] }
theorem eneed_sorter {S : Type} (Fwrong_in_clauses : FF S) : exs (kneed_sorter (S := S) Fwrong_in_clauses) 60 (defBody (top 22)) = cneed_sorter (S := S) Fwrong_in_clauses := by kernel_rfl
def gneed_lengths {S : Type} (Fis_whole : FF S) : Gk S := { glo := glo, cal := fun x => if x = "is_whole" then some ⟨3, false, Fis_whole⟩ else none, sp := moreSp }
def kneed_lengths {S : Type} (Fis_whole : FF S) : Dk S := { G := gneed_lengths (S := S) Fis_whole, N := nneed_lengths, sc := defScope (top 23), ow := [], wf := 0, st := moreSt (gneed_lengths (S := S) Fis_whole) nneed_lengths (defScope (top 23)) [] }
theorem eneed_lengths {S : Type} (Fis_whole : FF S) : exs (kneed_lengths (S := S) Fis_whole) 60 (defBody (top 23)) = cneed_lengths (S := S) Fis_whole := by kernel_rfl
def greach_of {S : Type} : Gk S := { glo := glo, cal := fun x => none, sp := moreSp }
def kreach_of {S : Type} : Dk S := { G := greach_of (S := S), N := nreach_of, sc := defScope (top 24), ow := [], wf := 0, st := moreSt (greach_of (S := S)) nreach_of (defScope (top 24)) [] }
theorem ereach_of {S : Type} : exs (kreach_of (S := S)) 60 (defBody (top 24)) = creach_of (S := S) := by kernel_rfl
def gentry {S : Type} : Gk S := { glo := glo, cal := fun x => none, sp := moreSp }
def kentry {S : Type} : Dk S := { G := gentry (S := S), N := nentry, sc := defScope (top 25), ow := [], wf := 0, st := moreSt (gentry (S := S)) nentry (defScope (top 25)) [] }
theorem eentry {S : Type} : exs (kentry (S := S)) 60 (defBody (top 25)) = centry (S := S) := by kernel_rfl
def gholds_at {S : Type} (Fentry : FF S) : Gk S := { glo := glo, cal := fun x => if x = "entry" then some ⟨2, false, Fentry⟩ else none, sp := moreSp }
def kholds_at {S : Type} (Fentry : FF S) : Dk S := { G := gholds_at (S := S) Fentry, N := nholds_at, sc := defScope (top 26), ow := [], wf := 0, st := moreSt (gholds_at (S := S) Fentry) nholds_at (defScope (top 26)) [] }
theorem eholds_at {S : Type} (Fentry : FF S) : exs (kholds_at (S := S) Fentry) 60 (defBody (top 26)) = cholds_at (S := S) Fentry := by kernel_rfl
def gdoes_apply {S : Type} (Fholds_at : FF S) (Freach_of : FF S) : Gk S := { glo := glo, cal := fun x => if x = "holds_at" then some ⟨3, false, Fholds_at⟩ else if x = "reach_of" then some ⟨1, false, Freach_of⟩ else none, sp := moreSp }
def kdoes_apply {S : Type} (Fholds_at : FF S) (Freach_of : FF S) : Dk S := { G := gdoes_apply (S := S) Fholds_at Freach_of, N := ndoes_apply, sc := defScope (top 27), ow := [], wf := 0, st := moreSt (gdoes_apply (S := S) Fholds_at Freach_of) ndoes_apply (defScope (top 27)) [] }
theorem edoes_apply {S : Type} (Fholds_at : FF S) (Freach_of : FF S) : exs (kdoes_apply (S := S) Fholds_at Freach_of) 60 (defBody (top 27)) = cdoes_apply (S := S) Fholds_at Freach_of := by kernel_rfl
def gfirst_deed {S : Type} (Fdoes_apply : FF S) : Gk S := { glo := glo, cal := fun x => if x = "does_apply" then some ⟨2, false, Fdoes_apply⟩ else none, sp := moreSp }
def kfirst_deed {S : Type} (Fdoes_apply : FF S) : Dk S := { G := gfirst_deed (S := S) Fdoes_apply, N := nfirst_deed, sc := defScope (top 28), ow := [], wf := 0, st := moreSt (gfirst_deed (S := S) Fdoes_apply) nfirst_deed (defScope (top 28)) [] }
theorem efirst_deed {S : Type} (Fdoes_apply : FF S) : exs (kfirst_deed (S := S) Fdoes_apply) 60 (defBody (top 28)) = cfirst_deed (S := S) Fdoes_apply := by kernel_rfl
def gneed_pile {S : Type} : Gk S := { glo := glo, cal := fun x => none, sp := moreSp }
def kneed_pile {S : Type} : Dk S := { G := gneed_pile (S := S), N := nneed_pile, sc := defScope (top 30), ow := [], wf := 0, st := moreSt (gneed_pile (S := S)) nneed_pile (defScope (top 30)) [] }
theorem eneed_pile {S : Type} : exs (kneed_pile (S := S)) 60 (defBody (top 30)) = cneed_pile (S := S) := by kernel_rfl
def gmerged {S : Type} : Gk S := { glo := glo, cal := fun x => none, sp := moreSp }
def kmerged {S : Type} : Dk S := { G := gmerged (S := S), N := nmerged, sc := defScope (top 31), ow := [], wf := 0, st := moreSt (gmerged (S := S)) nmerged (defScope (top 31)) [] }
theorem emerged {S : Type} : exs (kmerged (S := S)) 60 (defBody (top 31)) = cmerged (S := S) := by kernel_rfl
def gamount_of {S : Type} : Gk S := { glo := glo, cal := fun x => none, sp := moreSp }
def kamount_of {S : Type} : Dk S := { G := gamount_of (S := S), N := namount_of, sc := defScope (top 32), ow := [], wf := 0, st := moreSt (gamount_of (S := S)) namount_of (defScope (top 32)) [] }
theorem eamount_of {S : Type} : exs (kamount_of (S := S)) 60 (defBody (top 32)) = camount_of (S := S) := by kernel_rfl
def gfallen {S : Type} (Ffirst_deed : FF S) (Famount_of : FF S) (Fmerged : FF S) (WF : Nat) : Gk S := { glo := glo, cal := fun x => if x = "first_deed" then some ⟨2, false, Ffirst_deed⟩ else if x = "amount_of" then some ⟨2, false, Famount_of⟩ else if x = "merged" then some ⟨2, false, Fmerged⟩ else none, sp := moreSp }
def kfallen {S : Type} (Ffirst_deed : FF S) (Famount_of : FF S) (Fmerged : FF S) (WF : Nat) : Dk S := { G := gfallen (S := S) Ffirst_deed Famount_of Fmerged WF, N := nfallen, sc := defScope (top 33), ow := ["deeds"], wf := WF, st := moreSt (gfallen (S := S) Ffirst_deed Famount_of Fmerged WF) nfallen (defScope (top 33)) ["deeds"] }
theorem efallen {S : Type} (Ffirst_deed : FF S) (Famount_of : FF S) (Fmerged : FF S) (WF : Nat) : exs (kfallen (S := S) Ffirst_deed Famount_of Fmerged WF) 60 (defBody (top 33)) = cfallen (S := S) Ffirst_deed Famount_of Fmerged WF := by kernel_rfl
def gended_of {S : Type} (Ffirst_deed : FF S) (Famount_of : FF S) (Fmerged : FF S) (WF : Nat) : Gk S := { glo := glo, cal := fun x => if x = "first_deed" then some ⟨2, false, Ffirst_deed⟩ else if x = "amount_of" then some ⟨2, false, Famount_of⟩ else if x = "merged" then some ⟨2, false, Fmerged⟩ else none, sp := moreSp }
def kended_of {S : Type} (Ffirst_deed : FF S) (Famount_of : FF S) (Fmerged : FF S) (WF : Nat) : Dk S := { G := gended_of (S := S) Ffirst_deed Famount_of Fmerged WF, N := nended_of, sc := defScope (top 34), ow := ["deeds"], wf := WF, st := moreSt (gended_of (S := S) Ffirst_deed Famount_of Fmerged WF) nended_of (defScope (top 34)) ["deeds"] }
theorem eended_of {S : Type} (Ffirst_deed : FF S) (Famount_of : FF S) (Fmerged : FF S) (WF : Nat) : exs (kended_of (S := S) Ffirst_deed Famount_of Fmerged WF) 60 (defBody (top 34)) = cended_of (S := S) Ffirst_deed Famount_of Fmerged WF := by kernel_rfl
def gpushed {S : Type} (Fneed_sorter : FF S) (Fneed_pile : FF S) (Fneed_lengths : FF S) (Ffallen : FF S) : Gk S := { glo := glo, cal := fun x => if x = "need_sorter" then some ⟨1, false, Fneed_sorter⟩ else if x = "need_pile" then some ⟨1, false, Fneed_pile⟩ else if x = "need_lengths" then some ⟨1, false, Fneed_lengths⟩ else if x = "fallen" then some ⟨2, false, Ffallen⟩ else none, sp := moreSp }
def kpushed {S : Type} (Fneed_sorter : FF S) (Fneed_pile : FF S) (Fneed_lengths : FF S) (Ffallen : FF S) : Dk S := { G := gpushed (S := S) Fneed_sorter Fneed_pile Fneed_lengths Ffallen, N := npushed, sc := defScope (top 35), ow := [], wf := 0, st := moreSt (gpushed (S := S) Fneed_sorter Fneed_pile Fneed_lengths Ffallen) npushed (defScope (top 35)) [] }
theorem epushed {S : Type} (Fneed_sorter : FF S) (Fneed_pile : FF S) (Fneed_lengths : FF S) (Ffallen : FF S) : exs (kpushed (S := S) Fneed_sorter Fneed_pile Fneed_lengths Ffallen) 60 (defBody (top 35)) = cpushed (S := S) Fneed_sorter Fneed_pile Fneed_lengths Ffallen := by kernel_rfl
def gended {S : Type} (Fneed_sorter : FF S) (Fended_of : FF S) (Fneed_pile : FF S) : Gk S := { glo := glo, cal := fun x => if x = "need_sorter" then some ⟨1, false, Fneed_sorter⟩ else if x = "ended_of" then some ⟨2, false, Fended_of⟩ else if x = "need_pile" then some ⟨1, false, Fneed_pile⟩ else none, sp := moreSp }
def kended {S : Type} (Fneed_sorter : FF S) (Fended_of : FF S) (Fneed_pile : FF S) : Dk S := { G := gended (S := S) Fneed_sorter Fended_of Fneed_pile, N := nended, sc := defScope (top 36), ow := [], wf := 0, st := moreSt (gended (S := S) Fneed_sorter Fended_of Fneed_pile) nended (defScope (top 36)) [] }
theorem eended {S : Type} (Fneed_sorter : FF S) (Fended_of : FF S) (Fneed_pile : FF S) : exs (kended (S := S) Fneed_sorter Fended_of Fneed_pile) 60 (defBody (top 36)) = cended (S := S) Fneed_sorter Fended_of Fneed_pile := by kernel_rfl
def ggone_along {S : Type} (Ffallen : FF S) : Gk S := { glo := glo, cal := fun x => if x = "fallen" then some ⟨2, false, Ffallen⟩ else none, sp := moreSp }
def kgone_along {S : Type} (Ffallen : FF S) : Dk S := { G := ggone_along (S := S) Ffallen, N := ngone_along, sc := defScope (top 37), ow := ["piles", "deeds"], wf := 0, st := moreSt (ggone_along (S := S) Ffallen) ngone_along (defScope (top 37)) ["piles", "deeds"] }
theorem egone_along {S : Type} (Ffallen : FF S) : exs (kgone_along (S := S) Ffallen) 60 (defBody (top 37)) = cgone_along (S := S) Ffallen := by kernel_rfl
def gpiles_behind {S : Type} (Fneed_sorter : FF S) (Fgone_along : FF S) (Fneed_lengths : FF S) : Gk S := { glo := glo, cal := fun x => if x = "need_sorter" then some ⟨1, false, Fneed_sorter⟩ else if x = "gone_along" then some ⟨2, false, Fgone_along⟩ else if x = "need_lengths" then some ⟨1, false, Fneed_lengths⟩ else none, sp := moreSp }
def kpiles_behind {S : Type} (Fneed_sorter : FF S) (Fgone_along : FF S) (Fneed_lengths : FF S) : Dk S := { G := gpiles_behind (S := S) Fneed_sorter Fgone_along Fneed_lengths, N := npiles_behind, sc := defScope (top 38), ow := [], wf := 0, st := moreSt (gpiles_behind (S := S) Fneed_sorter Fgone_along Fneed_lengths) npiles_behind (defScope (top 38)) [] }
theorem epiles_behind {S : Type} (Fneed_sorter : FF S) (Fgone_along : FF S) (Fneed_lengths : FF S) : exs (kpiles_behind (S := S) Fneed_sorter Fgone_along Fneed_lengths) 60 (defBody (top 38)) = cpiles_behind (S := S) Fneed_sorter Fgone_along Fneed_lengths := by kernel_rfl
def grun {S : Type} (Fneed_sorter : FF S) (Fneed_lengths : FF S) (Fgone_along : FF S) (Fended_of : FF S) : Gk S := { glo := glo, cal := fun x => if x = "need_sorter" then some ⟨1, false, Fneed_sorter⟩ else if x = "need_lengths" then some ⟨1, false, Fneed_lengths⟩ else if x = "gone_along" then some ⟨2, false, Fgone_along⟩ else if x = "ended_of" then some ⟨2, false, Fended_of⟩ else none, sp := moreSp }
def krun {S : Type} (Fneed_sorter : FF S) (Fneed_lengths : FF S) (Fgone_along : FF S) (Fended_of : FF S) : Dk S := { G := grun (S := S) Fneed_sorter Fneed_lengths Fgone_along Fended_of, N := nrun, sc := defScope (top 39), ow := [], wf := 0, st := moreSt (grun (S := S) Fneed_sorter Fneed_lengths Fgone_along Fended_of) nrun (defScope (top 39)) [] }
theorem erun {S : Type} (Fneed_sorter : FF S) (Fneed_lengths : FF S) (Fgone_along : FF S) (Fended_of : FF S) : exs (krun (S := S) Fneed_sorter Fneed_lengths Fgone_along Fended_of) 60 (defBody (top 39)) = crun (S := S) Fneed_sorter Fneed_lengths Fgone_along Fended_of := by kernel_rfl
def gcost {S : Type} (Frun : FF S) : Gk S := { glo := glo, cal := fun x => if x = "run" then some ⟨2, false, Frun⟩ else none, sp := moreSp }
def kcost {S : Type} (Frun : FF S) : Dk S := { G := gcost (S := S) Frun, N := ncost, sc := defScope (top 40), ow := [], wf := 0, st := moreSt (gcost (S := S) Frun) ncost (defScope (top 40)) [] }
theorem ecost {S : Type} (Frun : FF S) : exs (kcost (S := S) Frun) 60 (defBody (top 40)) = ccost (S := S) Frun := by kernel_rfl
def gdeepest {S : Type} (Fpiles_behind : FF S) : Gk S := { glo := glo, cal := fun x => if x = "piles_behind" then some ⟨2, false, Fpiles_behind⟩ else none, sp := moreSp }
def kdeepest {S : Type} (Fpiles_behind : FF S) : Dk S := { G := gdeepest (S := S) Fpiles_behind, N := ndeepest, sc := defScope (top 41), ow := [], wf := 0, st := moreSt (gdeepest (S := S) Fpiles_behind) ndeepest (defScope (top 41)) [] }
theorem edeepest {S : Type} (Fpiles_behind : FF S) : exs (kdeepest (S := S) Fpiles_behind) 60 (defBody (top 41)) = cdeepest (S := S) Fpiles_behind := by kernel_rfl
def gtouched {S : Type} (Fneed_sorter : FF S) (Fneed_lengths : FF S) (Frun : FF S) : Gk S := { glo := glo, cal := fun x => if x = "need_sorter" then some ⟨1, false, Fneed_sorter⟩ else if x = "need_lengths" then some ⟨1, false, Fneed_lengths⟩ else if x = "run" then some ⟨2, false, Frun⟩ else none, sp := moreSp }
def ktouched {S : Type} (Fneed_sorter : FF S) (Fneed_lengths : FF S) (Frun : FF S) : Dk S := { G := gtouched (S := S) Fneed_sorter Fneed_lengths Frun, N := ntouched, sc := defScope (top 42), ow := ["pile", "found"], wf := 0, st := moreSt (gtouched (S := S) Fneed_sorter Fneed_lengths Frun) ntouched (defScope (top 42)) ["pile", "found"] }
theorem etouched {S : Type} (Fneed_sorter : FF S) (Fneed_lengths : FF S) (Frun : FF S) : exs (ktouched (S := S) Fneed_sorter Fneed_lengths Frun) 60 (defBody (top 42)) = ctouched (S := S) Fneed_sorter Fneed_lengths Frun := by kernel_rfl
def g_law_mixed {S : Type} : Gk S := { glo := glo, cal := fun x => none, sp := moreSp }
def k_law_mixed {S : Type} : Dk S := { G := g_law_mixed (S := S), N := n_law_mixed, sc := defScope (top 44), ow := [], wf := 0, st := moreSt (g_law_mixed (S := S)) n_law_mixed (defScope (top 44)) [] }
theorem e_law_mixed {S : Type} : exs (k_law_mixed (S := S)) 60 (defBody (top 44)) = c_law_mixed (S := S) := by kernel_rfl
def g_law_folded {S : Type} : Gk S := { glo := glo, cal := fun x => none, sp := moreSp }
def k_law_folded {S : Type} : Dk S := { G := g_law_folded (S := S), N := n_law_folded, sc := defScope (top 45), ow := ["_law_found"], wf := 0, st := moreSt (g_law_folded (S := S)) n_law_folded (defScope (top 45)) ["_law_found"] }
theorem e_law_folded {S : Type} : exs (k_law_folded (S := S)) 60 (defBody (top 45)) = c_law_folded (S := S) := by kernel_rfl
def g_law_draw (a : Ad) (F_law_mixed : FF Dw) : Gk Dw := { glo := glo, cal := fun x => if x = "_law_mixed" then some ⟨2, false, F_law_mixed⟩ else none, sp := drawSp a }
def k_law_draw (a : Ad) (F_law_mixed : FF Dw) : Dk Dw := { G := g_law_draw a F_law_mixed, N := n_law_draw, sc := defScope (top 46), ow := [], wf := 0, st := drawSt a (g_law_draw a F_law_mixed) n_law_draw (defScope (top 46)) }
theorem e_law_draw (a : Ad) (F_law_mixed : FF Dw) : exs (k_law_draw a F_law_mixed) 60 (defBody (top 46)) = c_law_draw a F_law_mixed := by kernel_rfl
def g_law_like {S : Type} : Gk S := { glo := glo, cal := fun x => none, sp := moreSp }
def k_law_like {S : Type} : Dk S := { G := g_law_like (S := S), N := n_law_like_v2, sc := defScope (top 48), ow := [], wf := 0, st := moreSt (g_law_like (S := S)) n_law_like_v2 (defScope (top 48)) [] }
theorem e_law_like {S : Type} : exs (k_law_like (S := S)) 60 (defBody (top 48)) = c_law_like_v2 (S := S) := by kernel_rfl
def g_law_of (F_law_draw : FF Dw) : Gk Dw := { glo := glo, cal := fun x => if x = "_law_draw" then some ⟨2, false, F_law_draw⟩ else none, sp := moreSp }
def k_law_of (F_law_draw : FF Dw) : Dk Dw := { G := g_law_of F_law_draw, N := n_law_of, sc := defScope (top 49), ow := [], wf := 0, st := moreSt (g_law_of F_law_draw) n_law_of (defScope (top 49)) [] }
theorem e_law_of (F_law_draw : FF Dw) : exs (k_law_of F_law_draw) 60 (defBody (top 49)) = c_law_of F_law_draw := by kernel_rfl
def g_law_side (F_law_of : FF Dw) (F_law_draw : FF Dw) : Gk Dw := { glo := glo, cal := fun x => if x = "_law_of" then some ⟨2, false, F_law_of⟩ else if x = "_law_draw" then some ⟨2, false, F_law_draw⟩ else none, sp := moreSp }
def k_law_side (F_law_of : FF Dw) (F_law_draw : FF Dw) : Dk Dw := { G := g_law_side F_law_of F_law_draw, N := n_law_side_v2, sc := defScope (top 50), ow := [], wf := 0, st := moreSt (g_law_side F_law_of F_law_draw) n_law_side_v2 (defScope (top 50)) [] }
theorem e_law_side (F_law_of : FF Dw) (F_law_draw : FF Dw) : exs (k_law_side F_law_of F_law_draw) 60 (defBody (top 50)) = c_law_side_v2 F_law_of F_law_draw := by kernel_rfl
def g_law_test (F_law_side : FF Dw) (F_law_draw : FF Dw) : Gk Dw := { glo := glo, cal := fun x => if x = "_law_side" then some ⟨2, false, F_law_side⟩ else if x = "_law_draw" then some ⟨2, false, F_law_draw⟩ else none, sp := moreSp }
def k_law_test (F_law_side : FF Dw) (F_law_draw : FF Dw) : Dk Dw := { G := g_law_test F_law_side F_law_draw, N := n_law_test, sc := defScope (top 51), ow := [], wf := 0, st := moreSt (g_law_test F_law_side F_law_draw) n_law_test (defScope (top 51)) [] }
theorem e_law_test (F_law_side : FF Dw) (F_law_draw : FF Dw) : exs (k_law_test F_law_side F_law_draw) 60 (defBody (top 51)) = c_law_test F_law_side F_law_draw := by kernel_rfl
def g_law_clauses (F_law_draw : FF Dw) (F_law_of : FF Dw) (F_law_test : FF Dw) : Gk Dw := { glo := glo, cal := fun x => if x = "_law_draw" then some ⟨2, false, F_law_draw⟩ else if x = "_law_of" then some ⟨2, false, F_law_of⟩ else if x = "_law_test" then some ⟨2, false, F_law_test⟩ else none, sp := moreSp }
def k_law_clauses (F_law_draw : FF Dw) (F_law_of : FF Dw) (F_law_test : FF Dw) : Dk Dw := { G := g_law_clauses F_law_draw F_law_of F_law_test, N := n_law_clauses, sc := defScope (top 52), ow := ["_law_found"], wf := 0, st := moreSt (g_law_clauses F_law_draw F_law_of F_law_test) n_law_clauses (defScope (top 52)) ["_law_found"] }
theorem e_law_clauses (F_law_draw : FF Dw) (F_law_of : FF Dw) (F_law_test : FF Dw) : exs (k_law_clauses F_law_draw F_law_of F_law_test) 60 (defBody (top 52)) = c_law_clauses F_law_draw F_law_of F_law_test := by kernel_rfl
def g_law_sorts (F_law_clauses : FF Dw) : Gk Dw := { glo := glo, cal := fun x => if x = "_law_clauses" then some ⟨4, false, F_law_clauses⟩ else none, sp := moreSp }
def k_law_sorts (F_law_clauses : FF Dw) : Dk Dw := { G := g_law_sorts F_law_clauses, N := n_law_sorts, sc := defScope (top 53), ow := [], wf := 0, st := moreSt (g_law_sorts F_law_clauses) n_law_sorts (defScope (top 53)) [] }
theorem e_law_sorts (F_law_clauses : FF Dw) : exs (k_law_sorts F_law_clauses) 60 (defBody (top 53)) = c_law_sorts F_law_clauses := by kernel_rfl
def g_law_row (F_law_draw : FF Dw) : Gk Dw := { glo := glo, cal := fun x => if x = "_law_draw" then some ⟨2, false, F_law_draw⟩ else none, sp := moreSp }
def k_law_row (F_law_draw : FF Dw) : Dk Dw := { G := g_law_row F_law_draw, N := n_law_row, sc := defScope (top 54), ow := [], wf := 0, st := moreSt (g_law_row F_law_draw) n_law_row (defScope (top 54)) [] }
theorem e_law_row (F_law_draw : FF Dw) : exs (k_law_row F_law_draw) 60 (defBody (top 54)) = c_law_row F_law_draw := by kernel_rfl
def g_law_holds {S : Type} : Gk S := { glo := glo, cal := fun x => none, sp := moreSp }
def k_law_holds {S : Type} : Dk S := { G := g_law_holds (S := S), N := n_law_holds_v2, sc := defScope (top 55), ow := [], wf := 0, st := moreSt (g_law_holds (S := S)) n_law_holds_v2 (defScope (top 55)) [] }
theorem e_law_holds {S : Type} : exs (k_law_holds (S := S)) 60 (defBody (top 55)) = c_law_holds_v2 (S := S) := by kernel_rfl
def g_law_deed {S : Type} (F_law_holds : FF S) : Gk S := { glo := glo, cal := fun x => if x = "_law_holds" then some ⟨3, false, F_law_holds⟩ else none, sp := moreSp }
def k_law_deed {S : Type} (F_law_holds : FF S) : Dk S := { G := g_law_deed (S := S) F_law_holds, N := n_law_deed, sc := defScope (top 56), ow := [], wf := 0, st := moreSt (g_law_deed (S := S) F_law_holds) n_law_deed (defScope (top 56)) [] }
theorem e_law_deed {S : Type} (F_law_holds : FF S) : exs (k_law_deed (S := S) F_law_holds) 60 (defBody (top 56)) = c_law_deed (S := S) F_law_holds := by kernel_rfl
def g_law_done {S : Type} : Gk S := { glo := glo, cal := fun x => none, sp := moreSp }
def k_law_done {S : Type} : Dk S := { G := g_law_done (S := S), N := n_law_done, sc := defScope (top 57), ow := [], wf := 0, st := moreSt (g_law_done (S := S)) n_law_done (defScope (top 57)) [] }
theorem e_law_done {S : Type} : exs (k_law_done (S := S)) 60 (defBody (top 57)) = c_law_done (S := S) := by kernel_rfl
def g_law_fall {S : Type} (F_law_deed : FF S) (F_law_done : FF S) (WF : Nat) : Gk S := { glo := glo, cal := fun x => if x = "_law_deed" then some ⟨2, false, F_law_deed⟩ else if x = "_law_done" then some ⟨2, false, F_law_done⟩ else none, sp := moreSp }
def k_law_fall {S : Type} (F_law_deed : FF S) (F_law_done : FF S) (WF : Nat) : Dk S := { G := g_law_fall (S := S) F_law_deed F_law_done WF, N := n_law_fall, sc := defScope (top 58), ow := ["_law_deeds"], wf := WF, st := moreSt (g_law_fall (S := S) F_law_deed F_law_done WF) n_law_fall (defScope (top 58)) ["_law_deeds"] }
theorem e_law_fall {S : Type} (F_law_deed : FF S) (F_law_done : FF S) (WF : Nat) : exs (k_law_fall (S := S) F_law_deed F_law_done WF) 60 (defBody (top 58)) = c_law_fall (S := S) F_law_deed F_law_done WF := by kernel_rfl
def g_law_end {S : Type} (F_law_done : FF S) (F_law_deed : FF S) (WF : Nat) : Gk S := { glo := glo, cal := fun x => if x = "_law_done" then some ⟨2, false, F_law_done⟩ else if x = "_law_deed" then some ⟨2, false, F_law_deed⟩ else none, sp := moreSp }
def k_law_end {S : Type} (F_law_done : FF S) (F_law_deed : FF S) (WF : Nat) : Dk S := { G := g_law_end (S := S) F_law_done F_law_deed WF, N := n_law_end, sc := defScope (top 59), ow := ["_law_deeds"], wf := WF, st := moreSt (g_law_end (S := S) F_law_done F_law_deed WF) n_law_end (defScope (top 59)) ["_law_deeds"] }
theorem e_law_end {S : Type} (F_law_done : FF S) (F_law_deed : FF S) (WF : Nat) : exs (k_law_end (S := S) F_law_done F_law_deed WF) 60 (defBody (top 59)) = c_law_end (S := S) F_law_done F_law_deed WF := by kernel_rfl
def g_law_touched {S : Type} : Gk S := { glo := glo, cal := fun x => none, sp := moreSp }
def k_law_touched {S : Type} : Dk S := { G := g_law_touched (S := S), N := n_law_touched, sc := defScope (top 60), ow := ["_law_stack"], wf := 0, st := moreSt (g_law_touched (S := S)) n_law_touched (defScope (top 60)) ["_law_stack"] }
theorem e_law_touched {S : Type} : exs (k_law_touched (S := S)) 60 (defBody (top 60)) = c_law_touched (S := S) := by kernel_rfl
def claw (F_law_end : FF Dw) (Frun : FF Dw) (Fended : FF Dw) (F_law_sorts : FF Dw) (F_law_row : FF Dw) (F_law_fall : FF Dw) (F_law_like : FF Dw) (Fpiles_behind : FF Dw) (Fdeepest : FF Dw) (Ftouched : FF Dw) (Fcost : FF Dw) (F_law_touched : FF Dw) (Fpushed : FF Dw) : ExF Dw := (seqS (forS (iRange1 (kD (.int 6))) (tN 2) (seqS (relS' [1] (parS [(3, false), (8, false)] (consA (callF (⟨2, false, F_law_sorts⟩ : Fn Dw) (consA (vC 1) (consA (kD (.int 3)) nilA))) (consA (callF (⟨3, false, F_law_row⟩ : Fn Dw) (consA (vC 1) (consA (kD (.int 12)) (consA (kD (.int 30)) nilA)))) nilA)))) (seqS (relS' [3, 8] (parS [(9, false), (10, false), (11, true), (12, true), (13, false)] (consA (biF bRepr (consA (lstE (consA (vC 3) (consA (vC 8) nilA))) nilA)) (consA (tupE nilA) (consA (lstE nilA) (consA (lstE nilA) (consA (kD (.int 0)) nilA))))))) (seqS (lockS [8] (forS (iSeq (vS 8)) (tN 14) (seqS (relS' [14] (asgS (callF (⟨2, false, F_law_fall⟩ : Fn Dw) (consA (bin dAdd (vK 10) (tupE (consA (vC 14) nilA))) (consA (bin dIx (vK 3) (kD (.int 0))) nilA))) (tN 7))) (seqS (relS' [3, 10, 14] (ifS (notT (truth (callF (⟨2, false, F_law_like⟩ : Fn Dw) (consA (lstE (consA (callF (⟨3, false, Fpushed⟩ : Fn Dw) (consA (vC 3) (consA (vC 10) (consA (vC 14) nilA)))) (consA (callF (⟨3, false, Fpushed⟩ : Fn Dw) (consA (vC 3) (consA (vC 10) (consA (vC 14) nilA)))) nilA))) (consA (lstE (consA (slE (vK 7) noneO (someO (kD (.int 2)))) (consA (slE (vK 7) noneO (someO (kD (.int 2)))) nilA))) nilA))))) (seqS (retV true (kD (.bl false))) nextS) nextS)) (seqS (parS [(10, false), (13, false)] (consA (bin dIx (vK 7) (kD (.int 0))) (consA (bin dAdd (vK 13) (bin dIx (vK 7) (kD (.int 2)))) nilA))) (seqS (relS' [10] (appS 11 (vC 10))) (seqS (appS 12 (bin dIx (vK 7) (kD (.int 1)))) (seqS (relS' [3, 10] (ifS (notT (truth (callF (⟨2, false, F_law_like⟩ : Fn Dw) (consA (callF (⟨2, false, Fended⟩ : Fn Dw) (consA (vC 3) (consA (vC 10) nilA))) (consA (bin dIx (callF (⟨2, false, F_law_end⟩ : Fn Dw) (consA (vC 10) (consA (bin dIx (vK 3) (kD (.int 1))) nilA))) (kD (.int 0))) nilA))))) (seqS (retV true (kD (.bl false))) nextS) nextS)) nextS)))))))) (seqS (relS' [10] (asgS (callF (⟨2, false, F_law_end⟩ : Fn Dw) (consA (vC 10) (consA (bin dIx (vK 3) (kD (.int 1))) nilA))) (gTupD 2 (gsC (tN 15) (gsC (tN 16) gsN))))) (seqS (relS' [15] (asgS (tupE (consA (biF bTuple (consA (vK 12) nilA)) (consA (vC 15) (consA (bin dAdd (vK 13) (vK 16)) nilA)))) (tN 7))) (seqS (relS' [3, 8, 7] (ifS (notT (truth (callF (⟨2, false, F_law_like⟩ : Fn Dw) (consA (lstE (consA (callF (⟨2, false, Frun⟩ : Fn Dw) (consA (vC 3) (consA (vC 8) nilA))) (consA (callF (⟨2, false, Frun⟩ : Fn Dw) (consA (vC 3) (consA (biF bList (consA (vK 8) nilA)) nilA))) (consA (callF (⟨2, false, Fcost⟩ : Fn Dw) (consA (vC 3) (consA (vC 8) nilA))) nilA)))) (consA (lstE (consA (vC 7) (consA (vC 7) (consA (bin dIx (vK 7) (kD (.int 2))) nilA)))) nilA))))) (seqS (retV true (kD (.bl false))) nextS) nextS)) (seqS (relS' [3, 8] (asgS (lstE (consA (callF (⟨2, false, Fpiles_behind⟩ : Fn Dw) (consA (vC 3) (consA (vC 8) nilA))) (consA (callF (⟨2, false, Fdeepest⟩ : Fn Dw) (consA (vC 3) (consA (vC 8) nilA))) (consA (callF (⟨2, false, Ftouched⟩ : Fn Dw) (consA (vC 3) (consA (vC 8) nilA))) nilA)))) (tN 6))) (seqS (asgS (biF bMax (consA (bin dAdd (lstE (consA (kD (.int 0)) nilA)) (lcE (iSeq (vK 11)) (tN 18) yesT (biF bLen (consA (vK 18) nilA)) [18])) nilA)) (tN 17)) (seqS (relS' [6, 17, 8, 12, 15] (ifS (notT (truth (callF (⟨2, false, F_law_like⟩ : Fn Dw) (consA (vC 6) (consA (lstE (consA (biF bTuple (consA (vK 11) nilA)) (consA (vC 17) (consA (callF (⟨3, false, F_law_touched⟩ : Fn Dw) (consA (vC 8) (consA (vC 12) (consA (vC 15) nilA)))) nilA)))) nilA))))) (seqS (retV true (kD (.bl false))) nextS) nextS)) (seqS (relS' [3, 8] (ifS (testB (bin dNe (biF bRepr (consA (lstE (consA (vC 3) (consA (vC 8) nilA))) nilA)) (vK 9))) (seqS (retV true (kD (.bl false))) nextS) nextS)) nextS))))))))))) (seqS (asgS (tupE (consA (tupE (consA (tupE (consA (tupE (consA (tupE (consA (kD (.int 2)) nilA)) (consA (kD (.str "atmost")) (consA (tupE (consA (kD (.int 0)) (consA (kD (.int 1)) nilA))) nilA)))) (consA (tupE (consA (tupE (consA (kD (.int 2)) nilA)) (consA (kD (.str "below")) (consA (tupE (consA (kD (.int 0)) nilA)) nilA)))) nilA))) (consA (kD (.str "under")) nilA))) (consA (tupE (consA (tupE (consA (tupE (consA (tupE (consA (kD (.int 2)) nilA)) (consA (kD (.str "atmost")) (consA (tupE (consA (kD (.int 0)) (consA (kD (.int 1)) nilA))) nilA)))) nilA)) (consA (kD (.str "top")) nilA))) nilA))) (tN 3)) (seqS (asgS (tupE (consA (bin dAdd (vK 3) (tupE (consA (tupE (consA (tupE (consA (tupE (consA (tupE (consA (kD (.int 1)) nilA)) (consA (kD (.str "atmost")) (consA (tupE (consA (kD (.int 0)) nilA)) nilA)))) nilA)) (consA (kD (.str "top")) nilA))) nilA))) (consA (tupE nilA) nilA))) (tN 3)) (seqS (asgS (tupE (consA (tupE (consA (tupE (consA (tupE (consA (kD (.int 1)) nilA)) (consA (kD (.str "below")) (consA (tupE (consA (kD (.int 0)) nilA)) nilA)))) (consA (tupE (consA (tupE (consA (kD (.int 0)) nilA)) (consA (kD (.str "below")) (consA (tupE (consA (kD (.int 1)) nilA)) nilA)))) nilA))) (consA (kD (.str "top")) nilA))) (tN 4)) (seqS (relS' [4] (asgS (tupE (consA (bin dAdd (bin dMul (tupE (consA (vC 4) nilA)) (kD (.int 5))) (tupE (consA (tupE (consA (tupE nilA) (consA (kD (.str "top")) nilA))) nilA))) (consA (tupE (consA (vC 4) (consA (tupE (consA (tupE nilA) (consA (kD (.str "under")) nilA))) nilA))) nilA))) (tN 5))) (seqS (relS' [5] (asgS (lstE (consA (callF (⟨2, false, Frun⟩ : Fn Dw) (consA (vC 5) (consA (tupE (consA (kD (.int 3)) (consA (kD (.int 4)) (consA (kD (.int 5)) nilA)))) nilA))) (consA (callF (⟨2, false, Fended⟩ : Fn Dw) (consA (vC 5) (consA (tupE (consA (kD (.int 3)) (consA (kD (.int 4)) (consA (kD (.int 5)) nilA)))) nilA))) (consA (callF (⟨2, false, Fended⟩ : Fn Dw) (consA (vC 5) (consA (tupE nilA) nilA))) (consA (callF (⟨2, false, Fended⟩ : Fn Dw) (consA (vC 5) (consA (tupE (consA (kD (.int 3)) nilA)) nilA))) nilA))))) (tN 6))) (seqS (ifS (testB (bin dNe (vK 6) (lstE (consA (tupE (consA (tupE (consA (tupE nilA) (consA (tupE (consA (kD (.str "top")) nilA)) (consA (tupE (consA (kD (.str "top")) nilA)) nilA)))) (consA (tupE nilA) (consA (kD (.int 19)) nilA)))) (consA (tupE (consA (kD (.str "under")) (consA (kD (.str "top")) nilA))) (consA (tupE nilA) (consA (tupE nilA) nilA))))))) (seqS (retV true (kD (.bl false))) nextS) nextS) (seqS (relS' [3] (asgS (lstE (consA (callF (⟨2, false, Frun⟩ : Fn Dw) (consA (vC 3) (consA (tupE (consA (kD (.int 5)) (consA (kD (.int 3)) (consA (kD (.int 4)) (consA (kD (.int 2)) (consA (kD (.int 9)) nilA)))))) nilA))) (consA (callF (⟨2, false, Frun⟩ : Fn Dw) (consA (vC 3) (consA (tupE (consA (kD (.int 3)) (consA (kD (.int 2)) (consA (kD (.int 9)) nilA)))) nilA))) (consA (callF (⟨2, false, Frun⟩ : Fn Dw) (consA (vC 3) (consA (tupE nilA) nilA))) (consA (callF (⟨2, false, Frun⟩ : Fn Dw) (consA (vC 3) (consA (tupE (consA (kD (.int 7)) nilA)) nilA))) nilA))))) (tN 6))) (seqS (asgS (lstE (consA (tupE (consA (tupE (consA (tupE nilA) (consA (tupE nilA) (consA (tupE (consA (kD (.str "top")) (consA (kD (.str "top")) nilA))) (consA (tupE nilA) (consA (tupE (consA (kD (.str "top")) nilA)) nilA)))))) (consA (tupE (consA (kD (.str "top")) nilA)) (consA (kD (.int 53)) nilA)))) (consA (tupE (consA (tupE (consA (tupE nilA) (consA (tupE nilA) (consA (tupE (consA (kD (.str "under")) (consA (kD (.str "top")) nilA))) nilA)))) (consA (tupE nilA) (consA (kD (.int 19)) nilA)))) nilA))) (tN 7)) (seqS (retV true (bin dEq (vK 6) (bin dAdd (vK 7) (lstE (consA (tupE (consA (tupE nilA) (consA (tupE nilA) (consA (kD (.int 0)) nilA)))) (consA (tupE (consA (tupE (consA (tupE nilA) nilA)) (consA (tupE nilA) (consA (kD (.int 0)) nilA)))) nilA)))))) nextS))))))))))
def nlaw : List Str := ["_law_script", "_law_m", "_law_turn", "_law_sorts_here", "_law_rest", "_law_six", "_law_told", "_law_due", "_law_row_so", "_law_kept_so", "_law_stack", "_law_stacks", "_law_pushes", "_law_amount", "_law_length", "_law_last", "_law_more", "_law_highest", "_law_one"]
def glaw (F_law_end : FF Dw) (Frun : FF Dw) (Fended : FF Dw) (F_law_sorts : FF Dw) (F_law_row : FF Dw) (F_law_fall : FF Dw) (F_law_like : FF Dw) (Fpiles_behind : FF Dw) (Fdeepest : FF Dw) (Ftouched : FF Dw) (Fcost : FF Dw) (F_law_touched : FF Dw) (Fpushed : FF Dw) : Gk Dw := { glo := glo, cal := fun x => if x = "_law_end" then some ⟨2, false, F_law_end⟩ else if x = "run" then some ⟨2, false, Frun⟩ else if x = "ended" then some ⟨2, false, Fended⟩ else if x = "_law_sorts" then some ⟨2, false, F_law_sorts⟩ else if x = "_law_row" then some ⟨3, false, F_law_row⟩ else if x = "_law_fall" then some ⟨2, false, F_law_fall⟩ else if x = "_law_like" then some ⟨2, false, F_law_like⟩ else if x = "piles_behind" then some ⟨2, false, Fpiles_behind⟩ else if x = "deepest" then some ⟨2, false, Fdeepest⟩ else if x = "touched" then some ⟨2, false, Ftouched⟩ else if x = "cost" then some ⟨2, false, Fcost⟩ else if x = "_law_touched" then some ⟨3, false, F_law_touched⟩ else if x = "pushed" then some ⟨3, false, Fpushed⟩ else none, sp := moreSp }
def klaw (F_law_end : FF Dw) (Frun : FF Dw) (Fended : FF Dw) (F_law_sorts : FF Dw) (F_law_row : FF Dw) (F_law_fall : FF Dw) (F_law_like : FF Dw) (Fpiles_behind : FF Dw) (Fdeepest : FF Dw) (Ftouched : FF Dw) (Fcost : FF Dw) (F_law_touched : FF Dw) (Fpushed : FF Dw) : Dk Dw := { G := glaw F_law_end Frun Fended F_law_sorts F_law_row F_law_fall F_law_like Fpiles_behind Fdeepest Ftouched Fcost F_law_touched Fpushed, N := nlaw, sc := defScope (top 61), ow := ["_law_stacks", "_law_pushes"], wf := 0, st := moreSt (glaw F_law_end Frun Fended F_law_sorts F_law_row F_law_fall F_law_like Fpiles_behind Fdeepest Ftouched Fcost F_law_touched Fpushed) nlaw (defScope (top 61)) ["_law_stacks", "_law_pushes"] }
theorem elaw (F_law_end : FF Dw) (Frun : FF Dw) (Fended : FF Dw) (F_law_sorts : FF Dw) (F_law_row : FF Dw) (F_law_fall : FF Dw) (F_law_like : FF Dw) (Fpiles_behind : FF Dw) (Fdeepest : FF Dw) (Ftouched : FF Dw) (Fcost : FF Dw) (F_law_touched : FF Dw) (Fpushed : FF Dw) : exs (klaw F_law_end Frun Fended F_law_sorts F_law_row F_law_fall F_law_like Fpiles_behind Fdeepest Ftouched Fcost F_law_touched Fpushed) 60 ((defBody (top 61)).drop 1) = claw F_law_end Frun Fended F_law_sorts F_law_row F_law_fall F_law_like Fpiles_behind Fdeepest Ftouched Fcost F_law_touched Fpushed := by kernel_rfl
end D03

set_option maxHeartbeats 0
namespace D03
open PySem PySem.Spec PyProof.Rows L2 Q Wd
abbrev tu0 (F_law_sorts F_law_row : FF Dw) : ExF Dw := (relS' [1] (parS [(3, false), (8, false)] (consA (callF (⟨2, false, F_law_sorts⟩ : Fn Dw) (consA (vC 1) (consA (kD (.int 3)) nilA))) (consA (callF (⟨3, false, F_law_row⟩ : Fn Dw) (consA (vC 1) (consA (kD (.int 12)) (consA (kD (.int 30)) nilA)))) nilA))))
abbrev tu1 : ExF Dw := (relS' [3, 8] (parS [(9, false), (10, false), (11, true), (12, true), (13, false)] (consA (biF bRepr (consA (lstE (consA (vC 3) (consA (vC 8) nilA))) nilA)) (consA (tupE nilA) (consA (lstE nilA) (consA (lstE nilA) (consA (kD (.int 0)) nilA)))))))
abbrev ti0 (F_law_fall : FF Dw) : ExF Dw := (relS' [14] (asgS (callF (⟨2, false, F_law_fall⟩ : Fn Dw) (consA (bin dAdd (vK 10) (tupE (consA (vC 14) nilA))) (consA (bin dIx (vK 3) (kD (.int 0))) nilA))) (tN 7)))
abbrev ti1 (F_law_like Fpushed : FF Dw) : ExF Dw := (relS' [3, 10, 14] (ifS (notT (truth (callF (⟨2, false, F_law_like⟩ : Fn Dw) (consA (lstE (consA (callF (⟨3, false, Fpushed⟩ : Fn Dw) (consA (vC 3) (consA (vC 10) (consA (vC 14) nilA)))) (consA (callF (⟨3, false, Fpushed⟩ : Fn Dw) (consA (vC 3) (consA (vC 10) (consA (vC 14) nilA)))) nilA))) (consA (lstE (consA (slE (vK 7) noneO (someO (kD (.int 2)))) (consA (slE (vK 7) noneO (someO (kD (.int 2)))) nilA))) nilA))))) (seqS (retV true (kD (.bl false))) nextS) nextS))
abbrev ti2 : ExF Dw := (parS [(10, false), (13, false)] (consA (bin dIx (vK 7) (kD (.int 0))) (consA (bin dAdd (vK 13) (bin dIx (vK 7) (kD (.int 2)))) nilA)))
abbrev ti3 : ExF Dw := (relS' [10] (appS 11 (vC 10)))
abbrev ti4 : ExF Dw := (appS 12 (bin dIx (vK 7) (kD (.int 1))))
abbrev ti5 (F_law_end Fended F_law_like : FF Dw) : ExF Dw := (relS' [3, 10] (ifS (notT (truth (callF (⟨2, false, F_law_like⟩ : Fn Dw) (consA (callF (⟨2, false, Fended⟩ : Fn Dw) (consA (vC 3) (consA (vC 10) nilA))) (consA (bin dIx (callF (⟨2, false, F_law_end⟩ : Fn Dw) (consA (vC 10) (consA (bin dIx (vK 3) (kD (.int 1))) nilA))) (kD (.int 0))) nilA))))) (seqS (retV true (kD (.bl false))) nextS) nextS))
abbrev innerW (F_law_end Fended F_law_fall F_law_like Fpushed : FF Dw) : ExF Dw := (seqS (ti0 F_law_fall) (seqS (ti1 F_law_like Fpushed) (seqS ti2 (seqS ti3 (seqS ti4 (seqS (ti5 F_law_end Fended F_law_like) nextS))))))
abbrev tu2 (F_law_end Fended F_law_fall F_law_like Fpushed : FF Dw) : ExF Dw := (lockS [8] (forS (iSeq (vS 8)) (tN 14) (seqS (relS' [14] (asgS (callF (⟨2, false, F_law_fall⟩ : Fn Dw) (consA (bin dAdd (vK 10) (tupE (consA (vC 14) nilA))) (consA (bin dIx (vK 3) (kD (.int 0))) nilA))) (tN 7))) (seqS (relS' [3, 10, 14] (ifS (notT (truth (callF (⟨2, false, F_law_like⟩ : Fn Dw) (consA (lstE (consA (callF (⟨3, false, Fpushed⟩ : Fn Dw) (consA (vC 3) (consA (vC 10) (consA (vC 14) nilA)))) (consA (callF (⟨3, false, Fpushed⟩ : Fn Dw) (consA (vC 3) (consA (vC 10) (consA (vC 14) nilA)))) nilA))) (consA (lstE (consA (slE (vK 7) noneO (someO (kD (.int 2)))) (consA (slE (vK 7) noneO (someO (kD (.int 2)))) nilA))) nilA))))) (seqS (retV true (kD (.bl false))) nextS) nextS)) (seqS (parS [(10, false), (13, false)] (consA (bin dIx (vK 7) (kD (.int 0))) (consA (bin dAdd (vK 13) (bin dIx (vK 7) (kD (.int 2)))) nilA))) (seqS (relS' [10] (appS 11 (vC 10))) (seqS (appS 12 (bin dIx (vK 7) (kD (.int 1)))) (seqS (relS' [3, 10] (ifS (notT (truth (callF (⟨2, false, F_law_like⟩ : Fn Dw) (consA (callF (⟨2, false, Fended⟩ : Fn Dw) (consA (vC 3) (consA (vC 10) nilA))) (consA (bin dIx (callF (⟨2, false, F_law_end⟩ : Fn Dw) (consA (vC 10) (consA (bin dIx (vK 3) (kD (.int 1))) nilA))) (kD (.int 0))) nilA))))) (seqS (retV true (kD (.bl false))) nextS) nextS)) nextS))))))))
abbrev tu3 (F_law_end : FF Dw) : ExF Dw := (relS' [10] (asgS (callF (⟨2, false, F_law_end⟩ : Fn Dw) (consA (vC 10) (consA (bin dIx (vK 3) (kD (.int 1))) nilA))) (gTupD 2 (gsC (tN 15) (gsC (tN 16) gsN)))))
abbrev tu4 : ExF Dw := (relS' [15] (asgS (tupE (consA (biF bTuple (consA (vK 12) nilA)) (consA (vC 15) (consA (bin dAdd (vK 13) (vK 16)) nilA)))) (tN 7)))
abbrev tu5 (Frun F_law_like Fcost : FF Dw) : ExF Dw := (relS' [3, 8, 7] (ifS (notT (truth (callF (⟨2, false, F_law_like⟩ : Fn Dw) (consA (lstE (consA (callF (⟨2, false, Frun⟩ : Fn Dw) (consA (vC 3) (consA (vC 8) nilA))) (consA (callF (⟨2, false, Frun⟩ : Fn Dw) (consA (vC 3) (consA (biF bList (consA (vK 8) nilA)) nilA))) (consA (callF (⟨2, false, Fcost⟩ : Fn Dw) (consA (vC 3) (consA (vC 8) nilA))) nilA)))) (consA (lstE (consA (vC 7) (consA (vC 7) (consA (bin dIx (vK 7) (kD (.int 2))) nilA)))) nilA))))) (seqS (retV true (kD (.bl false))) nextS) nextS))
abbrev tu6 (Fpiles_behind Fdeepest Ftouched : FF Dw) : ExF Dw := (relS' [3, 8] (asgS (lstE (consA (callF (⟨2, false, Fpiles_behind⟩ : Fn Dw) (consA (vC 3) (consA (vC 8) nilA))) (consA (callF (⟨2, false, Fdeepest⟩ : Fn Dw) (consA (vC 3) (consA (vC 8) nilA))) (consA (callF (⟨2, false, Ftouched⟩ : Fn Dw) (consA (vC 3) (consA (vC 8) nilA))) nilA)))) (tN 6)))
abbrev tu7 : ExF Dw := (asgS (biF bMax (consA (bin dAdd (lstE (consA (kD (.int 0)) nilA)) (lcE (iSeq (vK 11)) (tN 18) yesT (biF bLen (consA (vK 18) nilA)) [18])) nilA)) (tN 17))
abbrev tu8 (F_law_like F_law_touched : FF Dw) : ExF Dw := (relS' [6, 17, 8, 12, 15] (ifS (notT (truth (callF (⟨2, false, F_law_like⟩ : Fn Dw) (consA (vC 6) (consA (lstE (consA (biF bTuple (consA (vK 11) nilA)) (consA (vC 17) (consA (callF (⟨3, false, F_law_touched⟩ : Fn Dw) (consA (vC 8) (consA (vC 12) (consA (vC 15) nilA)))) nilA)))) nilA))))) (seqS (retV true (kD (.bl false))) nextS) nextS))
abbrev tu9 : ExF Dw := (relS' [3, 8] (ifS (testB (bin dNe (biF bRepr (consA (lstE (consA (vC 3) (consA (vC 8) nilA))) nilA)) (vK 9))) (seqS (retV true (kD (.bl false))) nextS) nextS))
abbrev turnW (F_law_end Frun Fended F_law_sorts F_law_row F_law_fall F_law_like Fpiles_behind Fdeepest Ftouched Fcost F_law_touched Fpushed : FF Dw) : ExF Dw := (seqS (tu0 F_law_sorts F_law_row) (seqS tu1 (seqS (tu2 F_law_end Fended F_law_fall F_law_like Fpushed) (seqS (tu3 F_law_end) (seqS tu4 (seqS (tu5 Frun F_law_like Fcost) (seqS (tu6 Fpiles_behind Fdeepest Ftouched) (seqS tu7 (seqS (tu8 F_law_like F_law_touched) (seqS tu9 nextS))))))))))
abbrev tl0 : ExF Dw := (asgS (tupE (consA (tupE (consA (tupE (consA (tupE (consA (tupE (consA (kD (.int 2)) nilA)) (consA (kD (.str "atmost")) (consA (tupE (consA (kD (.int 0)) (consA (kD (.int 1)) nilA))) nilA)))) (consA (tupE (consA (tupE (consA (kD (.int 2)) nilA)) (consA (kD (.str "below")) (consA (tupE (consA (kD (.int 0)) nilA)) nilA)))) nilA))) (consA (kD (.str "under")) nilA))) (consA (tupE (consA (tupE (consA (tupE (consA (tupE (consA (kD (.int 2)) nilA)) (consA (kD (.str "atmost")) (consA (tupE (consA (kD (.int 0)) (consA (kD (.int 1)) nilA))) nilA)))) nilA)) (consA (kD (.str "top")) nilA))) nilA))) (tN 3))
abbrev tl1 : ExF Dw := (asgS (tupE (consA (bin dAdd (vK 3) (tupE (consA (tupE (consA (tupE (consA (tupE (consA (tupE (consA (kD (.int 1)) nilA)) (consA (kD (.str "atmost")) (consA (tupE (consA (kD (.int 0)) nilA)) nilA)))) nilA)) (consA (kD (.str "top")) nilA))) nilA))) (consA (tupE nilA) nilA))) (tN 3))
abbrev tl2 : ExF Dw := (asgS (tupE (consA (tupE (consA (tupE (consA (tupE (consA (kD (.int 1)) nilA)) (consA (kD (.str "below")) (consA (tupE (consA (kD (.int 0)) nilA)) nilA)))) (consA (tupE (consA (tupE (consA (kD (.int 0)) nilA)) (consA (kD (.str "below")) (consA (tupE (consA (kD (.int 1)) nilA)) nilA)))) nilA))) (consA (kD (.str "top")) nilA))) (tN 4))
abbrev tl3 : ExF Dw := (relS' [4] (asgS (tupE (consA (bin dAdd (bin dMul (tupE (consA (vC 4) nilA)) (kD (.int 5))) (tupE (consA (tupE (consA (tupE nilA) (consA (kD (.str "top")) nilA))) nilA))) (consA (tupE (consA (vC 4) (consA (tupE (consA (tupE nilA) (consA (kD (.str "under")) nilA))) nilA))) nilA))) (tN 5)))
abbrev tl4 (Frun Fended : FF Dw) : ExF Dw := (relS' [5] (asgS (lstE (consA (callF (⟨2, false, Frun⟩ : Fn Dw) (consA (vC 5) (consA (tupE (consA (kD (.int 3)) (consA (kD (.int 4)) (consA (kD (.int 5)) nilA)))) nilA))) (consA (callF (⟨2, false, Fended⟩ : Fn Dw) (consA (vC 5) (consA (tupE (consA (kD (.int 3)) (consA (kD (.int 4)) (consA (kD (.int 5)) nilA)))) nilA))) (consA (callF (⟨2, false, Fended⟩ : Fn Dw) (consA (vC 5) (consA (tupE nilA) nilA))) (consA (callF (⟨2, false, Fended⟩ : Fn Dw) (consA (vC 5) (consA (tupE (consA (kD (.int 3)) nilA)) nilA))) nilA))))) (tN 6)))
abbrev tl5 : ExF Dw := (ifS (testB (bin dNe (vK 6) (lstE (consA (tupE (consA (tupE (consA (tupE nilA) (consA (tupE (consA (kD (.str "top")) nilA)) (consA (tupE (consA (kD (.str "top")) nilA)) nilA)))) (consA (tupE nilA) (consA (kD (.int 19)) nilA)))) (consA (tupE (consA (kD (.str "under")) (consA (kD (.str "top")) nilA))) (consA (tupE nilA) (consA (tupE nilA) nilA))))))) (seqS (retV true (kD (.bl false))) nextS) nextS)
abbrev tl6 (Frun : FF Dw) : ExF Dw := (relS' [3] (asgS (lstE (consA (callF (⟨2, false, Frun⟩ : Fn Dw) (consA (vC 3) (consA (tupE (consA (kD (.int 5)) (consA (kD (.int 3)) (consA (kD (.int 4)) (consA (kD (.int 2)) (consA (kD (.int 9)) nilA)))))) nilA))) (consA (callF (⟨2, false, Frun⟩ : Fn Dw) (consA (vC 3) (consA (tupE (consA (kD (.int 3)) (consA (kD (.int 2)) (consA (kD (.int 9)) nilA)))) nilA))) (consA (callF (⟨2, false, Frun⟩ : Fn Dw) (consA (vC 3) (consA (tupE nilA) nilA))) (consA (callF (⟨2, false, Frun⟩ : Fn Dw) (consA (vC 3) (consA (tupE (consA (kD (.int 7)) nilA)) nilA))) nilA))))) (tN 6)))
abbrev tl7 : ExF Dw := (asgS (lstE (consA (tupE (consA (tupE (consA (tupE nilA) (consA (tupE nilA) (consA (tupE (consA (kD (.str "top")) (consA (kD (.str "top")) nilA))) (consA (tupE nilA) (consA (tupE (consA (kD (.str "top")) nilA)) nilA)))))) (consA (tupE (consA (kD (.str "top")) nilA)) (consA (kD (.int 53)) nilA)))) (consA (tupE (consA (tupE (consA (tupE nilA) (consA (tupE nilA) (consA (tupE (consA (kD (.str "under")) (consA (kD (.str "top")) nilA))) nilA)))) (consA (tupE nilA) (consA (kD (.int 19)) nilA)))) nilA))) (tN 7))
abbrev tl8 : ExF Dw := (retV true (bin dEq (vK 6) (bin dAdd (vK 7) (lstE (consA (tupE (consA (tupE nilA) (consA (tupE nilA) (consA (kD (.int 0)) nilA)))) (consA (tupE (consA (tupE (consA (tupE nilA) nilA)) (consA (tupE nilA) (consA (kD (.int 0)) nilA)))) nilA))))))
abbrev tailW (Frun Fended : FF Dw) : ExF Dw := (seqS tl0 (seqS tl1 (seqS tl2 (seqS tl3 (seqS (tl4 Frun Fended) (seqS tl5 (seqS (tl6 Frun) (seqS tl7 (seqS tl8 nextS)))))))))
structure Hy (m : D) (F_law_end Frun Fended F_law_sorts F_law_row F_law_fall F_law_like Fpiles_behind Fdeepest Ftouched Fcost F_law_touched Fpushed : FF Dw) : Prop where
  like : ∀ d s, ReprOk d → F_law_like [d, d] s = .ok (.bl true) s
  sorts : Sorts F_law_sorts m
  row : Rows F_law_row m
  lfall : ∀ (o : So) (q : List Int), o.Ok → q.length ≤ 40000 → ∀ s, F_law_fall [.tup (iD q.reverse), csD o.rule] s = .ok (.tup [pD (fall o.rule q), eD (fall o.rule q), .int (fall o.rule q).2.2]) s
  lend : ∀ (o : So) (q : List Int), o.Ok → q.length ≤ 40000 → ∀ s, F_law_end [.tup (iD q.reverse), csD o.fin] s = .ok (.tup [.tup (dsD (ends o.fin q).1), .int (ends o.fin q).2]) s
  push : ∀ (o : So) (q : List Int) (x : Int), o.Ok → PileOk q.reverse → 1 ≤ x ∧ x ≤ 1000000000000000000000000000000 → ∀ s, Fpushed [o.d, .tup (iD q.reverse), .int x] s = .ok (.tup [pD (fall o.rule (x :: q)), eD (fall o.rule (x :: q))]) s
  ended : ∀ (o : So) (q : List Int), o.Ok → PileOk q.reverse → ∀ s, Fended [o.d, .tup (iD q.reverse)] s = .ok (.tup (dsD (ends o.fin q).1)) s
  run : ∀ (o : So) (l : List Int), o.Ok → RowOk l → ∀ s, Frun [o.d, .tup (iD l)] s = .ok (runD o l) s
  runL : ∀ (o : So) (l : List Int), o.Ok → RowOk l → ∀ s, Frun [o.d, .lst (iD l)] s = .ok (runD o l) s
  cost : ∀ (o : So) (l : List Int), o.Ok → RowOk l → ∀ s, Fcost [o.d, .tup (iD l)] s = .ok (.int (costOf o l)) s
  behind : ∀ (o : So) (l : List Int), o.Ok → RowOk l → ∀ s, Fpiles_behind [o.d, .tup (iD l)] s = .ok (.tup ((along o.rule l []).map pD)) s
  deep : ∀ (o : So) (l : List Int), o.Ok → RowOk l → ∀ s, Fdeepest [o.d, .tup (iD l)] s = .ok (.int (highest (along o.rule l []))) s
  touch : ∀ (o : So) (l : List Int), o.Ok → RowOk l → ∀ s, Ftouched [o.d, .tup (iD l)] s = .ok (.tup (cD l.length (tchF o l))) s
  ltouch : ∀ (o : So) (l : List Int), l.length ≤ 2000 → ∀ s, F_law_touched [.tup (iD l), .lst (esD (dOf o.rule l [])), .tup (dsD (ends o.fin (lastP o.rule l [])).1)] s = .ok (.tup (cD l.length (tchF o l))) s
theorem sl2 (a b c : D) : dSl (.tup [a, b, c]) none (some 2) = some (.tup [a, b]) := by simp [dSl, Q.cutD, HT.sIx]
section
variable {sc m : D} {x2 x3 x4 x5 x6 x7 x8 x9 x10 x11 x12 x13 x14 x15 x16 x17 : Sl} {s : Dw} {o : So} {l q : List Int} {kp : Str} {R : List Bool × List Int × Int} {rs : List (List Bool × List Int × Int)} {w x c : Int} {es : List Bool}

theorem t0 {Fs Fr : FF Dw} (hs : Sorts Fs m) (hr : Rows Fr m) {B : Int} (k : Sk B s) (hB : B < 2 ^ 32) : ∃ (o : So) (l : List Int) (s' : Dw), tu0 Fs Fr [Sl.val sc, Sl.val m, x2, x3, x4, x5, x6, x7, x8, x9, x10, x11, x12, x13, x14, x15, x16, x17, .no] s = .nxt [Sl.val sc, Sl.val m, x2, Sl.val o.d, x4, x5, x6, x7, Sl.val (.tup (iD l)), x9, x10, x11, x12, x13, x14, x15, x16, x17, .no] s' ∧ o.Ok ∧ l.length ≤ 30 ∧ RowOk l ∧ Sk (B + 2000) s' := by
  obtain ⟨o, s1, e1, o1, k1⟩ := hs 3 s B (by omega) (by omega) k (by omega)
  obtain ⟨l, s3, e3, h1, h2, k3⟩ := hr 12 30 s1 (B + 800) (by omega) (by omega) (by omega) k1 (by omega)
  have e1' : Fs [m, .int 3] s = .ok o.d s1 := e1
  have e3' : Fr [m, .int 12, .int 30] s1 = .ok (.tup (iD l)) s3 := e3
  exact ⟨o, l, s3, by simp [relAt_def, e1', e3', parS, asgL, slO], o1, h1, ⟨by omega, h2⟩, k3.mono (by omega)⟩
theorem t1 (e : bRepr [.lst [o.d, .tup (iD l)]] = some (.str kp)) : tu1 [Sl.val sc, Sl.val m, x2, Sl.val o.d, x4, x5, x6, x7, Sl.val (.tup (iD l)), x9, x10, x11, x12, x13, x14, x15, x16, x17, .no] s = .nxt [Sl.val sc, Sl.val m, x2, Sl.val o.d, x4, x5, x6, x7, Sl.val (.tup (iD l)), Sl.val (.str kp), Sl.val (.tup []), Sl.own [], Sl.own [], Sl.val (.int 0), x14, x15, x16, x17, .no] s := by
  simp [relAt_def, sz, e, parS, asgL, slO]
theorem i0 {Ff : FF Dw} (hq : q.length ≤ 400) (e : Ff [.tup (iD (x :: q).reverse), csD o.rule] s = .ok (.tup [pD R, eD R, .int R.2.2]) s) : ti0 Ff [Sl.val sc, Sl.val m, x2, Sl.val o.d, x4, x5, x6, x7, x8, x9, Sl.val (.tup (iD q.reverse)), x11, x12, x13, Sl.val (.int x), x15, x16, x17, .no] s = .nxt [Sl.val sc, Sl.val m, x2, Sl.val o.d, x4, x5, x6, Sl.val (.tup [pD R, eD R, .int R.2.2]), x8, x9, Sl.val (.tup (iD q.reverse)), x11, x12, x13, Sl.val (.int x), x15, x16, x17, .no] s := by
  have er : iD (x :: q).reverse = iD q.reverse ++ [D.int x] := by simp [iD]
  rw [er] at e
  have ha := addT (iD q.reverse) [.int x] (by simp; omega)
  have i0 : dIx o.d (.int 0) = some (csD o.rule) := by simp [So.d, dIx, at0]
  simp [relAt_def, sz, ha, i0, e]
theorem i1 {Fk Fp : FF Dw} (e1 : Fp [o.d, .tup (iD q.reverse), .int x] s = .ok (.tup [pD R, eD R]) s) (e2 : Fk [.lst [.tup [pD R, eD R], .tup [pD R, eD R]], .lst [.tup [pD R, eD R], .tup [pD R, eD R]]] s = .ok (.bl true) s) : ti1 Fk Fp [Sl.val sc, Sl.val m, x2, Sl.val o.d, x4, x5, x6, Sl.val (.tup [pD R, eD R, .int R.2.2]), x8, x9, Sl.val (.tup (iD q.reverse)), x11, x12, x13, Sl.val (.int x), x15, x16, x17, .no] s = .nxt [Sl.val sc, Sl.val m, x2, Sl.val o.d, x4, x5, x6, Sl.val (.tup [pD R, eD R, .int R.2.2]), x8, x9, Sl.val (.tup (iD q.reverse)), x11, x12, x13, Sl.val (.int x), x15, x16, x17, .no] s := by
  simp [relAt_def, e1, sz, sl2, e2]
theorem i2  : ti2 [Sl.val sc, Sl.val m, x2, x3, x4, x5, x6, Sl.val (.tup [pD R, eD R, .int R.2.2]), x8, x9, x10, x11, x12, Sl.val (.int w), x14, x15, x16, x17, .no] s = .nxt [Sl.val sc, Sl.val m, x2, x3, x4, x5, x6, Sl.val (.tup [pD R, eD R, .int R.2.2]), x8, x9, Sl.val (pD R), x11, x12, Sl.val (.int (w + R.2.2)), x14, x15, x16, x17, .no] s := by
  simp [parS, asgL, slO, dIx, at0, at2]
theorem i3 (h : rs.length ≤ 1000) : ti3 [Sl.val sc, Sl.val m, x2, x3, x4, x5, x6, x7, x8, x9, Sl.val (pD R), Sl.own (rs.map pD), x12, x13, x14, x15, x16, x17, .no] s = .nxt [Sl.val sc, Sl.val m, x2, x3, x4, x5, x6, x7, x8, x9, Sl.val (pD R), Sl.own ((rs ++ [R]).map pD), x12, x13, x14, x15, x16, x17, .no] s := by
  have hz : rs.length < sizeLine := szl (by omega)
  unfold ti3
  rw [relS_ap]
  simp only [relAll_cons, relAll_nil, relAt_def, List.getElem?_cons_succ, List.getElem?_cons_zero, List.set_cons_succ, List.set_cons_zero, relS_val]
  rw [appS_own (ds := rs.map pD) rfl]
  simp [hz]
theorem i4 (h : rs.length ≤ 1000) : ti4 [Sl.val sc, Sl.val m, x2, x3, x4, x5, x6, Sl.val (.tup [pD R, eD R, .int R.2.2]), x8, x9, x10, x11, Sl.own (rs.map eD), x13, x14, x15, x16, x17, .no] s = .nxt [Sl.val sc, Sl.val m, x2, x3, x4, x5, x6, Sl.val (.tup [pD R, eD R, .int R.2.2]), x8, x9, x10, x11, Sl.own ((rs ++ [R]).map eD), x13, x14, x15, x16, x17, .no] s := by
  have hz : rs.length < sizeLine := szl (by omega)
  unfold ti4
  rw [appS_own (ds := rs.map eD) rfl]
  simp [hz, dIx, at1]
theorem i5 {Fn Fe Fk : FF Dw} (e1 : Fe [o.d, pD R] s = .ok (.tup (dsD es)) s) (e2 : Fn [pD R, csD o.fin] s = .ok (.tup [.tup (dsD es), .int c]) s) (e3 : Fk [.tup (dsD es), .tup (dsD es)] s = .ok (.bl true) s) : ti5 Fn Fe Fk [Sl.val sc, Sl.val m, x2, Sl.val o.d, x4, x5, x6, x7, x8, x9, Sl.val (pD R), x11, x12, x13, x14, x15, x16, x17, .no] s = .nxt [Sl.val sc, Sl.val m, x2, Sl.val o.d, x4, x5, x6, x7, x8, x9, Sl.val (pD R), x11, x12, x13, x14, x15, x16, x17, .no] s := by
  have i1 : dIx o.d (.int 1) = some (csD o.fin) := by simp [So.d, dIx, at1]
  have i0 : dIx (.tup [.tup (dsD es), .int c]) (.int 0) = some (.tup (dsD es)) := by simp [dIx, at0]
  simp [relAt_def, e1, i1, e2, i0, e3]
theorem t3 {Fn : FF Dw} (e : Fn [.tup (iD q.reverse), csD o.fin] s = .ok (.tup [.tup (dsD es), .int c]) s) : tu3 Fn [Sl.val sc, Sl.val m, x2, Sl.val o.d, x4, x5, x6, x7, x8, x9, Sl.val (.tup (iD q.reverse)), x11, x12, x13, x14, x15, x16, x17, .no] s = .nxt [Sl.val sc, Sl.val m, x2, Sl.val o.d, x4, x5, x6, x7, x8, x9, Sl.val (.tup (iD q.reverse)), x11, x12, x13, x14, Sl.val (.tup (dsD es)), Sl.val (.int c), x17, .no] s := by
  have i1 : dIx o.d (.int 1) = some (csD o.fin) := by simp [So.d, dIx, at1]
  simp [relAt_def, i1, e]
theorem t4  : tu4 [Sl.val sc, Sl.val m, x2, x3, x4, x5, x6, x7, x8, x9, x10, x11, Sl.own (rs.map eD), Sl.val (.int w), x14, Sl.val (.tup (dsD es)), Sl.val (.int c), x17, .no] s = .nxt [Sl.val sc, Sl.val m, x2, x3, x4, x5, x6, Sl.val (.tup [.tup (rs.map eD), .tup (dsD es), .int (w + c)]), x8, x9, x10, x11, Sl.own (rs.map eD), Sl.val (.int w), x14, Sl.val (.tup (dsD es)), Sl.val (.int c), x17, .no] s := by
  simp [relAt_def, sz]
theorem t5 {Fr Fk Fc : FF Dw} {E Lz : D} (e1 : Fr [o.d, .tup (iD l)] s = .ok (.tup [E, Lz, .int c]) s) (e2 : Fr [o.d, .lst (iD l)] s = .ok (.tup [E, Lz, .int c]) s) (e3 : Fc [o.d, .tup (iD l)] s = .ok (.int c) s) (e4 : Fk [.lst [.tup [E, Lz, .int c], .tup [E, Lz, .int c], .int c], .lst [.tup [E, Lz, .int c], .tup [E, Lz, .int c], .int c]] s = .ok (.bl true) s) : tu5 Fr Fk Fc [Sl.val sc, Sl.val m, x2, Sl.val o.d, x4, x5, x6, Sl.val (.tup [E, Lz, .int c]), Sl.val (.tup (iD l)), x9, x10, x11, x12, x13, x14, x15, x16, x17, .no] s = .nxt [Sl.val sc, Sl.val m, x2, Sl.val o.d, x4, x5, x6, Sl.val (.tup [E, Lz, .int c]), Sl.val (.tup (iD l)), x9, x10, x11, x12, x13, x14, x15, x16, x17, .no] s := by
  have hb : bList [.tup (iD l)] = some (.lst (iD l)) := rfl
  have i2 : dIx (.tup [E, Lz, .int c]) (.int 2) = some (.int c) := by simp [dIx, at2]
  simp [relAt_def, e1, hb, e2, e3, sz, i2, e4]
theorem t6 {Fb Fd Ft : FF Dw} {A Hh Tt : D} (e1 : Fb [o.d, .tup (iD l)] s = .ok A s) (e2 : Fd [o.d, .tup (iD l)] s = .ok Hh s) (e3 : Ft [o.d, .tup (iD l)] s = .ok Tt s) : tu6 Fb Fd Ft [Sl.val sc, Sl.val m, x2, Sl.val o.d, x4, x5, x6, x7, Sl.val (.tup (iD l)), x9, x10, x11, x12, x13, x14, x15, x16, x17, .no] s = .nxt [Sl.val sc, Sl.val m, x2, Sl.val o.d, x4, x5, Sl.val (.lst [A, Hh, Tt]), x7, Sl.val (.tup (iD l)), x9, x10, x11, x12, x13, x14, x15, x16, x17, .no] s := by
  simp [relAt_def, e1, e2, e3, sz]
theorem t7 (hr : rs.length ≤ 5000) : tu7 [Sl.val sc, Sl.val m, x2, x3, x4, x5, x6, x7, x8, x9, x10, Sl.own (rs.map pD), x12, x13, x14, x15, x16, x17, .no] s = .nxt [Sl.val sc, Sl.val m, x2, x3, x4, x5, x6, x7, x8, x9, x10, Sl.own (rs.map pD), x12, x13, x14, x15, x16, Sl.val (.int (highest rs)), .no] s := by
  have key : lcGo (S := Dw) (tN 18) yesT (biF bLen (consA (vK 18) nilA)) [Sl.val sc, Sl.val m, x2, x3, x4, x5, x6, x7, x8, x9, x10, Sl.own (rs.map pD), x12, x13, x14, x15, x16, x17, .no] (rs.map pD) s = .ok (iD (lens rs)) s := by
    rw [← map_lenD]
    refine lcGo_map fun d hd => ?_
    obtain ⟨r, _, rfl⟩ := List.mem_map.mp hd
    exact ⟨[Sl.val sc, Sl.val m, x2, x3, x4, x5, x6, x7, x8, x9, x10, Sl.own (rs.map pD), x12, x13, x14, x15, x16, x17, Sl.val (pD r)], by simp, by simp, by simp [pD, lenD]⟩
  have ha := addLs [.int 0] (iD (lens rs)) (by simp [lens]; omega)
  have hm := bMax_lst 0 (lens rs)
  rw [iD_cons] at hm
  have hz : (lens rs).length ≤ sizeLine := sz (by simp [lens]; omega)
  simp only [List.cons_append, List.nil_append] at ha
  simp [relAt_def, key, ha, hm, hz, sz, highest]
theorem t8 {Fk Ft : FF Dw} {Lz Hh Tt : D} (e1 : Ft [.tup (iD l), .lst (rs.map eD), Lz] s = .ok Tt s) (e2 : Fk [.lst [.tup (rs.map pD), Hh, Tt], .lst [.tup (rs.map pD), Hh, Tt]] s = .ok (.bl true) s) : tu8 Fk Ft [Sl.val sc, Sl.val m, x2, x3, x4, x5, Sl.val (.lst [.tup (rs.map pD), Hh, Tt]), x7, Sl.val (.tup (iD l)), x9, x10, Sl.own (rs.map pD), Sl.own (rs.map eD), x13, x14, Sl.val Lz, x16, Sl.val Hh, .no] s = .nxt [Sl.val sc, Sl.val m, x2, x3, x4, x5, Sl.val (.lst [.tup (rs.map pD), Hh, Tt]), x7, Sl.val (.tup (iD l)), x9, x10, Sl.own (rs.map pD), Sl.val (.lst (rs.map eD)), x13, x14, Sl.val Lz, x16, Sl.val Hh, .no] s := by
  simp [relAt_def, e1, sz, e2]
theorem t9 (e : bRepr [.lst [o.d, .tup (iD l)]] = some (.str kp)) : tu9 [Sl.val sc, Sl.val m, x2, Sl.val o.d, x4, x5, x6, x7, Sl.val (.tup (iD l)), Sl.val (.str kp), x10, x11, x12, x13, x14, x15, x16, x17, .no] s = .nxt [Sl.val sc, Sl.val m, x2, Sl.val o.d, x4, x5, x6, x7, Sl.val (.tup (iD l)), Sl.val (.str kp), x10, x11, x12, x13, x14, x15, x16, x17, .no] s := by
  simp [relAt_def, sz, e, dNe_same]
end
theorem inner {F_law_end Frun Fended F_law_sorts F_law_row F_law_fall F_law_like Fpiles_behind Fdeepest Ftouched Fcost F_law_touched Fpushed : FF Dw} {m : D} (H : Hy m F_law_end Frun Fended F_law_sorts F_law_row F_law_fall F_law_like Fpiles_behind Fdeepest Ftouched Fcost F_law_touched Fpushed) {sc : D} {x2 x4 x5 x6 x15 x16 x17 : Sl} {o : So} {l : List Int} {kp : Str} (ok : o.Ok) {s : Dw} : ∀ (r q : List Int) (rs : List (List Bool × List Int × Int)) (w : Int) (x7 x14 : Sl), (∀ x ∈ r, 1 ≤ x ∧ x ≤ 1000000000000000000000000000000) → (∀ x ∈ q, 1 ≤ x) → q.sum + r.sum ≤ MM → q.length + r.length ≤ 30 → rs.length + r.length ≤ 30 → ∃ y7 y14, forGo (tN 14) (innerW F_law_end Fended F_law_fall F_law_like Fpushed) (iD r) [Sl.val sc, Sl.val m, x2, Sl.val o.d, x4, x5, x6, x7, Sl.val (.tup (iD l)), Sl.val (.str kp), Sl.val (.tup (iD q.reverse)), Sl.own (rs.map pD), Sl.own (rs.map eD), Sl.val (.int w), x14, x15, x16, x17, .no] s = .nxt [Sl.val sc, Sl.val m, x2, Sl.val o.d, x4, x5, x6, y7, Sl.val (.tup (iD l)), Sl.val (.str kp), Sl.val (.tup (iD (lastP o.rule r q).reverse)), Sl.own ((rs ++ along o.rule r q).map pD), Sl.own ((rs ++ along o.rule r q).map eD), Sl.val (.int (w + costs (along o.rule r q))), y14, x15, x16, x17, .no] s
  | [], q, rs, w, x7, x14, _, _, _, _, _ => ⟨x7, x14, by simp [along, costs, lastP]⟩
  | x :: r, q, rs, w, x7, x14, hr, hq, hs, hn, ha => by
    have hr0 := sum_nn (q := r) fun z hz => (hr z (List.mem_cons_of_mem _ hz)).1
    have hx := hr x List.mem_cons_self
    simp only [List.sum_cons, List.length_cons] at hs hn ha
    have hb : Bd (q.sum + x) (x :: q) := ⟨fun z hz => by
      rcases List.mem_cons.mp hz with rfl | hz
      · exact hx.1
      · exact hq z hz, by simp; omega⟩
    have hb' : Bd MM (x :: q) := ⟨hb.pos, by have := hb.sum; omega⟩
    have hf := fall_bd (cs := o.rule) hb
    have hro : Ro MM 31 (fall o.rule (x :: q)) := ro_fall hb' (by simp; omega)
    have hfl := fall_len o.rule (x :: q)
    simp only [List.length_cons] at hfl
    have hend := ends_bd (cs := o.fin) hro.bd
    have hpq : PileOk q.reverse := ⟨by simp; omega, fun z hz => hq z (List.mem_reverse.mp hz)⟩
    have hpr : PileOk (fall o.rule (x :: q)).2.1.reverse := ⟨by simp; omega, fun z hz => hro.bd.pos z (List.mem_reverse.mp hz)⟩
    have f1 := H.lfall o (x :: q) ok (by simp; omega) s
    have f2 := H.push o q x ok hpq hx s
    have f3 := H.ended o (fall o.rule (x :: q)).2.1 ok hpr s
    have f4 := H.lend o (fall o.rule (x :: q)).2.1 ok (by omega) s
    have ih0 := inner H (sc := sc) (x2 := x2) (x4 := x4) (x5 := x5) (x6 := x6) (x15 := x15) (x16 := x16) (x17 := x17) (l := l) (kp := kp) ok (s := s) r (fall o.rule (x :: q)).2.1 (rs ++ [fall o.rule (x :: q)]) (w + (fall o.rule (x :: q)).2.2)
    have hal : along o.rule (x :: r) q = fall o.rule (x :: q) :: along o.rule r (fall o.rule (x :: q)).2.1 := rfl
    have hla : lastP o.rule (x :: r) q = lastP o.rule r (fall o.rule (x :: q)).2.1 := rfl
    rw [hal, hla]
    generalize fall o.rule (x :: q) = R at hro hfl hend hf hpr f1 f2 f3 f4 ih0 ⊢
    have rp := rw_pile hro.bd (by have := hro.ln; omega)
    have rd := rw_deeds (ds := R.1) (by have := hro.ld; omega)
    have rt : Rw (.tup [pD R, eD R]) 2 5000 := (rw_tup (rwl_cons rp (rwl_cons rd (rwl_nil (k := 0))))).up (by omega) (by omega)
    have a0 := i0 (sc := sc) (m := m) (x2 := x2) (x4 := x4) (x5 := x5) (x6 := x6) (x7 := x7) (x8 := Sl.val (.tup (iD l))) (x9 := Sl.val (.str kp)) (x11 := Sl.own (rs.map pD)) (x12 := Sl.own (rs.map eD)) (x13 := Sl.val (.int w)) (x15 := x15) (x16 := x16) (x17 := x17) (R := R) (by omega) f1
    have a1 := i1 (sc := sc) (m := m) (x2 := x2) (x4 := x4) (x5 := x5) (x6 := x6) (x8 := Sl.val (.tup (iD l))) (x9 := Sl.val (.str kp)) (x11 := Sl.own (rs.map pD)) (x12 := Sl.own (rs.map eD)) (x13 := Sl.val (.int w)) (x15 := x15) (x16 := x16) (x17 := x17) f2 (H.like _ s (repr_of ((rw_lst (rwl_cons rt (rwl_cons rt (rwl_nil (k := 0))))).up (k' := 64) (n' := 1000000) (by omega) (by omega)) (by omega) (by omega) (.inr ⟨_, rfl⟩)))
    have a2 := i2 (sc := sc) (m := m) (s := s) (R := R) (w := w) (x2 := x2) (x3 := Sl.val o.d) (x4 := x4) (x5 := x5) (x6 := x6) (x8 := Sl.val (.tup (iD l))) (x9 := Sl.val (.str kp)) (x10 := Sl.val (.tup (iD q.reverse))) (x11 := Sl.own (rs.map pD)) (x12 := Sl.own (rs.map eD)) (x14 := Sl.val (.int x)) (x15 := x15) (x16 := x16) (x17 := x17)
    have a3 := i3 (sc := sc) (m := m) (s := s) (R := R) (rs := rs) (x2 := x2) (x3 := Sl.val o.d) (x4 := x4) (x5 := x5) (x6 := x6) (x7 := Sl.val (.tup [pD R, eD R, .int R.2.2])) (x8 := Sl.val (.tup (iD l))) (x9 := Sl.val (.str kp)) (x12 := Sl.own (rs.map eD)) (x13 := Sl.val (.int (w + R.2.2))) (x14 := Sl.val (.int x)) (x15 := x15) (x16 := x16) (x17 := x17) (by omega)
    have a4 := i4 (sc := sc) (m := m) (s := s) (R := R) (rs := rs) (x2 := x2) (x3 := Sl.val o.d) (x4 := x4) (x5 := x5) (x6 := x6) (x8 := Sl.val (.tup (iD l))) (x9 := Sl.val (.str kp)) (x10 := Sl.val (pD R)) (x11 := Sl.own ((rs ++ [R]).map pD)) (x13 := Sl.val (.int (w + R.2.2))) (x14 := Sl.val (.int x)) (x15 := x15) (x16 := x16) (x17 := x17) (by omega)
    have a5 := i5 (sc := sc) (m := m) (R := R) (x2 := x2) (x4 := x4) (x5 := x5) (x6 := x6) (x7 := Sl.val (.tup [pD R, eD R, .int R.2.2])) (x8 := Sl.val (.tup (iD l))) (x9 := Sl.val (.str kp)) (x11 := Sl.own ((rs ++ [R]).map pD)) (x12 := Sl.own ((rs ++ [R]).map eD)) (x13 := Sl.val (.int (w + R.2.2))) (x14 := Sl.val (.int x)) (x15 := x15) (x16 := x16) (x17 := x17) f3 f4 (H.like _ s (repr_of (rw_deeds (ds := (ends o.fin R.2.1).1) (by have := hro.ln; omega)) (by omega) (by omega) (.inl ⟨_, rfl⟩)))
    obtain ⟨y7, y14, ih⟩ := ih0 (Sl.val (.tup [pD R, eD R, .int R.2.2])) (Sl.val (.int x)) (fun z hz => hr z (List.mem_cons_of_mem _ hz)) hro.bd.pos (by have := hf.1.sum; omega) (by omega) (by simp; omega)
    refine ⟨y7, y14, ?_⟩
    rw [iD_cons, forGo_cons (ρ1 := [Sl.val sc, Sl.val m, x2, Sl.val o.d, x4, x5, x6, x7, Sl.val (.tup (iD l)), Sl.val (.str kp), Sl.val (.tup (iD q.reverse)), Sl.own (rs.map pD), Sl.own (rs.map eD), Sl.val (.int w), Sl.val (.int x), x15, x16, x17, .no]) (by simp)]
    unfold innerW
    rw [seqS_ap, a0, next_nxt, seqS_ap, a1, next_nxt, seqS_ap, a2, next_nxt, seqS_ap, a3, next_nxt, seqS_ap, a4, next_nxt, seqS_ap, a5, next_nxt, nextS_ap, turn_nxt]
    unfold innerW at ih
    refine Eq.trans ih ?_
    have hc : w + costs (R :: along o.rule r R.2.1) = w + R.2.2 + costs (along o.rule r R.2.1) := by
      have : costs (R :: along o.rule r R.2.1) = R.2.2 + costs (along o.rule r R.2.1) := by simp [costs]
      rw [this]; omega
    rw [hc]
    simp only [List.append_assoc, List.singleton_append]
def Sh (sc m : D) (ρ : List Sl) : Prop := ∃ x2 x3 x4 x5 x6 x7 x8 x9 x10 x11 x12 x13 x14 x15 x16 x17 : Sl, ρ = [Sl.val sc, Sl.val m, x2, x3, x4, x5, x6, x7, x8, x9, x10, x11, x12, x13, x14, x15, x16, x17, .no]
theorem turn {F_law_end Frun Fended F_law_sorts F_law_row F_law_fall F_law_like Fpiles_behind Fdeepest Ftouched Fcost F_law_touched Fpushed : FF Dw} {m : D} (H : Hy m F_law_end Frun Fended F_law_sorts F_law_row F_law_fall F_law_like Fpiles_behind Fdeepest Ftouched Fcost F_law_touched Fpushed) {sc : D} {ρ : List Sl} {s : Dw} {B : Int} (hs : Sh sc m ρ) (hk : Sk B s) (hB : B < 2 ^ 31) : ∃ ρ' s', turnW F_law_end Frun Fended F_law_sorts F_law_row F_law_fall F_law_like Fpiles_behind Fdeepest Ftouched Fcost F_law_touched Fpushed ρ s = .nxt ρ' s' ∧ Sh sc m ρ' ∧ Sk (B + 3000) s' := by
  obtain ⟨x2, x3, x4, x5, x6, x7, x8, x9, x10, x11, x12, x13, x14, x15, x16, x17, rfl⟩ := hs
  obtain ⟨o, l, s1, a0, ok, l30, hl, k1⟩ := t0 (sc := sc) (x2 := x2) (x3 := x3) (x4 := x4) (x5 := x5) (x6 := x6) (x7 := x7) (x8 := x8) (x9 := x9) (x10 := x10) (x11 := x11) (x12 := x12) (x13 := x13) (x14 := x14) (x15 := x15) (x16 := x16) (x17 := x17) H.sorts H.row hk (by omega)
  obtain ⟨kp, ek⟩ : ReprOk (.lst [o.d, .tup (iD l)]) := repr_of ((rw_lst (rwl_cons (rw_so ok) (rwl_cons (rw_row hl) (rwl_nil (k := 0))))).up (k' := 64) (n' := 1000000) (by omega) (by omega)) (by omega) (by omega) (.inr ⟨_, rfl⟩)
  have w := wo_of (o := o) hl l30
  have hal := along_len o.rule l []
  have hsum : l.sum ≤ MM := by
    have hs := sum_le fun x hx => (hl.2 x hx).2
    have : (l.length : Int) * 1000000000000000000000000000000 ≤ 30 * 1000000000000000000000000000000 := Int.mul_le_mul_of_nonneg_right (by omega) (by omega)
    unfold MM
    omega
  have a1 := t1 (sc := sc) (m := m) (s := s1) (x2 := x2) (x4 := x4) (x5 := x5) (x6 := x6) (x7 := x7) (x9 := x9) (x10 := x10) (x11 := x11) (x12 := x12) (x13 := x13) (x14 := x14) (x15 := x15) (x16 := x16) (x17 := x17) ek
  obtain ⟨y7, y14, a2⟩ := inner H (sc := sc) (x2 := x2) (x4 := x4) (x5 := x5) (x6 := x6) (x15 := x15) (x16 := x16) (x17 := x17) (l := l) (kp := kp) ok (s := s1) l [] [] 0 x7 x14 hl.2 (by simp) (by simpa using hsum) (by simpa using l30) (by simpa using l30)
  simp only [List.reverse_nil, iD_nil, List.map_nil, List.nil_append, Int.zero_add] at a2
  have fe := H.lend o (lastP o.rule l []) ok (by have := w.ll; omega) s1
  have a3 := t3 (sc := sc) (m := m) (x2 := x2) (x4 := x4) (x5 := x5) (x6 := x6) (x7 := y7) (x8 := Sl.val (.tup (iD l))) (x9 := Sl.val (.str kp)) (x11 := Sl.own ((along o.rule l []).map pD)) (x12 := Sl.own ((along o.rule l []).map eD)) (x13 := Sl.val (.int (costs (along o.rule l [])))) (x14 := y14) (x15 := x15) (x16 := x16) (x17 := x17) fe
  have a4 := t4 (sc := sc) (m := m) (s := s1) (rs := (along o.rule l [])) (w := costs (along o.rule l [])) (c := (ends o.fin (lastP o.rule l [])).2) (es := (ends o.fin (lastP o.rule l [])).1) (x2 := x2) (x3 := Sl.val o.d) (x4 := x4) (x5 := x5) (x6 := x6) (x7 := y7) (x8 := Sl.val (.tup (iD l))) (x9 := Sl.val (.str kp)) (x10 := Sl.val (.tup (iD (lastP o.rule l []).reverse))) (x11 := Sl.own ((along o.rule l []).map pD)) (x14 := y14) (x17 := x17)
  have er : runD o l = .tup [.tup ((along o.rule l []).map eD), .tup (dsD (ends o.fin (lastP o.rule l [])).1), .int (costs (along o.rule l []) + (ends o.fin (lastP o.rule l [])).2)] := by
    rw [runD_eq, dOf_eD]; rfl
  have fr := H.run o l ok hl s1
  have frL := H.runL o l ok hl s1
  have rr := rw_run w l30
  rw [er] at fr frL rr
  have fc := H.cost o l ok hl s1
  have rc : Rw (.int (costs (along o.rule l []) + (ends o.fin (lastP o.rule l [])).2)) 0 40 := rw_int w.c0 (by have h1 := w.cm; have := big40; show costOf o l < _; omega)
  have a5 := t5 (sc := sc) (m := m) (x2 := x2) (x4 := x4) (x5 := x5) (x6 := x6) (x9 := Sl.val (.str kp)) (x10 := Sl.val (.tup (iD (lastP o.rule l []).reverse))) (x11 := Sl.own ((along o.rule l []).map pD)) (x12 := Sl.own ((along o.rule l []).map eD)) (x13 := Sl.val (.int (costs (along o.rule l [])))) (x14 := y14) (x15 := Sl.val (.tup (dsD (ends o.fin (lastP o.rule l [])).1))) (x16 := Sl.val (.int (ends o.fin (lastP o.rule l [])).2)) (x17 := x17) fr frL fc (H.like _ s1 (repr_of ((rw_lst (rwl_cons rr (rwl_cons rr (rwl_cons rc (rwl_nil (k := 0)))))).up (k' := 64) (n' := 1000000) (by omega) (by omega)) (by omega) (by omega) (.inr ⟨_, rfl⟩)))
  have a6 := t6 (sc := sc) (m := m) (x2 := x2) (x4 := x4) (x5 := x5) (x6 := x6) (x7 := Sl.val (.tup [.tup ((along o.rule l []).map eD), .tup (dsD (ends o.fin (lastP o.rule l [])).1), .int (costs (along o.rule l []) + (ends o.fin (lastP o.rule l [])).2)])) (x9 := Sl.val (.str kp)) (x10 := Sl.val (.tup (iD (lastP o.rule l []).reverse))) (x11 := Sl.own ((along o.rule l []).map pD)) (x12 := Sl.own ((along o.rule l []).map eD)) (x13 := Sl.val (.int (costs (along o.rule l [])))) (x14 := y14) (x15 := Sl.val (.tup (dsD (ends o.fin (lastP o.rule l [])).1))) (x16 := Sl.val (.int (ends o.fin (lastP o.rule l [])).2)) (x17 := x17) (H.behind o l ok hl s1) (H.deep o l ok hl s1) (H.touch o l ok hl s1)
  have a7 := t7 (sc := sc) (m := m) (s := s1) (rs := (along o.rule l [])) (x2 := x2) (x3 := Sl.val o.d) (x4 := x4) (x5 := x5) (x6 := Sl.val (.lst [.tup ((along o.rule l []).map pD), .int (highest (along o.rule l [])), .tup (cD l.length (tchF o l))])) (x7 := Sl.val (.tup [.tup ((along o.rule l []).map eD), .tup (dsD (ends o.fin (lastP o.rule l [])).1), .int (costs (along o.rule l []) + (ends o.fin (lastP o.rule l [])).2)])) (x8 := Sl.val (.tup (iD l))) (x9 := Sl.val (.str kp)) (x10 := Sl.val (.tup (iD (lastP o.rule l []).reverse))) (x12 := Sl.own ((along o.rule l []).map eD)) (x13 := Sl.val (.int (costs (along o.rule l [])))) (x14 := y14) (x15 := Sl.val (.tup (dsD (ends o.fin (lastP o.rule l [])).1))) (x16 := Sl.val (.int (ends o.fin (lastP o.rule l [])).2)) (x17 := x17) (by omega)
  have ft := H.ltouch o l (by omega) s1
  have ft' : F_law_touched [.tup (iD l), .lst ((along o.rule l []).map eD), .tup (dsD (ends o.fin (lastP o.rule l [])).1)] s1 = .ok (.tup (cD l.length (tchF o l))) s1 := by
    rw [dOf_eD]; exact ft
  have rp := rw_piles w.ro (by omega)
  have rh : Rw (.int (highest (along o.rule l []))) 0 40 := rw_int w.h0.1 (by have h1 := w.h0.2; have := big40; omega)
  have rc := rw_cnt (n := l.length) w.t0 (by omega)
  have a8 := t8 (sc := sc) (m := m) (x2 := x2) (x3 := Sl.val o.d) (x4 := x4) (x5 := x5) (x7 := Sl.val (.tup [.tup ((along o.rule l []).map eD), .tup (dsD (ends o.fin (lastP o.rule l [])).1), .int (costs (along o.rule l []) + (ends o.fin (lastP o.rule l [])).2)])) (x9 := Sl.val (.str kp)) (x10 := Sl.val (.tup (iD (lastP o.rule l []).reverse))) (x13 := Sl.val (.int (costs (along o.rule l [])))) (x14 := y14) (x16 := Sl.val (.int (ends o.fin (lastP o.rule l [])).2)) ft' (H.like _ s1 (repr_of ((rw_lst (rwl_cons rp (rwl_cons rh (rwl_cons rc (rwl_nil (k := 0)))))).up (k' := 64) (n' := 1000000) (by omega) (by omega)) (by omega) (by omega) (.inr ⟨_, rfl⟩)))
  have a9 := t9 (sc := sc) (m := m) (s := s1) (x2 := x2) (x4 := x4) (x5 := x5) (x6 := Sl.val (.lst [.tup ((along o.rule l []).map pD), .int (highest (along o.rule l [])), .tup (cD l.length (tchF o l))])) (x7 := Sl.val (.tup [.tup ((along o.rule l []).map eD), .tup (dsD (ends o.fin (lastP o.rule l [])).1), .int (costs (along o.rule l []) + (ends o.fin (lastP o.rule l [])).2)])) (x10 := Sl.val (.tup (iD (lastP o.rule l []).reverse))) (x11 := Sl.own ((along o.rule l []).map pD)) (x12 := Sl.val (.lst ((along o.rule l []).map eD))) (x13 := Sl.val (.int (costs (along o.rule l [])))) (x14 := y14) (x15 := Sl.val (.tup (dsD (ends o.fin (lastP o.rule l [])).1))) (x16 := Sl.val (.int (ends o.fin (lastP o.rule l [])).2)) (x17 := Sl.val (.int (highest (along o.rule l [])))) ek
  have b2 : (tu2 F_law_end Fended F_law_fall F_law_like Fpushed) [Sl.val sc, Sl.val m, x2, Sl.val o.d, x4, x5, x6, x7, Sl.val (.tup (iD l)), Sl.val (.str kp), Sl.val (.tup []), Sl.own [], Sl.own [], Sl.val (.int 0), x14, x15, x16, x17, .no] s1 = .nxt [Sl.val sc, Sl.val m, x2, Sl.val o.d, x4, x5, x6, y7, Sl.val (.tup (iD l)), Sl.val (.str kp), Sl.val (.tup (iD (lastP o.rule l []).reverse)), Sl.own ((along o.rule l []).map pD), Sl.own ((along o.rule l []).map eD), Sl.val (.int (costs (along o.rule l []))), y14, x15, x16, x17, .no] s1 := by
    unfold tu2
    rw [lockS_cons, lockS_nil, lock1_val (d := .tup (iD l)) rfl, forS_ap, iSeq_ap, vS_ap]
    have q0 : slS (S := Dw) ([Sl.val sc, Sl.val m, x2, Sl.val o.d, x4, x5, x6, x7, Sl.val (.tup (iD l)), Sl.val (.str kp), Sl.val (.tup []), Sl.own [], Sl.own [], Sl.val (.int 0), x14, x15, x16, x17, .no] : List Sl)[8]? s1 = .ok (.tup (iD l)) s1 := rfl
    rw [q0, bind_okS, itemsOf_tup, ofO_some, thenS_ok]
    exact a2
  refine ⟨_, s1, ?_, ⟨x2, Sl.val o.d, x4, x5, Sl.val (.lst [.tup ((along o.rule l []).map pD), .int (highest (along o.rule l [])), .tup (cD l.length (tchF o l))]), Sl.val (.tup [.tup ((along o.rule l []).map eD), .tup (dsD (ends o.fin (lastP o.rule l [])).1), .int (costs (along o.rule l []) + (ends o.fin (lastP o.rule l [])).2)]), Sl.val (.tup (iD l)), Sl.val (.str kp), Sl.val (.tup (iD (lastP o.rule l []).reverse)), Sl.own ((along o.rule l []).map pD), Sl.val (.lst ((along o.rule l []).map eD)), Sl.val (.int (costs (along o.rule l []))), y14, Sl.val (.tup (dsD (ends o.fin (lastP o.rule l [])).1)), Sl.val (.int (ends o.fin (lastP o.rule l [])).2), Sl.val (.int (highest (along o.rule l []))), rfl⟩, k1.mono (by omega)⟩
  unfold turnW
  rw [seqS_ap, a0, next_nxt, seqS_ap, a1, next_nxt, seqS_ap, b2, next_nxt, seqS_ap, a3, next_nxt, seqS_ap, a4, next_nxt, seqS_ap, a5, next_nxt, seqS_ap, a6, next_nxt, seqS_ap, a7, next_nxt, seqS_ap, a8, next_nxt, seqS_ap, a9, next_nxt, nextS_ap]
theorem loop {F_law_end Frun Fended F_law_sorts F_law_row F_law_fall F_law_like Fpiles_behind Fdeepest Ftouched Fcost F_law_touched Fpushed : FF Dw} {m : D} (H : Hy m F_law_end Frun Fended F_law_sorts F_law_row F_law_fall F_law_like Fpiles_behind Fdeepest Ftouched Fcost F_law_touched Fpushed) {sc : D} : ∀ (j : Nat) (k : Int) (ρ : List Sl) (s : Dw) (B : Int), Sh sc m ρ → Sk B s → B + 3000 * j < 2 ^ 30 → ∃ ρ' s', forGo (tN 2) (turnW F_law_end Frun Fended F_law_sorts F_law_row F_law_fall F_law_like Fpiles_behind Fdeepest Ftouched Fcost F_law_touched Fpushed) (rangeD k j) ρ s = .nxt ρ' s' ∧ Sh sc m ρ' ∧ Sk (B + 3000 * j) s'
  | 0, k, ρ, s, B, hs, hk, _ => ⟨ρ, s, rfl, hs, hk.mono (by simp)⟩
  | j + 1, k, ρ, s, B, hs, hk, hB => by
    obtain ⟨x2, x3, x4, x5, x6, x7, x8, x9, x10, x11, x12, x13, x14, x15, x16, x17, rfl⟩ := hs
    obtain ⟨ρ1, s1, e1, h1, k1⟩ := turn H (sc := sc) (ρ := [Sl.val sc, Sl.val m, Sl.val (.int k), x3, x4, x5, x6, x7, x8, x9, x10, x11, x12, x13, x14, x15, x16, x17, .no]) (s := s) (B := B) ⟨_, x3, x4, x5, x6, x7, x8, x9, x10, x11, x12, x13, x14, x15, x16, x17, rfl⟩ hk (by omega)
    obtain ⟨ρ2, s2, e2, h2, k2⟩ := loop H j (k + 1) ρ1 s1 (B + 3000) h1 k1 (by omega)
    refine ⟨ρ2, s2, ?_, h2, k2.mono (by omega)⟩
    rw [rangeD, forGo_cons (ρ1 := [Sl.val sc, Sl.val m, Sl.val (.int k), x3, x4, x5, x6, x7, x8, x9, x10, x11, x12, x13, x14, x15, x16, x17, .no]) (by simp), e1, turn_nxt]
    exact e2
def k1 : Cl := ⟨[⟨[2], false, [0, 1]⟩, ⟨[2], true, [0]⟩], false⟩
def k2 : Cl := ⟨[⟨[2], false, [0, 1]⟩], true⟩
def k3 : Cl := ⟨[⟨[1], false, [0]⟩], true⟩
def soA : So := ⟨[k1, k2, k3], []⟩
def kR : Cl := ⟨[⟨[1], true, [0]⟩, ⟨[0], true, [1]⟩], true⟩
def soS : So := ⟨[kR, kR, kR, kR, kR, ⟨[], true⟩], [kR, ⟨[], false⟩]⟩
theorem okT3 (a b c : Int) (w : Bool) (h1 : a < b) (h2 : c ≠ a ∧ c ≠ b) (ha : 0 ≤ a) (hb : b ≤ 3) (hc : 0 ≤ c ∧ c ≤ 3) : (⟨[c], w, [a, b]⟩ : Tst).Ok :=
  ⟨⟨by simp, by simp, by simpa using hc, by simp⟩, ⟨by simp, by simp, by simp; omega, by simp; omega⟩, by simp; omega⟩
theorem k1_ok : k1.Ok := ⟨by decide, by
  intro t ht; simp [k1] at ht
  rcases ht with rfl | rfl
  · exact okT3 0 1 2 _ (by decide) (by decide) (by decide) (by decide) (by decide)
  · exact ok1 2 0 _ (by decide) (by decide) (by decide)⟩
theorem k2_ok : k2.Ok := ⟨by decide, by
  intro t ht; simp [k2] at ht
  subst ht
  exact okT3 0 1 2 _ (by decide) (by decide) (by decide) (by decide) (by decide)⟩
theorem k3_ok : k3.Ok := ⟨by decide, by
  intro t ht; simp [k3] at ht
  subst ht
  exact ok1 1 0 _ (by decide) (by decide) (by decide)⟩
theorem kR_ok : kR.Ok := ⟨by decide, by
  intro t ht; simp [kR] at ht
  rcases ht with rfl | rfl
  · exact ok1 1 0 _ (by decide) (by decide) (by decide)
  · exact ok1 0 1 _ (by decide) (by decide) (by decide)⟩
theorem k0_ok (b : Bool) : (⟨[], b⟩ : Cl).Ok := ⟨by simp, by simp⟩
theorem soA_ok : soA.Ok := ⟨by decide, by decide, by decide, by
  intro c hc; simp [soA] at hc
  rcases hc with rfl | rfl | rfl
  · exact k1_ok
  · exact k2_ok
  · exact k3_ok, by intro c hc; simp [soA] at hc⟩
theorem soS_ok : soS.Ok := ⟨by decide, by decide, by decide, by
  intro c hc; simp [soS] at hc
  rcases hc with rfl | rfl
  · exact kR_ok
  · exact k0_ok _, by
  intro c hc; simp [soS] at hc
  rcases hc with rfl | rfl
  · exact kR_ok
  · exact k0_ok _⟩
theorem pok (q : List Int) (h1 : q.length ≤ 400) (h2 : ∀ x ∈ q, 1 ≤ x) : PileOk q.reverse := ⟨by simpa using h1, fun x hx => h2 x (List.mem_reverse.mp hx)⟩
theorem tailR {F_law_end Frun Fended F_law_sorts F_law_row F_law_fall F_law_like Fpiles_behind Fdeepest Ftouched Fcost F_law_touched Fpushed : FF Dw} {m : D} (H : Hy m F_law_end Frun Fended F_law_sorts F_law_row F_law_fall F_law_like Fpiles_behind Fdeepest Ftouched Fcost F_law_touched Fpushed) {sc : D} {ρ : List Sl} {s : Dw} (hs : Sh sc m ρ) : tailW Frun Fended ρ s = .ret true (.bl true) s := by
  obtain ⟨x2, x3, x4, x5, x6, x7, x8, x9, x10, x11, x12, x13, x14, x15, x16, x17, rfl⟩ := hs
  have f1 := H.run soS [3, 4, 5] soS_ok ⟨by decide, by decide⟩ s
  have f2 := H.ended soS [5, 4, 3] soS_ok (pok _ (by decide) (by decide)) s
  have f3 := H.ended soS [] soS_ok (pok _ (by decide) (by decide)) s
  have f4 := H.ended soS [3] soS_ok (pok _ (by decide) (by decide)) s
  have f5 := H.run soA [5, 3, 4, 2, 9] soA_ok ⟨by decide, by decide⟩ s
  have f6 := H.run soA [3, 2, 9] soA_ok ⟨by decide, by decide⟩ s
  have f7 := H.run soA [] soA_ok ⟨by decide, by decide⟩ s
  have f8 := H.run soA [7] soA_ok ⟨by decide, by decide⟩ s
  have g1 : runD soS [3, 4, 5] = .tup [.tup [.tup [], .tup [.str "top"], .tup [.str "top"]], .tup [], .int 19] := by kernel_rfl
  have g2 : (ends soS.fin [5, 4, 3]).1 = [false, true] := by kernel_rfl
  have g3 : (ends soS.fin []).1 = [] := by kernel_rfl
  have g4 : (ends soS.fin [3]).1 = [] := by kernel_rfl
  have g5 : runD soA [5, 3, 4, 2, 9] = .tup [.tup [.tup [], .tup [], .tup [.str "top", .str "top"], .tup [], .tup [.str "top"]], .tup [.str "top"], .int 53] := by kernel_rfl
  have g6 : runD soA [3, 2, 9] = .tup [.tup [.tup [], .tup [], .tup [.str "under", .str "top"]], .tup [], .int 19] := by kernel_rfl
  have g7 : runD soA [] = .tup [.tup [], .tup [], .int 0] := by kernel_rfl
  have g8 : runD soA [7] = .tup [.tup [.tup []], .tup [], .int 0] := by kernel_rfl
  rw [g1] at f1; rw [g2] at f2; rw [g3] at f3; rw [g4] at f4; rw [g5] at f5; rw [g6] at f6; rw [g7] at f7; rw [g8] at f8
  simp [dsD, dword] at f1 f2 f3 f4 f5 f6 f7 f8
  have a0 : tl0 [Sl.val sc, Sl.val m, x2, x3, x4, x5, x6, x7, x8, x9, x10, x11, x12, x13, x14, x15, x16, x17, .no] s = .nxt [Sl.val sc, Sl.val m, x2, Sl.val (csD [k1, k2]), x4, x5, x6, x7, x8, x9, x10, x11, x12, x13, x14, x15, x16, x17, .no] s := by
    simp [sz, k1, k2, k3, kR, csD, Cl.d, Tst.d, word, dword]
  have ad : dAdd (csD [k1, k2]) (.tup [.tup [.tup [.tup [.tup [.int 1], .str "atmost", .tup [.int 0]]], .str "top"]]) = some (csD [k1, k2, k3]) := by kernel_rfl
  have zA : D.tup [csD [k1, k2, k3], .tup []] = soA.d := by kernel_rfl
  have a1 : tl1 [Sl.val sc, Sl.val m, x2, Sl.val (csD [k1, k2]), x4, x5, x6, x7, x8, x9, x10, x11, x12, x13, x14, x15, x16, x17, .no] s = .nxt [Sl.val sc, Sl.val m, x2, Sl.val soA.d, x4, x5, x6, x7, x8, x9, x10, x11, x12, x13, x14, x15, x16, x17, .no] s := by simp [sz, ad, zA]
  have a2 : tl2 [Sl.val sc, Sl.val m, x2, Sl.val soA.d, x4, x5, x6, x7, x8, x9, x10, x11, x12, x13, x14, x15, x16, x17, .no] s = .nxt [Sl.val sc, Sl.val m, x2, Sl.val soA.d, Sl.val kR.d, x5, x6, x7, x8, x9, x10, x11, x12, x13, x14, x15, x16, x17, .no] s := by
    simp [sz, k1, k2, k3, kR, csD, Cl.d, Tst.d, word, dword]
  have mu : dMul (.tup [kR.d]) (.int 5) = some (csD [kR, kR, kR, kR, kR]) := by kernel_rfl
  have ad2 : dAdd (csD [kR, kR, kR, kR, kR]) (.tup [.tup [.tup [], .str "top"]]) = some (csD soS.rule) := by kernel_rfl
  have zS : D.tup [csD soS.rule, .tup [kR.d, .tup [.tup [], .str "under"]]] = soS.d := by kernel_rfl
  have a3 : tl3 [Sl.val sc, Sl.val m, x2, Sl.val soA.d, Sl.val kR.d, x5, x6, x7, x8, x9, x10, x11, x12, x13, x14, x15, x16, x17, .no] s = .nxt [Sl.val sc, Sl.val m, x2, Sl.val soA.d, Sl.val kR.d, Sl.val soS.d, x6, x7, x8, x9, x10, x11, x12, x13, x14, x15, x16, x17, .no] s := by simp [relAt_def, sz, mu, ad2, zS]
  have a4 : tl4 Frun Fended [Sl.val sc, Sl.val m, x2, Sl.val soA.d, Sl.val kR.d, Sl.val soS.d, x6, x7, x8, x9, x10, x11, x12, x13, x14, x15, x16, x17, .no] s = .nxt [Sl.val sc, Sl.val m, x2, Sl.val soA.d, Sl.val kR.d, Sl.val soS.d, Sl.val (.lst [.tup [.tup [.tup [], .tup [.str "top"], .tup [.str "top"]], .tup [], .int 19], .tup [.str "under", .str "top"], .tup [], .tup []]), x7, x8, x9, x10, x11, x12, x13, x14, x15, x16, x17, .no] s := by simp [relAt_def, sz, f1, f2, f3, f4]
  have n1 : dNe (.lst [.tup [.tup [.tup [], .tup [.str "top"], .tup [.str "top"]], .tup [], .int 19], .tup [.str "under", .str "top"], .tup [], .tup []]) (.lst [.tup [.tup [.tup [], .tup [.str "top"], .tup [.str "top"]], .tup [], .int 19], .tup [.str "under", .str "top"], .tup [], .tup []]) = some (.bl false) := by kernel_rfl
  have a5 : tl5 [Sl.val sc, Sl.val m, x2, Sl.val soA.d, Sl.val kR.d, Sl.val soS.d, Sl.val (.lst [.tup [.tup [.tup [], .tup [.str "top"], .tup [.str "top"]], .tup [], .int 19], .tup [.str "under", .str "top"], .tup [], .tup []]), x7, x8, x9, x10, x11, x12, x13, x14, x15, x16, x17, .no] s = .nxt [Sl.val sc, Sl.val m, x2, Sl.val soA.d, Sl.val kR.d, Sl.val soS.d, Sl.val (.lst [.tup [.tup [.tup [], .tup [.str "top"], .tup [.str "top"]], .tup [], .int 19], .tup [.str "under", .str "top"], .tup [], .tup []]), x7, x8, x9, x10, x11, x12, x13, x14, x15, x16, x17, .no] s := by simp [sz, n1]
  have a6 : tl6 Frun [Sl.val sc, Sl.val m, x2, Sl.val soA.d, Sl.val kR.d, Sl.val soS.d, Sl.val (.lst [.tup [.tup [.tup [], .tup [.str "top"], .tup [.str "top"]], .tup [], .int 19], .tup [.str "under", .str "top"], .tup [], .tup []]), x7, x8, x9, x10, x11, x12, x13, x14, x15, x16, x17, .no] s = .nxt [Sl.val sc, Sl.val m, x2, Sl.val soA.d, Sl.val kR.d, Sl.val soS.d, Sl.val (.lst [.tup [.tup [.tup [], .tup [], .tup [.str "top", .str "top"], .tup [], .tup [.str "top"]], .tup [.str "top"], .int 53], .tup [.tup [.tup [], .tup [], .tup [.str "under", .str "top"]], .tup [], .int 19], .tup [.tup [], .tup [], .int 0], .tup [.tup [.tup []], .tup [], .int 0]]), x7, x8, x9, x10, x11, x12, x13, x14, x15, x16, x17, .no] s := by simp [relAt_def, sz, f5, f6, f7, f8]
  have a7 : tl7 [Sl.val sc, Sl.val m, x2, Sl.val soA.d, Sl.val kR.d, Sl.val soS.d, Sl.val (.lst [.tup [.tup [.tup [], .tup [], .tup [.str "top", .str "top"], .tup [], .tup [.str "top"]], .tup [.str "top"], .int 53], .tup [.tup [.tup [], .tup [], .tup [.str "under", .str "top"]], .tup [], .int 19], .tup [.tup [], .tup [], .int 0], .tup [.tup [.tup []], .tup [], .int 0]]), x7, x8, x9, x10, x11, x12, x13, x14, x15, x16, x17, .no] s = .nxt [Sl.val sc, Sl.val m, x2, Sl.val soA.d, Sl.val kR.d, Sl.val soS.d, Sl.val (.lst [.tup [.tup [.tup [], .tup [], .tup [.str "top", .str "top"], .tup [], .tup [.str "top"]], .tup [.str "top"], .int 53], .tup [.tup [.tup [], .tup [], .tup [.str "under", .str "top"]], .tup [], .int 19], .tup [.tup [], .tup [], .int 0], .tup [.tup [.tup []], .tup [], .int 0]]), Sl.val (.lst [.tup [.tup [.tup [], .tup [], .tup [.str "top", .str "top"], .tup [], .tup [.str "top"]], .tup [.str "top"], .int 53], .tup [.tup [.tup [], .tup [], .tup [.str "under", .str "top"]], .tup [], .int 19]]), x8, x9, x10, x11, x12, x13, x14, x15, x16, x17, .no] s := by simp [sz]
  have ae : dAdd (.lst [.tup [.tup [.tup [], .tup [], .tup [.str "top", .str "top"], .tup [], .tup [.str "top"]], .tup [.str "top"], .int 53], .tup [.tup [.tup [], .tup [], .tup [.str "under", .str "top"]], .tup [], .int 19]]) (.lst [.tup [.tup [], .tup [], .int 0], .tup [.tup [.tup []], .tup [], .int 0]]) = some (.lst [.tup [.tup [.tup [], .tup [], .tup [.str "top", .str "top"], .tup [], .tup [.str "top"]], .tup [.str "top"], .int 53], .tup [.tup [.tup [], .tup [], .tup [.str "under", .str "top"]], .tup [], .int 19], .tup [.tup [], .tup [], .int 0], .tup [.tup [.tup []], .tup [], .int 0]]) := by kernel_rfl
  have eq : dEq (.lst [.tup [.tup [.tup [], .tup [], .tup [.str "top", .str "top"], .tup [], .tup [.str "top"]], .tup [.str "top"], .int 53], .tup [.tup [.tup [], .tup [], .tup [.str "under", .str "top"]], .tup [], .int 19], .tup [.tup [], .tup [], .int 0], .tup [.tup [.tup []], .tup [], .int 0]]) (.lst [.tup [.tup [.tup [], .tup [], .tup [.str "top", .str "top"], .tup [], .tup [.str "top"]], .tup [.str "top"], .int 53], .tup [.tup [.tup [], .tup [], .tup [.str "under", .str "top"]], .tup [], .int 19], .tup [.tup [], .tup [], .int 0], .tup [.tup [.tup []], .tup [], .int 0]]) = some (.bl true) := by kernel_rfl
  have a8 : tl8 [Sl.val sc, Sl.val m, x2, Sl.val soA.d, Sl.val kR.d, Sl.val soS.d, Sl.val (.lst [.tup [.tup [.tup [], .tup [], .tup [.str "top", .str "top"], .tup [], .tup [.str "top"]], .tup [.str "top"], .int 53], .tup [.tup [.tup [], .tup [], .tup [.str "under", .str "top"]], .tup [], .int 19], .tup [.tup [], .tup [], .int 0], .tup [.tup [.tup []], .tup [], .int 0]]), Sl.val (.lst [.tup [.tup [.tup [], .tup [], .tup [.str "top", .str "top"], .tup [], .tup [.str "top"]], .tup [.str "top"], .int 53], .tup [.tup [.tup [], .tup [], .tup [.str "under", .str "top"]], .tup [], .int 19]]), x8, x9, x10, x11, x12, x13, x14, x15, x16, x17, .no] s = .ret true (.bl true) s := by simp [sz, ae, eq]
  unfold tailW
  rw [seqS_ap, a0, next_nxt, seqS_ap, a1, next_nxt, seqS_ap, a2, next_nxt, seqS_ap, a3, next_nxt, seqS_ap, a4, next_nxt, seqS_ap, a5, next_nxt, seqS_ap, a6, next_nxt, seqS_ap, a7, next_nxt, seqS_ap, a8, next_ret]
theorem law_run {F_law_end Frun Fended F_law_sorts F_law_row F_law_fall F_law_like Fpiles_behind Fdeepest Ftouched Fcost F_law_touched Fpushed : FF Dw} {m : D} (H : Hy m F_law_end Frun Fended F_law_sorts F_law_row F_law_fall F_law_like Fpiles_behind Fdeepest Ftouched Fcost F_law_touched Fpushed) {sc : D} {s : Dw} (hk : Sk 0 s) : ∃ s', claw F_law_end Frun Fended F_law_sorts F_law_row F_law_fall F_law_like Fpiles_behind Fdeepest Ftouched Fcost F_law_touched Fpushed [Sl.val sc, Sl.val m, .no, .no, .no, .no, .no, .no, .no, .no, .no, .no, .no, .no, .no, .no, .no, .no, .no] s = .ret true (.bl true) s' := by
  obtain ⟨ρ1, s1, e1, h1, k1⟩ := loop H (sc := sc) 6 (0 : Nat) [Sl.val sc, Sl.val m, .no, .no, .no, .no, .no, .no, .no, .no, .no, .no, .no, .no, .no, .no, .no, .no, .no] s 0 ⟨_, _, _, _, _, _, _, _, _, _, _, _, _, _, _, _, rfl⟩ hk (by omega)
  have hr : range1 (.int 6) = some (rangeD (0 : Nat) 6) := by kernel_rfl
  refine ⟨s1, ?_⟩
  have ec : claw F_law_end Frun Fended F_law_sorts F_law_row F_law_fall F_law_like Fpiles_behind Fdeepest Ftouched Fcost F_law_touched Fpushed = seqS (forS (iRange1 (kD (.int 6))) (tN 2) (turnW F_law_end Frun Fended F_law_sorts F_law_row F_law_fall F_law_like Fpiles_behind Fdeepest Ftouched Fcost F_law_touched Fpushed)) (tailW Frun Fended) := rfl
  rw [ec, seqS_ap, forS_ap, iRange1_ap, kD_ap, bind_okS, hr, ofO_some, thenS_ok, e1, next_nxt, tailR H h1]
end D03

set_option maxHeartbeats 0
/-! Fo1: the cells that numbers are drawn from. -/
namespace Wd
open PySem PySem.Spec PyProof.Rows L2 Q
section
variable {S : Type}
theorem fold1 (sc : D) (s : S) : ∀ (ns : List Int) (k : Nat) (l : List Int) (x2 x3 : Sl), l.length = 64 → ∃ l' z2 z3, l'.length = 64 ∧
    forGo (gTupD 2 (gsC (tN 2) (gsC (tN 3) gsN))) (seqS (setItemS 1 (bin dMod (biF bInt (consA (bin dAdd (bin dMul (bin dIx (vK 1) (bin dMod (biF bInt (consA (vK 2) nilA)) (kD (.int 64)))) (kD (.int 48271))) (vK 3)) nilA)) (kD (.int 2147483647))) (bin dMod (biF bInt (consA (vK 2) nilA)) (kD (.int 64)))) nextS) (enumFrom k (iD ns)) [Sl.val sc, Sl.own (iD l), x2, x3] s = .nxt [Sl.val sc, Sl.own (iD l'), z2, z3] s
  | [], k, l, x2, x3, hl => ⟨l, x2, x3, hl, rfl⟩
  | x :: ns, k, l, x2, x3, hl => by
    have m1 : dMod (.int k) (.int 64) = some (.int ((k : Int) % 64)) := mod_p (by omega)
    have m2 := ix_int (f := l) (i := (k : Int) % 64) (by omega) (by omega)
    have m3 : ∀ i : Int, dMul (.int i) (.int 48271) = some (.int (i * 48271)) := fun i => mul_r (by omega) (by omega)
    have m4 : ∀ i : Int, dMod (.int i) (.int 2147483647) = some (.int (i % 2147483647)) := fun i => mod_p (by omega)
    have m5 : ixN 64 ((k : Int) % 64) = some ((k : Int) % 64).toNat := ixN_nat (by omega) (by omega)
    obtain ⟨l', z2, z3, h1, e⟩ := fold1 sc s ns (k + 1) (l.set ((k : Int) % 64).toNat ((l.getD ((k : Int) % 64).toNat 0 * 48271 + x) % 2147483647)) (Sl.val (.int k)) (Sl.val (.int x)) (by simp [hl])
    refine ⟨l', z2, z3, h1, ?_⟩
    rw [iD_cons, enumFrom, forGo_cons (ρ1 := [Sl.val sc, Sl.own (iD l), Sl.val (.int k), Sl.val (.int x)]) (by simp)]
    simp [setItemS, m1, m2, m3, m4, m5, dIx, hl]
    have e' := e
    simp [iD, List.map_set] at e' ⊢
    exact e'
theorem fold2 (sc : D) (s : S) : ∀ (m k : Nat) (l : List Int) (x2 x3 : Sl), 1 ≤ k → k + m ≤ 64 → l.length = 64 → ∃ l' z2 z3, l'.length = 64 ∧
    forGo (tN 2) (seqS (setItemS 1 (bin dMod (biF bInt (consA (bin dAdd (bin dIx (vK 1) (vK 2)) (bin dMul (bin dIx (vK 1) (bin dSub (vK 2) (kD (.int 1)))) (kD (.int 16807)))) nilA)) (kD (.int 2147483647))) (vK 2)) nextS) (rangeD k m) [Sl.val sc, Sl.own (iD l), x2, x3] s = .nxt [Sl.val sc, Sl.own (iD l'), z2, z3] s
  | 0, k, l, x2, x3, _, _, hl => ⟨l, x2, x3, hl, rfl⟩
  | m + 1, k, l, x2, x3, hk, hm, hl => by
    have m1 := ix_int (f := l) (i := (k : Int)) (by omega) (by omega)
    have m2 := ix_int (f := l) (i := (k : Int) - 1) (by omega) (by omega)
    have m3 : ∀ i : Int, dMul (.int i) (.int 16807) = some (.int (i * 16807)) := fun i => mul_r (by omega) (by omega)
    have m4 : ∀ i : Int, dMod (.int i) (.int 2147483647) = some (.int (i % 2147483647)) := fun i => mod_p (by omega)
    have m5 : ixN 64 (k : Int) = some (k : Int).toNat := ixN_nat (by omega) (by omega)
    obtain ⟨l', z2, z3, h1, e⟩ := fold2 sc s m (k + 1) (l.set (k : Int).toNat ((l.getD (k : Int).toNat 0 + l.getD ((k : Int) - 1).toNat 0 * 16807) % 2147483647)) (Sl.val (.int k)) x3 (by omega) (by omega) (by simp [hl])
    refine ⟨l', z2, z3, h1, ?_⟩
    rw [rangeD, forGo_cons (ρ1 := [Sl.val sc, Sl.own (iD l), Sl.val (.int k), x3]) (by simp)]
    simp at m1
    simp [setItemS, m1, m2, m3, m4, m5, dIx, hl]
    have e' := e
    simp [iD, List.map_set] at e' ⊢
    exact e'
theorem folded_spec (ns : List Int) (s : S) : ∃ cells, cells.length = 64 ∧ F_law_folded [.scr (iD ns)] s = .ok (.lst (iD cells)) s := by
  have hr : range1 (.int 64) = some (rangeD 0 64) := range1_nat 64 (by omega)
  have hr2 : range2 (.int 1) (.int 64) = some (rangeD 1 63) := range2_nat 1 64 (by omega) (by omega)
  have hm : ∀ (n : Nat) (lo : Int), lcGo (S := S) (tN 2) yesT (bin dAdd (kD (.int 17)) (vK 2)) [Sl.val (.scr (iD ns)), Sl.no, Sl.no, Sl.no] (rangeD lo n) s = .ok ((rangeD lo n).map (upI (17 + ·))) s := fun n lo => by
    refine lcGo_map fun d hd => ?_
    obtain ⟨x, rfl⟩ : ∃ x, d = .int x := by
      clear hr hr2
      induction n generalizing lo with
      | zero => simp [rangeD] at hd
      | succ n ih =>
        rw [rangeD, List.mem_cons] at hd
        rcases hd with rfl | hd
        · exact ⟨_, rfl⟩
        · exact ih _ hd
    exact ⟨[Sl.val (.scr (iD ns)), Sl.no, Sl.val (.int x), Sl.no], by simp, rfl, by simp [upI]⟩
  have hD : ∀ (n : Nat) (lo : Int), ∃ l : List Int, l.length = n ∧ (rangeD lo n).map (upI (17 + ·)) = iD l := fun n => by
    induction n with
    | zero => exact fun lo => ⟨[], rfl, rfl⟩
    | succ n ih =>
      intro lo
      obtain ⟨l, h1, h2⟩ := ih (lo + 1)
      exact ⟨(17 + lo) :: l, by simp [h1], by rw [rangeD, List.map_cons, h2]; rfl⟩
  obtain ⟨l0, h0, e0⟩ := hD 64 0
  obtain ⟨l1, y2, y3, h1, e1⟩ := fold1 (.scr (iD ns)) s ns 0 l0 .no .no h0
  obtain ⟨l2, z2, z3, h2, e2⟩ := fold2 (.scr (iD ns)) s 63 1 l1 y2 y3 (by omega) (by omega) h1
  refine ⟨l2, h2, ?_⟩
  have hm' := hm 64 0
  rw [e0] at hm'
  show endR true (c_law_folded [Sl.val (.scr (iD ns)), .no, .no, .no] s) = _
  unfold c_law_folded
  have hz : l0.length ≤ sizeLine := by rw [sizeLine_eq]; omega
  have ha : ownS (S := S) 1 (lcE (iRange1 (kD (.int 64))) (tN 2) yesT (bin dAdd (kD (.int 17)) (vK 2)) [2]) [Sl.val (.scr (iD ns)), .no, .no, .no] s = .nxt [Sl.val (.scr (iD ns)), .own (iD l0), .no, .no] s := by
    simp [hr, hm', hz]
  rw [seqS_ap, ha, next_nxt, seqS_ap, lockS_cons, lockS_nil, lock1_val (d := .scr (iD ns)) rfl, forS_ap, iEnum_ap, vS_ap]
  have q : slS (S := S) ([Sl.val (.scr (iD ns)), .own (iD l0), .no, .no] : List Sl)[0]? s = .ok (.scr (iD ns)) s := rfl
  rw [q, bind_okS, seqOf_scr, Option.map_some, ofO_some, thenS_ok, e1, next_nxt, seqS_ap, forS_ap, iRange2_ap, kD_ap, bind_okS, kD_ap, bind_okS, hr2, ofO_some, thenS_ok]
  rw [Int.natCast_one] at e2
  rw [e2, next_nxt, seqS_ap, rN_ap]
  rfl
end
end Wd

set_option maxHeartbeats 0
namespace D03
open PySem PySem.Spec PyProof.Rows L2 Q Wd
theorem hyAll {a : Ad} (hac : a.c ≠ a.g) : Hy (.opq (.ref a.m)) F_law_end Frun Fended (F_law_sorts a) (F_law_row a) F_law_fall F_law_like_v2 Fpiles_behind Fdeepest Ftouched Fcost F_law_touched Fpushed where
  like := fun d s h => like2_spec h s
  sorts := sorts1 hac
  row := rows1 hac
  lfall := fun o q ok hq s => lawFall_spec ok.ro hq s
  lend := fun o q ok hq s => lawEnd_spec ok.fo hq s
  push := fun o q x ok hq hx s => pushed_spec ok hq hx s
  ended := fun o q ok hq s => ended_spec ok hq s
  run := fun o l ok hl s => run_spec ok hl s
  runL := fun o l ok hl s => runL_spec ok hl s
  cost := fun o l ok hl s => cost_spec ok hl s
  behind := fun o l ok hl s => behind_spec ok hl s
  deep := fun o l ok hl s => deepest_spec ok hl s
  touch := fun o l ok hl s => touched_spec ok hl s
  ltouch := fun o l hl s => lawTouched_spec hl s
theorem lawRun (a : Ad) (hac : a.c ≠ a.g) {ns : List Int} (_hn : ns.length ≤ 63) {s : Dw} (hk : Sk 0 s) : ∃ (b : Bool) (s' : Dw), claw F_law_end Frun Fended (F_law_sorts a) (F_law_row a) F_law_fall F_law_like_v2 Fpiles_behind Fdeepest Ftouched Fcost F_law_touched Fpushed (rho0 nlaw [.scr (iD ns), .opq (.ref a.m)]) s = .ret b (.bl true) s' := by
  obtain ⟨s', e⟩ := law_run (hyAll hac) (sc := .scr (iD ns)) hk
  exact ⟨true, s', e⟩
end D03

set_option maxHeartbeats 0
namespace D03
open PySem PySem.Spec PyProof.Rows L2 Q Wd
section
variable {P : Program} {w : World} {K : PySem.W.Frag} {mg : Str → Option Value} {h : Heap} {base : Heap} {cls : Str → Option Addr}
theorem glo_all (X : K.In h) (G : h.Ns mainGlobals mg) (c : He.SaysD H03.fa H03.fn K) : ∀ x d, glo x = some d → ∃ v u, mg x = some u ∧ RelV v u ∧ (∀ H F, Rp K H F v d) ∧ ∀ ds, d ≠ .lst ds := by
  intro x d e
  unfold glo at e
  by_cases hx : x = Str.ofString "MOST_REACH"
  · rw [if_pos hx] at e; subst hx; cases e
    obtain ⟨t, ht⟩ := He.int_ok X G (c.fact 64 (f := .int "MOST_REACH" (3)) rfl)
    exact ⟨.int 3, _, ht, ⟨_, rfl⟩, fun H F => .int _, fun _ z => nomatch z⟩
  rw [if_neg hx] at e; clear hx
  by_cases hx : x = Str.ofString "MOST_SIDE"
  · rw [if_pos hx] at e; subst hx; cases e
    obtain ⟨t, ht⟩ := He.int_ok X G (c.fact 65 (f := .int "MOST_SIDE" (3)) rfl)
    exact ⟨.int 3, _, ht, ⟨_, rfl⟩, fun H F => .int _, fun _ z => nomatch z⟩
  rw [if_neg hx] at e; clear hx
  by_cases hx : x = Str.ofString "MOST_TESTS"
  · rw [if_pos hx] at e; subst hx; cases e
    obtain ⟨t, ht⟩ := He.int_ok X G (c.fact 66 (f := .int "MOST_TESTS" (3)) rfl)
    exact ⟨.int 3, _, ht, ⟨_, rfl⟩, fun H F => .int _, fun _ z => nomatch z⟩
  rw [if_neg hx] at e; clear hx
  by_cases hx : x = Str.ofString "MOST_CLAUSES"
  · rw [if_pos hx] at e; subst hx; cases e
    obtain ⟨t, ht⟩ := He.int_ok X G (c.fact 67 (f := .int "MOST_CLAUSES" (6)) rfl)
    exact ⟨.int 6, _, ht, ⟨_, rfl⟩, fun H F => .int _, fun _ z => nomatch z⟩
  rw [if_neg hx] at e; clear hx
  by_cases hx : x = Str.ofString "MOST_FINISH"
  · rw [if_pos hx] at e; subst hx; cases e
    obtain ⟨t, ht⟩ := He.int_ok X G (c.fact 68 (f := .int "MOST_FINISH" (2)) rfl)
    exact ⟨.int 2, _, ht, ⟨_, rfl⟩, fun H F => .int _, fun _ z => nomatch z⟩
  rw [if_neg hx] at e; clear hx
  by_cases hx : x = Str.ofString "MOST_LENGTH"
  · rw [if_pos hx] at e; subst hx; cases e
    obtain ⟨t, ht⟩ := He.int_ok X G (c.fact 69 (f := .int "MOST_LENGTH" (1000000000000000000000000000000)) rfl)
    exact ⟨.int 1000000000000000000000000000000, _, ht, ⟨_, rfl⟩, fun H F => .int _, fun _ z => nomatch z⟩
  rw [if_neg hx] at e; clear hx
  by_cases hx : x = Str.ofString "MOST_LENGTHS"
  · rw [if_pos hx] at e; subst hx; cases e
    obtain ⟨t, ht⟩ := He.int_ok X G (c.fact 70 (f := .int "MOST_LENGTHS" (400)) rfl)
    exact ⟨.int 400, _, ht, ⟨_, rfl⟩, fun H F => .int _, fun _ z => nomatch z⟩
  rw [if_neg hx] at e; clear hx
  by_cases hx : x = Str.ofString "BELOW"
  · rw [if_pos hx] at e; subst hx; cases e
    obtain ⟨t, ht⟩ := He.str_ok X G (c.fact 71 (f := .str "BELOW" "below") rfl)
    exact ⟨.str "below", _, ht, ⟨_, rfl⟩, fun H F => .str _, fun _ z => nomatch z⟩
  rw [if_neg hx] at e; clear hx
  by_cases hx : x = Str.ofString "ATMOST"
  · rw [if_pos hx] at e; subst hx; cases e
    obtain ⟨t, ht⟩ := He.str_ok X G (c.fact 72 (f := .str "ATMOST" "atmost") rfl)
    exact ⟨.str "atmost", _, ht, ⟨_, rfl⟩, fun H F => .str _, fun _ z => nomatch z⟩
  rw [if_neg hx] at e; clear hx
  by_cases hx : x = Str.ofString "TOP"
  · rw [if_pos hx] at e; subst hx; cases e
    obtain ⟨t, ht⟩ := He.str_ok X G (c.fact 73 (f := .str "TOP" "top") rfl)
    exact ⟨.str "top", _, ht, ⟨_, rfl⟩, fun H F => .str _, fun _ z => nomatch z⟩
  rw [if_neg hx] at e; clear hx
  by_cases hx : x = Str.ofString "UNDER"
  · rw [if_pos hx] at e; subst hx; cases e
    obtain ⟨t, ht⟩ := He.str_ok X G (c.fact 74 (f := .str "UNDER" "under") rfl)
    exact ⟨.str "under", _, ht, ⟨_, rfl⟩, fun H F => .str _, fun _ z => nomatch z⟩
  rw [if_neg hx] at e; clear hx
  cases e
theorem blt_all (X : K.In h) (G : h.Ns mainGlobals mg) (c : He.SaysD H03.fa H03.fn K) : ∀ x ∈ bltNames, mg (Str.ofString x) = none := by
  intro x hx
  simp only [bltNames, List.mem_cons, List.not_mem_nil, or_false] at hx
  rcases hx with rfl | rfl | rfl | rfl | rfl | rfl | rfl | rfl | rfl | rfl | rfl | rfl | rfl | rfl | rfl | rfl | rfl | rfl | rfl | rfl
  · exact He.free_ok X G (c.fact 44 (f := .free "len") rfl)
  · exact He.free_ok X G (c.fact 45 (f := .free "int") rfl)
  · exact He.free_ok X G (c.fact 46 (f := .free "abs") rfl)
  · exact He.free_ok X G (c.fact 47 (f := .free "tuple") rfl)
  · exact He.free_ok X G (c.fact 48 (f := .free "list") rfl)
  · exact He.free_ok X G (c.fact 49 (f := .free "sum") rfl)
  · exact He.free_ok X G (c.fact 50 (f := .free "max") rfl)
  · exact He.free_ok X G (c.fact 51 (f := .free "min") rfl)
  · exact He.free_ok X G (c.fact 52 (f := .free "all") rfl)
  · exact He.free_ok X G (c.fact 53 (f := .free "any") rfl)
  · exact He.free_ok X G (c.fact 54 (f := .free "repr") rfl)
  · exact He.free_ok X G (c.fact 55 (f := .free "isinstance") rfl)
  · exact He.free_ok X G (c.fact 56 (f := .free "range") rfl)
  · exact He.free_ok X G (c.fact 57 (f := .free "enumerate") rfl)
  · exact He.free_ok X G (c.fact 58 (f := .free "zip") rfl)
  · exact He.free_ok X G (c.fact 59 (f := .free "bool") rfl)
  · exact He.free_ok X G (c.fact 60 (f := .free "str") rfl)
  · exact He.free_ok X G (c.fact 61 (f := .free "dict") rfl)
  · exact He.free_ok X G (c.fact 62 (f := .free "sorted") rfl)
  · exact He.free_ok X G (c.fact 63 (f := .free "set") rfl)
theorem mis_whole {S : Type} {T : StK S} (X : K.In h) (G : h.Ns mainGlobals mg) (c : He.SaysD H03.fa H03.fn K) : CalM P w K mg base T cls 1 "is_whole" ⟨3, false, Fis_whole⟩ := by
  obtain ⟨fd, F⟩ := c.def_ 0 (d := H03.dd "is_whole" 16) rfl
  have hS : FnScope nis_whole ["value", "least", "most"] (defScope (top 16)) := ⟨rfl, rfl, rfl, by decide +kernel, rfl, by decide +kernel, by decide +kernel⟩
  have hg : ∀ ds : List D, GkM P w K mg base T cls 0 (kis_whole (S := S)).G := fun ds => by
    refine ⟨glo_all X G c, fun x f e => ?_, blt_all X G c, fun C h1 h2 h3 => moreSp_ok rfl⟩
    simp only [kis_whole, gis_whole] at e
    cases e
  refine ⟨_, fd, ["value", "least", "most"], ?_, He.glo_ok X G (c.fact 0 (f := .glo "is_whole") rfl), F.kp, F.bindsN fun _ _ _ _ _ _ us hl => match us, hl with | [_, _, _], _ => rfl⟩
  have r := fn_run F hS false (fun ds _ => kis_whole (S := S)) 60 (fun ds s => ⟨rfl, rfl, hg ds, fun _ _ _ xd g => moreSt_ok rfl xd g⟩)
  have e : runDef false (fun ds _ => kis_whole (S := S)) 60 nis_whole (["value", "least", "most"] : List Str).length (defBody (top 16)) = ⟨3, false, Fis_whole⟩ := by
    unfold runDef
    simp only [eis_whole]
    rfl
  rw [← e]
  exact r
theorem mis_side {S : Type} {T : StK S} (X : K.In h) (G : h.Ns mainGlobals mg) (c : He.SaysD H03.fa H03.fn K) : CalM P w K mg base T cls 2 "is_side" ⟨1, false, Fis_side⟩ := by
  obtain ⟨fd, F⟩ := c.def_ 1 (d := H03.dd "is_side" 17) rfl
  have hS : FnScope nis_side ["value"] (defScope (top 17)) := ⟨rfl, rfl, rfl, by decide +kernel, rfl, by decide +kernel, by decide +kernel⟩
  have hg : ∀ ds : List D, GkM P w K mg base T cls 1 (kis_side (S := S) (Fis_whole)).G := fun ds => by
    refine ⟨glo_all X G c, fun x f e => ?_, blt_all X G c, fun C h1 h2 h3 => moreSp_ok rfl⟩
    simp only [kis_side, gis_side] at e
    by_cases hx : x = Str.ofString "is_whole"
    · rw [if_pos hx] at e; subst hx; cases e; exact (mis_whole X G c).mono (by decide)
    rw [if_neg hx] at e; clear hx
    cases e
  refine ⟨_, fd, ["value"], ?_, He.glo_ok X G (c.fact 1 (f := .glo "is_side") rfl), F.kp, F.bindsN fun _ _ _ _ _ _ us hl => match us, hl with | [_], _ => rfl⟩
  have r := fn_run F hS false (fun ds _ => kis_side (S := S) (Fis_whole)) 60 (fun ds s => ⟨rfl, rfl, hg ds, fun _ _ _ xd g => moreSt_ok rfl xd g⟩)
  have e : runDef false (fun ds _ => kis_side (S := S) (Fis_whole)) 60 nis_side (["value"] : List Str).length (defBody (top 17)) = ⟨1, false, Fis_side⟩ := by
    unfold runDef
    simp only [eis_side]
    rfl
  rw [← e]
  exact r
theorem mis_test {S : Type} {T : StK S} (X : K.In h) (G : h.Ns mainGlobals mg) (c : He.SaysD H03.fa H03.fn K) : CalM P w K mg base T cls 3 "is_test" ⟨1, false, Fis_test⟩ := by
  obtain ⟨fd, F⟩ := c.def_ 2 (d := H03.dd "is_test" 18) rfl
  have hS : FnScope nis_test ["value"] (defScope (top 18)) := ⟨rfl, rfl, rfl, by decide +kernel, rfl, by decide +kernel, by decide +kernel⟩
  have hg : ∀ ds : List D, GkM P w K mg base T cls 2 (kis_test (S := S) (Fis_side)).G := fun ds => by
    refine ⟨glo_all X G c, fun x f e => ?_, blt_all X G c, fun C h1 h2 h3 => moreSp_ok rfl⟩
    simp only [kis_test, gis_test] at e
    by_cases hx : x = Str.ofString "is_side"
    · rw [if_pos hx] at e; subst hx; cases e; exact (mis_side X G c).mono (by decide)
    rw [if_neg hx] at e; clear hx
    cases e
  refine ⟨_, fd, ["value"], ?_, He.glo_ok X G (c.fact 2 (f := .glo "is_test") rfl), F.kp, F.bindsN fun _ _ _ _ _ _ us hl => match us, hl with | [_], _ => rfl⟩
  have r := fn_run F hS false (fun ds _ => kis_test (S := S) (Fis_side)) 60 (fun ds s => ⟨rfl, rfl, hg ds, fun _ _ _ xd g => moreSt_ok rfl xd g⟩)
  have e : runDef false (fun ds _ => kis_test (S := S) (Fis_side)) 60 nis_test (["value"] : List Str).length (defBody (top 18)) = ⟨1, false, Fis_test⟩ := by
    unfold runDef
    simp only [eis_test]
    rfl
  rw [← e]
  exact r
theorem mwrong_in_tests {S : Type} {T : StK S} (X : K.In h) (G : h.Ns mainGlobals mg) (c : He.SaysD H03.fa H03.fn K) : CalM P w K mg base T cls 4 "wrong_in_tests" ⟨2, false, Fwrong_in_tests⟩ := by
  obtain ⟨fd, F⟩ := c.def_ 3 (d := H03.dd "wrong_in_tests" 19) rfl
  have hS : FnScope nwrong_in_tests ["value", "most"] (defScope (top 19)) := ⟨rfl, rfl, rfl, by decide +kernel, rfl, by decide +kernel, by decide +kernel⟩
  have hg : ∀ ds : List D, GkM P w K mg base T cls 3 (kwrong_in_tests (S := S) (Fis_test)).G := fun ds => by
    refine ⟨glo_all X G c, fun x f e => ?_, blt_all X G c, fun C h1 h2 h3 => moreSp_ok rfl⟩
    simp only [kwrong_in_tests, gwrong_in_tests] at e
    by_cases hx : x = Str.ofString "is_test"
    · rw [if_pos hx] at e; subst hx; cases e; exact (mis_test X G c).mono (by decide)
    rw [if_neg hx] at e; clear hx
    cases e
  refine ⟨_, fd, ["value", "most"], ?_, He.glo_ok X G (c.fact 3 (f := .glo "wrong_in_tests") rfl), F.kp, F.bindsN fun _ _ _ _ _ _ us hl => match us, hl with | [_, _], _ => rfl⟩
  have r := fn_run F hS false (fun ds _ => kwrong_in_tests (S := S) (Fis_test)) 60 (fun ds s => ⟨rfl, rfl, hg ds, fun _ _ _ xd g => moreSt_ok rfl xd g⟩)
  have e : runDef false (fun ds _ => kwrong_in_tests (S := S) (Fis_test)) 60 nwrong_in_tests (["value", "most"] : List Str).length (defBody (top 19)) = ⟨2, false, Fwrong_in_tests⟩ := by
    unfold runDef
    simp only [ewrong_in_tests]
    rfl
  rw [← e]
  exact r
theorem mwrong_in_clause {S : Type} {T : StK S} (X : K.In h) (G : h.Ns mainGlobals mg) (c : He.SaysD H03.fa H03.fn K) : CalM P w K mg base T cls 5 "wrong_in_clause" ⟨1, false, Fwrong_in_clause⟩ := by
  obtain ⟨fd, F⟩ := c.def_ 4 (d := H03.dd "wrong_in_clause" 20) rfl
  have hS : FnScope nwrong_in_clause ["value"] (defScope (top 20)) := ⟨rfl, rfl, rfl, by decide +kernel, rfl, by decide +kernel, by decide +kernel⟩
  have hg : ∀ ds : List D, GkM P w K mg base T cls 4 (kwrong_in_clause (S := S) (Fwrong_in_tests)).G := fun ds => by
    refine ⟨glo_all X G c, fun x f e => ?_, blt_all X G c, fun C h1 h2 h3 => moreSp_ok rfl⟩
    simp only [kwrong_in_clause, gwrong_in_clause] at e
    by_cases hx : x = Str.ofString "wrong_in_tests"
    · rw [if_pos hx] at e; subst hx; cases e; exact (mwrong_in_tests X G c).mono (by decide)
    rw [if_neg hx] at e; clear hx
    cases e
  refine ⟨_, fd, ["value"], ?_, He.glo_ok X G (c.fact 4 (f := .glo "wrong_in_clause") rfl), F.kp, F.bindsN fun _ _ _ _ _ _ us hl => match us, hl with | [_], _ => rfl⟩
  have r := fn_run F hS false (fun ds _ => kwrong_in_clause (S := S) (Fwrong_in_tests)) 60 (fun ds s => ⟨rfl, rfl, hg ds, fun _ _ _ xd g => moreSt_ok rfl xd g⟩)
  have e : runDef false (fun ds _ => kwrong_in_clause (S := S) (Fwrong_in_tests)) 60 nwrong_in_clause (["value"] : List Str).length (defBody (top 20)) = ⟨1, false, Fwrong_in_clause⟩ := by
    unfold runDef
    simp only [ewrong_in_clause]
    rfl
  rw [← e]
  exact r
theorem mwrong_in_clauses {S : Type} {T : StK S} (X : K.In h) (G : h.Ns mainGlobals mg) (c : He.SaysD H03.fa H03.fn K) : CalM P w K mg base T cls 6 "wrong_in_clauses" ⟨3, false, Fwrong_in_clauses⟩ := by
  obtain ⟨fd, F⟩ := c.def_ 5 (d := H03.dd "wrong_in_clauses" 21) rfl
  have hS : FnScope nwrong_in_clauses ["value", "least", "most"] (defScope (top 21)) := ⟨rfl, rfl, rfl, by decide +kernel, rfl, by decide +kernel, by decide +kernel⟩
  have hg : ∀ ds : List D, GkM P w K mg base T cls 5 (kwrong_in_clauses (S := S) (Fwrong_in_clause)).G := fun ds => by
    refine ⟨glo_all X G c, fun x f e => ?_, blt_all X G c, fun C h1 h2 h3 => moreSp_ok rfl⟩
    simp only [kwrong_in_clauses, gwrong_in_clauses] at e
    by_cases hx : x = Str.ofString "wrong_in_clause"
    · rw [if_pos hx] at e; subst hx; cases e; exact (mwrong_in_clause X G c).mono (by decide)
    rw [if_neg hx] at e; clear hx
    cases e
  refine ⟨_, fd, ["value", "least", "most"], ?_, He.glo_ok X G (c.fact 5 (f := .glo "wrong_in_clauses") rfl), F.kp, F.bindsN fun _ _ _ _ _ _ us hl => match us, hl with | [_, _, _], _ => rfl⟩
  have r := fn_run F hS false (fun ds _ => kwrong_in_clauses (S := S) (Fwrong_in_clause)) 60 (fun ds s => ⟨rfl, rfl, hg ds, fun _ _ _ xd g => moreSt_ok rfl xd g⟩)
  have e : runDef false (fun ds _ => kwrong_in_clauses (S := S) (Fwrong_in_clause)) 60 nwrong_in_clauses (["value", "least", "most"] : List Str).length (defBody (top 21)) = ⟨3, false, Fwrong_in_clauses⟩ := by
    unfold runDef
    simp only [ewrong_in_clauses]
    rfl
  rw [← e]
  exact r
theorem mneed_sorter {S : Type} {T : StK S} (X : K.In h) (G : h.Ns mainGlobals mg) (c : He.SaysD H03.fa H03.fn K) : CalM P w K mg base T cls 7 "need_sorter" ⟨1, false, Fneed_sorter⟩ := by
  obtain ⟨fd, F⟩ := c.def_ 6 (d := H03.dd "need_sorter" 22) rfl
  have hS : FnScope nneed_sorter ["sorter"] (defScope (top 22)) := ⟨rfl, rfl, rfl, by decide +kernel, rfl, by decide +kernel, by decide +kernel⟩
  have hg : ∀ ds : List D, GkM P w K mg base T cls 6 (kneed_sorter (S := S) (Fwrong_in_clauses)).G := fun ds => by
    refine ⟨glo_all X G c, fun x f e => ?_, blt_all X G c, fun C h1 h2 h3 => moreSp_ok rfl⟩
    simp only [kneed_sorter, gneed_sorter] at e
    by_cases hx : x = Str.ofString "wrong_in_clauses"
    · rw [if_pos hx] at e; subst hx; cases e; exact (mwrong_in_clauses X G c).mono (by decide)
    rw [if_neg hx] at e; clear hx
    cases e
  refine ⟨_, fd, ["sorter"], ?_, He.glo_ok X G (c.fact 6 (f := .glo "need_sorter") rfl), F.kp, F.bindsN fun _ _ _ _ _ _ us hl => match us, hl with | [_], _ => rfl⟩
  have r := fn_run F hS false (fun ds _ => kneed_sorter (S := S) (Fwrong_in_clauses)) 60 (fun ds s => ⟨rfl, rfl, hg ds, fun _ _ _ xd g => moreSt_ok rfl xd g⟩)
  have e : runDef false (fun ds _ => kneed_sorter (S := S) (Fwrong_in_clauses)) 60 nneed_sorter (["sorter"] : List Str).length (defBody (top 22)) = ⟨1, false, Fneed_sorter⟩ := by
    unfold runDef
    simp only [eneed_sorter]
    rfl
  rw [← e]
  exact r
theorem mneed_lengths {S : Type} {T : StK S} (X : K.In h) (G : h.Ns mainGlobals mg) (c : He.SaysD H03.fa H03.fn K) : CalM P w K mg base T cls 2 "need_lengths" ⟨1, false, Fneed_lengths⟩ := by
  obtain ⟨fd, F⟩ := c.def_ 7 (d := H03.dd "need_lengths" 23) rfl
  have hS : FnScope nneed_lengths ["lengths"] (defScope (top 23)) := ⟨rfl, rfl, rfl, by decide +kernel, rfl, by decide +kernel, by decide +kernel⟩
  have hg : ∀ ds : List D, GkM P w K mg base T cls 1 (kneed_lengths (S := S) (Fis_whole)).G := fun ds => by
    refine ⟨glo_all X G c, fun x f e => ?_, blt_all X G c, fun C h1 h2 h3 => moreSp_ok rfl⟩
    simp only [kneed_lengths, gneed_lengths] at e
    by_cases hx : x = Str.ofString "is_whole"
    · rw [if_pos hx] at e; subst hx; cases e; exact (mis_whole X G c).mono (by decide)
    rw [if_neg hx] at e; clear hx
    cases e
  refine ⟨_, fd, ["lengths"], ?_, He.glo_ok X G (c.fact 7 (f := .glo "need_lengths") rfl), F.kp, F.bindsN fun _ _ _ _ _ _ us hl => match us, hl with | [_], _ => rfl⟩
  have r := fn_run F hS false (fun ds _ => kneed_lengths (S := S) (Fis_whole)) 60 (fun ds s => ⟨rfl, rfl, hg ds, fun _ _ _ xd g => moreSt_ok rfl xd g⟩)
  have e : runDef false (fun ds _ => kneed_lengths (S := S) (Fis_whole)) 60 nneed_lengths (["lengths"] : List Str).length (defBody (top 23)) = ⟨1, false, Fneed_lengths⟩ := by
    unfold runDef
    simp only [eneed_lengths]
    rfl
  rw [← e]
  exact r
theorem mreach_of {S : Type} {T : StK S} (X : K.In h) (G : h.Ns mainGlobals mg) (c : He.SaysD H03.fa H03.fn K) : CalM P w K mg base T cls 1 "reach_of" ⟨1, false, Freach_of⟩ := by
  obtain ⟨fd, F⟩ := c.def_ 8 (d := H03.dd "reach_of" 24) rfl
  have hS : FnScope nreach_of ["test"] (defScope (top 24)) := ⟨rfl, rfl, rfl, by decide +kernel, rfl, by decide +kernel, by decide +kernel⟩
  have hg : ∀ ds : List D, GkM P w K mg base T cls 0 (kreach_of (S := S)).G := fun ds => by
    refine ⟨glo_all X G c, fun x f e => ?_, blt_all X G c, fun C h1 h2 h3 => moreSp_ok rfl⟩
    simp only [kreach_of, greach_of] at e
    cases e
  refine ⟨_, fd, ["test"], ?_, He.glo_ok X G (c.fact 8 (f := .glo "reach_of") rfl), F.kp, F.bindsN fun _ _ _ _ _ _ us hl => match us, hl with | [_], _ => rfl⟩
  have r := fn_run F hS false (fun ds _ => kreach_of (S := S)) 60 (fun ds s => ⟨rfl, rfl, hg ds, fun _ _ _ xd g => moreSt_ok rfl xd g⟩)
  have e : runDef false (fun ds _ => kreach_of (S := S)) 60 nreach_of (["test"] : List Str).length (defBody (top 24)) = ⟨1, false, Freach_of⟩ := by
    unfold runDef
    simp only [ereach_of]
    rfl
  rw [← e]
  exact r
theorem mentry {S : Type} {T : StK S} (X : K.In h) (G : h.Ns mainGlobals mg) (c : He.SaysD H03.fa H03.fn K) : CalM P w K mg base T cls 1 "entry" ⟨2, false, Fentry⟩ := by
  obtain ⟨fd, F⟩ := c.def_ 9 (d := H03.dd "entry" 25) rfl
  have hS : FnScope nentry ["pile", "number"] (defScope (top 25)) := ⟨rfl, rfl, rfl, by decide +kernel, rfl, by decide +kernel, by decide +kernel⟩
  have hg : ∀ ds : List D, GkM P w K mg base T cls 0 (kentry (S := S)).G := fun ds => by
    refine ⟨glo_all X G c, fun x f e => ?_, blt_all X G c, fun C h1 h2 h3 => moreSp_ok rfl⟩
    simp only [kentry, gentry] at e
    cases e
  refine ⟨_, fd, ["pile", "number"], ?_, He.glo_ok X G (c.fact 9 (f := .glo "entry") rfl), F.kp, F.bindsN fun _ _ _ _ _ _ us hl => match us, hl with | [_, _], _ => rfl⟩
  have r := fn_run F hS false (fun ds _ => kentry (S := S)) 60 (fun ds s => ⟨rfl, rfl, hg ds, fun _ _ _ xd g => moreSt_ok rfl xd g⟩)
  have e : runDef false (fun ds _ => kentry (S := S)) 60 nentry (["pile", "number"] : List Str).length (defBody (top 25)) = ⟨2, false, Fentry⟩ := by
    unfold runDef
    simp only [eentry]
    rfl
  rw [← e]
  exact r
theorem mholds_at {S : Type} {T : StK S} (X : K.In h) (G : h.Ns mainGlobals mg) (c : He.SaysD H03.fa H03.fn K) : CalM P w K mg base T cls 2 "holds_at" ⟨3, false, Fholds_at⟩ := by
  obtain ⟨fd, F⟩ := c.def_ 10 (d := H03.dd "holds_at" 26) rfl
  have hS : FnScope nholds_at ["pile", "test", "spot"] (defScope (top 26)) := ⟨rfl, rfl, rfl, by decide +kernel, rfl, by decide +kernel, by decide +kernel⟩
  have hg : ∀ ds : List D, GkM P w K mg base T cls 1 (kholds_at (S := S) (Fentry)).G := fun ds => by
    refine ⟨glo_all X G c, fun x f e => ?_, blt_all X G c, fun C h1 h2 h3 => moreSp_ok rfl⟩
    simp only [kholds_at, gholds_at] at e
    by_cases hx : x = Str.ofString "entry"
    · rw [if_pos hx] at e; subst hx; cases e; exact (mentry X G c).mono (by decide)
    rw [if_neg hx] at e; clear hx
    cases e
  refine ⟨_, fd, ["pile", "test", "spot"], ?_, He.glo_ok X G (c.fact 10 (f := .glo "holds_at") rfl), F.kp, F.bindsN fun _ _ _ _ _ _ us hl => match us, hl with | [_, _, _], _ => rfl⟩
  have r := fn_run F hS false (fun ds _ => kholds_at (S := S) (Fentry)) 60 (fun ds s => ⟨rfl, rfl, hg ds, fun _ _ _ xd g => moreSt_ok rfl xd g⟩)
  have e : runDef false (fun ds _ => kholds_at (S := S) (Fentry)) 60 nholds_at (["pile", "test", "spot"] : List Str).length (defBody (top 26)) = ⟨3, false, Fholds_at⟩ := by
    unfold runDef
    simp only [eholds_at]
    rfl
  rw [← e]
  exact r
theorem mdoes_apply {S : Type} {T : StK S} (X : K.In h) (G : h.Ns mainGlobals mg) (c : He.SaysD H03.fa H03.fn K) : CalM P w K mg base T cls 3 "does_apply" ⟨2, false, Fdoes_apply⟩ := by
  obtain ⟨fd, F⟩ := c.def_ 11 (d := H03.dd "does_apply" 27) rfl
  have hS : FnScope ndoes_apply ["pile", "clause"] (defScope (top 27)) := ⟨rfl, rfl, rfl, by decide +kernel, rfl, by decide +kernel, by decide +kernel⟩
  have hg : ∀ ds : List D, GkM P w K mg base T cls 2 (kdoes_apply (S := S) (Fholds_at) (Freach_of)).G := fun ds => by
    refine ⟨glo_all X G c, fun x f e => ?_, blt_all X G c, fun C h1 h2 h3 => moreSp_ok rfl⟩
    simp only [kdoes_apply, gdoes_apply] at e
    by_cases hx : x = Str.ofString "holds_at"
    · rw [if_pos hx] at e; subst hx; cases e; exact (mholds_at X G c).mono (by decide)
    rw [if_neg hx] at e; clear hx
    by_cases hx : x = Str.ofString "reach_of"
    · rw [if_pos hx] at e; subst hx; cases e; exact (mreach_of X G c).mono (by decide)
    rw [if_neg hx] at e; clear hx
    cases e
  refine ⟨_, fd, ["pile", "clause"], ?_, He.glo_ok X G (c.fact 11 (f := .glo "does_apply") rfl), F.kp, F.bindsN fun _ _ _ _ _ _ us hl => match us, hl with | [_, _], _ => rfl⟩
  have r := fn_run F hS false (fun ds _ => kdoes_apply (S := S) (Fholds_at) (Freach_of)) 60 (fun ds s => ⟨rfl, rfl, hg ds, fun _ _ _ xd g => moreSt_ok rfl xd g⟩)
  have e : runDef false (fun ds _ => kdoes_apply (S := S) (Fholds_at) (Freach_of)) 60 ndoes_apply (["pile", "clause"] : List Str).length (defBody (top 27)) = ⟨2, false, Fdoes_apply⟩ := by
    unfold runDef
    simp only [edoes_apply]
    rfl
  rw [← e]
  exact r
theorem mfirst_deed {S : Type} {T : StK S} (X : K.In h) (G : h.Ns mainGlobals mg) (c : He.SaysD H03.fa H03.fn K) : CalM P w K mg base T cls 4 "first_deed" ⟨2, false, Ffirst_deed⟩ := by
  obtain ⟨fd, F⟩ := c.def_ 12 (d := H03.dd "first_deed" 28) rfl
  have hS : FnScope nfirst_deed ["pile", "clauses"] (defScope (top 28)) := ⟨rfl, rfl, rfl, by decide +kernel, rfl, by decide +kernel, by decide +kernel⟩
  have hg : ∀ ds : List D, GkM P w K mg base T cls 3 (kfirst_deed (S := S) (Fdoes_apply)).G := fun ds => by
    refine ⟨glo_all X G c, fun x f e => ?_, blt_all X G c, fun C h1 h2 h3 => moreSp_ok rfl⟩
    simp only [kfirst_deed, gfirst_deed] at e
    by_cases hx : x = Str.ofString "does_apply"
    · rw [if_pos hx] at e; subst hx; cases e; exact (mdoes_apply X G c).mono (by decide)
    rw [if_neg hx] at e; clear hx
    cases e
  refine ⟨_, fd, ["pile", "clauses"], ?_, He.glo_ok X G (c.fact 12 (f := .glo "first_deed") rfl), F.kp, F.bindsN fun _ _ _ _ _ _ us hl => match us, hl with | [_, _], _ => rfl⟩
  have r := fn_run F hS false (fun ds _ => kfirst_deed (S := S) (Fdoes_apply)) 60 (fun ds s => ⟨rfl, rfl, hg ds, fun _ _ _ xd g => moreSt_ok rfl xd g⟩)
  have e : runDef false (fun ds _ => kfirst_deed (S := S) (Fdoes_apply)) 60 nfirst_deed (["pile", "clauses"] : List Str).length (defBody (top 28)) = ⟨2, false, Ffirst_deed⟩ := by
    unfold runDef
    simp only [efirst_deed]
    rfl
  rw [← e]
  exact r
theorem mneed_pile {S : Type} {T : StK S} (X : K.In h) (G : h.Ns mainGlobals mg) (c : He.SaysD H03.fa H03.fn K) : CalM P w K mg base T cls 1 "need_pile" ⟨1, false, Fneed_pile⟩ := by
  obtain ⟨fd, F⟩ := c.def_ 13 (d := H03.dd "need_pile" 30) rfl
  have hS : FnScope nneed_pile ["pile"] (defScope (top 30)) := ⟨rfl, rfl, rfl, by decide +kernel, rfl, by decide +kernel, by decide +kernel⟩
  have hg : ∀ ds : List D, GkM P w K mg base T cls 0 (kneed_pile (S := S)).G := fun ds => by
    refine ⟨glo_all X G c, fun x f e => ?_, blt_all X G c, fun C h1 h2 h3 => moreSp_ok rfl⟩
    simp only [kneed_pile, gneed_pile] at e
    cases e
  refine ⟨_, fd, ["pile"], ?_, He.glo_ok X G (c.fact 13 (f := .glo "need_pile") rfl), F.kp, F.bindsN fun _ _ _ _ _ _ us hl => match us, hl with | [_], _ => rfl⟩
  have r := fn_run F hS false (fun ds _ => kneed_pile (S := S)) 60 (fun ds s => ⟨rfl, rfl, hg ds, fun _ _ _ xd g => moreSt_ok rfl xd g⟩)
  have e : runDef false (fun ds _ => kneed_pile (S := S)) 60 nneed_pile (["pile"] : List Str).length (defBody (top 30)) = ⟨1, false, Fneed_pile⟩ := by
    unfold runDef
    simp only [eneed_pile]
    rfl
  rw [← e]
  exact r
theorem mmerged {S : Type} {T : StK S} (X : K.In h) (G : h.Ns mainGlobals mg) (c : He.SaysD H03.fa H03.fn K) : CalM P w K mg base T cls 1 "merged" ⟨2, false, Fmerged⟩ := by
  obtain ⟨fd, F⟩ := c.def_ 14 (d := H03.dd "merged" 31) rfl
  have hS : FnScope nmerged ["pile", "deed"] (defScope (top 31)) := ⟨rfl, rfl, rfl, by decide +kernel, rfl, by decide +kernel, by decide +kernel⟩
  have hg : ∀ ds : List D, GkM P w K mg base T cls 0 (kmerged (S := S)).G := fun ds => by
    refine ⟨glo_all X G c, fun x f e => ?_, blt_all X G c, fun C h1 h2 h3 => moreSp_ok rfl⟩
    simp only [kmerged, gmerged] at e
    cases e
  refine ⟨_, fd, ["pile", "deed"], ?_, He.glo_ok X G (c.fact 14 (f := .glo "merged") rfl), F.kp, F.bindsN fun _ _ _ _ _ _ us hl => match us, hl with | [_, _], _ => rfl⟩
  have r := fn_run F hS false (fun ds _ => kmerged (S := S)) 60 (fun ds s => ⟨rfl, rfl, hg ds, fun _ _ _ xd g => moreSt_ok rfl xd g⟩)
  have e : runDef false (fun ds _ => kmerged (S := S)) 60 nmerged (["pile", "deed"] : List Str).length (defBody (top 31)) = ⟨2, false, Fmerged⟩ := by
    unfold runDef
    simp only [emerged]
    rfl
  rw [← e]
  exact r
theorem mamount_of {S : Type} {T : StK S} (X : K.In h) (G : h.Ns mainGlobals mg) (c : He.SaysD H03.fa H03.fn K) : CalM P w K mg base T cls 1 "amount_of" ⟨2, false, Famount_of⟩ := by
  obtain ⟨fd, F⟩ := c.def_ 15 (d := H03.dd "amount_of" 32) rfl
  have hS : FnScope namount_of ["pile", "deed"] (defScope (top 32)) := ⟨rfl, rfl, rfl, by decide +kernel, rfl, by decide +kernel, by decide +kernel⟩
  have hg : ∀ ds : List D, GkM P w K mg base T cls 0 (kamount_of (S := S)).G := fun ds => by
    refine ⟨glo_all X G c, fun x f e => ?_, blt_all X G c, fun C h1 h2 h3 => moreSp_ok rfl⟩
    simp only [kamount_of, gamount_of] at e
    cases e
  refine ⟨_, fd, ["pile", "deed"], ?_, He.glo_ok X G (c.fact 15 (f := .glo "amount_of") rfl), F.kp, F.bindsN fun _ _ _ _ _ _ us hl => match us, hl with | [_, _], _ => rfl⟩
  have r := fn_run F hS false (fun ds _ => kamount_of (S := S)) 60 (fun ds s => ⟨rfl, rfl, hg ds, fun _ _ _ xd g => moreSt_ok rfl xd g⟩)
  have e : runDef false (fun ds _ => kamount_of (S := S)) 60 namount_of (["pile", "deed"] : List Str).length (defBody (top 32)) = ⟨2, false, Famount_of⟩ := by
    unfold runDef
    simp only [eamount_of]
    rfl
  rw [← e]
  exact r
theorem mfallen {S : Type} {T : StK S} (X : K.In h) (G : h.Ns mainGlobals mg) (c : He.SaysD H03.fa H03.fn K) : CalM P w K mg base T cls 5 "fallen" ⟨2, false, Ffallen⟩ := by
  obtain ⟨fd, F⟩ := c.def_ 16 (d := H03.dd "fallen" 33) rfl
  have hS : FnScope nfallen ["pile", "clauses"] (defScope (top 33)) := ⟨rfl, rfl, rfl, by decide +kernel, rfl, by decide +kernel, by decide +kernel⟩
  have hg : ∀ ds : List D, GkM P w K mg base T cls 4 (kfallen (S := S) (Ffirst_deed) (Famount_of) (Fmerged) (wfLen ds)).G := fun ds => by
    refine ⟨glo_all X G c, fun x f e => ?_, blt_all X G c, fun C h1 h2 h3 => moreSp_ok rfl⟩
    simp only [kfallen, gfallen] at e
    by_cases hx : x = Str.ofString "first_deed"
    · rw [if_pos hx] at e; subst hx; cases e; exact (mfirst_deed X G c).mono (by decide)
    rw [if_neg hx] at e; clear hx
    by_cases hx : x = Str.ofString "amount_of"
    · rw [if_pos hx] at e; subst hx; cases e; exact (mamount_of X G c).mono (by decide)
    rw [if_neg hx] at e; clear hx
    by_cases hx : x = Str.ofString "merged"
    · rw [if_pos hx] at e; subst hx; cases e; exact (mmerged X G c).mono (by decide)
    rw [if_neg hx] at e; clear hx
    cases e
  refine ⟨_, fd, ["pile", "clauses"], ?_, He.glo_ok X G (c.fact 16 (f := .glo "fallen") rfl), F.kp, F.bindsN fun _ _ _ _ _ _ us hl => match us, hl with | [_, _], _ => rfl⟩
  have r := fn_run F hS false (fun ds _ => kfallen (S := S) (Ffirst_deed) (Famount_of) (Fmerged) (wfLen ds)) 60 (fun ds s => ⟨rfl, rfl, hg ds, fun _ _ _ xd g => moreSt_ok rfl xd g⟩)
  have e : runDef false (fun ds _ => kfallen (S := S) (Ffirst_deed) (Famount_of) (Fmerged) (wfLen ds)) 60 nfallen (["pile", "clauses"] : List Str).length (defBody (top 33)) = ⟨2, false, Ffallen⟩ := by
    unfold runDef
    simp only [efallen]
    rfl
  rw [← e]
  exact r
theorem mended_of {S : Type} {T : StK S} (X : K.In h) (G : h.Ns mainGlobals mg) (c : He.SaysD H03.fa H03.fn K) : CalM P w K mg base T cls 5 "ended_of" ⟨2, false, Fended_of⟩ := by
  obtain ⟨fd, F⟩ := c.def_ 17 (d := H03.dd "ended_of" 34) rfl
  have hS : FnScope nended_of ["pile", "clauses"] (defScope (top 34)) := ⟨rfl, rfl, rfl, by decide +kernel, rfl, by decide +kernel, by decide +kernel⟩
  have hg : ∀ ds : List D, GkM P w K mg base T cls 4 (kended_of (S := S) (Ffirst_deed) (Famount_of) (Fmerged) (wfLen ds)).G := fun ds => by
    refine ⟨glo_all X G c, fun x f e => ?_, blt_all X G c, fun C h1 h2 h3 => moreSp_ok rfl⟩
    simp only [kended_of, gended_of] at e
    by_cases hx : x = Str.ofString "first_deed"
    · rw [if_pos hx] at e; subst hx; cases e; exact (mfirst_deed X G c).mono (by decide)
    rw [if_neg hx] at e; clear hx
    by_cases hx : x = Str.ofString "amount_of"
    · rw [if_pos hx] at e; subst hx; cases e; exact (mamount_of X G c).mono (by decide)
    rw [if_neg hx] at e; clear hx
    by_cases hx : x = Str.ofString "merged"
    · rw [if_pos hx] at e; subst hx; cases e; exact (mmerged X G c).mono (by decide)
    rw [if_neg hx] at e; clear hx
    cases e
  refine ⟨_, fd, ["pile", "clauses"], ?_, He.glo_ok X G (c.fact 17 (f := .glo "ended_of") rfl), F.kp, F.bindsN fun _ _ _ _ _ _ us hl => match us, hl with | [_, _], _ => rfl⟩
  have r := fn_run F hS false (fun ds _ => kended_of (S := S) (Ffirst_deed) (Famount_of) (Fmerged) (wfLen ds)) 60 (fun ds s => ⟨rfl, rfl, hg ds, fun _ _ _ xd g => moreSt_ok rfl xd g⟩)
  have e : runDef false (fun ds _ => kended_of (S := S) (Ffirst_deed) (Famount_of) (Fmerged) (wfLen ds)) 60 nended_of (["pile", "clauses"] : List Str).length (defBody (top 34)) = ⟨2, false, Fended_of⟩ := by
    unfold runDef
    simp only [eended_of]
    rfl
  rw [← e]
  exact r
theorem mpushed {S : Type} {T : StK S} (X : K.In h) (G : h.Ns mainGlobals mg) (c : He.SaysD H03.fa H03.fn K) : CalM P w K mg base T cls 8 "pushed" ⟨3, false, Fpushed⟩ := by
  obtain ⟨fd, F⟩ := c.def_ 18 (d := H03.dd "pushed" 35) rfl
  have hS : FnScope npushed ["sorter", "pile", "length"] (defScope (top 35)) := ⟨rfl, rfl, rfl, by decide +kernel, rfl, by decide +kernel, by decide +kernel⟩
  have hg : ∀ ds : List D, GkM P w K mg base T cls 7 (kpushed (S := S) (Fneed_sorter) (Fneed_pile) (Fneed_lengths) (Ffallen)).G := fun ds => by
    refine ⟨glo_all X G c, fun x f e => ?_, blt_all X G c, fun C h1 h2 h3 => moreSp_ok rfl⟩
    simp only [kpushed, gpushed] at e
    by_cases hx : x = Str.ofString "need_sorter"
    · rw [if_pos hx] at e; subst hx; cases e; exact (mneed_sorter X G c).mono (by decide)
    rw [if_neg hx] at e; clear hx
    by_cases hx : x = Str.ofString "need_pile"
    · rw [if_pos hx] at e; subst hx; cases e; exact (mneed_pile X G c).mono (by decide)
    rw [if_neg hx] at e; clear hx
    by_cases hx : x = Str.ofString "need_lengths"
    · rw [if_pos hx] at e; subst hx; cases e; exact (mneed_lengths X G c).mono (by decide)
    rw [if_neg hx] at e; clear hx
    by_cases hx : x = Str.ofString "fallen"
    · rw [if_pos hx] at e; subst hx; cases e; exact (mfallen X G c).mono (by decide)
    rw [if_neg hx] at e; clear hx
    cases e
  refine ⟨_, fd, ["sorter", "pile", "length"], ?_, He.glo_ok X G (c.fact 18 (f := .glo "pushed") rfl), F.kp, F.bindsN fun _ _ _ _ _ _ us hl => match us, hl with | [_, _, _], _ => rfl⟩
  have r := fn_run F hS false (fun ds _ => kpushed (S := S) (Fneed_sorter) (Fneed_pile) (Fneed_lengths) (Ffallen)) 60 (fun ds s => ⟨rfl, rfl, hg ds, fun _ _ _ xd g => moreSt_ok rfl xd g⟩)
  have e : runDef false (fun ds _ => kpushed (S := S) (Fneed_sorter) (Fneed_pile) (Fneed_lengths) (Ffallen)) 60 npushed (["sorter", "pile", "length"] : List Str).length (defBody (top 35)) = ⟨3, false, Fpushed⟩ := by
    unfold runDef
    simp only [epushed]
    rfl
  rw [← e]
  exact r
theorem mended {S : Type} {T : StK S} (X : K.In h) (G : h.Ns mainGlobals mg) (c : He.SaysD H03.fa H03.fn K) : CalM P w K mg base T cls 8 "ended" ⟨2, false, Fended⟩ := by
  obtain ⟨fd, F⟩ := c.def_ 19 (d := H03.dd "ended" 36) rfl
  have hS : FnScope nended ["sorter", "pile"] (defScope (top 36)) := ⟨rfl, rfl, rfl, by decide +kernel, rfl, by decide +kernel, by decide +kernel⟩
  have hg : ∀ ds : List D, GkM P w K mg base T cls 7 (kended (S := S) (Fneed_sorter) (Fended_of) (Fneed_pile)).G := fun ds => by
    refine ⟨glo_all X G c, fun x f e => ?_, blt_all X G c, fun C h1 h2 h3 => moreSp_ok rfl⟩
    simp only [kended, gended] at e
    by_cases hx : x = Str.ofString "need_sorter"
    · rw [if_pos hx] at e; subst hx; cases e; exact (mneed_sorter X G c).mono (by decide)
    rw [if_neg hx] at e; clear hx
    by_cases hx : x = Str.ofString "ended_of"
    · rw [if_pos hx] at e; subst hx; cases e; exact (mended_of X G c).mono (by decide)
    rw [if_neg hx] at e; clear hx
    by_cases hx : x = Str.ofString "need_pile"
    · rw [if_pos hx] at e; subst hx; cases e; exact (mneed_pile X G c).mono (by decide)
    rw [if_neg hx] at e; clear hx
    cases e
  refine ⟨_, fd, ["sorter", "pile"], ?_, He.glo_ok X G (c.fact 19 (f := .glo "ended") rfl), F.kp, F.bindsN fun _ _ _ _ _ _ us hl => match us, hl with | [_, _], _ => rfl⟩
  have r := fn_run F hS false (fun ds _ => kended (S := S) (Fneed_sorter) (Fended_of) (Fneed_pile)) 60 (fun ds s => ⟨rfl, rfl, hg ds, fun _ _ _ xd g => moreSt_ok rfl xd g⟩)
  have e : runDef false (fun ds _ => kended (S := S) (Fneed_sorter) (Fended_of) (Fneed_pile)) 60 nended (["sorter", "pile"] : List Str).length (defBody (top 36)) = ⟨2, false, Fended⟩ := by
    unfold runDef
    simp only [eended]
    rfl
  rw [← e]
  exact r
theorem mgone_along {S : Type} {T : StK S} (X : K.In h) (G : h.Ns mainGlobals mg) (c : He.SaysD H03.fa H03.fn K) : CalM P w K mg base T cls 6 "gone_along" ⟨2, false, Fgone_along⟩ := by
  obtain ⟨fd, F⟩ := c.def_ 20 (d := H03.dd "gone_along" 37) rfl
  have hS : FnScope ngone_along ["sorter", "row"] (defScope (top 37)) := ⟨rfl, rfl, rfl, by decide +kernel, rfl, by decide +kernel, by decide +kernel⟩
  have hg : ∀ ds : List D, GkM P w K mg base T cls 5 (kgone_along (S := S) (Ffallen)).G := fun ds => by
    refine ⟨glo_all X G c, fun x f e => ?_, blt_all X G c, fun C h1 h2 h3 => moreSp_ok rfl⟩
    simp only [kgone_along, ggone_along] at e
    by_cases hx : x = Str.ofString "fallen"
    · rw [if_pos hx] at e; subst hx; cases e; exact (mfallen X G c).mono (by decide)
    rw [if_neg hx] at e; clear hx
    cases e
  refine ⟨_, fd, ["sorter", "row"], ?_, He.glo_ok X G (c.fact 20 (f := .glo "gone_along") rfl), F.kp, F.bindsN fun _ _ _ _ _ _ us hl => match us, hl with | [_, _], _ => rfl⟩
  have r := fn_run F hS false (fun ds _ => kgone_along (S := S) (Ffallen)) 60 (fun ds s => ⟨rfl, rfl, hg ds, fun _ _ _ xd g => moreSt_ok rfl xd g⟩)
  have e : runDef false (fun ds _ => kgone_along (S := S) (Ffallen)) 60 ngone_along (["sorter", "row"] : List Str).length (defBody (top 37)) = ⟨2, false, Fgone_along⟩ := by
    unfold runDef
    simp only [egone_along]
    rfl
  rw [← e]
  exact r
theorem mpiles_behind {S : Type} {T : StK S} (X : K.In h) (G : h.Ns mainGlobals mg) (c : He.SaysD H03.fa H03.fn K) : CalM P w K mg base T cls 8 "piles_behind" ⟨2, false, Fpiles_behind⟩ := by
  obtain ⟨fd, F⟩ := c.def_ 21 (d := H03.dd "piles_behind" 38) rfl
  have hS : FnScope npiles_behind ["sorter", "lengths"] (defScope (top 38)) := ⟨rfl, rfl, rfl, by decide +kernel, rfl, by decide +kernel, by decide +kernel⟩
  have hg : ∀ ds : List D, GkM P w K mg base T cls 7 (kpiles_behind (S := S) (Fneed_sorter) (Fgone_along) (Fneed_lengths)).G := fun ds => by
    refine ⟨glo_all X G c, fun x f e => ?_, blt_all X G c, fun C h1 h2 h3 => moreSp_ok rfl⟩
    simp only [kpiles_behind, gpiles_behind] at e
    by_cases hx : x = Str.ofString "need_sorter"
    · rw [if_pos hx] at e; subst hx; cases e; exact (mneed_sorter X G c).mono (by decide)
    rw [if_neg hx] at e; clear hx
    by_cases hx : x = Str.ofString "gone_along"
    · rw [if_pos hx] at e; subst hx; cases e; exact (mgone_along X G c).mono (by decide)
    rw [if_neg hx] at e; clear hx
    by_cases hx : x = Str.ofString "need_lengths"
    · rw [if_pos hx] at e; subst hx; cases e; exact (mneed_lengths X G c).mono (by decide)
    rw [if_neg hx] at e; clear hx
    cases e
  refine ⟨_, fd, ["sorter", "lengths"], ?_, He.glo_ok X G (c.fact 21 (f := .glo "piles_behind") rfl), F.kp, F.bindsN fun _ _ _ _ _ _ us hl => match us, hl with | [_, _], _ => rfl⟩
  have r := fn_run F hS false (fun ds _ => kpiles_behind (S := S) (Fneed_sorter) (Fgone_along) (Fneed_lengths)) 60 (fun ds s => ⟨rfl, rfl, hg ds, fun _ _ _ xd g => moreSt_ok rfl xd g⟩)
  have e : runDef false (fun ds _ => kpiles_behind (S := S) (Fneed_sorter) (Fgone_along) (Fneed_lengths)) 60 npiles_behind (["sorter", "lengths"] : List Str).length (defBody (top 38)) = ⟨2, false, Fpiles_behind⟩ := by
    unfold runDef
    simp only [epiles_behind]
    rfl
  rw [← e]
  exact r
theorem mrun {S : Type} {T : StK S} (X : K.In h) (G : h.Ns mainGlobals mg) (c : He.SaysD H03.fa H03.fn K) : CalM P w K mg base T cls 8 "run" ⟨2, false, Frun⟩ := by
  obtain ⟨fd, F⟩ := c.def_ 22 (d := H03.dd "run" 39) rfl
  have hS : FnScope nrun ["sorter", "lengths"] (defScope (top 39)) := ⟨rfl, rfl, rfl, by decide +kernel, rfl, by decide +kernel, by decide +kernel⟩
  have hg : ∀ ds : List D, GkM P w K mg base T cls 7 (krun (S := S) (Fneed_sorter) (Fneed_lengths) (Fgone_along) (Fended_of)).G := fun ds => by
    refine ⟨glo_all X G c, fun x f e => ?_, blt_all X G c, fun C h1 h2 h3 => moreSp_ok rfl⟩
    simp only [krun, grun] at e
    by_cases hx : x = Str.ofString "need_sorter"
    · rw [if_pos hx] at e; subst hx; cases e; exact (mneed_sorter X G c).mono (by decide)
    rw [if_neg hx] at e; clear hx
    by_cases hx : x = Str.ofString "need_lengths"
    · rw [if_pos hx] at e; subst hx; cases e; exact (mneed_lengths X G c).mono (by decide)
    rw [if_neg hx] at e; clear hx
    by_cases hx : x = Str.ofString "gone_along"
    · rw [if_pos hx] at e; subst hx; cases e; exact (mgone_along X G c).mono (by decide)
    rw [if_neg hx] at e; clear hx
    by_cases hx : x = Str.ofString "ended_of"
    · rw [if_pos hx] at e; subst hx; cases e; exact (mended_of X G c).mono (by decide)
    rw [if_neg hx] at e; clear hx
    cases e
  refine ⟨_, fd, ["sorter", "lengths"], ?_, He.glo_ok X G (c.fact 22 (f := .glo "run") rfl), F.kp, F.bindsN fun _ _ _ _ _ _ us hl => match us, hl with | [_, _], _ => rfl⟩
  have r := fn_run F hS false (fun ds _ => krun (S := S) (Fneed_sorter) (Fneed_lengths) (Fgone_along) (Fended_of)) 60 (fun ds s => ⟨rfl, rfl, hg ds, fun _ _ _ xd g => moreSt_ok rfl xd g⟩)
  have e : runDef false (fun ds _ => krun (S := S) (Fneed_sorter) (Fneed_lengths) (Fgone_along) (Fended_of)) 60 nrun (["sorter", "lengths"] : List Str).length (defBody (top 39)) = ⟨2, false, Frun⟩ := by
    unfold runDef
    simp only [erun]
    rfl
  rw [← e]
  exact r
theorem mcost {S : Type} {T : StK S} (X : K.In h) (G : h.Ns mainGlobals mg) (c : He.SaysD H03.fa H03.fn K) : CalM P w K mg base T cls 9 "cost" ⟨2, false, Fcost⟩ := by
  obtain ⟨fd, F⟩ := c.def_ 23 (d := H03.dd "cost" 40) rfl
  have hS : FnScope ncost ["sorter", "lengths"] (defScope (top 40)) := ⟨rfl, rfl, rfl, by decide +kernel, rfl, by decide +kernel, by decide +kernel⟩
  have hg : ∀ ds : List D, GkM P w K mg base T cls 8 (kcost (S := S) (Frun)).G := fun ds => by
    refine ⟨glo_all X G c, fun x f e => ?_, blt_all X G c, fun C h1 h2 h3 => moreSp_ok rfl⟩
    simp only [kcost, gcost] at e
    by_cases hx : x = Str.ofString "run"
    · rw [if_pos hx] at e; subst hx; cases e; exact (mrun X G c).mono (by decide)
    rw [if_neg hx] at e; clear hx
    cases e
  refine ⟨_, fd, ["sorter", "lengths"], ?_, He.glo_ok X G (c.fact 23 (f := .glo "cost") rfl), F.kp, F.bindsN fun _ _ _ _ _ _ us hl => match us, hl with | [_, _], _ => rfl⟩
  have r := fn_run F hS false (fun ds _ => kcost (S := S) (Frun)) 60 (fun ds s => ⟨rfl, rfl, hg ds, fun _ _ _ xd g => moreSt_ok rfl xd g⟩)
  have e : runDef false (fun ds _ => kcost (S := S) (Frun)) 60 ncost (["sorter", "lengths"] : List Str).length (defBody (top 40)) = ⟨2, false, Fcost⟩ := by
    unfold runDef
    simp only [ecost]
    rfl
  rw [← e]
  exact r
theorem mdeepest {S : Type} {T : StK S} (X : K.In h) (G : h.Ns mainGlobals mg) (c : He.SaysD H03.fa H03.fn K) : CalM P w K mg base T cls 9 "deepest" ⟨2, false, Fdeepest⟩ := by
  obtain ⟨fd, F⟩ := c.def_ 24 (d := H03.dd "deepest" 41) rfl
  have hS : FnScope ndeepest ["sorter", "lengths"] (defScope (top 41)) := ⟨rfl, rfl, rfl, by decide +kernel, rfl, by decide +kernel, by decide +kernel⟩
  have hg : ∀ ds : List D, GkM P w K mg base T cls 8 (kdeepest (S := S) (Fpiles_behind)).G := fun ds => by
    refine ⟨glo_all X G c, fun x f e => ?_, blt_all X G c, fun C h1 h2 h3 => moreSp_ok rfl⟩
    simp only [kdeepest, gdeepest] at e
    by_cases hx : x = Str.ofString "piles_behind"
    · rw [if_pos hx] at e; subst hx; cases e; exact (mpiles_behind X G c).mono (by decide)
    rw [if_neg hx] at e; clear hx
    cases e
  refine ⟨_, fd, ["sorter", "lengths"], ?_, He.glo_ok X G (c.fact 24 (f := .glo "deepest") rfl), F.kp, F.bindsN fun _ _ _ _ _ _ us hl => match us, hl with | [_, _], _ => rfl⟩
  have r := fn_run F hS false (fun ds _ => kdeepest (S := S) (Fpiles_behind)) 60 (fun ds s => ⟨rfl, rfl, hg ds, fun _ _ _ xd g => moreSt_ok rfl xd g⟩)
  have e : runDef false (fun ds _ => kdeepest (S := S) (Fpiles_behind)) 60 ndeepest (["sorter", "lengths"] : List Str).length (defBody (top 41)) = ⟨2, false, Fdeepest⟩ := by
    unfold runDef
    simp only [edeepest]
    rfl
  rw [← e]
  exact r
theorem mtouched {S : Type} {T : StK S} (X : K.In h) (G : h.Ns mainGlobals mg) (c : He.SaysD H03.fa H03.fn K) : CalM P w K mg base T cls 9 "touched" ⟨2, false, Ftouched⟩ := by
  obtain ⟨fd, F⟩ := c.def_ 25 (d := H03.dd "touched" 42) rfl
  have hS : FnScope ntouched ["sorter", "lengths"] (defScope (top 42)) := ⟨rfl, rfl, rfl, by decide +kernel, rfl, by decide +kernel, by decide +kernel⟩
  have hg : ∀ ds : List D, GkM P w K mg base T cls 8 (ktouched (S := S) (Fneed_sorter) (Fneed_lengths) (Frun)).G := fun ds => by
    refine ⟨glo_all X G c, fun x f e => ?_, blt_all X G c, fun C h1 h2 h3 => moreSp_ok rfl⟩
    simp only [ktouched, gtouched] at e
    by_cases hx : x = Str.ofString "need_sorter"
    · rw [if_pos hx] at e; subst hx; cases e; exact (mneed_sorter X G c).mono (by decide)
    rw [if_neg hx] at e; clear hx
    by_cases hx : x = Str.ofString "need_lengths"
    · rw [if_pos hx] at e; subst hx; cases e; exact (mneed_lengths X G c).mono (by decide)
    rw [if_neg hx] at e; clear hx
    by_cases hx : x = Str.ofString "run"
    · rw [if_pos hx] at e; subst hx; cases e; exact (mrun X G c).mono (by decide)
    rw [if_neg hx] at e; clear hx
    cases e
  refine ⟨_, fd, ["sorter", "lengths"], ?_, He.glo_ok X G (c.fact 25 (f := .glo "touched") rfl), F.kp, F.bindsN fun _ _ _ _ _ _ us hl => match us, hl with | [_, _], _ => rfl⟩
  have r := fn_run F hS false (fun ds _ => ktouched (S := S) (Fneed_sorter) (Fneed_lengths) (Frun)) 60 (fun ds s => ⟨rfl, rfl, hg ds, fun _ _ _ xd g => moreSt_ok rfl xd g⟩)
  have e : runDef false (fun ds _ => ktouched (S := S) (Fneed_sorter) (Fneed_lengths) (Frun)) 60 ntouched (["sorter", "lengths"] : List Str).length (defBody (top 42)) = ⟨2, false, Ftouched⟩ := by
    unfold runDef
    simp only [etouched]
    rfl
  rw [← e]
  exact r
theorem m_law_mixed {S : Type} {T : StK S} (X : K.In h) (G : h.Ns mainGlobals mg) (c : He.SaysD H03.fa H03.fn K) : CalM P w K mg base T cls 1 "_law_mixed" ⟨2, false, F_law_mixed⟩ := by
  obtain ⟨fd, F⟩ := c.def_ 26 (d := H03.dd "_law_mixed" 44) rfl
  have hS : FnScope n_law_mixed ["_law_cell", "_law_n"] (defScope (top 44)) := ⟨rfl, rfl, rfl, by decide +kernel, rfl, by decide +kernel, by decide +kernel⟩
  have hg : ∀ ds : List D, GkM P w K mg base T cls 0 (k_law_mixed (S := S)).G := fun ds => by
    refine ⟨glo_all X G c, fun x f e => ?_, blt_all X G c, fun C h1 h2 h3 => moreSp_ok rfl⟩
    simp only [k_law_mixed, g_law_mixed] at e
    cases e
  refine ⟨_, fd, ["_law_cell", "_law_n"], ?_, He.glo_ok X G (c.fact 26 (f := .glo "_law_mixed") rfl), F.kp, F.bindsN fun _ _ _ _ _ _ us hl => match us, hl with | [_, _], _ => rfl⟩
  have r := fn_run F hS false (fun ds _ => k_law_mixed (S := S)) 60 (fun ds s => ⟨rfl, rfl, hg ds, fun _ _ _ xd g => moreSt_ok rfl xd g⟩)
  have e : runDef false (fun ds _ => k_law_mixed (S := S)) 60 n_law_mixed (["_law_cell", "_law_n"] : List Str).length (defBody (top 44)) = ⟨2, false, F_law_mixed⟩ := by
    unfold runDef
    simp only [e_law_mixed]
    rfl
  rw [← e]
  exact r
theorem m_law_folded {S : Type} {T : StK S} (X : K.In h) (G : h.Ns mainGlobals mg) (c : He.SaysD H03.fa H03.fn K) : CalM P w K mg base T cls 1 "_law_folded" ⟨1, true, F_law_folded⟩ := by
  obtain ⟨fd, F⟩ := c.def_ 27 (d := H03.dd "_law_folded" 45) rfl
  have hS : FnScope n_law_folded ["_law_script"] (defScope (top 45)) := ⟨rfl, rfl, rfl, by decide +kernel, rfl, by decide +kernel, by decide +kernel⟩
  have hg : ∀ ds : List D, GkM P w K mg base T cls 0 (k_law_folded (S := S)).G := fun ds => by
    refine ⟨glo_all X G c, fun x f e => ?_, blt_all X G c, fun C h1 h2 h3 => moreSp_ok rfl⟩
    simp only [k_law_folded, g_law_folded] at e
    cases e
  refine ⟨_, fd, ["_law_script"], ?_, He.glo_ok X G (c.fact 27 (f := .glo "_law_folded") rfl), F.kp, F.bindsN fun _ _ _ _ _ _ us hl => match us, hl with | [_], _ => rfl⟩
  have r := fn_run F hS true (fun ds _ => k_law_folded (S := S)) 60 (fun ds s => ⟨rfl, rfl, hg ds, fun _ _ _ xd g => moreSt_ok rfl xd g⟩)
  have e : runDef true (fun ds _ => k_law_folded (S := S)) 60 n_law_folded (["_law_script"] : List Str).length (defBody (top 45)) = ⟨1, true, F_law_folded⟩ := by
    unfold runDef
    simp only [e_law_folded]
    rfl
  rw [← e]
  exact r
theorem m_law_draw (a : Ad) (X : K.In h) (G : h.Ns mainGlobals mg) (c : He.SaysD H03.fa H03.fn K) : CalM P w K mg base (TD a) cls 2 "_law_draw" ⟨2, false, F_law_draw a⟩ := by
  obtain ⟨fd, F⟩ := c.def_ 28 (d := H03.dd "_law_draw" 46) rfl
  have hS : FnScope n_law_draw ["_law_m", "_law_limit"] (defScope (top 46)) := ⟨rfl, rfl, rfl, by decide +kernel, rfl, by decide +kernel, by decide +kernel⟩
  have hg : ∀ ds : List D, GkM P w K mg base (TD a) cls 1 (k_law_draw a (F_law_mixed)).G := fun ds => by
    refine ⟨glo_all X G c, fun x f e => ?_, blt_all X G c, fun C h1 h2 h3 => drawSp_ok h2 rfl⟩
    simp only [k_law_draw, g_law_draw] at e
    by_cases hx : x = Str.ofString "_law_mixed"
    · rw [if_pos hx] at e; subst hx; cases e; exact (m_law_mixed X G c).mono (by decide)
    rw [if_neg hx] at e; clear hx
    cases e
  refine ⟨_, fd, ["_law_m", "_law_limit"], ?_, He.glo_ok X G (c.fact 28 (f := .glo "_law_draw") rfl), F.kp, F.bindsN fun _ _ _ _ _ _ us hl => match us, hl with | [_, _], _ => rfl⟩
  have r := fn_run F hS false (fun ds _ => k_law_draw a (F_law_mixed)) 60 (fun ds s => ⟨rfl, rfl, hg ds, fun h1 h2 h3 xd g => drawSt_ok h2 rfl xd g⟩)
  have e : runDef false (fun ds _ => k_law_draw a (F_law_mixed)) 60 n_law_draw (["_law_m", "_law_limit"] : List Str).length (defBody (top 46)) = ⟨2, false, F_law_draw a⟩ := by
    unfold runDef
    simp only [e_law_draw]
    rfl
  rw [← e]
  exact r
theorem m_law_like {S : Type} {T : StK S} (X : K.In h) (G : h.Ns mainGlobals mg) (c : He.SaysD H03.fa H03.fn K) : CalM P w K mg base T cls 1 "_law_like" ⟨2, false, F_law_like_v2⟩ := by
  obtain ⟨fd, F⟩ := c.def_ 30 (d := H03.dd "_law_like" 48) rfl
  have hS : FnScope n_law_like_v2 ["_law_heard", "_law_due"] (defScope (top 48)) := ⟨rfl, rfl, rfl, by decide +kernel, rfl, by decide +kernel, by decide +kernel⟩
  have hg : ∀ ds : List D, GkM P w K mg base T cls 0 (k_law_like (S := S)).G := fun ds => by
    refine ⟨glo_all X G c, fun x f e => ?_, blt_all X G c, fun C h1 h2 h3 => moreSp_ok rfl⟩
    simp only [k_law_like, g_law_like] at e
    cases e
  refine ⟨_, fd, ["_law_heard", "_law_due"], ?_, He.glo_ok X G (c.fact 30 (f := .glo "_law_like") rfl), F.kp, F.bindsN fun _ _ _ _ _ _ us hl => match us, hl with | [_, _], _ => rfl⟩
  have r := fn_run F hS false (fun ds _ => k_law_like (S := S)) 60 (fun ds s => ⟨rfl, rfl, hg ds, fun _ _ _ xd g => moreSt_ok rfl xd g⟩)
  have e : runDef false (fun ds _ => k_law_like (S := S)) 60 n_law_like_v2 (["_law_heard", "_law_due"] : List Str).length (defBody (top 48)) = ⟨2, false, F_law_like_v2⟩ := by
    unfold runDef
    simp only [e_law_like]
    rfl
  rw [← e]
  exact r
theorem m_law_of (a : Ad) (X : K.In h) (G : h.Ns mainGlobals mg) (c : He.SaysD H03.fa H03.fn K) : CalM P w K mg base (TD a) cls 3 "_law_of" ⟨2, false, F_law_of a⟩ := by
  obtain ⟨fd, F⟩ := c.def_ 31 (d := H03.dd "_law_of" 49) rfl
  have hS : FnScope n_law_of ["_law_m", "_law_some"] (defScope (top 49)) := ⟨rfl, rfl, rfl, by decide +kernel, rfl, by decide +kernel, by decide +kernel⟩
  have hg : ∀ ds : List D, GkM P w K mg base (TD a) cls 2 (k_law_of (F_law_draw a)).G := fun ds => by
    refine ⟨glo_all X G c, fun x f e => ?_, blt_all X G c, fun C h1 h2 h3 => moreSp_ok rfl⟩
    simp only [k_law_of, g_law_of] at e
    by_cases hx : x = Str.ofString "_law_draw"
    · rw [if_pos hx] at e; subst hx; cases e; exact (m_law_draw a X G c).mono (by decide)
    rw [if_neg hx] at e; clear hx
    cases e
  refine ⟨_, fd, ["_law_m", "_law_some"], ?_, He.glo_ok X G (c.fact 31 (f := .glo "_law_of") rfl), F.kp, F.bindsN fun _ _ _ _ _ _ us hl => match us, hl with | [_, _], _ => rfl⟩
  have r := fn_run F hS false (fun ds _ => k_law_of (F_law_draw a)) 60 (fun ds s => ⟨rfl, rfl, hg ds, fun _ _ _ xd g => moreSt_ok rfl xd g⟩)
  have e : runDef false (fun ds _ => k_law_of (F_law_draw a)) 60 n_law_of (["_law_m", "_law_some"] : List Str).length (defBody (top 49)) = ⟨2, false, F_law_of a⟩ := by
    unfold runDef
    simp only [e_law_of]
    rfl
  rw [← e]
  exact r
theorem m_law_side (a : Ad) (X : K.In h) (G : h.Ns mainGlobals mg) (c : He.SaysD H03.fa H03.fn K) : CalM P w K mg base (TD a) cls 4 "_law_side" ⟨2, false, F_law_side_v2 a⟩ := by
  obtain ⟨fd, F⟩ := c.def_ 32 (d := H03.dd "_law_side" 50) rfl
  have hS : FnScope n_law_side_v2 ["_law_m", "_law_some"] (defScope (top 50)) := ⟨rfl, rfl, rfl, by decide +kernel, rfl, by decide +kernel, by decide +kernel⟩
  have hg : ∀ ds : List D, GkM P w K mg base (TD a) cls 3 (k_law_side (F_law_of a) (F_law_draw a)).G := fun ds => by
    refine ⟨glo_all X G c, fun x f e => ?_, blt_all X G c, fun C h1 h2 h3 => moreSp_ok rfl⟩
    simp only [k_law_side, g_law_side] at e
    by_cases hx : x = Str.ofString "_law_of"
    · rw [if_pos hx] at e; subst hx; cases e; exact (m_law_of a X G c).mono (by decide)
    rw [if_neg hx] at e; clear hx
    by_cases hx : x = Str.ofString "_law_draw"
    · rw [if_pos hx] at e; subst hx; cases e; exact (m_law_draw a X G c).mono (by decide)
    rw [if_neg hx] at e; clear hx
    cases e
  refine ⟨_, fd, ["_law_m", "_law_some"], ?_, He.glo_ok X G (c.fact 32 (f := .glo "_law_side") rfl), F.kp, F.bindsN fun _ _ _ _ _ _ us hl => match us, hl with | [_, _], _ => rfl⟩
  have r := fn_run F hS false (fun ds _ => k_law_side (F_law_of a) (F_law_draw a)) 60 (fun ds s => ⟨rfl, rfl, hg ds, fun _ _ _ xd g => moreSt_ok rfl xd g⟩)
  have e : runDef false (fun ds _ => k_law_side (F_law_of a) (F_law_draw a)) 60 n_law_side_v2 (["_law_m", "_law_some"] : List Str).length (defBody (top 50)) = ⟨2, false, F_law_side_v2 a⟩ := by
    unfold runDef
    simp only [e_law_side]
    rfl
  rw [← e]
  exact r
theorem m_law_test (a : Ad) (X : K.In h) (G : h.Ns mainGlobals mg) (c : He.SaysD H03.fa H03.fn K) : CalM P w K mg base (TD a) cls 5 "_law_test" ⟨2, false, F_law_test a⟩ := by
  obtain ⟨fd, F⟩ := c.def_ 33 (d := H03.dd "_law_test" 51) rfl
  have hS : FnScope n_law_test ["_law_m", "_law_deep"] (defScope (top 51)) := ⟨rfl, rfl, rfl, by decide +kernel, rfl, by decide +kernel, by decide +kernel⟩
  have hg : ∀ ds : List D, GkM P w K mg base (TD a) cls 4 (k_law_test (F_law_side_v2 a) (F_law_draw a)).G := fun ds => by
    refine ⟨glo_all X G c, fun x f e => ?_, blt_all X G c, fun C h1 h2 h3 => moreSp_ok rfl⟩
    simp only [k_law_test, g_law_test] at e
    by_cases hx : x = Str.ofString "_law_side"
    · rw [if_pos hx] at e; subst hx; cases e; exact (m_law_side a X G c).mono (by decide)
    rw [if_neg hx] at e; clear hx
    by_cases hx : x = Str.ofString "_law_draw"
    · rw [if_pos hx] at e; subst hx; cases e; exact (m_law_draw a X G c).mono (by decide)
    rw [if_neg hx] at e; clear hx
    cases e
  refine ⟨_, fd, ["_law_m", "_law_deep"], ?_, He.glo_ok X G (c.fact 33 (f := .glo "_law_test") rfl), F.kp, F.bindsN fun _ _ _ _ _ _ us hl => match us, hl with | [_, _], _ => rfl⟩
  have r := fn_run F hS false (fun ds _ => k_law_test (F_law_side_v2 a) (F_law_draw a)) 60 (fun ds s => ⟨rfl, rfl, hg ds, fun _ _ _ xd g => moreSt_ok rfl xd g⟩)
  have e : runDef false (fun ds _ => k_law_test (F_law_side_v2 a) (F_law_draw a)) 60 n_law_test (["_law_m", "_law_deep"] : List Str).length (defBody (top 51)) = ⟨2, false, F_law_test a⟩ := by
    unfold runDef
    simp only [e_law_test]
    rfl
  rw [← e]
  exact r
theorem m_law_clauses (a : Ad) (X : K.In h) (G : h.Ns mainGlobals mg) (c : He.SaysD H03.fa H03.fn K) : CalM P w K mg base (TD a) cls 6 "_law_clauses" ⟨4, false, F_law_clauses a⟩ := by
  obtain ⟨fd, F⟩ := c.def_ 34 (d := H03.dd "_law_clauses" 52) rfl
  have hS : FnScope n_law_clauses ["_law_m", "_law_least", "_law_most", "_law_deep"] (defScope (top 52)) := ⟨rfl, rfl, rfl, by decide +kernel, rfl, by decide +kernel, by decide +kernel⟩
  have hg : ∀ ds : List D, GkM P w K mg base (TD a) cls 5 (k_law_clauses (F_law_draw a) (F_law_of a) (F_law_test a)).G := fun ds => by
    refine ⟨glo_all X G c, fun x f e => ?_, blt_all X G c, fun C h1 h2 h3 => moreSp_ok rfl⟩
    simp only [k_law_clauses, g_law_clauses] at e
    by_cases hx : x = Str.ofString "_law_draw"
    · rw [if_pos hx] at e; subst hx; cases e; exact (m_law_draw a X G c).mono (by decide)
    rw [if_neg hx] at e; clear hx
    by_cases hx : x = Str.ofString "_law_of"
    · rw [if_pos hx] at e; subst hx; cases e; exact (m_law_of a X G c).mono (by decide)
    rw [if_neg hx] at e; clear hx
    by_cases hx : x = Str.ofString "_law_test"
    · rw [if_pos hx] at e; subst hx; cases e; exact (m_law_test a X G c).mono (by decide)
    rw [if_neg hx] at e; clear hx
    cases e
  refine ⟨_, fd, ["_law_m", "_law_least", "_law_most", "_law_deep"], ?_, He.glo_ok X G (c.fact 34 (f := .glo "_law_clauses") rfl), F.kp, F.bindsN fun _ _ _ _ _ _ us hl => match us, hl with | [_, _, _, _], _ => rfl⟩
  have r := fn_run F hS false (fun ds _ => k_law_clauses (F_law_draw a) (F_law_of a) (F_law_test a)) 60 (fun ds s => ⟨rfl, rfl, hg ds, fun _ _ _ xd g => moreSt_ok rfl xd g⟩)
  have e : runDef false (fun ds _ => k_law_clauses (F_law_draw a) (F_law_of a) (F_law_test a)) 60 n_law_clauses (["_law_m", "_law_least", "_law_most", "_law_deep"] : List Str).length (defBody (top 52)) = ⟨4, false, F_law_clauses a⟩ := by
    unfold runDef
    simp only [e_law_clauses]
    rfl
  rw [← e]
  exact r
theorem m_law_sorts (a : Ad) (X : K.In h) (G : h.Ns mainGlobals mg) (c : He.SaysD H03.fa H03.fn K) : CalM P w K mg base (TD a) cls 7 "_law_sorts" ⟨2, false, F_law_sorts a⟩ := by
  obtain ⟨fd, F⟩ := c.def_ 35 (d := H03.dd "_law_sorts" 53) rfl
  have hS : FnScope n_law_sorts ["_law_m", "_law_deep"] (defScope (top 53)) := ⟨rfl, rfl, rfl, by decide +kernel, rfl, by decide +kernel, by decide +kernel⟩
  have hg : ∀ ds : List D, GkM P w K mg base (TD a) cls 6 (k_law_sorts (F_law_clauses a)).G := fun ds => by
    refine ⟨glo_all X G c, fun x f e => ?_, blt_all X G c, fun C h1 h2 h3 => moreSp_ok rfl⟩
    simp only [k_law_sorts, g_law_sorts] at e
    by_cases hx : x = Str.ofString "_law_clauses"
    · rw [if_pos hx] at e; subst hx; cases e; exact (m_law_clauses a X G c).mono (by decide)
    rw [if_neg hx] at e; clear hx
    cases e
  refine ⟨_, fd, ["_law_m", "_law_deep"], ?_, He.glo_ok X G (c.fact 35 (f := .glo "_law_sorts") rfl), F.kp, F.bindsN fun _ _ _ _ _ _ us hl => match us, hl with | [_, _], _ => rfl⟩
  have r := fn_run F hS false (fun ds _ => k_law_sorts (F_law_clauses a)) 60 (fun ds s => ⟨rfl, rfl, hg ds, fun _ _ _ xd g => moreSt_ok rfl xd g⟩)
  have e : runDef false (fun ds _ => k_law_sorts (F_law_clauses a)) 60 n_law_sorts (["_law_m", "_law_deep"] : List Str).length (defBody (top 53)) = ⟨2, false, F_law_sorts a⟩ := by
    unfold runDef
    simp only [e_law_sorts]
    rfl
  rw [← e]
  exact r
theorem m_law_row (a : Ad) (X : K.In h) (G : h.Ns mainGlobals mg) (c : He.SaysD H03.fa H03.fn K) : CalM P w K mg base (TD a) cls 3 "_law_row" ⟨3, false, F_law_row a⟩ := by
  obtain ⟨fd, F⟩ := c.def_ 36 (d := H03.dd "_law_row" 54) rfl
  have hS : FnScope n_law_row ["_law_m", "_law_most", "_law_many"] (defScope (top 54)) := ⟨rfl, rfl, rfl, by decide +kernel, rfl, by decide +kernel, by decide +kernel⟩
  have hg : ∀ ds : List D, GkM P w K mg base (TD a) cls 2 (k_law_row (F_law_draw a)).G := fun ds => by
    refine ⟨glo_all X G c, fun x f e => ?_, blt_all X G c, fun C h1 h2 h3 => moreSp_ok rfl⟩
    simp only [k_law_row, g_law_row] at e
    by_cases hx : x = Str.ofString "_law_draw"
    · rw [if_pos hx] at e; subst hx; cases e; exact (m_law_draw a X G c).mono (by decide)
    rw [if_neg hx] at e; clear hx
    cases e
  refine ⟨_, fd, ["_law_m", "_law_most", "_law_many"], ?_, He.glo_ok X G (c.fact 36 (f := .glo "_law_row") rfl), F.kp, F.bindsN fun _ _ _ _ _ _ us hl => match us, hl with | [_, _, _], _ => rfl⟩
  have r := fn_run F hS false (fun ds _ => k_law_row (F_law_draw a)) 60 (fun ds s => ⟨rfl, rfl, hg ds, fun _ _ _ xd g => moreSt_ok rfl xd g⟩)
  have e : runDef false (fun ds _ => k_law_row (F_law_draw a)) 60 n_law_row (["_law_m", "_law_most", "_law_many"] : List Str).length (defBody (top 54)) = ⟨3, false, F_law_row a⟩ := by
    unfold runDef
    simp only [e_law_row]
    rfl
  rw [← e]
  exact r
theorem m_law_holds {S : Type} {T : StK S} (X : K.In h) (G : h.Ns mainGlobals mg) (c : He.SaysD H03.fa H03.fn K) : CalM P w K mg base T cls 1 "_law_holds" ⟨3, false, F_law_holds_v2⟩ := by
  obtain ⟨fd, F⟩ := c.def_ 37 (d := H03.dd "_law_holds" 55) rfl
  have hS : FnScope n_law_holds_v2 ["_law_stack", "_law_test_here", "_law_spot"] (defScope (top 55)) := ⟨rfl, rfl, rfl, by decide +kernel, rfl, by decide +kernel, by decide +kernel⟩
  have hg : ∀ ds : List D, GkM P w K mg base T cls 0 (k_law_holds (S := S)).G := fun ds => by
    refine ⟨glo_all X G c, fun x f e => ?_, blt_all X G c, fun C h1 h2 h3 => moreSp_ok rfl⟩
    simp only [k_law_holds, g_law_holds] at e
    cases e
  refine ⟨_, fd, ["_law_stack", "_law_test_here", "_law_spot"], ?_, He.glo_ok X G (c.fact 37 (f := .glo "_law_holds") rfl), F.kp, F.bindsN fun _ _ _ _ _ _ us hl => match us, hl with | [_, _, _], _ => rfl⟩
  have r := fn_run F hS false (fun ds _ => k_law_holds (S := S)) 60 (fun ds s => ⟨rfl, rfl, hg ds, fun _ _ _ xd g => moreSt_ok rfl xd g⟩)
  have e : runDef false (fun ds _ => k_law_holds (S := S)) 60 n_law_holds_v2 (["_law_stack", "_law_test_here", "_law_spot"] : List Str).length (defBody (top 55)) = ⟨3, false, F_law_holds_v2⟩ := by
    unfold runDef
    simp only [e_law_holds]
    rfl
  rw [← e]
  exact r
theorem m_law_deed {S : Type} {T : StK S} (X : K.In h) (G : h.Ns mainGlobals mg) (c : He.SaysD H03.fa H03.fn K) : CalM P w K mg base T cls 2 "_law_deed" ⟨2, false, F_law_deed⟩ := by
  obtain ⟨fd, F⟩ := c.def_ 38 (d := H03.dd "_law_deed" 56) rfl
  have hS : FnScope n_law_deed ["_law_stack", "_law_clauses_here"] (defScope (top 56)) := ⟨rfl, rfl, rfl, by decide +kernel, rfl, by decide +kernel, by decide +kernel⟩
  have hg : ∀ ds : List D, GkM P w K mg base T cls 1 (k_law_deed (S := S) (F_law_holds_v2)).G := fun ds => by
    refine ⟨glo_all X G c, fun x f e => ?_, blt_all X G c, fun C h1 h2 h3 => moreSp_ok rfl⟩
    simp only [k_law_deed, g_law_deed] at e
    by_cases hx : x = Str.ofString "_law_holds"
    · rw [if_pos hx] at e; subst hx; cases e; exact (m_law_holds X G c).mono (by decide)
    rw [if_neg hx] at e; clear hx
    cases e
  refine ⟨_, fd, ["_law_stack", "_law_clauses_here"], ?_, He.glo_ok X G (c.fact 38 (f := .glo "_law_deed") rfl), F.kp, F.bindsN fun _ _ _ _ _ _ us hl => match us, hl with | [_, _], _ => rfl⟩
  have r := fn_run F hS false (fun ds _ => k_law_deed (S := S) (F_law_holds_v2)) 60 (fun ds s => ⟨rfl, rfl, hg ds, fun _ _ _ xd g => moreSt_ok rfl xd g⟩)
  have e : runDef false (fun ds _ => k_law_deed (S := S) (F_law_holds_v2)) 60 n_law_deed (["_law_stack", "_law_clauses_here"] : List Str).length (defBody (top 56)) = ⟨2, false, F_law_deed⟩ := by
    unfold runDef
    simp only [e_law_deed]
    rfl
  rw [← e]
  exact r
theorem m_law_done {S : Type} {T : StK S} (X : K.In h) (G : h.Ns mainGlobals mg) (c : He.SaysD H03.fa H03.fn K) : CalM P w K mg base T cls 1 "_law_done" ⟨2, false, F_law_done⟩ := by
  obtain ⟨fd, F⟩ := c.def_ 39 (d := H03.dd "_law_done" 57) rfl
  have hS : FnScope n_law_done ["_law_stack", "_law_deed_here"] (defScope (top 57)) := ⟨rfl, rfl, rfl, by decide +kernel, rfl, by decide +kernel, by decide +kernel⟩
  have hg : ∀ ds : List D, GkM P w K mg base T cls 0 (k_law_done (S := S)).G := fun ds => by
    refine ⟨glo_all X G c, fun x f e => ?_, blt_all X G c, fun C h1 h2 h3 => moreSp_ok rfl⟩
    simp only [k_law_done, g_law_done] at e
    cases e
  refine ⟨_, fd, ["_law_stack", "_law_deed_here"], ?_, He.glo_ok X G (c.fact 39 (f := .glo "_law_done") rfl), F.kp, F.bindsN fun _ _ _ _ _ _ us hl => match us, hl with | [_, _], _ => rfl⟩
  have r := fn_run F hS false (fun ds _ => k_law_done (S := S)) 60 (fun ds s => ⟨rfl, rfl, hg ds, fun _ _ _ xd g => moreSt_ok rfl xd g⟩)
  have e : runDef false (fun ds _ => k_law_done (S := S)) 60 n_law_done (["_law_stack", "_law_deed_here"] : List Str).length (defBody (top 57)) = ⟨2, false, F_law_done⟩ := by
    unfold runDef
    simp only [e_law_done]
    rfl
  rw [← e]
  exact r
theorem m_law_fall {S : Type} {T : StK S} (X : K.In h) (G : h.Ns mainGlobals mg) (c : He.SaysD H03.fa H03.fn K) : CalM P w K mg base T cls 3 "_law_fall" ⟨2, false, F_law_fall⟩ := by
  obtain ⟨fd, F⟩ := c.def_ 40 (d := H03.dd "_law_fall" 58) rfl
  have hS : FnScope n_law_fall ["_law_stack", "_law_clauses_here"] (defScope (top 58)) := ⟨rfl, rfl, rfl, by decide +kernel, rfl, by decide +kernel, by decide +kernel⟩
  have hg : ∀ ds : List D, GkM P w K mg base T cls 2 (k_law_fall (S := S) (F_law_deed) (F_law_done) (wfLen ds)).G := fun ds => by
    refine ⟨glo_all X G c, fun x f e => ?_, blt_all X G c, fun C h1 h2 h3 => moreSp_ok rfl⟩
    simp only [k_law_fall, g_law_fall] at e
    by_cases hx : x = Str.ofString "_law_deed"
    · rw [if_pos hx] at e; subst hx; cases e; exact (m_law_deed X G c).mono (by decide)
    rw [if_neg hx] at e; clear hx
    by_cases hx : x = Str.ofString "_law_done"
    · rw [if_pos hx] at e; subst hx; cases e; exact (m_law_done X G c).mono (by decide)
    rw [if_neg hx] at e; clear hx
    cases e
  refine ⟨_, fd, ["_law_stack", "_law_clauses_here"], ?_, He.glo_ok X G (c.fact 40 (f := .glo "_law_fall") rfl), F.kp, F.bindsN fun _ _ _ _ _ _ us hl => match us, hl with | [_, _], _ => rfl⟩
  have r := fn_run F hS false (fun ds _ => k_law_fall (S := S) (F_law_deed) (F_law_done) (wfLen ds)) 60 (fun ds s => ⟨rfl, rfl, hg ds, fun _ _ _ xd g => moreSt_ok rfl xd g⟩)
  have e : runDef false (fun ds _ => k_law_fall (S := S) (F_law_deed) (F_law_done) (wfLen ds)) 60 n_law_fall (["_law_stack", "_law_clauses_here"] : List Str).length (defBody (top 58)) = ⟨2, false, F_law_fall⟩ := by
    unfold runDef
    simp only [e_law_fall]
    rfl
  rw [← e]
  exact r
theorem m_law_end {S : Type} {T : StK S} (X : K.In h) (G : h.Ns mainGlobals mg) (c : He.SaysD H03.fa H03.fn K) : CalM P w K mg base T cls 3 "_law_end" ⟨2, false, F_law_end⟩ := by
  obtain ⟨fd, F⟩ := c.def_ 41 (d := H03.dd "_law_end" 59) rfl
  have hS : FnScope n_law_end ["_law_stack", "_law_clauses_here"] (defScope (top 59)) := ⟨rfl, rfl, rfl, by decide +kernel, rfl, by decide +kernel, by decide +kernel⟩
  have hg : ∀ ds : List D, GkM P w K mg base T cls 2 (k_law_end (S := S) (F_law_done) (F_law_deed) (wfLen ds)).G := fun ds => by
    refine ⟨glo_all X G c, fun x f e => ?_, blt_all X G c, fun C h1 h2 h3 => moreSp_ok rfl⟩
    simp only [k_law_end, g_law_end] at e
    by_cases hx : x = Str.ofString "_law_done"
    · rw [if_pos hx] at e; subst hx; cases e; exact (m_law_done X G c).mono (by decide)
    rw [if_neg hx] at e; clear hx
    by_cases hx : x = Str.ofString "_law_deed"
    · rw [if_pos hx] at e; subst hx; cases e; exact (m_law_deed X G c).mono (by decide)
    rw [if_neg hx] at e; clear hx
    cases e
  refine ⟨_, fd, ["_law_stack", "_law_clauses_here"], ?_, He.glo_ok X G (c.fact 41 (f := .glo "_law_end") rfl), F.kp, F.bindsN fun _ _ _ _ _ _ us hl => match us, hl with | [_, _], _ => rfl⟩
  have r := fn_run F hS false (fun ds _ => k_law_end (S := S) (F_law_done) (F_law_deed) (wfLen ds)) 60 (fun ds s => ⟨rfl, rfl, hg ds, fun _ _ _ xd g => moreSt_ok rfl xd g⟩)
  have e : runDef false (fun ds _ => k_law_end (S := S) (F_law_done) (F_law_deed) (wfLen ds)) 60 n_law_end (["_law_stack", "_law_clauses_here"] : List Str).length (defBody (top 59)) = ⟨2, false, F_law_end⟩ := by
    unfold runDef
    simp only [e_law_end]
    rfl
  rw [← e]
  exact r
theorem m_law_touched {S : Type} {T : StK S} (X : K.In h) (G : h.Ns mainGlobals mg) (c : He.SaysD H03.fa H03.fn K) : CalM P w K mg base T cls 1 "_law_touched" ⟨3, false, F_law_touched⟩ := by
  obtain ⟨fd, F⟩ := c.def_ 42 (d := H03.dd "_law_touched" 60) rfl
  have hS : FnScope n_law_touched ["_law_row_so", "_law_pushes", "_law_last"] (defScope (top 60)) := ⟨rfl, rfl, rfl, by decide +kernel, rfl, by decide +kernel, by decide +kernel⟩
  have hg : ∀ ds : List D, GkM P w K mg base T cls 0 (k_law_touched (S := S)).G := fun ds => by
    refine ⟨glo_all X G c, fun x f e => ?_, blt_all X G c, fun C h1 h2 h3 => moreSp_ok rfl⟩
    simp only [k_law_touched, g_law_touched] at e
    cases e
  refine ⟨_, fd, ["_law_row_so", "_law_pushes", "_law_last"], ?_, He.glo_ok X G (c.fact 42 (f := .glo "_law_touched") rfl), F.kp, F.bindsN fun _ _ _ _ _ _ us hl => match us, hl with | [_, _, _], _ => rfl⟩
  have r := fn_run F hS false (fun ds _ => k_law_touched (S := S)) 60 (fun ds s => ⟨rfl, rfl, hg ds, fun _ _ _ xd g => moreSt_ok rfl xd g⟩)
  have e : runDef false (fun ds _ => k_law_touched (S := S)) 60 n_law_touched (["_law_row_so", "_law_pushes", "_law_last"] : List Str).length (defBody (top 60)) = ⟨3, false, F_law_touched⟩ := by
    unfold runDef
    simp only [e_law_touched]
    rfl
  rw [← e]
  exact r
end
end D03

set_option maxHeartbeats 0
namespace D03
open PySem PySem.Spec PyProof.Rows L2 Q Wd
def gBegun : Gk Unit := { glo := glo, cal := fun x => if x = "_law_folded" then some ⟨1, true, F_law_folded⟩ else none }
abbrev kLaw (a : Ad) : Dk Dw := klaw (F_law_end) (Frun) (Fended) (F_law_sorts a) (F_law_row a) (F_law_fall) (F_law_like_v2) (Fpiles_behind) (Fdeepest) (Ftouched) (Fcost) (F_law_touched) (Fpushed)
section
variable {P : Program} {w : World} {K : PySem.W.Frag} {mg : Str → Option Value} {h : Heap} {base : Heap}
abbrev noCls : Str → Option Addr := fun _ => none
theorem mBegun (X : K.In h) (G : h.Ns mainGlobals mg) (c : He.SaysD H03.fa H03.fn K) : ∃ fd, FnG P w K mg base (L2.CX P w) 9 (He.fAd K ("_law_begun", none)) fd ["_law_script"] (spBegun K) ∧ PySem.W.keepIn K (.ref (He.fAd K ("_law_begun", none))) = true ∧ Binds K fd ["_law_script"] [] := by
  obtain ⟨fd, F⟩ := c.def_ 29 (d := H03.dd "_law_begun" 47) rfl
  have hS : FnScope nBegun ["_law_script"] (defScope (top 47)) := ⟨rfl, rfl, rfl, by decide +kernel, rfl, by decide +kernel, by decide +kernel⟩
  have hg : GkM P w K mg base TU noCls 1 gBegun := by
    refine ⟨glo_all X G c, fun x f e => ?_, blt_all X G c, fun C h1 h2 h3 => spOk_no fun _ _ _ _ => rfl⟩
    simp only [gBegun] at e
    split at e
    · rename_i hx; subst hx; cases e; exact (m_law_folded X G c).mono (by decide)
    cases e
  refine ⟨fd, ?_, F.kp, F.bindsN fun _ _ _ _ _ _ us hl => match us, hl with | [_], _ => rfl⟩
  exact (begun_ok F hS gBegun hg (bEc (defBody (top 47))) (bE1 (defBody (top 47))) ⟨_, _, _, _, _, _, _, _, _, _, _, _, _, _, _, _, _, _, _, rfl⟩ (by kernel_rfl) (by kernel_rfl) (Fo := F_law_folded) (by kernel_rfl) (by kernel_rfl) (fun ns => folded_spec ns ())).mono (by decide)
theorem mLaw (X : K.In h) (G : h.Ns mainGlobals mg) (c : He.SaysD H03.fa H03.fn K) : ∃ fd, (∀ (s : Shared) (v : Value), BindsTo s fd ⟨[v], []⟩ [("_law_script", v)]) ∧ ∀ base : Heap, FnG P w K mg base (L2.CX P w) 10 (He.fAd K ("law", none)) fd ["_law_script"] (spLaw K) := by
  obtain ⟨fd, F⟩ := c.def_ 43 (d := H03.dd "law" 61) rfl
  have hS : FnScope nlaw ["_law_script"] (defScope (top 61)) := ⟨rfl, rfl, rfl, by decide +kernel, rfl, by decide +kernel, by decide +kernel⟩
  have b := FunD.bindsA (ps := ["_law_script"]) F fun _ _ _ _ _ _ us hl => match us, hl with | [_], _ => rfl
  refine ⟨fd, fun s v => b s [v] rfl, fun base => ?_⟩
  obtain ⟨fdb, B, kb, bb⟩ := mBegun (P := P) (w := w) (base := base) X G c
  have hg : ∀ a : Ad, GkM P w K mg base (TD a) noCls 9 (kLaw a).G := fun a => by
    refine ⟨glo_all X G c, fun x f e => ?_, blt_all X G c, fun C h1 h2 h3 => moreSp_ok rfl⟩
    simp only [kLaw, klaw, glaw] at e
    by_cases hx : x = Str.ofString "_law_end"
    · rw [if_pos hx] at e; subst hx; cases e; exact (m_law_end X G c).mono (by decide)
    rw [if_neg hx] at e; clear hx
    by_cases hx : x = Str.ofString "run"
    · rw [if_pos hx] at e; subst hx; cases e; exact (mrun X G c).mono (by decide)
    rw [if_neg hx] at e; clear hx
    by_cases hx : x = Str.ofString "ended"
    · rw [if_pos hx] at e; subst hx; cases e; exact (mended X G c).mono (by decide)
    rw [if_neg hx] at e; clear hx
    by_cases hx : x = Str.ofString "_law_sorts"
    · rw [if_pos hx] at e; subst hx; cases e; exact (m_law_sorts a X G c).mono (by decide)
    rw [if_neg hx] at e; clear hx
    by_cases hx : x = Str.ofString "_law_row"
    · rw [if_pos hx] at e; subst hx; cases e; exact (m_law_row a X G c).mono (by decide)
    rw [if_neg hx] at e; clear hx
    by_cases hx : x = Str.ofString "_law_fall"
    · rw [if_pos hx] at e; subst hx; cases e; exact (m_law_fall X G c).mono (by decide)
    rw [if_neg hx] at e; clear hx
    by_cases hx : x = Str.ofString "_law_like"
    · rw [if_pos hx] at e; subst hx; cases e; exact (m_law_like X G c).mono (by decide)
    rw [if_neg hx] at e; clear hx
    by_cases hx : x = Str.ofString "piles_behind"
    · rw [if_pos hx] at e; subst hx; cases e; exact (mpiles_behind X G c).mono (by decide)
    rw [if_neg hx] at e; clear hx
    by_cases hx : x = Str.ofString "deepest"
    · rw [if_pos hx] at e; subst hx; cases e; exact (mdeepest X G c).mono (by decide)
    rw [if_neg hx] at e; clear hx
    by_cases hx : x = Str.ofString "touched"
    · rw [if_pos hx] at e; subst hx; cases e; exact (mtouched X G c).mono (by decide)
    rw [if_neg hx] at e; clear hx
    by_cases hx : x = Str.ofString "cost"
    · rw [if_pos hx] at e; subst hx; cases e; exact (mcost X G c).mono (by decide)
    rw [if_neg hx] at e; clear hx
    by_cases hx : x = Str.ofString "_law_touched"
    · rw [if_pos hx] at e; subst hx; cases e; exact (m_law_touched X G c).mono (by decide)
    rw [if_neg hx] at e; clear hx
    by_cases hx : x = Str.ofString "pushed"
    · rw [if_pos hx] at e; subst hx; cases e; exact (mpushed X G c).mono (by decide)
    rw [if_neg hx] at e; clear hx
    cases e
  refine law_ok (rest := (defBody (top 61)).drop 1) (m := 60) (cls := noCls) F hS ⟨_, _, _, _, _, rfl⟩ (by kernel_rfl) (by kernel_rfl) (by kernel_rfl) B (He.glo_ok X G (c.fact 29 (f := .glo "_law_begun") rfl)) kb bb kLaw (fun ad => ⟨rfl, rfl, hg ad, fun _ _ _ xd g => moreSt_ok rfl xd g⟩) fun ad ns s hac hn h64 h0 => ?_
  have er := elaw (F_law_end) (Frun) (Fended) (F_law_sorts ad) (F_law_row ad) (F_law_fall) (F_law_like_v2) (Fpiles_behind) (Fdeepest) (Ftouched) (Fcost) (F_law_touched) (Fpushed)
  obtain ⟨b, s', e⟩ := lawRun ad hac hn (s := s) ⟨h64, by omega, by omega⟩
  refine ⟨b, s', ?_⟩
  show exs (klaw (F_law_end) (Frun) (Fended) (F_law_sorts ad) (F_law_row ad) (F_law_fall) (F_law_like_v2) (Fpiles_behind) (Fdeepest) (Ftouched) (Fcost) (F_law_touched) (Fpushed)) 60 ((defBody (top 61)).drop 1) _ s = _
  rw [er]
  exact e
end
end D03
open PySem PySem.W PySem.Calls PyProof.Rows
theorem PySem.Challenge.cw_pilerules_k03_whole_runs_holds : PySem.Challenge.rw_pilerules_k03_whole_runs.Holds := by
  w_on; o_law
  refine HandSHeadRun.head_any (r := OpenLaw.row PySem.Challenge.rw_pilerules_k03_whole_runs) (q := view (OpenLaw.row PySem.Challenge.rw_pilerules_k03_whole_runs).prog [61]) (H := H03.hk) (ob := H03.ob) (M := 6000) (loose := H03.names) (d := HandSHeadRun.topDef (OpenLaw.row PySem.Challenge.rw_pilerules_k03_whole_runs).prog 61) (kwd := []) H03.ob_eq
    (by kernel_rfl) (fun s => by kernel_rfl) H03.run (by kernel_rfl) (by kernel_rfl) (by kernel_rfl) (by rfl) (by first | assumption | decide +kernel) (by decide +kernel) ⟨rfl, rfl, rfl, rfl, rfl, by decide +kernel⟩ ?hw ?hc
  case hw => w_witness2
  case hc =>
    refine Q.walkG (l := PySem.Challenge.rw_pilerules_k03_whole_runs) (n := 63) (k := 10) (x := "_law_script") rfl (by decide) (by kernel_rfl) ⟨rfl, by decide, by decide⟩ ?F
    intro w mg fa h Y G hmg0
    obtain ⟨K, KX, c⟩ := Y
    have hmg : mg ("law" : PySem.Str) = some (.ref fa) := by
      have e : (HandSHeadRun.topDef (OpenLaw.row PySem.Challenge.rw_pilerules_k03_whole_runs).prog 61).name = ("law" : PySem.Str) := by kernel_rfl
      rw [← e]
      exact hmg0
    have e := hmg.symm.trans (He.glo_ok KX G (c.fact 43 (f := .glo "law") rfl))
    cases e
    obtain ⟨fd, hb, hF⟩ := D03.mLaw (P := (PySem.Challenge.rw_pilerules_k03_whole_runs).prog) (w := w) KX G c
    exact ⟨K, fd, Q.spLaw K, KX, hb, fun H a ns hl hS => ⟨a, ns, rfl, hS, hl, fun _ => rfl⟩, fun base _ _ => hF base⟩

