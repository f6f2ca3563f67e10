import PyProof.Rows.All
import Wide.All
import OpenK.AllK
import Wide.FinOn
import HandS.Base
import HandS.Call
import HandS.List
import HandS.Comp
import HandS.Ends
import HandS.Exc
import HandS.ExcOwn
import HandS.Words
import HandS.WordsList
import HandS.WordsExc
import HandS.CallSlots
import HandS.Wide
import HandS.TupAny
import HandS.TupMul
import HandS.Deep
import HandS.IsInst
import HandS.Text
import HandS.Style
import HandS.Iter
import HandS.ExcInit
import HandS.ExcField
import HandS.ExcIs
import HandS.Small
import HandS.TryMany
import KE.KExcIs
import HandS.OwnEq
import PyProof.InstNe
import HandS.HeadHook2
import KE.KStateDown
import HandS.Head0
import HandS.Head1
import HandS.Head2
import HandS.HeadEnd
import HandS.HeadHook1
import HandS.DictComp
import PyProof.P3In
import HandS.More
import PyProof.Draws
import PyProof.EnumMake
import KE.KOpsOwn
import Lean
import PySem.Challenge.RW_likespans_k01_whole_sums_of_ratios
import HandS.HeadWalk
set_option Elab.async false
set_option linter.all false
set_option maxRecDepth 100000
set_option maxHeartbeats 0
namespace Dl
open PySem L2

/-! ### data, without the heap -/
inductive D where
  | non | bl (b : Bool) | int (i : Int) | str (x : Str)
  | tup (xs : List D) | lst (xs : List D)
  /-- a list that is only read -/
  | rol (xs : List D)
  /-- an instance of the class of that number, its attributes in order -/
  | ins (c : Nat) (ds : List D)
  /-- a dict whose keys are ints and texts -/
  | dk (kvs : List (Key × D))
  deriving Inhabited

/-- the classes by their numbers: where they stand, their instances' attributes in order -/
abbrev CT : Type := Nat → Addr × List Str
mutual
inductive Rep (K : PySem.W.Frag) (G : CT) (F : Hp) : V → D → Prop
  | non : Rep K G F .non .non
  | bl (b : Bool) : Rep K G F (.bl b) (.bl b)
  | int (i : Int) : Rep K G F (.int i) (.int i)
  | str (x : Str) : Rep K G F (.str x) (.str x)
  | tup {a : Addr} {vs : List V} {ds : List D} : SqT K F a vs → Reps K G F vs ds → Rep K G F (.ref a) (.tup ds)
  | lst {a : Addr} {vs : List V} {ds : List D} : F a = some (.lst vs) → Reps K G F vs ds → Rep K G F (.ref a) (.lst ds)
  | rol {a : Addr} {vs : List V} {ds : List D} : SqL K F a vs → Reps K G F vs ds → Rep K G F (.ref a) (.rol ds)
  | ins {a dx : Addr} {c : Nat} {vs : List V} {ds : List D} : F a = some (.ins (G c).1 dx ((G c).2.zip vs)) → vs.length = (G c).2.length → Reps K G F vs ds → Rep K G F (.ref a) (.ins c ds)
  | dk {a : Addr} {kvs : List (Key × V)} {es : List (Key × D)} : F a = some (.dK kvs) → RepK K G F kvs es → Rep K G F (.ref a) (.dk es)
inductive Reps (K : PySem.W.Frag) (G : CT) (F : Hp) : List V → List D → Prop
  | nil : Reps K G F [] []
  | cons {v : V} {vs : List V} {d : D} {ds : List D} : Rep K G F v d → Reps K G F vs ds → Reps K G F (v :: vs) (d :: ds)
inductive RepK (K : PySem.W.Frag) (G : CT) (F : Hp) : List (Key × V) → List (Key × D) → Prop
  | nil : RepK K G F [] []
  | cons {k : Key} {v : V} {vs : List (Key × V)} {d : D} {ds : List (Key × D)} : Rep K G F v d → RepK K G F vs ds → RepK K G F ((k, v) :: vs) ((k, d) :: ds)
end

/-- one heap's facts within another's -/
def Le (F H : Hp) : Prop := ∀ a o, F a = some o → H a = some o
theorem Le.rfl {F : Hp} : Le F F := fun _ _ h => h
theorem Le.trans {F G H : Hp} (a : Le F G) (b : Le G H) : Le F H := fun x o h => b x o (a x o h)
theorem Le.upd {F : Hp} {p : Addr} {o : HO} (h : F p = none) : Le F (upd F p o) := fun a u e => by rw [upd_ne (ne_of_none e h)]; exact e
theorem Le.none {F H : Hp} (l : Le F H) {a : Addr} (h : H a = none) : F a = none := by
  cases q : F a with
  | none => exact _root_.rfl
  | some o => rw [l a o q] at h; cases h
theorem rd_le {F H : Hp} {a : Addr} {u : HO} (l : Le F H) (h : Rd F a u) : Rd H a u := h.elim (fun h => .inl (l _ _ h)) fun ⟨o, h⟩ => .inr ⟨o, l _ _ h⟩
theorem sqL_le {K : PySem.W.Frag} {F H : Hp} {a : Addr} {xs : List V} (l : Le F H) (h : SqL K F a xs) : SqL K H a xs := h.elim (fun h => .inl (rd_le l h)) .inr
theorem sqT_le {K : PySem.W.Frag} {F H : Hp} {a : Addr} {xs : List V} (l : Le F H) (h : SqT K F a xs) : SqT K H a xs := h.elim (fun h => .inl (rd_le l h)) .inr

section
variable {K : PySem.W.Frag} {G : CT} {F F' H : Hp}
mutual
theorem Rep.mono (l : Le F F') : ∀ {v : V} {d : D}, Rep K G F v d → Rep K G F' v d
  | _, _, .non => .non
  | _, _, .bl b => .bl b
  | _, _, .int i => .int i
  | _, _, .str x => .str x
  | _, _, .tup h r => .tup (sqT_le l h) (Reps.mono l r)
  | _, _, .lst h r => .lst (l _ _ h) (Reps.mono l r)
  | _, _, .rol h r => .rol (sqL_le l h) (Reps.mono l r)
  | _, _, .ins h e r => .ins (l _ _ h) e (Reps.mono l r)
  | _, _, .dk h r => .dk (l _ _ h) (RepK.mono l r)
theorem Reps.mono (l : Le F F') : ∀ {vs : List V} {ds : List D}, Reps K G F vs ds → Reps K G F' vs ds
  | _, _, .nil => .nil
  | _, _, .cons h r => .cons (Rep.mono l h) (Reps.mono l r)
theorem RepK.mono (l : Le F F') : ∀ {vs : List (Key × V)} {ds : List (Key × D)}, RepK K G F vs ds → RepK K G F' vs ds
  | _, _, .nil => .nil
  | _, _, .cons h r => .cons (Rep.mono l h) (RepK.mono l r)
end
theorem Reps.length : ∀ {vs : List V} {ds : List D}, Reps K G F vs ds → vs.length = ds.length
  | _, _, .nil => rfl
  | _, _, .cons _ r => congrArg (· + 1) r.length
theorem Reps.get : ∀ {vs : List V} {ds : List D} {i : Nat} {v : V}, Reps K G F vs ds → vs[i]? = some v → ∃ d, ds[i]? = some d ∧ Rep K G F v d
  | _, _, _, _, .nil, e => by simp at e
  | _, _, 0, _, .cons r _, e => by simp at e; subst e; exact ⟨_, rfl, r⟩
  | _, _, i + 1, v, .cons _ t, e => by
    obtain ⟨u, h1, h2⟩ := Reps.get (i := i) (v := v) t (by simpa using e)
    exact ⟨u, by simpa using h1, h2⟩
theorem Reps.get' : ∀ {vs : List V} {ds : List D} {i : Nat} {d : D}, Reps K G F vs ds → ds[i]? = some d → ∃ v, vs[i]? = some v ∧ Rep K G F v d
  | _, _, _, _, .nil, e => by simp at e
  | _, _, 0, _, .cons r _, e => by simp at e; subst e; exact ⟨_, rfl, r⟩
  | _, _, i + 1, v, .cons _ t, e => by
    obtain ⟨u, h1, h2⟩ := Reps.get' (i := i) (d := v) t (by simpa using e)
    exact ⟨u, by simpa using h1, h2⟩
theorem Reps.append : ∀ {vs ws : List V} {ds es : List D}, Reps K G F vs ds → Reps K G F ws es → Reps K G F (vs ++ ws) (ds ++ es)
  | _, _, _, _, .nil, s => s
  | _, _, _, _, .cons r t, s => .cons r (Reps.append t s)
theorem Reps.take : ∀ {vs : List V} {ds : List D} (n : Nat), Reps K G F vs ds → Reps K G F (vs.take n) (ds.take n)
  | _, _, 0, _ => .nil
  | _, _, _ + 1, .nil => .nil
  | _, _, n + 1, .cons r t => .cons r (Reps.take n t)
theorem Reps.drop : ∀ {vs : List V} {ds : List D} (n : Nat), Reps K G F vs ds → Reps K G F (vs.drop n) (ds.drop n)
  | _, _, 0, r => r
  | _, _, _ + 1, .nil => .nil
  | _, _, n + 1, .cons _ t => Reps.drop n t
theorem Reps.set {v : V} {d : D} (r : Rep K G F v d) : ∀ {vs : List V} {ds : List D} (i : Nat), Reps K G F vs ds → Reps K G F (vs.set i v) (ds.set i d)
  | _, _, _, .nil => .nil
  | _, _, 0, .cons _ t => .cons r t
  | _, _, i + 1, .cons q t => .cons q (Reps.set r i t)
theorem Reps.dropLast : ∀ {vs : List V} {ds : List D}, Reps K G F vs ds → Reps K G F vs.dropLast ds.dropLast := fun {vs ds} r => by
  rw [List.dropLast_eq_take, List.dropLast_eq_take, r.length]
  exact r.take _
end
end Dl
namespace Dl
open PySem L2

/-- the classes' places; the exception that a suite holds, its class, its dict -/
structure Gs where
  g : CT
  a : Addr
  cls : Value
  d : Option Addr
instance : Coe Gs CT := ⟨Gs.g⟩
/-- an exception: its class, what it keeps -/
structure Exn where
  c : Nat
  ds : List D
/-- what a slot holds -/
inductive SV where
  | none
  | imm (d : D)
  /-- a list of one's own, a list handed in that may be changed -/
  | own (xs : List D) | brw (xs : List D)
  /-- an instance that may be changed -/
  | obj (c : Nat) (ds : List D)
  /-- an exception that a suite holds -/
  | exc (x : Exn)
abbrev Env := List SV
/-- what an expression gives -/
inductive RV where
  | imm (d : D) | fresh (xs : List D) | al (i : Nat)
inductive AV where
  | imm (d : D) | al (i : Nat)
inductive Res (α : Type) where
  | ok (a : α) (env : Env) | err (x : Exn) (env : Env) | stuck
abbrev M (α : Type) := Env → Res α
inductive Out where
  | nx | ret (r : RV) | bk | ct

/-- the slot's object may change -/
def SV.mut : SV → Bool
  | .own _ => true
  | .brw _ => true
  | .obj _ _ => true
  | _ => false
/-- .. and is another's -/
def SV.lent : SV → Bool
  | .brw _ => true
  | .obj _ _ => true
  | _ => false
def Own (σ : L2.St) (env : Env) (a : Addr) : Prop := ∃ (i : Nat) (s : SV), env[i]? = some s ∧ s.mut = true ∧ σ[i]? = some (some (V.ref a))

def ExcOk (K : PySem.W.Frag) (G : CT) (F : Hp) (cls : Value) (d : Option Addr) (x : Exn) : Prop :=
  cls = .ref (G x.c).1 ∧ ((x.ds = [] ∧ d = none) ∨ ∃ dd vs, d = some dd ∧ F dd = some (.xd ((G x.c).2.zip vs)) ∧ vs.length = (G x.c).2.length ∧ Reps K G F vs x.ds)

theorem ExcOk.mono {K : PySem.W.Frag} {G : CT} {F F' : Hp} {cls : Value} {d : Option Addr} {x : Exn} (h : ExcOk K G F cls d x) (l : Le F F') : ExcOk K G F' cls d x :=
  ⟨h.1, h.2.imp (fun z => z) fun ⟨dd, vs, e, e2, e3, r⟩ => ⟨dd, vs, e, l _ _ e2, e3, r.mono l⟩⟩
def SvOk (K : PySem.W.Frag) (G : Gs) (F H : Hp) (o : Option V) : SV → Prop
  | .none => True
  | .imm d => ∃ v, o = some v ∧ Rep K G F v d
  | .own xs => ∃ p vs, o = some (.ref p) ∧ H p = some (.lst vs) ∧ F p = none ∧ Reps K G F vs xs
  | .brw xs => ∃ p vs, o = some (.ref p) ∧ H p = some (.lst vs) ∧ F p = none ∧ Reps K G F vs xs
  | .obj c ds => ∃ p dx vs, o = some (.ref p) ∧ H p = some (.ins (G.g c).1 dx ((G.g c).2.zip vs)) ∧ F p = none ∧ vs.length ≤ (G.g c).2.length ∧ Reps K G F vs ds
  | .exc x => o = some (.ref G.a) ∧ ExcOk K G F G.cls G.d x

structure Ok (K : PySem.W.Frag) (G : Gs) (F H : Hp) (σ : L2.St) (env : Env) : Prop where
  sub : Le F H
  len : σ.length = env.length
  slot : ∀ (i : Nat) (o : Option V) (s : SV), σ[i]? = some o → env[i]? = some s → SvOk K G F H o s
  inj : ∀ (i j : Nat) (s t : SV) (a : Addr), env[i]? = some s → s.mut = true → σ[i]? = some (some (.ref a)) → env[j]? = some t → t.mut = true → σ[j]? = some (some (.ref a)) → i = j

structure Fr (σ : L2.St) (env : Env) (F H : Hp) (σ' : L2.St) (env' : Env) (F' H' : Hp) : Prop where
  sub : Le F F'
  keep : ∀ a o, H a = some o → ¬ Own σ env a → H' a = some o
  low : ∀ a, H a ≠ none → ¬ Own σ env a → F a = none → F' a = none
  own : ∀ a, Own σ' env' a → Own σ env a ∨ H a = none
  there : ∀ a, H a ≠ none → H' a ≠ none
  lent : ∀ (i : Nat) (s : SV), env'[i]? = some s → s.lent = true → σ'[i]? = σ[i]? ∧ ∃ t : SV, env[i]? = some t ∧ t.lent = true

section
variable {K : PySem.W.Frag} {G : Gs} {F F' F1 F2 H H' H1 H2 : Hp} {σ σ' σ1 σ2 : L2.St} {env env' env1 env2 : Env}
theorem Fr.refl : Fr σ env F H σ env F H := ⟨Le.rfl, fun _ _ h _ => h, fun _ _ _ h => h, fun _ h => .inl h, fun _ h => h, fun _ s h m => ⟨rfl, s, h, m⟩⟩
theorem Fr.trans (a : Fr σ env F H σ1 env1 F1 H1) (b : Fr σ1 env1 F1 H1 σ2 env2 F2 H2) : Fr σ env F H σ2 env2 F2 H2 where
  sub := a.sub.trans b.sub
  keep := fun x o h n => by
    refine b.keep x o (a.keep x o h n) fun q => ?_
    rcases a.own x q with z | z
    · exact n z
    · rw [h] at z; cases z
  low := fun x h n f => by
    refine b.low x (a.there x h) (fun q => ?_) (a.low x h n f)
    rcases a.own x q with z | z
    · exact n z
    · exact h z
  own := fun x q => by
    rcases b.own x q with z | z
    · exact a.own x z
    · refine .inr ?_
      cases e : H x with
      | none => rfl
      | some o => exact absurd z (a.there x (by rw [e]; intro w; cases w))
  there := fun x h => b.there x (a.there x h)
  lent := fun i s h m => by
    obtain ⟨e1, t, ht, mt⟩ := b.lent i s h m
    obtain ⟨e2, u, hu, mu⟩ := a.lent i t ht mt
    exact ⟨e1.trans e2, u, hu, mu⟩
theorem Fr.new (f : Fr σ env F H σ' env' F' H') {a : Addr} (h : H' a = none) : H a = none := by
  cases e : H a with
  | none => rfl
  | some o => exact absurd h (f.there a (by rw [e]; intro w; cases w))
/-- an object that stands and is not owned stays -/
theorem Fr.stays (f : Fr σ env F H σ' env' F' H') {a : Addr} {o : HO} (h : H a = some o) (n : ¬ Own σ env a) : H' a = some o ∧ ¬ Own σ' env' a := ⟨f.keep a o h n, fun q => (f.own a q).elim n fun z => by rw [h] at z; cases z⟩
theorem Ok.notOwn (k : Ok K G F H σ env) {a : Addr} (h : H a = none) : ¬ Own σ env a := fun ⟨i, s, e, m, es⟩ => by
  have q := k.slot i _ s es e
  cases s with
  | own xs => obtain ⟨p, vs, e1, e2, _⟩ := q; cases e1; rw [h] at e2; cases e2
  | brw xs => obtain ⟨p, vs, e1, e2, _⟩ := q; cases e1; rw [h] at e2; cases e2
  | obj c fs => obtain ⟨p, dx, vs, e1, e2, _⟩ := q; cases e1; rw [h] at e2; cases e2
  | _ => cases m
theorem Ok.ownF (k : Ok K G F H σ env) {a : Addr} (h : Own σ env a) : F a = none := by
  obtain ⟨i, s, e, m, es⟩ := h
  have q := k.slot i _ s es e
  cases s with
  | own xs => obtain ⟨p, vs, e1, e2, e3, _⟩ := q; cases e1; exact e3
  | brw xs => obtain ⟨p, vs, e1, e2, e3, _⟩ := q; cases e1; exact e3
  | obj c fs => obtain ⟨p, dx, vs, e1, e2, e3, _⟩ := q; cases e1; exact e3
  | _ => cases m
theorem SvOk.mono {o : Option V} {s : SV} (h : SvOk K G F H o s) (l : Le F F') (hk : ∀ a u, o = some (.ref a) → s.mut = true → H a = some u → F a = none → H' a = some u ∧ F' a = none) : SvOk K G F' H' o s := by
  cases s with
  | none => trivial
  | imm d => obtain ⟨v, e, r⟩ := h; exact ⟨v, e, r.mono l⟩
  | own xs => obtain ⟨p, vs, e, e1, e2, r⟩ := h; obtain ⟨k1, k2⟩ := hk p _ e rfl e1 e2; exact ⟨p, vs, e, k1, k2, r.mono l⟩
  | brw xs => obtain ⟨p, vs, e, e1, e2, r⟩ := h; obtain ⟨k1, k2⟩ := hk p _ e rfl e1 e2; exact ⟨p, vs, e, k1, k2, r.mono l⟩
  | obj c fs => obtain ⟨p, dx, vs, e, e1, e2, e3, r⟩ := h; obtain ⟨k1, k2⟩ := hk p _ e rfl e1 e2; exact ⟨p, dx, vs, e, k1, k2, e3, r.mono l⟩
  | exc x => exact ⟨h.1, h.2.mono l⟩
/-- things are made, and told of -/
theorem Ok.grow (k : Ok K G F H σ env) (l : Le F F') (hl : Le H H') (hs : Le F' H') (low : ∀ a, H a ≠ none → F a = none → F' a = none) : Ok K G F' H' σ env :=
  ⟨hs, k.len, fun i o s e1 e2 => (k.slot i o s e1 e2).mono l fun a u _ _ h1 h2 => ⟨hl a u h1, low a (by rw [h1]; intro z; cases z) h2⟩, k.inj⟩
theorem Fr.grow (l : Le F F') (hl : Le H H') (low : ∀ a, H a ≠ none → F a = none → F' a = none) : Fr σ env F H σ env F' H' :=
  ⟨l, fun a o h _ => hl a o h, fun a h _ f => low a h f, fun _ h => .inl h, fun a h => by
    cases e : H a with
    | none => exact absurd e h
    | some o => exact (fun z => by rw [hl a o e] at z; cases z), fun _ s h m => ⟨rfl, s, h, m⟩⟩
/-- a new object, told of -/
theorem Ok.alloc (k : Ok K G F H σ env) {p : Addr} {o : HO} (h : H p = none) : Ok K G (upd F p o) (upd H p o) σ env :=
  k.grow (Le.upd (k.sub.none h)) (Le.upd h) (fun a u e => by
    by_cases z : a = p
    · subst z; rw [upd_same] at e ⊢; exact e
    · rw [upd_ne z] at e ⊢; exact k.sub a u e) fun a h1 h2 => by
    rw [upd_ne (fun z => h1 (by rw [z]; exact h))]; exact h2
theorem Fr.alloc (k : Ok K G F H σ env) {p : Addr} {o : HO} (h : H p = none) : Fr σ env F H σ env (upd F p o) (upd H p o) :=
  Fr.grow (Le.upd (k.sub.none h)) (Le.upd h) fun a h1 h2 => by rw [upd_ne (fun z => h1 (by rw [z]; exact h))]; exact h2
/-- a new object, kept apart -/
theorem Ok.apart (k : Ok K G F H σ env) {p : Addr} {o : HO} (h : H p = none) : Ok K G F (upd H p o) σ env :=
  k.grow Le.rfl (Le.upd h) (k.sub.trans (Le.upd h)) fun _ _ h2 => h2
theorem Fr.apart {p : Addr} {o : HO} (h : H p = none) : Fr σ env F H σ env F (upd H p o) := Fr.grow Le.rfl (Le.upd h) fun _ _ h2 => h2
/-- an object apart is told of from now on -/
theorem Ok.tell (k : Ok K G F H σ env) {p : Addr} {o : HO} (h : H p = some o) (n : ¬ Own σ env p) (f : F p = none) : Ok K G (upd F p o) H σ env := by
  refine ⟨fun a u e => ?_, k.len, fun i q s e1 e2 => (k.slot i q s e1 e2).mono (Le.upd f) fun a u eo m h1 h2 => ⟨h1, ?_⟩, k.inj⟩
  · by_cases z : a = p
    · subst z; rw [upd_same] at e; rw [h]; exact e
    · rw [upd_ne z] at e; exact k.sub a u e
  · rw [upd_ne fun z => n ⟨i, s, e2, m, by rw [e1, eo, z]⟩]; exact h2
end

/-! ### what is wanted -/
section
variable (K : PySem.W.Frag) (G : Gs) (W : WX)
def Want {α : Type} (σ : L2.St) (env : Env) (F H : Hp) (r : Res α) (k : α → Env → Hp → Hp → Prop) : Prop := match r with
  | .ok a env' => ∀ F' H', Ok K G F' H' σ env' → Fr σ env F H σ env' F' H' → k a env' F' H'
  | .err x env' => ∀ F' H' cls d, Ok K G F' H' σ env' → Fr σ env F H σ env' F' H' → ExcOk K G F' cls d x → W cls d σ H'
  | .stuck => False
/-- what a value is, by the heap; H0: the heap ahead -/
def RvOk (F H : Hp) (H0 : Hp) (σ : L2.St) (env : Env) (v : V) : RV → Prop
  | .imm d => Rep K G F v d
  | .fresh xs => ∃ p vs, v = .ref p ∧ H p = some (.lst vs) ∧ F p = none ∧ H0 p = none ∧ ¬ Own σ env p ∧ Reps K G F vs xs
  | .al i => σ[i]? = some (some v) ∧ ∃ s, env[i]? = some s
def SimE (te : TE) (f : M RV) : Prop := ∀ F H σ env Q, Ok K G F H σ env → Want K G W σ env F H (f env) (fun rv env' F' H' => ∀ v, RvOk K G F' H' H σ env' v rv → Q v H') → te σ H Q
def SimT (tt : TT) (f : M Bool) : Prop := ∀ F H σ env Q, Ok K G F H σ env → Want K G W σ env F H (f env) (fun b _ _ H' => Q b H') → tt σ H Q
def AvOk (F : Hp) (σ : L2.St) (v : V) : AV → Prop
  | .imm d => Rep K G F v d
  | .al i => σ[i]? = some (some v)
inductive AvsOk (F : Hp) (σ : L2.St) : List V → List AV → Prop
  | nil : AvsOk F σ [] []
  | cons {v : V} {vs : List V} {a : AV} {as : List AV} : AvOk K G F σ v a → AvsOk F σ vs as → AvsOk F σ (v :: vs) (a :: as)
def SimA (ta : TA) (f : M (List AV)) : Prop := ∀ F H σ env Q, Ok K G F H σ env → Want K G W σ env F H (f env) (fun as _ F' H' => ∀ vs, AvsOk K G F' σ vs as → Q vs H') → ta σ H Q
def WantS (σ : L2.St) (env : Env) (F H : Hp) (r : Res Out) (D : Ends) : Prop := match r with
  | .ok .nx env' => ∀ F' H' σ', Ok K G F' H' σ' env' → Fr σ env F H σ' env' F' H' → D.nx σ' H'
  | .ok .bk env' => ∀ F' H' σ', Ok K G F' H' σ' env' → Fr σ env F H σ' env' F' H' → D.bk σ' H'
  | .ok .ct env' => ∀ F' H' σ', Ok K G F' H' σ' env' → Fr σ env F H σ' env' F' H' → D.ct σ' H'
  | .ok (.ret rv) env' => ∀ F' H' σ' v, Ok K G F' H' σ' env' → Fr σ env F H σ' env' F' H' → RvOk K G F' H' H σ' env' v rv → D.rt v H'
  | .err x env' => ∀ F' H' σ' cls d, Ok K G F' H' σ' env' → Fr σ env F H σ' env' F' H' → ExcOk K G F' cls d x → W cls d σ' H'
  | .stuck => False
def SimS (t : TS) (f : M Out) : Prop := ∀ F H σ env D, Ok K G F H σ env → WantS K G W σ env F H (f env) D → t D σ H
end

def bindM {α β : Type} (m : M α) (k : α → M β) : M β := fun env => match m env with
  | .ok a env' => k a env'
  | .err x env' => .err x env'
  | .stuck => .stuck
def retM {α : Type} (a : α) : M α := fun env => .ok a env
def liftM {α : Type} (o : Option α) : M α := fun env => match o with
  | some a => .ok a env
  | none => .stuck

section
variable {K : PySem.W.Frag} {G : Gs} {W : WX} {F H : Hp} {σ : L2.St} {env : Env}
theorem want_bind {α β : Type} {m : M α} {k : α → M β} {post : β → Env → Hp → Hp → Prop} (h : Want K G W σ env F H (bindM m k env) post) :
    Want K G W σ env F H (m env) (fun a env1 F1 H1 => Ok K G F1 H1 σ env1 → Fr σ env F H σ env1 F1 H1 → Want K G W σ env1 F1 H1 (k a env1) post) := by
  unfold bindM at h
  cases e : m env with
  | ok a env1 =>
    rw [e] at h
    intro F1 H1 o1 f1 _ _
    have h' : Want K G W σ env F H (k a env1) post := h
    cases e2 : k a env1 with
    | ok b env2 =>
      rw [e2] at h'
      exact fun F2 H2 o2 f2 => h' F2 H2 o2 (f1.trans f2)
    | err x env2 =>
      rw [e2] at h'
      exact fun F2 H2 cls d o2 f2 => h' F2 H2 cls d o2 (f1.trans f2)
    | stuck => rw [e2] at h'; exact h'
  | err x env1 => rw [e] at h; exact h
  | stuck => rw [e] at h; exact h
theorem Want.imp {α : Type} {r : Res α} {p q : α → Env → Hp → Hp → Prop} (h : Want K G W σ env F H r p) (i : ∀ a env' F' H', Ok K G F' H' σ env' → Fr σ env F H σ env' F' H' → p a env' F' H' → q a env' F' H') : Want K G W σ env F H r q := by
  cases r with
  | ok a env' => exact fun F' H' o f => i _ _ _ _ o f (h F' H' o f)
  | err x env' => exact h
  | stuck => exact h
theorem want_ret {α : Type} {a : α} {p : α → Env → Hp → Hp → Prop} (o : Ok K G F H σ env) (h : Want K G W σ env F H (.ok a env) p) : p a env F H := h F H o Fr.refl
theorem want_lift {α : Type} {x : Option α} {p : α → Env → Hp → Hp → Prop} (o : Ok K G F H σ env) (h : Want K G W σ env F H (liftM x env) p) : ∃ a, x = some a ∧ p a env F H := by
  cases x with
  | none => exact h.elim
  | some a => exact ⟨a, rfl, h F H o Fr.refl⟩
end
end Dl
namespace Dl
open PySem L2

/-! ### what a value is, however it is held -/
def peek (env : Env) : RV → Option D
  | .imm d => some d
  | .fresh xs => some (.lst xs)
  | .al i => match env[i]? with
    | some (.imm d) => some d
    | some (.own xs) => some (.lst xs)
    | some (.brw xs) => some (.lst xs)
    | some (.obj _ _) => none
    | _ => none
inductive Pk (K : PySem.W.Frag) (G : CT) (F H : Hp) : V → D → Prop
  | rep {v : V} {d : D} : Rep K G F v d → Pk K G F H v d
  | lst {p : Addr} {vs : List V} {ds : List D} : H p = some (.lst vs) → Reps K G F vs ds → Pk K G F H (.ref p) (.lst ds)
/-- things are made -/
structure Gr (F H F' H' : Hp) : Prop where
  f : Le F F'
  h : Le H H'
  s : Le F' H'
  low : ∀ a, H a ≠ none → F a = none → F' a = none
theorem Gr.refl {F H : Hp} (s : Le F H) : Gr F H F H := ⟨Le.rfl, Le.rfl, s, fun _ _ h => h⟩
/-- a new object told of; one apart -/
theorem Gr.told {F H : Hp} {p : Addr} {o : HO} (s : Le F H) (h : H p = none) : Gr F H (upd F p o) (upd H p o) :=
  ⟨Le.upd (s.none h), Le.upd h, fun a u e => by
    by_cases z : a = p
    · subst z; rw [upd_same] at e ⊢; exact e
    · rw [upd_ne z] at e ⊢; exact s a u e, fun a h1 h2 => by rw [upd_ne (fun z => h1 (by rw [z]; exact h))]; exact h2⟩
theorem Gr.apart {F H : Hp} {p : Addr} {o : HO} (s : Le F H) (h : H p = none) : Gr F H F (upd H p o) := ⟨Le.rfl, Le.upd h, s.trans (Le.upd h), fun _ _ h2 => h2⟩
theorem Gr.trans {F H F1 H1 F2 H2 : Hp} (a : Gr F H F1 H1) (b : Gr F1 H1 F2 H2) : Gr F H F2 H2 := ⟨a.f.trans b.f, a.h.trans b.h, b.s, fun x h1 h2 => b.low x (by
    cases e : H x with
    | none => exact absurd e h1
    | some o => rw [a.h x o e]; intro z; cases z) (a.low x h1 h2)⟩
/-- what an operation gives -/
def RvD (K : PySem.W.Frag) (G : Gs) (F H H0 : Hp) (v : V) : RV → Prop
  | .imm d => Rep K G F v d
  | .fresh xs => ∃ p vs, v = .ref p ∧ H p = some (.lst vs) ∧ F p = none ∧ H0 p = none ∧ Reps K G F vs xs
  | .al _ => False

section
variable {K : PySem.W.Frag} {G : Gs} {F F' H H' H0 H1 F1 : Hp} {σ σ' : L2.St} {env env' : Env} {v : V}
theorem Ok.gr (k : Ok K G F H σ env) (g : Gr F H F' H') : Ok K G F' H' σ env := k.grow g.f g.h g.s g.low
theorem Fr.gr (g : Gr F H F' H') : Fr σ env F H σ env F' H' := Fr.grow g.f g.h g.low
theorem Pk.mono {d : D} (h : Pk K G F H v d) (l : Le F F') (lh : Le H H') : Pk K G F' H' v d := by
  cases h with
  | rep r => exact .rep (r.mono l)
  | lst h r => exact .lst (lh _ _ h) (r.mono l)
theorem RvOk.mono {rv : RV} (h : RvOk K G F1 H1 H0 σ env v rv) (k : Ok K G F1 H1 σ env) (k' : Ok K G F' H' σ env') (f : Fr σ env F1 H1 σ env' F' H') : RvOk K G F' H' H0 σ env' v rv := by
  cases rv with
  | imm d => exact Rep.mono f.sub h
  | fresh xs =>
    obtain ⟨p, vs, e, h1, h2, h3, h4, r⟩ := h
    obtain ⟨s1, s2⟩ := f.stays h1 h4
    exact ⟨p, vs, e, s1, f.low p (by rw [h1]; intro z; cases z) h4 h2, h3, s2, r.mono f.sub⟩
  | al i =>
    obtain ⟨e, s, hs⟩ := h
    refine ⟨e, ?_⟩
    have l : i < env'.length := by
      rw [← k'.len, k.len]
      exact (List.getElem?_eq_some_iff.mp hs).1
    exact ⟨_, List.getElem?_eq_getElem l⟩
theorem pk_of {rv : RV} {d : D} (k : Ok K G F H σ env) (h : RvOk K G F H H0 σ env v rv) (e : peek env rv = some d) : Pk K G F H v d := by
  cases rv with
  | imm x => cases e; exact .rep h
  | fresh xs =>
    cases e
    obtain ⟨p, vs, rfl, h1, _, _, _, r⟩ := h
    exact .lst h1 r
  | al i =>
    obtain ⟨hs, s, he⟩ := h
    have q := k.slot i _ s hs he
    simp only [peek, he] at e
    cases s with
    | imm x => cases e; obtain ⟨u, eu, r⟩ := q; cases eu; exact .rep r
    | own xs => cases e; obtain ⟨p, vs, eu, h1, _, r⟩ := q; cases eu; exact .lst h1 r
    | brw xs => cases e; obtain ⟨p, vs, eu, h1, _, r⟩ := q; cases eu; exact .lst h1 r
    | obj c fs => cases e
    | none => cases e
    | exc x => cases e
theorem RvD.ok {rv : RV} (k : Ok K G F H σ env) (g : Gr F H F' H') (h : RvD K G F' H' H v rv) (f0 : ∀ a, H a = none → H0 a = none) : RvOk K G F' H' H0 σ env v rv := by
  cases rv with
  | imm d => exact h
  | fresh xs =>
    obtain ⟨p, vs, e, h1, h2, h3, r⟩ := h
    exact ⟨p, vs, e, h1, h2, f0 p h3, k.notOwn h3, r⟩
  | al i => exact h.elim
theorem Pk.non_ {d : D} (h : Pk K G F H v d) (e : d = .non) : v = .non := by subst e; cases h with | rep r => cases r; rfl
theorem Pk.int_ {d : D} {i : Int} (h : Pk K G F H v d) (e : d = .int i) : v = .int i := by subst e; cases h with | rep r => cases r; rfl
theorem Pk.bl_ {d : D} {b : Bool} (h : Pk K G F H v d) (e : d = .bl b) : v = .bl b := by subst e; cases h with | rep r => cases r; rfl
theorem Pk.str_ {d : D} {x : Str} (h : Pk K G F H v d) (e : d = .str x) : v = .str x := by subst e; cases h with | rep r => cases r; rfl
theorem Pk.lst_ {d : D} {ds : List D} (h : Pk K G F H v d) (s : Le F H) (e : d = .lst ds) : ∃ p vs, v = .ref p ∧ H p = some (.lst vs) ∧ Reps K G F vs ds := by
  subst e
  cases h with
  | rep r => cases r with | lst h r => exact ⟨_, _, rfl, s _ _ h, r⟩
  | lst h r => exact ⟨_, _, rfl, h, r⟩
theorem Pk.rol_ {d : D} {ds : List D} (h : Pk K G F H v d) (s : Le F H) (e : d = .rol ds) : ∃ p vs, v = .ref p ∧ SqL K H p vs ∧ Reps K G F vs ds := by
  subst e
  cases h with
  | rep r => cases r with | rol h r => exact ⟨_, _, rfl, sqL_le s h, r⟩
theorem Pk.tup_ {d : D} {ds : List D} (h : Pk K G F H v d) (s : Le F H) (e : d = .tup ds) : ∃ p vs, v = .ref p ∧ SqT K H p vs ∧ Reps K G F vs ds := by
  subst e
  cases h with
  | rep r => cases r with | tup h r => exact ⟨_, _, rfl, sqT_le s h, r⟩
theorem Pk.ins_ {d : D} {c : Nat} {ds : List D} (h : Pk K G F H v d) (s : Le F H) (e : d = .ins c ds) : ∃ p dx vs, v = .ref p ∧ H p = some (.ins (G.g c).1 dx ((G.g c).2.zip vs)) ∧ vs.length = (G.g c).2.length ∧ Reps K G F vs ds := by
  subst e
  cases h with
  | rep r => cases r with | ins h e r => exact ⟨_, _, _, rfl, s _ _ h, e, r⟩
end

/-! ### operations on data -/
def OpOk (K : PySem.W.Frag) (G : Gs) (r : R2) (op : D → D → Option RV) : Prop := ∀ F H x y d e rv Q, Le F H → Pk K G F H x d → Pk K G F H y e → op d e = some rv →
  (∀ v F' H', Gr F H F' H' → RvD K G F' H' H v rv → Q v H') → r x y H Q
def UnOk (K : PySem.W.Frag) (G : Gs) (r : V → Hp → VK → Prop) (op : D → Option RV) : Prop := ∀ F H x d rv Q, Le F H → Pk K G F H x d → op d = some rv →
  (∀ v F' H', Gr F H F' H' → RvD K G F' H' H v rv → Q v H') → r x H Q
inductive Pks (K : PySem.W.Frag) (G : Gs) (F H : Hp) : List V → List D → Prop
  | nil : Pks K G F H [] []
  | cons {v : V} {vs : List V} {d : D} {ds : List D} : Pk K G F H v d → Pks K G F H vs ds → Pks K G F H (v :: vs) (d :: ds)
def CbOk (K : PySem.W.Frag) (G : Gs) (r : List V → Hp → VK → Prop) (op : List D → Option RV) : Prop := ∀ F H xs ds rv Q, Le F H → Pks K G F H xs ds → op ds = some rv →
  (∀ v F' H', Gr F H F' H' → RvD K G F' H' H v rv → Q v H') → r xs H Q
/-- a scalar comes, the heap stays -/
theorem here {F H : Hp} {K : PySem.W.Frag} {G : Gs} {rv : RV} {Q : VK} (q : ∀ v F' H', Gr F H F' H' → RvD K G F' H' H v rv → Q v H') (s : Le F H) {w : V} (r : RvD K G F H H w rv) : Q w H := q w F H (Gr.refl s) r

def op2M (op : D → D → Option RV) (a b : RV) : M RV := fun env => match peek env a, peek env b with
  | some x, some y => (match op x y with
    | some rv => .ok rv env
    | none => .stuck)
  | _, _ => .stuck
def op1M (op : D → Option RV) (a : RV) : M RV := fun env => match peek env a with
  | some x => (match op x with
    | some rv => .ok rv env
    | none => .stuck)
  | _ => .stuck
def peeks (env : Env) : List RV → Option (List D)
  | [] => some []
  | a :: as => match peek env a, peeks env as with
    | some x, some xs => some (x :: xs)
    | _, _ => none
def opnM (op : List D → Option RV) (as : List RV) : M RV := fun env => match peeks env as with
  | some xs => (match op xs with
    | some rv => .ok rv env
    | none => .stuck)
  | _ => .stuck
def eOp2 (op : D → D → Option RV) (fa fb : M RV) : M RV := bindM fa fun a => bindM fb fun b => op2M op a b
def eOp1 (op : D → Option RV) (fa : M RV) : M RV := bindM fa fun a => op1M op a
def pNil : M (List RV) := retM []
def pCons (fa : M RV) (fr : M (List RV)) : M (List RV) := bindM fa fun a => bindM fr fun r => retM (a :: r)
def eOpn (op : List D → Option RV) (fa : M (List RV)) : M RV := bindM fa fun a => opnM op a

section
variable (K : PySem.W.Frag) (G : Gs) (W : WX)
inductive RvsOk (F H H0 : Hp) (σ : L2.St) (env : Env) : List V → List RV → Prop
  | nil : RvsOk F H H0 σ env [] []
  | cons {v : V} {vs : List V} {a : RV} {as : List RV} : RvOk K G F H H0 σ env v a → RvsOk F H H0 σ env vs as → RvsOk F H H0 σ env (v :: vs) (a :: as)
def SimP (ta : TA) (f : M (List RV)) : Prop := ∀ F H σ env Q, Ok K G F H σ env → Want K G W σ env F H (f env) (fun as env' F' H' => ∀ vs, RvsOk K G F' H' H σ env' vs as → Q vs H') → ta σ H Q
end
section
variable {K : PySem.W.Frag} {G : Gs} {W : WX} {ta tb : TE} {fa fb : M RV}
theorem RvsOk.mono {F1 H1 F' H' H0 : Hp} {σ : L2.St} {env env' : Env} (k : Ok K G F1 H1 σ env) (k' : Ok K G F' H' σ env') (f : Fr σ env F1 H1 σ env' F' H') :
    ∀ {vs : List V} {as : List RV}, RvsOk K G F1 H1 H0 σ env vs as → RvsOk K G F' H' H0 σ env' vs as
  | _, _, .nil => .nil
  | _, _, .cons h r => .cons (h.mono k k' f) (RvsOk.mono k k' f r)
theorem RvOk.first {F H H1 H0 : Hp} {σ : L2.St} {env : Env} {v : V} {rv : RV} (h : RvOk K G F H H1 σ env v rv) (f0 : ∀ a, H1 a = none → H0 a = none) : RvOk K G F H H0 σ env v rv := by
  cases rv with
  | imm d => exact h
  | fresh xs =>
    obtain ⟨p, vs, e, h1, h2, h3, r⟩ := h
    exact ⟨p, vs, e, h1, h2, f0 p h3, r⟩
  | al i => exact h
theorem RvsOk.first {F H H1 H0 : Hp} {σ : L2.St} {env : Env} (f0 : ∀ a, H1 a = none → H0 a = none) : ∀ {vs : List V} {as : List RV}, RvsOk K G F H H1 σ env vs as → RvsOk K G F H H0 σ env vs as
  | _, _, .nil => .nil
  | _, _, .cons h r => .cons (h.first f0) (RvsOk.first f0 r)
theorem pks_of {F H H0 : Hp} {σ : L2.St} {env : Env} (k : Ok K G F H σ env) : ∀ {vs : List V} {as : List RV} {ds : List D}, RvsOk K G F H H0 σ env vs as → peeks env as = some ds → Pks K G F H vs ds
  | _, _, _, .nil, e => by cases e; exact .nil
  | _, _, ds, .cons (a := a) (as := as) h r, e => by
    unfold peeks at e
    cases e1 : peek env a with
    | none => rw [e1] at e; cases e
    | some x =>
      cases e2 : peeks env as with
      | none => rw [e1, e2] at e; cases e
      | some xs =>
        rw [e1, e2] at e
        cases e
        exact .cons (pk_of k h e1) (pks_of k r e2)
theorem sim_op2 {r : R2} {op : D → D → Option RV} (ho : OpOk K G r op) (ha : SimE K G W ta fa) (hb : SimE K G W tb fb) : SimE K G W (tOp r ta tb) (eOp2 op fa fb) := fun F H σ env Q ok w => by
  refine ha F H σ env _ ok ((want_bind w).imp fun a env1 F1 H1 o1 f1 k x rx => ?_)
  refine hb F1 H1 σ env1 _ o1 ((want_bind (k o1 f1)).imp fun b env2 F2 H2 o2 f2 k2 y ry => ?_)
  have w2 := k2 o2 f2
  unfold op2M at w2
  cases e1 : peek env2 a with
  | none => rw [e1] at w2; exact w2.elim
  | some d =>
    cases e2 : peek env2 b with
    | none => rw [e1, e2] at w2; exact w2.elim
    | some e =>
      rw [e1, e2] at w2
      cases e3 : op d e with
      | none => simp only [e3] at w2; exact w2.elim
      | some rv =>
        simp only [e3] at w2
        refine ho F2 H2 x y d e rv Q o2.sub (pk_of o2 (rx.mono o1 o2 f2) e1) (pk_of o2 ry e2) e3 fun v F' H' g q => ?_
        exact w2 F' H' (o2.gr g) (Fr.gr g) v (q.ok o2 g fun a h => (f1.trans f2).new h)
theorem sim_op1 {r : V → Hp → VK → Prop} {op : D → Option RV} (ho : UnOk K G r op) (ha : SimE K G W ta fa) : SimE K G W (tUn r ta) (eOp1 op fa) := fun F H σ env Q ok w => by
  refine ha F H σ env _ ok ((want_bind w).imp fun a env1 F1 H1 o1 f1 k x rx => ?_)
  have w2 := k o1 f1
  unfold op1M at w2
  cases e1 : peek env1 a with
  | none => rw [e1] at w2; exact w2.elim
  | some d =>
    rw [e1] at w2
    cases e3 : op d with
    | none => simp only [e3] at w2; exact w2.elim
    | some rv =>
      simp only [e3] at w2
      refine ho F1 H1 x d rv Q o1.sub (pk_of o1 rx e1) e3 fun v F' H' g q => ?_
      exact w2 F' H' (o1.gr g) (Fr.gr g) v (q.ok o1 g fun a h => f1.new h)
theorem sim_pnil : SimP K G W tNil pNil := fun F H σ env Q ok w => w F H ok Fr.refl [] .nil
theorem sim_pcons {t : TA} {fr : M (List RV)} (ha : SimE K G W ta fa) (hr : SimP K G W t fr) : SimP K G W (tCons ta t) (pCons fa fr) := fun F H σ env Q ok w => by
  refine ha F H σ env _ ok ((want_bind w).imp fun a env1 F1 H1 o1 f1 k x rx => ?_)
  refine hr F1 H1 σ env1 _ o1 ((want_bind (k o1 f1)).imp fun as env2 F2 H2 o2 f2 k2 vs rs => ?_)
  exact k2 o2 f2 F2 H2 o2 Fr.refl (x :: vs) (.cons (rx.mono o1 o2 f2) (rs.first fun a h => f1.new h))
theorem sim_opn {r : List V → Hp → VK → Prop} {op : List D → Option RV} {t : TA} {f : M (List RV)} (ho : CbOk K G r op) (ha : SimP K G W t f) : SimE K G W (tCB r t) (eOpn op f) := fun F H σ env Q ok w => by
  refine ha F H σ env _ ok ((want_bind w).imp fun as env1 F1 H1 o1 f1 k xs rx => ?_)
  have w2 := k o1 f1
  unfold opnM at w2
  cases e1 : peeks env1 as with
  | none => rw [e1] at w2; exact w2.elim
  | some ds =>
    rw [e1] at w2
    cases e3 : op ds with
    | none => simp only [e3] at w2; exact w2.elim
    | some rv =>
      simp only [e3] at w2
      refine ho F1 H1 xs ds rv Q o1.sub (pks_of o1 rx e1) e3 fun v F' H' g q => ?_
      exact w2 F' H' (o1.gr g) (Fr.gr g) v (q.ok o1 g fun a h => f1.new h)
end

/-! ### names, constants, tests -/
def eVar (i : Nat) : M RV := fun env => match env[i]? with
  | some (.imm d) => .ok (.imm d) env
  | some (.own _) => .ok (.al i) env
  | some (.brw _) => .ok (.al i) env
  | some (.obj _ _) => .ok (.al i) env
  | some (.exc _) => .ok (.al i) env
  | _ => .stuck
def eC (d : D) : M RV := retM (.imm d)
def eB (f : M RV) : M Bool := bindM f fun r => fun env => match r with
  | .imm (.bl b) => .ok b env
  | _ => .stuck
def eNot (f : M Bool) : M Bool := bindM f fun b => retM (!b)
def eAnd (f g : M Bool) : M Bool := bindM f fun b => if b = true then g else retM false
def eOr (f g : M Bool) : M Bool := bindM f fun b => if b = true then retM true else g
/-- a test as a value -/
def eV (f : M Bool) : M RV := bindM f fun b => retM (.imm (.bl b))
def eIf (t : M Bool) (f g : M RV) : M RV := bindM t fun b => if b = true then f else g
section
variable {K : PySem.W.Frag} {G : Gs} {W : WX} {ta tb : TE} {fa fb : M RV} {t u : TT} {f g : M Bool}
theorem sim_var (i : Nat) : SimE K G W (tVar i) (eVar i) := fun F H σ env Q ok w => by
  unfold eVar at w
  cases e : env[i]? with
  | none => rw [e] at w; exact w.elim
  | some s =>
    rw [e] at w
    have l : i < σ.length := by rw [ok.len]; exact (List.getElem?_eq_some_iff.mp e).1
    have es : σ[i]? = some σ[i] := List.getElem?_eq_getElem l
    have q := ok.slot i _ s es e
    cases s with
    | none => exact w.elim
    | imm d => obtain ⟨v, ev, r⟩ := q; exact ⟨v, by rw [es, ev], w F H ok Fr.refl v r⟩
    | own xs => obtain ⟨p, vs, ev, _⟩ := q; exact ⟨.ref p, by rw [es, ev], w F H ok Fr.refl _ ⟨by rw [es, ev], _, e⟩⟩
    | brw xs => obtain ⟨p, vs, ev, _⟩ := q; exact ⟨.ref p, by rw [es, ev], w F H ok Fr.refl _ ⟨by rw [es, ev], _, e⟩⟩
    | obj c fs => obtain ⟨p, dx, vs, ev, _⟩ := q; exact ⟨.ref p, by rw [es, ev], w F H ok Fr.refl _ ⟨by rw [es, ev], _, e⟩⟩
    | exc x => obtain ⟨ev, _⟩ := q; exact ⟨.ref G.a, by rw [es, ev], w F H ok Fr.refl _ ⟨by rw [es, ev], _, e⟩⟩
theorem sim_c {v : V} {d : D} (h : ∀ F : Hp, Rep K G F v d) : SimE K G W (tC v) (eC d) := fun F H σ env Q ok w => w F H ok Fr.refl v (h F)
theorem sim_int (i : Int) : SimE K G W (tC (.int i)) (eC (.int i)) := sim_c fun _ => .int i
theorem sim_bl (b : Bool) : SimE K G W (tC (.bl b)) (eC (.bl b)) := sim_c fun _ => .bl b
theorem sim_non : SimE K G W (tC .non) (eC .non) := sim_c fun _ => .non
theorem sim_str (x : Str) : SimE K G W (tC (.str x)) (eC (.str x)) := sim_c fun _ => .str x
theorem sim_b (ha : SimE K G W ta fa) : SimT K G W (fun σ H Q => ta σ H fun x H' => ∃ k, x = .bl k ∧ Q k H') (eB fa) := fun F H σ env Q ok w => by
  refine ha F H σ env _ ok ((want_bind w).imp fun a env1 F1 H1 o1 f1 k x rx => ?_)
  have w2 := k o1 f1
  cases a with
  | imm d =>
    cases d with
    | bl b => cases (show Rep K G.g F1 x (.bl b) from rx); exact ⟨b, rfl, w2 F1 H1 o1 Fr.refl⟩
    | _ => exact w2.elim
  | _ => exact w2.elim
theorem sim_test (ha : SimE K G W ta fa) : SimT K G W (tTest ta) (eB fa) := sim_b ha
theorem sim_tB (ha : SimE K G W ta fa) : SimT K G W (tB ta) (eB fa) := sim_b ha
theorem sim_not (h : SimT K G W t f) : SimT K G W (tNot t) (eNot f) := fun F H σ env Q ok w =>
  h F H σ env _ ok ((want_bind w).imp fun b env1 F1 H1 o1 f1 k => k o1 f1 F1 H1 o1 Fr.refl)
theorem sim_and (h : SimT K G W t f) (h2 : SimT K G W u g) : SimT K G W (tAnd t u) (eAnd f g) := fun F H σ env Q ok w => by
  refine h F H σ env _ ok ((want_bind w).imp fun b env1 F1 H1 o1 f1 k => ?_)
  have w2 := k o1 f1
  cases b with
  | true => exact h2 F1 H1 σ env1 Q o1 w2
  | false => exact w2 F1 H1 o1 Fr.refl
theorem sim_or (h : SimT K G W t f) (h2 : SimT K G W u g) : SimT K G W (tOr t u) (eOr f g) := fun F H σ env Q ok w => by
  refine h F H σ env _ ok ((want_bind w).imp fun b env1 F1 H1 o1 f1 k => ?_)
  have w2 := k o1 f1
  cases b with
  | false => exact h2 F1 H1 σ env1 Q o1 w2
  | true => exact w2 F1 H1 o1 Fr.refl
theorem sim_andV (h : SimE K G W ta fa) (h2 : SimE K G W tb fb) : SimE K G W (tAndV ta tb) (bindM (eB fa) fun b => if b = true then fb else eC (.bl false)) := fun F H σ env Q ok w => by
  have := sim_b h F H σ env (fun c H1 => if c = true then tb σ H1 Q else Q (.bl false) H1) ok ((want_bind w).imp fun b env1 F1 H1 o1 f1 k => ?_)
  · exact this
  · have w2 := k o1 f1
    cases b with
    | true => exact h2 F1 H1 σ env1 Q o1 (w2.imp fun rv env' F' H' _ _ q v r => q v (r.first fun a z => f1.new z))
    | false => exact w2 F1 H1 o1 Fr.refl _ (.bl false)
theorem sim_orV (h : SimE K G W ta fa) (h2 : SimE K G W tb fb) : SimE K G W (tOrV ta tb) (bindM (eB fa) fun b => if b = true then eC (.bl true) else fb) := fun F H σ env Q ok w => by
  have := sim_b h F H σ env (fun c H1 => if c = true then Q (.bl true) H1 else tb σ H1 Q) ok ((want_bind w).imp fun b env1 F1 H1 o1 f1 k => ?_)
  · exact this
  · have w2 := k o1 f1
    cases b with
    | false => exact h2 F1 H1 σ env1 Q o1 (w2.imp fun rv env' F' H' _ _ q v r => q v (r.first fun a z => f1.new z))
    | true => exact w2 F1 H1 o1 Fr.refl _ (.bl true)
theorem sim_notV (h : SimE K G W ta fa) : SimE K G W (tNotV ta) (eV (eNot (eB fa))) := fun F H σ env Q ok w => by
  have := sim_b h F H σ env (fun c H1 => Q (.bl (!c)) H1) ok ((want_bind (want_bind w |>.imp fun b env1 F1 H1 o1 f1 k => k o1 f1) |>.imp fun b env1 F1 H1 o1 f1 k => ?_))
  · exact this
  · exact k o1 f1 F1 H1 o1 Fr.refl F1 H1 o1 Fr.refl _ (.bl _)
theorem sim_ifE (h : SimT K G W t f) (ha : SimE K G W ta fa) (hb : SimE K G W tb fb) : SimE K G W (tIf t ta tb) (eIf f fa fb) := fun F H σ env Q ok w => by
  refine h F H σ env _ ok ((want_bind w).imp fun b env1 F1 H1 o1 f1 k => ?_)
  have w2 := k o1 f1
  cases b with
  | true => exact ha F1 H1 σ env1 Q o1 (w2.imp fun rv env' F' H' _ _ q v r => q v (r.first fun a z => f1.new z))
  | false => exact hb F1 H1 σ env1 Q o1 (w2.imp fun rv env' F' H' _ _ q v r => q v (r.first fun a z => f1.new z))
end
end Dl
namespace Dl
open PySem L2

/-! ### slots written -/
section
variable {K : PySem.W.Frag} {G : Gs} {W : WX} {F H H0 F0 : Hp} {σ : L2.St} {env : Env}
theorem own_set {i : Nat} {o : Option V} {s : SV} {a : Addr} (h : Own (σ.set i o) (env.set i s) a) : Own σ env a ∨ (s.mut = true ∧ o = some (.ref a)) := by
  obtain ⟨j, t, h1, m, h2⟩ := h
  by_cases z : i = j
  · subst z
    rw [List.getElem?_set] at h1 h2
    split at h1
    · split at h1
      · cases h1
        split at h2
        · split at h2
          · exact .inr ⟨m, Option.some.inj h2⟩
          · cases h2
        · contradiction
      · cases h1
    · contradiction
  · rw [List.getElem?_set_ne z] at h1 h2
    exact .inl ⟨j, t, h1, m, h2⟩
theorem Ok.put (k : Ok K G F H σ env) {i : Nat} {o : Option V} {s : SV} (h : SvOk K G F H o s) (n : s.mut = true → ∀ a, o = some (.ref a) → ¬ Own σ env a) : Ok K G F H (σ.set i o) (env.set i s) := by
  have at_ : ∀ {j : Nat} {t : SV}, (env.set i s)[j]? = some t → (j = i ∧ t = s) ∨ (j ≠ i ∧ env[j]? = some t) := fun {j t} e => by
    by_cases z : i = j
    · subst z
      rw [List.getElem?_set] at e
      split at e
      · split at e
        · cases e; exact .inl ⟨rfl, rfl⟩
        · cases e
      · contradiction
    · rw [List.getElem?_set_ne z] at e; exact .inr ⟨fun q => z q.symm, e⟩
  have as : ∀ {j : Nat} {t : Option V}, (σ.set i o)[j]? = some t → (j = i ∧ t = o) ∨ (j ≠ i ∧ σ[j]? = some t) := fun {j t} e => by
    by_cases z : i = j
    · subst z
      rw [List.getElem?_set] at e
      split at e
      · split at e
        · cases e; exact .inl ⟨rfl, rfl⟩
        · cases e
      · contradiction
    · rw [List.getElem?_set_ne z] at e; exact .inr ⟨fun q => z q.symm, e⟩
  refine ⟨k.sub, by rw [List.length_set, List.length_set]; exact k.len, fun j q t h1 h2 => ?_, fun j l s1 s2 a h1 m1 h2 h3 m2 h4 => ?_⟩
  · rcases at_ h2 with ⟨rfl, rfl⟩ | ⟨z, h2⟩
    · rcases as h1 with ⟨_, rfl⟩ | ⟨z, _⟩
      · exact h
      · exact absurd rfl z
    · rcases as h1 with ⟨z', _⟩ | ⟨_, h1⟩
      · exact absurd z' z
      · exact k.slot j q t h1 h2
  · rcases at_ h1 with ⟨e1, e1'⟩ | ⟨z, g1⟩
    · rcases at_ h3 with ⟨e, _⟩ | ⟨z3, g3⟩
      · exact e1.trans e.symm
      · rcases as h2 with ⟨_, e⟩ | ⟨q, _⟩
        · rcases as h4 with ⟨q, _⟩ | ⟨_, g4⟩
          · exact absurd q z3
          · exact absurd ⟨l, s2, g3, m2, g4⟩ (n (by rw [← e1']; exact m1) a e.symm)
        · exact absurd e1 q
    · rcases as h2 with ⟨q, _⟩ | ⟨_, g2⟩
      · exact absurd q z
      · rcases at_ h3 with ⟨e3, e3'⟩ | ⟨z3, g3⟩
        · rcases as h4 with ⟨_, e⟩ | ⟨q, _⟩
          · exact absurd ⟨j, s1, g1, m1, g2⟩ (n (by rw [← e3']; exact m2) a e.symm)
          · exact absurd e3 q
        · rcases as h4 with ⟨q, _⟩ | ⟨_, g4⟩
          · exact absurd q z3
          · exact k.inj j l s1 s2 a g1 m1 g2 g3 m2 g4
theorem lent_set {σ0 : L2.St} {env0 : Env} {i : Nat} {o : Option V} {s : SV} (nl : s.lent = false) (f : ∀ (j : Nat) (t : SV), env[j]? = some t → t.lent = true → σ[j]? = σ0[j]? ∧ ∃ u : SV, env0[j]? = some u ∧ u.lent = true) :
    ∀ (j : Nat) (t : SV), (env.set i s)[j]? = some t → t.lent = true → (σ.set i o)[j]? = σ0[j]? ∧ ∃ u : SV, env0[j]? = some u ∧ u.lent = true := fun j t h m => by
  by_cases z : i = j
  · subst z
    rw [List.getElem?_set] at h
    split at h
    · split at h
      · cases h; rw [nl] at m; cases m
      · cases h
    · contradiction
  · rw [List.getElem?_set_ne z] at h ⊢
    exact f j t h m
theorem Fr.put {i : Nat} {o : Option V} {s : SV} (nl : s.lent = false) (n : s.mut = true → ∀ a, o = some (.ref a) → Own σ env a ∨ H a = none) : Fr σ env F H (σ.set i o) (env.set i s) F H :=
  ⟨Le.rfl, fun _ _ h _ => h, fun _ _ _ h => h, fun a h => (own_set h).elim .inl fun ⟨m, e⟩ => n m a e, fun _ h => h, lent_set nl fun j t h m => ⟨rfl, t, h, m⟩⟩
theorem Fr.puts {F1 H1 : Hp} {env1 : Env} (f : Fr σ env F H σ env1 F1 H1) {i : Nat} {o : Option V} {s : SV} (nl : s.lent = false) (n : s.mut = true → ∀ a, o = some (.ref a) → H a = none) : Fr σ env F H (σ.set i o) (env1.set i s) F1 H1 :=
  ⟨f.sub, f.keep, f.low, fun a h => (own_set h).elim (f.own a) fun ⟨m, e⟩ => .inr (n m a e), f.there, lent_set nl f.lent⟩
/-- the object of slot i is changed -/
theorem Ok.change (k : Ok K G F H σ env) {i : Nat} {p : Addr} {s s' : SV} {o : HO} (hs : σ[i]? = some (some (.ref p))) (he : env[i]? = some s) (hm : s.mut = true) (hm' : s'.mut = true)
    (h : SvOk K G F (upd H p o) (some (.ref p)) s') : Ok K G F (upd H p o) σ (env.set i s') := by
  have np : F p = none := k.ownF ⟨i, s, he, hm, hs⟩
  refine ⟨fun a u e => ?_, by rw [List.length_set]; exact k.len, fun j q t h1 h2 => ?_, fun j l s1 s2 a h1 m1 h2 h3 m2 h4 => ?_⟩
  · rw [upd_ne (ne_of_none e np)]; exact k.sub a u e
  · by_cases z : i = j
    · subst z
      rw [List.getElem?_set_self (by exact (List.getElem?_eq_some_iff.mp he).1)] at h2
      cases h2
      rw [hs] at h1; cases h1
      exact h
    · rw [List.getElem?_set_ne z] at h2
      refine (k.slot j q t h1 h2).mono Le.rfl fun a u e m h3 h4 => ⟨?_, h4⟩
      rw [upd_ne fun w => z (k.inj i j s t p he hm hs h2 m (by rw [h1, e, w]))]
      exact h3
  · have tr : ∀ {j : Nat} {t : SV}, (env.set i s')[j]? = some t → ∃ t', env[j]? = some t' ∧ (t.mut = true → t'.mut = true) := fun {j t} e => by
      by_cases z : i = j
      · subst z; exact ⟨s, he, fun _ => hm⟩
      · rw [List.getElem?_set_ne z] at e; exact ⟨t, e, fun m => m⟩
    obtain ⟨t1, g1, n1⟩ := tr h1
    obtain ⟨t2, g2, n2⟩ := tr h3
    exact k.inj j l t1 t2 a g1 (n1 m1) h2 g2 (n2 m2) h4
theorem Fr.change (k : Ok K G F H σ env) {i : Nat} {p : Addr} {s s' : SV} {o : HO} (hs : σ[i]? = some (some (.ref p))) (he : env[i]? = some s) (hm : s.mut = true) (hl : s.lent = s'.lent) : Fr σ env F H σ (env.set i s') F (upd H p o) := by
  have hown : Own σ env p := ⟨i, s, he, hm, hs⟩
  refine ⟨Le.rfl, fun a u h n => by rw [upd_ne fun z => n (by rw [z]; exact hown)]; exact h, fun _ _ _ h => h, fun a ⟨j, t, h1, m, h2⟩ => ?_, fun a h => ?_, fun j t h m => ⟨rfl, ?_⟩⟩
  · by_cases z : i = j
    · subst z; rw [hs] at h2; cases h2; exact .inl hown
    · rw [List.getElem?_set_ne z] at h1; exact .inl ⟨j, t, h1, m, h2⟩
  · by_cases z : a = p
    · rw [z, upd_same]; intro w; cases w
    · rw [upd_ne z]; exact h
  · by_cases z : i = j
    · subst z
      rw [List.getElem?_set_self (by exact (List.getElem?_eq_some_iff.mp he).1)] at h
      cases h
      exact ⟨s, he, by rw [hl]; exact m⟩
    · rw [List.getElem?_set_ne z] at h; exact ⟨t, h, m⟩
/-- the list of slot i is given up: told of from now on -/
theorem Ok.freeze (k : Ok K G F H σ env) {i : Nat} {p : Addr} {vs : List V} {xs : List D} (hs : σ[i]? = some (some (.ref p))) (he : env[i]? = some (.own xs)) (hp : H p = some (.lst vs)) (hf : F p = none) (r : Reps K G F vs xs) :
    Ok K G (upd F p (.lst vs)) H σ (env.set i (.imm (.lst xs))) ∧ Fr σ env F H σ (env.set i (.imm (.lst xs))) (upd F p (.lst vs)) H ∧ Rep K G (upd F p (.lst vs)) (.ref p) (.lst xs) := by
  have l : Le F (upd F p (.lst vs)) := Le.upd hf
  have rr : Rep K G (upd F p (.lst vs)) (.ref p) (.lst xs) := .lst upd_same (r.mono l)
  have hown : Own σ env p := ⟨i, _, he, rfl, hs⟩
  refine ⟨⟨fun a u e => ?_, by rw [List.length_set]; exact k.len, fun j q t h1 h2 => ?_, fun j j2 s1 s2 a h1 m1 h2 h3 m2 h4 => ?_⟩, ⟨l, fun _ _ h _ => h, fun a h n f => ?_, fun a ⟨j, t, h1, m, h2⟩ => ?_, fun _ h => h, fun j t h m => ⟨rfl, ?_⟩⟩, rr⟩
  · by_cases z : a = p
    · subst z; rw [upd_same] at e; rw [hp]; exact e
    · rw [upd_ne z] at e; exact k.sub a u e
  · by_cases z : i = j
    · subst z
      rw [List.getElem?_set_self (by exact (List.getElem?_eq_some_iff.mp he).1)] at h2
      cases h2
      rw [hs] at h1; cases h1
      exact ⟨_, rfl, rr⟩
    · rw [List.getElem?_set_ne z] at h2
      refine (k.slot j q t h1 h2).mono l fun a u e m h3 h4 => ⟨h3, ?_⟩
      rw [upd_ne fun w => z (k.inj i j _ t p he rfl hs h2 m (by rw [h1, e, w]))]
      exact h4
  · have tr : ∀ {j : Nat} {t : SV}, (env.set i (.imm (.lst xs)))[j]? = some t → t.mut = true → env[j]? = some t := fun {j t} e m => by
      by_cases z : i = j
      · subst z
        rw [List.getElem?_set_self (by exact (List.getElem?_eq_some_iff.mp he).1)] at e
        cases e; cases m
      · rw [List.getElem?_set_ne z] at e; exact e
    exact k.inj j j2 s1 s2 a (tr h1 m1) m1 h2 (tr h3 m2) m2 h4
  · rw [upd_ne fun z => n (by rw [z]; exact hown)]; exact f
  · by_cases z : i = j
    · subst z; rw [hs] at h2; cases h2; exact .inl hown
    · rw [List.getElem?_set_ne z] at h1; exact .inl ⟨j, t, h1, m, h2⟩
  · by_cases z : i = j
    · subst z
      rw [List.getElem?_set_self (by exact (List.getElem?_eq_some_iff.mp he).1)] at h
      cases h; cases m
    · rw [List.getElem?_set_ne z] at h; exact ⟨t, h, m⟩
end

/-! ### a value given up -/
def settle : RV → M D
  | .imm d => retM d
  | .fresh xs => retM (.lst xs)
  | .al i => fun env => match env[i]? with
    | some (.imm d) => .ok d env
    | some (.own xs) => .ok (.lst xs) (env.set i (.imm (.lst xs)))
    | _ => .stuck
section
variable {K : PySem.W.Frag} {G : Gs} {W : WX}
theorem Fr.tell {F H : Hp} {σ : L2.St} {env : Env} {p : Addr} {o : HO} (f0 : F p = none) {H0 F0 : Hp} {σ0 : L2.St} {env0 : Env} (fr : Fr σ0 env0 F0 H0 σ env F H) (h0 : H0 p = none) : Fr σ0 env0 F0 H0 σ env (upd F p o) H :=
  ⟨fr.sub.trans (Le.upd f0), fr.keep, fun a h n f => by rw [upd_ne fun z => h (by rw [z]; exact h0)]; exact fr.low a h n f, fr.own, fr.there, fr.lent⟩
/-- from where the value was reckoned (F0, H0) through (F, H) -/
theorem want_settle {F0 H0 F H : Hp} {σ : L2.St} {env0 env : Env} {v : V} {rv : RV} {post : D → Env → Hp → Hp → Prop} (ok : Ok K G F H σ env) (fr : Fr σ env0 F0 H0 σ env F H) (h : RvOk K G F H H0 σ env v rv)
    (w : Want K G W σ env0 F0 H0 (settle rv env) post) : ∃ d env' F', Ok K G F' H σ env' ∧ Fr σ env0 F0 H0 σ env' F' H ∧ Rep K G F' v d ∧ post d env' F' H := by
  cases rv with
  | imm d => exact ⟨d, env, F, ok, fr, h, w F H ok fr⟩
  | fresh xs =>
    obtain ⟨p, vs, rfl, h1, h2, h3, h4, r⟩ := h
    have o2 := ok.tell h1 h4 h2
    have f2 := Fr.tell (o := .lst vs) h2 fr h3
    exact ⟨_, env, _, o2, f2, .lst upd_same (r.mono (Le.upd h2)), w _ _ o2 f2⟩
  | al i =>
    obtain ⟨hs, s, he⟩ := h
    have q := ok.slot i _ s hs he
    simp only [settle, he] at w
    cases s with
    | imm d =>
      obtain ⟨u, eu, r⟩ := q
      cases eu
      exact ⟨d, env, F, ok, fr, r, w F H ok fr⟩
    | own xs =>
      obtain ⟨p, vs, eu, h1, h2, r⟩ := q
      cases eu
      obtain ⟨o2, f2, r2⟩ := ok.freeze hs he h1 h2 r
      exact ⟨_, _, _, o2, fr.trans f2, r2, w _ _ o2 (fr.trans f2)⟩
    | none => exact w.elim
    | brw xs => exact w.elim
    | obj c fs => exact w.elim
    | exc x => exact w.elim
end

/-! ### statements -/
def sNx : M Out := retM .nx
def sBk : M Out := retM .bk
def sCt : M Out := retM .ct
def sSeq (f g : M Out) : M Out := fun env => match f env with
  | .ok .nx env' => g env'
  | r => r
def sIf (t : M Bool) (f g : M Out) : M Out := bindM t fun b => if b = true then f else g
def sRet (f : M RV) : M Out := bindM f fun r => retM (.ret r)
def sRetN : M Out := retM (.ret (.imm .non))
def sDrop (f : M RV) : M Out := bindM f fun _ => retM .nx
def putM (i : Nat) (s : SV) : M Out := fun env => .ok .nx (env.set i s)
def sAsg (i : Nat) (f : M RV) : M Out := bindM f fun r => match r with
  | .fresh xs => putM i (.own xs)
  | r => bindM (settle r) fun d => putM i (.imm d)

section
variable {K : PySem.W.Frag} {G : Gs} {W : WX} {F H F1 H1 : Hp} {σ σ1 : L2.St} {env env1 : Env} {D : Ends} {t u : TS} {f g : M Out} {te : TE} {fe : M RV} {tt : TT} {ft : M Bool}
theorem WantS.from {r : Res Out} (w : WantS K G W σ env F H r D) (fr : Fr σ env F H σ1 env1 F1 H1) : WantS K G W σ1 env1 F1 H1 r D := by
  cases r with
  | ok o env' =>
    cases o with
    | nx => exact fun F' H' σ' o f => w F' H' σ' o (fr.trans f)
    | bk => exact fun F' H' σ' o f => w F' H' σ' o (fr.trans f)
    | ct => exact fun F' H' σ' o f => w F' H' σ' o (fr.trans f)
    | ret rv => exact fun F' H' σ' v o f r => w F' H' σ' v o (fr.trans f) (r.first fun a h => fr.new h)
  | err x env' => exact fun F' H' σ' cls d o f => w F' H' σ' cls d o (fr.trans f)
  | stuck => exact w
/-- an expression's part of a statement -/
theorem wantS_bind {α : Type} {m : M α} {k : α → M Out} (w : WantS K G W σ env F H (bindM m k env) D) :
    Want K G W σ env F H (m env) (fun a env1 F1 H1 => Ok K G F1 H1 σ env1 → Fr σ env F H σ env1 F1 H1 → WantS K G W σ env1 F1 H1 (k a env1) D ∧ WantS K G W σ env F H (k a env1) D) := by
  unfold bindM at w
  cases e : m env with
  | ok a env1 =>
    rw [e] at w
    exact fun F1 H1 o1 f1 _ _ => ⟨WantS.from w f1, w⟩
  | err x env1 => rw [e] at w; exact fun F' H' cls d o f => w F' H' σ cls d o f
  | stuck => rw [e] at w; exact w
theorem sim_next : SimS K G W tNext sNx := fun F H σ env D ok w => w F H σ ok Fr.refl
theorem sim_break : SimS K G W tBreak sBk := fun F H σ env D ok w => w F H σ ok Fr.refl
theorem sim_cont : SimS K G W tCont sCt := fun F H σ env D ok w => w F H σ ok Fr.refl
theorem sim_seq (h1 : SimS K G W t f) (h2 : SimS K G W u g) : SimS K G W (tSeq t u) (sSeq f g) := fun F H σ env D ok w => by
  refine h1 F H σ env { D with nx := u D } ok ?_
  unfold sSeq at w
  cases e : f env with
  | ok o env1 =>
    rw [e] at w
    cases o with
    | nx => exact fun F1 H1 σ1 o1 f1 => h2 F1 H1 σ1 env1 D o1 (WantS.from w f1)
    | bk => exact w
    | ct => exact w
    | ret rv => exact w
  | err x env1 => rw [e] at w; exact w
  | stuck => rw [e] at w; exact w
theorem sim_if (hc : SimT K G W tt ft) (h1 : SimS K G W t f) (h2 : SimS K G W u g) : SimS K G W (tIfS tt t u) (sIf ft f g) := fun F H σ env D ok w => by
  refine hc F H σ env _ ok ((wantS_bind w).imp fun b env1 F1 H1 o1 f1 k => ?_)
  obtain ⟨w1, _⟩ := k o1 f1
  cases b with
  | true => exact h1 F1 H1 σ env1 D o1 w1
  | false => exact h2 F1 H1 σ env1 D o1 w1
theorem sim_ret (he : SimE K G W te fe) : SimS K G W (tRet te) (sRet fe) := fun F H σ env D ok w => by
  refine he F H σ env _ ok ((wantS_bind w).imp fun rv env1 F1 H1 o1 f1 k v r => ?_)
  obtain ⟨_, w1⟩ := k o1 f1
  exact w1 F1 H1 σ v o1 f1 r
theorem sim_retN : SimS K G W tRetN sRetN := fun F H σ env D ok w => w F H σ .non ok Fr.refl .non
theorem sim_drop (he : SimE K G W te fe) : SimS K G W (tDrop te) (sDrop fe) := fun F H σ env D ok w => by
  refine he F H σ env _ ok ((wantS_bind w).imp fun rv env1 F1 H1 o1 f1 k v r => ?_)
  exact (k o1 f1).2 F1 H1 σ o1 f1
theorem wantS_want {α : Type} {r : Res α} {post : α → Env → Hp → Hp → Prop} {m : M α} {k : α → M Out} (w : WantS K G W σ env F H (bindM m k env1) D) (h : ∀ a env', Want K G W σ env F H (.ok a env') post ∨ True) :
    Want K G W σ env F H (m env1) (fun a env2 F2 H2 => WantS K G W σ env F H (k a env2) D) := by
  unfold bindM at w
  cases e : m env1 with
  | ok a env2 => rw [e] at w; exact fun _ _ _ _ => w
  | err x env2 => rw [e] at w; exact fun F' H' cls d o f => w F' H' σ cls d o f
  | stuck => rw [e] at w; exact w
/-- .. the value given up -/
theorem wantS_settle {F0 H0 : Hp} {env0 : Env} {v : V} {rv : RV} {k : Dl.D → M Out} (ok : Ok K G F H σ env) (fr : Fr σ env0 F0 H0 σ env F H) (h : RvOk K G F H H0 σ env v rv)
    (w : WantS K G W σ env0 F0 H0 (bindM (settle rv) k env) D) : ∃ d env' F', Ok K G F' H σ env' ∧ Fr σ env0 F0 H0 σ env' F' H ∧ Rep K G F' v d ∧ WantS K G W σ env0 F0 H0 (k d env') D := by
  have w' : Want K G W σ env0 F0 H0 (settle rv env) (fun d env' _ _ => WantS K G W σ env0 F0 H0 (k d env') D) := by
    unfold bindM at w
    cases e : settle rv env with
    | ok a env2 => rw [e] at w; exact fun _ _ _ _ => w
    | err x env2 => rw [e] at w; exact fun F' H' cls d o f => w F' H' σ cls d o f
    | stuck => rw [e] at w; exact w
  exact want_settle ok fr h w'
theorem sim_asg {i : Nat} (he : SimE K G W te fe) : SimS K G W (tAsg te (gName i)) (sAsg i fe) := fun F H σ env D ok w => by
  refine he F H σ env _ ok ((wantS_bind w).imp fun rv env1 F1 H1 o1 f1 k v r => ?_)
  obtain ⟨_, w1⟩ := k o1 f1
  have other : (∀ w1 : WantS K G W σ env F H (bindM (settle rv) (fun d => putM i (.imm d)) env1) D, D.nx (σ.set i (some v)) H1) := fun w1 => by
    obtain ⟨d, env2, F2, o2, f2, r2, w2⟩ := wantS_settle o1 f1 r w1
    exact w2 F2 H1 _ (o2.put (s := .imm d) ⟨v, rfl, r2⟩ fun z => nomatch z) (f2.trans (Fr.put rfl fun z => nomatch z))
  cases rv with
  | imm d => exact other w1
  | al j => exact other w1
  | fresh xs =>
    obtain ⟨p, vs, rfl, h1, h2, h3, h4, rr⟩ := r
    exact w1 F1 H1 _ (o1.put (s := .own xs) ⟨p, vs, rfl, h1, h2, rr⟩ fun _ a e => by cases e; exact h4) (f1.puts rfl fun _ a e => by cases e; exact h3)
end
end Dl
namespace Dl
open PySem L2

/-! ### targets -/
section
variable (K : PySem.W.Frag) (G : Gs)
def WantG (σ : L2.St) (env : Env) (F H : Hp) (r : Res Unit) (Q : L2.St → Hp → Prop) : Prop := match r with
  | .ok _ env' => ∀ F' H' σ', Ok K G F' H' σ' env' → Fr σ env F H σ' env' F' H' → Q σ' H'
  | _ => False
def SimG (g : TG) (f : D → M Unit) : Prop := ∀ F H σ env v d Q, Ok K G F H σ env → Rep K G F v d → WantG K G σ env F H (f d env) Q → g v σ H Q
def SimGs (g : TGs) (f : List D → M Unit) : Prop := ∀ F H σ env vs ds Q, Ok K G F H σ env → Reps K G F vs ds → WantG K G σ env F H (f ds env) Q → g vs σ H Q
end
def gNameM (i : Nat) : D → M Unit := fun d env => .ok () (env.set i (.imm d))
def gNilM : List D → M Unit := fun ds => match ds with
  | [] => retM ()
  | _ => fun _ => .stuck
def gConsM (f : D → M Unit) (fs : List D → M Unit) : List D → M Unit := fun ds => match ds with
  | d :: r => bindM (f d) fun _ => fs r
  | [] => fun _ => .stuck
def gTupM (n : Nat) (fs : List D → M Unit) : D → M Unit := fun d => match d with
  | .tup ds => if ds.length = n then fs ds else fun _ => .stuck
  | _ => fun _ => .stuck
section
variable {K : PySem.W.Frag} {G : Gs} {W : WX}
theorem WantG.from {F H F1 H1 : Hp} {σ σ1 : L2.St} {env env1 : Env} {r : Res Unit} {Q : L2.St → Hp → Prop} (w : WantG K G σ env F H r Q) (f : Fr σ env F H σ1 env1 F1 H1) : WantG K G σ1 env1 F1 H1 r Q := by
  cases r with
  | ok u env' => exact fun F' H' σ' o f' => w F' H' σ' o (f.trans f')
  | err x env' => exact w
  | stuck => exact w
theorem simg_name (i : Nat) : SimG K G (gName i) (gNameM i) := fun F H σ env v d Q ok r w =>
  w F H _ (ok.put (s := .imm d) ⟨v, rfl, r⟩ fun z => nomatch z) (Fr.put rfl fun z => nomatch z)
theorem simgs_nil : SimGs K G gNil gNilM := fun F H σ env vs ds Q ok r w => by
  cases r with
  | nil => exact ⟨rfl, w F H σ ok Fr.refl⟩
  | cons _ _ => exact w.elim
theorem simgs_cons {t : TG} {u : TGs} {f : D → M Unit} {fs : List D → M Unit} (h : SimG K G t f) (hs : SimGs K G u fs) : SimGs K G (gCons t u) (gConsM f fs) := fun F H σ env vs ds Q ok r w => by
  cases r with
  | nil => exact w.elim
  | @cons v vs d ds r1 r2 =>
    refine ⟨v, vs, rfl, h F H σ env v d _ ok r1 ?_⟩
    have w' : WantG K G σ env F H (bindM (f d) (fun _ => fs ds) env) Q := w
    unfold bindM at w'
    cases e : f d env with
    | ok u env1 =>
      rw [e] at w'
      exact fun F1 H1 σ1 o1 f1 => hs F1 H1 σ1 env1 vs ds Q o1 (r2.mono f1.sub) (WantG.from w' f1)
    | err x env1 => rw [e] at w'; exact w'.elim
    | stuck => rw [e] at w'; exact w'.elim
theorem simg_tup {n : Nat} {u : TGs} {fs : List D → M Unit} (h : SimGs K G u fs) : SimG K G (gTup K n u) (gTupM n fs) := fun F H σ env v d Q ok r w => by
  cases d with
  | tup ds =>
    cases r with
    | tup hq rr =>
      by_cases z : ds.length = n
      · simp only [gTupM, if_pos z] at w
        exact ⟨_, _, rfl, sqT_le ok.sub hq, rr.length.trans z, h F H σ env _ ds Q ok rr w⟩
      · simp only [gTupM, if_neg z] at w
        exact w.elim
  | _ => exact w.elim
/-- target = e -/
def sAsgG (fe : M RV) (g : D → M Unit) : M Out := bindM fe fun r => bindM (settle r) fun d => bindM (g d) fun _ => retM .nx
theorem wantS_G {F H : Hp} {σ : L2.St} {env : Env} {D : Ends} {m : M Unit} (w : WantS K G W σ env F H (bindM m (fun _ => retM .nx) env) D) (hn : ∀ x e, m env ≠ .err x e) : WantG K G σ env F H (m env) D.nx := by
  unfold bindM at w
  cases e : m env with
  | ok u env1 => rw [e] at w; exact w
  | err x env1 => exact (hn x env1 e).elim
  | stuck => rw [e] at w; exact w
/-- a target raises nothing here -/
def NoErr (g : D → M Unit) : Prop := ∀ d env x e, g d env ≠ .err x e
theorem noerr_name (i : Nat) : NoErr (gNameM i) := fun d env x e h => nomatch h
def NoErrs (g : List D → M Unit) : Prop := ∀ d env x e, g d env ≠ .err x e
theorem noerr_nil : NoErrs gNilM := fun d env x e h => by
  cases d with
  | nil => cases h
  | cons _ _ => cases h
theorem noerr_cons {f : D → M Unit} {fs : List D → M Unit} (h : NoErr f) (hs : NoErrs fs) : NoErrs (gConsM f fs) := fun d env x e q => by
  cases d with
  | nil => cases q
  | cons d ds =>
    have q' : bindM (f d) (fun _ => fs ds) env = .err x e := q
    unfold bindM at q'
    cases e1 : f d env with
    | ok u env1 => rw [e1] at q'; exact hs _ _ _ _ q'
    | err y env1 => exact h _ _ _ _ e1
    | stuck => rw [e1] at q'; cases q'
theorem noerr_tup {n : Nat} {fs : List D → M Unit} (hs : NoErrs fs) : NoErr (gTupM n fs) := fun d env x e q => by
  cases d with
  | tup ds =>
    by_cases z : ds.length = n
    · simp only [gTupM, if_pos z] at q; exact hs _ _ _ _ q
    · simp only [gTupM, if_neg z] at q; cases q
  | _ => cases q
theorem sim_asgG {te : TE} {fe : M RV} {t : TG} {g : D → M Unit} (he : SimE K G W te fe) (hg : SimG K G t g) (hn : NoErr g) : SimS K G W (tAsg te t) (sAsgG fe g) := fun F H σ env D ok w => by
  refine he F H σ env _ ok ((wantS_bind w).imp fun rv env1 F1 H1 o1 f1 k v r => ?_)
  obtain ⟨_, w1⟩ := k o1 f1
  obtain ⟨d, env2, F2, o2, f2, r2, w2⟩ := wantS_settle o1 f1 r w1
  exact hg F2 H1 σ env2 v d _ o2 r2 (wantS_G (WantS.from w2 f2) (hn d env2))
end

/-! ### what is walked -/
section
variable (K : PySem.W.Frag) (G : Gs) (W : WX)
/-- the turns yield these, whatever is made meanwhile -/
def ItD (F : Hp) (J : It) (ds : List D) : Prop := ∀ (i : Nat) (F' H' : Hp), Le F F' → Le F' H' →
  (∀ d, ds[i]? = some d → J.go i H' ∧ ∀ x H'', J.yld i H' x H'' → ∃ F'', Gr F' H' F'' H'' ∧ Rep K G F'' x d) ∧ (ds[i]? = none → J.stop i H')
def SimI (wi : TI) (f : M (List D)) : Prop := ∀ F H σ env R, Ok K G F H σ env → Want K G W σ env F H (f env) (fun ds _ F' H' => ∀ J, ItD K G F' J ds → R J H') → wi σ H R
end
def forM (g : D → M Unit) (b : M Out) : List D → M Out
  | [] => retM .nx
  | d :: ds => fun env => match g d env with
    | .ok _ env1 => (match b env1 with
      | .ok .nx env2 => forM g b ds env2
      | .ok .ct env2 => forM g b ds env2
      | .ok .bk env2 => .ok .nx env2
      | r => r)
    | _ => .stuck
def sFor (fi : M (List D)) (g : D → M Unit) (b : M Out) : M Out := bindM fi fun ds => forM g b ds
section
variable {K : PySem.W.Frag} {G : Gs} {W : WX}
theorem sim_for {wi : TI} {fi : M (List D)} {t : TG} {g : D → M Unit} {tb : TS} {b : M Out} (hi : SimI K G W wi fi) (hg : SimG K G t g) (hb : SimS K G W tb b) : SimS K G W (tFor wi t tb) (sFor fi g b) := fun F H σ env D ok w => by
  refine hi F H σ env _ ok ((wantS_bind w).imp fun ds env1 F1 H1 o1 f1 k J hJ => ?_)
  obtain ⟨w1, _⟩ := k o1 f1
  refine ⟨fun i m σ' H' => ∃ F' env', m = ds.length - i ∧ i ≤ ds.length ∧ Le F1 F' ∧ Ok K G F' H' σ' env' ∧ WantS K G W σ' env' F' H' (forM g b (ds.drop i) env') D, ⟨ds.length, F1, env1, by simp, Nat.zero_le _, Le.rfl, o1, w1⟩, ?_⟩
  rintro i m σ' H' ⟨F', env', rfl, hi', l, o, w2⟩
  obtain ⟨j1, j2⟩ := hJ i F' H' l o.sub
  by_cases hlt : i < ds.length
  · obtain ⟨d, hd⟩ : ∃ d, ds[i]? = some d := ⟨ds[i], List.getElem?_eq_getElem hlt⟩
    have hdrop : ds.drop i = d :: ds.drop (i + 1) := by
      rw [List.drop_eq_getElem_cons hlt]
      rw [List.getElem?_eq_getElem hlt] at hd
      cases hd; rfl
    rw [hdrop] at w2
    obtain ⟨go, yl⟩ := j1 d hd
    refine .inr ⟨go, fun σ3 H3 => ∃ F3 env3, Le F1 F3 ∧ Ok K G F3 H3 σ3 env3 ∧ WantS K G W σ3 env3 F3 H3 (forM g b (ds.drop (i + 1)) env3) D, fun σ3 H3 ⟨F3, env3, l3, o3, w3⟩ => ⟨ds.length - (i + 1), by omega, F3, env3, rfl, hlt, l3, o3, w3⟩, fun x H'' y => ?_⟩
    obtain ⟨F'', gr, rx⟩ := yl x H'' y
    have o2 := o.gr gr
    have w3 := WantS.from w2 (Fr.gr gr)
    refine hg F'' H'' σ' env' x d _ o2 rx ?_
    unfold forM at w3
    cases e : g d env' with
    | ok u env2 =>
      rw [e] at w3
      intro F3 H3 σ3 o3 f3
      have w4 := WantS.from w3 f3
      have l3 : Le F1 F3 := (l.trans gr.f).trans f3.sub
      refine hb F3 H3 σ3 env2 _ o3 ?_
      dsimp only at w4
      cases e2 : b env2 with
      | ok ot env3 =>
        rw [e2] at w4
        cases ot with
        | nx => exact fun F4 H4 σ4 o4 f4 => ⟨F4, env3, l3.trans f4.sub, o4, WantS.from w4 f4⟩
        | ct => exact fun F4 H4 σ4 o4 f4 => ⟨F4, env3, l3.trans f4.sub, o4, WantS.from w4 f4⟩
        | bk => exact w4
        | ret rv => exact w4
      | err x env3 => rw [e2] at w4; exact w4
      | stuck => rw [e2] at w4; exact w4
    | err x env2 => rw [e] at w3; exact w3.elim
    | stuck => rw [e] at w3; exact w3.elim
  · have e : i = ds.length := by omega
    subst e
    refine .inl ⟨j2 (by simp), ?_⟩
    rw [List.drop_length] at w2
    exact w2 F' H' σ' o Fr.refl
end

/-! ### while -/
def whileM (c : M Bool) (b : M Out) : Nat → M Out
  | 0 => fun _ => .stuck
  | n + 1 => bindM c fun v => if v = true then (fun env => match b env with
    | .ok .nx env2 => whileM c b n env2
    | .ok .ct env2 => whileM c b n env2
    | .ok .bk env2 => .ok .nx env2
    | r => r) else retM .nx
open Classical in
noncomputable def sWhile (c : M Bool) (b : M Out) : M Out := fun env => if h : ∃ n, whileM c b n env ≠ .stuck then whileM c b h.choose env else .stuck
theorem whileM_up (c : M Bool) (b : M Out) : ∀ (n : Nat) (env : Env), whileM c b n env ≠ .stuck → whileM c b (n + 1) env = whileM c b n env
  | 0, env, h => (h rfl).elim
  | n + 1, env, h => by
    rw [whileM, whileM]
    rw [whileM] at h
    unfold bindM at h ⊢
    cases e : c env with
    | ok v env1 =>
      rw [e] at h
      simp only at h ⊢
      cases v with
      | false => rfl
      | true =>
        simp only [if_true] at h ⊢
        cases e2 : b env1 with
        | ok o env2 =>
          rw [e2] at h
          cases o with
          | nx => exact whileM_up c b n env2 h
          | ct => exact whileM_up c b n env2 h
          | bk => rfl
          | ret rv => rfl
        | err x env2 => rfl
        | stuck => rfl
    | err x env1 => rfl
    | stuck => rfl
theorem whileM_le {c : M Bool} {b : M Out} {n m : Nat} {env : Env} (h : whileM c b n env ≠ .stuck) (l : n ≤ m) : whileM c b m env = whileM c b n env := by
  induction m with
  | zero => have : n = 0 := by omega
            rw [this]
  | succ m ih =>
    by_cases z : n = m + 1
    · rw [z]
    · have q := ih (by omega)
      rw [whileM_up c b m env (by rw [q]; exact h), q]
theorem sWhile_of {c : M Bool} {b : M Out} {n : Nat} {env : Env} (h : whileM c b n env ≠ .stuck) : sWhile c b env = whileM c b n env := by
  have hx : ∃ n, whileM c b n env ≠ .stuck := ⟨n, h⟩
  unfold sWhile
  rw [dif_pos hx]
  have h2 := hx.choose_spec
  by_cases z : hx.choose ≤ n
  · exact (whileM_le h2 z).symm
  · exact whileM_le h (by omega)
theorem sWhile_get {c : M Bool} {b : M Out} {env : Env} (h : sWhile c b env ≠ .stuck) : ∃ n, whileM c b n env = sWhile c b env := by
  unfold sWhile at h ⊢
  by_cases hx : ∃ n, whileM c b n env ≠ .stuck
  · rw [dif_pos hx]; exact ⟨_, rfl⟩
  · rw [dif_neg hx] at h; exact (h rfl).elim
theorem sWhile_stuck {c : M Bool} {b : M Out} {env : Env} (h : ∀ n, whileM c b n env = .stuck) : sWhile c b env = .stuck := by
  unfold sWhile
  rw [dif_neg]
  exact fun ⟨n, z⟩ => z (h n)
/-- one turn -/
theorem sWhile_unfold (c : M Bool) (b : M Out) (env : Env) : sWhile c b env = bindM c (fun v => if v = true then (fun env => match b env with
    | .ok .nx env2 => sWhile c b env2
    | .ok .ct env2 => sWhile c b env2
    | .ok .bk env2 => .ok .nx env2
    | r => r) else retM .nx) env := by
  have key : ∀ n, whileM c b (n + 1) env ≠ .stuck → whileM c b (n + 1) env = bindM c (fun v => if v = true then (fun env => match b env with
    | .ok .nx env2 => sWhile c b env2
    | .ok .ct env2 => sWhile c b env2
    | .ok .bk env2 => .ok .nx env2
    | r => r) else retM .nx) env := fun n h => by
    rw [whileM] at h ⊢
    unfold bindM at h ⊢
    cases e : c env with
    | ok v env1 =>
      rw [e] at h
      simp only at h ⊢
      cases v with
      | false => rfl
      | true =>
        simp only [if_true] at h ⊢
        cases e2 : b env1 with
        | ok o env2 =>
          rw [e2] at h
          cases o with
          | nx => exact (sWhile_of h).symm
          | ct => exact (sWhile_of h).symm
          | bk => rfl
          | ret rv => rfl
        | err x env2 => rfl
        | stuck => rfl
    | err x env1 => rfl
    | stuck => rfl
  by_cases hx : ∃ n, whileM c b n env ≠ .stuck
  · obtain ⟨n, hn⟩ := hx
    have hn1 : whileM c b (n + 1) env ≠ .stuck := by rw [whileM_up c b n env hn]; exact hn
    rw [sWhile_of hn1]
    exact key n hn1
  · have e0 : sWhile c b env = .stuck := by unfold sWhile; rw [dif_neg hx]
    rw [e0]
    unfold bindM
    cases e : c env with
    | ok v env1 =>
      have no : ∀ n, whileM c b (n + 1) env = .stuck := fun n => Classical.byContradiction fun z => hx ⟨n + 1, z⟩
      cases v with
      | false =>
        have := no 0
        rw [whileM] at this
        unfold bindM at this
        rw [e] at this
        cases this
      | true =>
        simp only [if_true]
        cases e2 : b env1 with
        | ok o env2 =>
          have st : (o = .nx ∨ o = .ct) → ∀ n, whileM c b n env2 = .stuck := fun ho n => by
            have := no n
            rw [whileM] at this
            unfold bindM at this
            rw [e] at this
            simp only [if_true, e2] at this
            rcases ho with rfl | rfl
            · exact this
            · exact this
          have this := no 0
          rw [whileM] at this
          unfold bindM at this
          rw [e] at this
          simp only [if_true, e2] at this
          cases o with
          | nx => exact (sWhile_stuck (st (.inl rfl))).symm
          | ct => exact (sWhile_stuck (st (.inr rfl))).symm
          | bk => cases this
          | ret rv => cases this
        | err x env2 =>
          have this := no 0
          rw [whileM] at this
          unfold bindM at this
          rw [e] at this
          simp only [if_true, e2] at this
          cases this
        | stuck => rfl
    | err x env1 =>
      exact (hx ⟨1, by rw [whileM]; unfold bindM; rw [e]; intro z; cases z⟩).elim
    | stuck => rfl
section
variable {K : PySem.W.Frag} {G : Gs} {W : WX}
theorem sim_while {tt : TT} {c : M Bool} {tb : TS} {b : M Out} (hc : SimT K G W tt c) (hb : SimS K G W tb b) : SimS K G W (tWhile tt tb) (sWhile c b) := fun F H σ env D ok w => by
  have hne : sWhile c b env ≠ .stuck := fun z => by rw [z] at w; exact w
  obtain ⟨n, hn⟩ := sWhile_get hne
  rw [← hn] at w
  refine ⟨fun m σ' H' => ∃ F' env', Ok K G F' H' σ' env' ∧ WantS K G W σ' env' F' H' (whileM c b m env') D, ⟨n, F, env, ok, w⟩, ?_⟩
  rintro m σ' H' ⟨F', env', o, w2⟩
  cases m with
  | zero => exact w2.elim
  | succ m =>
    rw [whileM] at w2
    refine hc F' H' σ' env' _ o ((wantS_bind w2).imp fun v env1 F1 H1 o1 f1 k => ?_)
    obtain ⟨w3, _⟩ := k o1 f1
    cases v with
    | false => exact w3 F1 H1 σ' o1 Fr.refl
    | true =>
      refine ⟨fun σ3 H3 => ∃ F3 env3, Ok K G F3 H3 σ3 env3 ∧ WantS K G W σ3 env3 F3 H3 (whileM c b m env3) D, fun σ3 H3 ⟨F3, env3, o3, w4⟩ => ⟨m, Nat.lt_succ_self m, F3, env3, o3, w4⟩, ?_⟩
      refine hb F1 H1 σ' env1 _ o1 ?_
      simp only [if_true] at w3
      cases e2 : b env1 with
      | ok ot env3 =>
        rw [e2] at w3
        cases ot with
        | nx => exact fun F4 H4 σ4 o4 f4 => ⟨F4, env3, o4, WantS.from w3 f4⟩
        | ct => exact fun F4 H4 σ4 o4 f4 => ⟨F4, env3, o4, WantS.from w3 f4⟩
        | bk => exact w3
        | ret rv => exact w3
      | err x env3 => rw [e2] at w3; exact w3
      | stuck => rw [e2] at w3; exact w3
end
end Dl
namespace Dl
open PySem L2

/-! ### displays -/
def LIM : Nat := 1000000
theorem lim_line {n : Nat} (h : n ≤ LIM) : n ≤ sizeLine := Nat.le_trans h (by rw [sizeLine_eq]; decide)
theorem lim_lt {n : Nat} (h : n ≤ LIM) : n < sizeLine := Nat.lt_of_le_of_lt h (by rw [sizeLine_eq]; decide)
def dNil : M (List D) := retM []
def dCons (fe : M RV) (fr : M (List D)) : M (List D) := bindM fe fun r => bindM (settle r) fun d => bindM fr fun ds => retM (d :: ds)
def eTup (f : M (List D)) : M RV := bindM f fun ds => fun env => if ds.length ≤ LIM then .ok (.imm (.tup ds)) env else .stuck
def eLst (f : M (List D)) : M RV := bindM f fun ds => fun env => if ds.length ≤ LIM then .ok (.fresh ds) env else .stuck
section
variable (K : PySem.W.Frag) (G : Gs) (W : WX)
def SimD (ta : TA) (f : M (List D)) : Prop := ∀ F H σ env Q, Ok K G F H σ env → Want K G W σ env F H (f env) (fun ds _ F' H' => ∀ vs, Reps K G F' vs ds → Q vs H') → ta σ H Q
end
section
variable {K : PySem.W.Frag} {G : Gs} {W : WX} {te : TE} {fe : M RV} {ta : TA} {fa : M (List D)}
/-- as want_bind, the state where the value is given up -/
theorem want_bind_settle {β : Type} {F0 H0 F H : Hp} {σ : L2.St} {env0 env : Env} {v : V} {rv : RV} {k : D → M β} {post : β → Env → Hp → Hp → Prop} (ok : Ok K G F H σ env) (fr : Fr σ env0 F0 H0 σ env F H) (h : RvOk K G F H H0 σ env v rv)
    (w : Want K G W σ env0 F0 H0 (bindM (settle rv) k env) post) : ∃ d env' F', Ok K G F' H σ env' ∧ Fr σ env0 F0 H0 σ env' F' H ∧ Rep K G F' v d ∧ Want K G W σ env' F' H (k d env') post := by
  have w' : Want K G W σ env0 F0 H0 (settle rv env) (fun d env' F' H' => Ok K G F' H' σ env' → Fr σ env0 F0 H0 σ env' F' H' → Want K G W σ env' F' H' (k d env') post) := by
    unfold bindM at w
    cases e : settle rv env with
    | ok a env2 =>
      rw [e] at w
      intro F2 H2 o2 f2 _ _
      cases e2 : k a env2 with
      | ok b env3 => simp only [e2] at w; exact fun F3 H3 o3 f3 => w F3 H3 o3 (f2.trans f3)
      | err x env3 => simp only [e2] at w; exact fun F3 H3 cls d o3 f3 => w F3 H3 cls d o3 (f2.trans f3)
      | stuck => simp only [e2] at w; exact w
    | err x env2 => rw [e] at w; exact w
    | stuck => rw [e] at w; exact w
  obtain ⟨d, env', F', o, f, r, q⟩ := want_settle ok fr h w'
  exact ⟨d, env', F', o, f, r, q o f⟩
theorem Want.from {α : Type} {F H F1 H1 : Hp} {σ : L2.St} {env env1 : Env} {r : Res α} {p : α → Env → Hp → Hp → Prop} (w : Want K G W σ env F H r p) (fr : Fr σ env F H σ env1 F1 H1) : Want K G W σ env1 F1 H1 r p := by
  cases r with
  | ok a env' => exact fun F' H' o f => w F' H' o (fr.trans f)
  | err x env' => exact fun F' H' cls d o f => w F' H' cls d o (fr.trans f)
  | stuck => exact w
theorem want_raw {α β : Type} {F H : Hp} {σ : L2.St} {env : Env} {m : M α} {k : α → M β} {post : β → Env → Hp → Hp → Prop} (h : Want K G W σ env F H (bindM m k env) post) :
    Want K G W σ env F H (m env) (fun a env1 _ _ => Want K G W σ env F H (k a env1) post) := by
  unfold bindM at h
  cases e : m env with
  | ok a env1 => rw [e] at h; exact fun _ _ _ _ => h
  | err x env1 => rw [e] at h; exact h
  | stuck => rw [e] at h; exact h
theorem want_raw2 {α β : Type} {F H : Hp} {σ : L2.St} {env e0 : Env} {m : M α} {k : α → M β} {post : β → Env → Hp → Hp → Prop} (h : Want K G W σ env F H (bindM m k e0) post) :
    Want K G W σ env F H (m e0) (fun a env1 _ _ => Want K G W σ env F H (k a env1) post) := by
  unfold bindM at h
  cases e : m e0 with
  | ok a env1 => rw [e] at h; exact fun _ _ _ _ => h
  | err x env1 => rw [e] at h; exact h
  | stuck => rw [e] at h; exact h
theorem sim_dnil : SimD K G W tNil dNil := fun F H σ env Q ok w => w F H ok Fr.refl [] .nil
theorem sim_dcons (he : SimE K G W te fe) (hr : SimD K G W ta fa) : SimD K G W (tCons te ta) (dCons fe fa) := fun F H σ env Q ok w => by
  refine he F H σ env _ ok ((want_raw w).imp fun rv env1 F1 H1 o1 f1 w1 v r => ?_)
  obtain ⟨d, env2, F2, o2, f2, r2, w2⟩ := want_bind_settle o1 f1 r w1
  refine hr F2 H1 σ env2 _ o2 ((want_bind w2).imp fun ds env3 F3 H3 o3 f3 k vs rs => ?_)
  exact k o3 f3 F3 H3 o3 Fr.refl (v :: vs) (.cons (r2.mono f3.sub) rs)
theorem sim_tup (h : SimD K G W ta fa) : SimE K G W (tTup ta) (eTup fa) := fun F H σ env Q ok w => by
  refine h F H σ env _ ok ((want_bind w).imp fun ds env1 F1 H1 o1 f1 k vs rs => ?_)
  have w1 := k o1 f1
  by_cases z : ds.length ≤ LIM
  · simp only [if_pos z] at w1
    refine ⟨lim_line (by rw [rs.length]; exact z), fun p hp => ?_⟩
    exact w1 _ _ (o1.alloc hp) (Fr.alloc o1 hp) _ (.tup (SqT.of upd_same) (rs.mono (Le.upd (o1.sub.none hp))))
  · simp only [if_neg z] at w1; exact w1.elim
theorem sim_lst (h : SimD K G W ta fa) : SimE K G W (tLst ta) (eLst fa) := fun F H σ env Q ok w => by
  refine h F H σ env _ ok ((want_bind w).imp fun ds env1 F1 H1 o1 f1 k vs rs => ?_)
  have w1 := k o1 f1
  by_cases z : ds.length ≤ LIM
  · simp only [if_pos z] at w1
    refine ⟨lim_line (by rw [rs.length]; exact z), fun p hp => ?_⟩
    exact w1 _ _ (o1.apart hp) (Fr.apart hp) _ ⟨p, vs, rfl, upd_same, o1.sub.none hp, f1.new hp, o1.notOwn hp, rs⟩
  · simp only [if_neg z] at w1; exact w1.elim
end

/-! ### calls -/
inductive Cal where
  | ok (r : RV) (svs : List SV) | err (x : Exn) (svs : List SV) | stuck
def SV.arg : SV → Bool
  | .imm _ => true
  | .brw _ => true
  | .obj _ _ => true
  | _ => false
/-- the parameters at the end -/
def outs : List SV → Env → Option (List SV)
  | [], _ => some []
  | s :: ss, env => match env with
    | [] => none
    | t :: ts => match outs ss ts with
      | none => none
      | some us => if s.lent = true then (if t.lent = true then some (t :: us) else none) else some (s :: us)
def retRV (env : Env) : RV → Option RV
  | .imm d => some (.imm d)
  | .fresh xs => some (.fresh xs)
  | .al i => match env[i]? with
    | some (.imm d) => some (.imm d)
    | some (.own xs) => some (.fresh xs)
    | _ => none
def finC (svs : List SV) (env' : Env) (r : Option RV) : Cal := match r with
  | some r => (match outs svs env' with
    | some us => .ok r us
    | none => .stuck)
  | none => .stuck
/-- a def's worth: its body from its arguments; m more names -/
def denOf (n m : Nat) (f : M Out) (svs : List SV) : Cal := if svs.length = n ∧ svs.all SV.arg = true then match f (svs ++ List.replicate m .none) with
    | .ok .nx env' => finC svs env' (some (.imm .non))
    | .ok (.ret rv) env' => finC svs env' (retRV env' rv)
    | .err x env' => (match outs svs env' with
      | some us => .err x us
      | none => .stuck)
    | _ => .stuck
  else .stuck
def WantC (K : PySem.W.Frag) (G : Gs) (F H : Hp) (vs : List V) (svs : List SV) (c : Cal) (Q : VK) (E : XK) : Prop := match c with
  | .ok r us => ∀ v F' H', Ok K G F' H' (vs.map some) us → Fr (vs.map some) svs F H (vs.map some) us F' H' → RvOk K G F' H' H (vs.map some) us v r → (∀ i, r ≠ .al i) → Q v H'
  | .err x us => ∀ cls d F' H', Ok K G F' H' (vs.map some) us → Fr (vs.map some) svs F H (vs.map some) us F' H' → ExcOk K G F' cls d x → E cls d H'
  | .stuck => False
def spD (K : PySem.W.Frag) (G : Gs) (n : Nat) (den : List SV → Cal) : Sp := fun vs H Q E => ∃ F svs, vs.length = n ∧ Ok K G F H (vs.map some) svs ∧ WantC K G F H vs svs (den svs) Q E

section
variable {K : PySem.W.Frag} {G : Gs}
theorem outs_spec : ∀ {svs : List SV} {env' : Env} {us : List SV}, outs svs env' = some us → us.length = svs.length ∧ svs.length ≤ env'.length ∧
    ∀ (i : Nat) (s : SV), svs[i]? = some s → ∃ u : SV, us[i]? = some u ∧ ((s.lent = true ∧ u.lent = true ∧ env'[i]? = some u) ∨ (s.lent = false ∧ u = s))
  | [], env', us, h => by cases h; exact ⟨rfl, Nat.zero_le _, fun i s e => by simp at e⟩
  | s :: ss, [], us, h => by cases h
  | s :: ss, t :: ts, us, h => by
    unfold outs at h
    simp only at h
    cases e : outs ss ts with
    | none => rw [e] at h; cases h
    | some ws =>
      rw [e] at h
      obtain ⟨h1, h2, h3⟩ := outs_spec e
      have fin : ∀ u : SV, us = u :: ws → ((s.lent = true ∧ u.lent = true ∧ t = u) ∨ (s.lent = false ∧ u = s)) → us.length = (s :: ss).length ∧ (s :: ss).length ≤ (t :: ts).length ∧
          ∀ (i : Nat) (s' : SV), (s :: ss)[i]? = some s' → ∃ u : SV, us[i]? = some u ∧ ((s'.lent = true ∧ u.lent = true ∧ (t :: ts)[i]? = some u) ∨ (s'.lent = false ∧ u = s')) := fun u eu hu => by
        subst eu
        refine ⟨by simp [h1], by simp [h2], fun i s' e' => ?_⟩
        cases i with
        | zero =>
          simp at e'
          subst e'
          refine ⟨u, rfl, hu.imp (fun z => ⟨z.1, z.2.1, by simp [z.2.2]⟩) fun z => z⟩
        | succ i =>
          simp at e'
          obtain ⟨u', q1, q2⟩ := h3 i s' e'
          exact ⟨u', by simpa using q1, by simpa using q2⟩
      by_cases hs : s.lent = true
      · simp only [if_pos hs] at h
        by_cases ht : t.lent = true
        · simp only [if_pos ht] at h
          exact fin t (Option.some.inj h).symm (.inl ⟨hs, ht, rfl⟩)
        · simp only [if_neg ht] at h; cases h
      · simp only [if_neg hs] at h
        exact fin s (Option.some.inj h).symm (.inr ⟨by simpa using hs, rfl⟩)
theorem lent_mut {s : SV} (h : s.lent = true) : s.mut = true := by cases s <;> first | rfl | cases h
theorem arg_mut {s : SV} (h : s.arg = true) (m : s.mut = true) : s.lent = true := by cases s <;> simp_all [SV.arg, SV.mut, SV.lent]
theorem map_some_get {vs : List V} {i : Nat} {o : Option V} (h : (vs.map some)[i]? = some o) : ∃ v, vs[i]? = some v ∧ o = some v := by
  rw [List.getElem?_map] at h
  cases e : vs[i]? with
  | none => rw [e] at h; cases h
  | some v => rw [e] at h; cases h; exact ⟨v, rfl, rfl⟩
section
variable {F H F' H' : Hp} {vs : List V} {svs us : List SV} {env' : Env} {σ' : L2.St} {m : Nat}
theorem own_start {a : Addr} (hl : vs.length = svs.length) (h : Own (vs.map some ++ List.replicate m none) (svs ++ List.replicate m .none) a) : Own (vs.map some) svs a := by
  obtain ⟨i, s, h1, hm, h2⟩ := h
  by_cases z : i < svs.length
  · rw [List.getElem?_append_left z] at h1
    rw [List.getElem?_append_left (by rw [List.length_map, hl]; exact z)] at h2
    exact ⟨i, s, h1, hm, h2⟩
  · rw [List.getElem?_append_right (by omega)] at h1
    rw [List.getElem?_replicate] at h1
    split at h1
    · cases h1; cases hm
    · cases h1
theorem own_end {a : Addr} (hl : vs.length = svs.length) (harg : svs.all SV.arg = true) (fr : Fr (vs.map some ++ List.replicate m none) (svs ++ List.replicate m .none) F H σ' env' F' H') (ho : outs svs env' = some us) (h : Own (vs.map some) us a) :
    ∃ (i : Nat) (u : SV), us[i]? = some u ∧ u.lent = true ∧ env'[i]? = some u ∧ σ'[i]? = some (some (.ref a)) := by
  obtain ⟨i, u, h1, hm, h2⟩ := h
  obtain ⟨l1, l2, sp⟩ := outs_spec ho
  have hi : i < svs.length := by rw [← l1]; exact (List.getElem?_eq_some_iff.mp h1).1
  obtain ⟨u', q1, q2⟩ := sp i svs[i] (List.getElem?_eq_getElem hi)
  rw [h1] at q1; cases q1
  rcases q2 with ⟨s1, s2, s3⟩ | ⟨s1, s2⟩
  · obtain ⟨e1, t, e2, e3⟩ := fr.lent i u s3 s2
    refine ⟨i, u, h1, s2, s3, ?_⟩
    rw [e1, List.getElem?_append_left (by rw [List.length_map, hl]; exact hi)]
    exact h2
  · have ha := List.all_eq_true.mp harg svs[i] (List.getElem_mem hi)
    rw [← s2] at ha
    have := arg_mut ha hm
    rw [s2] at this
    rw [this] at s1; cases s1
theorem ok_start (hl : vs.length = svs.length) (k : Ok K G F H (vs.map some) svs) : Ok K G F H (vs.map some ++ List.replicate m none) (svs ++ List.replicate m .none) := by
  have lm : (vs.map some).length = svs.length := by rw [List.length_map]; exact hl
  have low : ∀ {i : Nat} {s : SV}, (svs ++ List.replicate m SV.none)[i]? = some s → (i < svs.length ∧ svs[i]? = some s) ∨ s = .none := fun {i s} h => by
    by_cases z : i < svs.length
    · rw [List.getElem?_append_left z] at h; exact .inl ⟨z, h⟩
    · rw [List.getElem?_append_right (by omega), List.getElem?_replicate] at h
      split at h
      · cases h; exact .inr rfl
      · cases h
  refine ⟨k.sub, by simp [lm, hl], fun i o s h1 h2 => ?_, fun i j s t a h1 m1 h2 h3 m2 h4 => ?_⟩
  · rcases low h2 with ⟨z, q⟩ | rfl
    · rw [List.getElem?_append_left (by rw [lm]; exact z)] at h1
      exact k.slot i o s h1 q
    · trivial
  · rcases low h1 with ⟨z, q⟩ | rfl
    · rcases low h3 with ⟨z', q'⟩ | rfl
      · rw [List.getElem?_append_left (by rw [lm]; exact z)] at h2
        rw [List.getElem?_append_left (by rw [lm]; exact z')] at h4
        exact k.inj i j s t a q m1 h2 q' m2 h4
      · cases m2
    · cases m1
theorem ok_end (hl : vs.length = svs.length) (harg : svs.all SV.arg = true) (k : Ok K G F H (vs.map some) svs) (k' : Ok K G F' H' σ' env') (fr : Fr (vs.map some ++ List.replicate m none) (svs ++ List.replicate m .none) F H σ' env' F' H')
    (ho : outs svs env' = some us) : Ok K G F' H' (vs.map some) us ∧ Fr (vs.map some) svs F H (vs.map some) us F' H' := by
  obtain ⟨l1, l2, sp⟩ := outs_spec ho
  have lm : (vs.map some).length = svs.length := by rw [List.length_map]; exact hl
  -- a slot of the end
  have at_ : ∀ {i : Nat} {u : SV}, us[i]? = some u → ∃ s : SV, svs[i]? = some s ∧ i < svs.length ∧ ((s.lent = true ∧ u.lent = true ∧ env'[i]? = some u ∧ σ'[i]? = (vs.map some)[i]?) ∨ (s.lent = false ∧ u = s)) := fun {i u} h => by
    have hi : i < svs.length := by rw [← l1]; exact (List.getElem?_eq_some_iff.mp h).1
    obtain ⟨u', q1, q2⟩ := sp i svs[i] (List.getElem?_eq_getElem hi)
    rw [h] at q1; cases q1
    refine ⟨svs[i], List.getElem?_eq_getElem hi, hi, q2.imp (fun ⟨s1, s2, s3⟩ => ⟨s1, s2, s3, ?_⟩) fun z => z⟩
    obtain ⟨e1, _⟩ := fr.lent i u s3 s2
    rw [e1, List.getElem?_append_left (by rw [lm]; exact hi)]
  have oe := fun {a : Addr} (h : Own (vs.map some) us a) => own_end hl harg fr ho h
  refine ⟨⟨k'.sub, by rw [lm, l1], fun i o u h1 h2 => ?_, fun i j s t a h1 m1 h2 h3 m2 h4 => ?_⟩, ⟨fr.sub, fun a o h n => fr.keep a o h fun z => n (own_start hl z), fun a h n f => fr.low a h (fun z => n (own_start hl z)) f, fun a h => ?_, fr.there, fun i u h m => ⟨rfl, ?_⟩⟩⟩
  · obtain ⟨s, q1, hi, ⟨s1, s2, s3, s4⟩ | ⟨s1, rfl⟩⟩ := at_ h2
    · exact k'.slot i o u (by rw [s4]; exact h1) s3
    · have q := k.slot i o u h1 q1
      have ha := List.all_eq_true.mp harg svs[i] (List.getElem_mem hi)
      rw [List.getElem?_eq_getElem hi] at q1
      rw [Option.some.inj q1] at ha
      cases u with
      | imm d => obtain ⟨v, e, r⟩ := q; exact ⟨v, e, r.mono fr.sub⟩
      | brw xs => cases s1
      | obj c fs => cases s1
      | none => cases ha
      | own xs => cases ha
      | exc x => cases ha
  · obtain ⟨i1, u1, p1, p2, p3, p4⟩ := oe ⟨i, s, h1, m1, h2⟩
    have key : ∀ {i : Nat} {s : SV}, us[i]? = some s → s.mut = true → (vs.map some)[i]? = some (some (.ref a)) → env'[i]? = some s ∧ σ'[i]? = some (some (.ref a)) := fun {i s} h m e => by
      obtain ⟨s0, q1, hi, ⟨s1, s2, s3, s4⟩ | ⟨s1, rfl⟩⟩ := at_ h
      · exact ⟨s3, by rw [s4]; exact e⟩
      · have ha := List.all_eq_true.mp harg svs[i] (List.getElem_mem hi)
        rw [List.getElem?_eq_getElem hi] at q1
        rw [Option.some.inj q1] at ha
        rw [arg_mut ha m] at s1; cases s1
    obtain ⟨a1, a2⟩ := key h1 m1 h2
    obtain ⟨b1, b2⟩ := key h3 m2 h4
    exact k'.inj i j s t a a1 m1 a2 b1 m2 b2
  · obtain ⟨i1, u1, p1, p2, p3, p4⟩ := oe h
    exact (fr.own a ⟨i1, u1, p3, lent_mut p2, p4⟩).imp (own_start hl) id
  · obtain ⟨s, q1, hi, ⟨s1, s2, s3, s4⟩ | ⟨s1, rfl⟩⟩ := at_ h
    · exact ⟨s, q1, s1⟩
    · rw [m] at s1; cases s1
end
/-- a def's body keeps its promise -/
theorem spD_body {n m : Nat} {f : M Out} {t : TS} {N : List Str} {vs : List V} {H : Hp} {Q : VK} {E : XK} (h : SimS K G (fun cls d _ H => E cls d H) t f) (hN : N.length = n + m) (hs : spD K G n (denOf n m f) vs H Q E) :
    t { nx := fun _ H' => Q .non H', rt := Q } (L2.start N vs) H := by
  obtain ⟨F, svs, hlen, ok, w⟩ := hs
  have hl : vs.length = svs.length := by have := ok.len; rwa [List.length_map] at this
  unfold denOf at w
  by_cases hc : svs.length = n ∧ svs.all SV.arg = true
  · rw [if_pos hc] at w
    obtain ⟨h1, harg⟩ := hc
    have est : L2.start N vs = vs.map some ++ List.replicate m none := by
      unfold L2.start
      rw [hN, hlen]
      congr 2
      omega
    rw [est]
    refine h F H _ (svs ++ List.replicate m .none) _ (ok_start hl ok) ?_
    cases e : f (svs ++ List.replicate m .none) with
    | ok o env' =>
      rw [e] at w
      cases o with
      | nx =>
        intro F' H' σ' o' f'
        simp only [finC] at w
        cases e2 : outs svs env' with
        | none => rw [e2] at w; exact w.elim
        | some us =>
          rw [e2] at w
          obtain ⟨k1, k2⟩ := ok_end hl harg ok o' f' e2
          exact w .non F' H' k1 k2 .non fun i z => nomatch z
      | ret rv =>
        intro F' H' σ' v o' f' r
        simp only [finC] at w
        cases e3 : retRV env' rv with
        | none => rw [e3] at w; exact w.elim
        | some r' =>
          rw [e3] at w
          simp only at w
          cases e2 : outs svs env' with
          | none => rw [e2] at w; exact w.elim
          | some us =>
            rw [e2] at w
            obtain ⟨k1, k2⟩ := ok_end hl harg ok o' f' e2
            have noOwn : ∀ {p : Addr}, (∀ (i : Nat) (s : SV), env'[i]? = some s → s.lent = true → σ'[i]? ≠ some (some (.ref p))) → ¬ Own (vs.map some) us p := fun {p} q z => by
              obtain ⟨i1, u1, p1, p2, p3, p4⟩ := own_end hl harg f' e2 z
              exact q i1 u1 p3 p2 p4
            cases rv with
            | imm d => cases e3; exact w v F' H' k1 k2 r fun i z => nomatch z
            | fresh xs =>
              cases e3
              obtain ⟨p, ws, ev, q1, q2, q3, q4, q5⟩ := r
              refine w v F' H' k1 k2 ⟨p, ws, ev, q1, q2, q3, noOwn fun i s z m e => q4 ⟨i, s, z, lent_mut m, e⟩, q5⟩ fun i z => nomatch z
            | al i =>
              obtain ⟨es, s, he⟩ := r
              simp only [retRV, he] at e3
              have q := o'.slot i _ s es he
              cases s with
              | imm d =>
                cases e3
                obtain ⟨u, eu, rr⟩ := q
                cases eu
                exact w v F' H' k1 k2 rr fun i z => nomatch z
              | own xs =>
                cases e3
                obtain ⟨p, ws, eu, q1, q2, q3⟩ := q
                cases eu
                have nl : ∀ (j : Nat) (s : SV), env'[j]? = some s → s.lent = true → σ'[j]? ≠ some (some (.ref p)) := fun j s z m e => by
                  have := o'.inj i j _ s p he rfl es z (lent_mut m) e
                  subst this
                  rw [he] at z; cases z; cases m
                refine w _ F' H' k1 k2 ⟨p, ws, rfl, q1, q2, ?_, noOwn nl, q3⟩ fun i z => nomatch z
                rcases f'.own p ⟨i, _, he, rfl, es⟩ with z | z
                · obtain ⟨j, s, g1, g2, g3⟩ := own_start hl z
                  have hj : j < svs.length := (List.getElem?_eq_some_iff.mp g1).1
                  have ha := List.all_eq_true.mp harg svs[j] (List.getElem_mem hj)
                  have ej := g1
                  rw [List.getElem?_eq_getElem hj] at ej
                  rw [Option.some.inj ej] at ha
                  have hlent := arg_mut ha g2
                  obtain ⟨l1, l2, sp⟩ := outs_spec e2
                  obtain ⟨u, y1, ⟨y2, y3, y4⟩ | ⟨y2, _⟩⟩ := sp j s g1
                  · obtain ⟨e1, _⟩ := f'.lent j u y4 y3
                    rw [List.getElem?_append_left (by rw [List.length_map, hl]; exact hj)] at e1
                    exact absurd (e1.trans g3) (nl j u y4 y3)
                  · rw [hlent] at y2; cases y2
                · exact z
              | none => cases e3
              | brw xs => cases e3
              | obj c fs => cases e3
              | exc x => cases e3
      | bk => exact w.elim
      | ct => exact w.elim
    | err x env' =>
      rw [e] at w
      intro F' H' σ' cls d o' f' xo
      simp only at w
      cases e2 : outs svs env' with
      | none => rw [e2] at w; exact w.elim
      | some us =>
        rw [e2] at w
        obtain ⟨k1, k2⟩ := ok_end hl harg ok o' f' e2
        exact w cls d F' H' k1 k2 xo
    | stuck => rw [e] at w; exact w.elim
  · rw [if_neg hc] at w; exact w.elim
end
end Dl
namespace Dl
open PySem L2

/-! ### arguments of a call -/
def aNil : M (List AV) := retM []
/-- given up -/
def aSet (fe : M RV) (fr : M (List AV)) : M (List AV) := bindM fe fun r => bindM (settle r) fun d => bindM fr fun as => retM (.imm d :: as)
/-- the name of slot i, lent if it holds what may be changed -/
def aLend (i : Nat) (fr : M (List AV)) : M (List AV) := bindM (eVar i) fun r => match r with
  | .imm d => bindM fr fun as => retM (.imm d :: as)
  | .al i => bindM fr fun as => retM (.al i :: as)
  | .fresh _ => fun _ => .stuck
def alsOf : List AV → List Nat
  | [] => []
  | .imm _ :: r => alsOf r
  | .al i :: r => i :: alsOf r
def svOf (env : Env) : AV → Option SV
  | .imm d => some (.imm d)
  | .al i => match env[i]? with
    | some (.imm d) => some (.imm d)
    | some (.own xs) => some (.brw xs)
    | some (.brw xs) => some (.brw xs)
    | some (.obj c fs) => some (.obj c fs)
    | _ => none
def svsOf (env : Env) : List AV → Option (List SV)
  | [] => some []
  | a :: as => match svOf env a, svsOf env as with
    | some s, some ss => some (s :: ss)
    | _, _ => none
/-- the slot behind the call -/
def backSv : SV → SV → Option SV
  | .own _, .brw ys => some (.own ys)
  | .brw _, .brw ys => some (.brw ys)
  | .obj _ _, .obj c fs => some (.obj c fs)
  | .imm d, .imm _ => some (.imm d)
  | _, _ => none
def backs (env : Env) : List AV → List SV → Option Env
  | [], _ => some env
  | .imm _ :: as, ss => match ss with
    | [] => none
    | _ :: ss => backs env as ss
  | .al i :: as, ss => match ss with
    | [] => none
    | s :: ss => match env[i]?, backs env as ss with
      | some t, some e => (match backSv t s with
        | some u => some (e.set i u)
        | none => none)
      | _, _ => none
def callM (n : Nat) (den : List SV → Cal) (as : List AV) : M RV := fun env => if (alsOf as).Nodup ∧ as.length = n then match svsOf env as with
    | some svs => (match den svs with
      | .ok r us => (match backs env as us with
        | some env' => .ok r env'
        | none => .stuck)
      | .err x us => (match backs env as us with
        | some env' => .err x env'
        | none => .stuck)
      | .stuck => .stuck)
    | none => .stuck
  else .stuck
def eCall (n : Nat) (den : List SV → Cal) (f : M (List AV)) : M RV := bindM f fun as => callM n den as
section
variable {K : PySem.W.Frag} {G : Gs} {W : WX}
theorem AvsOk.mono {F F' : Hp} {σ : L2.St} (l : Le F F') : ∀ {vs : List V} {as : List AV}, AvsOk K G F σ vs as → AvsOk K G F' σ vs as
  | _, _, .nil => .nil
  | _, _, .cons (a := .imm d) h r => .cons (show AvOk K G F' σ _ (.imm d) from Rep.mono l h) (AvsOk.mono l r)
  | _, _, .cons (a := .al i) h r => .cons (show AvOk K G F' σ _ (.al i) from h) (AvsOk.mono l r)
theorem AvsOk.length {F : Hp} {σ : L2.St} : ∀ {vs : List V} {as : List AV}, AvsOk K G F σ vs as → vs.length = as.length
  | _, _, .nil => rfl
  | _, _, .cons _ r => congrArg (· + 1) r.length
theorem AvsOk.get {F : Hp} {σ : L2.St} : ∀ {vs : List V} {as : List AV} {j : Nat} {v : V}, AvsOk K G F σ vs as → vs[j]? = some v → ∃ a, as[j]? = some a ∧ AvOk K G F σ v a
  | _, _, _, _, .nil, e => by simp at e
  | _, _, 0, _, .cons h _, e => by simp at e; subst e; exact ⟨_, rfl, h⟩
  | _, _, j + 1, v, .cons _ r, e => by
    obtain ⟨a, h1, h2⟩ := AvsOk.get (j := j) (v := v) r (by simpa using e)
    exact ⟨a, by simpa using h1, h2⟩
variable {te : TE} {fe : M RV} {ta : TA} {fa : M (List AV)}
theorem sim_anil : SimA K G W tNil aNil := fun F H σ env Q ok w => w F H ok Fr.refl [] .nil
theorem sim_aset (he : SimE K G W te fe) (hr : SimA K G W ta fa) : SimA K G W (tCons te ta) (aSet fe fa) := fun F H σ env Q ok w => by
  refine he F H σ env _ ok ((want_raw w).imp fun rv env1 F1 H1 o1 f1 w1 v r => ?_)
  obtain ⟨d, env2, F2, o2, f2, r2, w2⟩ := want_bind_settle o1 f1 r w1
  refine hr F2 H1 σ env2 _ o2 ((want_bind w2).imp fun as env3 F3 H3 o3 f3 k vs rs => ?_)
  exact k o3 f3 F3 H3 o3 Fr.refl (v :: vs) (.cons (show AvOk K G F3 σ v (.imm d) from r2.mono f3.sub) rs)
theorem sim_alend (i : Nat) (hr : SimA K G W ta fa) : SimA K G W (tCons (tVar i) ta) (aLend i fa) := fun F H σ env Q ok w => by
  refine sim_var i F H σ env _ ok ((want_bind w).imp fun rv env1 F1 H1 o1 f1 k v r => ?_)
  have w1 := k o1 f1
  cases rv with
  | imm d =>
    refine hr F1 H1 σ env1 _ o1 ((want_bind w1).imp fun as env3 F3 H3 o3 f3 k3 vs rs => ?_)
    exact k3 o3 f3 F3 H3 o3 Fr.refl (v :: vs) (.cons (show AvOk K G F3 σ v (.imm d) from Rep.mono f3.sub r) rs)
  | al j =>
    refine hr F1 H1 σ env1 _ o1 ((want_bind w1).imp fun as env3 F3 H3 o3 f3 k3 vs rs => ?_)
    exact k3 o3 f3 F3 H3 o3 Fr.refl (v :: vs) (.cons (show AvOk K G F3 σ v (.al j) from r.1) rs)
  | fresh xs => exact w1.elim
theorem svsOf_spec {env : Env} : ∀ {as : List AV} {svs : List SV}, svsOf env as = some svs → svs.length = as.length ∧ ∀ (j : Nat) (a : AV), as[j]? = some a → ∃ s : SV, svs[j]? = some s ∧ svOf env a = some s
  | [], svs, h => by cases h; exact ⟨rfl, fun j a e => by simp at e⟩
  | a :: as, svs, h => by
    unfold svsOf at h
    cases e1 : svOf env a with
    | none => rw [e1] at h; cases h
    | some s =>
      cases e2 : svsOf env as with
      | none => rw [e1, e2] at h; cases h
      | some ss =>
        rw [e1, e2] at h
        cases h
        obtain ⟨l, g⟩ := svsOf_spec e2
        refine ⟨by simp [l], fun j b e => ?_⟩
        cases j with
        | zero => simp at e; subst e; exact ⟨s, rfl, e1⟩
        | succ j => simp at e; obtain ⟨t, q1, q2⟩ := g j b e; exact ⟨t, by simpa using q1, q2⟩
theorem mem_als {k : Nat} : ∀ {as : List AV}, k ∈ alsOf as → ∃ j : Nat, as[j]? = some (.al k)
  | [], h => by simp [alsOf] at h
  | .imm d :: as, h => by
    obtain ⟨j, e⟩ := mem_als (as := as) h
    exact ⟨j + 1, by simpa using e⟩
  | .al i :: as, h => by
    unfold alsOf at h
    rcases List.mem_cons.mp h with rfl | h
    · exact ⟨0, rfl⟩
    · obtain ⟨j, e⟩ := mem_als (as := as) h
      exact ⟨j + 1, by simpa using e⟩
theorem als_mem {k : Nat} : ∀ {as : List AV} {j : Nat}, as[j]? = some (.al k) → k ∈ alsOf as
  | [], j, h => by simp at h
  | .imm d :: as, 0, h => by simp at h
  | .imm d :: as, j + 1, h => als_mem (as := as) (j := j) (by simpa using h)
  | .al i :: as, 0, h => by
    simp at h
    subst h
    unfold alsOf
    exact List.mem_cons_self
  | .al i :: as, j + 1, h => by
    unfold alsOf
    exact List.mem_cons_of_mem _ (als_mem (as := as) (j := j) (by simpa using h))
theorem backs_spec {env : Env} : ∀ {as : List AV} {us : List SV} {env' : Env}, backs env as us = some env' → (alsOf as).Nodup → env'.length = env.length ∧ (∀ k, k ∉ alsOf as → env'[k]? = env[k]?) ∧
    ∀ (j k : Nat), as[j]? = some (.al k) → ∃ (t u u' : SV), env[k]? = some t ∧ us[j]? = some u ∧ backSv t u = some u' ∧ env'[k]? = some u'
  | [], us, env', h, _ => by cases h; exact ⟨rfl, fun _ _ => rfl, fun j k e => by simp at e⟩
  | .imm d :: as, [], env', h, _ => by cases h
  | .imm d :: as, u :: us, env', h, nd => by
    obtain ⟨a, b, c⟩ := backs_spec (as := as) (us := us) h nd
    refine ⟨a, b, fun j k e => ?_⟩
    cases j with
    | zero => simp at e
    | succ j => simp at e; simpa using c j k e
  | .al i :: as, [], env', h, _ => by cases h
  | .al i :: as, u :: us, env', h, nd => by
    unfold backs at h
    simp only at h
    cases e1 : env[i]? with
    | none => rw [e1] at h; cases h
    | some t =>
      cases e2 : backs env as us with
      | none => rw [e1, e2] at h; cases h
      | some e =>
        rw [e1, e2] at h
        simp only at h
        cases e3 : backSv t u with
        | none => rw [e3] at h; cases h
        | some u' =>
          rw [e3] at h
          cases h
          have nd' : i ∉ alsOf as ∧ (alsOf as).Nodup := List.nodup_cons.mp (show (i :: alsOf as).Nodup from nd)
          obtain ⟨a, b, c⟩ := backs_spec e2 nd'.2
          have hi : i < e.length := by rw [a]; exact (List.getElem?_eq_some_iff.mp e1).1
          refine ⟨by rw [List.length_set]; exact a, fun k hk => ?_, fun j k ej => ?_⟩
          · have : i ≠ k ∧ k ∉ alsOf as := ⟨fun z => hk (by rw [← z]; exact List.mem_cons_self), fun z => hk (List.mem_cons_of_mem _ z)⟩
            rw [List.getElem?_set_ne this.1]
            exact b k this.2
          · cases j with
            | zero =>
              simp at ej
              subst ej
              exact ⟨t, u, u', e1, rfl, e3, by rw [List.getElem?_set_self hi]⟩
            | succ j =>
              simp at ej
              obtain ⟨t2, u2, u3, q1, q2, q3, q4⟩ := c j k ej
              have : i ≠ k := fun z => nd'.1 (by rw [z]; exact als_mem ej)
              exact ⟨t2, u2, u3, q1, by simpa using q2, q3, by rw [List.getElem?_set_ne this]; exact q4⟩
theorem backSv_mut {t u u' : SV} (h : backSv t u = some u') (m : u'.mut = true) : t.mut = true := by
  cases t <;> cases u <;> simp_all [backSv] <;> (subst h; simp_all [SV.mut])
theorem backSv_lent {t u u' : SV} (h : backSv t u = some u') (m : u'.lent = true) : t.lent = true := by
  cases t <;> cases u <;> simp_all [backSv] <;> (subst h; simp_all [SV.lent])
theorem call_args {F H : Hp} {σ : L2.St} {env : Env} {vs : List V} {as : List AV} {svs : List SV} (o : Ok K G F H σ env) (r : AvsOk K G F σ vs as) (nd : (alsOf as).Nodup) (hs : svsOf env as = some svs) :
    Ok K G F H (vs.map some) svs ∧ ∀ a, Own (vs.map some) svs a → ∃ (j k : Nat) (t : SV), as[j]? = some (.al k) ∧ σ[k]? = some (some (.ref a)) ∧ env[k]? = some t ∧ t.mut = true := by
  obtain ⟨l, g⟩ := svsOf_spec hs
  have at_ : ∀ {j : Nat} {v : V} {s : SV}, vs[j]? = some v → svs[j]? = some s → ∃ a, as[j]? = some a ∧ AvOk K G F σ v a ∧ svOf env a = some s := fun {j v s} e1 e2 => by
    obtain ⟨a, h1, h2⟩ := r.get e1
    obtain ⟨s', q1, q2⟩ := g j a h1
    rw [e2] at q1; cases q1
    exact ⟨a, h1, h2, q2⟩
  have own : ∀ {j : Nat} {a : Addr} {s : SV}, svs[j]? = some s → s.mut = true → (vs.map some)[j]? = some (some (.ref a)) → ∃ (k : Nat) (t : SV), as[j]? = some (.al k) ∧ σ[k]? = some (some (.ref a)) ∧ env[k]? = some t ∧ t.mut = true := fun {j a s} h1 m h2 => by
    obtain ⟨v, hv, ev⟩ := map_some_get h2
    cases ev
    obtain ⟨b, q1, q2, q3⟩ := at_ hv h1
    cases b with
    | imm d => cases q3; cases m
    | al k =>
      refine ⟨k, ?_⟩
      unfold svOf at q3
      simp only at q3
      cases e : env[k]? with
      | none => rw [e] at q3; cases q3
      | some t =>
        refine ⟨t, q1, q2, rfl, ?_⟩
        rw [e] at q3
        cases t <;> simp at q3 <;> first | rfl | (subst q3; cases m)
  refine ⟨⟨o.sub, by rw [List.length_map, r.length, l], fun j ov s h1 h2 => ?_, fun j j2 s t a h1 m1 h2 h3 m2 h4 => ?_⟩, fun a ⟨j, s, h1, m, h2⟩ => ⟨j, own h1 m h2⟩⟩
  · obtain ⟨v, hv, ev⟩ := map_some_get h1
    subst ev
    obtain ⟨b, q1, q2, q3⟩ := at_ hv h2
    cases b with
    | imm d => cases q3; exact ⟨v, rfl, q2⟩
    | al k =>
      have q2' : σ[k]? = some (some v) := q2
      unfold svOf at q3
      simp only at q3
      cases e : env[k]? with
      | none => rw [e] at q3; cases q3
      | some t =>
        rw [e] at q3
        have q := o.slot k _ t q2' e
        cases t <;> simp at q3 <;> (subst q3; exact q)
  · obtain ⟨k, t1, a1, a2, a3, a4⟩ := own h1 m1 h2
    obtain ⟨k2, t2, b1, b2, b3, b4⟩ := own h3 m2 h4
    have ek := o.inj k k2 t1 t2 a a3 a4 a2 b3 b4 b2
    subst ek
    exact als_inj nd a1 b1
where
  als_inj {k : Nat} : ∀ {as : List AV} {i j : Nat}, (alsOf as).Nodup → as[i]? = some (.al k) → as[j]? = some (.al k) → i = j
    | [], i, j, _, h, _ => by simp at h
    | .imm d :: as, 0, j, _, h, _ => by simp at h
    | .imm d :: as, i + 1, 0, _, _, h => by simp at h
    | .imm d :: as, i + 1, j + 1, nd, h1, h2 => congrArg (· + 1) (als_inj (as := as) nd (by simpa using h1) (by simpa using h2))
    | .al m :: as, 0, 0, _, _, _ => rfl
    | .al m :: as, 0, j + 1, nd, h1, h2 => by
      simp at h1
      subst h1
      exact absurd (als_mem (as := as) (j := j) (by simpa using h2)) (List.nodup_cons.mp (show (m :: alsOf as).Nodup from nd)).1
    | .al m :: as, i + 1, 0, nd, h1, h2 => by
      simp at h2
      subst h2
      exact absurd (als_mem (as := as) (j := i) (by simpa using h1)) (List.nodup_cons.mp (show (m :: alsOf as).Nodup from nd)).1
    | .al m :: as, i + 1, j + 1, nd, h1, h2 => congrArg (· + 1) (als_inj (as := as) (List.nodup_cons.mp (show (m :: alsOf as).Nodup from nd)).2 (by simpa using h1) (by simpa using h2))
theorem call_back {F H F' H' : Hp} {σ : L2.St} {env env' : Env} {vs : List V} {as : List AV} {svs us : List SV} (o : Ok K G F H σ env) (r : AvsOk K G F σ vs as) (nd : (alsOf as).Nodup) (hs : svsOf env as = some svs)
    (hb : backs env as us = some env') (o' : Ok K G F' H' (vs.map some) us) (f' : Fr (vs.map some) svs F H (vs.map some) us F' H') : Ok K G F' H' σ env' ∧ Fr σ env F H σ env' F' H' := by
  obtain ⟨oa, own⟩ := call_args o r nd hs
  obtain ⟨bl, bo, bi⟩ := backs_spec hb nd
  have nown : ∀ {a : Addr}, Own (vs.map some) svs a → Own σ env a := fun {a} z => by
    obtain ⟨j, k, t, a1, a2, a3, a4⟩ := own a z
    exact ⟨k, t, a3, a4, a2⟩
  have back : ∀ {k : Nat} {s : SV}, env'[k]? = some s → ∃ t : SV, env[k]? = some t ∧ (s.mut = true → t.mut = true) ∧ (s.lent = true → t.lent = true) := fun {k s} h => by
    by_cases z : k ∈ alsOf as
    · obtain ⟨j, ej⟩ := mem_als z
      obtain ⟨t, u, u', q1, q2, q3, q4⟩ := bi j k ej
      rw [h] at q4; cases q4
      exact ⟨t, q1, backSv_mut q3, backSv_lent q3⟩
    · rw [bo k z] at h
      exact ⟨s, h, fun m => m, fun m => m⟩
  refine ⟨⟨o'.sub, by rw [bl]; exact o.len, fun k ov s h1 h2 => ?_, fun k l s t a h1 m1 h2 h3 m2 h4 => ?_⟩, ⟨f'.sub, fun a u h n => f'.keep a u h fun z => n (nown z), fun a h n f => f'.low a h (fun z => n (nown z)) f, fun a ⟨k, s, h1, m, h2⟩ => ?_, f'.there, fun k s h m => ⟨rfl, ?_⟩⟩⟩
  · by_cases z : k ∈ alsOf as
    · obtain ⟨j, ej⟩ := mem_als z
      obtain ⟨t, u, u', q1, q2, q3, q4⟩ := bi j k ej
      rw [h2] at q4; cases q4
      have hj : j < vs.length := by rw [r.length]; exact (List.getElem?_eq_some_iff.mp ej).1
      obtain ⟨a, e1, e2⟩ := r.get (List.getElem?_eq_getElem hj)
      rw [ej] at e1; cases e1
      have e2' : σ[k]? = some (some vs[j]) := e2
      rw [h1] at e2'; cases e2'
      have qs := o'.slot j (some vs[j]) u (by rw [List.getElem?_map, List.getElem?_eq_getElem hj]; rfl) q2
      have qo := o.slot k _ t h1 q1
      cases t <;> cases u <;> simp [backSv] at q3 <;> subst q3
      · obtain ⟨v, ev, rr⟩ := qo; exact ⟨v, ev, rr.mono f'.sub⟩
      · exact qs
      · exact qs
      · exact qs
    · rw [bo k z] at h2
      refine (o.slot k ov s h1 h2).mono f'.sub fun a u eo m e1 e2 => ?_
      have nn : ¬ Own (vs.map some) svs a := fun q => by
        obtain ⟨j, k2, t, a1, a2, a3, a4⟩ := own a q
        have := o.inj k k2 s t a h2 m (by rw [h1, eo]) a3 a4 a2
        subst this
        exact z (als_mem a1)
      exact ⟨f'.keep a u e1 nn, f'.low a (by rw [e1]; intro q; cases q) nn e2⟩
  · obtain ⟨t1, g1, n1, _⟩ := back h1
    obtain ⟨t2, g2, n2, _⟩ := back h3
    exact o.inj k l t1 t2 a g1 (n1 m1) h2 g2 (n2 m2) h4
  · obtain ⟨t, g1, n1, _⟩ := back h1
    exact .inl ⟨k, t, g1, n1 m, h2⟩
  · obtain ⟨t, g1, _, n1⟩ := back h
    exact ⟨t, g1, n1 m⟩
/-- f(..): the promise from the arguments -/
theorem call_ok {F H : Hp} {σ : L2.St} {env : Env} {vs : List V} {as : List AV} {den : List SV → Cal} {n : Nat} {Q : VK} (o : Ok K G F H σ env) (r : AvsOk K G F σ vs as)
    (w : Want K G W σ env F H (callM n den as env) (fun rv env' F' H' => ∀ v, RvOk K G F' H' H σ env' v rv → Q v H')) : spD K G n den vs H Q (fun cls d H' => W cls d σ H') := by
  unfold callM at w
  by_cases ndn : (alsOf as).Nodup ∧ as.length = n
  · rw [if_pos ndn] at w
    obtain ⟨nd, hn⟩ := ndn
    cases hs : svsOf env as with
    | none => rw [hs] at w; exact w.elim
    | some svs =>
      rw [hs] at w
      simp only at w
      obtain ⟨oa, own⟩ := call_args o r nd hs
      refine ⟨F, svs, by rw [r.length, hn], oa, ?_⟩
      cases e : den svs with
      | ok rv us =>
        rw [e] at w
        simp only at w
        intro v F' H' o' f' rr na
        cases hb : backs env as us with
        | none => rw [hb] at w; exact w.elim
        | some env' =>
          rw [hb] at w
          obtain ⟨k1, k2⟩ := call_back o r nd hs hb o' f'
          refine w F' H' k1 k2 v ?_
          cases rv with
          | imm d => exact rr
          | al i => exact (na i rfl).elim
          | fresh xs =>
            obtain ⟨p, ws, ev, q1, q2, q3, q4, q5⟩ := rr
            refine ⟨p, ws, ev, q1, q2, q3, fun z => ?_, q5⟩
            rcases k2.own p z with y | y
            · exact o.notOwn q3 y
            · obtain ⟨i, s, h1, m, h2⟩ := z
              obtain ⟨bl, bo, bi⟩ := backs_spec hb nd
              have : Own σ env p := by
                by_cases hz : i ∈ alsOf as
                · obtain ⟨j, ej⟩ := mem_als hz
                  obtain ⟨t, u, u', p1, p2, p3, p4⟩ := bi j i ej
                  rw [h1] at p4; cases p4
                  exact ⟨i, t, p1, backSv_mut p3 m, h2⟩
                · rw [bo i hz] at h1
                  exact ⟨i, s, h1, m, h2⟩
              exact o.notOwn q3 this
      | err x us =>
        rw [e] at w
        simp only at w
        intro cls d F' H' o' f' xo
        cases hb : backs env as us with
        | none => rw [hb] at w; exact w.elim
        | some env' =>
          rw [hb] at w
          obtain ⟨k1, k2⟩ := call_back o r nd hs hb o' f'
          exact w F' H' cls d k1 k2 xo
      | stuck => rw [e] at w; exact w.elim
  · rw [if_neg ndn] at w; exact w.elim
theorem sim_call {den : List SV → Cal} {n : Nat} (ha : SimA K G W ta fa) : SimE K G W (tCallSD (spD K G n den) [] (fun σ cls d H' => W cls d σ H') ta) (eCall n den fa) := fun F H σ env Q ok w => by
  refine ha F H σ env _ ok ((want_bind w).imp fun as env1 F1 H1 o1 f1 k vs rs => ?_)
  show spD K G n den (vs ++ []) H1 Q _
  rw [List.append_nil]
  exact call_ok o1 rs ((k o1 f1).imp fun rv env' F' H' _ _ q v r => q v (r.first fun a h => f1.new h))
end
end Dl
namespace Dl
open PySem L2

/-! ### readings of several forms -/
def rAddAll (K : PySem.W.Frag) : R2 := fun x y H Q => (rI0 fun i j => .int (i + j)) x y H Q ∨ (∃ i j, x = .str i ∧ y = .str j ∧ i.length + j.length ≤ sizeLine ∧ Q (.str (i ++ j)) H) ∨ rCat x y H Q ∨ rCatA K x y H Q
theorem op_addAll {X : Cx} : OpR X (binaryOp .Add) (rAddAll X.K) := op_add.or (op_add_str.or (op_cat.or op_catA))
def CDivG (_ j : Int) : Prop := j ≠ 0 ∧ j.natAbs.log2 < 9000
theorem op_fdivG {X : Cx} : OpR X (binaryOp .FloorDiv) (rI CDivG fun i j => .int (i.fdiv j)) := opI fun _ _ _ _ _ _ _ hc q => PyProof.Rows.floordiv_int hc.1 q (.inl (PyProof.noPylong_of_log2 hc.2))
def rMulAll (K : PySem.W.Frag) : R2 := fun x y H Q => (rI CMulW fun i j => .int (i * j)) x y H Q ∨ rRep x y H Q ∨ rRepT K x y H Q
theorem op_mulAll {X : Cx} : OpR X (binaryOp .Mult) (rMulAll X.K) := op_mulW.or (op_rep.or op_repT)
mutual
def D.toP : D → Option PyData
  | .non => some .none
  | .bl b => some (.bool b)
  | .int i => some (.int i)
  | .str x => some (.str x)
  | .tup ds => (D.toPs ds).map .tuple
  | .lst ds => (D.toPs ds).map .list
  | .rol ds => (D.toPs ds).map .list
  | .ins _ _ => none
  | .dk _ => none
def D.toPs : List D → Option (List PyData)
  | [] => some []
  | d :: ds => match D.toP d, D.toPs ds with
    | some p, some ps => some (p :: ps)
    | _, _ => none
end

/-! ### operations -/
def opAdd : D → D → Option RV
  | .int i, .int j => some (.imm (.int (i + j)))
  | .str x, .str y => if x.length + y.length ≤ LIM then some (.imm (.str (x ++ y))) else none
  | .lst xs, .lst ys => if xs.length + ys.length ≤ LIM then some (.fresh (xs ++ ys)) else none
  | .tup xs, .tup ys => if xs.length + ys.length ≤ LIM then some (.imm (.tup (xs ++ ys))) else none
  | _, _ => none
def opSub : D → D → Option RV
  | .int i, .int j => some (.imm (.int (i - j)))
  | _, _ => none
def opMul : D → D → Option RV
  | .int i, .int j => if i.natAbs.log2 + j.natAbs.log2 < 1000000 then some (.imm (.int (i * j))) else none
  | .lst xs, .int k => if -1000000 ≤ k ∧ k ≤ 1000000 ∧ xs.length * k.toNat ≤ LIM then some (.fresh (List.replicate k.toNat xs).flatten) else none
  | _, _ => none
def opFDiv : D → D → Option RV
  | .int i, .int j => if j ≠ 0 ∧ j.natAbs.log2 < 9000 then some (.imm (.int (i.fdiv j))) else none
  | _, _ => none
def opMod : D → D → Option RV
  | .int i, .int j => if j ≠ 0 then some (.imm (.int (i.fmod j))) else none
  | _, _ => none
def opPow : D → D → Option RV
  | .int i, .int j => if 0 ≤ j ∧ j ≤ 1000000 ∧ i.natAbs < 2 ^ 64 then some (.imm (.int (i ^ j.toNat))) else none
  | _, _ => none
def opNeg : D → Option RV
  | .int i => some (.imm (.int (-i)))
  | _ => none
def opLt : D → D → Option RV
  | .int i, .int j => some (.imm (.bl (decide (i < j))))
  | _, _ => none
def opLe : D → D → Option RV
  | .int i, .int j => some (.imm (.bl (decide (i ≤ j))))
  | _, _ => none
def opGt : D → D → Option RV
  | .int i, .int j => some (.imm (.bl (decide (j < i))))
  | _, _ => none
def opGe : D → D → Option RV
  | .int i, .int j => some (.imm (.bl (decide (j ≤ i))))
  | _, _ => none
def eqvD (d e : D) : Option Bool := match d.toP, e.toP with
  | some p, some q => if SeqAt.shaped p = true ∧ SeqAt.shaped q = true then some (PyData.eqv p q) else none
  | _, _ => none
def opEqD (d e : D) : Option RV := (eqvD d e).map fun b => .imm (.bl b)
def opNeD (d e : D) : Option RV := (eqvD d e).map fun b => .imm (.bl !b)
def D.isNon : D → Bool
  | .non => true
  | _ => false
/-- x is None -/
def opIsN (d : D) : Option RV := some (.imm (.bl d.isNon))
def opNotN (d : D) : Option RV := some (.imm (.bl !d.isNon))
def D.items : D → Option (List D)
  | .lst ds => some ds
  | .rol ds => some ds
  | .tup ds => some ds
  | _ => none
def opIx : D → D → Option RV
  | .str x, .int i => if x.length ≤ LIM then (match atI x.cps.toList i with
    | some c => some (.imm (.str ⟨#[c]⟩))
    | none => none) else none
  | d, .int i => match d.items with
    | some ds => (match atI ds i with
      | some e => some (.imm e)
      | none => none)
    | none => none
  | _, _ => none
def opLen : List D → Option RV
  | [.str x] => if x.length ≤ LIM then some (.imm (.int x.length)) else none
  | [d] => match d.items with
    | some ds => some (.imm (.int ds.length))
    | none => none
  | _ => none
def opAbs : List D → Option RV
  | [.int i] => some (.imm (.int (if i < 0 then -i else i)))
  | _ => none
def opMax2 : List D → Option RV
  | [.int i, .int j] => some (.imm (.int (if j > i then j else i)))
  | _ => none
def opMin2 : List D → Option RV
  | [.int i, .int j] => some (.imm (.int (if j < i then j else i)))
  | _ => none
def opInt1 : List D → Option RV
  | [.int i] => some (.imm (.int i))
  | [.bl b] => some (.imm (.int (if b then 1 else 0)))
  | _ => none
def opStrI : List D → Option RV
  | [.int i] => if i.natAbs.log2 < 1920 then some (.imm (.str (toString i))) else none
  | _ => none
def opList : List D → Option RV
  | [d] => match d.items with
    | some ds => if ds.length ≤ LIM then some (.fresh ds) else none
    | none => none
  | _ => none
def opTuple : List D → Option RV
  | [d] => match d.items with
    | some ds => some (.imm (.tup ds))
    | none => none
  | _ => none
def D.bools : List D → Option (List Bool)
  | [] => some []
  | .bl b :: r => (D.bools r).map (b :: ·)
  | _ :: _ => none
def D.ints : List D → Option (List Int)
  | [] => some []
  | .int b :: r => (D.ints r).map (b :: ·)
  | _ :: _ => none
def D.lists : D → Option (List D)
  | .lst ds => some ds
  | .rol ds => some ds
  | _ => none
def opAll : List D → Option RV
  | [d] => (d.lists.bind D.bools).map fun bs => .imm (.bl (bs.all id))
  | _ => none
def opAny : List D → Option RV
  | [d] => (d.lists.bind D.bools).map fun bs => .imm (.bl (bs.any id))
  | _ => none
def opSum : List D → Option RV
  | [d] => (d.lists.bind D.ints).map fun bs => .imm (.int bs.sum)
  | _ => none

section
variable {K : PySem.W.Frag} {G : Gs}
theorem pk_tupRep {F H : Hp} {v : V} {d : D} {ds : List D} (h : Pk K G.g F H v d) (e : d = .tup ds) : Rep K G.g F v (.tup ds) := by
  subst e
  cases h with | rep r => exact r
theorem reps_nil {F : Hp} {vs : List V} {ds : List D} (r : Reps K G F vs ds) (h : ds = []) : vs = [] := by subst h; cases r; rfl
theorem ok_add : OpOk K G (rAddAll K) opAdd := fun F H x y d e rv Q s px py ho q => by
  unfold opAdd at ho
  split at ho
  · cases ho; cases px.int_ rfl; cases py.int_ rfl; exact .inl ⟨_, _, rfl, rfl, here q s (.int _)⟩
  · split at ho
    · rename_i hz
      cases ho; cases px.str_ rfl; cases py.str_ rfl; exact .inr (.inl ⟨_, _, rfl, rfl, lim_line hz, here q s (.str _)⟩)
    · cases ho
  · split at ho
    · rename_i hz
      cases ho
      obtain ⟨a, vs, rfl, ha, ra⟩ := px.lst_ s rfl
      obtain ⟨b, ws, rfl, hb, rb⟩ := py.lst_ s rfl
      refine .inr (.inr (.inl ⟨a, b, vs, ws, rfl, rfl, ha, hb, lim_line (by rw [ra.length, rb.length]; exact hz), fun p hp => ?_⟩))
      exact q _ _ _ (Gr.apart s hp) ⟨p, _, rfl, upd_same, s.none hp, hp, ra.append rb⟩
    · cases ho
  · split at ho
    · rename_i hz
      cases ho
      obtain ⟨a, vs, rfl, ha, ra⟩ := px.tup_ s rfl
      obtain ⟨b, ws, rfl, hb, rb⟩ := py.tup_ s rfl
      have rx := pk_tupRep px rfl
      have ry := pk_tupRep py rfl
      refine .inr (.inr (.inr ⟨a, b, vs, ws, rfl, rfl, ha, hb, lim_line (by rw [ra.length, rb.length]; exact hz), fun z => ?_, fun _ z => ?_, fun _ _ p hp => ?_⟩))
      · subst z
        cases ra
        exact here q s ry
      · subst z
        cases rb
        rw [List.append_nil] at q
        exact here q s rx
      · exact q _ _ _ (Gr.told s hp) (.tup (SqT.of upd_same) ((ra.append rb).mono (Le.upd (s.none hp))))
    · cases ho
  · cases ho
theorem ok_sub : OpOk K G (rI0 fun i j => .int (i - j)) opSub := fun F H x y d e rv Q s px py ho q => by
  unfold opSub at ho
  split at ho
  · cases ho; cases px.int_ rfl; cases py.int_ rfl; exact ⟨_, _, rfl, rfl, here q s (.int _)⟩
  · cases ho
theorem reps_flat {F : Hp} {vs : List V} {ds : List D} (r : Reps K G F vs ds) : ∀ k : Nat, Reps K G F (List.replicate k vs).flatten (List.replicate k ds).flatten
  | 0 => .nil
  | k + 1 => by
    rw [List.replicate_succ, List.replicate_succ, List.flatten_cons, List.flatten_cons]
    exact r.append (reps_flat r k)
theorem ok_mul : OpOk K G (rMulAll K) opMul := fun F H x y d e rv Q s px py ho q => by
  unfold opMul at ho
  split at ho
  · split at ho
    · rename_i hz
      cases ho; cases px.int_ rfl; cases py.int_ rfl; exact .inl ⟨_, _, rfl, rfl, hz, here q s (.int _)⟩
    · cases ho
  · split at ho
    · rename_i hz
      cases ho
      obtain ⟨a, vs, rfl, ha, ra⟩ := px.lst_ s rfl
      cases py.int_ rfl
      obtain ⟨h1, h2, h3⟩ := hz
      refine .inr (.inl ⟨a, _, vs, rfl, rfl, ha, by omega, by omega, lim_line (by rw [ra.length]; exact h3), fun p hp => ?_⟩)
      exact q _ _ _ (Gr.apart s hp) ⟨p, _, rfl, upd_same, s.none hp, hp, reps_flat ra _⟩
    · cases ho
  · cases ho
theorem ok_fdiv : OpOk K G (rI CDivG fun i j => .int (i.fdiv j)) opFDiv := fun F H x y d e rv Q s px py ho q => by
  unfold opFDiv at ho
  split at ho
  · split at ho
    · rename_i hz
      cases ho; cases px.int_ rfl; cases py.int_ rfl; exact ⟨_, _, rfl, rfl, hz, here q s (.int _)⟩
    · cases ho
  · cases ho
theorem ok_mod : OpOk K G (rI (fun _ j => j ≠ 0) fun i j => .int (i.fmod j)) opMod := fun F H x y d e rv Q s px py ho q => by
  unfold opMod at ho
  split at ho
  · split at ho
    · rename_i hz
      cases ho; cases px.int_ rfl; cases py.int_ rfl; exact ⟨_, _, rfl, rfl, hz, here q s (.int _)⟩
    · cases ho
  · cases ho
theorem ok_pow : OpOk K G (rI CPow fun i j => .int (i ^ j.toNat)) opPow := fun F H x y d e rv Q s px py ho q => by
  unfold opPow at ho
  split at ho
  · split at ho
    · rename_i hz
      cases ho; cases px.int_ rfl; cases py.int_ rfl; exact ⟨_, _, rfl, rfl, hz, here q s (.int _)⟩
    · cases ho
  · cases ho
theorem ok_neg : UnOk K G (rU fun i => .int (-i)) opNeg := fun F H x d rv Q s px ho q => by
  unfold opNeg at ho
  split at ho
  · cases ho; cases px.int_ rfl; exact ⟨_, rfl, here q s (.int _)⟩
  · cases ho
theorem ok_lt : OpOk K G (rI0 fun i j => .bl (decide (i < j))) opLt := fun F H x y d e rv Q s px py ho q => by
  unfold opLt at ho
  split at ho
  · cases ho; cases px.int_ rfl; cases py.int_ rfl; exact ⟨_, _, rfl, rfl, here q s (.bl _)⟩
  · cases ho
theorem ok_le : OpOk K G (rI0 fun i j => .bl (decide (i ≤ j))) opLe := fun F H x y d e rv Q s px py ho q => by
  unfold opLe at ho
  split at ho
  · cases ho; cases px.int_ rfl; cases py.int_ rfl; exact ⟨_, _, rfl, rfl, here q s (.bl _)⟩
  · cases ho
theorem ok_gt : OpOk K G (rI0 fun i j => .bl (decide (j < i))) opGt := fun F H x y d e rv Q s px py ho q => by
  unfold opGt at ho
  split at ho
  · cases ho; cases px.int_ rfl; cases py.int_ rfl; exact ⟨_, _, rfl, rfl, here q s (.bl _)⟩
  · cases ho
theorem ok_ge : OpOk K G (rI0 fun i j => .bl (decide (j ≤ i))) opGe := fun F H x y d e rv Q s px py ho q => by
  unfold opGe at ho
  split at ho
  · cases ho; cases px.int_ rfl; cases py.int_ rfl; exact ⟨_, _, rfl, rfl, here q s (.bl _)⟩
  · cases ho
/-! data in the heap -/
mutual
theorem dp_of {F H : Hp} (s : Le F H) : ∀ {d : D} {v : V} {p : PyData}, Rep K G.g F v d → d.toP = some p → Dp K H v p
  | .non, _, _, .non, e => by cases e; exact .non
  | .bl b, _, _, .bl _, e => by cases e; exact .bl b
  | .int i, _, _, .int _, e => by cases e; exact .int i
  | .str x, _, _, .str _, e => by cases e; exact .str x
  | .tup ds, _, _, .tup h r, e => by
    unfold D.toP at e
    cases e2 : D.toPs ds with
    | none => rw [e2] at e; cases e
    | some ps => rw [e2] at e; cases e; exact .tup (sqT_le s h) (dps_of s r e2)
  | .lst ds, _, _, .lst h r, e => by
    unfold D.toP at e
    cases e2 : D.toPs ds with
    | none => rw [e2] at e; cases e
    | some ps => rw [e2] at e; cases e; exact .lst (SqL.of (s _ _ h)) (dps_of s r e2)
  | .rol ds, _, _, .rol h r, e => by
    unfold D.toP at e
    cases e2 : D.toPs ds with
    | none => rw [e2] at e; cases e
    | some ps => rw [e2] at e; cases e; exact .lst (sqL_le s h) (dps_of s r e2)
  | .ins c fs, _, _, _, e => by cases e
  | .dk kvs, _, _, _, e => by cases e
theorem dps_of {F H : Hp} (s : Le F H) : ∀ {ds : List D} {vs : List V} {ps : List PyData}, Reps K G.g F vs ds → D.toPs ds = some ps → DpAll K H vs ps
  | [], _, _, .nil, e => by cases e; exact .nil
  | d :: ds, _, _, .cons h r, e => by
    unfold D.toPs at e
    cases e1 : D.toP d with
    | none => rw [e1] at e; cases e
    | some p =>
      cases e2 : D.toPs ds with
      | none => rw [e1, e2] at e; cases e
      | some ps => rw [e1, e2] at e; cases e; exact .cons (dp_of s h e1) (dps_of s r e2)
end
theorem pk_dp {F H : Hp} (s : Le F H) {d : D} {v : V} {p : PyData} (h : Pk K G.g F H v d) (e : d.toP = some p) : Dp K H v p := by
  cases h with
  | rep r => exact dp_of s r e
  | lst h r =>
    unfold D.toP at e
    cases e2 : D.toPs _ with
    | none => rw [e2] at e; cases e
    | some ps => rw [e2] at e; cases e; exact .lst (SqL.of h) (dps_of s r e2)
theorem eqvD_some {d e : D} {b : Bool} (h : eqvD d e = some b) : ∃ p q, d.toP = some p ∧ e.toP = some q ∧ SeqAt.shaped p = true ∧ SeqAt.shaped q = true ∧ b = PyData.eqv p q := by
  unfold eqvD at h
  split at h
  · rename_i p q h1 h2
    split at h
    · rename_i hz
      cases h
      exact ⟨p, q, h1, h2, hz.1, hz.2, rfl⟩
    · cases h
  · cases h
theorem ok_eqD : OpOk K G (rEqD K) opEqD := fun F H x y d e rv Q s px py ho q => by
  unfold opEqD at ho
  cases e1 : eqvD d e with
  | none => rw [e1] at ho; cases ho
  | some b =>
    rw [e1] at ho
    cases ho
    obtain ⟨p, p2, h1, h2, h3, h4, rfl⟩ := eqvD_some e1
    exact ⟨p, p2, pk_dp s px h1, pk_dp s py h2, h3, h4, here q s (.bl _)⟩
theorem ok_neD : OpOk K G (rNeD K) opNeD := fun F H x y d e rv Q s px py ho q => by
  unfold opNeD at ho
  cases e1 : eqvD d e with
  | none => rw [e1] at ho; cases ho
  | some b =>
    rw [e1] at ho
    cases ho
    obtain ⟨p, p2, h1, h2, h3, h4, rfl⟩ := eqvD_some e1
    exact ⟨p, p2, pk_dp s px h1, pk_dp s py h2, h3, h4, here q s (.bl _)⟩
theorem pk_isNon {F H : Hp} {d : D} {v : V} (h : Pk K G.g F H v d) : decide (v = .non) = d.isNon := by
  cases h with
  | rep r => cases r <;> first | rfl | (unfold D.isNon; simp)
  | lst h r => unfold D.isNon; simp
theorem pk_items {F H : Hp} {d : D} {v : V} {ds : List D} (s : Le F H) (h : Pk K G.g F H v d) (e : d.items = some ds) : ∃ p vs, v = .ref p ∧ (SqL K H p vs ∨ SqT K H p vs) ∧ Reps K G.g F vs ds := by
  unfold D.items at e
  split at e
  · cases e; obtain ⟨p, vs, e, h, r⟩ := h.lst_ s rfl; exact ⟨p, vs, e, .inl (SqL.of h), r⟩
  · cases e; obtain ⟨p, vs, e, h, r⟩ := h.rol_ s rfl; exact ⟨p, vs, e, .inl h, r⟩
  · cases e; obtain ⟨p, vs, e, h, r⟩ := h.tup_ s rfl; exact ⟨p, vs, e, .inr h, r⟩
  · cases e
theorem reps_at {F : Hp} {vs : List V} {ds : List D} {i : Int} {d : D} (r : Reps K G F vs ds) (h : atI ds i = some d) : ∃ v, atI vs i = some v ∧ Rep K G F v d := by
  unfold atI at h ⊢
  rw [r.length]
  cases e : ixN ds.length i with
  | none => rw [e] at h; cases h
  | some j => rw [e] at h; exact r.get' h
theorem ok_ix : OpOk K G (rIx K) opIx := fun F H x y d e rv Q s px py ho q => by
  unfold opIx at ho
  split at ho
  · split at ho
    · rename_i hz
      split at ho
      · rename_i hc
        cases ho; cases px.str_ rfl; cases py.int_ rfl
        exact .inr (.inr ⟨_, _, _, rfl, rfl, lim_line hz, hc, here q s (.str _)⟩)
      · cases ho
    · cases ho
  · rename_i d i
    split at ho
    · rename_i ds hd
      split at ho
      · rename_i e' he
        cases ho
        cases py.int_ rfl
        obtain ⟨p, vs, rfl, hp, r⟩ := pk_items s px hd
        obtain ⟨v, hv, rv⟩ := reps_at r he
        rcases hp with hp | hp
        · exact .inl ⟨p, vs, _, v, rfl, rfl, hp, hv, here q s rv⟩
        · exact .inr (.inl ⟨p, vs, _, v, rfl, rfl, hp, hv, here q s rv⟩)
      · cases ho
    · cases ho
  · cases ho
/-- calls of one argument, of two -/
theorem pks1 {F H : Hp} {xs : List V} {d : D} (h : Pks K G F H xs [d]) : ∃ x, xs = [x] ∧ Pk K G F H x d := by
  cases h with | cons h r => cases r; exact ⟨_, rfl, h⟩
theorem pks2 {F H : Hp} {xs : List V} {d e : D} (h : Pks K G F H xs [d, e]) : ∃ x y, xs = [x, y] ∧ Pk K G F H x d ∧ Pk K G F H y e := by
  cases h with | cons h r => cases r with | cons h2 r => cases r; exact ⟨_, _, rfl, h, h2⟩
theorem ok_len : CbOk K G (fun xs H Q => ∃ x n, xs = [x] ∧ LenV K x H n ∧ Q (.int n) H) opLen := fun F H xs ds rv Q s ps ho q => by
  unfold opLen at ho
  split at ho
  · split at ho
    · rename_i hz
      cases ho
      obtain ⟨x, rfl, px⟩ := pks1 ps
      cases px.str_ rfl
      exact ⟨_, _, rfl, ⟨lim_line hz, rfl⟩, here q s (.int _)⟩
    · cases ho
  · split at ho
    · rename_i d _ es hd
      cases ho
      obtain ⟨x, rfl, px⟩ := pks1 ps
      obtain ⟨p, vs, rfl, hp, r⟩ := pk_items s px hd
      refine ⟨_, vs.length, rfl, ?_, ?_⟩
      · rcases hp with hp | hp
        · exact .inl ⟨vs, hp, rfl⟩
        · exact .inr ⟨vs, hp, rfl⟩
      · rw [r.length]; exact here q s (.int _)
    · cases ho
  · cases ho
theorem ok_abs : CbOk K G (fun xs H Q => ∃ i, xs = [.int i] ∧ Q (.int (if i < 0 then -i else i)) H) opAbs := fun F H xs ds rv Q s ps ho q => by
  unfold opAbs at ho
  split at ho
  · cases ho; obtain ⟨x, rfl, px⟩ := pks1 ps; cases px.int_ rfl; exact ⟨_, rfl, here q s (.int _)⟩
  · cases ho
theorem ok_max2 : CbOk K G (fun xs H Q => ∃ i j, xs = [.int i, .int j] ∧ Q (.int (if j > i then j else i)) H) opMax2 := fun F H xs ds rv Q s ps ho q => by
  unfold opMax2 at ho
  split at ho
  · cases ho; obtain ⟨x, y, rfl, px, py⟩ := pks2 ps; cases px.int_ rfl; cases py.int_ rfl; exact ⟨_, _, rfl, here q s (.int _)⟩
  · cases ho
theorem ok_min2 : CbOk K G (fun xs H Q => ∃ i j, xs = [.int i, .int j] ∧ Q (.int (if j < i then j else i)) H) opMin2 := fun F H xs ds rv Q s ps ho q => by
  unfold opMin2 at ho
  split at ho
  · cases ho; obtain ⟨x, y, rfl, px, py⟩ := pks2 ps; cases px.int_ rfl; cases py.int_ rfl; exact ⟨_, _, rfl, here q s (.int _)⟩
  · cases ho
theorem ok_int1 : CbOk K G (fun xs H Q => (∃ i, xs = [.int i] ∧ Q (.int i) H) ∨ ∃ k, xs = [.bl k] ∧ Q (.int (if k then 1 else 0)) H) opInt1 := fun F H xs ds rv Q s ps ho q => by
  unfold opInt1 at ho
  split at ho
  · cases ho; obtain ⟨x, rfl, px⟩ := pks1 ps; cases px.int_ rfl; exact .inl ⟨_, rfl, here q s (.int _)⟩
  · cases ho; obtain ⟨x, rfl, px⟩ := pks1 ps; cases px.bl_ rfl; exact .inr ⟨_, rfl, here q s (.int _)⟩
  · cases ho
theorem ok_strI : CbOk K G (fun xs H Q => ∃ i, xs = [.int i] ∧ i.natAbs.log2 < 1920 ∧ Q (.str (toString i)) H) opStrI := fun F H xs ds rv Q s ps ho q => by
  unfold opStrI at ho
  split at ho
  · split at ho
    · rename_i hz
      cases ho; obtain ⟨x, rfl, px⟩ := pks1 ps; cases px.int_ rfl; exact ⟨_, rfl, hz, here q s (.str _)⟩
    · cases ho
  · cases ho
theorem ok_list : CbOk K G (fun xs H Q => ∃ p ys, xs = [.ref p] ∧ (SqL K H p ys ∨ SqT K H p ys) ∧ ∀ l, H l = none → Q (.ref l) (upd H l (.lst ys))) opList := fun F H xs ds rv Q s ps ho q => by
  unfold opList at ho
  split at ho
  · split at ho
    · rename_i d es hd
      split at ho
      · cases ho
        obtain ⟨x, rfl, px⟩ := pks1 ps
        obtain ⟨p, vs, rfl, hp, r⟩ := pk_items s px hd
        exact ⟨p, vs, rfl, hp, fun l hl => q _ _ _ (Gr.apart s hl) ⟨l, vs, rfl, upd_same, s.none hl, hl, r⟩⟩
      · cases ho
    · cases ho
  · cases ho
theorem ok_tuple : CbOk K G (fun xs H Q => ∃ p ys, xs = [.ref p] ∧ ((SqL K H p ys ∧ ∀ l, H l = none → Q (.ref l) (upd H l (.tup ys))) ∨ (SqT K H p ys ∧ Q (.ref p) H))) opTuple := fun F H xs ds rv Q s ps ho q => by
  unfold opTuple at ho
  split at ho
  · rename_i d
    split at ho
    · rename_i es hd
      cases ho
      obtain ⟨x, rfl, px⟩ := pks1 ps
      unfold D.items at hd
      split at hd
      · cases hd
        obtain ⟨p, vs, rfl, hp, r⟩ := px.lst_ s rfl
        exact ⟨p, vs, rfl, .inl ⟨SqL.of hp, fun l hl => q _ _ _ (Gr.told s hl) (.tup (SqT.of upd_same) (r.mono (Le.upd (s.none hl))))⟩⟩
      · cases hd
        obtain ⟨p, vs, rfl, hp, r⟩ := px.rol_ s rfl
        exact ⟨p, vs, rfl, .inl ⟨hp, fun l hl => q _ _ _ (Gr.told s hl) (.tup (SqT.of upd_same) (r.mono (Le.upd (s.none hl))))⟩⟩
      · cases hd
        obtain ⟨p, vs, rfl, hp, r⟩ := px.tup_ s rfl
        have rx := pk_tupRep px rfl
        exact ⟨p, vs, rfl, .inr ⟨hp, here q s rx⟩⟩
      · cases hd
    · cases ho
  · cases ho
theorem reps_bools {F : Hp} : ∀ {ds : List D} {vs : List V} {bs : List Bool}, Reps K G F vs ds → D.bools ds = some bs → vs = bs.map V.bl
  | [], _, _, .nil, e => by cases e; rfl
  | .bl b :: ds, _, bs, .cons h r, e => by
    unfold D.bools at e
    cases e2 : D.bools ds with
    | none => rw [e2] at e; cases e
    | some cs => rw [e2] at e; cases e; cases h; rw [reps_bools r e2]; rfl
  | .non :: ds, _, _, _, e => by cases e
  | .int _ :: ds, _, _, _, e => by cases e
  | .str _ :: ds, _, _, _, e => by cases e
  | .tup _ :: ds, _, _, _, e => by cases e
  | .lst _ :: ds, _, _, _, e => by cases e
  | .rol _ :: ds, _, _, _, e => by cases e
  | .ins _ _ :: ds, _, _, _, e => by cases e
  | .dk _ :: ds, _, _, _, e => by cases e
theorem reps_ints {F : Hp} : ∀ {ds : List D} {vs : List V} {bs : List Int}, Reps K G F vs ds → D.ints ds = some bs → vs = bs.map V.int
  | [], _, _, .nil, e => by cases e; rfl
  | .int b :: ds, _, bs, .cons h r, e => by
    unfold D.ints at e
    cases e2 : D.ints ds with
    | none => rw [e2] at e; cases e
    | some cs => rw [e2] at e; cases e; cases h; rw [reps_ints r e2]; rfl
  | .non :: ds, _, _, _, e => by cases e
  | .bl _ :: ds, _, _, _, e => by cases e
  | .str _ :: ds, _, _, _, e => by cases e
  | .tup _ :: ds, _, _, _, e => by cases e
  | .lst _ :: ds, _, _, _, e => by cases e
  | .rol _ :: ds, _, _, _, e => by cases e
  | .ins _ _ :: ds, _, _, _, e => by cases e
  | .dk _ :: ds, _, _, _, e => by cases e
theorem pk_lists {F H : Hp} {d : D} {v : V} {ds : List D} (s : Le F H) (h : Pk K G.g F H v d) (e : d.lists = some ds) : ∃ p vs, v = .ref p ∧ SqL K H p vs ∧ Reps K G.g F vs ds := by
  unfold D.lists at e
  split at e
  · cases e; obtain ⟨p, vs, e, h, r⟩ := h.lst_ s rfl; exact ⟨p, vs, e, SqL.of h, r⟩
  · cases e; exact h.rol_ s rfl
  · cases e
theorem ok_all : CbOk K G (rAll K) opAll := fun F H xs ds rv Q s ps ho q => by
  unfold opAll at ho
  split at ho
  · rename_i d
    cases e1 : d.lists with
    | none => rw [e1] at ho; cases ho
    | some es =>
      rw [e1] at ho
      simp only [Option.bind_some] at ho
      cases e2 : D.bools es with
      | none => rw [e2] at ho; cases ho
      | some bs =>
        rw [e2] at ho; cases ho
        obtain ⟨x, rfl, px⟩ := pks1 ps
        obtain ⟨p, vs, rfl, hp, r⟩ := pk_lists s px e1
        exact ⟨p, bs, rfl, by rw [← reps_bools r e2]; exact hp, here q s (.bl _)⟩
  · cases ho
theorem ok_any : CbOk K G (rAny K) opAny := fun F H xs ds rv Q s ps ho q => by
  unfold opAny at ho
  split at ho
  · rename_i d
    cases e1 : d.lists with
    | none => rw [e1] at ho; cases ho
    | some es =>
      rw [e1] at ho
      simp only [Option.bind_some] at ho
      cases e2 : D.bools es with
      | none => rw [e2] at ho; cases ho
      | some bs =>
        rw [e2] at ho; cases ho
        obtain ⟨x, rfl, px⟩ := pks1 ps
        obtain ⟨p, vs, rfl, hp, r⟩ := pk_lists s px e1
        exact ⟨p, bs, rfl, by rw [← reps_bools r e2]; exact hp, here q s (.bl _)⟩
  · cases ho
theorem ok_sum : CbOk K G (rSum K) opSum := fun F H xs ds rv Q s ps ho q => by
  unfold opSum at ho
  split at ho
  · rename_i d
    cases e1 : d.lists with
    | none => rw [e1] at ho; cases ho
    | some es =>
      rw [e1] at ho
      simp only [Option.bind_some] at ho
      cases e2 : D.ints es with
      | none => rw [e2] at ho; cases ho
      | some bs =>
        rw [e2] at ho; cases ho
        obtain ⟨x, rfl, px⟩ := pks1 ps
        obtain ⟨p, vs, rfl, hp, r⟩ := pk_lists s px e1
        exact ⟨p, bs, rfl, by rw [← reps_ints r e2]; exact hp, here q s (.int _)⟩
  · cases ho
end
end Dl
namespace Dl
open PySem L2

/-! ### what is walked -/
/-- a list or a tuple, given up -/
def iSeqM (fe : M RV) : M (List D) := bindM fe fun r => bindM (settle r) fun d => liftM d.items
def iRng1M (f : M (List RV)) : M (List D) := bindM f fun as => fun env => match peeks env as with
  | some [.int j] => if -(2 ^ 62) ≤ j ∧ j < 2 ^ 62 then .ok ((List.range j.toNat).map fun (k : Nat) => D.int k) env else .stuck
  | _ => .stuck
def iRng2M (f : M (List RV)) : M (List D) := bindM f fun as => fun env => match peeks env as with
  | some [.int i, .int j] => if (-(2 ^ 62) ≤ i ∧ i < 2 ^ 62) ∧ -(2 ^ 62) ≤ j ∧ j < 2 ^ 62 then .ok ((List.range (j - i).toNat).map fun (k : Nat) => D.int (i + k)) env else .stuck
  | _ => .stuck
section
variable {K : PySem.W.Frag} {G : Gs} {W : WX}
theorem itd_list {F : Hp} {a : Addr} {vs : List V} {ds : List D} (h : SqL K F a vs) (r : Reps K G.g F vs ds) : ItD K G F (Itl K a) ds := fun i F' H' l s => by
  have hq := sqL_le (l.trans s) h
  refine ⟨fun d hd => ?_, fun hd => ⟨vs, hq, ?_⟩⟩
  · obtain ⟨v, hv, rv⟩ := r.get' hd
    refine ⟨⟨vs, v, hq, hv⟩, fun x H'' y => ?_⟩
    obtain ⟨rfl, y⟩ := y
    have := y vs hq
    rw [hv] at this; cases this
    exact ⟨F', Gr.refl s, rv.mono l⟩
  · have := List.getElem?_eq_none_iff.mp hd
    rw [r.length]; exact this
theorem itd_tup {F : Hp} {a : Addr} {vs : List V} {ds : List D} (h : SqT K F a vs) (r : Reps K G.g F vs ds) : ItD K G F (Itt K a) ds := fun i F' H' l s => by
  have hq := sqT_le (l.trans s) h
  refine ⟨fun d hd => ?_, fun hd => ⟨vs, hq, ?_⟩⟩
  · obtain ⟨v, hv, rv⟩ := r.get' hd
    refine ⟨⟨vs, v, hq, hv⟩, fun x H'' y => ?_⟩
    obtain ⟨rfl, y⟩ := y
    have := y vs hq
    rw [hv] at this; cases this
    exact ⟨F', Gr.refl s, rv.mono l⟩
  · have := List.getElem?_eq_none_iff.mp hd
    rw [r.length]; exact this
theorem itd_rng {F : Hp} {lo : Int} {n : Nat} : ItD K G F (Itr lo n) ((List.range n).map fun (k : Nat) => D.int (lo + k)) := fun i F' H' l s => by
  refine ⟨fun d hd => ?_, fun hd => ?_⟩
  · rw [List.getElem?_map] at hd
    have hi : i < n := by
      by_cases z : i < n
      · exact z
      · rw [List.getElem?_eq_none (by rw [List.length_range]; omega)] at hd; cases hd
    rw [List.getElem?_range hi] at hd
    cases hd
    refine ⟨hi, fun x H'' y => ?_⟩
    obtain ⟨rfl, rfl⟩ := y
    exact ⟨F', Gr.refl s, .int _⟩
  · have := List.getElem?_eq_none_iff.mp hd
    rw [List.length_map, List.length_range] at this
    exact this
/-- either a list or a tuple -/
def iSeq (K : PySem.W.Frag) (te : TE) : TI := fun σ H R => te σ H fun x H1 => ∃ a, x = .ref a ∧ (((∃ xs, SqL K H1 a xs) ∧ R (Itl K a) H1) ∨ ((∃ xs, SqT K H1 a xs) ∧ R (Itt K a) H1))
theorem pi_seq {X : Cx} {tg l : Expr} {tl : TE} (hl : PE X l tl) : PI X tg l (iSeq X.K tl) := by
  refine ⟨fun pins s σ H R I h => ?_⟩
  refine thn (hl.run pins s σ H _ I h) fun v s1 ⟨x, H1, I1, r1, q1⟩ => ?_
  obtain ⟨a, e, ⟨⟨xs, hq⟩, q⟩ | ⟨⟨xs, hq⟩, q⟩⟩ := q1
  · subst e
    cases r1
    obtain ⟨its, rv, p, hz⟩ := I1.list hq
    refine wpAny_pyIter_list p.isList ?_
    refine ⟨s1.heap.objs.size, [s1.heap.objs.size], _, _, H1, rfl, I1.kept (t' := s1.toks) fun b o e => Heap.get?_push_of_some _ e, turn_list a _, ⟨_, Heap.get?_push_size _ rfl, rfl, rfl⟩, fun b hb => ?_, q⟩
    have e : b = s1.heap.objs.size := by simpa using hb
    subst e
    exact I1.fpOk (Nat.le_refl _) (I1.hok.fresh (Nat.le_refl _))
  · subst e
    cases r1
    obtain ⟨its, rv, p, hz⟩ := I1.tuple hq
    refine wpAny_pyIter_tuple (show s1.heap.IsTuple a its.toArray from p) ?_
    refine ⟨s1.heap.objs.size, [s1.heap.objs.size], _, _, H1, rfl, I1.kept (t' := s1.toks) fun b o e => Heap.get?_push_of_some _ e, turn_tuple a _, ⟨_, Heap.get?_push_size _ rfl, rfl, rfl⟩, fun b hb => ?_, q⟩
    have e : b = s1.heap.objs.size := by simpa using hb
    subst e
    exact I1.fpOk (Nat.le_refl _) (I1.hok.fresh (Nat.le_refl _))
theorem simi_seq {te : TE} {fe : M RV} (he : SimE K G W te fe) : SimI K G W (iSeq K te) (iSeqM fe) := fun F H σ env R ok w => by
  refine he F H σ env _ ok ((want_raw w).imp fun rv env1 F1 H1 o1 f1 w1 v r => ?_)
  -- the value given up, and its items
  have w' : Want K G W σ env F H (settle rv env1) (fun d env' _ _ => Want K G W σ env F H (liftM d.items env') fun ds _ F' H' => ∀ J, ItD K G F' J ds → R J H') := want_raw2 w1
  obtain ⟨d, env2, F2, o2, f2, r2, w2⟩ := want_settle o1 f1 r w'
  cases hd : d.items with
  | none => rw [hd] at w2; exact w2.elim
  | some ds =>
    rw [hd] at w2
    have q := w2 F2 H1 o2 f2
    unfold D.items at hd
    split at hd
    · cases hd
      cases r2 with
      | lst h rr => exact ⟨_, rfl, .inl ⟨⟨_, SqL.of (o2.sub _ _ h)⟩, q _ (itd_list (SqL.of h) rr)⟩⟩
    · cases hd
      cases r2 with
      | rol h rr => exact ⟨_, rfl, .inl ⟨⟨_, sqL_le o2.sub h⟩, q _ (itd_list h rr)⟩⟩
    · cases hd
      cases r2 with
      | tup h rr => exact ⟨_, rfl, .inr ⟨⟨_, sqT_le o2.sub h⟩, q _ (itd_tup h rr)⟩⟩
    · cases hd
theorem simi_rng1 {ta : TA} {f : M (List RV)} (h : SimP K G W ta f) : SimI K G W (iRng1 ta) (iRng1M f) := fun F H σ env R ok w => by
  refine h F H σ env _ ok ((want_bind w).imp fun as env1 F1 H1 o1 f1 k vs rs => ?_)
  have w1 := k o1 f1
  split at w1
  · rename_i j hp
    split at w1
    · rename_i hz
      obtain ⟨x, rfl, px⟩ := pks1 (pks_of o1 rs hp)
      cases px.int_ rfl
      refine ⟨j, rfl, hz.1, hz.2, w1 F1 H1 o1 Fr.refl _ ?_⟩
      have := itd_rng (K := K) (G := G) (F := F1) (lo := 0) (n := j.toNat)
      simpa using this
    · exact w1.elim
  · exact w1.elim
theorem simi_rng2 {ta : TA} {f : M (List RV)} (h : SimP K G W ta f) : SimI K G W (iRng2 ta) (iRng2M f) := fun F H σ env R ok w => by
  refine h F H σ env _ ok ((want_bind w).imp fun as env1 F1 H1 o1 f1 k vs rs => ?_)
  have w1 := k o1 f1
  split at w1
  · rename_i i j hp
    split at w1
    · rename_i hz
      obtain ⟨x, y, rfl, px, py⟩ := pks2 (pks_of o1 rs hp)
      cases px.int_ rfl
      cases py.int_ rfl
      exact ⟨i, j, rfl, ⟨hz.1.1, hz.1.2, hz.2.1, hz.2.2⟩, w1 F1 H1 o1 Fr.refl _ itd_rng⟩
    · exact w1.elim
  · exact w1.elim
end

/-! ### comprehensions -/
def wipeE (env : Env) : List Nat → Env
  | [] => env
  | v :: vs => (wipeE env vs).set v .none
/-- the slots vs as they were, where that still holds -/
def unwipe (env0 env : Env) : List Nat → Env
  | [] => env
  | v :: vs => (unwipe env0 env vs).set v (match env0[v]? with
    | some (.imm d) => .imm d
    | _ => .none)
def lcM (vs : List Nat) (g : D → M Unit) (t : M Bool) (fe : M RV) : List D → List D → M (List D)
  | [], acc => retM acc
  | d :: ds, acc => bindM (g d) fun _ => bindM t fun b => if b = true then bindM fe fun r => bindM (settle r) fun e => fun env => if acc.length < LIM then lcM vs g t fe ds (acc ++ [e]) (wipeE env vs) else .stuck
      else fun env => lcM vs g t fe ds acc (wipeE env vs)
def eLc (vs : List Nat) (fi : M (List D)) (g : D → M Unit) (t : M Bool) (fe : M RV) : M RV := bindM fi fun ds => fun env => match lcM vs g t fe ds [] (wipeE env vs) with
  | .ok acc env' => .ok (.fresh acc) (unwipe env env' vs)
  | _ => .stuck
/-- a target stores in the block's own names alone -/
def OwnG (t : TG) (vs : List Nat) : Prop := ∀ v σ H Q, t v σ H Q → t v σ H fun σ2 H2 => wipe σ2 vs = wipe σ vs ∧ Q σ2 H2
def OwnGs (t : TGs) (vs : List Nat) : Prop := ∀ v σ H Q, t v σ H Q → t v σ H fun σ2 H2 => wipe σ2 vs = wipe σ vs ∧ Q σ2 H2
theorem wipe_set {σ : L2.St} {o : Option V} : ∀ {vs : List Nat} {i : Nat}, i ∈ vs → wipe (σ.set i o) vs = wipe σ vs
  | v :: vs, i, h => by
    unfold wipe
    by_cases z : i ∈ vs
    · rw [wipe_set z]
    · have e : i = v := (List.mem_cons.mp h).resolve_right z
      subst e
      have : ∀ {ws : List Nat}, i ∉ ws → wipe (σ.set i o) ws = (wipe σ ws).set i o := fun {ws} hz => by
        induction ws with
        | nil => rfl
        | cons w ws ih =>
          have hz1 : i ≠ w := fun z => hz (by rw [z]; exact List.mem_cons_self)
          have hz2 : i ∉ ws := fun z => hz (List.mem_cons_of_mem _ z)
          unfold wipe
          rw [ih hz2, List.set_comm _ _ hz1]
      rw [this z, List.set_set]
theorem owng_name {i : Nat} {vs : List Nat} (h : i ∈ vs) : OwnG (gName i) vs := fun v σ H Q q => ⟨wipe_set h, q⟩
theorem owngs_nil {vs : List Nat} : OwnGs gNil vs := fun v σ H Q q => ⟨q.1, rfl, q.2⟩
/-- targets hand on what follows -/
def MonG (t : TG) : Prop := ∀ v σ H Q Q', (∀ σ2 H2, Q σ2 H2 → Q' σ2 H2) → t v σ H Q → t v σ H Q'
def MonGs (t : TGs) : Prop := ∀ v σ H Q Q', (∀ σ2 H2, Q σ2 H2 → Q' σ2 H2) → t v σ H Q → t v σ H Q'
theorem mong_name {i : Nat} : MonG (gName i) := fun v σ H Q Q' h q => h _ _ q
theorem mongs_nil : MonGs gNil := fun v σ H Q Q' h q => ⟨q.1, h _ _ q.2⟩
theorem mongs_cons {t : TG} {u : TGs} (h1 : MonG t) (h2 : MonGs u) : MonGs (gCons t u) := fun v σ H Q Q' h ⟨x, r, e, q⟩ => ⟨x, r, e, h1 _ _ _ _ _ (fun σ2 H2 q2 => h2 _ _ _ _ _ h q2) q⟩
theorem mong_tup {K : PySem.W.Frag} {n : Nat} {u : TGs} (h : MonGs u) : MonG (gTup K n u) := fun v σ H Q Q' hq ⟨a, xs, e, h1, h2, q⟩ => ⟨a, xs, e, h1, h2, h _ _ _ _ _ hq q⟩
theorem owngs_cons {t : TG} {u : TGs} {vs : List Nat} (m : MonG t) (mu : MonGs u) (h1 : OwnG t vs) (h2 : OwnGs u vs) : OwnGs (gCons t u) vs := fun v σ H Q ⟨x, r, e, q⟩ =>
  ⟨x, r, e, m _ _ _ _ _ (fun σ2 H2 ⟨e2, q2⟩ => mu _ _ _ _ _ (fun σ3 H3 ⟨e3, q3⟩ => ⟨e3.trans e2, q3⟩) (h2 _ _ _ _ q2)) (h1 _ _ _ _ q)⟩
theorem owng_tup {K : PySem.W.Frag} {n : Nat} {u : TGs} {vs : List Nat} (h : OwnGs u vs) : OwnG (gTup K n u) vs := fun v σ H Q ⟨a, xs, e, h1, h2, q⟩ => ⟨a, xs, e, h1, h2, h _ _ _ _ q⟩
section
variable {K : PySem.W.Frag} {G : Gs} {W : WX} {F H F' H' : Hp} {σ : L2.St} {env env' : Env}
theorem ok_wipe (k : Ok K G F H σ env) : ∀ vs : List Nat, Ok K G F H (wipe σ vs) (wipeE env vs) ∧ Fr σ env F H (wipe σ vs) (wipeE env vs) F H
  | [] => ⟨k, Fr.refl⟩
  | v :: vs => by
    obtain ⟨o, f⟩ := ok_wipe k vs
    exact ⟨o.put (s := .none) trivial (fun z => nomatch z), f.trans (Fr.put rfl (fun z => nomatch z))⟩
/-- .. the same, from a state whose wiped slots are those of σ -/
theorem ok_wipe' {σ2 : L2.St} {vs : List Nat} (k : Ok K G F H σ2 env) (e : wipe σ2 vs = wipe σ vs) : Ok K G F H (wipe σ vs) (wipeE env vs) ∧ Fr σ2 env F H (wipe σ vs) (wipeE env vs) F H := by
  rw [← e]; exact ok_wipe k vs
theorem wipeE_get {i : Nat} : ∀ {vs : List Nat}, i ∉ vs → (wipeE env vs)[i]? = env[i]?
  | [], _ => rfl
  | v :: vs, h => by
    have h1 : v ≠ i := fun e => h (by rw [e]; exact List.mem_cons_self)
    have h2 : i ∉ vs := fun m => h (List.mem_cons_of_mem _ m)
    unfold wipeE
    rw [List.getElem?_set_ne h1]
    exact wipeE_get h2
theorem unwipe_out {env0 : Env} {i : Nat} : ∀ {vs : List Nat}, i ∉ vs → (unwipe env0 env vs)[i]? = env[i]?
  | [], _ => rfl
  | v :: vs, h => by
    have h1 : v ≠ i := fun e => h (by rw [e]; exact List.mem_cons_self)
    have h2 : i ∉ vs := fun m => h (List.mem_cons_of_mem _ m)
    unfold unwipe
    rw [List.getElem?_set_ne h1]
    exact unwipe_out h2
theorem unwipe_in {env0 : Env} {i : Nat} {s : SV} : ∀ {vs : List Nat}, i ∈ vs → (unwipe env0 env vs)[i]? = some s → s = .none ∨ ∃ d, s = .imm d ∧ env0[i]? = some (.imm d)
  | v :: vs, h, e => by
    unfold unwipe at e
    by_cases z : v = i
    · subst z
      rw [List.getElem?_set] at e
      split at e
      · split at e
        · cases e
          split
          · rename_i d hd
            exact .inr ⟨d, rfl, hd⟩
          · exact .inl rfl
        · cases e
      · contradiction
    · rw [List.getElem?_set_ne z] at e
      exact unwipe_in ((List.mem_cons.mp h).resolve_left fun q => z q.symm) e
theorem unwipe_len {env0 : Env} : ∀ {vs : List Nat}, (unwipe env0 env vs).length = env.length
  | [] => rfl
  | v :: vs => by unfold unwipe; rw [List.length_set]; exact unwipe_len
theorem ok_unwipe {vs : List Nat} (k : Ok K G F H σ env) (k' : Ok K G F' H' (wipe σ vs) env') (f : Fr (wipe σ vs) (wipeE env vs) F H (wipe σ vs) env' F' H') :
    Ok K G F' H' σ (unwipe env env' vs) ∧ Fr σ env F H σ (unwipe env env' vs) F' H' := by
  have fw := (ok_wipe k vs).2.trans f
  have mutOut : ∀ {i : Nat} {s : SV}, (unwipe env env' vs)[i]? = some s → s.mut = true → i ∉ vs ∧ env'[i]? = some s := fun {i s} h m => by
    by_cases z : i ∈ vs
    · rcases unwipe_in z h with rfl | ⟨d, rfl, _⟩ <;> cases m
    · rw [unwipe_out z] at h; exact ⟨z, h⟩
  refine ⟨⟨k'.sub, by rw [unwipe_len, ← k'.len, wipe_length], fun i o s h1 h2 => ?_, fun i j s t a h1 m1 h2 h3 m2 h4 => ?_⟩, ⟨fw.sub, fw.keep, fw.low, fun a ⟨i, s, h1, m, h2⟩ => ?_, fw.there, fun i s h m => ⟨rfl, ?_⟩⟩⟩
  · by_cases z : i ∈ vs
    · rcases unwipe_in z h2 with rfl | ⟨d, rfl, hd⟩
      · trivial
      · obtain ⟨v, e, r⟩ := k.slot i o _ h1 hd
        exact ⟨v, e, r.mono fw.sub⟩
    · rw [unwipe_out z] at h2
      exact k'.slot i o s (by rw [wipe_out z]; exact h1) h2
  · obtain ⟨n1, e1⟩ := mutOut h1 m1
    obtain ⟨n2, e2⟩ := mutOut h3 m2
    exact k'.inj i j s t a e1 m1 (by rw [wipe_out n1]; exact h2) e2 m2 (by rw [wipe_out n2]; exact h4)
  · obtain ⟨n1, e1⟩ := mutOut h1 m
    exact fw.own a ⟨i, s, e1, m, by rw [wipe_out n1]; exact h2⟩
  · obtain ⟨n1, e1⟩ := mutOut h (lent_mut m)
    exact (fw.lent i s e1 m).2
theorem own_unwipe {vs : List Nat} {a : Addr} (h : Own σ (unwipe env env' vs) a) : Own (wipe σ vs) env' a := by
  obtain ⟨i, s, h1, m, h2⟩ := h
  by_cases z : i ∈ vs
  · rcases unwipe_in z h1 with rfl | ⟨d, rfl, _⟩ <;> cases m
  · rw [unwipe_out z] at h1; exact ⟨i, s, h1, m, by rw [wipe_out z]; exact h2⟩
theorem wipe_wipe {σ : L2.St} : ∀ {vs : List Nat}, wipe (wipe σ vs) vs = wipe σ vs := fun {vs} => by
  have key : ∀ (ws us : List Nat), (∀ i ∈ ws, i ∈ us) → wipe (wipe σ ws) us = wipe σ us := fun ws => by
    induction ws with
    | nil => intro us _; rfl
    | cons w ws ih =>
      intro us h
      show wipe ((wipe σ ws).set w none) us = _
      rw [wipe_set (h w List.mem_cons_self)]
      exact ih us fun i hi => h i (List.mem_cons_of_mem _ hi)
  exact key vs vs fun _ h => h
theorem Ok.poke (k : Ok K G F H σ env) {p : Addr} {o : HO} (n : ¬ Own σ env p) (f : F p = none) : Ok K G F (upd H p o) σ env :=
  ⟨fun a u e => by rw [upd_ne (ne_of_none e f)]; exact k.sub a u e, k.len, fun i ov s h1 h2 => (k.slot i ov s h1 h2).mono Le.rfl fun a u eo m h3 h4 => ⟨by rw [upd_ne fun z => n ⟨i, s, h2, m, by rw [h1, eo, z]⟩]; exact h3, h4⟩, k.inj⟩
theorem Fr.poke {F0 H0 : Hp} {σ0 : L2.St} {env0 : Env} (f : Fr σ0 env0 F0 H0 σ env F H) {p : Addr} {o : HO} (h : H0 p = none) : Fr σ0 env0 F0 H0 σ env F (upd H p o) :=
  ⟨f.sub, fun a u e n => by rw [upd_ne (ne_of_none e h)]; exact f.keep a u e n, f.low, f.own, fun a e => by
    by_cases z : a = p
    · rw [z, upd_same]; intro w; cases w
    · rw [upd_ne z]; exact f.there a e, f.lent⟩
theorem sim_lc {wi : TI} {fi : M (List D)} {t : TG} {g : D → M Unit} {tt : TT} {ft : M Bool} {te : TE} {fe : M RV} {vs : List Nat} (hi : SimI K G W wi fi) (hg : SimG K G t g) (ho : OwnG t vs) (hm : MonG t) (ht : SimT K G (fun _ _ _ _ => False) tt ft)
    (he : SimE K G (fun _ _ _ _ => False) te fe) : SimE K G W (tLc wi t tt te vs) (eLc vs fi g ft fe) := fun F H σ env Q ok w => by
  refine hi F H σ env _ ok ((want_bind w).imp fun ds env1 F1 H1 o1 f1 k J hJ => ?_)
  have w1 := k o1 f1
  intro p hp
  -- the loop's end, told ahead
  cases el : lcM vs g ft fe ds [] (wipeE env1 vs) with
  | err x e => simp only [el] at w1; exact w1.elim
  | stuck => simp only [el] at w1; exact w1.elim
  | ok fin envF =>
    simp only [el] at w1
    obtain ⟨ow, fw⟩ := ok_wipe o1 vs
    refine ⟨fun i m H' => m = ds.length - i ∧ i ≤ ds.length ∧ ∃ F' env' acc ws, Ok K G F' H' (wipe σ vs) env' ∧ Fr (wipe σ vs) (wipeE env1 vs) F1 H1 (wipe σ vs) env' F' H' ∧ H' p = some (.lst ws) ∧ F' p = none ∧ ¬ Own (wipe σ vs) env' p ∧ Reps K G.g F' ws acc ∧
      lcM vs g ft fe (ds.drop i) acc env' = .ok fin envF, ⟨ds.length, by simp, Nat.zero_le _, F1, _, [], [], ow.apart hp, Fr.apart hp, upd_same, o1.sub.none hp, ow.notOwn hp, .nil, el⟩, ?_⟩
    rintro i m H' ⟨rfl, hi', F', env', acc, ws, o, f, h1, h2, h3, rr, e⟩
    obtain ⟨j1, j2⟩ := hJ i F' H' f.sub o.sub
    by_cases hlt : i < ds.length
    · obtain ⟨d, hd⟩ : ∃ d, ds[i]? = some d := ⟨ds[i], List.getElem?_eq_getElem hlt⟩
      have hdrop : ds.drop i = d :: ds.drop (i + 1) := by
        rw [List.drop_eq_getElem_cons hlt]
        rw [List.getElem?_eq_getElem hlt] at hd
        cases hd; rfl
      rw [hdrop] at e
      obtain ⟨go, yl⟩ := j1 d hd
      refine .inr ⟨go, fun H3 => ∃ F3 env3 acc3 ws3, Ok K G F3 H3 (wipe σ vs) env3 ∧ Fr (wipe σ vs) (wipeE env1 vs) F1 H1 (wipe σ vs) env3 F3 H3 ∧ H3 p = some (.lst ws3) ∧ F3 p = none ∧ ¬ Own (wipe σ vs) env3 p ∧ Reps K G.g F3 ws3 acc3 ∧
        lcM vs g ft fe (ds.drop (i + 1)) acc3 env3 = .ok fin envF, fun H3 q => ⟨ds.length - (i + 1), by omega, rfl, hlt, q⟩, fun x H'' y => ?_⟩
      obtain ⟨F'', gr, rx⟩ := yl x H'' y
      have o2 := o.gr gr
      have f2 := f.trans (Fr.gr gr)
      have p1 : H'' p = some (.lst ws) := gr.h _ _ h1
      have p2 : F'' p = none := gr.low p (by rw [h1]; intro z; cases z) h2
      have rr2 := rr.mono gr.f
      -- what stays of the list at p, behind a part of the turn
      have stay : ∀ {σ3 : L2.St} {env3 : Env} {F3 H3 : Hp}, Fr (wipe σ vs) env' F'' H'' σ3 env3 F3 H3 → H3 p = some (.lst ws) ∧ F3 p = none ∧ ¬ Own σ3 env3 p ∧ Reps K G.g F3 ws acc := fun {σ3 env3 F3 H3} q =>
        ⟨(q.stays p1 h3).1, q.low p (by rw [p1]; intro z; cases z) h3 p2, (q.stays p1 h3).2, rr2.mono q.sub⟩
      unfold lcM bindM at e
      cases e1 : g d env' with
      | err x' e' => simp only [e1] at e; cases e
      | stuck => simp only [e1] at e; cases e
      | ok u env2 =>
        simp only [e1] at e
        refine hm x _ H'' _ _ (fun σ3 H3 ⟨q1, q2⟩ => ⟨q1.trans wipe_wipe, q2 (q1.trans wipe_wipe)⟩) (ho x (wipe σ vs) H'' (fun σ3 H3 => wipe σ3 vs = wipe σ vs → _) (hg F'' H'' (wipe σ vs) env' x d _ o2 rx ?_))
        rw [e1]
        intro F3 H3 σ3 o3 f3 heq
        refine ht F3 H3 σ3 env2 _ o3 ?_
        cases e2 : ft env2 with
        | err x' e' => simp only [e2] at e; cases e
        | stuck => simp only [e2] at e; cases e
        | ok b env3 =>
          simp only [e2] at e
          intro F4 H4 o4 f4
          cases b with
          | false =>
            simp only [Bool.false_eq_true, if_false] at e ⊢
            have fr := f3.trans f4
            obtain ⟨s1, s2, s3, s4⟩ := stay fr
            obtain ⟨k1, k2⟩ := ok_wipe' o4 heq
            exact ⟨F4, _, acc, ws, k1, f2.trans (fr.trans k2), s1, s2, (k2.stays s1 s3).2, s4, e⟩
          | true =>
            simp only [if_true] at e ⊢
            refine he F4 H4 σ3 env3 _ o4 ?_
            cases e3 : fe env3 with
            | err x' e' => simp only [e3] at e; cases e
            | stuck => simp only [e3] at e; cases e
            | ok rv env4 =>
              simp only [e3] at e
              intro F5 H5 o5 f5 v r
              cases e4 : settle rv env4 with
              | err x' e' => simp only [e4] at e; cases e
              | stuck => simp only [e4] at e; cases e
              | ok d' env5 =>
                simp only [e4] at e
                have ws' : Want K G W σ3 env3 F4 H4 (settle rv env4) (fun d6 env6 _ _ => d6 = d' ∧ env6 = env5) := by rw [e4]; exact fun _ _ _ _ => ⟨rfl, rfl⟩
                obtain ⟨d6, env6, F6, o6, f6, r6, rfl, rfl⟩ := want_settle o5 f5 r ws'
                have fr := f3.trans (f4.trans f6)
                obtain ⟨s1, s2, s3, s4⟩ := stay fr
                by_cases hz : acc.length < LIM
                · rw [if_pos hz] at e
                  refine ⟨ws, s1, lim_lt (by rw [s4.length]; exact Nat.le_of_lt hz), ?_⟩
                  obtain ⟨k1, k2⟩ := ok_wipe' o6 heq
                  have nn := (k2.stays s1 s3).2
                  exact ⟨F6, _, acc ++ [d6], ws ++ [v], k1.poke nn s2, (f2.trans (fr.trans k2)).poke hp, upd_same, s2, nn, s4.append (.cons r6 .nil), e⟩
                · rw [if_neg hz] at e; cases e
    · have e1 : i = ds.length := by omega
      subst e1
      refine .inl ⟨j2 (by simp), ?_⟩
      rw [List.drop_length] at e
      cases e
      obtain ⟨k1, k2⟩ := ok_unwipe o1 o f
      exact w1 F' H' k1 k2 _ ⟨p, ws, rfl, h1, h2, f1.new hp, fun z => h3 (own_unwipe z), rr⟩
end
end Dl
namespace Dl
open PySem L2

/-! ### isinstance -/
def D.bt : D → Option String
  | .non => some "NoneType"
  | .bl _ => some "bool"
  | .int _ => some "int"
  | .str _ => some "str"
  | .tup _ => some "tuple"
  | .lst _ => some "list"
  | .rol _ => some "list"
  | .dk _ => some "dict"
  | .ins _ _ => none
abbrev bts7 : List String := ["NoneType", "bool", "int", "str", "tuple", "list", "dict"]
def subB (T b : String) : Bool := T == b || (T == "bool" && b == "int")
/-- what the head tells of an instance's class -/
structure InsT (K : PySem.W.Frag) (C : Addr) : Prop where
  cl : Cls K C
  ha : PySem.W.findIn K (.ref C) "__class__" = some (some (.builtin "object.__class__"))
  hn : PySem.W.specialIn K (.builtin "object.__class__") "__get__" = some (some (.builtin "getset_descriptor.__get__"))
  ht : PySem.W.takesIn K (.builtin "object.__class__") = some true
  hm : PySem.W.mroIn K C (.type "object") = some true
/-- .. of all classes kn of instances -/
structure KnOk (K : PySem.W.Frag) (G : CT) (kn : List Nat) : Prop where
  ins : ∀ c ∈ kn, InsT K (G c).1
  b : ∀ c ∈ kn, ∀ T ∈ bts7, PySem.W.kitOne K (.ref (G c).1) (.type T) = some false
  r : ∀ c ∈ kn, ∀ T ∈ bts7, PySem.W.kitOne K (.type T) (.ref (G c).1) = some false
  e : ∀ c ∈ kn, ∀ c' ∈ kn, PySem.W.kitOne K (.ref (G c).1) (.ref (G c').1) = some (decide (c = c'))
theorem kit_bts (K : PySem.W.Frag) : ∀ T ∈ bts7, ∀ b ∈ bts7, PySem.W.kitOne K (.type T) (.type b) = some (subB T b) := by
  have h : ∀ T ∈ bts7, ∀ b ∈ bts7, kitB T b = some (subB T b) := by decide +kernel
  exact fun T hT b hb => kit_ty (h T hT b hb)
/-- isinstance(d, (bs .., cs ..)) -/
def isaD (kn : List Nat) (bs : List String) (cs : List Nat) (d : D) : Option Bool := match d with
  | .ins c _ => if kn.contains c = true then some (cs.contains c) else none
  | d => match d.bt with
    | some T => some (bs.any fun b => subB T b)
    | none => none
def eIsi (kn : List Nat) (bs : List String) (cs : List Nat) (fe : M RV) : M RV := eOp1 (fun d => (isaD kn bs cs d).map fun b => .imm (.bl b)) fe
section
variable {K : PySem.W.Frag} {G : Gs} {W : WX}
theorem bt_mem {d : D} {T : String} (h : d.bt = some T) : T ∈ bts7 := by
  cases d <;> first | (cases h; decide) | cases h
theorem tyx_bt {F H : Hp} {v : V} {d : D} {T : String} (s : Le F H) (h : Pk K G.g F H v d) (e : d.bt = some T) : TyX K H v (.type T) := by
  have lst : ∀ {a : Addr} {vs : List V}, SqL K H a vs → TyX K H (.ref a) (.type "list") := fun {a vs} q => by
    rcases q with (q | ⟨o, q⟩) | ⟨o, its, n, hk, hc, _⟩
    · exact .base (.lst q)
    · exact .base (.frz q)
    · exact .kList hk hc
  have tup : ∀ {a : Addr} {vs : List V}, SqT K H a vs → TyX K H (.ref a) (.type "tuple") := fun {a vs} q => by
    rcases q with (q | ⟨o, q⟩) | ⟨o, its, n, hk, hc, _⟩
    · exact .base (.tup q)
    · exact .fTuple q
    · exact .kTuple hk hc
  cases h with
  | rep r =>
    cases r with
    | non => cases e; exact .base .non
    | bl b => cases e; exact .base (.bl b)
    | int i => cases e; exact .base (.int i)
    | str x => cases e; exact .base (.str x)
    | tup h r => cases e; exact tup (sqT_le s h)
    | lst h r => cases e; exact lst (SqL.of (s _ _ h))
    | rol h r => cases e; exact lst (sqL_le s h)
    | ins h e' r => cases e
    | dk h r => cases e; exact .base (.dK (s _ _ h))
  | lst h r => cases e; exact lst (SqL.of h)
/-- the classes that are asked for, as values -/
def tgt (G : CT) (bs : List String) (cs : List Nat) : List V := bs.map V.ty ++ cs.map fun c => .ref (G c).1
def tgu (G : CT) (bs : List String) (cs : List Nat) : List Value := bs.map Value.type ++ cs.map fun c => .ref (G c).1
theorem tgt_cls {G : CT} : ∀ (bs : List String) (cs : List Nat), Paired ClsV (tgt G bs cs) (tgu G bs cs)
  | [], [] => .nil
  | [], c :: cs => .cons (.own _) (tgt_cls [] cs)
  | b :: bs, cs => .cons (.ty b) (tgt_cls bs cs)
theorem isa_kit {kn : List Nat} (kk : KnOk K G.g kn) {bs : List String} {cs : List Nat} (hb : ∀ b ∈ bs, b ∈ bts7) (hc : ∀ c ∈ cs, c ∈ kn) {F H : Hp} {v : V} {d : D} {b : Bool} (s : Le F H) (h : Pk K G.g F H v d) (e : isaD kn bs cs d = some b) :
    ∃ t, TyX K H v t ∧ (∀ x ∈ tgu G.g bs cs, ∃ r, PySem.W.kitOne K t x = some r) ∧ b = (tgu G.g bs cs).any fun x => PySem.W.kitOne K t x == some true := by
  have plain : ∀ {T : String}, d.bt = some T → b = bs.any (fun b => subB T b) → ∃ t, TyX K H v t ∧ (∀ x ∈ tgu G.g bs cs, ∃ r, PySem.W.kitOne K t x = some r) ∧ b = (tgu G.g bs cs).any fun x => PySem.W.kitOne K t x == some true := fun {T} hT eb => by
    have mT := bt_mem hT
    refine ⟨.type T, tyx_bt s h hT, fun x hx => ?_, ?_⟩
    · rcases List.mem_append.mp hx with hx | hx
      · obtain ⟨y, hy, rfl⟩ := List.mem_map.mp hx
        exact ⟨_, kit_bts K T mT y (hb y hy)⟩
      · obtain ⟨y, hy, rfl⟩ := List.mem_map.mp hx
        exact ⟨_, kk.r y (hc y hy) T mT⟩
    · rw [eb]
      unfold tgu
      rw [List.any_append, List.any_map, List.any_map]
      have e2 : cs.any ((fun x => PySem.W.kitOne K (.type T) x == some true) ∘ fun c => Value.ref (G.g c).1) = false := by
        rw [List.any_eq_false]
        intro c hcc
        show ¬ (PySem.W.kitOne K (.type T) (.ref (G.g c).1) == some true) = true
        rw [kk.r c (hc c hcc) T mT]
        decide
      rw [e2, Bool.or_false]
      have : ∀ l : List String, (∀ b ∈ l, b ∈ bts7) → l.any (fun b => subB T b) = l.any ((fun x => PySem.W.kitOne K (.type T) x == some true) ∘ Value.type) := fun l => by
        induction l with
        | nil => intro _; rfl
        | cons y l ih =>
          intro hl
          rw [List.any_cons, List.any_cons, ih fun z hz => hl z (List.mem_cons_of_mem _ hz)]
          congr 1
          show subB T y = (PySem.W.kitOne K (.type T) (.type y) == some true)
          rw [kit_bts K T mT y (hl y List.mem_cons_self)]
          cases subB T y <;> rfl
      exact this bs hb
  cases d with
  | ins c ds =>
    unfold isaD at e
    simp only at e
    split at e
    · rename_i hk
      cases e
      have mk : c ∈ kn := by simpa using hk
      obtain ⟨a, dx, vs, rfl, ha, _, _⟩ := h.ins_ s rfl
      have I := kk.ins c mk
      refine ⟨.ref (G.g c).1, .base (.ins ha I.cl I.ha I.hn I.ht I.hm), fun x hx => ?_, ?_⟩
      · rcases List.mem_append.mp hx with hx | hx
        · obtain ⟨y, hy, rfl⟩ := List.mem_map.mp hx
          exact ⟨_, kk.b c mk y (hb y hy)⟩
        · obtain ⟨y, hy, rfl⟩ := List.mem_map.mp hx
          exact ⟨_, kk.e c mk y (hc y hy)⟩
      · unfold tgu
        rw [List.any_append, List.any_map, List.any_map]
        have e1 : bs.any ((fun x => PySem.W.kitOne K (.ref (G.g c).1) x == some true) ∘ Value.type) = false := by
          rw [List.any_eq_false]
          intro y hy
          show ¬ (PySem.W.kitOne K (.ref (G.g c).1) (.type y) == some true) = true
          rw [kk.b c mk y (hb y hy)]
          decide
        rw [e1, Bool.false_or]
        have : ∀ l : List Nat, (∀ b ∈ l, b ∈ kn) → l.contains c = l.any ((fun x => PySem.W.kitOne K (.ref (G.g c).1) x == some true) ∘ fun c => Value.ref (G.g c).1) := fun l => by
          induction l with
          | nil => intro _; rfl
          | cons y l ih =>
            intro hl
            rw [List.contains_cons, List.any_cons, ih fun z hz => hl z (List.mem_cons_of_mem _ hz)]
            congr 1
            show (c == y) = (PySem.W.kitOne K (.ref (G.g c).1) (.ref (G.g y).1) == some true)
            rw [kk.e c mk y (hl y List.mem_cons_self)]
            by_cases z : c = y
            · subst z; simp
            · have : (c == y) = false := by simpa using z
              rw [this, decide_eq_false z]; rfl
        exact this cs hc
    · cases e
  | non => exact plain rfl (Option.some.inj e).symm
  | bl x => exact plain rfl (Option.some.inj e).symm
  | int x => exact plain rfl (Option.some.inj e).symm
  | str x => exact plain rfl (Option.some.inj e).symm
  | tup x => exact plain rfl (Option.some.inj e).symm
  | lst x => exact plain rfl (Option.some.inj e).symm
  | rol x => exact plain rfl (Option.some.inj e).symm
  | dk x => exact plain rfl (Option.some.inj e).symm
theorem kitAny_of {t : Value} : ∀ {us : List Value}, (∀ x ∈ us, ∃ r, PySem.W.kitOne K t x = some r) → PySem.W.kitAny K t us = some (us.any fun x => PySem.W.kitOne K t x == some true)
  | [], _ => rfl
  | x :: us, h => by
    obtain ⟨r, hr⟩ := h x List.mem_cons_self
    rw [List.any_cons, hr]
    unfold PySem.W.kitAny
    rw [hr]
    cases r with
    | true => rfl
    | false => exact kitAny_of fun y hy => h y (List.mem_cons_of_mem _ hy)
theorem sim_isi {kn : List Nat} (kk : KnOk K G.g kn) {bs : List String} {cs : List Nat} {c : V} (hb : ∀ b ∈ bs, b ∈ bts7) (hc : ∀ c ∈ cs, c ∈ kn) (hg : tgt G.g bs cs = [c]) {te : TE} {fe : M RV} (he : SimE K G W te fe) :
    SimE K G W (tCB (rIsi K) (tCons te (tCons (tC c) tNil))) (eIsi kn bs cs fe) := by
  have ok : UnOk K G (fun x H Q => rIsi K [x, c] H Q) (fun d => (isaD kn bs cs d).map fun b => .imm (.bl b)) := fun F H x d rv Q s px ho q => by
    dsimp only at ho
    cases e : isaD kn bs cs d with
    | none => rw [e] at ho; cases ho
    | some b =>
      rw [e] at ho; cases ho
      obtain ⟨t, ht, hr, eb⟩ := isa_kit kk hb hc s px e
      have pc := tgt_cls (G := G.g) bs cs
      rw [hg] at pc
      obtain ⟨u, eu, cu⟩ : ∃ u, tgu G.g bs cs = [u] ∧ ClsV c u := by
        cases hh : tgu G.g bs cs with
        | nil => rw [hh] at pc; cases pc
        | cons u us => rw [hh] at pc; cases pc with | cons c1 c2 => cases c2; exact ⟨u, rfl, c1⟩
      obtain ⟨r, hr⟩ := hr u (by rw [eu]; exact List.mem_cons_self)
      rw [eu] at eb
      have : b = r := by
        rw [eb]
        simp only [List.any_cons, List.any_nil, Bool.or_false, hr]
        cases r <;> rfl
      exact ⟨x, c, t, u, r, rfl, cu, ht, hr, by rw [← this]; exact here q s (.bl _)⟩
  exact sim_op1 ok he
theorem sim_isiT {kn : List Nat} (kk : KnOk K G.g kn) {bs : List String} {cs : List Nat} {c1 c2 : V} (hb : ∀ b ∈ bs, b ∈ bts7) (hc : ∀ c ∈ cs, c ∈ kn) (hg : tgt G.g bs cs = [c1, c2]) {te : TE} {fe : M RV} (he : SimE K G W te fe) :
    SimE K G W (tCB (rIsiT K) (tCons te (tCons (tTup (tCons (tC c1) (tCons (tC c2) tNil))) tNil))) (eIsi kn bs cs fe) := by
  have ok : UnOk K G (fun x H Q => [c1, c2].length ≤ sizeLine ∧ ∀ p, H p = none → rIsiT K [x, .ref p] (upd H p (.tup [c1, c2])) Q) (fun d => (isaD kn bs cs d).map fun b => .imm (.bl b)) := fun F H x d rv Q s px ho q => by
    dsimp only at ho
    cases e : isaD kn bs cs d with
    | none => rw [e] at ho; cases ho
    | some b =>
      rw [e] at ho; cases ho
      refine ⟨by rw [sizeLine_eq]; show 2 ≤ 16777216; decide, fun p hp => ?_⟩
      have s' : Le F (upd H p (.tup [c1, c2])) := s.trans (Le.upd hp)
      obtain ⟨t, ht, hr, eb⟩ := isa_kit kk hb hc s' (px.mono Le.rfl (Le.upd hp)) e
      have pc := tgt_cls (G := G.g) bs cs
      rw [hg] at pc
      refine ⟨x, p, [c1, c2], t, tgu G.g bs cs, b, rfl, upd_same, pc, ht, by rw [kitAny_of hr, ← eb], ?_⟩
      exact q _ F _ (Gr.apart s hp) (.bl _)
  exact sim_op1 ok he
end

/-! ### attributes -/
def opFld (c j : Nat) : D → Option RV
  | .ins c' ds => if c' = c then (match ds[j]? with
    | some d => some (.imm d)
    | none => none) else none
  | _ => none
theorem zip_lookup {f : Str} : ∀ {N : List Str} {vs : List V} {j : Nat} {v : V}, N.Nodup → N[j]? = some f → vs[j]? = some v → (N.zip vs).lookup f = some v
  | [], _, j, v, _, h, _ => by simp at h
  | n :: N, [], j, v, _, _, h => by simp at h
  | n :: N, w :: vs, 0, v, _, h1, h2 => by
    simp at h1 h2
    subst h1 h2
    simp [List.lookup]
  | n :: N, w :: vs, j + 1, v, nd, h1, h2 => by
    have nd' := List.nodup_cons.mp nd
    have hm : f ∈ N := List.mem_of_getElem? (by simpa using h1)
    have : (f == n) = false := by
      by_cases z : f = n
      · exact absurd (z ▸ hm) nd'.1
      · simpa using z
    simp only [List.zip_cons_cons, List.lookup, this]
    exact zip_lookup (vs := vs) (j := j) nd'.2 (by simpa using h1) (by simpa using h2)
theorem zip_lookup_none {f : Str} : ∀ {N : List Str} {vs : List V}, f ∉ N → (N.zip vs).lookup f = none
  | [], _, _ => by simp
  | n :: N, [], _ => by simp
  | n :: N, w :: vs, h => by
    have : (f == n) = false := by
      by_cases z : f = n
      · exact absurd (z ▸ List.mem_cons_self) h
      · simpa using z
    simp only [List.zip_cons_cons, List.lookup, this]
    exact zip_lookup_none fun z => h (List.mem_cons_of_mem _ z)
/-- what a class's attribute number j says -/
structure AtOk (K : PySem.W.Frag) (G : CT) (c j : Nat) (f : Str) : Prop where
  cl : Cls K (G c).1
  na : NoAttr K (G c).1 f
  nd : (G c).2.Nodup
  at_ : (G c).2[j]? = some f
def eFld (c j : Nat) (fe : M RV) : M RV := eOp1 (opFld c j) fe
section
variable {K : PySem.W.Frag} {G : Gs} {W : WX}
theorem sim_fld {c j : Nat} {f : Str} (T : AtOk K G.g c j f) {te : TE} {fe : M RV} (he : SimE K G W te fe) : SimE K G W (tFld K te f) (eFld c j fe) := by
  have ok : UnOk K G (fun x H Q => ∃ a C dx fs v, x = .ref a ∧ H a = some (.ins C dx fs) ∧ Cls K C ∧ NoAttr K C f ∧ fs.lookup f = some v ∧ Q v H) (opFld c j) := fun F H x d rv Q s px ho q => by
    unfold opFld at ho
    split at ho
    · rename_i c' ds
      split at ho
      · rename_i hc
        subst hc
        split at ho
        · rename_i d hd
          cases ho
          obtain ⟨a, dx, vs, rfl, ha, hl, r⟩ := px.ins_ s rfl
          obtain ⟨v, hv, rv⟩ := r.get' hd
          exact ⟨a, _, dx, _, v, rfl, ha, T.cl, T.na, zip_lookup T.nd T.at_ hv, here q s rv⟩
        · cases ho
      · cases ho
    · cases ho
  exact sim_op1 ok he
/-- self.f = e in an instance that may be changed: one attribute more -/
def sPutF (i c : Nat) (j : Nat) (fe : M RV) : M Out := bindM fe fun r => bindM (settle r) fun d => fun env => match env[i]? with
  | some (.obj c' ds) => if c' = c then (if ds.length = j then .ok .nx (env.set i (.obj c (ds ++ [d]))) else if j < ds.length then .ok .nx (env.set i (.obj c (ds.set j d))) else .stuck) else .stuck
  | _ => .stuck
theorem putF_new {f : Str} {v : V} : ∀ {N : List Str} {vs : List V}, N.Nodup → N[vs.length]? = some f → putF f v (N.zip vs) = N.zip (vs ++ [v])
  | [], vs, _, h => by simp at h
  | n :: N, [], nd, h => by
    simp at h
    subst h
    simp [putF]
  | n :: N, w :: vs, nd, h => by
    have nd' := List.nodup_cons.mp nd
    have h' : N[vs.length]? = some f := by simpa using h
    have hm : f ∈ N := List.mem_of_getElem? h'
    have ne : n ≠ f := fun z => nd'.1 (z ▸ hm)
    show putF f v ((n, w) :: N.zip vs) = _
    unfold putF
    rw [if_neg ne, putF_new nd'.2 h']
    rfl
theorem putF_old {f : Str} {v : V} : ∀ {N : List Str} {vs : List V} {j : Nat}, N.Nodup → N[j]? = some f → j < vs.length → putF f v (N.zip vs) = N.zip (vs.set j v)
  | [], vs, j, _, h, _ => by simp at h
  | n :: N, [], j, nd, h, l => by simp at l
  | n :: N, w :: vs, 0, nd, h, l => by
    simp at h
    subst h
    show putF n v ((n, w) :: N.zip vs) = _
    unfold putF
    rw [if_pos rfl]
    rfl
  | n :: N, w :: vs, j + 1, nd, h, l => by
    have nd' := List.nodup_cons.mp nd
    have h' : N[j]? = some f := by simpa using h
    have hm : f ∈ N := List.mem_of_getElem? h'
    have ne : n ≠ f := fun z => nd'.1 (z ▸ hm)
    show putF f v ((n, w) :: N.zip vs) = _
    unfold putF
    rw [if_neg ne, putF_old nd'.2 h' (by simpa using l)]
    rfl
theorem sim_putF {i c j : Nat} {f : Str} (T : AtOk K G.g c j f) (h100 : (G.g c).2.length ≤ 100) {te : TE} {fe : M RV} (he : SimE K G W te fe) : SimS K G W (sFld K (tVar i) te f) (sPutF i c j fe) := fun F H σ env D ok w => by
  refine he F H σ env _ ok ((wantS_bind w).imp fun rv env1 F1 H1 o1 f1 k v r => ?_)
  obtain ⟨_, w1⟩ := k o1 f1
  obtain ⟨d, env2, F2, o2, f2, r2, w2⟩ := wantS_settle o1 f1 r w1
  cases e : env2[i]? with
  | none => simp only [e] at w2; exact w2.elim
  | some s =>
    simp only [e] at w2
    have l : i < σ.length := by rw [o2.len]; exact (List.getElem?_eq_some_iff.mp e).1
    have es : σ[i]? = some σ[i] := List.getElem?_eq_getElem l
    have q := o2.slot i _ s es e
    cases s with
    | obj c' ds =>
      simp only at w2
      by_cases hc : c' = c
      · subst hc
        rw [if_pos rfl] at w2
        obtain ⟨p, dx, vs, ev, h1, h2, h3, rr⟩ := q
        rw [ev] at es
        have hz : ((G.g c').2.zip vs).length < 1000 := by rw [List.length_zip]; omega
        refine ⟨.ref p, es, p, _, dx, _, rfl, h1, T.cl, T.na, hz, ?_⟩
        by_cases hj : ds.length = j
        · rw [if_pos hj] at w2
          have at' : (G.g c').2[vs.length]? = some f := by rw [rr.length, hj]; exact T.at_
          rw [putF_new T.nd at']
          have hlt : vs.length < (G.g c').2.length := (List.getElem?_eq_some_iff.mp at').1
          have sv : SvOk K G F2 (upd H1 p (.ins (G.g c').1 dx ((G.g c').2.zip (vs ++ [v])))) (some (.ref p)) (.obj c' (ds ++ [d])) := ⟨p, dx, vs ++ [v], rfl, upd_same, h2, by rw [List.length_append]; show vs.length + 1 ≤ _; omega, rr.append (.cons r2 .nil)⟩
          exact w2 F2 _ σ (o2.change es e rfl rfl sv) (f2.trans (Fr.change o2 es e rfl rfl))
        · rw [if_neg hj] at w2
          by_cases hj2 : j < ds.length
          · rw [if_pos hj2] at w2
            rw [putF_old T.nd T.at_ (by rw [rr.length]; exact hj2)]
            have sv : SvOk K G F2 (upd H1 p (.ins (G.g c').1 dx ((G.g c').2.zip (vs.set j v)))) (some (.ref p)) (.obj c' (ds.set j d)) := ⟨p, dx, vs.set j v, rfl, upd_same, h2, by rw [List.length_set]; exact h3, rr.set r2 j⟩
            exact w2 F2 _ σ (o2.change es e rfl rfl sv) (f2.trans (Fr.change o2 es e rfl rfl))
          · rw [if_neg hj2] at w2; exact w2.elim
      · rw [if_neg hc] at w2; exact w2.elim
    | none => exact w2.elim
    | imm d => exact w2.elim
    | own xs => exact w2.elim
    | brw xs => exact w2.elim
    | exc x => exact w2.elim
end
end Dl
namespace L2
open PySem PySem.Spec PyProof.Rows
section
variable {X : Cx} {CX : CXT} {k : Nat} {f C : Addr} {fd : FuncData} {ps : List Str} {sp : Sp} {E : St → XK} {x m : Str} {p pos apos : Pos} {e o : Expr} {es : List Expr} {ta : TE} {t : TA}
def tMakeS (C : Addr) (sp : Sp) (E : St → XK) (t : TA) : TE := fun σ H Q => t σ H fun vs H1 => ∀ x dx, H1 x = none → H1 dx = none → dx ≠ x →
  sp (.ref x :: vs) (upd (upd H1 dx (.own x)) x (.ins C dx [])) (fun v H2 => v = .non ∧ Q (.ref x) H2) (E σ)
theorem run_makeS {pins : List (Addr × Obj)} {σ : St} {H : Hp} {s : Shared} {Q : VK} {us : List Value} {vs : List V} (M : Mk X.K C f) (F : FnOk X.prog X.w X.K X.mg X.base CX k f fd ps sp) (hr : Room (k + 1) X.A) (hb : Binds X.K fd ps [])
    (hx : PassesAt CX X σ (E σ)) (I : Inv X pins σ H s) (r : Vals vs us)
    (h : ∀ x dx, H x = none → H dx = none → dx ≠ x → sp (.ref x :: vs) (upd (upd H dx (.own x)) x (.ins C dx [])) (fun v H2 => v = .non ∧ Q (.ref x) H2) (E σ)) :
    wpAny (model X.prog X.w) X.A (call (.ref C) us) (EP X pins σ Q) X.xe s := by
  have hq := h (s.heap.objs.size + 1) s.heap.objs.size (I.hok.fresh (Nat.le_succ _)) (I.hok.fresh (Nat.le_refl _)) (Nat.ne_of_lt (Nat.lt_succ_self _))
  have I2 := Inv.made (C := C) I
  have r2 : Vals (V.ref (s.heap.objs.size + 1) :: vs) (Value.ref (s.heap.objs.size + 1) :: us) := .cons rfl r
  have hl : (Value.ref (s.heap.objs.size + 1) :: us).length = ps.length := by
    have e := r2.length
    rw [F.len _ _ _ _ hq] at e
    exact e.symm
  have b := hb { s with heap := (s.heap.push { cls := .type "dict", data := .dict #[] }).push (PySem.W.instObj C s.heap.objs.size) } (Value.ref (s.heap.objs.size + 1) :: us) I2.kIn (by rw [List.append_nil]; exact hl)
  rw [List.append_nil] at b
  refine wpAny_call (make_map (f := f) I.kIn M.makes M.init (beq_iff_eq.mp M.fn) (codeAny_mono (F.run _ X.stack _ _ ⟨Value.ref (s.heap.objs.size + 1) :: us, []⟩ (Value.ref (s.heap.objs.size + 1) :: us) _ _ (E σ) (hr.make C us [])
    (I2.env0.make C us []) b r2 hq) fun r s' hq' => ?_))
  cases r with
  | error e => exact hx pins _ _ e s' I2 hq'
  | ok fl =>
    cases fl with
    | ret u =>
      obtain ⟨v, H', I3, rv, ev, q3⟩ := I2.after hq'
      subst ev
      exact ⟨rv, ⟨V.ref (s.heap.objs.size + 1), H', I3, rfl, q3⟩⟩
    | next => exact False.elim hq'
    | brk => exact False.elim hq'
    | cont => exact False.elim hq'
theorem pe_makeS (M : Mk X.K C f) (F : FnOk X.prog X.w X.K X.mg X.base CX k f fd ps sp) (hr : Room (k + 1) X.A) (hg : Gl X x) (hm : X.mg x = some (.ref C)) (hb : Binds X.K fd ps []) (hx : ∀ σ, PassesAt CX X σ (E σ))
    (ha : PA X (e :: es) t) (hdb : (x == ("__debug__" : Str)) = false := by decide) (he : starEach (e :: es) X.env = (false, eval e X.env) :: starEach es X.env := by rfl) (hpl : (backTo pos (starEach es X.env)).any (·.1) = false := by rfl) :
    PE X (.Call (.Name x p) (e :: es) [] pos) (tMakeS C sp E t) := by
  refine ⟨fun pins s σ H Q I h => ?_⟩
  refine wpAny_Call_Name_kw (ld_glob I hg hm ?_ hdb)
  refine PySem.W.callWith_K (h₀ := X.base) I.ok.mod.kin M.kp (thn (ha.run pos pins s σ H _ I h) fun us s1 ⟨vs, H1, I1, r, q⟩ => ⟨I1.kIn, ?_⟩) he hpl
  exact run_makeS M F hr hb (hx σ) I1 r q
theorem pe_makeS0 (M : Mk X.K C f) (F : FnOk X.prog X.w X.K X.mg X.base CX k f fd ps sp) (hr : Room (k + 1) X.A) (hg : Gl X x) (hm : X.mg x = some (.ref C)) (hb : Binds X.K fd ps []) (hx : ∀ σ, PassesAt CX X σ (E σ))
    (hdb : (x == ("__debug__" : Str)) = false := by decide) : PE X (.Call (.Name x p) [] [] pos) (tMakeS C sp E tNil) := by
  refine ⟨fun pins s σ H Q I h => ?_⟩
  refine wpAny_Call_Name_kw (ld_glob I hg hm ?_ hdb)
  exact PySem.W.callWith_K0 I.kIn M.kp (run_makeS (us := []) M F hr hb (hx σ) I .nil h)
def tMethZ (C : Addr) (m : Str) (sp : Sp) (E : St → XK) (ta : TE) (t : TA) : TE := fun σ H Q => ta σ H fun x H1 => ∃ a dx fs, x = .ref a ∧ H1 a = some (.ins C dx fs) ∧ fs.lookup m = none ∧
  t σ H1 fun vs H2 => sp (x :: vs) H2 Q (E σ)
theorem pe_methZ {pl : Sem Bool} (he : PE X o ta) (c : Cls X.K C) (hm : Meth X.K C m f) (F : FnOk X.prog X.w X.K X.mg X.base CX k f fd ps sp) (hr : Room k X.A) (hb : Binds X.K fd ps []) (hx : ∀ σ, PassesAt CX X σ (E σ)) (ha : PA X (e :: es) t)
    (hst : starEach (e :: es) X.env = (false, eval e X.env) :: starEach es X.env := by rfl) (hpl : (backTo pos (starEach es X.env)).any (·.1) = false := by rfl)
    (ht : eval (.Call (.Attribute o m apos) (e :: es) [] pos) X.env = (do
      let ov ← eval o X.env
      standAt apos.atName
      let (f, first) ← holding [ov] (getMethod ov m pl)
      callWith pos f first (backTo pos (starEach (e :: es) X.env)) (backToKw pos (keywordEach [] X.env))) := by rfl) :
    PE X (.Call (.Attribute o m apos) (e :: es) [] pos) (tMethZ C m sp E ta t) := by
  refine ⟨fun pins s σ H Q I h => ?_⟩
  refine PySem.W.methodCall_KW (pl := pl) (thn (he.run pins s σ H _ I h) fun u s1 ⟨x, H1, I1, rx, a, dx, fs, ex, ea, l, q⟩ => ?_) ht
  subst ex
  obtain rfl : u = Value.ref a := rx
  refine getmeth_ok I1 ea c hm l ?_
  refine PySem.W.callWith_K (first := [.ref a]) (h₀ := X.base) I.ok.mod.kin hm.kp (thn (ha.run pos pins s1 σ H1 _ I1 q) fun us s2 ⟨vs, H2, I2, r, q2⟩ => ⟨I2.kIn, ?_⟩) hst hpl
  exact run_fnS (us := .ref a :: us) (vs := .ref a :: vs) F hr hb (hx σ) I2 (.cons rfl r) q2
theorem pe_methZ0 {pl : Sem Bool} (he : PE X o ta) (c : Cls X.K C) (hm : Meth X.K C m f) (F : FnOk X.prog X.w X.K X.mg X.base CX k f fd ps sp) (hr : Room k X.A) (hb : Binds X.K fd ps []) (hx : ∀ σ, PassesAt CX X σ (E σ))
    (ht : eval (.Call (.Attribute o m apos) [] [] pos) X.env = (do
      let ov ← eval o X.env
      standAt apos.atName
      let (f, first) ← holding [ov] (getMethod ov m pl)
      callWith pos f first (backTo pos (starEach [] X.env)) (backToKw pos (keywordEach [] X.env))) := by rfl) :
    PE X (.Call (.Attribute o m apos) [] [] pos) (tMethZ C m sp E ta tNil) := by
  refine ⟨fun pins s σ H Q I h => ?_⟩
  refine PySem.W.methodCall_KW (pl := pl) (thn (he.run pins s σ H _ I h) fun u s1 ⟨x, H1, I1, rx, a, dx, fs, ex, ea, l, q⟩ => ?_) ht
  subst ex
  obtain rfl : u = Value.ref a := rx
  refine getmeth_ok I1 ea c hm l ?_
  exact PySem.W.callWith_K0 (first := [.ref a]) I1.kIn hm.kp (run_fnS (us := [.ref a]) (vs := [.ref a]) F hr hb (hx σ) I1 (.cons rfl .nil) q)
theorem pe_callS0 (F : FnOk X.prog X.w X.K X.mg X.base CX k f fd ps sp) (hr : Room k X.A) (hg : Gl X x) (hm : X.mg x = some (.ref f)) (hk : PySem.W.keepIn X.K (.ref f) = true) (hb : Binds X.K fd ps []) (hx : ∀ σ, PassesAt CX X σ (E σ))
    (hdb : (x == ("__debug__" : Str)) = false := by decide) : PE X (.Call (.Name x p) [] [] pos) (tCallS sp E tNil) := by
  refine ⟨fun pins s σ H Q I h => ?_⟩
  refine wpAny_Call_Name_kw (ld_glob I hg hm ?_ hdb)
  exact PySem.W.callWith_K0 I.kIn hk (run_fnS (us := []) F hr hb (hx σ) I .nil h)
end
end L2

namespace Dl
open PySem L2
/-! ### an instance is made -/
def makeM (c nm n : Nat) (den : List SV → Cal) (as : List AV) : M RV := fun env => if (alsOf as).Nodup ∧ as.length = n then match svsOf env as with
    | some svs => (match den (.obj c [] :: svs) with
      | .ok (.imm .non) (.obj c' ds :: us) => if c' = c ∧ ds.length = nm then (match backs env as us with
        | some env' => .ok (.imm (.ins c ds)) env'
        | none => .stuck) else .stuck
      | .err x (_ :: us) => (match backs env as us with
        | some env' => .err x env'
        | none => .stuck)
      | _ => .stuck)
    | none => .stuck
  else .stuck
def eMake (c nm n : Nat) (den : List SV → Cal) (f : M (List AV)) : M RV := bindM f fun as => makeM c nm n den as
section
variable {K : PySem.W.Frag} {G : Gs} {W : WX}
theorem sim_callS {den : List SV → Cal} {n : Nat} {ta : TA} {fa : M (List AV)} (ha : SimA K G W ta fa) : SimE K G W (tCallS (spD K G n den) (WE W) ta) (eCall n den fa) := fun F H σ env Q ok w => by
  refine ha F H σ env _ ok ((want_bind w).imp fun as env1 F1 H1 o1 f1 k vs rs => ?_)
  exact call_ok o1 rs ((k o1 f1).imp fun rv env' F' H' _ _ q v r => q v (r.first fun a h => f1.new h))
/-- the slots but the first one -/
theorem own_tail {o : Option V} {s : SV} {σ : L2.St} {env : Env} {a : Addr} (h : Own σ env a) : Own (o :: σ) (s :: env) a := by
  obtain ⟨i, t, h1, m, h2⟩ := h
  exact ⟨i + 1, t, by simpa using h1, m, by simpa using h2⟩
theorem own_cons {o : Option V} {s : SV} {σ : L2.St} {env : Env} {a : Addr} (h : Own (o :: σ) (s :: env) a) : Own σ env a ∨ o = some (.ref a) := by
  obtain ⟨i, t, h1, m, h2⟩ := h
  cases i with
  | zero => simp at h2; exact .inr h2
  | succ i => exact .inl ⟨i, t, by simpa using h1, m, by simpa using h2⟩
theorem Ok.tail {F H : Hp} {o : Option V} {s : SV} {σ : L2.St} {env : Env} (k : Ok K G F H (o :: σ) (s :: env)) : Ok K G F H σ env :=
  ⟨k.sub, by simpa using k.len, fun i o s h1 h2 => k.slot (i + 1) o s (by simpa using h1) (by simpa using h2), fun i j s t a h1 m1 h2 h3 m2 h4 => by
    have := k.inj (i + 1) (j + 1) s t a (by simpa using h1) m1 (by simpa using h2) (by simpa using h3) m2 (by simpa using h4)
    omega⟩
/-- what is not owned ahead of a call and new is not owned behind it -/
theorem back_notOwn {F H F' H' : Hp} {σ : L2.St} {env env' : Env} {as : List AV} {us : List SV} {p : Addr} (o : Ok K G F H σ env) (nd : (alsOf as).Nodup) (hb : backs env as us = some env') (hp : H p = none) : ¬ Own σ env' p := fun ⟨i, s, h1, m, h2⟩ => by
  obtain ⟨bl, bo, bi⟩ := backs_spec hb nd
  refine o.notOwn hp ?_
  by_cases hz : i ∈ alsOf as
  · obtain ⟨j, ej⟩ := mem_als hz
    obtain ⟨t, u, u', p1, p2, p3, p4⟩ := bi j i ej
    rw [h1] at p4; cases p4
    exact ⟨i, t, p1, backSv_mut p3 m, h2⟩
  · rw [bo i hz] at h1
    exact ⟨i, s, h1, m, h2⟩
theorem sim_make {c nm n : Nat} {den : List SV → Cal} {ta : TA} {fa : M (List AV)} (hnm : (G.g c).2.length = nm) (ha : SimA K G W ta fa) : SimE K G W (tMakeS (G.g c).1 (spD K G (n + 1) den) (WE W) ta) (eMake c nm n den fa) := fun F H σ env Q ok w => by
  refine ha F H σ env _ ok ((want_bind w).imp fun as env1 F1 H1 o1 f1 k vs rs => ?_)
  intro x dx hx hdx hne
  have w1 := k o1 f1
  unfold makeM at w1
  by_cases ndn : (alsOf as).Nodup ∧ as.length = n
  · rw [if_pos ndn] at w1
    obtain ⟨nd, hn⟩ := ndn
    cases hs : svsOf env1 as with
    | none => simp only [hs] at w1; exact w1.elim
    | some svs =>
      simp only [hs] at w1
      obtain ⟨oa, own⟩ := call_args o1 rs nd hs
      -- the new instance
      have hl1 : Le H1 (upd (upd H1 dx (.own x)) x (.ins (G.g c).1 dx [])) := fun a u e => by
        rw [upd_ne (ne_of_none e hx), upd_ne (ne_of_none e hdx)]; exact e
      have hx0 : ∀ {a : Addr} {o : HO}, H1 a = some o → a ≠ x := fun e => ne_of_none e hx
      have o2 : Ok K G F1 (upd (upd H1 dx (.own x)) x (.ins (G.g c).1 dx [])) (((V.ref x) :: vs).map some) (.obj c [] :: svs) := by
        refine ⟨o1.sub.trans hl1, by simpa using oa.len, fun i o s h1 h2 => ?_, fun i j s t a h1 m1 h2 h3 m2 h4 => ?_⟩
        · cases i with
          | zero =>
            simp at h1 h2
            subst h1 h2
            exact ⟨x, dx, [], rfl, by rw [upd_same]; simp, o1.sub.none hx, Nat.zero_le _, .nil⟩
          | succ i => exact (oa.slot i o s (by simpa using h1) (by simpa using h2)).mono Le.rfl fun a u _ _ e1 e2 => ⟨hl1 a u e1, e2⟩
        · have low : ∀ {i : Nat} {s : SV}, svs[i]? = some s → s.mut = true → (vs.map some)[i]? = some (some (.ref x)) → False := fun {i s} h m e => oa.notOwn hx ⟨i, s, h, m, e⟩
          cases i with
          | zero =>
            cases j with
            | zero => rfl
            | succ j =>
              simp at h2
              subst h2
              exact (low (by simpa using h3) m2 (by simpa using h4)).elim
          | succ i =>
            cases j with
            | zero =>
              simp at h4
              subst h4
              exact (low (by simpa using h1) m1 (by simpa using h2)).elim
            | succ j => exact congrArg (· + 1) (oa.inj i j s t a (by simpa using h1) m1 (by simpa using h2) (by simpa using h3) m2 (by simpa using h4))
      -- from the call's end to the arguments'
      have back : ∀ {F' H' : Hp} {u : SV} {us : List SV}, Ok K G F' H' (((V.ref x) :: vs).map some) (u :: us) → Fr (((V.ref x) :: vs).map some) (.obj c [] :: svs) F1 (upd (upd H1 dx (.own x)) x (.ins (G.g c).1 dx [])) (((V.ref x) :: vs).map some) (u :: us) F' H' →
          Ok K G F' H' (vs.map some) us ∧ Fr (vs.map some) svs F1 H1 (vs.map some) us F' H' := fun {F' H' u us} o' f' => by
        refine ⟨o'.tail, f'.sub, fun a o e n => f'.keep a o (hl1 a o e) fun z => ?_, fun a e n f => f'.low a ?_ (fun z => ?_) f, fun a z => ?_, fun a e => f'.there a ?_, fun i s h m => ?_⟩
        · rcases own_cons z with z | z
          · exact n z
          · cases z; exact hx0 e rfl
        · cases q : H1 a with
          | none => exact absurd q e
          | some o => rw [hl1 a o q]; intro z; cases z
        · rcases own_cons z with z | z
          · exact n z
          · cases z; exact e hx
        · rcases f'.own a (own_tail z) with y | y
          · rcases own_cons y with y | y
            · exact .inl y
            · cases y; exact .inr hx
          · refine .inr ?_
            cases q : H1 a with
            | none => rfl
            | some o => rw [hl1 a o q] at y; cases y
        · cases q : H1 a with
          | none => exact absurd q e
          | some o => rw [hl1 a o q]; intro z; cases z
        · obtain ⟨e1, t, e2, e3⟩ := f'.lent (i + 1) s (by simpa using h) m
          exact ⟨by simpa using e1, t, by simpa using e2, e3⟩
      refine ⟨F1, .obj c [] :: svs, by simp [rs.length, hn], o2, ?_⟩
      cases e : den (.obj c [] :: svs) with
      | ok rv us0 =>
        rw [e] at w1
        intro v F' H' o' f' rr na
        cases rv with
        | al i => exact (na i rfl).elim
        | fresh xs => exact w1.elim
        | imm d =>
          cases d with
          | non =>
            cases us0 with
            | nil => exact w1.elim
            | cons u us =>
              cases u with
              | obj c' ds =>
                simp only at w1
                by_cases hc : c' = c ∧ ds.length = nm
                · rw [if_pos hc] at w1
                  obtain ⟨rfl, hds⟩ := hc
                  cases hb : backs env1 as us with
                  | none => simp only [hb] at w1; exact w1.elim
                  | some env' =>
                    simp only [hb] at w1
                    cases rr
                    obtain ⟨k1, k2⟩ := back o' f'
                    obtain ⟨k3, k4⟩ := call_back o1 rs nd hs hb k1 k2
                    obtain ⟨p, dx', ws, ep, h1, h2, h3, h4⟩ := o'.slot 0 _ _ (show (((V.ref x) :: vs).map some)[0]? = some (some (.ref x)) from rfl) rfl
                    cases ep
                    have no : ¬ Own σ env' x := back_notOwn (F' := F1) (H' := H1) o1 nd hb hx
                    refine ⟨rfl, w1 _ _ (k3.tell h1 no h2) (Fr.tell h2 k4 hx) _ ?_⟩
                    exact .ins upd_same (by rw [h4.length, hds, hnm]) (h4.mono (Le.upd h2))
                · rw [if_neg hc] at w1; exact w1.elim
              | _ => exact w1.elim
          | _ => exact w1.elim
      | err xx us0 =>
        rw [e] at w1
        intro cls d F' H' o' f' xo
        cases us0 with
        | nil => exact w1.elim
        | cons u us =>
          simp only at w1
          cases hb : backs env1 as us with
          | none => simp only [hb] at w1; exact w1.elim
          | some env' =>
            simp only [hb] at w1
            obtain ⟨k1, k2⟩ := back o' f'
            obtain ⟨k3, k4⟩ := call_back o1 rs nd hs hb k1 k2
            exact w1 F' H' cls d k3 k4 xo
      | stuck => rw [e] at w1; exact w1.elim
  · rw [if_neg ndn] at w1; exact w1.elim

/-! ### o.m(..) -/
def eMeth (c n : Nat) (den : List SV → Cal) (f0 : M RV) (fa : M (List AV)) : M RV := bindM f0 fun r0 => match r0 with
  | .imm (.ins c' ds) => if c' = c then bindM fa fun as => callM n den (.imm (.ins c ds) :: as) else fun _ => .stuck
  | .al i => fun env => match env[i]? with
    | some (.obj c' _) => if c' = c then bindM fa (fun as => callM n den (.al i :: as)) env else .stuck
    | _ => .stuck
  | _ => fun _ => .stuck
theorem sim_meth {c n : Nat} {m : Str} {den : List SV → Cal} {t0 : TE} {f0 : M RV} {ta : TA} {fa : M (List AV)} (hm : m ∉ (G.g c).2) (h0 : SimE K G W t0 f0) (ha : SimA K G W ta fa) :
    SimE K G W (tMethZ (G.g c).1 m (spD K G n den) (WE W) t0 ta) (eMeth c n den f0 fa) := fun F H σ env Q ok w => by
  refine h0 F H σ env _ ok ((want_bind w).imp fun r0 env1 F1 H1 o1 f1 k v r => ?_)
  have w1 := k o1 f1
  cases r0 with
  | fresh xs => exact w1.elim
  | imm d =>
    cases d with
    | ins c' ds =>
      simp only at w1
      by_cases hc : c' = c
      · subst hc
        rw [if_pos rfl] at w1
        cases r with
        | ins hi hl rr =>
          refine ⟨_, _, _, rfl, o1.sub _ _ hi, zip_lookup_none hm, ?_⟩
          refine ha F1 H1 σ env1 _ o1 ((want_bind w1).imp fun as env2 F2 H2 o2 f2 k2 vs rs => ?_)
          refine call_ok o2 (.cons (show AvOk K G F2 σ _ (.imm (.ins c' ds)) from .ins (f2.sub _ _ hi) hl (rr.mono f2.sub)) rs) ((k2 o2 f2).imp fun rv env' F' H' _ _ q v r => q v (r.first fun a h => (f1.trans f2).new h))
      · rw [if_neg hc] at w1; exact w1.elim
    | _ => exact w1.elim
  | al i =>
    simp only at w1
    obtain ⟨es, s, he⟩ := r
    rw [he] at w1
    cases s with
    | obj c' ds =>
      simp only at w1
      by_cases hc : c' = c
      · subst hc
        rw [if_pos rfl] at w1
        obtain ⟨p, dx, ws, ev, h1, h2, h3, h4⟩ := o1.slot i _ _ es he
        cases ev
        refine ⟨_, _, _, rfl, h1, zip_lookup_none hm, ?_⟩
        refine ha F1 H1 σ env1 _ o1 ((want_bind w1).imp fun as env2 F2 H2 o2 f2 k2 vs rs => ?_)
        refine call_ok o2 (.cons (show AvOk K G F2 σ _ (.al i) from es) rs) ((k2 o2 f2).imp fun rv env' F' H' _ _ q v r => q v (r.first fun a h => (f1.trans f2).new h))
      · rw [if_neg hc] at w1; exact w1.elim
    | _ => exact w1.elim
end
end Dl
namespace L2
open PySem PySem.Spec PyProof.Rows
/-! ### try with several clauses, with or without a name -/
abbrev ClT : Type := Value × Option Nat × (Addr → Value → Option Addr → TS)
def endsG (D : Ends) : Option Nat → Ends
  | none => D
  | some i => { nx := fun σ' H' => D.nx (σ'.set i none) H', rt := D.rt, bk := fun σ' H' => D.bk (σ'.set i none) H', ct := fun σ' H' => D.ct (σ'.set i none) H' }
def slotG (σ : St) (a : Addr) : Option Nat → St
  | none => σ
  | some i => σ.set i (some (.ref a))
def wG (K : PySem.W.Frag) (Wout : WX) (D : Ends) : List ClT → WX
  | [] => Wout
  | (c, o, ts) :: r => fun cls d σ H => ∃ b, PySem.W.exmOne K cls c = some b ∧ (b = true → ∀ a, H a = none → ts a cls d (endsG D o) (slotG σ a o) H) ∧ (b = false → wG K Wout D r cls d σ H)
inductive HdG (X : Cx) : List ExceptHandler → List ClT → Prop
  | nil : HdG X [] []
  | cons {x : Str} {c : Value} {ts : Addr → Value → Option Addr → TS} {b₀ : Stmt} {suite : List Stmt} {np pos' : Pos} {hds : List ExceptHandler} {l : List ClT} (hc : Names X x c)
      (hsu : ∀ (a : Addr) (oe : Obj) (cls : Value) (d : Option Addr) (pn : List (Addr × Obj)), Zc cls d oe → (∃ vs, oe.data = .fields vs) → PSs (X.suite a ((a, oe) :: pn)) (b₀ :: suite) (ts a cls d)) (r : HdG X hds l) :
      HdG X (.ExceptHandler (some (.Name x np)) none (b₀ :: suite) pos' :: hds) ((c, none, ts) :: l)
  | consAs {x n : Str} {i : Nat} {c : Value} {ts : Addr → Value → Option Addr → TS} {b₀ : Stmt} {suite : List Stmt} {np pos' : Pos} {hds : List ExceptHandler} {l : List ClT} (hc : Names X x c) (hN : X.N.Nodup) (hi : X.N[i]? = some n) (hln : X.env.kindOf n = some .local)
      (hsu : ∀ (a : Addr) (oe : Obj) (cls : Value) (d : Option Addr) (pn : List (Addr × Obj)), Zc cls d oe → (∃ vs, oe.data = .fields vs) → PSs (X.suite a ((a, oe) :: pn)) (b₀ :: suite) (ts a cls d)) (r : HdG X hds l) :
      HdG X (.ExceptHandler (some (.Name x np)) (some n) (b₀ :: suite) pos' :: hds) ((c, some i, ts) :: l)
section
variable {X : Cx} {body : List Stmt} {h₀ : ExceptHandler} {hds : List ExceptHandler} {l : List ClT} {pos : Pos} {tb : WX → TS} {Wout : WX}
theorem ps_tryG (hs : X.stack = X.env :: X.outer) (hf : X.env.frame = some X.env.locals) (tk : Takes X Wout)
    (hb : ∀ (W : WX) (pn : List (Addr × Obj)) (xe : Value → Shared → Prop), Takes (X.tr pn xe) W → PassesOwn (model X.prog X.w) X.A X.env xe → PSs (X.tr pn xe) body (tb W))
    (hh : HdG X (h₀ :: hds) l) : PS X (.Try body (h₀ :: hds) [] [] pos) (fun D σ H => tb (wG X.K Wout D l) D σ H) := by
  refine ⟨fun pins s σ H D I h => ?_⟩
  have ok := I.ok
  have hfr : X.A.frames = some (X.env :: X.outer) := by rw [ok.frames, hs]
  refine wpAny_Try_except ?_
  refine wpAny_mono ((hb (wG X.K Wout D l) (X.pn ++ pins) (fun e s₁ => wpAny (model X.prog X.w) X.A (noteFrame e X.env) (fun _ s₂ => wpAny (model X.prog X.w) X.A (setFlight e none) (fun _ s₃ =>
    wpAny (model X.prog X.w) X.A (handleBy e X.env (h₀ :: hds)) (SP X pins D) X.xe s₃) X.xe s₂) X.xe s₁) (fun u s' xx => ?_) PassesOwn.looking).run [] s σ H D (I.toTry _) h) (fun f s1 hsp => ?_) (fun e s1 he => he)
  · -- the catch
    obtain ⟨a, B, sI, pins', σ', H', cls, d, rfl, J', nb, up, sky, na, os, ag, w⟩ := xx
    have J : Inv X pins σ' H' sI := J'.ofTry ok
    have sky' : Sky B (X.env :: X.outer) a (Zc cls d) X.env.locals s'.heap := by rw [← hs]; exact sky
    show wpAny (model X.prog X.w) X.A (noteFrame (.ref a) X.env) _ _ _
    refine Sky.land Zc.steady hfr hf sky' fun h3 fl3 up3 => ?_
    have J3 : Inv X pins σ' H' { s' with heap := h3 } := J.landed nb fl3.1 (up.trans up3) os ag
    obtain ⟨oe3, vs3, he3, hz3, hd3⟩ := fl3.there
    have notFr : ∀ {h : Heap} {o : Obj} {vs : Array Value}, h.FunFrames B (X.env :: X.outer) → h.get? a = some o → o.data = .fields vs → a ∉ frs (X.env :: X.outer) := fun {h o vs} ff e dd hm => by
      obtain ⟨_, o', e', hnf⟩ := ff.mem hm
      rw [e] at e'; cases e'
      exact hnf _ dd
    have nfr := notFr fl3.2.2.1 he3 hd3
    have nL : a ≠ X.env.locals := fun z => nfr (List.mem_filterMap.mpr ⟨X.env, List.mem_cons_self, by rw [hf, z]⟩)
    have nF : a ∉ X.fs := fun hm => by
      obtain ⟨e, he, q⟩ := List.mem_filterMap.mp hm
      exact nfr (List.mem_filterMap.mpr ⟨e, List.mem_cons_of_mem _ he, q⟩)
    have S3 := J3.suite he3 hd3 na nL nF
    have go : ∀ {hds' : List ExceptHandler} {l' : List ClT}, HdG X hds' l' → wG X.K Wout D l' cls d σ' H' →
        wpAny (model X.prog X.w) X.A (handleBy (.ref a) X.env hds') (SP X pins D) X.xe { s' with heap := h3 } := by
      intro hds' l' hk
      induction hk with
      | nil =>
        intro w
        refine wpAny_handleBy_nil ?_
        obtain ⟨k1, k2, k3, oe, vs, T, oT, ts', he, hz, hd, h1, hr⟩ := id fl3
        unfold PySem.passOn
        refine wpAny_bind (wpAny_field he hd h1 ?_)
        rw [if_neg (show ¬ ((Value.ref T == Value.none) = true) from by simp)]
        have fin : wpAny (model X.prog X.w) X.A (setFlight (.ref a) X.env.frame) (fun _ s4 => wpAny (model X.prog X.w) X.A (throw (.ref a) : Sem Flow) (SP X pins D) X.xe s4) X.xe { s' with heap := h3 } := by
          rw [hf]
          refine HandSPX.setFlight_upZ fl3 fun h4 hh4 up4 => wpAny_throw (tk _ _ ?_)
          exact ⟨a, B, sI, pins, σ', H', cls, d, rfl, J, nb, (up.trans up3).trans up4, .inr (.inr (by rw [hs]; exact hh4)), na, os, ag, w⟩
        first
          | exact wpAny_bind (wpAny_pure (wpAny_bind fin))
          | exact wpAny_bind fin
      | @cons x c ts b₀ suite np pos' hds2 l2 hc hsu r ih =>
        intro w
        obtain ⟨b, hb1, hyes, hno⟩ := w
        refine wpAny_handleBy_cons (codeAny_handlers_test ?_) (by intro q; cases q)
        have LT : PySem.W.Looks (model X.prog X.w) h3 (typeOf (.ref a)) cls := fun A Q E s k q => wpAny_typeOf_ref (k _ _ he3) (by rw [hz3.1]; exact q)
        have LM := PySem.W.exm_one (M := model X.prog X.w) (J3.kIn) LT hb1
        have test : ∀ {Q : Value → Shared → Prop} {E : Value → Shared → Prop}, Q c { s' with heap := h3 } → wpAny (model X.prog X.w) (X.A.mark (some (.ref a))) (eval (.Name x np) X.env) Q E { s' with heap := h3 } := fun {Q E} q => by
          obtain ⟨hg, hdbg, hm | ⟨hm, hv, hnn⟩⟩ := hc
          · exact ld_glob (X := X.suite a ((a, oe3) :: (X.pn ++ pins))) S3 hg hm q hdbg
          · exact ld_blt (X := X.suite a ((a, oe3) :: (X.pn ++ pins))) S3 hg hm hv q hnn hdbg
        refine test (LM.here ?_)
        cases b with
        | true =>
          refine codeAny_handlers_suite ?_
          refine HandSPX.lands_againZ fl3 fun h4 fl4 up4 => ?_
          have J4 : Inv X pins σ' H' { s' with heap := h4 } := J.landed nb fl4.1 ((up.trans up3).trans up4) os ag
          obtain ⟨oe4, vs4, he4, hz4, hd4⟩ := fl4.there
          have S4 := J4.suite he4 hd4 na nL nF
          refine wpAny_mono ((hsu a oe4 cls d (X.pn ++ pins) hz4 ⟨_, hd4⟩).run [] _ _ H' _ S4 (hyes rfl a na)) (fun f s6 hsp => ?_) (fun _ _ z => False.elim z)
          cases f with
          | next =>
            obtain ⟨σ6, H6, S6, q6⟩ := hsp
            exact ⟨_, _, S6.unsuite ok, q6⟩
          | brk =>
            obtain ⟨σ6, H6, S6, q6⟩ := hsp
            exact ⟨_, _, S6.unsuite ok, q6⟩
          | cont =>
            obtain ⟨σ6, H6, S6, q6⟩ := hsp
            exact ⟨_, _, S6.unsuite ok, q6⟩
          | ret u =>
            obtain ⟨v6, σ6, H6, S6, r6, q6⟩ := hsp
            exact ⟨_, _, _, S6.unsuite ok, r6, q6⟩
        | false =>
          show wpAny _ X.A (handleBy (.ref a) X.env hds2) _ _ _
          exact ih (hno rfl)
      | @consAs x n i c ts b₀ suite np pos' hds2 l2 hc hN hi hln hsu r ih =>
        intro w
        obtain ⟨b, hb1, hyes, hno⟩ := w
        have hloc : Loc X.env.scope n := .inl hln
        refine wpAny_handleBy_cons (codeAny_handlers_test ?_) (by intro q; cases q)
        have LT : PySem.W.Looks (model X.prog X.w) h3 (typeOf (.ref a)) cls := fun A Q E s k q => wpAny_typeOf_ref (k _ _ he3) (by rw [hz3.1]; exact q)
        have LM := PySem.W.exm_one (M := model X.prog X.w) (J3.kIn) LT hb1
        have test : ∀ {Q : Value → Shared → Prop} {E : Value → Shared → Prop}, Q c { s' with heap := h3 } → wpAny (model X.prog X.w) (X.A.mark (some (.ref a))) (eval (.Name x np) X.env) Q E { s' with heap := h3 } := fun {Q E} q => by
          obtain ⟨hg, hdbg, hm | ⟨hm, hv, hnn⟩⟩ := hc
          · exact ld_glob (X := X.suite a ((a, oe3) :: (X.pn ++ pins))) S3 hg hm q hdbg
          · exact ld_blt (X := X.suite a ((a, oe3) :: (X.pn ++ pins))) S3 hg hm hv q hnn hdbg
        refine test (LM.here ?_)
        cases b with
        | true =>
          refine codeAny_handlers_suite_as ?_
          refine HandSPX.lands_againZ fl3 fun h4 fl4 up4 => ?_
          have J4 : Inv X pins σ' H' { s' with heap := h4 } := J.landed nb fl4.1 ((up.trans up3).trans up4) os ag
          obtain ⟨oe4, vs4, he4, hz4, hd4⟩ := fl4.there
          have S4 := J4.suite he4 hd4 na nL nF
          refine store_ok (X := X.suite a ((a, oe4) :: (X.pn ++ pins))) (v := .ref a) S4 hN hi hloc rfl (fun s5 S5 => ?_) (.inr hln)
          refine wpAny_mono ((hsu a oe4 cls d (X.pn ++ pins) hz4 ⟨_, hd4⟩).run [] s5 _ H' _ S5 (hyes rfl a na)) (fun f s6 hsp => ?_) (fun _ _ z => False.elim z)
          have end_ : ∀ {σ6 : St} {H6 : Hp} {Q : Shared → Prop}, Inv (X.suite a ((a, oe4) :: (X.pn ++ pins))) [] σ6 H6 s6 → (∀ s7, Inv X pins (σ6.set i none) H6 s7 → Q s7) →
              wpAny (model X.prog X.w) X.A (do bindName X.env n .none; unbindBehindTheSuite X.env n pos') (fun _ s7 => Q s7) X.xe s6 := fun {σ6 H6 Q} S6 hq => gone_ok (S6.unsuite ok) hN hi hln hq
          cases f with
          | next =>
            obtain ⟨σ6, H6, S6, q6⟩ := hsp
            exact end_ S6 fun s7 J7 => ⟨_, _, J7, q6⟩
          | brk =>
            obtain ⟨σ6, H6, S6, q6⟩ := hsp
            exact end_ S6 fun s7 J7 => ⟨_, _, J7, q6⟩
          | cont =>
            obtain ⟨σ6, H6, S6, q6⟩ := hsp
            exact end_ S6 fun s7 J7 => ⟨_, _, J7, q6⟩
          | ret u =>
            obtain ⟨v6, σ6, H6, S6, r6, q6⟩ := hsp
            exact end_ S6 fun s7 J7 => ⟨_, _, _, J7, r6, q6⟩
        | false =>
          show wpAny _ X.A (handleBy (.ref a) X.env hds2) _ _ _
          exact ih (hno rfl)
    exact go hh w
  · cases f with
    | next =>
      obtain ⟨σ', H', J', q⟩ := hsp
      exact wpAny_execs_nil ⟨σ', H', J'.ofTry ok, q⟩
    | brk =>
      obtain ⟨σ', H', J', q⟩ := hsp
      exact ⟨σ', H', J'.ofTry ok, q⟩
    | cont =>
      obtain ⟨σ', H', J', q⟩ := hsp
      exact ⟨σ', H', J'.ofTry ok, q⟩
    | ret u =>
      obtain ⟨v, σ', H', J', r, q⟩ := hsp
      exact ⟨v, σ', H', J'.ofTry ok, r, q⟩
/-- X() of an own class without __init__ -/
theorem pmk_own0 {C : Addr} {bmB : List Value} {B newId initId : String} {x : Str} {p pos : Pos} (F : ExcBaseFacts B newId initId bmB) (q : PySem.W.excIn X.K C bmB newId = true) (gC : X.mg x = some (.ref C)) (kC : PySem.W.keepIn X.K (.ref C) = true) (r : Raises X (.ref C)) (hg : Gl X x)
    (hdb : (x == ("__debug__" : Str)) = false := by decide) : PMk X (.Call (.Name x p) [] [] pos) (fun _ H Q => Q (.ref C) none H) := by
  intro pins s σ H Q I h
  refine wpAny_Call_Name_kw (ld_glob I hg gC ?_ hdb)
  refine PySem.W.callWith_K0 I.kIn kC ?_
  show wpAny _ _ (call (.ref C) []) _ _ _
  obtain ⟨bm, N, nm, qn, bs, hdct, sn, sub, ab, col, dd, k0, k1, k2, k3, k5, mN, hC, hN, hni, T⟩ := exc_obj I.kIn q
  refine wpAny_call_exc_subT F T hC hN hni (fun h' e hm => ?_) (by show 0 ≤ sizeLine; exact Nat.zero_le _)
  exact mk_of I hm r h (I.hok.gone hm.new)
/-- what a class's own __init__ promises that keeps its one argument in f -/
def spXI (C : Addr) (f : Str) : Sp := fun vs H Q _ => ∃ (a : Addr) (y : V), vs = [.ref a, y] ∧ H a = some (exo a C none) ∧ ∀ dx, H dx = none → dx ≠ a → Q .non (upd (upd H dx (exd dx [(f, y)])) a (exo a C (some dx)))
/-- isinstance(e, c), e the exception that the suite holds -/
def rIsX (K : PySem.W.Frag) (a : Addr) (cls : Value) (d : Option Addr) : List V → Hp → VK → Prop := fun xs H Q => ∃ (D : Addr) (c : V) (cv : Value) (b : Bool), cls = .ref D ∧ ExcC K D ∧ (PySem.W.clsIn K D).isSome = true ∧ (d = none ∨ ∃ dd fs, d = some dd ∧ H dd = some (.xd fs)) ∧ xs = [.ref a, c] ∧ (∀ u, RelV c u → u = cv) ∧ PySem.W.kitOne K (.ref D) cv = some b ∧ Q (.bl b) H
theorem call_isX {X : Cx} {a : Addr} {oe : Obj} {cls : Value} {d : Option Addr} {pn : List (Addr × Obj)} (hz : Zc cls d oe) (hf : ∃ vs, oe.data = .fields vs) : CallR (X.suite a ((a, oe) :: pn)) (.builtin "isinstance") (rIsX X.K a cls d) := by
  intro pins s σ H xs us Q I r h
  obtain ⟨D, c, cv, b, rfl, C, hcl, hd, rfl, hcv, e, q⟩ := h
  cases r with
  | cons rx rr =>
    cases rr with
    | cons rt rr =>
      cases rr
      cases rx
      have ec := hcv _ rt
      subst ec
      obtain ⟨hget, _⟩ := I.pin (a, oe) (List.mem_append.mpr (.inl List.mem_cons_self))
      obtain ⟨vs, hv⟩ := hf
      have J : ∃ od, PySem.W.InstAt s.heap a oe D od := by
        rcases hd with hd | ⟨dd, fs, hd, hx⟩
        · refine ⟨none, ?_⟩
          obtain ⟨oc, od, oda, osl⟩ := oe
          obtain ⟨h1, h2⟩ := hz
          dsimp only at h1 h2 hv
          subst h1 h2 hv hd
          exact ⟨hget, rfl, rfl, trivial⟩
        · have hx' : ObjOk X.prog X.w H s.heap dd (.xd fs) := I.hok dd _ hx
          obtain ⟨mA, hns, hr⟩ := hx'
          obtain ⟨od, ho, hl⟩ := lookIn_ns hns
          exact ⟨some od, hget, hz.1, by unfold PySem.W.notCls; rw [hv] <;> rfl, by rw [hz.2, hd]; exact ho⟩
      obtain ⟨od, J⟩ := J
      exact PySem.W.kia_one (PySem.W.kitx_exc hcl C.hg C.hk C.hs C.ha C.hn C.ht C.hm) I.kIn J e (fun z => nomatch z) fun tk => ⟨.bl b, H, I.kept (t' := tk) fun _ _ z => z, rfl, q⟩
end
end L2
namespace Dl
open PySem L2

/-! ### exceptions -/
/-- what the head tells of the classes en of exceptions -/
structure EnOk (K : PySem.W.Frag) (G : CT) (en : List Nat) : Prop where
  c : ∀ c ∈ en, ExcC K (G c).1
  s : ∀ c ∈ en, (PySem.W.clsIn K (G c).1).isSome = true
def sRaise (c : Nat) (fe : M RV) : M Out := bindM fe fun r => bindM (settle r) fun d => fun env => .err ⟨c, [d]⟩ env
def sRaise0 (c : Nat) : M Out := fun env => .err ⟨c, []⟩ env
structure Clause where
  hit : Nat → Option Bool
  slot : Option Nat
  suite : M Out
def SV.isExc : SV → Bool
  | .exc _ => true
  | _ => false
def noExc (env : Env) : Bool := env.all fun s => !s.isExc
def clearS (o : Option Nat) (env : Env) : Env := match o with
  | none => env
  | some i => env.set i .none
def endH (o : Option Nat) (r : Res Out) : Res Out := match r with
  | .ok (.ret (.al _)) _ => .stuck
  | .ok out env => if noExc (clearS o env) = true then .ok out (clearS o env) else .stuck
  | _ => .stuck
def tryH : List Clause → Exn → M Out
  | [], x => fun env => .err x env
  | c :: r, x => fun env => match c.hit x.c with
    | some true => if noExc env = true then endH c.slot (c.suite (match c.slot with
      | none => env
      | some i => env.set i (.exc x))) else .stuck
    | some false => tryH r x env
    | none => .stuck
def sTry (fb : M Out) (cl : List Clause) : M Out := fun env => match fb env with
  | .err x env1 => tryH cl x env1
  | r => r
/-- err.f -/
def eXf (i c j : Nat) : M RV := fun env => match env[i]? with
  | some (.exc x) => if x.c = c then (match x.ds[j]? with
    | some d => .ok (.imm d) env
    | none => .stuck) else .stuck
  | _ => .stuck
/-- isinstance(err, c) -/
def eIsX (i : Nat) (en : List Nat) (hit : Nat → Option Bool) : M RV := fun env => match env[i]? with
  | some (.exc x) => if en.contains x.c = true then (match hit x.c with
    | some b => .ok (.imm (.bl b)) env
    | none => .stuck) else .stuck
  | _ => .stuck
section
variable {K : PySem.W.Frag} {G : Gs} {W : WX}
theorem upd_del {H : Hp} {a d : Addr} {u v w z0 : HO} (ha : H a = none) (hd : H d = none) (ne : d ≠ a) : upd (del (upd (upd (upd H a u) d v) a w) a) d z0 = upd H d z0 := by
  funext b
  unfold upd del
  by_cases z : b = d
  · rw [if_pos z, if_pos z]
  · rw [if_neg z, if_neg z]
    by_cases y : b = a
    · rw [if_pos y, y, ha]
    · rw [if_neg y]; show (if b = a then some w else if b = d then some v else if b = a then some u else H b) = H b; rw [if_neg y, if_neg z, if_neg y]
theorem sim_raise {c : Nat} {f : Str} {te : TE} {fe : M RV} (hn : (G.g c).2 = [f]) (he : SimE K G W te fe) :
    SimS K G W (fun _ σ H => tMkO (G.g c).1 (spXI (G.g c).1 f) [] (tCons te tNil) σ H fun cls d H' => W cls d σ H') (sRaise c fe) := fun F H σ env D ok w => by
  refine he F H σ env _ ok ((wantS_bind w).imp fun rv env1 F1 H1 o1 f1 k v r => ?_)
  obtain ⟨_, w1⟩ := k o1 f1
  obtain ⟨d, env2, F2, o2, f2, r2, w2⟩ := wantS_settle o1 f1 r w1
  refine ⟨by show 1 ≤ 1000; decide, fun a ha => ⟨a, v, rfl, upd_same, fun dx hdx ne => ⟨rfl, dx, [(f, v)], upd_same, ?_, ?_, ?_⟩⟩⟩
  · rw [upd_ne ne, upd_same]
  · rw [upd_ne ne] at hdx; exact hdx
  · rw [upd_ne ne] at hdx
    rw [upd_del ha hdx ne]
    have g := Gr.told (o := .xd [(f, v)]) o2.sub hdx
    refine w2 _ _ σ _ _ (o2.gr g) (f2.trans (Fr.gr g)) ⟨rfl, .inr ⟨dx, [v], rfl, by rw [hn]; exact upd_same, by rw [hn]; rfl, .cons (r2.mono g.f) .nil⟩⟩
theorem sim_raise0 {c : Nat} : SimS K G W (fun _ σ H => W (.ref (G.g c).1) none σ H) (sRaise0 c) := fun F H σ env D ok w => w F H σ _ _ ok Fr.refl ⟨rfl, .inl ⟨rfl, rfl⟩⟩
/-! another exception is held -/
def Gs.held (G : Gs) (a : Addr) (cls : Value) (d : Option Addr) : Gs := { G with a := a, cls := cls, d := d }
theorem SvOk.held {F H : Hp} {o : Option V} {s : SV} {a : Addr} {cls : Value} {d : Option Addr} (n : s.isExc = false) (h : SvOk K G F H o s) : SvOk K (G.held a cls d) F H o s := by
  cases s <;> first | exact h | cases n
theorem SvOk.unheld {F H : Hp} {o : Option V} {s : SV} {a : Addr} {cls : Value} {d : Option Addr} (n : s.isExc = false) (h : SvOk K (G.held a cls d) F H o s) : SvOk K G F H o s := by
  cases s <;> first | exact h | cases n
theorem noExc_get {env : Env} {i : Nat} {s : SV} (h : noExc env = true) (e : env[i]? = some s) : s.isExc = false := by
  have := List.all_eq_true.mp h s (List.mem_of_getElem? e)
  simpa using this
theorem Ok.held {F H : Hp} {σ : L2.St} {env : Env} {a : Addr} {cls : Value} {d : Option Addr} (n : noExc env = true) (k : Ok K G F H σ env) : Ok K (G.held a cls d) F H σ env :=
  ⟨k.sub, k.len, fun i o s h1 h2 => (k.slot i o s h1 h2).held (noExc_get n h2), k.inj⟩
theorem Ok.unheld {F H : Hp} {σ : L2.St} {env : Env} {a : Addr} {cls : Value} {d : Option Addr} (n : noExc env = true) (k : Ok K (G.held a cls d) F H σ env) : Ok K G F H σ env :=
  ⟨k.sub, k.len, fun i o s h1 h2 => (k.slot i o s h1 h2).unheld (noExc_get n h2), k.inj⟩
theorem wantS_endH {σ : L2.St} {env env2 : Env} {F H : Hp} {o : Option Nat} {out : Out} {D : Ends} (w : WantS K G W σ env F H (endH o (.ok out env2)) D) :
    (∀ j, out = .ret (.al j) → False) ∧ noExc (clearS o env2) = true ∧ WantS K G W σ env F H (.ok out (clearS o env2)) D := by
  have main : ∀ out : Out, (∀ j, out = .ret (.al j) → False) → endH o (.ok out env2) = (if noExc (clearS o env2) = true then .ok out (clearS o env2) else .stuck) := by
    intro out h
    cases out with
    | ret rv => cases rv with
      | al j => exact (h j rfl).elim
      | _ => rfl
    | _ => rfl
  have h : ∀ j, out = .ret (.al j) → False := by
    intro j e
    subst e
    exact w
  rw [main out h] at w
  by_cases hn : noExc (clearS o env2) = true
  · rw [if_pos hn] at w; exact ⟨h, hn, w⟩
  · rw [if_neg hn] at w; exact w.elim
/-- the clauses: what each tests, what its suite is worth -/
inductive ClsOk (K : PySem.W.Frag) (G : Gs) : List ClT → List Clause → Prop
  | nil : ClsOk K G [] []
  | cons {c : Value} {o : Option Nat} {ts : Addr → Value → Option Addr → TS} {l : List ClT} {hit : Nat → Option Bool} {f : M Out} {cl : List Clause}
      (hh : ∀ n b, hit n = some b → PySem.W.exmOne K (.ref (G.g n).1) c = some b) (hs : ∀ a cls d, SimS K (G.held a cls d) (fun _ _ _ _ => False) (ts a cls d) f) (r : ClsOk K G l cl) : ClsOk K G ((c, o, ts) :: l) (⟨hit, o, f⟩ :: cl)
theorem sim_try {tb : WX → TS} {fb : M Out} {l : List ClT} {cl : List Clause} (hb : ∀ W', SimS K G W' (tb W') fb) (hc : ClsOk K G l cl) : SimS K G W (fun D σ H => tb (wG K W D l) D σ H) (sTry fb cl) := fun F H σ env D ok w => by
  refine hb (wG K W D l) F H σ env D ok ?_
  unfold sTry at w
  cases e : fb env with
  | ok o env1 => simp only [e] at w; cases o <;> exact w
  | stuck => simp only [e] at w; exact w
  | err x env1 =>
    simp only [e] at w
    intro F1 H1 σ1 cls d o1 f1 xo
    have w1 := WantS.from w f1
    -- clause by clause
    have go : ∀ {l : List ClT} {cl : List Clause}, ClsOk K G l cl → WantS K G W σ1 env1 F1 H1 (tryH cl x env1) D → wG K W D l cls d σ1 H1 := by
      intro l cl hc
      induction hc with
      | nil => intro w; exact w F1 H1 σ1 cls d o1 Fr.refl xo
      | @cons c o ts l hit f cl hh hs r ih =>
        intro w
        unfold tryH at w
        simp only at w
        cases eh : hit x.c with
        | none => simp only [eh] at w; exact w.elim
        | some b =>
          simp only [eh] at w
          refine ⟨b, by rw [xo.1]; exact hh _ _ eh, fun hb1 a ha => ?_, fun hb0 => ?_⟩
          · subst hb1
            simp only at w
            by_cases hn : noExc env1 = true
            · rw [if_pos hn] at w
              have oh : Ok K (G.held a cls d) F1 H1 σ1 env1 := o1.held hn
              cases o with
              | none =>
                simp only at w
                refine hs a cls d F1 H1 σ1 env1 D oh ?_
                cases ef : f env1 with
                | err y env2 => rw [ef] at w; exact w.elim
                | stuck => rw [ef] at w; exact w.elim
                | ok out env2 =>
                  rw [ef] at w
                  obtain ⟨hal, hn2, w⟩ := wantS_endH w
                  have w : WantS K G W σ1 env1 F1 H1 (.ok out env2) D := w
                  have hn2 : noExc env2 = true := hn2
                  cases out with
                  | nx => exact fun F2 H2 σ2 o2 f2 => w F2 H2 σ2 (o2.unheld hn2) f2
                  | bk => exact fun F2 H2 σ2 o2 f2 => w F2 H2 σ2 (o2.unheld hn2) f2
                  | ct => exact fun F2 H2 σ2 o2 f2 => w F2 H2 σ2 (o2.unheld hn2) f2
                  | ret rv => exact fun F2 H2 σ2 v o2 f2 r2 => w F2 H2 σ2 v (o2.unheld hn2) f2 (by cases rv <;> exact r2)
              | some i =>
                simp only at w
                have o3 : Ok K (G.held a cls d) F1 H1 (σ1.set i (some (.ref a))) (env1.set i (.exc x)) := oh.put (s := .exc x) ⟨rfl, xo⟩ fun z => nomatch z
                have f3 : Fr σ1 env1 F1 H1 (σ1.set i (some (.ref a))) (env1.set i (.exc x)) F1 H1 := Fr.put rfl fun z => nomatch z
                refine hs a cls d F1 H1 _ (env1.set i (.exc x)) _ o3 ?_
                cases ef : f (env1.set i (.exc x)) with
                | err y env2 => rw [ef] at w; exact w.elim
                | stuck => rw [ef] at w; exact w.elim
                | ok out env2 =>
                  rw [ef] at w
                  obtain ⟨hal, hn2, w⟩ := wantS_endH w
                  have w : WantS K G W σ1 env1 F1 H1 (.ok out (env2.set i .none)) D := w
                  have hn2 : noExc (env2.set i .none) = true := hn2
                  have fin : ∀ {F2 H2 : Hp} {σ2 : L2.St}, Ok K (G.held a cls d) F2 H2 σ2 env2 → Fr (σ1.set i (some (.ref a))) (env1.set i (.exc x)) F1 H1 σ2 env2 F2 H2 → Ok K G F2 H2 (σ2.set i none) (env2.set i .none) ∧ Fr σ1 env1 F1 H1 (σ2.set i none) (env2.set i .none) F2 H2 := fun {F2 H2 σ2} o2 f2 =>
                    ⟨(o2.put (s := .none) (o := none) trivial fun z => nomatch z).unheld hn2, (f3.trans f2).trans (Fr.put rfl fun z => nomatch z)⟩
                  cases out with
                  | nx => exact fun F2 H2 σ2 o2 f2 => w F2 H2 _ (fin o2 f2).1 (fin o2 f2).2
                  | bk => exact fun F2 H2 σ2 o2 f2 => w F2 H2 _ (fin o2 f2).1 (fin o2 f2).2
                  | ct => exact fun F2 H2 σ2 o2 f2 => w F2 H2 _ (fin o2 f2).1 (fin o2 f2).2
                  | ret rv =>
                    intro F2 H2 σ2 v o2 f2 r2
                    cases rv with
                    | imm dd => exact w F2 H2 _ v (fin o2 f2).1 (fin o2 f2).2 r2
                    | fresh xs =>
                      obtain ⟨p, vs, q1, q2, q3, q4, q5, q6⟩ := r2
                      refine w F2 H2 _ v (fin o2 f2).1 (fin o2 f2).2 ⟨p, vs, q1, q2, q3, q4, fun z => ?_, q6⟩
                      rcases own_set z with z | ⟨z, _⟩
                      · exact q5 z
                      · cases z
                    | al j => exact (hal j rfl).elim
            · rw [if_neg hn] at w; exact w.elim
          · subst hb0
            exact ih w
    exact go hc w1
end
end Dl
namespace PySem.W
open PySem
section
variable {prog : Program} {w : World} {A : Around} {E : Value → Shared → Prop} {s : Shared} {K : Frag} {x C L f : Addr} {h₀ : Heap} {m : Str → Option Value} {ox : Obj} {od : Option Obj} {b tb : Value}
theorem ifBoundB_K {M : Model} {name : Str} {args : List Value} {Q : Option Value → Shared → Prop} {id : String} (X : K.In s.heap) (I : InstAt s.heap x ox C od) (hs : findIn K (.ref C) name = some (some (.builtin id))) (hb : bindSpecial (.builtin id) (.ref x) = pure (.builtin id, [.ref x]))
    (h : wpAny M A (call (.builtin id) (.ref x :: args)) (fun v => Q (some v)) E s) : wpAny M A (callSpecialIfBound? (.ref x) name args) Q E s := by
  simp only [callSpecialIfBound?, bindSpecialIfBound?]
  refine wpAny_holding (wpAny_bind (wpAny_bind (wpAny_bind (I.type.here ((looks_findIn X hs).here ?_)))))
  simp only [hb]
  refine wpAny_bind (wpAny_askSetting (wpAny_ite ?_))
  have fin : wpAny M A (call (.builtin id) ([.ref x] ++ args) >>= fun v => pure (some v)) Q E s := wpAny_bind (wpAny_mono h (fun v s' h' => wpAny_pure h') fun _ _ h' => h')
  split
  · exact wpAny_bind (wpAny_pure (wpAny_pure (by exact fin)))
  · exact wpAny_tryCatch (wpAny_bind (wpAny_pure (wpAny_pure (by exact fin))))
theorem objNe_K {Q : Fin → Shared → Prop} (X : K.In s.heap) (I : InstAt s.heap x ox C od) (hs : findIn K (.ref C) "__eq__" = some (some (.ref f))) (hf : isFn K (.ref f) = true) (hu : A.units < cLine)
    (hcall : wpAny (model prog w) A (call (.ref f) [.ref x, b]) (fun v s' => ∃ b, v = .bool b ∧ Q (.done (.ret (.bool (!b)))) s') E s) :
    wpAny (model prog w) A (Builtin.«object.__ne__» ⟨[.ref x, b], []⟩) Q E s := by
  unfold Builtin.«object.__ne__»
  repeat (first
    | with_reducible refine wpAny_cRoomFor hu ?_
    | (refine wpAny_bind (m := callSpecialIfBound? (.ref x) (Str.ofString "__eq__") [b])
        (ifBound_K X I hs hf (wpAny_mono hcall (fun r s' hr => by
          obtain ⟨b, rfl, hq⟩ := hr
          repeat (first | exact hq | exact wpAny_pure hq | exact wpAny_truthy_bool hq | (refine wpAny_bind (m := truthy (.bool _)) (wpAny_truthy_bool ?_)) | wp_step)) fun _ _ e => e)))
    | wp_step)
theorem ne_check {M : Model} {Q : Unit → Shared → Prop} (X : K.In s.heap) (I : InstAt s.heap x ox C od) (hm : mroIn K C (.type "object") = some true) (hq : Q () s) :
    wpAny M A (checkBuiltinCall "object.__ne__" ⟨[.ref x, b], []⟩) Q E s := by
  obtain ⟨hh, g, dr, t, os⟩ := s
  have L0 := I.type (M := M)
  have L1 := looks_mroIn (M := M) X hm
  simp only [checkBuiltinCall, F.cmpKind_ne, F.cmpSplit_ne]
  refine wpAny_bind ?_
  unfold isInstance
  repeat lk
  exact hq
theorem cmpNe_K {Q : Value → Shared → Prop} (hu : A.units + 1 < cLine) (X : K.In s.heap) (I : InstAt s.heap x ox C od) (hb : Looks (model prog w) s.heap (typeOf b) tb) (hn : notFirst K C tb = true)
    (hne : findIn K (.ref C) "__ne__" = some (some (.builtin "object.__ne__"))) (hm : mroIn K C (.type "object") = some true)
    (hs : findIn K (.ref C) "__eq__" = some (some (.ref f))) (hf : isFn K (.ref f) = true)
    (h : wpAny (model prog w) A.in1 (call (.ref f) [.ref x, b]) (fun v s' => ∃ b, v = .bool b ∧ Q (.bool (!b)) s') E s) : wpAny (model prog w) A (richCompare .NotEq (.ref x) b) Q E s := by
  have one : wpAny (model prog w) A (tryCompare (.ref x) "__ne__" b) (fun r s' => ∃ v, r = some (.bool v) ∧ Q (.bool v) s') E s := by
    unfold tryCompare
    refine wpAny_bind (ifBoundB_K X I hne (F.cmp_object.ne.bind _) (wpAny_call (codeAny_call_builtin F.cmp_object.ne.plain F.cmpEntry_ne (ne_check X I hm
      (objNe_K (A := A.in1) X I hs hf (by exact hu) (wpAny_mono h (fun v s' hv => ?_) fun _ _ e => e))))))
    obtain ⟨b, rfl, hq⟩ := hv
    first | exact ⟨b, rfl, wpAny_pure ⟨_, rfl, hq⟩⟩ | exact ⟨b, rfl, ⟨_, rfl, hq⟩⟩ | exact ⟨b, rfl, wpAny_pure (wpAny_pure ⟨_, rfl, hq⟩)⟩
  unfold richCompare
  simp only [oneThing_ref]
  refine wpAny_holding (wpAny_bind (wpAny_cRoomFor (Nat.lt_of_succ_lt hu) ?_))
  rw [cmpInfo_NotEq]
  dsimp only
  refine wpAny_bind (I.type.here (wpAny_bind (hb.here ?_)))
  split
  · rename_i q
    have e : subIn K tb (.ref C) = some false := by
      rcases Bool.or_eq_true_iff.mp hn with e | e
      · rw [beq_iff_eq.mp e] at q; simp at q
      · exact beq_iff_eq.mp e
    refine wpAny_bind ((looks_subIn X e).here ?_)
    simp only [Bool.false_eq_true, if_false]
    refine wpAny_bind (wpAny_mono one (fun r s' z => ?_) fun _ _ e => e)
    obtain ⟨v, rfl, hq⟩ := z
    exact wpAny_pure hq
  · refine wpAny_bind (wpAny_pure ?_)
    simp only [Bool.false_eq_true, if_false]
    refine wpAny_bind (wpAny_mono one (fun r s' z => ?_) fun _ _ e => e)
    obtain ⟨v, rfl, hq⟩ := z
    exact wpAny_pure hq
end
end PySem.W
namespace L2
open PySem PySem.Spec PyProof.Rows
/-- == by the own __eq__ of the class at C, whatever it answers; sp: its promise -/
def rEqO (K : PySem.W.Frag) (C : Addr) (sp : Sp) : R2 := fun x y H Q => ∃ a dx fs t, x = .ref a ∧ H a = some (.ins C dx fs) ∧ TyX K H y t ∧ PySem.W.notFirst K C t = true ∧ sp [x, y] H (fun v H' => ∃ b, v = .bl b ∧ Q (.bl b) H') fun _ _ _ => False
def rNeO (K : PySem.W.Frag) (C : Addr) (sp : Sp) : R2 := fun x y H Q => ∃ a dx fs t, x = .ref a ∧ H a = some (.ins C dx fs) ∧ TyX K H y t ∧ PySem.W.notFirst K C t = true ∧ sp [x, y] H (fun v H' => ∃ b, v = .bl b ∧ Q (.bl (!b)) H') fun _ _ _ => False
section
variable {X : Cx} {k : Nat} {f C : Addr} {fd : FuncData} {ps : List Str} {sp : Sp}
theorem run_eqO {A : Around} {pins : List (Addr × Obj)} {σ : St} {H : Hp} {s : Shared} {x y : V} {u v : Value} {R : Value → Shared → Prop} (F : FnOk X.prog X.w X.K X.mg X.base (L2.CX X.prog X.w) k f fd ps sp) (hr : Room k A) (hA : A.frames = X.A.frames) (hb : Binds X.K fd ps [])
    (I : Inv X pins σ H s) (rx : RelV x u) (ry : RelV y v) {Q : VK} (h : sp [x, y] H Q fun _ _ _ => False)
    (hR : ∀ z w H' s', Inv X pins σ H' s' → RelV z w → Q z H' → R w s') : wpAny (model X.prog X.w) A (call (.ref f) [u, v]) R X.xe s := by
  have e := I.env0
  have e0 : Env0 X.prog X.w X.K X.mg X.base A X.stack s H := ⟨by rw [hA]; exact e.frames, e.mod, e.bs, e.bsz, e.funs, e.frf, e.hok, e.bare⟩
  have hl := F.len _ _ _ _ h
  have r2 : Vals [x, y] [u, v] := .cons rx (.cons ry .nil)
  refine wpAny_call (codeAny_mono (F.run A X.stack s H ⟨[u, v], []⟩ [u, v] [x, y] Q _ hr e0 (by
    have := hb s [u, v] I.kIn (by simpa using hl)
    simpa using this) r2 h) fun r s' hq => ?_)
  cases r with
  | error e =>
    obtain ⟨_, _, _, _, _, _, _, _, _, _, _, _, z⟩ := hq
    exact z.elim
  | ok fl =>
    cases fl with
    | ret w =>
      obtain ⟨z, H', I', rz, q⟩ := I.after hq
      exact hR z w H' s' I' rz q
    | next => exact False.elim hq
    | brk => exact False.elim hq
    | cont => exact False.elim hq
theorem op_eqO (F : FnOk X.prog X.w X.K X.mg X.base (L2.CX X.prog X.w) k f fd ps sp) (hr : Room k X.A) (hb : Binds X.K fd ps []) (hs : PySem.W.findIn X.K (.ref C) "__eq__" = some (some (.ref f))) (hf : PySem.W.isFn X.K (.ref f) = true) :
    OpR X (compareOp .Eq) (rEqO X.K C sp) := by
  intro pins s σ H x y v u Q I rx ry hq
  obtain ⟨a, dx, fs, t, rfl, ha, ty, hn, h⟩ := hq
  cases rx
  obtain ⟨mA, J, _⟩ := ins_get I.hok ha
  obtain ⟨od, J, _⟩ := J.look
  obtain ⟨m, hF⟩ := I.fr
  obtain ⟨P, kx, p, _⟩ := kit_of I ry ty
  show wpAny (model X.prog X.w) X.A (richCompare .Eq (.ref a) u) (EP X pins σ Q) X.xe s
  refine PySem.W.cmp_K (op := .Eq) (tb := t) hr.units0 hF I.ok.mod.kin J (kx.ty _ _ I.kIn p) hn hs hf ?_
  refine run_eqO (x := .ref a) F hr rfl hb I rfl ry h fun z w H' s' I' rz q => ?_
  obtain ⟨b, rfl, q⟩ := q
  cases rz
  exact ⟨.bl b, H', I', rfl, q⟩
theorem op_neO (F : FnOk X.prog X.w X.K X.mg X.base (L2.CX X.prog X.w) k f fd ps sp) (hr : Room (k + 1) X.A) (hb : Binds X.K fd ps []) (hs : PySem.W.findIn X.K (.ref C) "__eq__" = some (some (.ref f))) (hf : PySem.W.isFn X.K (.ref f) = true)
    (hne : PySem.W.findIn X.K (.ref C) "__ne__" = some (some (.builtin "object.__ne__"))) (hm : PySem.W.mroIn X.K C (.type "object") = some true) : OpR X (compareOp .NotEq) (rNeO X.K C sp) := by
  intro pins s σ H x y v u Q I rx ry hq
  obtain ⟨a, dx, fs, t, rfl, ha, ty, hn, h⟩ := hq
  cases rx
  obtain ⟨mA, J, _⟩ := ins_get I.hok ha
  obtain ⟨od, J, _⟩ := J.look
  obtain ⟨P, kx, p, _⟩ := kit_of I ry ty
  show wpAny (model X.prog X.w) X.A (richCompare .NotEq (.ref a) u) (EP X pins σ Q) X.xe s
  refine PySem.W.cmpNe_K (tb := t) (by have := hr.un; omega) I.kIn J (kx.ty _ _ I.kIn p) hn hne hm hs hf ?_
  refine run_eqO (x := .ref a) F hr.in1 rfl hb I rfl ry h fun z w H' s' I' rz q => ?_
  obtain ⟨b, rfl, q⟩ := q
  cases rz
  exact ⟨b, rfl, .bl (!b), H', I', rfl, q⟩
end
end L2
namespace Dl
open PySem L2
/-! ### operations on what is given up -/
def OpOkR (K : PySem.W.Frag) (G : Gs) (r : R2) (op : D → D → Option RV) : Prop := ∀ F H x y d e rv Q, Le F H → Rep K G.g F x d → Rep K G.g F y e → op d e = some rv →
  (∀ v F' H', Gr F H F' H' → RvD K G F' H' H v rv → Q v H') → r x y H Q
def eOp2R (op : D → D → Option RV) (fa fb : M RV) : M RV := bindM fa fun a => bindM (settle a) fun d => bindM fb fun b => bindM (settle b) fun e => fun env => match op d e with
  | some rv => .ok rv env
  | none => .stuck
def knD (kn : List Nat) (c : Nat) : D → Bool
  | .ins c' _ => kn.contains c'
  | _ => true
def eqO (kn : List Nat) (c : Nat) (den : List SV → Cal) (d e : D) : Option Bool := match d with
  | .ins c' ds => if c' = c ∧ knD kn c e = true then (match den [.imm (.ins c ds), .imm e] with
    | .ok (.imm (.bl b)) _ => some b
    | _ => none) else none
  | d => eqvD d e
def opEqO (kn : List Nat) (c : Nat) (den : List SV → Cal) (d e : D) : Option RV := (eqO kn c den d e).map fun b => .imm (.bl b)
def opNeO (kn : List Nat) (c : Nat) (den : List SV → Cal) (d e : D) : Option RV := (eqO kn c den d e).map fun b => .imm (.bl !b)
section
variable {K : PySem.W.Frag} {G : Gs} {W : WX} {ta tb : TE} {fa fb : M RV}
theorem sim_op2R {r : R2} {op : D → D → Option RV} (ho : OpOkR K G r op) (ha : SimE K G W ta fa) (hb : SimE K G W tb fb) : SimE K G W (tOp r ta tb) (eOp2R op fa fb) := fun F H σ env Q ok w => by
  refine ha F H σ env _ ok ((want_raw w).imp fun a env1 F1 H1 o1 f1 w1 x rx => ?_)
  obtain ⟨d, env2, F2, o2, f2, r2, w2⟩ := want_bind_settle o1 f1 rx w1
  refine hb F2 H1 σ env2 _ o2 ((want_raw w2).imp fun b env3 F3 H3 o3 f3 w3 y ry => ?_)
  obtain ⟨e, env4, F4, o4, f4, r4, w4⟩ := want_bind_settle o3 f3 ry w3
  cases eo : op d e with
  | none => rw [eo] at w4; exact w4.elim
  | some rv =>
    rw [eo] at w4
    have t : ∀ a, H3 a = none → H a = none := fun a h => (f2.trans f4).new h
    exact ho F4 H3 x y d e rv Q o4.sub (r2.mono f4.sub) r4 eo fun v F' H' g rd => w4 F' H' (o4.gr g) (Fr.gr g) v (RvD.ok o4 g rd t)
theorem eqO_ok {kn : List Nat} {c : Nat} (kk : KnOk K G.g kn) (hc : c ∈ kn) (hsub : ∀ T ∈ bts7, PySem.W.notFirst K (G.g c).1 (.type T) = true) (hsubk : ∀ c' ∈ kn, PySem.W.notFirst K (G.g c).1 (.ref (G.g c').1) = true) {den : List SV → Cal} {F H : Hp} {x y : V} {ds : List D} {e : D} {b : Bool} {Q : Bool → Hp → Prop} (s : Le F H) (px : Rep K G.g F x (.ins c ds)) (py : Rep K G.g F y e)
    (h : eqO kn c den (.ins c ds) e = some b) (q : ∀ F' H', Gr F H F' H' → Q b H') : ∃ a dx fs t, x = .ref a ∧ H a = some (.ins (G.g c).1 dx fs) ∧ TyX K H y t ∧ PySem.W.notFirst K (G.g c).1 t = true ∧ spD K G 2 den [x, y] H (fun v H' => ∃ b, v = .bl b ∧ Q b H') fun _ _ _ => False := by
  have px' := px
  cases px with
  | @ins a dx _ vs _ ha hl rr =>
    change (if c = c ∧ knD kn c e = true then _ else _) = some b at h
    by_cases hk : c = c ∧ knD kn c e = true
    · rw [if_pos hk] at h
      have tyy : ∃ t, TyX K H y t ∧ PySem.W.notFirst K (G.g c).1 t = true := by
        cases e with
        | ins c' es =>
          have hm : c' ∈ kn := by simpa [knD] using hk.2
          cases py with
          | ins h1 h2 h3 =>
            have T := kk.ins c' hm
            exact ⟨_, .base (.ins (s _ _ h1) T.cl T.ha T.hn T.ht T.hm), hsubk c' hm⟩
        | _ => exact ⟨_, tyx_bt s (.rep py) rfl, hsub _ (by decide)⟩
      obtain ⟨t, ty, hn⟩ := tyy
      refine ⟨a, dx, _, t, rfl, s _ _ ha, ty, hn, ?_⟩
      have ok : Ok K G F H ([V.ref a, y].map some) [.imm (.ins c ds), .imm e] := by
        refine ⟨s, rfl, fun i o sv h1 h2 => ?_, fun i j s1 s2 a h1 m1 _ _ _ _ => ?_⟩
        · match i with
          | 0 => simp at h1 h2; subst h1 h2; exact ⟨_, rfl, px'⟩
          | 1 => simp at h1 h2; subst h1 h2; exact ⟨_, rfl, py⟩
          | (n + 2) => simp at h1
        · match i with
          | 0 => simp at h1; subst h1; cases m1
          | 1 => simp at h1; subst h1; cases m1
          | (n + 2) => simp at h1
      refine ⟨F, _, rfl, ok, ?_⟩
      have nown : ∀ a', ¬ Own ([V.ref a, y].map some) [.imm (.ins c ds), .imm e] a' := fun a' ⟨i, sv, h1, m, _⟩ => by
        match i with
        | 0 => simp at h1; subst h1; cases m
        | 1 => simp at h1; subst h1; cases m
        | (n + 2) => simp at h1
      cases ed : den [.imm (.ins c ds), .imm e] with
      | ok rv us =>
        rw [ed] at h
        intro v F' H' o' f' rr' na
        cases rv with
        | imm d =>
          cases d with
          | bl b' =>
            cases h
            cases rr'
            exact ⟨b, rfl, q F' H' ⟨f'.sub, fun a' o e' => f'.keep a' o e' (nown a'), o'.sub, fun a' h1 h2 => f'.low a' h1 (nown a') h2⟩⟩
          | _ => cases h
        | _ => cases h
      | err xx us => rw [ed] at h; cases h
      | stuck => rw [ed] at h; cases h
    · rw [if_neg hk] at h; cases h
theorem eqO_cases {kn : List Nat} {c : Nat} {den : List SV → Cal} {d e : D} {b : Bool} (h : eqO kn c den d e = some b) : (∃ ds, d = .ins c ds) ∨ eqvD d e = some b := by
  cases d with
  | ins c' ds =>
    unfold eqO at h
    simp only at h
    by_cases hk : c' = c ∧ knD kn c e = true
    · exact .inl ⟨ds, by rw [hk.1]⟩
    · rw [if_neg hk] at h; cases h
  | _ => exact .inr h
theorem ok_eqO {kn : List Nat} {c : Nat} {den : List SV → Cal} (kk : KnOk K G.g kn) (hc : c ∈ kn) (hsub : ∀ T ∈ bts7, PySem.W.notFirst K (G.g c).1 (.type T) = true) (hsubk : ∀ c' ∈ kn, PySem.W.notFirst K (G.g c).1 (.ref (G.g c').1) = true) :
    OpOkR K G (fun x y H Q => rEqO K (G.g c).1 (spD K G 2 den) x y H Q ∨ rEqD K x y H Q) (opEqO kn c den) := fun F H x y d e rv Q s px py ho q => by
  obtain ⟨b, hb, rfl⟩ := Option.map_eq_some_iff.mp ho
  rcases eqO_cases hb with ⟨ds, rfl⟩ | hb'
  · exact .inl (eqO_ok (Q := fun b H' => Q (.bl b) H') kk hc hsub hsubk s px py hb fun F' H' g => q _ F' H' g (.bl b))
  · exact .inr (ok_eqD F H x y d e _ Q s (.rep px) (.rep py) (show opEqD d e = some _ by unfold opEqD; rw [hb']; rfl) q)
theorem ok_neO {kn : List Nat} {c : Nat} {den : List SV → Cal} (kk : KnOk K G.g kn) (hc : c ∈ kn) (hsub : ∀ T ∈ bts7, PySem.W.notFirst K (G.g c).1 (.type T) = true) (hsubk : ∀ c' ∈ kn, PySem.W.notFirst K (G.g c).1 (.ref (G.g c').1) = true) :
    OpOkR K G (fun x y H Q => rNeO K (G.g c).1 (spD K G 2 den) x y H Q ∨ rNeD K x y H Q) (opNeO kn c den) := fun F H x y d e rv Q s px py ho q => by
  obtain ⟨b, hb, rfl⟩ := Option.map_eq_some_iff.mp ho
  rcases eqO_cases hb with ⟨ds, rfl⟩ | hb'
  · exact .inl (eqO_ok (Q := fun b H' => Q (.bl (!b)) H') kk hc hsub hsubk s px py hb fun F' H' g => q _ F' H' g (.bl (!b)))
  · exact .inr (ok_neD F H x y d e _ Q s (.rep px) (.rep py) (show opNeD d e = some _ by unfold opNeD; rw [hb']; rfl) q)
end
end Dl
namespace Dl
open PySem PySem.Spec PyProof.Rows L2

/-! ### the reading that a worth gives -/
section
variable (K : PySem.W.Frag) (G : Gs) (W : WX)
def rdE (f : M RV) : TE := fun σ H Q => ∃ F env, Ok K G F H σ env ∧ Want K G W σ env F H (f env) (fun rv env' F' H' => ∀ v, RvOk K G F' H' H σ env' v rv → Q v H')
def rdT (f : M Bool) : TT := fun σ H Q => ∃ F env, Ok K G F H σ env ∧ Want K G W σ env F H (f env) (fun b _ _ H' => Q b H')
def rdA (f : M (List AV)) : TA := fun σ H Q => ∃ F env, Ok K G F H σ env ∧ Want K G W σ env F H (f env) (fun as _ F' H' => ∀ vs, AvsOk K G F' σ vs as → Q vs H')
def rdP (f : M (List RV)) : TA := fun σ H Q => ∃ F env, Ok K G F H σ env ∧ Want K G W σ env F H (f env) (fun as env' F' H' => ∀ vs, RvsOk K G F' H' H σ env' vs as → Q vs H')
def rdD (f : M (List D)) : TA := fun σ H Q => ∃ F env, Ok K G F H σ env ∧ Want K G W σ env F H (f env) (fun ds _ F' H' => ∀ vs, Reps K G F' vs ds → Q vs H')
def rdI (f : M (List D)) : TI := fun σ H R => ∃ F env, Ok K G F H σ env ∧ Want K G W σ env F H (f env) (fun ds _ F' H' => ∀ J, ItD K G F' J ds → R J H')
def rdS (f : M Out) : TS := fun D σ H => ∃ F env, Ok K G F H σ env ∧ WantS K G W σ env F H (f env) D
def rdG (f : D → M Unit) : TG := fun v σ H Q => ∃ F env d, Ok K G F H σ env ∧ Rep K G F v d ∧ WantG K G σ env F H (f d env) Q
def rdGs (f : List D → M Unit) : TGs := fun vs σ H Q => ∃ F env ds, Ok K G F H σ env ∧ Reps K G F vs ds ∧ WantG K G σ env F H (f ds env) Q
variable {K : PySem.W.Frag} {G : Gs} {W : WX}
theorem sE {f : M RV} : SimE K G W (rdE K G W f) f := fun F H σ env Q ok w => ⟨F, env, ok, w⟩
theorem sT {f : M Bool} : SimT K G W (rdT K G W f) f := fun F H σ env Q ok w => ⟨F, env, ok, w⟩
theorem sA {f : M (List AV)} : SimA K G W (rdA K G W f) f := fun F H σ env Q ok w => ⟨F, env, ok, w⟩
theorem sP {f : M (List RV)} : SimP K G W (rdP K G W f) f := fun F H σ env Q ok w => ⟨F, env, ok, w⟩
theorem sD {f : M (List D)} : SimD K G W (rdD K G W f) f := fun F H σ env Q ok w => ⟨F, env, ok, w⟩
theorem sI {f : M (List D)} : SimI K G W (rdI K G W f) f := fun F H σ env Q ok w => ⟨F, env, ok, w⟩
theorem sS {f : M Out} : SimS K G W (rdS K G W f) f := fun F H σ env Q ok w => ⟨F, env, ok, w⟩
theorem sG {f : D → M Unit} : SimG K G (rdG K G f) f := fun F H σ env v d Q ok r w => ⟨F, env, d, ok, r, w⟩
theorem sGs {f : List D → M Unit} : SimGs K G (rdGs K G f) f := fun F H σ env v d Q ok r w => ⟨F, env, d, ok, r, w⟩
end
/-! ### code and its worth -/
def JE (X : Cx) (G : Gs) (W : WX) (e : Expr) (f : M RV) : Prop := PE X e (rdE X.K G W f)
def JT (X : Cx) (G : Gs) (W : WX) (e : Expr) (f : M Bool) : Prop := PT X e (rdT X.K G W f)
def JW (X : Cx) (G : Gs) (W : WX) (e : Expr) (f : M Bool) : Prop := PW X e (rdT X.K G W f)
def JA (X : Cx) (G : Gs) (W : WX) (es : List Expr) (f : M (List AV)) : Prop := PA X es (rdA X.K G W f)
def JP (X : Cx) (G : Gs) (W : WX) (es : List Expr) (f : M (List RV)) : Prop := PA X es (rdP X.K G W f)
def JD (X : Cx) (G : Gs) (W : WX) (es : List Expr) (f : M (List D)) : Prop := PA X es (rdD X.K G W f)
def JI (X : Cx) (G : Gs) (W : WX) (tg e : Expr) (f : M (List D)) : Prop := PI X tg e (rdI X.K G W f)
def JS (X : Cx) (G : Gs) (W : WX) (st : Stmt) (f : M Out) : Prop := PS X st (rdS X.K G W f)
def JSs (X : Cx) (G : Gs) (W : WX) (st : List Stmt) (f : M Out) : Prop := PSs X st (rdS X.K G W f)
def JG (X : Cx) (G : Gs) (e : Expr) (f : D → M Unit) : Prop := PG X e (rdG X.K G f) ∧ NoErr f
def JGs (X : Cx) (G : Gs) (es : List Expr) (f : List D → M Unit) : Prop := PGs X es (rdGs X.K G f) ∧ NoErrs f
section
variable {X : Cx} {G : Gs} {W : WX}
theorem toE {e : Expr} {t : TE} {f : M RV} (h : PE X e t) (s : SimE X.K G W t f) : JE X G W e f := ⟨fun pins s0 σ H Q I ⟨F, env, ok, w⟩ => h.run pins s0 σ H Q I (s F H σ env Q ok w)⟩
theorem toT {e : Expr} {t : TT} {f : M Bool} (h : PT X e t) (s : SimT X.K G W t f) : JT X G W e f := ⟨fun pins s0 σ H Q I ⟨F, env, ok, w⟩ => h.run pins s0 σ H Q I (s F H σ env Q ok w)⟩
theorem toW {e : Expr} {t : TT} {f : M Bool} (h : PW X e t) (s : SimT X.K G W t f) : JW X G W e f := ⟨fun wh pins s0 σ H Q I ⟨F, env, ok, w⟩ => h.run wh pins s0 σ H Q I (s F H σ env Q ok w)⟩
theorem toA {e : List Expr} {t : TA} {f : M (List AV)} (h : PA X e t) (s : SimA X.K G W t f) : JA X G W e f := ⟨fun pos pins s0 σ H Q I ⟨F, env, ok, w⟩ => h.run pos pins s0 σ H Q I (s F H σ env Q ok w)⟩
theorem toP {e : List Expr} {t : TA} {f : M (List RV)} (h : PA X e t) (s : SimP X.K G W t f) : JP X G W e f := ⟨fun pos pins s0 σ H Q I ⟨F, env, ok, w⟩ => h.run pos pins s0 σ H Q I (s F H σ env Q ok w)⟩
theorem toD {e : List Expr} {t : TA} {f : M (List D)} (h : PA X e t) (s : SimD X.K G W t f) : JD X G W e f := ⟨fun pos pins s0 σ H Q I ⟨F, env, ok, w⟩ => h.run pos pins s0 σ H Q I (s F H σ env Q ok w)⟩
theorem toI {tg e : Expr} {t : TI} {f : M (List D)} (h : PI X tg e t) (s : SimI X.K G W t f) : JI X G W tg e f := ⟨fun pins s0 σ H Q I ⟨F, env, ok, w⟩ => h.run pins s0 σ H Q I (s F H σ env Q ok w)⟩
theorem toS {e : Stmt} {t : TS} {f : M Out} (h : PS X e t) (s : SimS X.K G W t f) : JS X G W e f := ⟨fun pins s0 σ H Q I ⟨F, env, ok, w⟩ => h.run pins s0 σ H Q I (s F H σ env Q ok w)⟩
theorem toSs {e : List Stmt} {t : TS} {f : M Out} (h : PSs X e t) (s : SimS X.K G W t f) : JSs X G W e f := ⟨fun pins s0 σ H Q I ⟨F, env, ok, w⟩ => h.run pins s0 σ H Q I (s F H σ env Q ok w)⟩
theorem toG {e : Expr} {t : TG} {f : D → M Unit} (h : PG X e t) (s : SimG X.K G t f) (n : NoErr f) : JG X G e f := ⟨⟨fun pins s0 σ H v u Q I r ⟨F, env, d, ok, rr, w⟩ => h.run pins s0 σ H v u Q I r (s F H σ env v d Q ok rr w)⟩, n⟩
theorem toGs {e : List Expr} {t : TGs} {f : List D → M Unit} (h : PGs X e t) (s : SimGs X.K G t f) (n : NoErrs f) : JGs X G e f := ⟨⟨fun pins s0 σ H v u Q I r ⟨F, env, d, ok, rr, w⟩ => h.run pins s0 σ H v u Q I r (s F H σ env v d Q ok rr w)⟩, n⟩
end
/-! ### rules: expressions -/
section
variable {X : Cx} {G : Gs} {W : WX} {a b c e : Expr} {rest es : List Expr} {fa fb fc fe : M RV} {ft fu : M Bool} {pos p p2 : Pos} {x : Str} {j : Nat}
theorem je_var (i : Nat) (hN : X.N[i]? = some x := by rfl) (hv : Vis X.env.scope x := by first | exact Or.inl rfl | exact Or.inr (Or.inl rfl) | exact Or.inr (Or.inr rfl)) (hd : (x == ("__debug__" : Str)) = false := by decide)
    (hcd : (x == ("__classdict__" : Str)) = false := by decide) : JE X G W (.Name x pos) (eVar i) := toE (pe_var hN hv hd hcd) (sim_var i)
theorem je_int (i : Int) : JE X G W (.Constant (.int i) j pos) (eC (.int i)) := toE pe_int (sim_int i)
theorem je_bl (b : Bool) : JE X G W (.Constant (.bool b) j pos) (eC (.bl b)) := toE pe_bl (sim_bl b)
theorem je_non : JE X G W (.Constant .none j pos) (eC .non) := toE pe_non sim_non
theorem je_str (x : Str) : JE X G W (.Constant (.str x) j pos) (eC (.str x)) := toE pe_str (sim_str x)
/-- a number of the module -/
theorem je_gint (i : Int) (hg : Gl X x) (hm : ∃ t, X.mg x = some (.int i t)) (hd : (x == ("__debug__" : Str)) = false := by decide) : JE X G W (.Name x pos) (eC (.int i)) := by
  obtain ⟨t, hm⟩ := hm
  exact toE (pe_glob (v := .int i) hg hm ⟨t, rfl⟩ hd) (sim_int i)
theorem je_add (ha : JE X G W a fa) (hb : JE X G W b fb) : JE X G W (.BinOp a .Add b pos) (eOp2 opAdd fa fb) := toE (pe_op op_addAll ha hb) (sim_op2 ok_add sE sE)
theorem je_sub (ha : JE X G W a fa) (hb : JE X G W b fb) : JE X G W (.BinOp a .Sub b pos) (eOp2 opSub fa fb) := toE (pe_op op_sub ha hb) (sim_op2 ok_sub sE sE)
theorem je_mul (ha : JE X G W a fa) (hb : JE X G W b fb) : JE X G W (.BinOp a .Mult b pos) (eOp2 opMul fa fb) := toE (pe_op op_mulAll ha hb) (sim_op2 ok_mul sE sE)
theorem je_fdiv (ha : JE X G W a fa) (hb : JE X G W b fb) : JE X G W (.BinOp a .FloorDiv b pos) (eOp2 opFDiv fa fb) := toE (pe_op op_fdivG ha hb) (sim_op2 ok_fdiv sE sE)
theorem je_mod (ha : JE X G W a fa) (hb : JE X G W b fb) : JE X G W (.BinOp a .Mod b pos) (eOp2 opMod fa fb) := toE (pe_op op_modN ha hb) (sim_op2 ok_mod sE sE)
theorem je_pow (ha : JE X G W a fa) (hb : JE X G W b fb) : JE X G W (.BinOp a .Pow b pos) (eOp2 opPow fa fb) := toE (pe_op op_pow ha hb) (sim_op2 ok_pow sE sE)
theorem je_neg (ha : JE X G W a fa) : JE X G W (.UnaryOp .USub a pos) (eOp1 opNeg fa) := toE (pe_un un_neg ha) (sim_op1 ok_neg sE)
/-! comparisons -/
theorem je_lt (ha : JE X G W a fa) (hb : JE X G W b fb) : JE X G W (.Compare a [.Lt] [b] pos) (eOp2 opLt fa fb) := toE (pe_cmpR op_lt ha hb (nomark _)) (sim_op2 ok_lt sE sE)
theorem je_le (ha : JE X G W a fa) (hb : JE X G W b fb) : JE X G W (.Compare a [.LtE] [b] pos) (eOp2 opLe fa fb) := toE (pe_cmpR op_le ha hb (nomark _)) (sim_op2 ok_le sE sE)
theorem je_gt (ha : JE X G W a fa) (hb : JE X G W b fb) : JE X G W (.Compare a [.Gt] [b] pos) (eOp2 opGt fa fb) := toE (pe_cmpR op_gt ha hb (nomark _)) (sim_op2 ok_gt sE sE)
theorem je_ge (ha : JE X G W a fa) (hb : JE X G W b fb) : JE X G W (.Compare a [.GtE] [b] pos) (eOp2 opGe fa fb) := toE (pe_cmpR op_ge ha hb (nomark _)) (sim_op2 ok_ge sE sE)
theorem je_eq (hu : X.A.units + 64 < cLine) (ha : JE X G W a fa) (hb : JE X G W b fb) : JE X G W (.Compare a [.Eq] [b] pos) (eOp2 opEqD fa fb) := toE (pe_cmpR (op_eqD hu) ha hb (nomark _)) (sim_op2 ok_eqD sE sE)
theorem je_ne (hu : X.A.units + 64 < cLine) (ha : JE X G W a fa) (hb : JE X G W b fb) : JE X G W (.Compare a [.NotEq] [b] pos) (eOp2 opNeD fa fb) := toE (pe_cmpR (op_neD hu) ha hb (nomark _)) (sim_op2 ok_neD sE sE)
theorem jt_lt (ha : JE X G W a fa) (hb : JE X G W b fb) : JT X G W (.Compare a [.Lt] [b] pos) (eB (eOp2 opLt fa fb)) := toT (pt_cmpR op_lt ha hb (nomark _)) (sim_test (sim_op2 ok_lt sE sE))
theorem jt_le (ha : JE X G W a fa) (hb : JE X G W b fb) : JT X G W (.Compare a [.LtE] [b] pos) (eB (eOp2 opLe fa fb)) := toT (pt_cmpR op_le ha hb (nomark _)) (sim_test (sim_op2 ok_le sE sE))
theorem jt_gt (ha : JE X G W a fa) (hb : JE X G W b fb) : JT X G W (.Compare a [.Gt] [b] pos) (eB (eOp2 opGt fa fb)) := toT (pt_cmpR op_gt ha hb (nomark _)) (sim_test (sim_op2 ok_gt sE sE))
theorem jt_ge (ha : JE X G W a fa) (hb : JE X G W b fb) : JT X G W (.Compare a [.GtE] [b] pos) (eB (eOp2 opGe fa fb)) := toT (pt_cmpR op_ge ha hb (nomark _)) (sim_test (sim_op2 ok_ge sE sE))
theorem jt_eq (hu : X.A.units + 64 < cLine) (ha : JE X G W a fa) (hb : JE X G W b fb) : JT X G W (.Compare a [.Eq] [b] pos) (eB (eOp2 opEqD fa fb)) := toT (pt_cmpR (op_eqD hu) ha hb (nomark _)) (sim_test (sim_op2 ok_eqD sE sE))
theorem jt_ne (hu : X.A.units + 64 < cLine) (ha : JE X G W a fa) (hb : JE X G W b fb) : JT X G W (.Compare a [.NotEq] [b] pos) (eB (eOp2 opNeD fa fb)) := toT (pt_cmpR (op_neD hu) ha hb (nomark _)) (sim_test (sim_op2 ok_neD sE sE))
theorem pe_non' : PE X (.Constant .none j pos) (tC .non) := pe_non
/-- x is None, x is not None -/
theorem ok_isN (K : PySem.W.Frag) : OpOk K G (fun x y H Q => y = .non ∧ Q (.bl (decide (x = .non))) H) (fun d e => match e with
    | .non => opIsN d
    | _ => none) := fun F H x y d e rv Q s px py ho q => by
  cases e with
  | non =>
    cases ho
    refine ⟨py.non_ rfl, ?_⟩
    rw [pk_isNon px]
    exact here q s (.bl _)
  | _ => cases ho
theorem ok_notN (K : PySem.W.Frag) : OpOk K G (fun x y H Q => y = .non ∧ Q (.bl (!decide (x = .non))) H) (fun d e => match e with
    | .non => opNotN d
    | _ => none) := fun F H x y d e rv Q s px py ho q => by
  cases e with
  | non =>
    cases ho
    refine ⟨py.non_ rfl, ?_⟩
    rw [pk_isNon px]
    exact here q s (.bl _)
  | _ => cases ho
def opIs2 (d e : D) : Option RV := match e with
  | .non => opIsN d
  | _ => none
def opIsNot2 (d e : D) : Option RV := match e with
  | .non => opNotN d
  | _ => none
theorem je_isN (ha : JE X G W a fa) (hb : JE X G W b fb) : JE X G W (.Compare a [.Is] [b] pos) (eOp2 opIs2 fa fb) := toE (pe_cmpR op_isN ha hb (nomark _)) (sim_op2 (ok_isN _) sE sE)
theorem je_notN (ha : JE X G W a fa) (hb : JE X G W b fb) : JE X G W (.Compare a [.IsNot] [b] pos) (eOp2 opIsNot2 fa fb) := toE (pe_cmpR op_notN ha hb (nomark _)) (sim_op2 (ok_notN _) sE sE)
theorem jt_isN (ha : JE X G W a fa) (hb : JE X G W b fb) : JT X G W (.Compare a [.Is] [b] pos) (eB (eOp2 opIs2 fa fb)) := toT (pt_cmpR op_isN ha hb (nomark _)) (sim_test (sim_op2 (ok_isN _) sE sE))
theorem jt_notN (ha : JE X G W a fa) (hb : JE X G W b fb) : JT X G W (.Compare a [.IsNot] [b] pos) (eB (eOp2 opIsNot2 fa fb)) := toT (pt_cmpR op_notN ha hb (nomark _)) (sim_test (sim_op2 (ok_notN _) sE sE))
/-! in, flat -/
def D.flat : D → Option V
  | .non => some .non
  | .bl b => some (.bl b)
  | .int i => some (.int i)
  | .str x => some (.str x)
  | _ => none
def D.flats : List D → Option (List V)
  | [] => some []
  | d :: ds => match d.flat, D.flats ds with
    | some v, some vs => some (v :: vs)
    | _, _ => none
def inD (d e : D) : Option Bool := match d.flat, e.items.bind D.flats with
  | some v, some vs => some (inV v vs)
  | _, _ => none
def opIn (d e : D) : Option RV := (inD d e).map fun b => .imm (.bl b)
def opNotIn (d e : D) : Option RV := (inD d e).map fun b => .imm (.bl !b)
theorem flat_rep {K : PySem.W.Frag} {F H : Hp} {v w : V} {d : D} (h : Pk K G.g F H v d) (e : d.flat = some w) : v = w ∧ flatV w = true := by
  cases d <;> cases e <;> (cases h with | rep r => cases r; exact ⟨rfl, rfl⟩)
theorem flats_rep {K : PySem.W.Frag} {F : Hp} : ∀ {vs ws : List V} {ds : List D}, Reps K G.g F vs ds → D.flats ds = some ws → vs = ws ∧ ws.all flatV = true
  | _, ws, _, .nil, e => by cases e; exact ⟨rfl, rfl⟩
  | _, ws, _, .cons (d := d) (ds := ds) h r, e => by
    unfold D.flats at e
    cases e1 : d.flat with
    | none => rw [e1] at e; cases e
    | some v =>
      cases e2 : D.flats ds with
      | none => rw [e1, e2] at e; cases e
      | some us =>
        rw [e1, e2] at e
        cases e
        obtain ⟨h1, h2⟩ := flat_rep (H := F) (.rep h) e1
        obtain ⟨h3, h4⟩ := flats_rep r e2
        exact ⟨by rw [h1, h3], by rw [List.all_cons, h2, h4]; rfl⟩
theorem inD_ok {K : PySem.W.Frag} {F H : Hp} {x y : V} {d e : D} {b : Bool} (s : Le F H) (px : Pk K G.g F H x d) (py : Pk K G.g F H y e) (h : inD d e = some b) : ∃ p xs, y = .ref p ∧ (SqL K H p xs ∨ SqT K H p xs) ∧ flatV x = true ∧ xs.all flatV = true ∧ b = inV x xs := by
  unfold inD at h
  cases e1 : d.flat with
  | none => rw [e1] at h; cases h
  | some v =>
    cases e2 : e.items with
    | none => rw [e1, e2] at h; cases h
    | some ds =>
      rw [e1, e2] at h
      have h' : (match some v, D.flats ds with
        | some v, some vs => some (inV v vs)
        | _, _ => none) = some b := h
      cases e3 : D.flats ds with
      | none => rw [e3] at h'; cases h'
      | some us =>
        rw [e3] at h'
        cases h'
        obtain ⟨h1, h2⟩ := flat_rep px e1
        obtain ⟨p, vs, rfl, hq, r⟩ := pk_items s py e2
        obtain ⟨h3, h4⟩ := flats_rep r e3
        subst h1 h3
        exact ⟨p, vs, rfl, hq, h2, h4, rfl⟩
theorem ok_in {K : PySem.W.Frag} : OpOk K G (rIn K false) opIn := fun F H x y d e rv Q s px py ho q => by
  obtain ⟨b, hb, rfl⟩ := Option.map_eq_some_iff.mp ho
  obtain ⟨p, xs, e1, h1, h2, h3, rfl⟩ := inD_ok s px py hb
  exact ⟨p, xs, e1, h1, h2, h3, here q s (.bl _)⟩
theorem ok_notIn {K : PySem.W.Frag} : OpOk K G (rIn K true) opNotIn := fun F H x y d e rv Q s px py ho q => by
  obtain ⟨b, hb, rfl⟩ := Option.map_eq_some_iff.mp ho
  obtain ⟨p, xs, e1, h1, h2, h3, rfl⟩ := inD_ok s px py hb
  exact ⟨p, xs, e1, h1, h2, h3, here q s (.bl _)⟩
theorem je_in (ha : JE X G W a fa) (hb : JE X G W b fb) (hm : behindInMarks .In b = false := by with_unfolding_all rfl) : JE X G W (.Compare a [.In] [b] pos) (eOp2 opIn fa fb) := toE (pe_cmpR op_in_seq ha hb hm) (sim_op2 ok_in sE sE)
theorem jt_in (ha : JE X G W a fa) (hb : JE X G W b fb) (hm : behindInMarks .In b = false := by with_unfolding_all rfl) : JT X G W (.Compare a [.In] [b] pos) (eB (eOp2 opIn fa fb)) := toT (pt_cmpR op_in_seq ha hb hm) (sim_test (sim_op2 ok_in sE sE))
theorem je_notIn (ha : JE X G W a fa) (hb : JE X G W b fb) (hm : behindInMarks .NotIn b = false := by with_unfolding_all rfl) : JE X G W (.Compare a [.NotIn] [b] pos) (eOp2 opNotIn fa fb) := toE (pe_cmpR op_notIn_seq ha hb hm) (sim_op2 ok_notIn sE sE)
theorem jt_notIn (ha : JE X G W a fa) (hb : JE X G W b fb) (hm : behindInMarks .NotIn b = false := by with_unfolding_all rfl) : JT X G W (.Compare a [.NotIn] [b] pos) (eB (eOp2 opNotIn fa fb)) := toT (pt_cmpR op_notIn_seq ha hb hm) (sim_test (sim_op2 ok_notIn sE sE))
/-! and, or, not, if -/
def eAndV (fa fb : M RV) : M RV := bindM (eB fa) fun b => if b = true then fb else eC (.bl false)
def eOrV (fa fb : M RV) : M RV := bindM (eB fa) fun b => if b = true then eC (.bl true) else fb
theorem je_one {op} (h : JE X G W a fa) : JE X G W (.BoolOp op [a] pos) fa := toE (pe_one h) sE
theorem je_and (ha : JE X G W a fa) (hb : JE X G W (.BoolOp .And (b :: rest) pos) fb) : JE X G W (.BoolOp .And (a :: b :: rest) pos) (eAndV fa fb) := toE (pe_and ha hb) (sim_andV sE sE)
theorem je_or (ha : JE X G W a fa) (hb : JE X G W (.BoolOp .Or (b :: rest) pos) fb) : JE X G W (.BoolOp .Or (a :: b :: rest) pos) (eOrV fa fb) := toE (pe_or ha hb) (sim_orV sE sE)
theorem je_not (ha : JE X G W a fa) : JE X G W (.UnaryOp .Not a pos) (eV (eNot (eB fa))) := toE (pe_not ha) (sim_notV sE)
theorem je_if (hc : JT X G W c ft) (ha : JE X G W a fa) (hb : JE X G W b fb) : JE X G W (.IfExp c a b pos) (eIf ft fa fb) := toE (pe_ifExp hc ha hb) (sim_ifE sT sE sE)
theorem jw_and1 (ha : JT X G W a ft) : JW X G W (.BoolOp .And [a] pos) ft := toW (pw_and1 ha) sT
theorem jw_or1 (ha : JT X G W a ft) : JW X G W (.BoolOp .Or [a] pos) ft := toW (pw_or1 ha) sT
theorem jw_and (ha : JT X G W a ft) (hb : JW X G W (.BoolOp .And (b :: rest) pos) fu) : JW X G W (.BoolOp .And (a :: b :: rest) pos) (eAnd ft fu) := toW (pw_and ha hb) (sim_and sT sT)
theorem jw_or (ha : JT X G W a ft) (hb : JW X G W (.BoolOp .Or (b :: rest) pos) fu) : JW X G W (.BoolOp .Or (a :: b :: rest) pos) (eOr ft fu) := toW (pw_or ha hb) (sim_or sT sT)
theorem jt_w (h : JW X G W a ft) : JT X G W a ft := ⟨fun pins s σ H Q I hw => h.run _ pins s σ H Q I hw⟩
theorem jt_not (ha : JT X G W a ft) : JT X G W (.UnaryOp .Not a pos) (eNot ft) := toT (pt_not ha) (sim_not sT)
theorem jt_val (h : JE X G W e fe) (he : ∀ whole, isTrue e X.env whole = (do let v ← whole; standAt e.pos; holding [v] (truthy v)) := by intro _; rfl) : JT X G W e (eB fe) := toT (pt_val h he) (sim_tB sE)
/-! displays, arguments -/
theorem jd_nil : JD X G W [] dNil := toD pa_nil sim_dnil
theorem jd_cons {fr : M (List D)} (he : JE X G W e fe) (hr : JD X G W es fr) (hs : starEach (e :: es) X.env = (false, eval e X.env) :: starEach es X.env := by rfl) : JD X G W (e :: es) (dCons fe fr) := toD (pa_cons he hr hs) (sim_dcons sE sD)
theorem je_tup {x1 : Nat} {fr : M (List D)} (h : JD X G W es fr) : JE X G W (.Tuple es x1 pos) (eTup fr) := toE (pe_tup h) (sim_tup sD)
theorem je_lst {fr : M (List D)} (h : JD X G W es fr) : JE X G W (.List es pos) (eLst fr) := toE (pe_lst h) (sim_lst sD)
theorem jp_nil : JP X G W [] pNil := toP pa_nil sim_pnil
theorem jp_cons {fr : M (List RV)} (he : JE X G W e fe) (hr : JP X G W es fr) (hs : starEach (e :: es) X.env = (false, eval e X.env) :: starEach es X.env := by rfl) : JP X G W (e :: es) (pCons fe fr) := toP (pa_cons he hr hs) (sim_pcons sE sP)
theorem ja_nil : JA X G W [] aNil := toA pa_nil sim_anil
theorem ja_set {fr : M (List AV)} (he : JE X G W e fe) (hr : JA X G W es fr) (hs : starEach (e :: es) X.env = (false, eval e X.env) :: starEach es X.env := by rfl) : JA X G W (e :: es) (aSet fe fr) := toA (pa_cons he hr hs) (sim_aset sE sA)
theorem ja_lend {fr : M (List AV)} (i : Nat) (hr : JA X G W es fr) (hN : X.N[i]? = some x := by rfl) (hv : Vis X.env.scope x := by first | exact Or.inl rfl | exact Or.inr (Or.inl rfl) | exact Or.inr (Or.inr rfl)) (hd : (x == ("__debug__" : Str)) = false := by decide)
    (hcd : (x == ("__classdict__" : Str)) = false := by decide) (hs : starEach (.Name x pos :: es) X.env = (false, eval (.Name x pos) X.env) :: starEach es X.env := by rfl) : JA X G W (.Name x pos :: es) (aLend i fr) := toA (pa_cons (pe_var hN hv hd hcd) hr hs) (sim_alend i sA)
theorem je_ix (ha : JE X G W a fa) (hb : JE X G W b fb) (hs : PlainIx b := by exact fun _ _ => rfl) : JE X G W (.Subscript a b pos) (eOp2 opIx fa fb) := toE (pe_ix ix_seq ha hb hs) (sim_op2 ok_ix sE sE)
end
/-! ### built-in functions -/
section
variable {X : Cx} {G : Gs} {W : WX} {e : Expr} {es : List Expr} {pos p : Pos} {x : Str} {id T : String} {r : List V → Hp → VK → Prop} {op : List D → Option RV} {f : M (List RV)}
theorem je_callB (hc : CallR X (.builtin id) r) (ho : CbOk X.K G r op) (ha : JP X G W (e :: es) f) (hm : X.mg x = none) (hg : Gl X x) (hv : bootBuiltins x = some (.builtin id) := by decide +kernel) (hn : x ≠ "__name__" := by decide) (hdb : (x == ("__debug__" : Str)) = false := by decide)
    (he : starEach (e :: es) X.env = (false, eval e X.env) :: starEach es X.env := by rfl) (hpl : (backTo pos (starEach es X.env)).any (·.1) = false := by rfl) : JE X G W (.Call (.Name x p) (e :: es) [] pos) (eOpn op f) :=
  toE (pe_callB hc hg hm hv ha hn hdb he hpl) (sim_opn ho sP)
theorem je_callTy (hc : CallR X (.type T) r) (ho : CbOk X.K G r op) (ha : JP X G W (e :: es) f) (hm : X.mg x = none) (hg : Gl X x) (hv : bootBuiltins x = some (.type T) := by decide +kernel) (hn : x ≠ "__name__" := by decide) (hdb : (x == ("__debug__" : Str)) = false := by decide)
    (he : starEach (e :: es) X.env = (false, eval e X.env) :: starEach es X.env := by rfl) (hpl : (backTo pos (starEach es X.env)).any (·.1) = false := by rfl) : JE X G W (.Call (.Name x p) (e :: es) [] pos) (eOpn op f) :=
  toE (pe_callTy hc hg hm hv ha hn hdb he hpl) (sim_opn ho sP)
end
end Dl
namespace Dl
open PySem PySem.Spec PyProof.Rows L2

/-! ### defs -/
structure Fk (P : Program) (w : World) (K : PySem.W.Frag) (mg : Str → Option Value) (base : Heap) (f : Addr) (ps : List Str) (k : Nat) (sp : Sp) : Prop where
  ex : ∃ fd, FnOk P w K mg base (L2.CX P w) k f fd ps sp ∧ Binds K fd ps [] ∧ ∃ oc od osl, K.lookup f = some ⟨oc, od, .func fd, osl⟩
  kp : PySem.W.keepIn K (.ref f) = true
theorem Fk.mono {P : Program} {w : World} {K : PySem.W.Frag} {mg : Str → Option Value} {base : Heap} {f : Addr} {ps : List Str} {j k : Nat} {sp : Sp} (F : Fk P w K mg base f ps j sp) (h : j ≤ k) : Fk P w K mg base f ps k sp := by
  obtain ⟨fd, h1, h2⟩ := F.ex
  exact ⟨⟨fd, h1.mono h, h2⟩, F.kp⟩
theorem funD_lookup {K : PySem.W.Frag} {x qual : Str} {params : Arguments} {body : List Stmt} {scope : Scope} {dvs : List V} {kws : List (Str × V)} {f : Addr} {fd : FuncData} (F : FunD K x qual params body scope dvs kws f fd) : ∃ oc od osl, K.lookup f = some ⟨oc, od, .func fd, osl⟩ := by
  obtain ⟨oc, od, dV, kV, doc, pm, an, cdv, ct, osl, rfl, lk, _⟩ := F.ex
  exact ⟨oc, od, osl, lk⟩
theorem Fk.at_ {P : Program} {w : World} {K : PySem.W.Frag} {mg : Str → Option Value} {base : Heap} {f : Addr} {ps : List Str} {k : Nat} {sp : Sp} (Z : Fk P w K mg base f ps k sp) {fd : FuncData} (h : ∃ oc od osl, K.lookup f = some ⟨oc, od, .func fd, osl⟩) : FnOk P w K mg base (L2.CX P w) k f fd ps sp := by
  obtain ⟨fd', F, _, oc', od', osl', l'⟩ := Z.ex
  obtain ⟨oc, od, osl, l⟩ := h
  rw [l'] at l
  cases l
  exact F
theorem fk_def {P : Program} {w : World} {K : PySem.W.Frag} {mg : Str → Option Value} {base : Heap} {x qual : Str} {params : Arguments} {body : List Stmt} {scope : Scope} {f : Addr} {N ps : List Str} {k n m : Nat} {G : Gs} {fb : M Out}
    (F : ∃ fd, FunD K x qual params body scope [] [] f fd) (S : FnScope N ps scope)
    (hb : ∀ (kV doc pm : Value) (an : Option Addr) (cdv ct : Value) (us : List Value), us.length = ps.length → bindArgs (PySem.W.fnOf x qual params body scope .none kV doc pm an cdv ct) ⟨us, []⟩ = pure (ps.zip us))
    (hn : ps.length = n) (hm : N.length = n + m)
    (hj : ∀ (cdv : Value) (A : Around) (outer : List PySem.Env) (s : Shared) (H : Hp) (E : XK), Room k (cxOf (L2.CX P w) P w K mg base N qual scope f cdv A outer s H E).A → Takes (cxOf (L2.CX P w) P w K mg base N qual scope f cdv A outer s H E) (fun cls d _ H => E cls d H) →
      PassesOwn (model P w) (cxOf (L2.CX P w) P w K mg base N qual scope f cdv A outer s H E).A (cxOf (L2.CX P w) P w K mg base N qual scope f cdv A outer s H E).env (cxOf (L2.CX P w) P w K mg base N qual scope f cdv A outer s H E).xe →
      JSs (cxOf (L2.CX P w) P w K mg base N qual scope f cdv A outer s H E) G (fun cls d _ H => E cls d H) body fb) : Fk P w K mg base f ps (k + 1) (spD K G n (denOf n m fb)) := by
  obtain ⟨fd, F⟩ := F
  refine ⟨⟨fd, F.ok S (fun vs H Q E h => ?_) (fun cdv A outer s H vs Q E hr h => ?_), FunD.bindsN F hb, funD_lookup F⟩, F.kp⟩
  · obtain ⟨_, _, hl, _⟩ := h
    rw [hl, hn]
  · refine ⟨_, hj cdv A outer s H E hr (takes_of rfl rfl rfl rfl) (passes_of rfl), ?_⟩
    exact spD_body (n := n) (m := m) sS hm h
/-! ### calls -/
section
variable {X : Cx} {G : Gs} {W : WX} {e o c : Expr} {es : List Expr} {fe f0 : M RV} {fr : M (List AV)} {pos p p2 apos : Pos} {x m : Str} {k n : Nat} {f : Addr} {ps : List Str} {den : List SV → Cal}
theorem je_call (Z : Fk X.prog X.w X.K X.mg X.base f ps k (spD X.K G n den)) (hr : Room k X.A) (tk : Takes X W) (hm : X.mg x = some (.ref f)) (ha : JA X G W (e :: es) fr) (hg : Gl X x)
    (hdb : (x == ("__debug__" : Str)) = false := by decide) (he : starEach (e :: es) X.env = (false, eval e X.env) :: starEach es X.env := by rfl) (hpl : (backTo pos (starEach es X.env)).any (·.1) = false := by rfl) :
    JE X G W (.Call (.Name x p) (e :: es) [] pos) (eCall n den fr) := by
  obtain ⟨fd, F, hb, _⟩ := Z.ex
  exact toE (pe_callS F hr hg hm Z.kp hb (passAt tk) ha hdb he hpl) (sim_callS sA)
theorem je_call0 (Z : Fk X.prog X.w X.K X.mg X.base f ps k (spD X.K G n den)) (hr : Room k X.A) (tk : Takes X W) (hm : X.mg x = some (.ref f)) (hg : Gl X x)
    (hdb : (x == ("__debug__" : Str)) = false := by decide) : JE X G W (.Call (.Name x p) [] [] pos) (eCall n den aNil) := by
  obtain ⟨fd, F, hb, _⟩ := Z.ex
  exact toE (pe_callS0 F hr hg hm Z.kp hb (passAt tk) hdb) (sim_callS sim_anil)
theorem je_make {c0 nm : Nat} (M : Mk X.K (G.g c0).1 f) (Z : Fk X.prog X.w X.K X.mg X.base f ps k (spD X.K G (n + 1) den)) (hr : Room (k + 1) X.A) (tk : Takes X W) (hm : X.mg x = some (.ref (G.g c0).1)) (hnm : (G.g c0).2.length = nm) (ha : JA X G W (e :: es) fr) (hg : Gl X x)
    (hdb : (x == ("__debug__" : Str)) = false := by decide) (he : starEach (e :: es) X.env = (false, eval e X.env) :: starEach es X.env := by rfl) (hpl : (backTo pos (starEach es X.env)).any (·.1) = false := by rfl) :
    JE X G W (.Call (.Name x p) (e :: es) [] pos) (eMake c0 nm n den fr) := by
  obtain ⟨fd, F, hb, _⟩ := Z.ex
  exact toE (pe_makeS M F hr hg hm hb (passAt tk) ha hdb he hpl) (sim_make hnm sA)
theorem je_meth {c0 : Nat} {pl : Sem Bool} (c : Cls X.K (G.g c0).1) (hm : Meth X.K (G.g c0).1 m f) (hmm : m ∉ (G.g c0).2) (Z : Fk X.prog X.w X.K X.mg X.base f ps k (spD X.K G n den)) (hr : Room k X.A) (tk : Takes X W) (ho : JE X G W o f0) (ha : JA X G W (e :: es) fr)
    (hst : starEach (e :: es) X.env = (false, eval e X.env) :: starEach es X.env := by rfl) (hpl : (backTo pos (starEach es X.env)).any (·.1) = false := by rfl)
    (ht : eval (.Call (.Attribute o m apos) (e :: es) [] pos) X.env = (do
      let ov ← eval o X.env
      standAt apos.atName
      let (f, first) ← holding [ov] (getMethod ov m pl)
      callWith pos f first (backTo pos (starEach (e :: es) X.env)) (backToKw pos (keywordEach [] X.env))) := by rfl) :
    JE X G W (.Call (.Attribute o m apos) (e :: es) [] pos) (eMeth c0 n den f0 fr) := by
  obtain ⟨fd, F, hb, _⟩ := Z.ex
  exact toE (pe_methZ ho c hm F hr hb (passAt tk) ha hst hpl ht) (sim_meth hmm sE sA)
theorem je_meth0 {c0 : Nat} {pl : Sem Bool} (c : Cls X.K (G.g c0).1) (hm : Meth X.K (G.g c0).1 m f) (hmm : m ∉ (G.g c0).2) (Z : Fk X.prog X.w X.K X.mg X.base f ps k (spD X.K G n den)) (hr : Room k X.A) (tk : Takes X W) (ho : JE X G W o f0)
    (ht : eval (.Call (.Attribute o m apos) [] [] pos) X.env = (do
      let ov ← eval o X.env
      standAt apos.atName
      let (f, first) ← holding [ov] (getMethod ov m pl)
      callWith pos f first (backTo pos (starEach [] X.env)) (backToKw pos (keywordEach [] X.env))) := by rfl) :
    JE X G W (.Call (.Attribute o m apos) [] [] pos) (eMeth c0 n den f0 aNil) := by
  obtain ⟨fd, F, hb, _⟩ := Z.ex
  exact toE (pe_methZ0 ho c hm F hr hb (passAt tk) ht) (sim_meth hmm sE sim_anil)
/-! isinstance -/
theorem je_isi {kn : List Nat} (kk : KnOk X.K G.g kn) (bs : List String) (cs : List Nat) {v : V} (hb : ∀ b ∈ bs, b ∈ bts7) (hc : ∀ c ∈ cs, c ∈ kn) (ht : tgt G.g bs cs = [v]) (he : JE X G W e fe) (hcl : PE X c (tC v)) (hm : X.mg "isinstance" = none) (hg : Gl X "isinstance")
    (hs : starEach [e, c] X.env = (false, eval e X.env) :: starEach [c] X.env := by rfl) (hs2 : starEach [c] X.env = (false, eval c X.env) :: starEach [] X.env := by rfl) (hpl : (backTo pos (starEach [c] X.env)).any (·.1) = false := by rfl) :
    JE X G W (.Call (.Name "isinstance" p) [e, c] [] pos) (eIsi kn bs cs fe) :=
  toE (pe_callB call_isi hg hm (by decide +kernel) (pa_cons he (pa_cons hcl pa_nil hs2) hs) (by decide) (by decide) hs hpl) (sim_isi kk hb hc ht sE)
theorem je_isiT {kn : List Nat} (kk : KnOk X.K G.g kn) (bs : List String) (cs : List Nat) {c1 c2 : Expr} {v1 v2 : V} {x1 : Nat} (hb : ∀ b ∈ bs, b ∈ bts7) (hc : ∀ c ∈ cs, c ∈ kn) (ht : tgt G.g bs cs = [v1, v2]) (he : JE X G W e fe) (hcl : PE X c1 (tC v1)) (hcl2 : PE X c2 (tC v2)) (hm : X.mg "isinstance" = none) (hg : Gl X "isinstance")
    (hs : starEach [e, .Tuple [c1, c2] x1 p2] X.env = (false, eval e X.env) :: starEach [.Tuple [c1, c2] x1 p2] X.env := by rfl) (hs2 : starEach [.Tuple [c1, c2] x1 p2] X.env = (false, eval (.Tuple [c1, c2] x1 p2) X.env) :: starEach [] X.env := by rfl)
    (hs3 : starEach [c1, c2] X.env = (false, eval c1 X.env) :: starEach [c2] X.env := by rfl) (hs4 : starEach [c2] X.env = (false, eval c2 X.env) :: starEach [] X.env := by rfl) (hpl : (backTo pos (starEach [.Tuple [c1, c2] x1 p2] X.env)).any (·.1) = false := by rfl) :
    JE X G W (.Call (.Name "isinstance" p) [e, .Tuple [c1, c2] x1 p2] [] pos) (eIsi kn bs cs fe) :=
  toE (pe_callB call_isiT hg hm (by decide +kernel) (pa_cons he (pa_cons (pe_tup (pa_cons hcl (pa_cons hcl2 pa_nil hs4) hs3)) pa_nil hs2) hs) (by decide) (by decide) hs hpl) (sim_isiT kk hb hc ht sE)
theorem pe_ty (T : String) (hg : Gl X x) (hm : X.mg x = none) (hv : bootBuiltins x = some (.type T) := by decide +kernel) (hn : x ≠ "__name__" := by decide) (hd : (x == ("__debug__" : Str)) = false := by decide) : PE X (.Name x pos) (tC (.ty T)) := pe_bltn hg hm hv rfl hn hd
theorem pe_cl {C : Addr} (hg : Gl X x) (hm : X.mg x = some (.ref C)) (hd : (x == ("__debug__" : Str)) = false := by decide) : PE X (.Name x pos) (tC (.ref C)) := pe_glob hg hm rfl hd
/-! attributes -/
theorem je_fld {c0 j : Nat} (T : AtOk X.K G.g c0 j x) (he : JE X G W e fe) (hb : attributeBase e x X.env (eval e X.env) = eval e X.env := by rfl) : JE X G W (.Attribute e x pos) (eFld c0 j fe) := toE (pe_fld he hb) (sim_fld T sE)
/-! own == -/
theorem je_eqO {c0 : Nat} {a b : Expr} {fa fb : M RV} {kn : List Nat} (kk : KnOk X.K G.g kn) (hc : c0 ∈ kn) (h1 : ∀ T ∈ bts7, PySem.W.notFirst X.K (G.g c0).1 (.type T) = true) (h2 : ∀ c' ∈ kn, PySem.W.notFirst X.K (G.g c0).1 (.ref (G.g c').1) = true)
    (hs : PySem.W.findIn X.K (.ref (G.g c0).1) "__eq__" = some (some (.ref f))) (hf : PySem.W.isFn X.K (.ref f) = true) (Z : Fk X.prog X.w X.K X.mg X.base f ps k (spD X.K G 2 den)) (hr : Room k X.A) (ha : JE X G W a fa) (hb : JE X G W b fb) :
    JE X G W (.Compare a [.Eq] [b] pos) (eOp2R (opEqO kn c0 den) fa fb) ∧ JT X G W (.Compare a [.Eq] [b] pos) (eB (eOp2R (opEqO kn c0 den) fa fb)) := by
  obtain ⟨fd, F, hbi, _⟩ := Z.ex
  have o := (op_eqO F hr hbi hs hf).or (op_eqD hr.units)
  exact ⟨toE (pe_cmpR o ha hb (nomark _)) (sim_op2R (ok_eqO kk hc h1 h2) sE sE), toT (pt_cmpR o ha hb (nomark _)) (sim_test (sim_op2R (ok_eqO kk hc h1 h2) sE sE))⟩
theorem je_neO {c0 : Nat} {a b : Expr} {fa fb : M RV} {kn : List Nat} (kk : KnOk X.K G.g kn) (hc : c0 ∈ kn) (h1 : ∀ T ∈ bts7, PySem.W.notFirst X.K (G.g c0).1 (.type T) = true) (h2 : ∀ c' ∈ kn, PySem.W.notFirst X.K (G.g c0).1 (.ref (G.g c').1) = true)
    (hs : PySem.W.findIn X.K (.ref (G.g c0).1) "__eq__" = some (some (.ref f))) (hf : PySem.W.isFn X.K (.ref f) = true) (hne : PySem.W.findIn X.K (.ref (G.g c0).1) "__ne__" = some (some (.builtin "object.__ne__"))) (hm : PySem.W.mroIn X.K (G.g c0).1 (.type "object") = some true)
    (Z : Fk X.prog X.w X.K X.mg X.base f ps k (spD X.K G 2 den)) (hr : Room (k + 1) X.A) (ha : JE X G W a fa) (hb : JE X G W b fb) :
    JE X G W (.Compare a [.NotEq] [b] pos) (eOp2R (opNeO kn c0 den) fa fb) ∧ JT X G W (.Compare a [.NotEq] [b] pos) (eB (eOp2R (opNeO kn c0 den) fa fb)) := by
  obtain ⟨fd, F, hbi, _⟩ := Z.ex
  have o := (op_neO F hr hbi hs hf hne hm).or (op_neD hr.units)
  exact ⟨toE (pe_cmpR o ha hb (nomark _)) (sim_op2R (ok_neO kk hc h1 h2) sE sE), toT (pt_cmpR o ha hb (nomark _)) (sim_test (sim_op2R (ok_neO kk hc h1 h2) sE sE))⟩
end
/-! ### an index store -/
def isLst : Option SV → Bool
  | some (.own _) => true
  | some (.brw _) => true
  | _ => false
def gSubM (i : Nat) (fi : M RV) : D → M Unit := fun d => fun env => if isLst env[i]? = true then (match fi env with
  | .ok rv env1 => (match peek env1 rv with
    | some (.int k) => (match env1[i]? with
      | some (.own xs) => (match ixN xs.length k with
        | some j => .ok () (env1.set i (.own (xs.set j d)))
        | none => .stuck)
      | some (.brw xs) => (match ixN xs.length k with
        | some j => .ok () (env1.set i (.brw (xs.set j d)))
        | none => .stuck)
      | _ => .stuck)
    | _ => .stuck)
  | _ => .stuck) else .stuck
theorem noerr_sub (i : Nat) (fi : M RV) : NoErr (gSubM i fi) := fun d env x e h => by
  unfold gSubM at h
  split at h
  · split at h
    · split at h
      · split at h
        · split at h <;> cases h
        · split at h <;> cases h
        · cases h
      · cases h
    · cases h
  · cases h
section
variable {K : PySem.W.Frag} {G : Gs} {W : WX}
theorem simg_sub {i : Nat} {ti : TE} {fi : M RV} (hi : SimE K G W ti fi) : SimG K G (gSub (tVar i) ti rSetL) (gSubM i fi) := fun F H σ env v d Q ok r w => by
  unfold gSubM at w
  by_cases hl : isLst env[i]? = true
  · rw [if_pos hl] at w
    obtain ⟨s, hs⟩ : ∃ s, env[i]? = some s := by
      cases e : env[i]? with
      | none => rw [e] at hl; cases hl
      | some s => exact ⟨s, rfl⟩
    have l : i < σ.length := by rw [ok.len]; exact (List.getElem?_eq_some_iff.mp hs).1
    have es : σ[i]? = some σ[i] := List.getElem?_eq_getElem l
    have q := ok.slot i _ s es hs
    obtain ⟨p, ep⟩ : ∃ p, σ[i] = some (.ref p) := by
      rw [hs] at hl
      cases s with
      | own xs => obtain ⟨p, vs, e, _⟩ := q; exact ⟨p, e⟩
      | brw xs => obtain ⟨p, vs, e, _⟩ := q; exact ⟨p, e⟩
      | _ => cases hl
    rw [ep] at es
    refine ⟨.ref p, es, hi F H σ env _ ok ?_⟩
    cases ef : fi env with
    | err x env1 => rw [ef] at w; exact w.elim
    | stuck => rw [ef] at w; exact w.elim
    | ok rv env1 =>
      rw [ef] at w
      intro F1 H1 o1 f1 iv riv
      dsimp only at w
      cases e1 : peek env1 rv with
      | none => rw [e1] at w; exact w.elim
      | some dk =>
        rw [e1] at w
        have pk := pk_of o1 riv e1
        cases dk with
        | int k =>
          dsimp only at w
          have hk := pk.int_ rfl
          subst hk
          cases e2 : env1[i]? with
          | none => rw [e2] at w; exact w.elim
          | some t =>
            rw [e2] at w
            have q2 := o1.slot i _ t es e2
            cases t with
            | own xs =>
              dsimp only at w
              obtain ⟨p', vs, ep', h1, h2, rr⟩ := q2
              cases ep'
              cases e3 : ixN xs.length k with
              | none => rw [e3] at w; exact w.elim
              | some j =>
                rw [e3] at w
                refine ⟨p, vs, k, j, rfl, rfl, h1, by rw [rr.length]; exact e3, ?_⟩
                have sv : SvOk K G F1 (upd H1 p (.lst (vs.set j v))) (some (.ref p)) (.own (xs.set j d)) := ⟨p, _, rfl, upd_same, h2, Reps.set (r.mono f1.sub) j rr⟩
                exact w F1 _ σ (o1.change es e2 rfl rfl sv) (f1.trans (Fr.change o1 es e2 rfl rfl))
            | brw xs =>
              dsimp only at w
              obtain ⟨p', vs, ep', h1, h2, rr⟩ := q2
              cases ep'
              cases e3 : ixN xs.length k with
              | none => rw [e3] at w; exact w.elim
              | some j =>
                rw [e3] at w
                refine ⟨p, vs, k, j, rfl, rfl, h1, by rw [rr.length]; exact e3, ?_⟩
                have sv : SvOk K G F1 (upd H1 p (.lst (vs.set j v))) (some (.ref p)) (.brw (xs.set j d)) := ⟨p, _, rfl, upd_same, h2, Reps.set (r.mono f1.sub) j rr⟩
                exact w F1 _ σ (o1.change es e2 rfl rfl sv) (f1.trans (Fr.change o1 es e2 rfl rfl))
            | _ => exact w.elim
        | _ => exact w.elim
  · rw [if_neg hl] at w; exact w.elim
end
/-! ### targets and statements -/
section
variable {X : Cx} {G : Gs} {W : WX} {e o i0 tg c : Expr} {es : List Expr} {fe fi : M RV} {ft : M Bool} {g : D → M Unit} {gs : List D → M Unit} {f f2 : M Out} {pos p p2 pos' : Pos} {x : Str} {st : Stmt} {sts sts2 : List Stmt} {fit : M (List D)}
theorem jg_name (i : Nat) (hN : X.N.Nodup) (hi : X.N[i]? = some x := by rfl) (hx : Loc X.env.scope x := by first | exact Or.inl rfl | exact Or.inr rfl) (hf : X.fn x = true ∨ X.env.scope.names.lookup x = some .local := by first | exact .inl rfl | exact .inr rfl) : JG X G (.Name x pos) (gNameM i) :=
  toG (pg_name hN hi hx hf) (simg_name i) (noerr_name i)
theorem jgs_nil : JGs X G [] gNilM := toGs pgs_nil simgs_nil noerr_nil
theorem jgs_cons (h : JG X G e g) (hs : JGs X G es gs) (hq : (assignEach (e :: es) X.env).map (·.2) = assign e X.env :: (assignEach es X.env).map (·.2) := by rfl) : JGs X G (e :: es) (gConsM g gs) :=
  toGs (pgs_cons h.1 hs.1 hq) (simgs_cons sG sGs) (noerr_cons h.2 hs.2)
theorem jg_tup {k : Nat} (n : Nat) (hc : X.calm = true) (h : JGs X G es gs) (hn : (assignEach es X.env).length = n := by rfl) (hst : (assignEach es X.env).findIdx? (·.1) = none := by rfl) : JG X G (.Tuple es k pos) (gTupM n gs) :=
  toG (pg_tup hc h.1 hn hst) (simg_tup sGs) (noerr_tup h.2)
theorem jg_sub (i : Nat) (hi : JE X G W i0 fi) (hN : X.N[i]? = some x := by rfl) (hv : Vis X.env.scope x := by first | exact Or.inl rfl | exact Or.inr (Or.inl rfl) | exact Or.inr (Or.inr rfl)) (hd : (x == ("__debug__" : Str)) = false := by decide)
    (hcd : (x == ("__classdict__" : Str)) = false := by decide)
    (ha : ∀ v, assign (.Subscript (.Name x p) i0 pos) X.env v = (do
      let ov ← holding [v] (eval (.Name x p) X.env)
      let iv ← holding [v, ov] (eval i0 X.env)
      standAt pos
      holding [v, ov, iv] (setItem ov iv v)
      release [v, ov, iv] []) := by intro _; rfl) : JG X G (.Subscript (.Name x p) i0 pos) (gSubM i fi) :=
  toG (pg_sub (pe_var hN hv hd hcd) hi set_list ha) (simg_sub sE) (noerr_sub i fi)
theorem js_set (i : Nat) (hN : X.N.Nodup) (he : JE X G W e fe) (hi : X.N[i]? = some x := by rfl) (hx : Loc X.env.scope x := by first | exact Or.inl rfl | exact Or.inr rfl) (hs : swapsWith e (some (.Name x pos')) pos.line X.env = pure false := by rfl)
    (hf : X.fn x = true ∨ X.env.scope.names.lookup x = some .local := by first | exact .inl rfl | exact .inr rfl) : JS X G W (.Assign [.Name x pos'] e pos) (sAsg i fe) := toS (ps_set hN hi hx he hs hf) (sim_asg sE)
theorem js_asg (he : JE X G W e fe) (hg : JG X G tg g) (hs : swapsWithSole [tg] e pos.line X.env = pure false := by rfl) (hw : swappedStores [tg] e X.env = pure none := by rfl)
    (h1 : (assignEach [tg] X.env).map (·.2) = [assign tg X.env] := by rfl) : JS X G W (.Assign [tg] e pos) (sAsgG fe g) := toS (ps_asg he hg.1 hs hw h1) (sim_asgG sE sG hg.2)
/-- self.f = e -/
theorem js_putF {c0 j : Nat} (i : Nat) {y : Str} (T : AtOk X.K G.g c0 j x) (h100 : (G.g c0).2.length ≤ 100) (he : JE X G W e fe) (hN : X.N[i]? = some y := by rfl) (hv : Vis X.env.scope y := by first | exact Or.inl rfl | exact Or.inr (Or.inl rfl) | exact Or.inr (Or.inr rfl)) (hd : (y == ("__debug__" : Str)) = false := by decide)
    (hcd : (y == ("__classdict__" : Str)) = false := by decide) (hs : swapsWith e (some (.Attribute (.Name y p) x pos')) pos.line X.env = pure false := by rfl) : JS X G W (.Assign [.Attribute (.Name y p) x pos'] e pos) (sPutF i c0 j fe) :=
  toS (ps_fld (pe_var hN hv hd hcd) he hs) (sim_putF T h100 sE)
theorem jss_nil : JSs X G W [] sNx := toSs pss_nil sim_next
theorem jss_cons (h : JS X G W st f) (hs : JSs X G W sts f2) : JSs X G W (st :: sts) (sSeq f f2) := toSs (pss_cons h hs) (sim_seq sS sS)
theorem jss_one (h : JS X G W st f) : JSs X G W [st] f := toSs (pss_one h) sS
theorem js_pass : JS X G W (.Pass pos) sNx := toS ps_pass sim_next
theorem js_break : JS X G W (.Break pos) sBk := toS ps_break sim_break
theorem js_continue : JS X G W (.Continue pos) sCt := toS ps_continue sim_cont
theorem js_expr (he : JE X G W e fe) (hs : swapsWith e none pos.line X.env = pure false := by rfl) : JS X G W (.Expr e pos) (sDrop fe) := toS (ps_expr he hs) (sim_drop sE)
theorem js_ret (he : JE X G W e fe) : JS X G W (.Return (some e) pos) (sRet fe) := toS (ps_ret he) (sim_ret sE)
theorem js_retN : JS X G W (.Return none pos) sRetN := toS ps_retN sim_retN
theorem js_if (hc : JT X G W c ft) (ha : JSs X G W sts f) (hb : JSs X G W sts2 f2) : JS X G W (.If c sts sts2 pos) (sIf ft f f2) := toS (ps_if hc ha hb) (sim_if sT sS sS)
theorem ji_seq (he : JE X G W e fe) : JI X G W tg e (iSeqM fe) := toI (pi_seq he) (simi_seq sE)
theorem ji_range1 {a : Expr} {fp : M (List RV)} (hm : X.mg "range" = none) (ha : JP X G W [a] fp) (hg : Gl X "range") (hs : starEach [a] X.env = [(false, eval a X.env)] := by rfl) : JI X G W tg (.Call (.Name "range" p) [a] [] pos) (iRng1M fp) :=
  toI (pi_range1 hg hm ha hs) (simi_rng1 sP)
theorem ji_range2 {a b : Expr} {fp : M (List RV)} (hm : X.mg "range" = none) (ha : JP X G W [a, b] fp) (hg : Gl X "range") (hs : starEach [a, b] X.env = [(false, eval a X.env), (false, eval b X.env)] := by rfl) (hs2 : starEach [b] X.env = [(false, eval b X.env)] := by rfl) :
    JI X G W tg (.Call (.Name "range" p) [a, b] [] pos) (iRng2M fp) := toI (pi_range2 hg hm ha hs hs2) (simi_rng2 sP)
theorem js_for (hp : PassesOwn (model X.prog X.w) X.A X.env X.xe) (hc : X.calm = true) (hi : JI X G W tg e fit) (hg : JG X G tg g) (hb : JSs X G W sts f) (hs : ∀ x, foldedSetIterable e X.env x = pure x := by intro _; rfl) :
    JS X G W (.For tg e sts [] pos) (sFor fit g f) := toS (ps_for hp hc hi hg.1 hb hs) (sim_for sI sG sS)
theorem js_while (hp : PassesOwn (model X.prog X.w) X.A X.env X.xe) (hc : JT X G W c ft) (hb : JSs X G W sts f) : JS X G W (.While c sts [] pos) (sWhile ft f) := toS (ps_while hp hc hb) (sim_while sT sS)
end
/-! ### exceptions -/
theorem len_XI {C : Addr} {f : Str} (vs : List V) (H : Hp) (Q : VK) (E : XK) (h : spXI C f vs H Q E) : vs.length = 2 := by
  obtain ⟨a, y, rfl, _⟩ := h
  rfl
section
variable {X : Cx} {G : Gs} {W : WX} {e : Expr} {es : List Expr} {fe : M RV} {pos p p2 : Pos} {x f : Str} {k : Nat} {fI : Addr} {ps : List Str}
theorem js_raise {c0 : Nat} (hn : (G.g c0).2 = [f]) (T : OexC X.K (G.g c0).1) (r : Raises X (.ref (G.g c0).1)) (iC : PySem.W.findIn X.K (.ref (G.g c0).1) "__init__" = some (some (.ref fI))) (tI : PySem.W.typeIn X.K (.ref fI) = some (.type "function"))
    (Z : Fk X.prog X.w X.K X.mg X.base fI ps k (spXI (G.g c0).1 f)) (hc : X.calm = true) (hr : Room (k + 1) X.A) (tk : Takes X W) (hm : X.mg x = some (.ref (G.g c0).1)) (he : JE X G W e fe) (hg : Gl X x)
    (hdb : (x == ("__debug__" : Str)) = false := by decide) (hs : starEach [e] X.env = (false, eval e X.env) :: starEach [] X.env := by rfl) (hpl : (backTo pos (starEach [] X.env)).any (·.1) = false := by rfl) :
    JS X G W (.Raise (some (.Call (.Name x p) [e] [] pos)) none p2) (sRaise c0 fe) := by
  obtain ⟨fd, F, hb, _⟩ := Z.ex
  have hx : Passes (L2.CX X.prog X.w) X (fun _ _ _ => False) := fun _ _ _ _ _ _ _ h => by
    obtain ⟨_, _, _, _, _, _, _, _, _, _, _, _, z⟩ := h
    exact z.elim
  have q := pmk_oex (p := p) (dvs := []) T iC tI F hr hb .nil hx hg hm (pa_cons he pa_nil hs) hdb hs hpl
  exact toS (ps_raise hc tk q) (sim_raise hn sE)
end
/-- X's own __init__ with one field -/
theorem fk_init {P : Program} {w : World} {K : PySem.W.Frag} {mg : Str → Option Value} {base : Heap} {x qual a1 a2 f : Str} {params : Arguments} {body : List Stmt} {scope : Scope} {fI C : Addr} 
    (F : ∃ fd, FunD K x qual params body scope [] [] fI fd) (S : FnScope [a1, a2] [a1, a2] scope)
    (hb : ∀ (kV doc pm : Value) (an : Option Addr) (cdv ct : Value) (us : List Value), us.length = [a1, a2].length → bindArgs (PySem.W.fnOf x qual params body scope .none kV doc pm an cdv ct) ⟨us, []⟩ = pure ([a1, a2].zip us))
    (T : OexC K C) (hno : PySem.W.findIn K (.ref C) f = some none)
    (hj : ∀ (cdv : Value) (A : Around) (outer : List PySem.Env) (s : Shared) (H : Hp) (E : XK), PSs (cxOf (L2.CX P w) P w K mg base [a1, a2] qual scope fI cdv A outer s H E) body (tOst K f (tVar 0) (tVar 1))) : Fk P w K mg base fI [a1, a2] 1 (spXI C f) := by
  obtain ⟨fd, F⟩ := F
  refine ⟨⟨fd, F.ok S len_XI (fun cdv A outer s H vs Q E hr h => ?_), FunD.bindsN F hb, funD_lookup F⟩, F.kp⟩
  obtain ⟨a, y, rfl, ha, q⟩ := h
  refine ⟨_, hj cdv A outer s H E, ?_⟩
  refine ⟨y, rfl, .ref a, rfl, a, C, rfl, T, hno, .inl ⟨ha, fun dx hdx ne => q dx hdx ne⟩⟩
end Dl
namespace Dl
open PySem PySem.Spec PyProof.Rows L2

/-! ### tables -/
def hitL (l : List (Nat × Bool)) (n : Nat) : Option Bool := l.lookup n
theorem hitL_mem {l : List (Nat × Bool)} {n : Nat} {b : Bool} (h : hitL l n = some b) : (n, b) ∈ l := by
  unfold hitL at h
  induction l with
  | nil => cases h
  | cons p l ih =>
    obtain ⟨m, c⟩ := p
    unfold List.lookup at h
    split at h
    · rename_i q
      cases h
      have := eq_of_beq q
      subst this
      exact List.mem_cons_self
    · exact List.mem_cons_of_mem _ (ih h)
/-! ### in an except suite -/
section
variable {K : PySem.W.Frag} {G : Gs} {W : WX}
theorem exc_slot {F H : Hp} {σ : L2.St} {env : Env} {i : Nat} {x : Exn} (ok : Ok K G F H σ env) (h : env[i]? = some (.exc x)) : σ[i]? = some (some (.ref G.a)) ∧ ExcOk K G F G.cls G.d x := by
  have l : i < σ.length := by rw [ok.len]; exact (List.getElem?_eq_some_iff.mp h).1
  have es : σ[i]? = some σ[i] := List.getElem?_eq_getElem l
  obtain ⟨e, x⟩ := ok.slot i _ _ es h
  rw [e] at es
  exact ⟨es, x⟩
theorem sim_xf {i c j : Nat} {f : Str} {C : Addr} (hC : (G.g c).1 = C) (nd : (G.g c).2.Nodup) (hj : (G.g c).2[j]? = some f) : SimE K G W (tXf G.a G.cls G.d C f (tVar i)) (eXf i c j) := fun F H σ env Q ok w => by
  unfold eXf at w
  cases e : env[i]? with
  | none => rw [e] at w; exact w.elim
  | some s =>
    rw [e] at w
    cases s with
    | exc x =>
      dsimp only at w
      obtain ⟨es, xo⟩ := exc_slot ok e
      by_cases hx : x.c = c
      · rw [if_pos hx] at w
        cases e2 : x.ds[j]? with
        | none => rw [e2] at w; exact w.elim
        | some d =>
          rw [e2] at w
          obtain ⟨hcls, h⟩ := xo
          rcases h with ⟨h1, _⟩ | ⟨dd, vs, h1, h2, h3, rr⟩
          · rw [h1] at e2; simp at e2
          · rw [hx] at hcls h2 h3
            obtain ⟨v, hv, rv⟩ := rr.get' e2
            refine ⟨.ref G.a, es, rfl, by rw [hcls, hC], dd, _, v, h1, ok.sub _ _ h2, zip_lookup nd hj hv, ?_⟩
            exact w F H ok Fr.refl v rv
      · rw [if_neg hx] at w; exact w.elim
    | _ => exact w.elim
theorem sim_isX {i : Nat} {en : List Nat} {l : List (Nat × Bool)} {c : V} {cv : Value} (hc : ∀ u, RelV c u → u = cv) (hx : ∀ n ∈ en, ExcC K (G.g n).1 ∧ (PySem.W.clsIn K (G.g n).1).isSome = true)
    (hk : ∀ p ∈ l, PySem.W.kitOne K (.ref (G.g p.1).1) cv = some p.2) : SimE K G W (tCB (rIsX K G.a G.cls G.d) (tCons (tVar i) (tCons (tC c) tNil))) (eIsX i en (hitL l)) := fun F H σ env Q ok w => by
  unfold eIsX at w
  cases e : env[i]? with
  | none => rw [e] at w; exact w.elim
  | some s =>
    rw [e] at w
    cases s with
    | exc x =>
      dsimp only at w
      obtain ⟨es, xo⟩ := exc_slot ok e
      by_cases hen : en.contains x.c = true
      · rw [if_pos hen] at w
        cases e2 : hitL l x.c with
        | none => rw [e2] at w; exact w.elim
        | some b =>
          rw [e2] at w
          obtain ⟨h1, h2⟩ := hx x.c (by simpa using hen)
          refine ⟨.ref G.a, es, (G.g x.c).1, c, cv, b, xo.1, h1, h2, ?_, rfl, hc, hk _ (hitL_mem e2), w F H ok Fr.refl _ (.bl b)⟩
          rcases xo.2 with ⟨_, z⟩ | ⟨dd, vs, z1, z2, _⟩
          · exact .inl z
          · exact .inr ⟨dd, _, z1, ok.sub _ _ z2⟩
      · rw [if_neg hen] at w; exact w.elim
    | _ => exact w.elim
end
section
variable {X : Cx} {G : Gs} {W : WX} {e c : Expr} {pos p p2 : Pos} {x f : Str} {a : Addr} {oe : Obj} {cls : Value} {d : Option Addr} {pn : List (Addr × Obj)}
theorem je_xf {c0 j : Nat} (i : Nat) (hz : Zc cls d oe) (hf : ∃ vs, oe.data = .fields vs) (T : XfC X.K (G.g c0).1) (hno : PySem.W.findIn X.K (.ref (G.g c0).1) f = some none) (nd : (G.g c0).2.Nodup) (hj : (G.g c0).2[j]? = some f)
    (hN : X.N[i]? = some x := by rfl) (hv : Vis X.env.scope x := by first | exact Or.inl rfl | exact Or.inr (Or.inl rfl) | exact Or.inr (Or.inr rfl)) (hd : (x == ("__debug__" : Str)) = false := by decide)
    (hcd : (x == ("__classdict__" : Str)) = false := by decide) (hb : attributeBase (.Name x p) f X.env (eval (.Name x p) X.env) = eval (.Name x p) X.env := by rfl) :
    JE (X.suite a ((a, oe) :: pn)) (G.held a cls d) W (.Attribute (.Name x p) f pos) (eXf i c0 j) :=
  toE (X := X.suite a ((a, oe) :: pn)) (pe_xf (X := X) T hno hz hf (pe_var (X := X.suite a ((a, oe) :: pn)) hN hv hd hcd) hb) (sim_xf (G := G.held a cls d) (i := i) (c := c0) rfl nd hj)
theorem je_isX {en : List Nat} (l : List (Nat × Bool)) (i : Nat) {v : V} {cv : Value} (hz : Zc cls d oe) (hf : ∃ vs, oe.data = .fields vs) (hc : ∀ u, RelV v u → u = cv) (hx : ∀ n ∈ en, ExcC X.K (G.g n).1 ∧ (PySem.W.clsIn X.K (G.g n).1).isSome = true)
    (hk : ∀ p ∈ l, PySem.W.kitOne X.K (.ref (G.g p.1).1) cv = some p.2) (hcl : PE (X.suite a ((a, oe) :: pn)) c (tC v)) (hm : X.mg "isinstance" = none) (hg : Gl X "isinstance")
    (hN : X.N[i]? = some x := by rfl) (hv : Vis X.env.scope x := by first | exact Or.inl rfl | exact Or.inr (Or.inl rfl) | exact Or.inr (Or.inr rfl)) (hd : (x == ("__debug__" : Str)) = false := by decide)
    (hcd : (x == ("__classdict__" : Str)) = false := by decide)
    (hs : starEach [.Name x p2, c] X.env = (false, eval (.Name x p2) X.env) :: starEach [c] X.env := by rfl) (hs2 : starEach [c] X.env = (false, eval c X.env) :: starEach [] X.env := by rfl) (hpl : (backTo pos (starEach [c] X.env)).any (·.1) = false := by rfl) :
    JE (X.suite a ((a, oe) :: pn)) (G.held a cls d) W (.Call (.Name "isinstance" p) [.Name x p2, c] [] pos) (eIsX i en (hitL l)) :=
  toE (X := X.suite a ((a, oe) :: pn)) (pe_callB (X := X.suite a ((a, oe) :: pn)) (call_isX hz hf) hg hm (by decide +kernel) (pa_cons (pe_var (X := X.suite a ((a, oe) :: pn)) hN hv hd hcd) (pa_cons hcl pa_nil hs2) hs) (by decide) (by decide) hs hpl) (sim_isX (G := G.held a cls d) hc hx hk)
/-! ### try -/
def JH (X : Cx) (G : Gs) (hds : List ExceptHandler) (cl : List Clause) : Prop := ∃ l, HdG X hds l ∧ ClsOk X.K G l cl
theorem jh_nil : JH X G [] [] := ⟨[], .nil, .nil⟩
theorem jh_cons {cv : Value} {hit : List (Nat × Bool)} {b₀ : Stmt} {suite : List Stmt} {np pos' : Pos} {hds : List ExceptHandler} {cl : List Clause} {fs : M Out} (hc : Names X x cv) (hh : ∀ p ∈ hit, PySem.W.exmOne X.K (.ref (G.g p.1).1) cv = some p.2)
    (hsu : ∀ (a : Addr) (oe : Obj) (cls : Value) (d : Option Addr) (pn : List (Addr × Obj)), Zc cls d oe → (∃ vs, oe.data = .fields vs) → JSs (X.suite a ((a, oe) :: pn)) (G.held a cls d) (fun _ _ _ _ => False) (b₀ :: suite) fs) (r : JH X G hds cl) :
    JH X G (.ExceptHandler (some (.Name x np)) none (b₀ :: suite) pos' :: hds) (⟨hitL hit, none, fs⟩ :: cl) := by
  obtain ⟨l, h1, h2⟩ := r
  exact ⟨_, .cons (ts := fun a cls d => rdS X.K (G.held a cls d) (fun _ _ _ _ => False) fs) hc hsu h1, .cons (fun n b h => hh _ (hitL_mem h)) (fun a cls d => sS) h2⟩
theorem jh_consAs {n : Str} (i : Nat) {cv : Value} {hit : List (Nat × Bool)} {b₀ : Stmt} {suite : List Stmt} {np pos' : Pos} {hds : List ExceptHandler} {cl : List Clause} {fs : M Out} (hc : Names X x cv) (hh : ∀ p ∈ hit, PySem.W.exmOne X.K (.ref (G.g p.1).1) cv = some p.2) (hN : X.N.Nodup)
    (hsu : ∀ (a : Addr) (oe : Obj) (cls : Value) (d : Option Addr) (pn : List (Addr × Obj)), Zc cls d oe → (∃ vs, oe.data = .fields vs) → JSs (X.suite a ((a, oe) :: pn)) (G.held a cls d) (fun _ _ _ _ => False) (b₀ :: suite) fs) (r : JH X G hds cl)
    (hi : X.N[i]? = some n := by rfl) (hln : X.env.kindOf n = some .local := by rfl) :
    JH X G (.ExceptHandler (some (.Name x np)) (some n) (b₀ :: suite) pos' :: hds) (⟨hitL hit, some i, fs⟩ :: cl) := by
  obtain ⟨l, h1, h2⟩ := r
  exact ⟨_, .consAs (ts := fun a cls d => rdS X.K (G.held a cls d) (fun _ _ _ _ => False) fs) hc hN hi hln hsu h1, .cons (fun n b h => hh _ (hitL_mem h)) (fun a cls d => sS) h2⟩
theorem js_try {body : List Stmt} {h₀ : ExceptHandler} {hds : List ExceptHandler} {fb : M Out} {cl : List Clause} (hs : X.stack = X.env :: X.outer) (hf : X.env.frame = some X.env.locals) (tk : Takes X W)
    (hb : ∀ (W : WX) (pn : List (Addr × Obj)) (xe : Value → Shared → Prop), Takes (X.tr pn xe) W → PassesOwn (model X.prog X.w) X.A X.env xe → JSs (X.tr pn xe) G W body fb) (hh : JH X G (h₀ :: hds) cl) :
    JS X G W (.Try body (h₀ :: hds) [] [] pos) (sTry fb cl) := by
  obtain ⟨l, h1, h2⟩ := hh
  exact toS (ps_tryG (tb := fun W => rdS X.K G W fb) hs hf tk hb h1) (sim_try (fun W' => sS) h2)
/-! ### dict displays -/
theorem upd_upd' {H : Hp} {p : Addr} {u v : HO} : upd (upd H p u) p v = upd H p v := by
  funext b
  unfold upd
  split <;> rfl
theorem sim_dnew {K : PySem.W.Frag} : SimE K G W tDNewK (eC (.dk [])) := fun F H σ env Q ok w => fun p hp => by
  exact w _ _ (ok.alloc hp) (Fr.alloc ok hp) _ (.dk upd_same .nil)
theorem je_dnew : JE X G W (.Dict [] [] pos) (eC (.dk [])) := toE pe_dnewK sim_dnew
theorem sim_done {K : PySem.W.Frag} (k : Key) (v : V) (d : D) (hv : ∀ F : Hp, Rep K G.g F v d) : SimE K G W (tDisp [(tC (kV k), tC v)]) (eC (.dk [(k, d)])) := fun F H σ env Q ok w => fun p hp => by
  refine ⟨upd_same, [(k, v)], rfl, by show 1 ≤ 15; decide, ?_⟩
  rw [upd_upd']
  exact w _ _ (ok.alloc hp) (Fr.alloc ok hp) _ (.dk upd_same (.cons (hv _) .nil))
theorem je_done {k e : Expr} {kk : Key} {v : V} {dd : D} (hk : PE X k (tC (kV kk))) (he : PE X e (tC v)) (hv : ∀ F : Hp, Rep X.K G.g F v dd) : JE X G W (.Dict [some k] [e] pos) (eC (.dk [(kk, dd)])) :=
  toE (pe_disp (pps_cons hk he pps_nil) rfl rfl (List.cons_ne_nil _ _) (by show 1 ≤ 15; decide)) (sim_done kk v dd hv)
end
/-! ### the head with one Bool more -/
abbrev AlX : Type := Bool × He.AlD
def obsX (xb : PySem.W.Frag → Bool) (fa : List He.Fa) (fn : List He.DefD) (K : PySem.W.Frag) : AlX := (xb K, He.obsD fa fn K)
def obsXG (n : Nat) (xb : PySem.W.Frag → Bool) (fa : List He.Fa) (fn : List He.DefD) (g : Addr → Option Obj) : AlX := obsX xb fa fn (He.frG g (He.asD g n))
def hookX (n : Nat) (xb : PySem.W.Frag → Bool) (fa : List He.Fa) (fn : List He.DefD) : PySem.W.Hook where
  α := AlX
  obs := fun s => obsXG n xb fa fn s.heap.get?
  val := fun _ => (true, He.valD fn)
  says := fun _ h => ∃ K : PySem.W.Frag, K.In h ∧ xb K = true ∧ He.SaysD fa fn K
  of := fun _ _ e => ⟨_, He.frG_in, congrArg (fun z : AlX => z.1) e, congrArg (fun z : AlX => z.2) e⟩
  keeps := fun _ _ _ ⟨K, hK, c⟩ k => ⟨K, PySem.W.Frag.In.keeps hK k, c⟩
theorem obsXG_eq {n : Nat} {xb : PySem.W.Frag → Bool} {fa : List He.Fa} {fn : List He.DefD} {g : Addr → Option Obj} {s : Shared} (h : ∀ a, g a = s.heap.get? a) : obsXG n xb fa fn g = (hookX n xb fa fn).obs s := by
  have e : g = s.heap.get? := funext h
  rw [e] <;> rfl
/-! facts as Bools -/
def insTB (K : PySem.W.Frag) (C : Addr) : Bool := PySem.W.plainGet K C Str.empty && (PySem.W.hasDictIn K C && (PySem.W.plainOver K C && (decide (PySem.W.findIn K (.ref C) "__setattr__" = some (some (.builtin "object.__setattr__"))) &&
  (decide (PySem.W.findIn K (.ref C) "__class__" = some (some (.builtin "object.__class__"))) && (decide (PySem.W.specialIn K (.builtin "object.__class__") "__get__" = some (some (.builtin "getset_descriptor.__get__"))) &&
  (decide (PySem.W.takesIn K (.builtin "object.__class__") = some true) && decide (PySem.W.mroIn K C (.type "object") = some true)))))))
theorem insTB_ok {K : PySem.W.Frag} {C : Addr} (h : insTB K C = true) : InsT K C := by
  obtain ⟨h1, h⟩ := He.ba h
  obtain ⟨h2, h⟩ := He.ba h
  obtain ⟨h3, h⟩ := He.ba h
  obtain ⟨h4, h⟩ := He.ba h
  obtain ⟨h5, h⟩ := He.ba h
  obtain ⟨h6, h⟩ := He.ba h
  obtain ⟨h7, h8⟩ := He.ba h
  exact ⟨⟨h1, h2, h3, of_decide_eq_true h4⟩, of_decide_eq_true h5, of_decide_eq_true h6, of_decide_eq_true h7, of_decide_eq_true h8⟩
def knB (K : PySem.W.Frag) (G : CT) (kn : List Nat) : Bool := kn.all fun c => insTB K (G c).1 && ((bts7.all fun T => decide (PySem.W.kitOne K (.ref (G c).1) (.type T) = some false) && (decide (PySem.W.kitOne K (.type T) (.ref (G c).1) = some false))) && kn.all fun c' => decide (PySem.W.kitOne K (.ref (G c).1) (.ref (G c').1) = some (decide (c = c'))))
theorem knB_ok {K : PySem.W.Frag} {G : CT} {kn : List Nat} (h : knB K G kn = true) : KnOk K G kn := by
  have h := List.all_eq_true.mp h
  refine ⟨fun c hc => insTB_ok (He.ba (h c hc)).1, fun c hc T hT => ?_, fun c hc T hT => ?_, fun c hc c' hc' => ?_⟩
  · exact of_decide_eq_true (He.ba (List.all_eq_true.mp (He.ba (He.ba (h c hc)).2).1 T hT)).1
  · exact of_decide_eq_true (He.ba (List.all_eq_true.mp (He.ba (He.ba (h c hc)).2).1 T hT)).2
  · exact of_decide_eq_true (List.all_eq_true.mp (He.ba (He.ba (h c hc)).2).2 c' hc')
/-- an exception's class: asked by isinstance, made with its own __init__, its fields read -/
def excB (K : PySem.W.Frag) (C : Addr) : Bool := decide (PySem.W.findIn K (.ref C) "__getattribute__" = some (some (.builtin "BaseException.__getattribute__"))) && (decide (PySem.W.findIn K (.ref C) "__getattr__" = some none) && (decide (PySem.W.subIn K (.ref C) (.type "BaseException") = some true) && (PySem.W.hasDictIn K C &&
  (decide (PySem.W.findIn K (.ref C) "__class__" = some (some (.builtin "object.__class__"))) && (decide (PySem.W.specialIn K (.builtin "object.__class__") "__get__" = some (some (.builtin "getset_descriptor.__get__"))) &&
  (decide (PySem.W.takesIn K (.builtin "object.__class__") = some true) && (decide (PySem.W.mroIn K C (.type "object") = some true) && (PySem.W.clsIn K C).isSome)))))))
theorem excB_ok {K : PySem.W.Frag} {C : Addr} (h : excB K C = true) : ExcC K C ∧ (PySem.W.clsIn K C).isSome = true ∧ XfC K C := by
  obtain ⟨h1, h⟩ := He.ba h
  obtain ⟨h2, h⟩ := He.ba h
  obtain ⟨h3, h⟩ := He.ba h
  obtain ⟨h4, h⟩ := He.ba h
  obtain ⟨h5, h⟩ := He.ba h
  obtain ⟨h6, h⟩ := He.ba h
  obtain ⟨h7, h⟩ := He.ba h
  obtain ⟨h8, h9⟩ := He.ba h
  exact ⟨⟨of_decide_eq_true h1, of_decide_eq_true h2, of_decide_eq_true h3, h4, of_decide_eq_true h5, of_decide_eq_true h6, of_decide_eq_true h7, of_decide_eq_true h8⟩, h9, ⟨of_decide_eq_true h1, of_decide_eq_true h2, of_decide_eq_true h3, h4⟩⟩
def oexB (K : PySem.W.Frag) (C : Addr) : Bool := match K.lookup C with
  | some ⟨.type "type", _, .cls cd, sl⟩ => (match cd.mro, sl.toList with
    | .ref C' :: bm, [_, _, _, _, some (.builtin n), _] => C' == C && (n == "ValueError.__new__" && (cd.hasDict && (!cd.hasDel && PySem.HandSPX.refsVE bm)))
    | _, _ => false)
  | _ => false
theorem oexB_ok {K : PySem.W.Frag} {C : Addr} (q : oexB K C = true) : ∃ nm q N bs bm sn sub ab col dd k0 k1 k2 k3 k5, K.lookup C = some (excClassObj nm q C N bs bm true sn sub ab col dd k0 k1 k2 k3 k5 "ValueError.__new__") ∧ PySem.HandSPX.refsVE bm = true := by
  unfold oexB at q
  split at q
  · rename_i dd cd sl ho
    split at q
    · rename_i C' bm k0 k1 k2 k3 n k5 hm hs
      simp only [Bool.and_eq_true, beq_iff_eq, Bool.not_eq_true'] at q
      obtain ⟨rfl, rfl, hd, hdel, hr⟩ := q
      obtain ⟨nm, bs, mro, ns, qn, hd', sn, sub, ab, col, del⟩ := cd
      dsimp only at hm hdel hd
      subst hm hdel hd
      have hsl : sl = #[k0, k1, k2, k3, some (.builtin "ValueError.__new__"), k5] := by
        obtain ⟨l⟩ := sl
        simp only at hs
        rw [hs]
      subst hsl
      exact ⟨nm, qn, ns, bs, bm, sn, sub, ab, col, dd, k0, k1, k2, k3, k5, ho, hr⟩
    · cases q
  · cases q
def oexCB (K : PySem.W.Frag) (C : Addr) : Bool := oexB K C && (decide (PySem.W.findIn K (.ref C) "__setattr__" = some (some (.builtin "object.__setattr__"))) && (decide (PySem.W.subIn K (.ref C) (.type "BaseException") = some true) && (decide (PySem.W.typeIn K (.ref C) = some (.type "type")) && PySem.W.keepIn K (.ref C))))
theorem oexCB_ok {K : PySem.W.Frag} {C : Addr} (h : oexCB K C = true) : OexC K C := by
  obtain ⟨h1, h⟩ := He.ba h
  obtain ⟨h2, h⟩ := He.ba h
  obtain ⟨h3, h⟩ := He.ba h
  obtain ⟨h4, h5⟩ := He.ba h
  exact ⟨oexB_ok h1, of_decide_eq_true h2, of_decide_eq_true h3, of_decide_eq_true h4, h5⟩
/-- an exception's class with its own __init__ fI that keeps one field f -/
structure ExnC (K : PySem.W.Frag) (C fI : Addr) (f : Str) : Prop where
  e : ExcC K C
  c : (PySem.W.clsIn K C).isSome = true
  x : XfC K C
  o : OexC K C
  i : PySem.W.findIn K (.ref C) "__init__" = some (some (.ref fI))
  t : PySem.W.typeIn K (.ref fI) = some (.type "function")
  n : PySem.W.findIn K (.ref C) f = some none
def exnB (K : PySem.W.Frag) (C fI : Addr) (f : Str) : Bool := excB K C && (oexCB K C && (decide (PySem.W.findIn K (.ref C) "__init__" = some (some (.ref fI))) && (decide (PySem.W.typeIn K (.ref fI) = some (.type "function")) && decide (PySem.W.findIn K (.ref C) f = some none))))
theorem exnB_ok {K : PySem.W.Frag} {C fI : Addr} {f : Str} (h : exnB K C fI f = true) : ExnC K C fI f := by
  obtain ⟨h1, h⟩ := He.ba h
  obtain ⟨h2, h⟩ := He.ba h
  obtain ⟨h3, h⟩ := He.ba h
  obtain ⟨h4, h5⟩ := He.ba h
  obtain ⟨a, b, c⟩ := excB_ok h1
  exact ⟨a, b, c, oexCB_ok h2, of_decide_eq_true h3, of_decide_eq_true h4, of_decide_eq_true h5⟩
theorem ExnC.raises {X : Cx} {C fI : Addr} {f : Str} (h : ExnC X.K C fI f) : Raises X (.ref C) := raises_own h.o.exC h.o.tyC
def exmB (K : PySem.W.Frag) (G : CT) (l : List (Nat × Bool)) (cv : Value) : Bool := l.all fun p => decide (PySem.W.exmOne K (.ref (G p.1).1) cv = some p.2)
theorem exmB_ok {K : PySem.W.Frag} {G : CT} {l : List (Nat × Bool)} {cv : Value} (h : exmB K G l cv = true) : ∀ p ∈ l, PySem.W.exmOne K (.ref (G p.1).1) cv = some p.2 := fun p hp => of_decide_eq_true (List.all_eq_true.mp h p hp)
def kitB' (K : PySem.W.Frag) (G : CT) (l : List (Nat × Bool)) (cv : Value) : Bool := l.all fun p => decide (PySem.W.kitOne K (.ref (G p.1).1) cv = some p.2)
theorem kitB_ok {K : PySem.W.Frag} {G : CT} {l : List (Nat × Bool)} {cv : Value} (h : kitB' K G l cv = true) : ∀ p ∈ l, PySem.W.kitOne K (.ref (G p.1).1) cv = some p.2 := fun p hp => of_decide_eq_true (List.all_eq_true.mp h p hp)
/-- a class with its own ==, made with its own __init__ -/
structure EqC (K : PySem.W.Frag) (G : CT) (kn : List Nat) (c : Nat) (f : Addr) : Prop where
  h1 : ∀ T ∈ bts7, PySem.W.notFirst K (G c).1 (.type T) = true
  h2 : ∀ c' ∈ kn, PySem.W.notFirst K (G c).1 (.ref (G c').1) = true
  hs : PySem.W.findIn K (.ref (G c).1) "__eq__" = some (some (.ref f))
  hf : PySem.W.isFn K (.ref f) = true
  hne : PySem.W.findIn K (.ref (G c).1) "__ne__" = some (some (.builtin "object.__ne__"))
  hm : PySem.W.mroIn K (G c).1 (.type "object") = some true
def eqCB (K : PySem.W.Frag) (G : CT) (kn : List Nat) (c : Nat) (f : Addr) : Bool := (bts7.all fun T => PySem.W.notFirst K (G c).1 (.type T)) && ((kn.all fun c' => PySem.W.notFirst K (G c).1 (.ref (G c').1)) && (decide (PySem.W.findIn K (.ref (G c).1) "__eq__" = some (some (.ref f))) &&
  (PySem.W.isFn K (.ref f) && (decide (PySem.W.findIn K (.ref (G c).1) "__ne__" = some (some (.builtin "object.__ne__"))) && decide (PySem.W.mroIn K (G c).1 (.type "object") = some true)))))
theorem eqCB_ok {K : PySem.W.Frag} {G : CT} {kn : List Nat} {c : Nat} {f : Addr} (h : eqCB K G kn c f = true) : EqC K G kn c f := by
  obtain ⟨h1, h⟩ := He.ba h
  obtain ⟨h2, h⟩ := He.ba h
  obtain ⟨h3, h⟩ := He.ba h
  obtain ⟨h4, h⟩ := He.ba h
  obtain ⟨h5, h6⟩ := He.ba h
  exact ⟨List.all_eq_true.mp h1, List.all_eq_true.mp h2, of_decide_eq_true h3, h4, of_decide_eq_true h5, of_decide_eq_true h6⟩
section
variable {X : Cx} {G : Gs} {W : WX} {fa fb : M RV} {a b : Expr} {pos : Pos} {k : Nat} {f : Addr} {ps : List Str} {den : List SV → Cal} {kn : List Nat} {c0 : Nat}
theorem je_eqC (kk : KnOk X.K G.g kn) (hc : c0 ∈ kn) (q : EqC X.K G.g kn c0 f) (Z : Fk X.prog X.w X.K X.mg X.base f ps k (spD X.K G 2 den)) (hr : Room k X.A) (ha : JE X G W a fa) (hb : JE X G W b fb) : JE X G W (.Compare a [.Eq] [b] pos) (eOp2R (opEqO kn c0 den) fa fb) := (je_eqO kk hc q.h1 q.h2 q.hs q.hf Z hr ha hb).1
theorem jt_eqC (kk : KnOk X.K G.g kn) (hc : c0 ∈ kn) (q : EqC X.K G.g kn c0 f) (Z : Fk X.prog X.w X.K X.mg X.base f ps k (spD X.K G 2 den)) (hr : Room k X.A) (ha : JE X G W a fa) (hb : JE X G W b fb) : JT X G W (.Compare a [.Eq] [b] pos) (eB (eOp2R (opEqO kn c0 den) fa fb)) := (je_eqO kk hc q.h1 q.h2 q.hs q.hf Z hr ha hb).2
theorem je_neC (kk : KnOk X.K G.g kn) (hc : c0 ∈ kn) (q : EqC X.K G.g kn c0 f) (Z : Fk X.prog X.w X.K X.mg X.base f ps k (spD X.K G 2 den)) (hr : Room (k + 1) X.A) (ha : JE X G W a fa) (hb : JE X G W b fb) : JE X G W (.Compare a [.NotEq] [b] pos) (eOp2R (opNeO kn c0 den) fa fb) := (je_neO kk hc q.h1 q.h2 q.hs q.hf q.hne q.hm Z hr ha hb).1
theorem jt_neC (kk : KnOk X.K G.g kn) (hc : c0 ∈ kn) (q : EqC X.K G.g kn c0 f) (Z : Fk X.prog X.w X.K X.mg X.base f ps k (spD X.K G 2 den)) (hr : Room (k + 1) X.A) (ha : JE X G W a fa) (hb : JE X G W b fb) : JT X G W (.Compare a [.NotEq] [b] pos) (eB (eOp2R (opNeO kn c0 den) fa fb)) := (je_neO kk hc q.h1 q.h2 q.hs q.hf q.hne q.hm Z hr ha hb).2
end
def atB (K : PySem.W.Frag) (G : CT) (c j : Nat) (f : Str) : Bool := decide (PySem.W.findIn K (.ref (G c).1) f = some none) && (decide ((G c).2.Nodup) && decide ((G c).2[j]? = some f))
theorem atB_ok {K : PySem.W.Frag} {G : CT} {c j : Nat} {f : Str} {kn : List Nat} (kk : KnOk K G kn) (hc : c ∈ kn) (h : atB K G c j f = true) : AtOk K G c j f := by
  obtain ⟨h1, h⟩ := He.ba h
  obtain ⟨h2, h3⟩ := He.ba h
  exact ⟨(kk.ins c hc).cl, of_decide_eq_true (p := PySem.W.findIn K (.ref (G c).1) f = some none) h1, of_decide_eq_true h2, of_decide_eq_true h3⟩
def mkB (K : PySem.W.Frag) (C f : Addr) : Bool := PySem.W.makesIn K C && (decide (PySem.W.findIn K (.ref C) "__init__" = some (some (.ref f))) && (PySem.W.isFn K (.ref f) && PySem.W.keepIn K (.ref C)))
theorem mkB_ok {K : PySem.W.Frag} {C f : Addr} (h : mkB K C f = true) : Mk K C f := by
  obtain ⟨h1, h⟩ := He.ba h
  obtain ⟨h2, h⟩ := He.ba h
  obtain ⟨h3, h4⟩ := He.ba h
  exact ⟨h1, of_decide_eq_true h2, h3, h4⟩
def methB (K : PySem.W.Frag) (C : Addr) (m : Str) (f : Addr) : Bool := decide (PySem.W.findIn K (.ref C) m = some (some (.ref f))) && (PySem.W.isFn K (.ref f) && PySem.W.keepIn K (.ref f))
theorem methB_ok {K : PySem.W.Frag} {C f : Addr} {m : Str} (h : methB K C m f = true) : Meth K C m f := by
  obtain ⟨h1, h⟩ := He.ba h
  obtain ⟨h2, h3⟩ := He.ba h
  exact ⟨of_decide_eq_true h1, h2, h3⟩
/-- one of many facts -/
theorem xget {l : List Bool} (h : l.all id = true) (i : Nat) {b : Bool} (e : l[i]? = some b) : b = true := List.all_eq_true.mp h b (List.mem_of_getElem? e)
end Dl
namespace Dl
open PySem PySem.Spec PyProof.Rows L2

/-! ### a, b = x, y -/
def sPar (i j : Nat) (f : M (List D)) : M Out := bindM f fun ds => fun env => match ds with
  | [d, e] => .ok .nx ((env.set i (.imm d)).set j (.imm e))
  | _ => .stuck
section
variable {K : PySem.W.Frag} {G : Gs} {W : WX}
theorem sim_par {i j : Nat} {ta : TA} {f : M (List D)} (h : SimD K G W ta f) : SimS K G W (tPar i j ta) (sPar i j f) := fun F H σ env D ok w => by
  refine h F H σ env _ ok ((wantS_bind w).imp fun ds env1 F1 H1 o1 f1 k vs rs => ?_)
  obtain ⟨_, w1⟩ := k o1 f1
  cases rs with
  | nil => exact w1.elim
  | @cons v1 vs1 d1 ds1 r1 rs =>
    cases rs with
    | nil => exact w1.elim
    | @cons v2 vs2 d2 ds2 r2 rs =>
      cases rs with
      | cons _ _ => exact w1.elim
      | nil =>
        refine ⟨_, _, rfl, ?_⟩
        exact w1 F1 H1 _ ((o1.put (s := .imm d1) ⟨_, rfl, r1⟩ fun z => nomatch z).put (s := .imm d2) ⟨_, rfl, r2⟩ fun z => nomatch z) (f1.trans ((Fr.put (s := .imm d1) rfl fun z => nomatch z).trans (Fr.put (s := .imm d2) rfl fun z => nomatch z)))
end
section
variable {X : Cx} {G : Gs} {W : WX} {a b : Expr} {x y : Str} {px py pt pt2 pos : Pos} {kt k2 : Nat} {f : M (List D)}
theorem js_par (i j : Nat) (hc : X.calm = true) (hN : X.N.Nodup) (ha : JD X G W [a, b] f) (hi : X.N[i]? = some x := by rfl) (hj : X.N[j]? = some y := by rfl) (hij : i ≠ j := by decide) (hx : X.env.scope.names.lookup x = some .local := by rfl) (hy : X.env.scope.names.lookup y = some .local := by rfl)
    (hw : swappedStores [.Tuple [.Name x px, .Name y py] kt pt] (.Tuple [a, b] k2 pt2) X.env = pure (some [x, y]) := by rfl)
    (hs : swapsWithSole [.Tuple [.Name x px, .Name y py] kt pt] (.Tuple [a, b] k2 pt2) pos.line X.env = pure false := by rfl) :
    JS X G W (.Assign [.Tuple [.Name x px, .Name y py] kt pt] (.Tuple [a, b] k2 pt2) pos) (sPar i j f) := toS (ps_par hc hN hi hj hij hx hy ha hw hs) (sim_par sD)
end
/-! ### == of dicts too -/
def lookD (fs : List (Key × D)) (k : Key) : Option D := (fs.find? fun kv => decide (kv.1 = k)).map (·.2)
def eqDk (es fs : List (Key × D)) : Bool := decide (es.length = fs.length) && es.all fun p => match p.2.flat, (lookD fs p.1).bind D.flat with
  | some v, some v' => eqV v v' && decide (v = v')
  | _, _ => false
def eqA (d e : D) : Option Bool := match d with
  | .dk es => (match e with
    | .dk fs => if eqDk es fs = true then some true else none
    | _ => none)
  | _ => eqvD d e
def opEqA (d e : D) : Option RV := (eqA d e).map fun b => .imm (.bl b)
def opNeA (d e : D) : Option RV := (eqA d e).map fun b => .imm (.bl !b)
section
variable {K : PySem.W.Frag} {G : Gs}
theorem repK_len {F : Hp} : ∀ {ks : List (Key × V)} {es : List (Key × D)}, RepK K G.g F ks es → ks.length = es.length
  | _, _, .nil => rfl
  | _, _, .cons _ r => congrArg (· + 1) (repK_len r)
theorem repK_mem {F : Hp} {p : Key × V} : ∀ {ks : List (Key × V)} {es : List (Key × D)}, RepK K G.g F ks es → p ∈ ks → ∃ d, (p.1, d) ∈ es ∧ Rep K G.g F p.2 d
  | _, _, .cons h r, m => by
    rcases List.mem_cons.mp m with rfl | m
    · exact ⟨_, List.mem_cons_self, h⟩
    · obtain ⟨d, h1, h2⟩ := repK_mem r m
      exact ⟨d, List.mem_cons_of_mem _ h1, h2⟩
theorem repK_look {F : Hp} {k : Key} {d : D} : ∀ {ks : List (Key × V)} {es : List (Key × D)}, RepK K G.g F ks es → lookD es k = some d → ∃ v, valV ks k = some v ∧ Rep K G.g F v d
  | _, _, .nil, e => by cases e
  | _, _, .cons (k := k') (v := v') (d := d') (ds := ds') h r, e => by
    by_cases z : k' = k
    · subst z
      have : d' = d := by simpa [lookD, List.find?_cons] using e
      subst this
      exact ⟨_, valV_pos rfl, h⟩
    · have e' : lookD ds' k = some d := by simpa [lookD, List.find?_cons, z] using e
      obtain ⟨v, h1, h2⟩ := repK_look r e'
      exact ⟨v, by rw [valV_neg (by exact z)]; exact h1, h2⟩
theorem eqDk_ok {F H : Hp} {a b : V} {es fs : List (Key × D)} (s : Le F H) (pa : Pk K G.g F H a (.dk es)) (pb : Pk K G.g F H b (.dk fs)) (h : eqDk es fs = true) :
    ∃ a' b' ks ls, a = .ref a' ∧ b = .ref b' ∧ H a' = some (.dK ks) ∧ H b' = some (.dK ls) ∧ ks.length = ls.length ∧ (∀ p ∈ ks, valV ls p.1 = some p.2 ∧ flatB p.2 = true) := by
  cases pa with
  | rep ra =>
    cases ra with
    | @dk a' ks _ ha rra =>
      cases pb with
      | rep rb =>
        cases rb with
        | @dk b' ls _ hb rrb =>
          obtain ⟨h1, h2⟩ := Bool.and_eq_true_iff.mp h
          refine ⟨a', b', ks, ls, rfl, rfl, s _ _ ha, s _ _ hb, by rw [repK_len rra, repK_len rrb]; exact of_decide_eq_true h1, fun p hp => ?_⟩
          obtain ⟨d, hd, rd⟩ := repK_mem rra hp
          have q := List.all_eq_true.mp h2 _ hd
          cases e1 : d.flat with
          | none => simp only [e1] at q; cases q
          | some v =>
            cases e2 : lookD fs p.1 with
            | none => simp only [e1, e2] at q; cases q
            | some d' =>
              cases e3 : d'.flat with
              | none => simp only [e1, e2, Option.bind, e3] at q; cases q
              | some v' =>
                simp only [e1, e2, Option.bind, e3] at q
                obtain ⟨_, q2⟩ := Bool.and_eq_true_iff.mp q
                have ev : v = v' := of_decide_eq_true q2
                obtain ⟨u, hu, ru⟩ := repK_look rrb e2
                obtain ⟨g1, g2⟩ := flat_rep (H := H) (.rep rd) e1
                obtain ⟨g3, _⟩ := flat_rep (H := H) (.rep ru) e3
                refine ⟨by rw [hu, g1, g3, ev], ?_⟩
                rw [g1]
                cases d <;> cases e1 <;> rfl
theorem eqA_cases {d e : D} {b : Bool} (h : eqA d e = some b) : (∃ es fs, d = .dk es ∧ e = .dk fs ∧ eqDk es fs = true ∧ b = true) ∨ eqvD d e = some b := by
  cases d with
  | dk es =>
    cases e with
    | dk fs =>
      by_cases z : eqDk es fs = true
      · simp only [eqA, if_pos z] at h
        cases h
        exact .inl ⟨es, fs, rfl, rfl, z, rfl⟩
      · simp only [eqA, if_neg z] at h
        cases h
    | _ => cases h
  | _ => exact .inr h
theorem ok_eqA : OpOk K G (fun x y H Q => rEqD K x y H Q ∨ rEqDA x y H Q) opEqA := fun F H x y d e rv Q s px py ho q => by
  obtain ⟨b, hb, rfl⟩ := Option.map_eq_some_iff.mp ho
  rcases eqA_cases hb with ⟨es, fs, rfl, rfl, h, rfl⟩ | h
  · obtain ⟨a', b', ks, ls, h1, h2, h3, h4, h5, h6⟩ := eqDk_ok s px py h
    exact .inr ⟨a', b', ks, ls, h1, h2, h3, h4, h5, h6, here q s (.bl _)⟩
  · exact .inl (ok_eqD F H x y d e _ Q s px py (show opEqD d e = some _ by unfold opEqD; rw [h]; rfl) q)
theorem ok_neA : OpOk K G (fun x y H Q => rNeD K x y H Q ∨ rNeDA x y H Q) opNeA := fun F H x y d e rv Q s px py ho q => by
  obtain ⟨b, hb, rfl⟩ := Option.map_eq_some_iff.mp ho
  rcases eqA_cases hb with ⟨es, fs, rfl, rfl, h, rfl⟩ | h
  · obtain ⟨a', b', ks, ls, h1, h2, h3, h4, h5, h6⟩ := eqDk_ok s px py h
    exact .inr ⟨a', b', ks, ls, h1, h2, h3, h4, h5, h6, here q s (.bl _)⟩
  · exact .inl (ok_neD F H x y d e _ Q s px py (show opNeD d e = some _ by unfold opNeD; rw [h]; rfl) q)
end
section
variable {X : Cx} {G : Gs} {W : WX} {a b c : Expr} {fa fb fc : M RV} {pos : Pos}
theorem je_eqA (hu : X.A.units + 64 < cLine) (ha : JE X G W a fa) (hb : JE X G W b fb) : JE X G W (.Compare a [.Eq] [b] pos) (eOp2 opEqA fa fb) := toE (pe_cmpR ((op_eqD hu).or (op_eq_dictA (by omega))) ha hb (nomark _)) (sim_op2 ok_eqA sE sE)
theorem je_neA (hu : X.A.units + 64 < cLine) (ha : JE X G W a fa) (hb : JE X G W b fb) : JE X G W (.Compare a [.NotEq] [b] pos) (eOp2 opNeA fa fb) := toE (pe_cmpR ((op_neD hu).or (op_ne_dictA (by omega))) ha hb (nomark _)) (sim_op2 ok_neA sE sE)
theorem jt_eqA (hu : X.A.units + 64 < cLine) (ha : JE X G W a fa) (hb : JE X G W b fb) : JT X G W (.Compare a [.Eq] [b] pos) (eB (eOp2 opEqA fa fb)) := toT (pt_cmpR ((op_eqD hu).or (op_eq_dictA (by omega))) ha hb (nomark _)) (sim_test (sim_op2 ok_eqA sE sE))
theorem jt_neA (hu : X.A.units + 64 < cLine) (ha : JE X G W a fa) (hb : JE X G W b fb) : JT X G W (.Compare a [.NotEq] [b] pos) (eB (eOp2 opNeA fa fb)) := toT (pt_cmpR ((op_neD hu).or (op_ne_dictA (by omega))) ha hb (nomark _)) (sim_test (sim_op2 ok_neA sE sE))
end
end Dl
namespace Dl
open PySem PySem.Spec PyProof.Rows L2

/-! ### a call whose first argument is a new list, the callee's to change -/
def callF (n : Nat) (den : List SV → Cal) (xs : List D) (as : List AV) : M RV := fun env => if (alsOf as).Nodup ∧ as.length + 1 = n then match svsOf env as with
    | some svs => (match den (.brw xs :: svs) with
      | .ok r (_ :: us) => (match backs env as us with
        | some env' => .ok r env'
        | none => .stuck)
      | .err x (_ :: us) => (match backs env as us with
        | some env' => .err x env'
        | none => .stuck)
      | _ => .stuck)
    | none => .stuck
  else .stuck
def eCallF (n : Nat) (den : List SV → Cal) (fe : M RV) (fr : M (List AV)) : M RV := bindM fe fun r => match r with
  | .fresh xs => bindM fr fun as => callF n den xs as
  | _ => fun _ => .stuck
section
variable {K : PySem.W.Frag} {G : Gs} {W : WX}
theorem Ok.less {F H : Hp} {σ : L2.St} {env : Env} {p : Addr} (o : Ok K G F H σ env) (f : F p = none) (n : ¬ Own σ env p) : Ok K G F (L2.del H p) σ env :=
  ⟨fun a u e => by rw [del_ne (ne_of_none e f)]; exact o.sub a u e, o.len, fun i ov s h1 h2 => (o.slot i ov s h1 h2).mono Le.rfl fun a u eo m h3 h4 => ⟨by
    rw [del_ne fun z => n ⟨i, s, h2, m, by rw [h1, eo, z]⟩]; exact h3, h4⟩, o.inj⟩
theorem Fr.less {F H F1 H1 : Hp} {σ : L2.St} {env env1 : Env} {p : Addr} (f : Fr σ env F H σ env1 F1 H1) (h : H p = none) : Fr σ env F H σ env1 F1 (L2.del H1 p) :=
  ⟨f.sub, fun a o e n => by rw [del_ne (ne_of_none e h)]; exact f.keep a o e n, f.low, f.own, fun a e => by rw [del_ne fun z => e (by rw [z]; exact h)]; exact f.there a e, f.lent⟩
theorem sim_callF {n : Nat} {den : List SV → Cal} {te : TE} {ta : TA} {fe : M RV} {fa : M (List AV)} (he : SimE K G W te fe) (ha : SimA K G W ta fa) : SimE K G W (tCallS (spD K G n den) (WE W) (tCons te ta)) (eCallF n den fe fa) := fun F H σ env Q ok w => by
  refine he F H σ env _ ok ((want_raw w).imp fun rv env0 F0 H0 o0 f0 w0 v0 r0 => ?_)
  cases rv with
  | imm d => exact w0.elim
  | al i => exact w0.elim
  | fresh xs =>
  refine ha F0 H0 σ env0 _ o0 ((Want.from (want_raw2 w0) f0).imp fun as env1 F1 Hh o1h f1h w1 vs rs => ?_)
  obtain ⟨p, ws, rfl, hp, hpf, hp0, hpo, hpr⟩ := RvOk.mono r0 o0 o1h f1h
  have o1 := o1h.less hpf hpo
  have f1 := (f0.trans f1h).less hp0
  have hx : L2.del Hh p p = none := del_same
  unfold callF at w1
  by_cases ndn : (alsOf as).Nodup ∧ as.length + 1 = n
  · rw [if_pos ndn] at w1
    obtain ⟨nd, hn⟩ := ndn
    cases hs : svsOf env1 as with
    | none => simp only [hs] at w1; exact w1.elim
    | some svs =>
      simp only [hs] at w1
      obtain ⟨oa, own⟩ := call_args o1 rs nd hs
      have eH : upd (L2.del Hh p) p (.lst ws) = Hh := by
        funext b
        by_cases z : b = p
        · rw [z, upd_same, hp]
        · rw [upd_ne z, del_ne z]
      have hl1 : Le (L2.del Hh p) Hh := fun a u e => by
        rw [← eH, upd_ne (ne_of_none e hx)]; exact e
      have hx0 : ∀ {a : Addr} {o : HO}, L2.del Hh p a = some o → a ≠ p := fun e => ne_of_none e hx
      have o2 : Ok K G F1 Hh (((V.ref p) :: vs).map some) (.brw xs :: svs) := by
        refine ⟨o1h.sub, by simpa using oa.len, fun i o s h1 h2 => ?_, fun i j s t a h1 m1 h2 h3 m2 h4 => ?_⟩
        · cases i with
          | zero =>
            simp at h1 h2
            subst h1 h2
            exact ⟨p, ws, rfl, hp, hpf, hpr⟩
          | succ i => exact (oa.slot i o s (by simpa using h1) (by simpa using h2)).mono Le.rfl fun a u _ _ e1 e2 => ⟨hl1 a u e1, e2⟩
        · have low : ∀ {i : Nat} {s : SV}, svs[i]? = some s → s.mut = true → (vs.map some)[i]? = some (some (.ref p)) → False := fun {i s} h m e => oa.notOwn hx ⟨i, s, h, m, e⟩
          cases i with
          | zero =>
            cases j with
            | zero => rfl
            | succ j =>
              simp at h2
              subst h2
              exact (low (by simpa using h3) m2 (by simpa using h4)).elim
          | succ i =>
            cases j with
            | zero =>
              simp at h4
              subst h4
              exact (low (by simpa using h1) m1 (by simpa using h2)).elim
            | succ j => exact congrArg (· + 1) (oa.inj i j s t a (by simpa using h1) m1 (by simpa using h2) (by simpa using h3) m2 (by simpa using h4))
      have back : ∀ {F' H' : Hp} {u : SV} {us : List SV}, Ok K G F' H' (((V.ref p) :: vs).map some) (u :: us) → Fr (((V.ref p) :: vs).map some) (.brw xs :: svs) F1 Hh (((V.ref p) :: vs).map some) (u :: us) F' H' →
          Ok K G F' H' (vs.map some) us ∧ Fr (vs.map some) svs F1 (L2.del Hh p) (vs.map some) us F' H' := fun {F' H' u us} o' f' => by
        refine ⟨o'.tail, f'.sub, fun a o e n => f'.keep a o (hl1 a o e) fun z => ?_, fun a e n f => f'.low a ?_ (fun z => ?_) f, fun a z => ?_, fun a e => f'.there a ?_, fun i s h m => ?_⟩
        · rcases own_cons z with z | z
          · exact n z
          · cases z; exact hx0 e rfl
        · cases q : L2.del Hh p a with
          | none => exact absurd q e
          | some o => rw [hl1 a o q]; intro z; cases z
        · rcases own_cons z with z | z
          · exact n z
          · cases z; exact e hx
        · rcases f'.own a (own_tail z) with y | y
          · rcases own_cons y with y | y
            · exact .inl y
            · cases y; exact .inr hx
          · refine .inr ?_
            cases q : L2.del Hh p a with
            | none => rfl
            | some o => rw [hl1 a o q] at y; cases y
        · cases q : L2.del Hh p a with
          | none => exact absurd q e
          | some o => rw [hl1 a o q]; intro z; cases z
        · obtain ⟨e1, t, e2, e3⟩ := f'.lent (i + 1) s (by simpa using h) m
          exact ⟨by simpa using e1, t, by simpa using e2, e3⟩
      show spD K G n den (.ref p :: vs) Hh Q _
      refine ⟨F1, .brw xs :: svs, by simp [rs.length, hn], o2, ?_⟩
      cases e : den (.brw xs :: svs) with
      | ok rv us0 =>
        rw [e] at w1
        intro v F' H' o' f' rr na
        cases us0 with
        | nil => exact w1.elim
        | cons u us =>
          simp only at w1
          cases hb : backs env1 as us with
          | none => simp only [hb] at w1; exact w1.elim
          | some env' =>
            simp only [hb] at w1
            obtain ⟨k1, k2⟩ := back o' f'
            obtain ⟨k3, k4⟩ := call_back o1 rs nd hs hb k1 k2
            refine w1 F' H' k3 (f1.trans k4) v ?_
            cases rv with
            | imm d => exact rr
            | al i => exact (na i rfl).elim
            | fresh ys =>
              obtain ⟨p2, us2, ev, q1, q2, q3, q4, q5⟩ := rr
              have hd : L2.del Hh p p2 = none := by
                unfold L2.del
                split
                · rfl
                · exact q3
              exact ⟨p2, us2, ev, q1, q2, f1.new hd, back_notOwn (F' := F1) (H' := Hh) o1 nd hb hd, q5⟩
      | err xx us0 =>
        rw [e] at w1
        intro cls d F' H' o' f' xo
        cases us0 with
        | nil => exact w1.elim
        | cons u us =>
          simp only at w1
          cases hb : backs env1 as us with
          | none => simp only [hb] at w1; exact w1.elim
          | some env' =>
            simp only [hb] at w1
            obtain ⟨k1, k2⟩ := back o' f'
            obtain ⟨k3, k4⟩ := call_back o1 rs nd hs hb k1 k2
            exact w1 F' H' cls d k3 (f1.trans k4) xo
      | stuck => rw [e] at w1; exact w1.elim
  · rw [if_neg ndn] at w1; exact w1.elim
end
section
variable {X : Cx} {G : Gs} {W : WX} {e : Expr} {es : List Expr} {fe : M RV} {fr : M (List AV)} {pos p : Pos} {x : Str} {k n : Nat} {f : Addr} {ps : List Str} {den : List SV → Cal}
theorem je_callF (Z : Fk X.prog X.w X.K X.mg X.base f ps k (spD X.K G n den)) (hr : Room k X.A) (tk : Takes X W) (hm : X.mg x = some (.ref f)) (he : JE X G W e fe) (ha : JA X G W es fr) (hg : Gl X x)
    (hdb : (x == ("__debug__" : Str)) = false := by decide) (hs : starEach (e :: es) X.env = (false, eval e X.env) :: starEach es X.env := by rfl) (hpl : (backTo pos (starEach es X.env)).any (·.1) = false := by rfl) :
    JE X G W (.Call (.Name x p) (e :: es) [] pos) (eCallF n den fe fr) := by
  obtain ⟨fd, F, hb, _⟩ := Z.ex
  exact toE (pe_callS F hr hg hm Z.kp hb (passAt tk) (pa_cons he ha hs) hdb hs hpl) (sim_callF sE sA)
end
end Dl
namespace L2
open PySem PySem.Spec PyProof.Rows
section
variable {X : Cx}
/-- x in t, t a tuple of data of any depth -/
def rInDT (K : PySem.W.Frag) (neg : Bool) : R2 := fun x y H Q => ∃ d ds, Dp K H x d ∧ Dp K H y (.tuple ds) ∧ SeqAt.shaped d = true ∧ SeqAt.shaped (.tuple ds) = true ∧ Q (.bl (if neg then !(ds.any fun z => PyData.eqv z d) else ds.any fun z => PyData.eqv z d)) H
theorem op_inDT (hu : X.A.units + 65 < cLine) : OpR X (compareOp .In) (rInDT X.K false) := by
  intro pins s σ H x y v u Q I rx ry h
  obtain ⟨d, ds, hd, he, sd, se, q⟩ := h
  obtain ⟨as, r1⟩ := Dp.reads I d x v hd rx
  obtain ⟨bs, r2⟩ := Dp.reads I (.tuple ds) y u he ry
  exact SeqAt.in_tuple_reads r2 r1 (SeqAt.canLay_of_shaped se) (SeqAt.canLay_of_shaped sd) (room_in_shaped sd hu) ⟨.bl _, H, I, rfl, q⟩
theorem op_notInDT (hu : X.A.units + 65 < cLine) : OpR X (compareOp .NotIn) (rInDT X.K true) := by
  intro pins s σ H x y v u Q I rx ry h
  obtain ⟨d, ds, hd, he, sd, se, q⟩ := h
  obtain ⟨as, r1⟩ := Dp.reads I d x v hd rx
  obtain ⟨bs, r2⟩ := Dp.reads I (.tuple ds) y u he ry
  exact SeqAt.notIn_tuple_reads r2 r1 (SeqAt.canLay_of_shaped se) (SeqAt.canLay_of_shaped sd) (room_in_shaped sd hu) ⟨.bl _, H, I, rfl, q⟩
end
end L2
namespace Dl
open PySem PySem.Spec PyProof.Rows L2

/-! ### a op1 b op2 c -/
def eChain (op op' : D → D → Option RV) (fa fb fc : M RV) : M RV := bindM fa fun a => bindM fb fun b => bindM (op2M op a b) fun r => match r with
  | .imm (.bl true) => bindM fc fun c => op2M op' b c
  | .imm (.bl false) => retM (.imm (.bl false))
  | _ => fun _ => .stuck
section
variable {K : PySem.W.Frag} {G : Gs} {W : WX} {ta tb tc : TE} {fa fb fc : M RV}
theorem sim_chain {r r' : R2} {op op' : D → D → Option RV} (ho : OpOk K G r op) (ho' : OpOk K G r' op') (ha : SimE K G W ta fa) (hb : SimE K G W tb fb) (hc : SimE K G W tc fc) : SimE K G W (tChain r r' ta tb tc) (eChain op op' fa fb fc) := fun F H σ env Q ok w => by
  refine ha F H σ env _ ok ((want_bind w).imp fun a env1 F1 H1 o1 f1 k x rx => ?_)
  refine hb F1 H1 σ env1 _ o1 ((want_bind (k o1 f1)).imp fun b env2 F2 H2 o2 f2 k2 y ry => ?_)
  have w2 := k2 o2 f2
  unfold bindM op2M at w2
  cases e1 : peek env2 a with
  | none => simp only [e1] at w2; exact w2.elim
  | some d =>
    cases e2 : peek env2 b with
    | none => simp only [e1, e2] at w2; exact w2.elim
    | some e =>
      cases e3 : op d e with
      | none => simp only [e1, e2, e3] at w2; exact w2.elim
      | some rv =>
        simp only [e1, e2, e3] at w2
        have ra := rx.mono o1 o2 f2
        refine ho F2 H2 x y d e rv _ o2.sub (pk_of o2 ra e1) (pk_of o2 ry e2) e3 fun v F3 H3 g rd => ?_
        have o3 := o2.gr g
        have f3 : Fr σ env2 F2 H2 σ env2 F3 H3 := Fr.gr g
        cases rv with
        | fresh zs => exact w2.elim
        | al i => exact w2.elim
        | imm dd =>
          cases dd with
          | bl c =>
            cases (show Rep K G.g F3 v (.bl c) from rd)
            refine ⟨c, rfl, ?_⟩
            cases c with
            | false =>
              simp only [Bool.false_eq_true, if_false]
              exact w2 F3 H3 o3 f3 _ (.bl false)
            | true =>
              simp only [if_true]
              refine hc F3 H3 σ env2 _ o3 ((want_bind (Want.from w2 f3)).imp fun cc env4 F4 H4 o4 f4 k4 z rz => ?_)
              have w4 := k4 o4 f4
              unfold op2M at w4
              cases e4 : peek env4 b with
              | none => simp only [e4] at w4; exact w4.elim
              | some e' =>
                cases e5 : peek env4 cc with
                | none => simp only [e4, e5] at w4; exact w4.elim
                | some z' =>
                  cases e6 : op' e' z' with
                  | none => simp only [e4, e5, e6] at w4; exact w4.elim
                  | some rv' =>
                    simp only [e4, e5, e6] at w4
                    have rb := (ry.mono o2 o4 (f3.trans f4))
                    refine ho' F4 H4 y z e' z' rv' _ o4.sub (pk_of o4 rb e4) (pk_of o4 rz e5) e6 fun v' F5 H5 g' rd' => ?_
                    refine w4 F5 H5 (o4.gr g') (Fr.gr g') v' (RvD.ok o4 g' rd' fun a0 h0 => ?_)
                    exact (f1.trans (f2.trans (f3.trans f4))).new h0
          | _ => exact w2.elim
end
/-! ### in, nested -/
def inA (d e : D) : Option Bool := match d.toP, e.items.bind D.toPs with
  | some p, some ps => if SeqAt.shaped p = true ∧ SeqAt.shaped (.list ps) = true ∧ SeqAt.shaped (.tuple ps) = true then some (ps.any fun z => PyData.eqv z p) else none
  | _, _ => none
def opInA (d e : D) : Option RV := (inA d e).map fun b => .imm (.bl b)
def opNotInA (d e : D) : Option RV := (inA d e).map fun b => .imm (.bl !b)
section
variable {K : PySem.W.Frag} {G : Gs}
theorem inA_ok {F H : Hp} {x y : V} {d e : D} {b : Bool} (s : Le F H) (px : Pk K G.g F H x d) (py : Pk K G.g F H y e) (h : inA d e = some b) :
    ∃ p ps, Dp K H x p ∧ SeqAt.shaped p = true ∧ b = (ps.any fun z => PyData.eqv z p) ∧ ((Dp K H y (.list ps) ∧ SeqAt.shaped (.list ps) = true) ∨ (Dp K H y (.tuple ps) ∧ SeqAt.shaped (.tuple ps) = true)) := by
  unfold inA at h
  cases e1 : d.toP with
  | none => rw [e1] at h; cases h
  | some p =>
    cases e2 : e.items with
    | none => rw [e1, e2] at h; cases h
    | some ds =>
      rw [e1, e2] at h
      have h' : (match some p, D.toPs ds with
        | some p, some ps => if SeqAt.shaped p = true ∧ SeqAt.shaped (.list ps) = true ∧ SeqAt.shaped (.tuple ps) = true then some (ps.any fun z => PyData.eqv z p) else none
        | _, _ => none) = some b := h
      cases e3 : D.toPs ds with
      | none => rw [e3] at h'; cases h'
      | some ps =>
        rw [e3] at h'
        dsimp only at h'
        split at h'
        · rename_i hs
          cases h'
          refine ⟨p, ps, pk_dp s px e1, hs.1, rfl, ?_⟩
          cases e with
          | lst xs => cases e2; exact .inl ⟨pk_dp s py (show (D.lst ds).toP = _ by simp [D.toP, e3]), hs.2.1⟩
          | rol xs => cases e2; exact .inl ⟨pk_dp s py (show (D.rol ds).toP = _ by simp [D.toP, e3]), hs.2.1⟩
          | tup xs => cases e2; exact .inr ⟨pk_dp s py (show (D.tup ds).toP = _ by simp [D.toP, e3]), hs.2.2⟩
          | _ => cases e2
        · cases h'
theorem ok_inA : OpOk K G (fun x y H Q => rInD K x y H Q ∨ rInDT K false x y H Q) opInA := fun F H x y d e rv Q s px py ho q => by
  obtain ⟨b, hb, rfl⟩ := Option.map_eq_some_iff.mp ho
  obtain ⟨p, ps, h1, h2, rfl, h3 | h3⟩ := inA_ok s px py hb
  · exact .inl ⟨p, ps, h1, h3.1, h2, h3.2, here q s (.bl _)⟩
  · exact .inr ⟨p, ps, h1, h3.1, h2, h3.2, here q s (.bl _)⟩
theorem ok_notInA : OpOk K G (fun x y H Q => rNotInD K x y H Q ∨ rInDT K true x y H Q) opNotInA := fun F H x y d e rv Q s px py ho q => by
  obtain ⟨b, hb, rfl⟩ := Option.map_eq_some_iff.mp ho
  obtain ⟨p, ps, h1, h2, rfl, h3 | h3⟩ := inA_ok s px py hb
  · exact .inl ⟨p, ps, h1, h3.1, h2, h3.2, here q s (.bl _)⟩
  · exact .inr ⟨p, ps, h1, h3.1, h2, h3.2, here q s (.bl _)⟩
end
section
variable {X : Cx} {G : Gs} {W : WX} {a b c : Expr} {fa fb fc : M RV} {pos : Pos}
theorem je_inA {k : Nat} (hr : Room k X.A) (ha : JE X G W a fa) (hb : JE X G W b fb) (hm : behindInMarks .In b = false := by with_unfolding_all rfl) : JE X G W (.Compare a [.In] [b] pos) (eOp2 opInA fa fb) := toE (pe_cmpR ((op_inD (by have := hr.un; omega)).or (op_inDT (by have := hr.un; omega))) ha hb hm) (sim_op2 ok_inA sE sE)
theorem jt_inA {k : Nat} (hr : Room k X.A) (ha : JE X G W a fa) (hb : JE X G W b fb) (hm : behindInMarks .In b = false := by with_unfolding_all rfl) : JT X G W (.Compare a [.In] [b] pos) (eB (eOp2 opInA fa fb)) := toT (pt_cmpR ((op_inD (by have := hr.un; omega)).or (op_inDT (by have := hr.un; omega))) ha hb hm) (sim_test (sim_op2 ok_inA sE sE))
theorem je_notInA {k : Nat} (hr : Room k X.A) (ha : JE X G W a fa) (hb : JE X G W b fb) (hm : behindInMarks .NotIn b = false := by with_unfolding_all rfl) : JE X G W (.Compare a [.NotIn] [b] pos) (eOp2 opNotInA fa fb) := toE (pe_cmpR ((op_notInD (by have := hr.un; omega)).or (op_notInDT (by have := hr.un; omega))) ha hb hm) (sim_op2 ok_notInA sE sE)
theorem jt_notInA {k : Nat} (hr : Room k X.A) (ha : JE X G W a fa) (hb : JE X G W b fb) (hm : behindInMarks .NotIn b = false := by with_unfolding_all rfl) : JT X G W (.Compare a [.NotIn] [b] pos) (eB (eOp2 opNotInA fa fb)) := toT (pt_cmpR ((op_notInD (by have := hr.un; omega)).or (op_notInDT (by have := hr.un; omega))) ha hb hm) (sim_test (sim_op2 ok_notInA sE sE))
/-! chains of < and <= -/
def CmpI (X : Cx) (op : CmpOp) (o : D → D → Option RV) : Prop := ∃ r : R2, OpR X (compareOp op) r ∧ ∀ G : Gs, OpOk X.K G r o
theorem ci_lt : CmpI X .Lt opLt := ⟨_, op_lt, fun G => ok_lt⟩
theorem ci_le : CmpI X .LtE opLe := ⟨_, op_le, fun G => ok_le⟩
theorem ci_gt : CmpI X .Gt opGt := ⟨_, op_gt, fun G => ok_gt⟩
theorem ci_ge : CmpI X .GtE opGe := ⟨_, op_ge, fun G => ok_ge⟩
theorem je_chain {op op' : CmpOp} {o o' : D → D → Option RV} (h : CmpI X op o) (h' : CmpI X op' o') (ha : JE X G W a fa) (hb : JE X G W b fb) (hc : JE X G W c fc) (hm : lastMarks [op, op'] [b, c] = false := by with_unfolding_all rfl) :
    JE X G W (.Compare a [op, op'] [b, c] pos) (eChain o o' fa fb fc) := by
  obtain ⟨r, h1, h2⟩ := h
  obtain ⟨r', h1', h2'⟩ := h'
  exact toE (pe_chain h1 h1' ha hb hc hm) (sim_chain (h2 G) (h2' G) sE sE sE)
theorem jt_chain {op op' : CmpOp} {o o' : D → D → Option RV} (h : CmpI X op o) (h' : CmpI X op' o') (ha : JE X G W a fa) (hb : JE X G W b fb) (hc : JE X G W c fc) (hm : lastMarks [op, op'] [b, c] = false := by with_unfolding_all rfl) :
    JT X G W (.Compare a [op, op'] [b, c] pos) (eB (eChain o o' fa fb fc)) := by
  obtain ⟨r, h1, h2⟩ := h
  obtain ⟨r', h1', h2'⟩ := h'
  exact toT (pt_chain h1 h1' ha hb hc hm) (sim_test (sim_chain (h2 G) (h2' G) sE sE sE))
end
/-! ### slices -/
def cutD (xs : List D) (lo hi : Option Int) : List D := (xs.drop (HT.sIx xs.length 0 lo)).take (HT.sIx xs.length xs.length hi - HT.sIx xs.length 0 lo)
def opSl (d : D) (lo hi : Option Int) : Option RV := match d with
  | .lst xs => some (.fresh (cutD xs lo hi))
  | .rol xs => some (.fresh (cutD xs lo hi))
  | .tup xs => if HT.sIx xs.length 0 lo = 0 ∧ HT.sIx xs.length xs.length hi = xs.length then none else some (.imm (.tup (cutD xs lo hi)))
  | _ => none
/-- a part of a slice: left out, or a number -/
def pPart (f : Option (M RV)) : M (Option Int) := match f with
  | none => retM none
  | some f => bindM f fun r => fun env => match r with
    | .imm (.int i) => .ok (some i) env
    | _ => .stuck
def eSl (fe : M RV) (fl fh : Option (M RV)) : M RV := bindM fe fun r => bindM (pPart fl) fun l => bindM (pPart fh) fun h => fun env => match peek env r with
  | some d => (match opSl d l h with
    | some rv => .ok rv env
    | none => .stuck)
  | none => .stuck
def SimO (K : PySem.W.Frag) (G : Gs) (W : WX) (to : TO) (f : Option (M RV)) : Prop := ∀ F H σ env Q, Ok K G F H σ env → Want K G W σ env F H (pPart f env) (fun o _ _ H' => Q o H') → to σ H Q
section
variable {K : PySem.W.Frag} {G : Gs} {W : WX} {te : TE} {fe : M RV} {tl th : TO} {fl fh : Option (M RV)}
theorem simo_none : SimO K G W tNoPart none := fun F H σ env Q ok w => w F H ok Fr.refl
theorem simo_some (he : SimE K G W te fe) : SimO K G W (tPart te) (some fe) := fun F H σ env Q ok w => by
  refine he F H σ env _ ok ((want_bind w).imp fun r env1 F1 H1 o1 f1 k x rx => ?_)
  have w2 := k o1 f1
  cases r with
  | imm d =>
    cases d with
    | int i => cases (show Rep K G.g F1 x (.int i) from rx); exact ⟨i, rfl, w2 F1 H1 o1 Fr.refl⟩
    | _ => exact w2.elim
  | _ => exact w2.elim
theorem reps_cut {F : Hp} {vs : List V} {ds : List D} (r : Reps K G.g F vs ds) (lo hi : Option Int) : Reps K G.g F (cutV vs lo hi) (cutD ds lo hi) := by
  unfold cutV cutD
  rw [r.length]
  exact (r.drop _).take _
theorem sim_sl (he : SimE K G W te fe) (hl : SimO K G W tl fl) (hh : SimO K G W th fh) : SimE K G W (tSl (fun x lo hi H Q => rSlL K x lo hi H Q ∨ rSlT K x lo hi H Q) te tl th) (eSl fe fl fh) := fun F H σ env Q ok w => by
  refine he F H σ env _ ok ((want_bind w).imp fun rv env1 F1 H1 o1 f1 k x rx => ?_)
  refine hl F1 H1 σ env1 _ o1 ((want_bind (k o1 f1)).imp fun l env2 F2 H2 o2 f2 k2 => ?_)
  refine hh F2 H2 σ env2 _ o2 ((want_bind (k2 o2 f2)).imp fun h env3 F3 H3 o3 f3 k3 => ?_)
  have w3 := k3 o3 f3
  have r3 := rx.mono o1 o3 (f2.trans f3)
  cases e1 : peek env3 rv with
  | none => simp only [e1] at w3; exact w3.elim
  | some d =>
    simp only [e1] at w3
    have pk := pk_of o3 r3 e1
    have t : ∀ a, H3 a = none → H a = none := fun a h => (f1.trans (f2.trans f3)).new h
    cases d with
    | lst xs =>
      simp only [opSl] at w3
      obtain ⟨p, vs, rfl, h1, rr⟩ := pk.lst_ o3.sub rfl
      refine .inl ⟨p, vs, rfl, SqL.of h1, fun q hq => ?_⟩
      exact w3 _ _ (o3.apart hq) (Fr.apart hq) _ ⟨q, _, rfl, upd_same, o3.sub.none hq, t q hq, o3.notOwn hq, reps_cut rr l h⟩
    | rol xs =>
      simp only [opSl] at w3
      obtain ⟨p, vs, rfl, h1, rr⟩ := pk.rol_ o3.sub rfl
      refine .inl ⟨p, vs, rfl, h1, fun q hq => ?_⟩
      exact w3 _ _ (o3.apart hq) (Fr.apart hq) _ ⟨q, _, rfl, upd_same, o3.sub.none hq, t q hq, o3.notOwn hq, reps_cut rr l h⟩
    | tup xs =>
      simp only [opSl] at w3
      obtain ⟨p, vs, rfl, h1, rr⟩ := pk.tup_ o3.sub rfl
      split at w3
      · rename_i rv' eq
        split at eq
        · cases eq
        · rename_i hw
          cases eq
          refine .inr ⟨p, vs, rfl, h1, by rw [rr.length]; exact hw, fun q hq => ?_⟩
          exact w3 _ _ (o3.alloc hq) (Fr.alloc o3 hq) _ (.tup (SqT.of upd_same) ((reps_cut rr l h).mono (Le.upd (o3.sub.none hq))))
      · exact w3.elim
    | _ => simp only [opSl] at w3; exact w3.elim
end
section
variable {X : Cx} {G : Gs} {W : WX} {e : Expr} {fe : M RV} {pos p2 : Pos} {lo hi : Option Expr} {fl fh : Option (M RV)}
def JO (X : Cx) (G : Gs) (W : WX) (o : Option Expr) (f : Option (M RV)) : Prop := ∃ t, PO X o t ∧ SimO X.K G W t f
theorem jo_none : JO X G W none none := ⟨_, po_none, simo_none⟩
theorem jo_some (h : JE X G W e fe) : JO X G W (some e) (some fe) := ⟨_, po_some h, simo_some sE⟩
theorem je_slice (he : JE X G W e fe) (hl : JO X G W lo fl) (hh : JO X G W hi fh) : JE X G W (.Subscript e (.Slice lo hi none p2) pos) (eSl fe fl fh) := by
  obtain ⟨tl, h1, h2⟩ := hl
  obtain ⟨th, h3, h4⟩ := hh
  exact toE (pe_slice (sl_list.or sl_tup) he h1 h3) (sim_sl sE h2 h4)
end
end Dl
namespace Dl
open PySem PySem.Spec PyProof.Rows L2

/-! ### methods of a list that one holds -/
def eLm (i : Nat) (op : List D → List D → Option (List D × D)) (fa : M (List D)) : M RV := fun env => if isLst env[i]? = true then (match fa env with
  | .ok ds env1 => (match env1[i]? with
    | some (.own xs) => (match op xs ds with
      | some (ys, d) => .ok (.imm d) (env1.set i (.own ys))
      | none => .stuck)
    | some (.brw xs) => (match op xs ds with
      | some (ys, d) => .ok (.imm d) (env1.set i (.brw ys))
      | none => .stuck)
    | _ => .stuck)
  | .err x e => .err x e
  | .stuck => .stuck) else .stuck
def lmAppend (xs ds : List D) : Option (List D × D) := match ds with
  | [d] => if xs.length < LIM then some (xs ++ [d], .non) else none
  | _ => none
def lmInsert (xs ds : List D) : Option (List D × D) := match ds with
  | [.int i, d] => if xs.length < LIM ∧ 0 ≤ i ∧ i < 2 ^ 62 then some (xs.take i.toNat ++ [d] ++ xs.drop i.toNat, .non) else none
  | _ => none
def lmPop (xs ds : List D) : Option (List D × D) := match ds with
  | [] => (match xs[xs.length - 1]? with
    | some d => some (xs.dropLast, d)
    | none => none)
  | _ => none
def LmOk (K : PySem.W.Frag) (G : Gs) (r : V → List V → Hp → VK → Prop) (op : List D → List D → Option (List D × D)) : Prop := ∀ F H p vs xs ws ds ys d Q, H p = some (.lst vs) → Reps K G.g F vs xs → Reps K G.g F ws ds → op xs ds = some (ys, d) →
  (∀ v vs', Reps K G.g F vs' ys → Rep K G.g F v d → Q v (upd H p (.lst vs'))) → r (.ref p) ws H Q
section
variable {K : PySem.W.Frag} {G : Gs} {W : WX}
theorem ok_append : LmOk K G rAppend lmAppend := fun F H p vs xs ws ds ys d Q hp r1 r2 ho q => by
  match ds, r2, ho with
  | [e], .cons re .nil, ho =>
    unfold lmAppend at ho
    dsimp only at ho
    split at ho
    · rename_i hz
      cases ho
      exact ⟨p, vs, _, rfl, rfl, hp, lim_lt (by rw [r1.length]; exact Nat.le_of_lt hz), q _ _ (r1.append (.cons re .nil)) .non⟩
    · cases ho
theorem ok_insert : LmOk K G (fun x vs H Q => ∃ (l : Addr) (xs : List V) (i : Int) (y : V), x = .ref l ∧ vs = [.int i, y] ∧ H l = some (.lst xs) ∧ xs.length < sizeLine ∧ 0 ≤ i ∧ i < 2 ^ 63 ∧
    Q .non (upd H l (.lst (xs.take i.toNat ++ [y] ++ xs.drop i.toNat)))) lmInsert := fun F H p vs xs ws ds ys d Q hp r1 r2 ho q => by
  match ds, r2, ho with
  | [.int i, e], .cons (.int _) (.cons re .nil), ho =>
    unfold lmInsert at ho
    dsimp only at ho
    split at ho
    · rename_i hz
      cases ho
      have h62 : (2 : Int) ^ 62 < 2 ^ 63 := by decide
      exact ⟨p, vs, i, _, rfl, rfl, hp, lim_lt (by rw [r1.length]; exact Nat.le_of_lt hz.1), hz.2.1, by omega, q _ _ (((r1.take _).append (.cons re .nil)).append (r1.drop _)) .non⟩
    · cases ho
theorem ok_pop : LmOk K G rPop lmPop := fun F H p vs xs ws ds ys d Q hp r1 r2 ho q => by
  match ds, r2, ho with
  | [], .nil, ho =>
    unfold lmPop at ho
    dsimp only at ho
    split at ho
    · rename_i e he
      cases ho
      obtain ⟨v, hv, rv⟩ := r1.get' he
      refine ⟨p, vs, v, rfl, rfl, hp, by rw [r1.length]; exact hv, q _ _ ?_ rv⟩
      rw [List.dropLast_eq_take, List.dropLast_eq_take, r1.length]
      exact r1.take _
    · cases ho
theorem sim_lm {i : Nat} {r : V → List V → Hp → VK → Prop} {op : List D → List D → Option (List D × D)} {ta : TA} {fa : M (List D)} (ho : LmOk K G r op) (ha : SimD K G W ta fa) : SimE K G W (tBM K "list" r (tVar i) ta) (eLm i op fa) := fun F H σ env Q ok w => by
  unfold eLm at w
  by_cases hl : isLst env[i]? = true
  · rw [if_pos hl] at w
    obtain ⟨s, hs⟩ : ∃ s, env[i]? = some s := by
      cases e : env[i]? with
      | none => rw [e] at hl; cases hl
      | some s => exact ⟨s, rfl⟩
    have l : i < σ.length := by rw [ok.len]; exact (List.getElem?_eq_some_iff.mp hs).1
    have es : σ[i]? = some σ[i] := List.getElem?_eq_getElem l
    have q := ok.slot i _ s es hs
    obtain ⟨p, vs0, ep, hp0⟩ : ∃ p vs, σ[i] = some (.ref p) ∧ H p = some (.lst vs) := by
      rw [hs] at hl
      cases s with
      | own xs => obtain ⟨p, vs, e, h, _⟩ := q; exact ⟨p, vs, e, h⟩
      | brw xs => obtain ⟨p, vs, e, h, _⟩ := q; exact ⟨p, vs, e, h⟩
      | _ => cases hl
    rw [ep] at es
    refine ⟨.ref p, es, .inl ⟨rfl, vs0, SqL.of hp0⟩, ha F H σ env _ ok ?_⟩
    cases ef : fa env with
    | err x env1 => rw [ef] at w; exact w
    | stuck => rw [ef] at w; exact w.elim
    | ok ds env1 =>
      rw [ef] at w
      intro F1 H1 o1 f1 ws rws
      dsimp only at w
      cases e2 : env1[i]? with
      | none => rw [e2] at w; exact w.elim
      | some t =>
        rw [e2] at w
        have q2 := o1.slot i _ t es e2
        cases t with
        | own xs =>
          dsimp only at w
          obtain ⟨p', vs, ep', h1, h2, rr⟩ := q2
          cases ep'
          cases e3 : op xs ds with
          | none => rw [e3] at w; exact w.elim
          | some yd =>
            obtain ⟨ys, d⟩ := yd
            rw [e3] at w
            refine ho F1 H1 p vs xs ws ds ys d _ h1 rr rws e3 fun v vs' ry rd => ?_
            have sv : SvOk K G F1 (upd H1 p (.lst vs')) (some (.ref p)) (.own ys) := ⟨p, _, rfl, upd_same, h2, ry⟩
            exact w F1 _ (o1.change es e2 rfl rfl sv) (f1.trans (Fr.change o1 es e2 rfl rfl)) v rd
        | brw xs =>
          dsimp only at w
          obtain ⟨p', vs, ep', h1, h2, rr⟩ := q2
          cases ep'
          cases e3 : op xs ds with
          | none => rw [e3] at w; exact w.elim
          | some yd =>
            obtain ⟨ys, d⟩ := yd
            rw [e3] at w
            refine ho F1 H1 p vs xs ws ds ys d _ h1 rr rws e3 fun v vs' ry rd => ?_
            have sv : SvOk K G F1 (upd H1 p (.lst vs')) (some (.ref p)) (.brw ys) := ⟨p, _, rfl, upd_same, h2, ry⟩
            exact w F1 _ (o1.change es e2 rfl rfl sv) (f1.trans (Fr.change o1 es e2 rfl rfl)) v rd
        | _ => exact w.elim
  · rw [if_neg hl] at w; exact w.elim
end
section
variable {X : Cx} {G : Gs} {W : WX} {e : Expr} {es : List Expr} {fa : M (List D)} {x : Str} {p apos cpos : Pos} {r : V → List V → Hp → VK → Prop} {op : List D → List D → Option (List D × D)} {name : Str} {id : String}
theorem je_lm (i : Nat) (slot : Slot "list" name id) (hty : typeOf (.builtin id) = pure (.type "method_descriptor")) (hm : MtR X id r) (ho : LmOk X.K G r op) (ha : JD X G W (e :: es) fa)
    (hN : X.N[i]? = some x := by rfl) (hv : Vis X.env.scope x := by first | exact Or.inl rfl | exact Or.inr (Or.inl rfl) | exact Or.inr (Or.inr rfl)) (hd : (x == ("__debug__" : Str)) = false := by decide)
    (hcd : (x == ("__classdict__" : Str)) = false := by decide)
    (hbase : attributeBase (.Name x p) name X.env (eval (.Name x p) X.env) = eval (.Name x p) X.env := by rfl)
    (hfew : ((backTo cpos (starEach (e :: es) X.env)).all (fun x => !x.1) && (backToKw cpos (keywordEach [] X.env)).all (fun x => x.1.isSome)
      && decide ((e :: es).length + ([] : List Keyword).length + (if ([] : List Keyword).isEmpty then 0 else 1) < 30)) = true := by rfl)
    (hline : (apos.endLine == cpos.line) = true := by rfl) (hs : starEach (e :: es) X.env = (false, eval e X.env) :: starEach es X.env := by rfl) (hplain : (backTo cpos (starEach es X.env)).any (·.1) = false := by rfl) :
    JE X G W (.Call (.Attribute (.Name x p) name apos) (e :: es) [] cpos) (eLm i op fa) :=
  toE (pe_bm PySem.F.plainAttrs_list slot hty hm (pe_var hN hv hd hcd) ha hbase hfew hline hs hplain) (sim_lm ho sD)
theorem je_lm0 (i : Nat) (slot : Slot "list" name id) (hty : typeOf (.builtin id) = pure (.type "method_descriptor")) (hm : MtR X id r) (ho : LmOk X.K G r op)
    (hN : X.N[i]? = some x := by rfl) (hv : Vis X.env.scope x := by first | exact Or.inl rfl | exact Or.inr (Or.inl rfl) | exact Or.inr (Or.inr rfl)) (hd : (x == ("__debug__" : Str)) = false := by decide)
    (hcd : (x == ("__classdict__" : Str)) = false := by decide)
    (hbase : attributeBase (.Name x p) name X.env (eval (.Name x p) X.env) = eval (.Name x p) X.env := by rfl) (hline : (apos.endLine == cpos.line) = true := by rfl) :
    JE X G W (.Call (.Attribute (.Name x p) name apos) [] [] cpos) (eLm i op dNil) :=
  toE (pe_bm0 PySem.F.plainAttrs_list slot hty hm (pe_var hN hv hd hcd) hbase hline) (sim_lm (ta := tNil) ho sim_dnil)
end
/-! ### list comprehensions -/
section
variable {X : Cx} {G : Gs} {W : WX} {elt tg iter c : Expr} {scope : Scope} {own : List (Str × Nat)} {pos spos py : Pos} {fi : M (List D)} {g : D → M Unit} {ft : M Bool} {fe : M RV} {y : Str}
abbrev BlkX (X : Cx) (scope : Scope) (P : Cx → Prop) : Prop := ∀ (s : Shared) (H : Hp) (C : Addr) (cl : List (Str × Addr)) (fp : List Addr), P (X.blk s H scope (compEnvC scope cl C X.env) fp)
/-- a target of a comprehension: its own slots -/
structure JC (X : Cx) (G : Gs) (vs : List Nat) (scope : Scope) (tg : Expr) (t : TG) (g : D → M Unit) : Prop where
  p : BlkX X scope fun Y => PG Y tg t
  s : SimG X.K G t g
  o : OwnG t vs
  m : MonG t
structure JCs (X : Cx) (G : Gs) (vs : List Nat) (scope : Scope) (tg : List Expr) (t : TGs) (g : List D → M Unit) : Prop where
  p : BlkX X scope fun Y => PGs Y tg t
  s : SimGs X.K G t g
  o : OwnGs t vs
  m : MonGs t
def eYes : M Bool := retM true
theorem sim_yes {K : PySem.W.Frag} : SimT K G W tYes eYes := fun F H σ env Q ok w => w F H ok Fr.refl
theorem je_lc {t : TG} {vs : List Nat} (hc : X.calm = true) (hN : X.N.Nodup) (hi : JI X G W tg iter fi) (ok : BlkOk X.N X.env.scope scope own) (ev : own.map (·.2) = vs) (hg : JC X G vs scope tg t g)
    (he : BlkX X scope fun Y => JE Y G (fun _ _ _ _ => False) elt fe) (hs : ∀ x, foldedSetIterable iter X.env x = pure x := by intro _; rfl) : JE X G W (.ListComp elt [⟨tg, iter, [], 0⟩] scope pos) (eLc vs fi g eYes fe) := by
  subst ev
  exact toE (pe_lc (te := rdE X.K G (fun _ _ _ _ => False) fe) hc hN hi ok hg.p (fun _ _ _ _ _ => pts_nil) he hs) (sim_lc sI hg.s hg.o hg.m sim_yes sE)
theorem je_lcIf {t : TG} {vs : List Nat} (hc : X.calm = true) (hN : X.N.Nodup) (hi : JI X G W tg iter fi) (ok : BlkOk X.N X.env.scope scope own) (ev : own.map (·.2) = vs) (hg : JC X G vs scope tg t g) (hif : BlkX X scope fun Y => JT Y G (fun _ _ _ _ => False) c ft)
    (he : BlkX X scope fun Y => JE Y G (fun _ _ _ _ => False) elt fe) (hs : ∀ x, foldedSetIterable iter X.env x = pure x := by intro _; rfl) : JE X G W (.ListComp elt [⟨tg, iter, [c], 0⟩] scope pos) (eLc vs fi g ft fe) := by
  subst ev
  exact toE (pe_lc (te := rdE X.K G (fun _ _ _ _ => False) fe) (tt := rdT X.K G (fun _ _ _ _ => False) ft) hc hN hi ok hg.p (fun s H C cl fp => pts_one (hif s H C cl fp)) he hs) (sim_lc sI hg.s hg.o hg.m sT sE)
/-- name = [..], the whole on one line -/
theorem js_setLc {t : TG} {vs : List Nat} (i : Nat) (hc : X.calm = true) (hN : X.N.Nodup) (hi : JI X G W tg iter fi) (ok : BlkOk X.N X.env.scope scope own) (ev : own.map (·.2) = vs) (hg : JC X G vs scope tg t g)
    (he : BlkX X scope fun Y => JE Y G (fun _ _ _ _ => False) elt fe) (hy : X.N[i]? = some y := by rfl) (hyl : X.env.scope.names.lookup y = some .local := by rfl)
    (hsw : swapsWith (.ListComp elt [⟨tg, iter, [], 0⟩] scope pos) (some (.Name y py)) spos.line X.env = pure true := by rfl) (hs : ∀ x, foldedSetIterable iter X.env x = pure x := by intro _; rfl) :
    JS X G W (.Assign [.Name y py] (.ListComp elt [⟨tg, iter, [], 0⟩] scope pos) spos) (sAsg i (eLc vs fi g eYes fe)) := by
  subst ev
  exact toS (ps_setLc (te := rdE X.K G (fun _ _ _ _ => False) fe) hc hN hy hyl hsw hi ok hg.p (fun _ _ _ _ _ => pts_nil) he hs) (sim_asg (sim_lc sI hg.s hg.o hg.m sim_yes sE))
theorem js_setLcIf {t : TG} {vs : List Nat} (i : Nat) (hc : X.calm = true) (hN : X.N.Nodup) (hi : JI X G W tg iter fi) (ok : BlkOk X.N X.env.scope scope own) (ev : own.map (·.2) = vs) (hg : JC X G vs scope tg t g) (hif : BlkX X scope fun Y => JT Y G (fun _ _ _ _ => False) c ft)
    (he : BlkX X scope fun Y => JE Y G (fun _ _ _ _ => False) elt fe) (hy : X.N[i]? = some y := by rfl) (hyl : X.env.scope.names.lookup y = some .local := by rfl)
    (hsw : swapsWith (.ListComp elt [⟨tg, iter, [c], 0⟩] scope pos) (some (.Name y py)) spos.line X.env = pure true := by rfl) (hs : ∀ x, foldedSetIterable iter X.env x = pure x := by intro _; rfl) :
    JS X G W (.Assign [.Name y py] (.ListComp elt [⟨tg, iter, [c], 0⟩] scope pos) spos) (sAsg i (eLc vs fi g ft fe)) := by
  subst ev
  exact toS (ps_setLc (te := rdE X.K G (fun _ _ _ _ => False) fe) (tt := rdT X.K G (fun _ _ _ _ => False) ft) hc hN hy hyl hsw hi ok hg.p (fun s H C cl fp => pts_one (hif s H C cl fp)) he hs) (sim_asg (sim_lc sI hg.s hg.o hg.m sT sE))
end
end Dl
namespace PySem
open Sem (wp)
open AutoSeq1 (wpAny_loadPart')
section
variable {prog : Program} {w : World} {A : Around} {E : Value → Shared → Prop} {s : Shared}
theorem nextOf_tuple_item {it t : Addr} {i : Nat} {items} {x : Value} {Q : Value → Shared → Prop} (hit : s.heap.IsTupleIter it t i)
    (ht : s.heap.IsTuple t items) (hx : items[i]? = some x)
    (hQ : ∀ h', h'.IsTupleIter it t (i + 1) → Heap.SameBut it s.heap h' → Q x { s with heap := h' }) :
    wpAny (model prog w) A (Builtin.SmallTypes.nextOf (.ref it)) Q E s := by
  obtain ⟨o, ho, hc, hd⟩ := id hit
  obtain ⟨ol, hol, _, nl, hdl⟩ := ht
  unfold Builtin.SmallTypes.nextOf
  refine wpAny_bind (wpAny_callSpecial?_slot (name := Str.ofString "__next__") hit.typeIs F.slot_tuple_iterator_next
    (wpAny_call_entry F.slot_tuple_iterator_next hit.typeIs F.entry_tuple_iterator_next ?_ (F.args_tuple_iterator_next_1 _)))
  show wpAny _ _ (field (.ref it) 0 >>= _) _ _ s
  refine wpAny_bind (wpAny_field ho hd (x := .ref t) rfl ?_)
  show wpAny _ _ (if (Value.ref t == Value.none) = true then _ else _) _ _ s
  rw [if_neg (show ¬ ((Value.ref t == Value.none) = true) from Bool.false_ne_true)]
  show wpAny _ _ (field (.ref it) 1 >>= _) _ _ s
  refine wpAny_bind (wpAny_field ho hd (x := .int i 0) rfl ?_)
  show wpAny _ _ (seqItems? (.ref t) >>= _) _ _ s
  refine wpAny_bind (wpAny_seqItems hol hdl ?_)
  simp only [Int.toNat_natCast, hx]
  refine wpAny_bind (wpAny_setField ho hd (by simp) (wpAny_pure ⟨x, rfl, wpAny_pure (hQ _ ?_ (Heap.SameBut.update ..))⟩))
  exact ⟨_, Heap.get?_update_self _ ho (Obj.isFreed_of_fields (Obj.data_mapFields hd _)), (Obj.cls_mapFields ..).trans hc, by
    rw [Obj.data_mapFields hd]; simp [rawInt]⟩
theorem nextOf_tuple_end {it t : Addr} {i : Nat} {items} {Q : Value → Shared → Prop} (hh : A.handled = none)
    (hit : s.heap.IsTupleIter it t i) (ht : s.heap.IsTuple t items) (hx : items[i]? = none)
    (hE : ∀ h' e, Heap.ExtBut it s.heap h' → (∃ o, h'.get? e = some o ∧ o.cls = .type "StopIteration") → E (.ref e) { s with heap := h' }) :
    wpAny (model prog w) A (Builtin.SmallTypes.nextOf (.ref it)) Q E s := by
  obtain ⟨o, ho, hc, hd⟩ := id hit
  obtain ⟨ol, hol, _, nl, hdl⟩ := ht
  unfold Builtin.SmallTypes.nextOf
  refine wpAny_bind (wpAny_callSpecial?_slot (name := Str.ofString "__next__") hit.typeIs F.slot_tuple_iterator_next
    (wpAny_call_entry F.slot_tuple_iterator_next hit.typeIs F.entry_tuple_iterator_next ?_ (F.args_tuple_iterator_next_1 _)))
  show wpAny _ _ (field (.ref it) 0 >>= _) _ _ s
  refine wpAny_bind (wpAny_field ho hd (x := .ref t) rfl ?_)
  show wpAny _ _ (if (Value.ref t == Value.none) = true then _ else _) _ _ s
  rw [if_neg (show ¬ ((Value.ref t == Value.none) = true) from Bool.false_ne_true)]
  show wpAny _ _ (field (.ref it) 1 >>= _) _ _ s
  refine wpAny_bind (wpAny_field ho hd (x := .int i 0) rfl ?_)
  show wpAny _ _ (seqItems? (.ref t) >>= _) _ _ s
  refine wpAny_bind (wpAny_seqItems hol hdl ?_)
  simp only [Int.toNat_natCast, hx]
  refine wpAny_bind (wpAny_rule (wpAny_bind (wpAny_setField ho hd (by simp) ?_)))
  show wpAny _ _ (newExc (.type "StopIteration") [] >>= _) _ _ _
  refine wpAny_bind ?_
  simp only [newExc, newTuple]
  refine wpAny_bind (wpAny_newObj_type ?_ (by size_fits))
  refine wpAny_bind (m := firstArgMember _ _) (wpAny_of_eq (a := Value.none) (by first | rfl | (simp only [firstArgMember]; rfl)) ?_)
  refine wpAny_newObj_type ?_ (by size_fits)
  simp only [raiseNew]
  refine wpAny_bind (wpAny_handled ?_)
  first | rw [show A.in1.handled = none from hh] | rw [hh]
  refine wpAny_bind (wpAny_pure (wpAny_throw ?_))
  exact hE _ _ (((Heap.SameBut.update ..).extBut.push _).push _) ⟨_, Heap.get?_push_size _ rfl, rfl⟩
end
theorem drawsTuple {prog : Program} {w : World} {A : Around} (hh : A.handled = none) (it l : Addr) (hne : l ≠ it) (items : Array Value) :
    Draws prog w A it [it, l] items.size (fun i v => items[i]? = some v) (fun i h => h.IsTupleIter it l i ∧ h.IsTuple l items) where
  live := fun _ _ st => let ⟨o, ho, _⟩ := st.1; ⟨o, ho⟩
  frame := fun _ _ _ st hk => ⟨let ⟨o, e, r⟩ := st.1; ⟨o, hk it (by simp) o e, r⟩, let ⟨o, e, r⟩ := st.2; ⟨o, hk l (by simp) o e, r⟩⟩
  item := fun i s Q E hi st hQ => by
    refine nextOf_tuple_item st.1 st.2 (x := items[i]) (by simp [hi]) fun h' hit' hs' => ?_
    exact hQ _ h' s.toks (by simp [hi]) ⟨hit', st.2.extBut hs'.extBut hne⟩ hs'
  done := fun s Q E st hE => nextOf_tuple_end hh st.1 st.2 (by simp) hE
theorem wpAny_pyNext_enum_endT {prog : Program} {w : World} {A : Around} {E : Value → Shared → Prop} {s : Shared} {e it l : Addr} {i : Nat} {items : Array Value} {old : Value} {Q : Option Value → Shared → Prop} (hh : A.handled = none)
    (he : IsEnum s.heap e it i old) (hit : s.heap.IsTupleIter it l i) (hl : s.heap.IsTuple l items) (hx : items[i]? = none) (hQ : ∀ h', Heap.ExtBut it s.heap h' → Q none { s with heap := h' }) : wpAny (model prog w) A (pyNext (.ref e)) Q E s := by
  have hT : s.TypeIs (.ref e) "enumerate" := ⟨_, he, rfl⟩
  unfold pyNext
  refine wpAny_bind (wpAny_attempt (wpAny_callSpecial?_slot (name := Str.ofString "__next__") hT F.slot_enumerate_next
    (wpAny_call_entry F.slot_enumerate_next hT F.entry_enumerate_next ?_ (F.args_enumerate_next_1 _))))
  show wpAny _ _ (field (.ref e) 2 >>= _) _ _ _
  refine wpAny_bind (wpAny_field he rfl (x := .ref it) rfl ?_)
  refine wpAny_bind (nextOf_tuple_end (A := A.in1) hh hit hl hx fun h' x he' hx' => ?_)
  obtain ⟨o, ho, hc⟩ := hx'
  refine wpAny_bind (wpAny_isInstance (T := "StopIteration") (b := true) ⟨o, ho, hc⟩ isSubtype_stop ?_)
  exact wpAny_pure (hQ _ he')
theorem meets_enumerate_newT (l : Addr) (items : Array Value) (n : Nat) (dct : Option Addr) (sl : Array (Option Value)) :
    Meets (Builtin.«enumerate.__new__» ⟨[.type "enumerate", .ref l], []⟩) (fun _ R s => s.heap.get? l = some { cls := .type "tuple", dict := dct, data := .seq items n, slots := sl } ∧
      R (.ok (.ret (.ref (s.heap.push { cls := .type "tuple_iterator", data := .fields #[.ref l, .int 0 0] }).objs.size)))
        { s with heap := (s.heap.push { cls := .type "tuple_iterator", data := .fields #[.ref l, .int 0 0] }).push { cls := .type "enumerate", data := .fields #[.none, .bool false, .ref s.heap.objs.size, rawInt 0, .none, .none] } }) :=
  .of_wp fun prog w A R s h => by
    obtain ⟨hp, g, d, tk, os⟩ := s; obtain ⟨hl, h⟩ := h
    have hsub := sub_enumerate
    have hL : Heap.IsTuple (Shared.heap ⟨hp, g, d, tk, os⟩) l items := ⟨_, hl, rfl, n, rfl⟩
    wp_walk using wpAny_loadPart' hl
    refine wpAny_stack_any fun st => wpAny_pure ?_
    split
    · rename_i c _ _ _ _ _
      cases (c == Value.type "enumerate")
      · wp_walk using wpAny_loadPart' hl, wpAny_pyIter_tuple hL
        exact ⟨_, rfl, h⟩
      · wp_walk using wpAny_loadPart' hl, wpAny_pyIter_tuple hL
        exact ⟨_, rfl, h⟩
    · wp_walk using wpAny_loadPart' hl, wpAny_pyIter_tuple hL
      exact ⟨_, rfl, h⟩
theorem call_enumerate_tuple {prog : Program} {w : World} {A : Around} {E : Value → Shared → Prop} {s : Shared} {l : Addr} {items : Array Value} {Q : Value → Shared → Prop} (hL : s.heap.IsTuple l items)
    (h : ∀ h', IsEnum h' (s.heap.objs.size + 1) s.heap.objs.size 0 .none → h'.IsTupleIter s.heap.objs.size l 0 → h'.objs.size = s.heap.objs.size + 2 →
      (∀ b o, s.heap.get? b = some o → h'.get? b = some o) → Q (.ref (s.heap.objs.size + 1)) { s with heap := h' }) :
    wpAny (model prog w) A (call (.type "enumerate") [.ref l]) Q E s := by
  obtain ⟨⟨c, dct, dt, sl⟩, hl, hc, n, hd⟩ := hL
  replace hc : c = .type "tuple" := hc
  replace hd : dt = .seq items n := hd
  subst hc hd
  refine callType_new F.called_enumerate (by decide) (F.typeCall_enumerate_1 _) (F.newCall_enumerate_1 _) (fun obj => F.args_object_init_2 obj _) F.entry_enumerate_new
    (meets_enumerate_newT l items n dct sl) ⟨hl, ?_⟩
  have hz : (s.heap.push { cls := .type "tuple_iterator", data := .fields #[.ref l, .int 0 0] }).objs.size = s.heap.objs.size + 1 := Heap.size_push ..
  show _ ∧ _
  rw [hz]
  have he : IsEnum ((s.heap.push { cls := .type "tuple_iterator", data := .fields #[.ref l, .int 0 0] }).push
      { cls := .type "enumerate", data := .fields #[.none, .bool false, .ref s.heap.objs.size, rawInt 0, .none, .none] }) (s.heap.objs.size + 1) s.heap.objs.size 0 .none := by
    have := Heap.get?_push_size (s.heap.push { cls := .type "tuple_iterator", data := .fields #[.ref l, .int 0 0] })
      (o := { cls := .type "enumerate", data := .fields #[.none, .bool false, .ref s.heap.objs.size, rawInt 0, .none, .none] }) rfl
    rw [hz] at this; exact this
  refine ⟨⟨_, he, rfl⟩, h _ he ⟨_, Heap.get?_push_of_some _ (Heap.get?_push_size _ rfl), rfl, rfl⟩ (by rw [Heap.size_push, hz]) fun b o x => Heap.get?_push_of_some _ (Heap.get?_push_of_some _ x)⟩
end PySem
namespace L2
open PySem PySem.Spec PyProof.Rows
/-- the tuple at a, each item in a new pair -/
def Itet (K : PySem.W.Frag) (a : Addr) : It :=
  ⟨fun i H => ∃ (xs : List V) (x : V), SqT K H a xs ∧ xs[i]? = some x, fun i H v H' => ∃ T x, v = .ref T ∧ H T = none ∧ H' = upd H T (.tup [.int (i : Nat), x]) ∧ ∀ xs, SqT K H a xs → xs[i]? = some x, fun i H => ∃ xs : List V, SqT K H a xs ∧ xs.length ≤ i⟩
theorem turn_enumT {P : Program} {w : World} {K : PySem.W.Frag} {elts : List Expr} {kk : Nat} {tpos : Pos} (a e it : Addr) :
    Turn P w K (.Tuple elts kk tpos) (Itet K a) [e, it] e (fun i h => (∃ old, IsEnum h e it ((i : Nat) : Int) old) ∧ h.IsTupleIter it a i ∧ e ≠ it ∧ a ≠ it ∧ a ≠ e) where
  mem := by simp
  obj := fun i h st b hb => by
    obtain ⟨⟨old, he⟩, ⟨o, ho, hc, hd⟩, _⟩ := st
    have e' : b = e ∨ b = it := by simpa using hb
    rcases e' with z | z
    · rw [z]; exact ⟨_, he, fun v q => nomatch q⟩
    · rw [z]; exact ⟨o, ho, fun v q => by rw [hd] at q; cases q⟩
  keep := fun i h h' st k => let ⟨⟨old, he⟩, ⟨o, ho, r⟩, hne⟩ := st; ⟨⟨old, k e (by simp) _ he⟩, ⟨o, k it (by simp) o ho, r⟩, hne⟩
  item := by
    intro X hP hw hK hc i pins s σ H E I hf st hg
    subst hP hw hK
    obtain ⟨⟨old, he⟩, hit, hne, hai, hae⟩ := st
    obtain ⟨xs, x, hq, hx⟩ := hg
    obtain ⟨its, rv, p, hz⟩ := I.tuple hq
    obtain ⟨u, hu, ru⟩ := rv.get hx
    have hel : e < s.heap.objs.size := Heap.lt_size he
    have hil : it < s.heap.objs.size := by obtain ⟨_, q, _⟩ := hit; exact Heap.lt_size q
    have hlt : i < its.toArray.size := by
      have := (List.getElem?_eq_some_iff.mp hu).1
      simpa using this
    refine wpAny_pyNext_enum_itemD (drawsTuple (A := X.A.in1) (I.ok.hd hc) it a hai its.toArray) he ⟨hit, p⟩ hlt hne (by simp [hne, Ne.symm hae]) fun y h' tk hy ho hit' hT hsz hk => ?_
    have ey : y = u := by
      have hy' : its[i]? = some y := by simpa using hy
      rw [hu] at hy'
      exact (Option.some.inj hy').symm
    subst ey
    refine ⟨_, rfl, wpAny_letOwnedTupleGo_enum (s := { s with heap := h', toks := tk + 1 }) ho fun h'' he' sb => ?_⟩
    have hT2 : h''.get? s.heap.objs.size = some { cls := .type "tuple", data := .seq #[.int i tk, y] } := (sb.2 _ (Nat.ne_of_gt hel)).trans hT
    have new : ObjOk X.prog X.w (upd H s.heap.objs.size (.tup [.int (i : Nat), x])) h'' s.heap.objs.size (.tup [.int (i : Nat), x]) :=
      ⟨by show 2 ≤ sizeLine; decide, [.int i tk, y], .cons ⟨_, rfl⟩ (.cons ru .nil), ⟨_, hT2, rfl, _, rfl⟩⟩
    have I1 : Inv X pins σ (upd H s.heap.objs.size (.tup [.int (i : Nat), x])) { s with heap := h'', toks := tk + 1 } :=
      I.turnedNew (ch := [e, it]) (fun b ob hb q => (sb.2 b (fun z => hb (by simp [z]))).trans (hk b ob (fun z => hb (by simp [z])) (fun z => hb (by simp [z])) q)) hf (Nat.le_refl _) new
    refine ⟨.ref s.heap.objs.size, _, I1, rfl, ⟨_, x, rfl, I.hok.fresh (Nat.le_refl _), rfl, fun ys hy => by rw [I.tuple_inj hy hq]; exact hx⟩, ⟨⟨y, ?_⟩, ?_, hne, hai, hae⟩, fun b hb => ?_⟩
    · have e1 : ((i + 1 : Nat) : Int) = (i : Int) + 1 := by omega
      rw [e1]; exact he'
    · obtain ⟨o, q, r⟩ := hit'.1
      exact ⟨o, (sb.2 it (Ne.symm hne)).trans q, r⟩
    · have hb' : b < s.heap.objs.size := by
        have e' : b = e ∨ b = it := by simpa using hb
        rcases e' with z | z
        · rw [z]; exact hel
        · rw [z]; exact hil
      rw [upd_ne (Nat.ne_of_lt hb')]
      exact (hf b hb).1
  done := by
    intro X hP hw hK hc i pins s σ H E I hf st hg
    subst hP hw hK
    obtain ⟨⟨old, he⟩, hit, hne, hai, hae⟩ := st
    obtain ⟨xs, hq, hx⟩ := hg
    obtain ⟨its, rv, p, hz⟩ := I.tuple hq
    obtain ⟨f0, f1, f2, f3, f4, f5⟩ := hf it (by simp)
    have hl := rv.length
    refine wpAny_pyNext_enum_endT (I.ok.hd hc) he hit p (by simp; omega) fun h' eb => ⟨rfl, I.turned (t' := s.toks) (fun b o hb q => eb b o hb q) f0 f1 f3 f4 f5⟩
  self := fun A i s Q E st h => let ⟨⟨_, he⟩, _⟩ := st; wpAny_pyIter_enum he h
end L2
namespace L2
open PySem PySem.Spec PyProof.Rows
theorem boot_enum : bootBuiltins "enumerate" = some (.type "enumerate") := by decide +kernel
/-- enumerate(x), x a list or a tuple -/
def iEnumS (K : PySem.W.Frag) (ta : TA) : TI := fun σ H R => ta σ H fun vs H1 => ∃ a, vs = [.ref a] ∧ (((∃ xs, SqL K H1 a xs) ∧ R (Ite K a) H1) ∨ ((∃ xs, SqT K H1 a xs) ∧ R (Itet K a) H1))
theorem pi_enumS {X : Cx} {e : Expr} {ta : TA} {p pos tpos : Pos} {elts : List Expr} {kk : Nat} (hg : Gl X "enumerate") (hm : X.mg "enumerate" = none) (ha : PA X [e] ta) (hs : starEach [e] X.env = [(false, eval e X.env)] := by rfl) :
    PI X (.Tuple elts kk tpos) (.Call (.Name "enumerate" p) [e] [] pos) (iEnumS X.K ta) := by
  refine ⟨fun pins s σ H R I h => ?_⟩
  refine Call_ (ld_blt I hg hm boot_enum (PyProof.Rows.callWith_type1 (thn (ha.run pos pins s σ H _ I h) fun us s1 ⟨vs, H1, I1, r1, q1⟩ => ?_) hs rfl))
  obtain ⟨a, ex, ⟨⟨xs, hq⟩, q⟩ | ⟨⟨xs, hq⟩, q⟩⟩ := q1
  · subst ex
    cases r1 with
    | cons r rr =>
      cases rr
      cases r
      obtain ⟨its, rv, p', hz⟩ := I1.list hq
      refine call_enumerate_list p'.isList fun h' he hit hsz hk => wpAny_pyIter_enum he ?_
      have I2 : Inv X pins σ H1 { s1 with heap := h' } := I1.kept (t' := s1.toks) hk
      refine ⟨s1.heap.objs.size + 1, [s1.heap.objs.size + 1, s1.heap.objs.size], _, _, H1, rfl, I2, turn_enum a (s1.heap.objs.size + 1) s1.heap.objs.size, ⟨⟨.none, he⟩, hit, Nat.succ_ne_self _⟩, fun b hb => ?_, q⟩
      have e' : b = s1.heap.objs.size + 1 ∨ b = s1.heap.objs.size := by simpa using hb
      have hle : s1.heap.objs.size ≤ b := by
        rcases e' with z | z
        · rw [z]; exact Nat.le_add_right _ _
        · rw [z]; exact Nat.le_refl _
      exact I1.fpOk hle (I1.hok.fresh hle)
  · subst ex
    cases r1 with
    | cons r rr =>
      cases rr
      cases r
      obtain ⟨its, rv, p', hz⟩ := I1.tuple hq
      have hlt : a < s1.heap.objs.size := by
        obtain ⟨o, e, _⟩ := p'
        exact Heap.lt_size e
      refine call_enumerate_tuple p' fun h' he hit hsz hk => wpAny_pyIter_enum he ?_
      have I2 : Inv X pins σ H1 { s1 with heap := h' } := I1.kept (t' := s1.toks) hk
      refine ⟨s1.heap.objs.size + 1, [s1.heap.objs.size + 1, s1.heap.objs.size], _, _, H1, rfl, I2, turn_enumT a (s1.heap.objs.size + 1) s1.heap.objs.size, ⟨⟨.none, he⟩, hit, Nat.succ_ne_self _, Nat.ne_of_lt hlt, Nat.ne_of_lt (Nat.lt_succ_of_lt hlt)⟩, fun b hb => ?_, q⟩
      have e' : b = s1.heap.objs.size + 1 ∨ b = s1.heap.objs.size := by simpa using hb
      have hle : s1.heap.objs.size ≤ b := by
        rcases e' with z | z
        · rw [z]; exact Nat.le_add_right _ _
        · rw [z]; exact Nat.le_refl _
      exact I1.fpOk hle (I1.hok.fresh hle)
end L2
namespace Dl
open PySem PySem.Spec PyProof.Rows L2
/-! ### a for over a name: the list that one holds stays one's own -/
def enumD : Nat → List D → List D
  | _, [] => []
  | k, d :: ds => .tup [.int k, d] :: enumD (k + 1) ds
theorem enumD_get : ∀ {k i : Nat} {ds : List D} {e : D}, (enumD k ds)[i]? = some e → ∃ d, ds[i]? = some d ∧ e = .tup [.int (k + i : Nat), d]
  | _, _, [], _, h => by simp [enumD] at h
  | k, 0, d :: ds, e, h => by
    simp [enumD] at h
    exact ⟨d, rfl, h.symm⟩
  | k, i + 1, d :: ds, e, h => by
    have h' : (enumD (k + 1) ds)[i]? = some e := by simpa [enumD] using h
    obtain ⟨d', h1, h2⟩ := enumD_get h'
    exact ⟨d', by simpa using h1, by rw [h2, show k + 1 + i = k + (i + 1) by omega]⟩
theorem enumD_length : ∀ {k : Nat} {ds : List D}, (enumD k ds).length = ds.length
  | _, [] => rfl
  | k, d :: ds => by simp [enumD, enumD_length]
section
variable {K : PySem.W.Frag} {G : Gs} {W : WX}
theorem itd_enum {F : Hp} {a : Addr} {vs : List V} {ds : List D} (h : SqL K F a vs) (r : Reps K G.g F vs ds) : ItD K G F (Ite K a) (enumD 0 ds) := fun i F' H' l s => by
  have hq := sqL_le (l.trans s) h
  refine ⟨fun e he => ?_, fun he => ⟨vs, hq, ?_⟩⟩
  · obtain ⟨d, hd, rfl⟩ := enumD_get he
    obtain ⟨v, hv, rv⟩ := r.get' hd
    refine ⟨⟨vs, v, hq, hv⟩, fun x H'' y => ?_⟩
    obtain ⟨T, z, rfl, hT, rfl, y⟩ := y
    have := y vs hq
    rw [hv] at this; cases this
    have g := Gr.told (o := .tup [.int (i : Nat), v]) s hT
    refine ⟨_, g, .tup (SqT.of upd_same) (.cons ?_ (.cons ((rv.mono l).mono g.f) .nil))⟩
    rw [Nat.zero_add]
    exact .int _
  · have := List.getElem?_eq_none_iff.mp he
    rw [enumD_length] at this
    rw [r.length]; exact this
theorem itd_enumT {F : Hp} {a : Addr} {vs : List V} {ds : List D} (h : SqT K F a vs) (r : Reps K G.g F vs ds) : ItD K G F (Itet K a) (enumD 0 ds) := fun i F' H' l s => by
  have hq := sqT_le (l.trans s) h
  refine ⟨fun e he => ?_, fun he => ⟨vs, hq, ?_⟩⟩
  · obtain ⟨d, hd, rfl⟩ := enumD_get he
    obtain ⟨v, hv, rv⟩ := r.get' hd
    refine ⟨⟨vs, v, hq, hv⟩, fun x H'' y => ?_⟩
    obtain ⟨T, z, rfl, hT, rfl, y⟩ := y
    have := y vs hq
    rw [hv] at this; cases this
    have g := Gr.told (o := .tup [.int (i : Nat), v]) s hT
    refine ⟨_, g, .tup (SqT.of upd_same) (.cons ?_ (.cons ((rv.mono l).mono g.f) .nil))⟩
    rw [Nat.zero_add]
    exact .int _
  · have := List.getElem?_eq_none_iff.mp he
    rw [enumD_length] at this
    rw [r.length]; exact this
end
end Dl
namespace Dl
open PySem PySem.Spec PyProof.Rows L2

/-! ### a for over a name whose list stays one's own -/
def itemsEn (en : Bool) (ds : List D) : List D := if en = true then enumD 0 ds else ds
open Classical in
noncomputable def forV (g : D → M Unit) (b : M Out) (i : Nat) (xs : List D) : List D → M Out
  | [] => fun env => if env[i]? = some (.brw xs) then .ok .nx env else .stuck
  | d :: ds => fun env => if env[i]? = some (.brw xs) then (match g d env with
    | .ok _ env1 => (match b env1 with
      | .ok .nx env2 => forV g b i xs ds env2
      | .ok .ct env2 => forV g b i xs ds env2
      | .ok .bk env2 => .ok .nx env2
      | r => r)
    | _ => .stuck) else .stuck
def unlk (i : Nat) (r : Res Out) : Res Out := match r with
  | .ok o env => (match env[i]? with
    | some (.brw ys) => .ok o (env.set i (.own ys))
    | _ => .stuck)
  | .err x env => (match env[i]? with
    | some (.brw ys) => .err x (env.set i (.own ys))
    | _ => .stuck)
  | .stuck => .stuck
noncomputable def sForV (en : Bool) (i : Nat) (g : D → M Unit) (b : M Out) : M Out := fun env => match env[i]? with
  | some (.imm d) => (match d.items with
    | some ds => forM g b (itemsEn en ds) env
    | none => .stuck)
  | some (.own xs) => unlk i (forV g b i xs (itemsEn en xs) (env.set i (.brw xs)))
  | some (.brw xs) => forV g b i xs (itemsEn en xs) env
  | _ => .stuck
section
variable {K : PySem.W.Frag} {G : Gs} {W : WX}
/-- the walk over the list at p as it stands -/
def Live (K : PySem.W.Frag) (G : Gs) (J : It) (p : Addr) (xs its : List D) : Prop := ∀ (k : Nat) (F' H' : Hp) (vs : List V), H' p = some (.lst vs) → Reps K G.g F' vs xs → Le F' H' →
  (∀ d, its[k]? = some d → J.go k H' ∧ ∀ x H'', J.yld k H' x H'' → ∃ F'', Gr F' H' F'' H'' ∧ Rep K G F'' x d) ∧ (its[k]? = none → J.stop k H')
theorem live_list {p : Addr} {xs : List D} : Live K G (Itl K p) p xs (itemsEn false xs) := fun i F' H' vs h r s => by
  have hq : SqL K H' p vs := SqL.of h
  refine ⟨fun d hd => ?_, fun hd => ⟨vs, hq, ?_⟩⟩
  · obtain ⟨v, hv, rv⟩ := r.get' (show xs[i]? = some d from hd)
    refine ⟨⟨vs, v, hq, hv⟩, fun x H'' y => ?_⟩
    obtain ⟨rfl, y⟩ := y
    have := y vs hq
    rw [hv] at this; cases this
    exact ⟨F', Gr.refl s, rv⟩
  · have := List.getElem?_eq_none_iff.mp (show xs[i]? = none from hd)
    rw [r.length]; exact this
theorem live_enum {p : Addr} {xs : List D} : Live K G (Ite K p) p xs (itemsEn true xs) := fun i F' H' vs h r s => by
  have hq : SqL K H' p vs := SqL.of h
  refine ⟨fun e he => ?_, fun he => ⟨vs, hq, ?_⟩⟩
  · obtain ⟨d, hd, rfl⟩ := enumD_get (show (enumD 0 xs)[i]? = some e from he)
    obtain ⟨v, hv, rv⟩ := r.get' hd
    refine ⟨⟨vs, v, hq, hv⟩, fun x H'' y => ?_⟩
    obtain ⟨T, z, rfl, hT, rfl, y⟩ := y
    have := y vs hq
    rw [hv] at this; cases this
    have g := Gr.told (o := .tup [.int (i : Nat), v]) s hT
    refine ⟨_, g, .tup (SqT.of upd_same) (.cons ?_ (.cons (rv.mono g.f) .nil))⟩
    rw [Nat.zero_add]
    exact .int _
  · have := List.getElem?_eq_none_iff.mp (show (enumD 0 xs)[i]? = none from he)
    rw [enumD_length] at this
    rw [r.length]; exact this
/-- what a for says of the walk J -/
def ForJ (J : It) (t : TG) (tb : TS) (D : Ends) (σ : L2.St) (H : Hp) : Prop := ∃ W : Nat → Nat → L2.St → Hp → Prop, (∃ m, W 0 m σ H) ∧ ∀ i m σ H, W i m σ H →
  (J.stop i H ∧ D.nx σ H) ∨ (J.go i H ∧ ∃ N : L2.St → Hp → Prop, (∀ σ' H', N σ' H' → ∃ m', m' < m ∧ W (i + 1) m' σ' H') ∧ ∀ x H', J.yld i H x H' → t x σ H' fun σ2 H2 => tb { D with nx := N, ct := N, bk := D.nx } σ2 H2)
theorem for_live {J : It} {t : TG} {g : D → M Unit} {tb : TS} {b : M Out} {i : Nat} {p : Addr} {xs its : List D} (hJ : Live K G J p xs its) (hg : SimG K G t g) (hb : SimS K G W tb b) {F1 H1 : Hp} {σ : L2.St} {env1 : Env} {D : Ends} (o1 : Ok K G F1 H1 σ env1)
    (hs : σ[i]? = some (some (.ref p))) (w1 : WantS K G W σ env1 F1 H1 (forV g b i xs its env1) D) : ForJ J t tb D σ H1 := by
  refine ⟨fun k m σ' H' => ∃ F' env', m = its.length - k ∧ k ≤ its.length ∧ Ok K G F' H' σ' env' ∧ Fr σ env1 F1 H1 σ' env' F' H' ∧ WantS K G W σ' env' F' H' (forV g b i xs (its.drop k) env') D, ⟨its.length, F1, env1, by simp, Nat.zero_le _, o1, Fr.refl, w1⟩, ?_⟩
  rintro k m σ' H' ⟨F', env', rfl, hk', o, f, w2⟩
  have here : env'[i]? = some (.brw xs) → ∃ vs, H' p = some (.lst vs) ∧ Reps K G.g F' vs xs := fun e => by
    obtain ⟨es, _⟩ := f.lent i _ e rfl
    rw [hs] at es
    obtain ⟨p', vs, ep, h1, _, rr⟩ := o.slot i _ _ es e
    cases ep
    exact ⟨vs, h1, rr⟩
  by_cases hlt : k < its.length
  · obtain ⟨d, hd⟩ : ∃ d, its[k]? = some d := ⟨its[k], List.getElem?_eq_getElem hlt⟩
    have hdrop : its.drop k = d :: its.drop (k + 1) := by
      rw [List.drop_eq_getElem_cons hlt]
      rw [List.getElem?_eq_getElem hlt] at hd
      cases hd; rfl
    rw [hdrop] at w2
    unfold forV at w2
    by_cases he : env'[i]? = some (.brw xs)
    · rw [if_pos he] at w2
      obtain ⟨vs, h1, rr⟩ := here he
      obtain ⟨go, yl⟩ := (hJ k F' H' vs h1 rr o.sub).1 d hd
      refine .inr ⟨go, fun σ3 H3 => ∃ F3 env3, Ok K G F3 H3 σ3 env3 ∧ Fr σ env1 F1 H1 σ3 env3 F3 H3 ∧ WantS K G W σ3 env3 F3 H3 (forV g b i xs (its.drop (k + 1)) env3) D, fun σ3 H3 ⟨F3, env3, o3, l3, w3⟩ => ⟨its.length - (k + 1), by omega, F3, env3, rfl, hlt, o3, l3, w3⟩, fun x H'' y => ?_⟩
      obtain ⟨F'', gr, rx⟩ := yl x H'' y
      have o2 := o.gr gr
      have f2 : Fr σ' env' F' H' σ' env' F'' H'' := Fr.gr gr
      have w3 := WantS.from w2 f2
      refine hg F'' H'' σ' env' x d _ o2 rx ?_
      cases e : g d env' with
      | ok u env2 =>
        rw [e] at w3
        intro F3 H3 σ3 o3 f3
        have w4 := WantS.from w3 f3
        have l3 := (f.trans f2).trans f3
        refine hb F3 H3 σ3 env2 _ o3 ?_
        dsimp only at w4
        cases e2 : b env2 with
        | ok ot env3 =>
          rw [e2] at w4
          cases ot with
          | nx => exact fun F4 H4 σ4 o4 f4 => ⟨F4, env3, o4, l3.trans f4, WantS.from w4 f4⟩
          | ct => exact fun F4 H4 σ4 o4 f4 => ⟨F4, env3, o4, l3.trans f4, WantS.from w4 f4⟩
          | bk => exact w4
          | ret rv => exact w4
        | err x env3 => rw [e2] at w4; exact w4
        | stuck => rw [e2] at w4; exact w4
      | err x env2 => rw [e] at w3; exact w3.elim
      | stuck => rw [e] at w3; exact w3.elim
    · rw [if_neg he] at w2; exact w2.elim
  · have e : k = its.length := by omega
    subst e
    rw [List.drop_length] at w2
    unfold forV at w2
    by_cases he : env'[i]? = some (.brw xs)
    · rw [if_pos he] at w2
      obtain ⟨vs, h1, rr⟩ := here he
      exact .inl ⟨(hJ _ F' H' vs h1 rr o.sub).2 (by simp), w2 F' H' σ' o Fr.refl⟩
    · rw [if_neg he] at w2; exact w2.elim
/-! own, lent for a while -/
theorem Ok.lock {F H : Hp} {σ : L2.St} {env : Env} {i : Nat} {xs : List D} (o : Ok K G F H σ env) (h : env[i]? = some (.own xs)) : Ok K G F H σ (env.set i (.brw xs)) := by
  have hl := (List.getElem?_eq_some_iff.mp h).1
  have low : ∀ {j : Nat} {s : SV}, (env.set i (.brw xs))[j]? = some s → ∃ t : SV, env[j]? = some t ∧ (s.mut = true → t.mut = true) ∧ (∀ ov, SvOk K G F H ov t → SvOk K G F H ov s) := fun {j s} e => by
    by_cases z : i = j
    · subst z
      rw [List.getElem?_set_self hl] at e
      cases e
      exact ⟨_, h, fun _ => rfl, fun ov q => q⟩
    · rw [List.getElem?_set_ne z] at e
      exact ⟨s, e, fun m => m, fun _ q => q⟩
  refine ⟨o.sub, by rw [List.length_set]; exact o.len, fun j ov s h1 h2 => ?_, fun j k s t a h1 m1 h2 h3 m2 h4 => ?_⟩
  · obtain ⟨t, e, _, q⟩ := low h2
    exact q ov (o.slot j ov t h1 e)
  · obtain ⟨s', e1, n1, _⟩ := low h1
    obtain ⟨t', e2, n2, _⟩ := low h3
    exact o.inj j k s' t' a e1 (n1 m1) h2 e2 (n2 m2) h4
theorem Ok.unlock {F H : Hp} {σ : L2.St} {env : Env} {i : Nat} {xs : List D} (o : Ok K G F H σ env) (h : env[i]? = some (.brw xs)) : Ok K G F H σ (env.set i (.own xs)) := by
  have hl := (List.getElem?_eq_some_iff.mp h).1
  have low : ∀ {j : Nat} {s : SV}, (env.set i (.own xs))[j]? = some s → ∃ t : SV, env[j]? = some t ∧ (s.mut = true → t.mut = true) ∧ (∀ ov, SvOk K G F H ov t → SvOk K G F H ov s) := fun {j s} e => by
    by_cases z : i = j
    · subst z
      rw [List.getElem?_set_self hl] at e
      cases e
      exact ⟨_, h, fun _ => rfl, fun ov q => q⟩
    · rw [List.getElem?_set_ne z] at e
      exact ⟨s, e, fun m => m, fun _ q => q⟩
  refine ⟨o.sub, by rw [List.length_set]; exact o.len, fun j ov s h1 h2 => ?_, fun j k s t a h1 m1 h2 h3 m2 h4 => ?_⟩
  · obtain ⟨t, e, _, q⟩ := low h2
    exact q ov (o.slot j ov t h1 e)
  · obtain ⟨s', e1, n1, _⟩ := low h1
    obtain ⟨t', e2, n2, _⟩ := low h3
    exact o.inj j k s' t' a e1 (n1 m1) h2 e2 (n2 m2) h4
theorem own_lock {σ : L2.St} {env : Env} {i : Nat} {s t : SV} {a : Addr} (h : env[i]? = some s) (hm : s.mut = true) (hm' : t.mut = true) : Own σ (env.set i t) a ↔ Own σ env a := by
  have hl := (List.getElem?_eq_some_iff.mp h).1
  constructor
  · rintro ⟨j, u, h1, m, h2⟩
    by_cases z : i = j
    · subst z; exact ⟨i, s, h, hm, h2⟩
    · rw [List.getElem?_set_ne z] at h1; exact ⟨j, u, h1, m, h2⟩
  · rintro ⟨j, u, h1, m, h2⟩
    by_cases z : i = j
    · subst z; exact ⟨i, t, List.getElem?_set_self hl, hm', h2⟩
    · exact ⟨j, u, by rw [List.getElem?_set_ne z]; exact h1, m, h2⟩
theorem Fr.unlock {F H F' H' : Hp} {σ σ' : L2.St} {env env' : Env} {i : Nat} {xs ys : List D} (f : Fr σ (env.set i (.brw xs)) F H σ' env' F' H') (h : env[i]? = some (.own xs)) (h' : env'[i]? = some (.brw ys)) : Fr σ env F H σ' (env'.set i (.own ys)) F' H' := by
  have q : ∀ a, Own σ (env.set i (.brw xs)) a ↔ Own σ env a := fun a => own_lock h rfl rfl
  have q' : ∀ a, Own σ' (env'.set i (.own ys)) a ↔ Own σ' env' a := fun a => own_lock h' rfl rfl
  have hl := (List.getElem?_eq_some_iff.mp h').1
  refine ⟨f.sub, fun a o e n => f.keep a o e fun z => n ((q a).mp z), fun a e n g => f.low a e (fun z => n ((q a).mp z)) g, fun a z => (f.own a ((q' a).mp z)).imp (q a).mp id, f.there, fun j s e m => ?_⟩
  by_cases z : i = j
  · subst z
    rw [List.getElem?_set_self hl] at e
    cases e; cases m
  · rw [List.getElem?_set_ne z] at e
    obtain ⟨e1, t, e2, e3⟩ := f.lent j s e m
    rw [List.getElem?_set_ne z] at e2
    exact ⟨e1, t, e2, e3⟩
theorem wantS_unlk {F H : Hp} {σ : L2.St} {env : Env} {i : Nat} {xs : List D} {r : Res Out} {D : Ends} (h : env[i]? = some (.own xs)) (w : WantS K G W σ env F H (unlk i r) D) : WantS K G W σ (env.set i (.brw xs)) F H r D := by
  cases r with
  | stuck => exact w
  | err x env' =>
    unfold unlk at w
    cases e : env'[i]? with
    | none => simp only [e] at w; exact w.elim
    | some s =>
      cases s with
      | brw ys =>
        simp only [e] at w
        exact fun F' H' σ' cls d o f xo => w F' H' σ' cls d (o.unlock e) (f.unlock h e) xo
      | _ => simp only [e] at w; exact w.elim
  | ok ot env' =>
    unfold unlk at w
    cases e : env'[i]? with
    | none => simp only [e] at w; exact w.elim
    | some s =>
      cases s with
      | brw ys =>
        simp only [e] at w
        cases ot with
        | nx => exact fun F' H' σ' o f => w F' H' σ' (o.unlock e) (f.unlock h e)
        | bk => exact fun F' H' σ' o f => w F' H' σ' (o.unlock e) (f.unlock h e)
        | ct => exact fun F' H' σ' o f => w F' H' σ' (o.unlock e) (f.unlock h e)
        | ret rv =>
          intro F' H' σ' v o f r
          refine w F' H' σ' v (o.unlock e) (f.unlock h e) ?_
          cases rv with
          | imm d => exact r
          | fresh zs =>
            obtain ⟨p, vs, q1, q2, q3, q4, q5, q6⟩ := r
            exact ⟨p, vs, q1, q2, q3, q4, fun z => q5 ((own_lock e rfl rfl).mp z), q6⟩
          | al j =>
            obtain ⟨es, s, hs⟩ := r
            refine ⟨es, ?_⟩
            by_cases z : i = j
            · subst z; exact ⟨_, List.getElem?_set_self (List.getElem?_eq_some_iff.mp e).1⟩
            · exact ⟨s, by rw [List.getElem?_set_ne z]; exact hs⟩
      | _ => simp only [e] at w; exact w.elim
def iEnumM (fe : M RV) : M (List D) := bindM fe fun r => bindM (settle r) fun d => liftM (d.items.map (enumD 0))
theorem simi_enum {te : TE} {fe : M RV} (he : SimE K G W te fe) : SimI K G W (iEnumS K (tCons te tNil)) (iEnumM fe) := fun F H σ env R ok w => by
  refine he F H σ env _ ok ((want_raw w).imp fun rv env1 F1 H1 o1 f1 w1 v r => ?_)
  have w' : Want K G W σ env F H (settle rv env1) (fun d env' _ _ => Want K G W σ env F H (liftM (d.items.map (enumD 0)) env') fun ds _ F' H' => ∀ J, ItD K G F' J ds → R J H') := want_raw2 w1
  obtain ⟨d, env2, F2, o2, f2, r2, w2⟩ := want_settle o1 f1 r w'
  cases hd : d.items with
  | none => rw [hd] at w2; exact w2.elim
  | some ds =>
    rw [hd] at w2
    have q := w2 F2 H1 o2 f2
    unfold D.items at hd
    split at hd
    · cases hd
      cases r2 with
      | lst h rr => exact ⟨_, rfl, .inl ⟨⟨_, SqL.of (o2.sub _ _ h)⟩, q _ (itd_enum (SqL.of h) rr)⟩⟩
    · cases hd
      cases r2 with
      | rol h rr => exact ⟨_, rfl, .inl ⟨⟨_, sqL_le o2.sub h⟩, q _ (itd_enum h rr)⟩⟩
    · cases hd
      cases r2 with
      | tup h rr => exact ⟨_, rfl, .inr ⟨⟨_, sqT_le o2.sub h⟩, q _ (itd_enumT h rr)⟩⟩
    · cases hd
theorem sFor_imm {en : Bool} {i : Nat} {g : D → M Unit} {b : M Out} {env : Dl.Env} {d : D} (h : env[i]? = some (.imm d)) : sForV en i g b env = sFor (if en = true then iEnumM (eVar i) else iSeqM (eVar i)) g b env := by
  have e : eVar i env = .ok (.imm d) env := by unfold eVar; rw [h]
  cases en with
  | true =>
    simp only [if_true]
    unfold sForV sFor iEnumM Dl.bindM
    rw [h, e]
    simp only [Dl.settle, Dl.retM]
    cases d.items with
    | none => rfl
    | some ds => rfl
  | false =>
    simp only [Bool.false_eq_true, if_false]
    unfold sForV sFor iSeqM Dl.bindM
    rw [h, e]
    simp only [Dl.settle, Dl.retM]
    cases d.items with
    | none => rfl
    | some ds => rfl
theorem sim_forV {en : Bool} {i : Nat} {t : TG} {g : D → M Unit} {tb : TS} {b : M Out} (hg : SimG K G t g) (hb : SimS K G W tb b) : SimS K G W (tFor (if en = true then iEnumS K (tCons (tVar i) tNil) else iSeq K (tVar i)) t tb) (sForV en i g b) := fun F H σ env D ok w => by
  cases h : env[i]? with
  | none => unfold sForV at w; rw [h] at w; exact w.elim
  | some s =>
    have l : i < σ.length := by rw [ok.len]; exact (List.getElem?_eq_some_iff.mp h).1
    have es : σ[i]? = some σ[i] := List.getElem?_eq_getElem l
    have q := ok.slot i _ s es h
    have main : ∀ (p : Addr) (vs : List V) (xs : List Dl.D), H p = some (.lst vs) → σ[i] = some (.ref p) → (∀ J : It, Live K G J p xs (itemsEn en xs) → ForJ J t tb D σ H) → tFor (if en = true then iEnumS K (tCons (tVar i) tNil) else iSeq K (tVar i)) t tb D σ H := fun p vs xs hp ep k => by
      rw [ep] at es
      cases en with
      | true =>
        simp only [if_true]
        exact ⟨.ref p, es, p, rfl, .inl ⟨⟨vs, SqL.of hp⟩, k (Ite K p) live_enum⟩⟩
      | false =>
        simp only [Bool.false_eq_true, if_false]
        exact ⟨.ref p, es, p, rfl, .inl ⟨⟨vs, SqL.of hp⟩, k (Itl K p) live_list⟩⟩
    cases s with
    | imm d =>
      rw [sFor_imm h] at w
      cases en with
      | true => exact sim_for (simi_enum (sim_var i)) hg hb F H σ env D ok w
      | false => exact sim_for (simi_seq (sim_var i)) hg hb F H σ env D ok w
    | own xs =>
      unfold sForV at w
      rw [h] at w
      obtain ⟨p, vs, ep, h1, _, _⟩ := q
      have w' := wantS_unlk h w
      have f0 : Fr σ (env.set i (.brw xs)) F H σ (env.set i (.brw xs)) F H := Fr.refl
      exact main p vs xs h1 ep fun J hJ => for_live hJ hg hb (ok.lock h) (by rw [es, ep]) w'
    | brw xs =>
      unfold sForV at w
      rw [h] at w
      obtain ⟨p, vs, ep, h1, _, _⟩ := q
      exact main p vs xs h1 ep fun J hJ => for_live hJ hg hb ok (by rw [es, ep]) w
    | none => unfold sForV at w; rw [h] at w; exact w.elim
    | obj c ds => unfold sForV at w; rw [h] at w; exact w.elim
    | exc x => unfold sForV at w; rw [h] at w; exact w.elim
end
section
variable {X : Cx} {G : Gs} {W : WX} {e : Expr} {elts : List Expr} {kk : Nat} {fe : M RV} {g : D → M Unit} {f : M Out} {pos p p2 tpos : Pos} {x : Str} {sts : List Stmt} {tg : Expr}
theorem ji_enum (he : JE X G W e fe) (hm : X.mg "enumerate" = none) (hg : Gl X "enumerate") (hs : starEach [e] X.env = [(false, eval e X.env)] := by rfl) (hs2 : starEach [e] X.env = (false, eval e X.env) :: starEach [] X.env := by rfl) :
    JI X G W (.Tuple elts kk tpos) (.Call (.Name "enumerate" p) [e] [] pos) (iEnumM fe) := toI (pi_enumS hg hm (pa_cons he pa_nil hs2) hs) (simi_enum sE)
theorem js_forV (i : Nat) (hp : PassesOwn (model X.prog X.w) X.A X.env X.xe) (hc : X.calm = true) (hg : JG X G tg g) (hb : JSs X G W sts f) (hN : X.N[i]? = some x := by rfl) (hv : Vis X.env.scope x := by first | exact Or.inl rfl | exact Or.inr (Or.inl rfl) | exact Or.inr (Or.inr rfl)) (hd : (x == ("__debug__" : Str)) = false := by decide)
    (hcd : (x == ("__classdict__" : Str)) = false := by decide) (hs : ∀ y, foldedSetIterable (.Name x p) X.env y = pure y := by intro _; rfl) : JS X G W (.For tg (.Name x p) sts [] pos) (sForV false i g f) :=
  toS (ps_for hp hc (pi_seq (pe_var hN hv hd hcd)) hg.1 hb hs) (sim_forV (en := false) sG sS)
theorem js_forVE (i : Nat) (hp : PassesOwn (model X.prog X.w) X.A X.env X.xe) (hc : X.calm = true) (hm : X.mg "enumerate" = none) (hg : JG X G (.Tuple elts kk tpos) g) (hb : JSs X G W sts f) (hgl : Gl X "enumerate") (hN : X.N[i]? = some x := by rfl) (hv : Vis X.env.scope x := by first | exact Or.inl rfl | exact Or.inr (Or.inl rfl) | exact Or.inr (Or.inr rfl)) (hd : (x == ("__debug__" : Str)) = false := by decide)
    (hcd : (x == ("__classdict__" : Str)) = false := by decide) (hs1 : starEach [.Name x p] X.env = [(false, eval (.Name x p) X.env)] := by rfl) (hs2 : starEach [.Name x p] X.env = (false, eval (.Name x p) X.env) :: starEach [] X.env := by rfl)
    (hs : ∀ y, foldedSetIterable (.Call (.Name "enumerate" p2) [.Name x p] [] pos) X.env y = pure y := by intro _; rfl) {pos2 : Pos} : JS X G W (.For (.Tuple elts kk tpos) (.Call (.Name "enumerate" p2) [.Name x p] [] pos) sts [] pos2) (sForV true i g f) :=
  toS (ps_for hp hc (pi_enumS hgl hm (pa_cons (pe_var hN hv hd hcd) pa_nil hs2) hs1) hg.1 hb hs) (sim_forV (en := true) sG sS)
end
/-! ### comprehensions: what a scope says, targets -/
def blkB (N : List Str) (sc scope : Scope) (own : List (Str × Nat)) : Bool := decide (scope.kind = .function) && ((scope.names.all fun y => decide (scope.names.lookup y.1 = some y.2)) && ((own.all fun p => decide (N[p.2]? = some p.1)) &&
  ((scope.names.all fun y => decide (y.2 ≠ .free) || (decide (sc.names.lookup y.1 = some .cell) || decide (sc.names.lookup y.1 = some .free))) && (scope.names.all fun y => (decide (y.2 ≠ .local) && decide (y.2 ≠ .cell)) || (decide (y.1 ∈ own.map (·.1)) || decide (y.1 ∉ N))))))
theorem blkB_ok {N : List Str} {sc scope : Scope} {own : List (Str × Nat)} (h : blkB N sc scope own = true) : BlkOk N sc scope own := by
  obtain ⟨h1, h⟩ := He.ba h
  obtain ⟨h2, h⟩ := He.ba h
  obtain ⟨h3, h⟩ := He.ba h
  obtain ⟨h4, h5⟩ := He.ba h
  refine ⟨of_decide_eq_true h1, fun y hy => of_decide_eq_true (List.all_eq_true.mp h2 y hy), fun p hp => of_decide_eq_true (List.all_eq_true.mp h3 p hp), fun y hy e => ?_, fun y hy e => ?_⟩
  · rcases Bool.or_eq_true_iff.mp (List.all_eq_true.mp h4 y hy) with z | z
    · exact absurd e (of_decide_eq_true z)
    · exact (Bool.or_eq_true_iff.mp z).imp of_decide_eq_true of_decide_eq_true
  · rcases Bool.or_eq_true_iff.mp (List.all_eq_true.mp h5 y hy) with z | z
    · obtain ⟨z1, z2⟩ := Bool.and_eq_true_iff.mp z
      rcases e with e | e
      · exact absurd e (of_decide_eq_true z1)
      · exact absurd e (of_decide_eq_true z2)
    · exact (Bool.or_eq_true_iff.mp z).imp of_decide_eq_true of_decide_eq_true
section
variable {X : Cx} {G : Gs} {scope : Scope} {vs : List Nat} {e : Expr} {es : List Expr} {t : TG} {ts : TGs} {g : D → M Unit} {gs : List D → M Unit} {pos : Pos} {x : Str}
theorem jc_name (i : Nat) (hN : X.N.Nodup) (hm : i ∈ vs := by decide) (hi : X.N[i]? = some x := by rfl) (hx : BlkX X scope fun Y => Loc Y.env.scope x := by intro _ _ _ _ _; first | exact Or.inl rfl | exact Or.inr rfl)
    (hf : BlkX X scope fun Y => Y.fn x = true ∨ Y.env.scope.names.lookup x = some .local := by intro _ _ _ _ _; first | exact .inl rfl | exact .inr rfl) : JC X G vs scope (.Name x pos) (gName i) (gNameM i) :=
  ⟨fun s H C cl fp => pg_name (X := X.blk s H scope (compEnvC scope cl C X.env) fp) hN hi (hx s H C cl fp) (hf s H C cl fp), simg_name i, owng_name hm, mong_name⟩
theorem jcs_nil : JCs X G vs scope [] gNil gNilM := ⟨fun _ _ _ _ _ => pgs_nil, simgs_nil, owngs_nil, mongs_nil⟩
theorem jcs_cons (h : JC X G vs scope e t g) (hs : JCs X G vs scope es ts gs) (hq : BlkX X scope fun Y => (assignEach (e :: es) Y.env).map (·.2) = assign e Y.env :: (assignEach es Y.env).map (·.2) := by intro _ _ _ _ _; rfl) : JCs X G vs scope (e :: es) (gCons t ts) (gConsM g gs) :=
  ⟨fun s H C cl fp => pgs_cons (h.p s H C cl fp) (hs.p s H C cl fp) (hq s H C cl fp), simgs_cons h.s hs.s, owngs_cons h.m hs.m h.o hs.o, mongs_cons h.m hs.m⟩
theorem jc_tup {k : Nat} (n : Nat) (hc : X.calm = true) (h : JCs X G vs scope es ts gs) (hn : BlkX X scope fun Y => (assignEach es Y.env).length = n := by intro _ _ _ _ _; rfl) (hst : BlkX X scope fun Y => (assignEach es Y.env).findIdx? (·.1) = none := by intro _ _ _ _ _; rfl) :
    JC X G vs scope (.Tuple es k pos) (gTup X.K n ts) (gTupM n gs) :=
  ⟨fun s H C cl fp => pg_tup (X := X.blk s H scope (compEnvC scope cl C X.env) fp) hc (h.p s H C cl fp) (hn s H C cl fp) (hst s H C cl fp), simg_tup h.s, owng_tup h.o, mong_tup h.m⟩
end
end Dl
namespace L2
open PySem PySem.Spec PyProof.Rows
section
variable {X : Cx} {a b c e : Expr} {ta tb tc te : TE} {pos : Pos}
/-- a op1 b op2 c op3 e -/
def tChain3 (r r' r'' : R2) (ta tb tc te : TE) : TE := fun σ H Q => ta σ H fun x H1 => tb σ H1 fun y H2 => r x y H2 fun z H3 => ∃ k, z = .bl k ∧
  (if k = true then tc σ H3 fun w' H4 => r' y w' H4 fun z2 H5 => ∃ k2, z2 = .bl k2 ∧ (if k2 = true then te σ H5 fun u' H6 => r'' w' u' H6 Q else Q (.bl false) H5) else Q (.bl false) H3)
theorem pe_chain3 {op op' op'' : CmpOp} {r r' r'' : R2} (ho : OpR X (compareOp op) r) (ho' : OpR X (compareOp op') r') (ho'' : OpR X (compareOp op'') r'') (ha : PE X a ta) (hb : PE X b tb) (hc : PE X c tc) (he : PE X e te)
    (hm : lastMarks [op, op', op''] [b, c, e] = false := by with_unfolding_all rfl) : PE X (.Compare a [op, op', op''] [b, c, e] pos) (tChain3 r r' r'' ta tb tc te) := by
  refine ⟨fun pins s σ H Q I h => ?_⟩
  refine Compare_chain (thn (ha.run pins s σ H _ I h) fun v s1 ⟨x, H1, I1, r1, q1⟩ => chain_link (thn (hb.run pins s1 σ H1 _ I1 q1) fun u s2 ⟨y, H2, I2, r2, q2⟩ =>
    thn (ho pins s2 σ H2 x y v u _ I2 r1 r2 q2) fun d s3 ⟨z, H3, I3, r3, k, e, q3⟩ => ?_)) hm
  subst e
  cases r3
  refine wpAny_truthy_bool ?_
  cases k with
  | false => exact ite_ff ⟨.bl false, H3, I3, rfl, q3⟩
  | true =>
    refine ite_tt (chain_link (thn (hc.run pins s3 σ H3 _ I3 q3) fun w' s4 ⟨z', H4, I4, r4, q4⟩ => thn (ho' pins s4 σ H4 y z' u w' _ I4 r2 r4 q4) fun d2 s5 ⟨z2, H5, I5, r5, k2, e2, q5⟩ => ?_))
    subst e2
    cases r5
    refine wpAny_truthy_bool ?_
    cases k2 with
    | false => exact ite_ff ⟨.bl false, H5, I5, rfl, q5⟩
    | true => exact ite_tt (chain_last (thn (he.run pins s5 σ H5 _ I5 q5) fun u' s6 ⟨z3, H6, I6, r6, q6⟩ => ho'' pins s6 σ H6 z' z3 w' u' Q I6 r4 r6 q6))
theorem pt_chain3 {op op' op'' : CmpOp} {r r' r'' : R2} (ho : OpR X (compareOp op) r) (ho' : OpR X (compareOp op') r') (ho'' : OpR X (compareOp op'') r'') (ha : PE X a ta) (hb : PE X b tb) (hc : PE X c tc) (he : PE X e te)
    (hm : lastMarks [op, op', op''] [b, c, e] = false := by with_unfolding_all rfl) : PT X (.Compare a [op, op', op''] [b, c, e] pos) (tTest (tChain3 r r' r'' ta tb tc te)) := by
  refine ⟨fun pins s σ H Q I h => ?_⟩
  refine isTrue_chain (thn (ha.run pins s σ H _ I h) fun v s1 ⟨x, H1, I1, r1, q1⟩ => test_link (thn (hb.run pins s1 σ H1 _ I1 q1) fun u s2 ⟨y, H2, I2, r2, q2⟩ =>
    thn (ho pins s2 σ H2 x y v u _ I2 r1 r2 q2) fun d s3 ⟨z, H3, I3, r3, k, e, q3⟩ => ?_)) hm
  subst e
  cases r3
  refine wpAny_truthy_bool ?_
  cases k with
  | false =>
    obtain ⟨k', e', q'⟩ := q3
    cases e'
    exact ite_ff ⟨H3, I3, q'⟩
  | true =>
    refine ite_tt (test_link (thn (hc.run pins s3 σ H3 _ I3 q3) fun w' s4 ⟨z', H4, I4, r4, q4⟩ => thn (ho' pins s4 σ H4 y z' u w' _ I4 r2 r4 q4) fun d2 s5 ⟨z2, H5, I5, r5, k2, e2, q5⟩ => ?_))
    subst e2
    cases r5
    refine wpAny_truthy_bool ?_
    cases k2 with
    | false =>
      obtain ⟨k', e', q'⟩ := q5
      cases e'
      exact ite_ff ⟨H5, I5, q'⟩
    | true =>
      refine ite_tt (test_last (thn (he.run pins s5 σ H5 _ I5 q5) fun u' s6 ⟨z3, H6, I6, r6, q6⟩ => thn (ho'' pins s6 σ H6 z' z3 w' u' _ I6 r4 r6 q6) fun d3 s7 ⟨z4, H7, I7, r7, k3, e3, q7⟩ => ?_))
      subst e3
      cases r7
      exact wpAny_truthy_bool ⟨H7, I7, q7⟩
end
end L2
namespace Dl
open PySem PySem.Spec PyProof.Rows L2
def eChain3 (op op' op'' : D → D → Option RV) (fa fb fc fe : M RV) : M RV := bindM fa fun a => bindM fb fun b => bindM (op2M op a b) fun r => match r with
  | .imm (.bl true) => bindM fc fun c => bindM (op2M op' b c) fun r => (match r with
    | .imm (.bl true) => bindM fe fun e => op2M op'' c e
    | .imm (.bl false) => retM (.imm (.bl false))
    | _ => fun _ => .stuck)
  | .imm (.bl false) => retM (.imm (.bl false))
  | _ => fun _ => .stuck
section
variable {K : PySem.W.Frag} {G : Gs} {W : WX} {ta tb tc te : TE} {fa fb fc fe : M RV}
/-- one comparison within a chain: its Bool -/
theorem chain_step {r : R2} {op : D → D → Option RV} (ho : OpOk K G r op) {F0 H0 F H H00 H01 : Hp} {σ : L2.St} {env : Env} {x y : V} {a b : RV} {k : RV → M RV} {post : RV → Env → Hp → Hp → Prop} {Q : VK} (ok : Ok K G F H σ env) (rx : RvOk K G F H H00 σ env x a) (ry : RvOk K G F H H01 σ env y b)
    (w : Want K G W σ env F H (bindM (op2M op a b) k env) post)
    (h1 : ∀ F' H', Ok K G F' H' σ env → Fr σ env F H σ env F' H' → Want K G W σ env F' H' (k (.imm (.bl true)) env) post → Q (.bl true) H')
    (h2 : ∀ F' H', Ok K G F' H' σ env → Fr σ env F H σ env F' H' → Want K G W σ env F' H' (k (.imm (.bl false)) env) post → Q (.bl false) H')
    (hk : ∀ rv env', k rv env' ≠ .stuck → rv = .imm (.bl true) ∨ rv = .imm (.bl false)) : r x y H Q := by
  unfold bindM op2M at w
  cases e1 : peek env a with
  | none => simp only [e1] at w; exact w.elim
  | some d =>
    cases e2 : peek env b with
    | none => simp only [e1, e2] at w; exact w.elim
    | some e =>
      cases e3 : op d e with
      | none => simp only [e1, e2, e3] at w; exact w.elim
      | some rv =>
        simp only [e1, e2, e3] at w
        refine ho F H x y d e rv _ ok.sub (pk_of ok rx e1) (pk_of ok ry e2) e3 fun v F3 H3 g rd => ?_
        have o3 := ok.gr g
        have f3 : Fr σ env F H σ env F3 H3 := Fr.gr g
        have w3 := Want.from w f3
        rcases hk rv env (fun z => by rw [z] at w3; exact w3) with rfl | rfl
        · cases (show Rep K G.g F3 v (.bl true) from rd)
          exact h1 F3 H3 o3 f3 w3
        · cases (show Rep K G.g F3 v (.bl false) from rd)
          exact h2 F3 H3 o3 f3 w3
theorem sim_chain3 {r r' r'' : R2} {op op' op'' : D → D → Option RV} (ho : OpOk K G r op) (ho' : OpOk K G r' op') (ho'' : OpOk K G r'' op'') (ha : SimE K G W ta fa) (hb : SimE K G W tb fb) (hc : SimE K G W tc fc) (he : SimE K G W te fe) :
    SimE K G W (tChain3 r r' r'' ta tb tc te) (eChain3 op op' op'' fa fb fc fe) := fun F H σ env Q ok w => by
  refine ha F H σ env _ ok ((want_bind w).imp fun a env1 F1 H1 o1 f1 k x rx => ?_)
  refine hb F1 H1 σ env1 _ o1 ((want_bind (k o1 f1)).imp fun b env2 F2 H2 o2 f2 k2 y ry => ?_)
  have t2 : ∀ a0, H2 a0 = none → H a0 = none := fun a0 h => (f1.trans f2).new h
  refine chain_step (F0 := F) (H0 := H) ho o2 (rx.mono o1 o2 f2) ry (k2 o2 f2) (fun F3 H3 o3 f3 w3 => ⟨true, rfl, ?_⟩) (fun F3 H3 o3 f3 w3 => ⟨false, rfl, ?_⟩) fun rv env' hz => ?_
  · simp only [if_true]
    refine hc F3 H3 σ env2 _ o3 ((want_bind w3).imp fun cc env4 F4 H4 o4 f4 k4 z rz => ?_)
    refine chain_step (F0 := F) (H0 := H) ho' o4 (ry.mono o2 o4 (f3.trans f4)) rz (k4 o4 f4) (fun F5 H5 o5 f5 w5 => ⟨true, rfl, ?_⟩) (fun F5 H5 o5 f5 w5 => ⟨false, rfl, ?_⟩) fun rv env' hz => ?_
    · simp only [if_true]
      refine he F5 H5 σ env4 _ o5 ((want_bind w5).imp fun ee env6 F6 H6 o6 f6 k6 z2 rz2 => ?_)
      have w6 := k6 o6 f6
      unfold op2M at w6
      cases e4 : peek env6 cc with
      | none => simp only [e4] at w6; exact w6.elim
      | some e' =>
        cases e5 : peek env6 ee with
        | none => simp only [e4, e5] at w6; exact w6.elim
        | some z' =>
          cases e6 : op'' e' z' with
          | none => simp only [e4, e5, e6] at w6; exact w6.elim
          | some rv' =>
            simp only [e4, e5, e6] at w6
            have rc := rz.mono o4 o6 (f5.trans f6)
            refine ho'' F6 H6 z z2 e' z' rv' _ o6.sub (pk_of o6 rc e4) (pk_of o6 rz2 e5) e6 fun v' F7 H7 g' rd' => ?_
            refine w6 F7 H7 (o6.gr g') (Fr.gr g') v' (RvD.ok o6 g' rd' fun a0 h0 => ?_)
            exact t2 a0 ((f3.trans (f4.trans (f5.trans f6))).new h0)
    · simp only [Bool.false_eq_true, if_false]
      exact w5 F5 H5 o5 Fr.refl _ (.bl false)
    · cases rv with
      | imm d =>
        cases d with
        | bl b => cases b <;> first | exact .inl rfl | exact .inr rfl
        | _ => exact (hz rfl).elim
      | _ => exact (hz rfl).elim
  · simp only [Bool.false_eq_true, if_false]
    exact w3 F3 H3 o3 Fr.refl _ (.bl false)
  · cases rv with
    | imm d =>
      cases d with
      | bl b => cases b <;> first | exact .inl rfl | exact .inr rfl
      | _ => exact (hz rfl).elim
    | _ => exact (hz rfl).elim
end
section
variable {X : Cx} {G : Gs} {W : WX} {a b c e : Expr} {fa fb fc fe : M RV} {pos : Pos}
theorem je_chain3 {op op' op'' : CmpOp} {o o' o'' : D → D → Option RV} (h : CmpI X op o) (h' : CmpI X op' o') (h'' : CmpI X op'' o'') (ha : JE X G W a fa) (hb : JE X G W b fb) (hc : JE X G W c fc) (he : JE X G W e fe) (hm : lastMarks [op, op', op''] [b, c, e] = false := by with_unfolding_all rfl) :
    JE X G W (.Compare a [op, op', op''] [b, c, e] pos) (eChain3 o o' o'' fa fb fc fe) := by
  obtain ⟨r, h1, h2⟩ := h
  obtain ⟨r', h1', h2'⟩ := h'
  obtain ⟨r'', h1'', h2''⟩ := h''
  exact toE (pe_chain3 h1 h1' h1'' ha hb hc he hm) (sim_chain3 (h2 G) (h2' G) (h2'' G) sE sE sE sE)
theorem jt_chain3 {op op' op'' : CmpOp} {o o' o'' : D → D → Option RV} (h : CmpI X op o) (h' : CmpI X op' o') (h'' : CmpI X op'' o'') (ha : JE X G W a fa) (hb : JE X G W b fb) (hc : JE X G W c fc) (he : JE X G W e fe) (hm : lastMarks [op, op', op''] [b, c, e] = false := by with_unfolding_all rfl) :
    JT X G W (.Compare a [op, op', op''] [b, c, e] pos) (eB (eChain3 o o' o'' fa fb fc fe)) := by
  obtain ⟨r, h1, h2⟩ := h
  obtain ⟨r', h1', h2'⟩ := h'
  obtain ⟨r'', h1'', h2''⟩ := h''
  exact toT (pt_chain3 h1 h1' h1'' ha hb hc he hm) (sim_test (sim_chain3 (h2 G) (h2' G) (h2'' G) sE sE sE sE))
end
end Dl
namespace Dl
open PySem PySem.Spec PyProof.Rows L2

/-! ### a comprehension over a name whose list stays one's own -/
open Classical in
noncomputable def lcMV (vs : List Nat) (g : D → M Unit) (t : M Bool) (fe : M RV) (j : Nat) (xs : List D) : List D → List D → M (List D)
  | [], acc => fun env => if env[j]? = some (.brw xs) then .ok acc env else .stuck
  | d :: ds, acc => fun env => if env[j]? = some (.brw xs) then bindM (g d) (fun _ => bindM t fun b => if b = true then bindM fe fun r => bindM (settle r) fun e => fun env => if acc.length < LIM then lcMV vs g t fe j xs ds (acc ++ [e]) (wipeE env vs) else .stuck
      else fun env => lcMV vs g t fe j xs ds acc (wipeE env vs)) env else .stuck
open Classical in
noncomputable def eLcV (vs : List Nat) (j : Nat) (g : D → M Unit) (t : M Bool) (fe : M RV) : M RV := fun env => match env[j]? with
  | some (.imm _) => eLc vs (iSeqM (eVar j)) g t fe env
  | some (.own xs) => if j ∈ vs then .stuck else (match lcMV vs g t fe j xs xs [] (wipeE (env.set j (.brw xs)) vs) with
    | .ok acc env' => if env'[j]? = some (.brw xs) then .ok (.fresh acc) ((unwipe (env.set j (.brw xs)) env' vs).set j (.own xs)) else .stuck
    | _ => .stuck)
  | some (.brw xs) => if j ∈ vs then .stuck else (match lcMV vs g t fe j xs xs [] (wipeE env vs) with
    | .ok acc env' => .ok (.fresh acc) (unwipe env env' vs)
    | _ => .stuck)
  | _ => .stuck
def LcJ (J : It) (t : TG) (tt : TT) (te : TE) (vs : List Nat) (Q : VK) (σ : L2.St) (H1 : Hp) : Prop := ∀ D, H1 D = none → ∃ W : Nat → Nat → Hp → Prop, (∃ m, W 0 m (upd H1 D (.lst []))) ∧ ∀ i m H, W i m H →
  (J.stop i H ∧ Q (.ref D) H) ∨ (J.go i H ∧ ∃ Nx : Hp → Prop, (∀ H', Nx H' → ∃ m', m' < m ∧ W (i + 1) m' H') ∧ ∀ x H', J.yld i H x H' → t x (wipe σ vs) H' fun σ2 H2 => wipe σ2 vs = wipe σ vs ∧ tt σ2 H2 fun b H3 =>
    if b = true then te σ2 H3 fun y H4 => ∃ acc, H4 D = some (.lst acc) ∧ acc.length < sizeLine ∧ Nx (upd H4 D (.lst (acc ++ [y]))) else Nx H3)
section
variable {K : PySem.W.Frag} {G : Gs} {W : WX}
theorem lc_live {J : It} {t : TG} {g : D → M Unit} {tt : TT} {ft : M Bool} {te : TE} {fe : M RV} {vs : List Nat} {j : Nat} {q0 : Addr} {xs : List D} (hJ : Live K G J q0 xs xs) (hg : SimG K G t g) (ho : OwnG t vs) (hm : MonG t) (ht : SimT K G (fun _ _ _ _ => False) tt ft)
    (he : SimE K G (fun _ _ _ _ => False) te fe) (hjv : j ∉ vs) {F1 H1 : Hp} {σ : L2.St} {env1 : Env} {fin : List D} {envF : Env} {Q : VK} (o1 : Ok K G F1 H1 σ env1) (hs : σ[j]? = some (some (.ref q0)))
    (el : lcMV vs g ft fe j xs xs [] (wipeE env1 vs) = .ok fin envF)
    (w1 : ∀ F' H', Ok K G F' H' σ (unwipe env1 envF vs) → Fr σ env1 F1 H1 σ (unwipe env1 envF vs) F' H' → ∀ v, RvOk K G F' H' H1 σ (unwipe env1 envF vs) v (.fresh fin) → Q v H') : LcJ J t tt te vs Q σ H1 := by
  intro p hp
  obtain ⟨ow, fw⟩ := ok_wipe o1 vs
  have hsw : (wipe σ vs)[j]? = some (some (.ref q0)) := by rw [wipe_out hjv]; exact hs
  refine ⟨fun i m H' => m = xs.length - i ∧ i ≤ xs.length ∧ ∃ F' env' acc ws, Ok K G F' H' (wipe σ vs) env' ∧ Fr (wipe σ vs) (wipeE env1 vs) F1 H1 (wipe σ vs) env' F' H' ∧ H' p = some (.lst ws) ∧ F' p = none ∧ ¬ Own (wipe σ vs) env' p ∧ Reps K G.g F' ws acc ∧
    lcMV vs g ft fe j xs (xs.drop i) acc env' = .ok fin envF, ⟨xs.length, by simp, Nat.zero_le _, F1, _, [], [], ow.apart hp, Fr.apart hp, upd_same, o1.sub.none hp, ow.notOwn hp, .nil, el⟩, ?_⟩
  rintro i m H' ⟨rfl, hi', F', env', acc, ws, o, f, h1, h2, h3, rr, e⟩
  have here : env'[j]? = some (.brw xs) → ∃ us, H' q0 = some (.lst us) ∧ Reps K G.g F' us xs := fun e => by
    obtain ⟨p', us, ep, k1, _, rr⟩ := o.slot j _ _ hsw e
    cases ep
    exact ⟨us, k1, rr⟩
  by_cases hlt : i < xs.length
  · obtain ⟨d, hd⟩ : ∃ d, xs[i]? = some d := ⟨xs[i], List.getElem?_eq_getElem hlt⟩
    have hdrop : xs.drop i = d :: xs.drop (i + 1) := by
      rw [List.drop_eq_getElem_cons hlt]
      rw [List.getElem?_eq_getElem hlt] at hd
      cases hd; rfl
    rw [hdrop] at e
    unfold lcMV at e
    by_cases hj : env'[j]? = some (.brw xs)
    · rw [if_pos hj] at e
      obtain ⟨us, k1, k2⟩ := here hj
      obtain ⟨go, yl⟩ := (hJ i F' H' us k1 k2 o.sub).1 d hd
      refine .inr ⟨go, fun H3 => ∃ F3 env3 acc3 ws3, Ok K G F3 H3 (wipe σ vs) env3 ∧ Fr (wipe σ vs) (wipeE env1 vs) F1 H1 (wipe σ vs) env3 F3 H3 ∧ H3 p = some (.lst ws3) ∧ F3 p = none ∧ ¬ Own (wipe σ vs) env3 p ∧ Reps K G.g F3 ws3 acc3 ∧
        lcMV vs g ft fe j xs (xs.drop (i + 1)) acc3 env3 = .ok fin envF, fun H3 q => ⟨xs.length - (i + 1), by omega, rfl, hlt, q⟩, fun x H'' y => ?_⟩
      obtain ⟨F'', gr, rx⟩ := yl x H'' y
      have o2 := o.gr gr
      have f2 := f.trans (Fr.gr gr)
      have p1 : H'' p = some (.lst ws) := gr.h _ _ h1
      have p2 : F'' p = none := gr.low p (by rw [h1]; intro z; cases z) h2
      have rr2 := rr.mono gr.f
      have stay : ∀ {σ3 : L2.St} {env3 : Env} {F3 H3 : Hp}, Fr (wipe σ vs) env' F'' H'' σ3 env3 F3 H3 → H3 p = some (.lst ws) ∧ F3 p = none ∧ ¬ Own σ3 env3 p ∧ Reps K G.g F3 ws acc := fun {σ3 env3 F3 H3} q =>
        ⟨(q.stays p1 h3).1, q.low p (by rw [p1]; intro z; cases z) h3 p2, (q.stays p1 h3).2, rr2.mono q.sub⟩
      unfold bindM at e
      cases e1 : g d env' with
      | err x' e' => simp only [e1] at e; cases e
      | stuck => simp only [e1] at e; cases e
      | ok u env2 =>
        simp only [e1] at e
        refine hm x _ H'' _ _ (fun σ3 H3 ⟨q1, q2⟩ => ⟨q1.trans wipe_wipe, q2 (q1.trans wipe_wipe)⟩) (ho x (wipe σ vs) H'' (fun σ3 H3 => wipe σ3 vs = wipe σ vs → _) (hg F'' H'' (wipe σ vs) env' x d _ o2 rx ?_))
        rw [e1]
        intro F3 H3 σ3 o3 f3 heq
        refine ht F3 H3 σ3 env2 _ o3 ?_
        cases e2 : ft env2 with
        | err x' e' => simp only [e2] at e; cases e
        | stuck => simp only [e2] at e; cases e
        | ok b env3 =>
          simp only [e2] at e
          intro F4 H4 o4 f4
          cases b with
          | false =>
            simp only [Bool.false_eq_true, if_false] at e ⊢
            have fr := f3.trans f4
            obtain ⟨s1, s2, s3, s4⟩ := stay fr
            obtain ⟨k1, k2⟩ := ok_wipe' o4 heq
            exact ⟨F4, _, acc, ws, k1, f2.trans (fr.trans k2), s1, s2, (k2.stays s1 s3).2, s4, e⟩
          | true =>
            simp only [if_true] at e ⊢
            refine he F4 H4 σ3 env3 _ o4 ?_
            cases e3 : fe env3 with
            | err x' e' => simp only [e3] at e; cases e
            | stuck => simp only [e3] at e; cases e
            | ok rv env4 =>
              simp only [e3] at e
              intro F5 H5 o5 f5 v r
              cases e4 : settle rv env4 with
              | err x' e' => simp only [e4] at e; cases e
              | stuck => simp only [e4] at e; cases e
              | ok d' env5 =>
                simp only [e4] at e
                have ws' : Want K G (fun _ _ _ _ => False) σ3 env3 F4 H4 (settle rv env4) (fun d6 env6 _ _ => d6 = d' ∧ env6 = env5) := by rw [e4]; exact fun _ _ _ _ => ⟨rfl, rfl⟩
                obtain ⟨d6, env6, F6, o6, f6, r6, rfl, rfl⟩ := want_settle o5 f5 r ws'
                have fr := f3.trans (f4.trans f6)
                obtain ⟨s1, s2, s3, s4⟩ := stay fr
                by_cases hz : acc.length < LIM
                · rw [if_pos hz] at e
                  refine ⟨ws, s1, lim_lt (by rw [s4.length]; exact Nat.le_of_lt hz), ?_⟩
                  obtain ⟨k1, k2⟩ := ok_wipe' o6 heq
                  have nn := (k2.stays s1 s3).2
                  exact ⟨F6, _, acc ++ [d6], ws ++ [v], k1.poke nn s2, (f2.trans (fr.trans k2)).poke hp, upd_same, s2, nn, s4.append (.cons r6 .nil), e⟩
                · rw [if_neg hz] at e; cases e
    · rw [if_neg hj] at e; cases e
  · have e1 : i = xs.length := by omega
    subst e1
    rw [List.drop_length] at e
    unfold lcMV at e
    by_cases hj : env'[j]? = some (.brw xs)
    · rw [if_pos hj] at e
      obtain ⟨us, u1, u2⟩ := here hj
      cases e
      refine .inl ⟨(hJ _ F' H' us u1 u2 o.sub).2 (by simp), ?_⟩
      obtain ⟨k1, k2⟩ := ok_unwipe o1 o f
      exact w1 F' H' k1 k2 _ ⟨p, ws, rfl, h1, h2, hp, fun z => h3 (own_unwipe z), rr⟩
    · rw [if_neg hj] at e; cases e
theorem sim_lcV {t : TG} {g : D → M Unit} {tt : TT} {ft : M Bool} {te : TE} {fe : M RV} {vs : List Nat} {j : Nat} (hg : SimG K G t g) (ho : OwnG t vs) (hm : MonG t) (ht : SimT K G (fun _ _ _ _ => False) tt ft)
    (he : SimE K G (fun _ _ _ _ => False) te fe) : SimE K G W (tLc (iSeq K (tVar j)) t tt te vs) (eLcV vs j g ft fe) := fun F H σ env Q ok w => by
  cases h : env[j]? with
  | none => unfold eLcV at w; rw [h] at w; exact w.elim
  | some s =>
    have l : j < σ.length := by rw [ok.len]; exact (List.getElem?_eq_some_iff.mp h).1
    have es : σ[j]? = some σ[j] := List.getElem?_eq_getElem l
    have q := ok.slot j _ s es h
    cases s with
    | imm d =>
      unfold eLcV at w
      rw [h] at w
      exact sim_lc (simi_seq (sim_var j)) hg ho hm ht he F H σ env Q ok w
    | own xs =>
      unfold eLcV at w
      rw [h] at w
      dsimp only at w
      by_cases hv : j ∈ vs
      · rw [if_pos hv] at w; exact w.elim
      · rw [if_neg hv] at w
        obtain ⟨p, us, ep, h1, _, _⟩ := q
        rw [ep] at es
        cases el : lcMV vs g ft fe j xs xs [] (wipeE (env.set j (.brw xs)) vs) with
        | err x e => rw [el] at w; exact w.elim
        | stuck => rw [el] at w; exact w.elim
        | ok fin envF =>
          rw [el] at w
          dsimp only at w
          by_cases hF : envF[j]? = some (.brw xs)
          · rw [if_pos hF] at w
            have hF' : (unwipe (env.set j (.brw xs)) envF vs)[j]? = some (.brw xs) := by rw [unwipe_out hv]; exact hF
            refine ⟨.ref p, es, p, rfl, .inl ⟨⟨us, SqL.of h1⟩, ?_⟩⟩
            refine lc_live (J := Itl K p) live_list hg ho hm ht he hv (ok.lock h) es el fun F' H' o' f' v r => ?_
            refine w F' H' (o'.unlock hF') (f'.unlock h hF') v ?_
            obtain ⟨p2, vs2, q1, q2, q3, q4, q5, q6⟩ := r
            exact ⟨p2, vs2, q1, q2, q3, q4, fun z => q5 ((own_lock hF' rfl rfl).mp z), q6⟩
          · rw [if_neg hF] at w; exact w.elim
    | brw xs =>
      unfold eLcV at w
      rw [h] at w
      dsimp only at w
      by_cases hv : j ∈ vs
      · rw [if_pos hv] at w; exact w.elim
      · rw [if_neg hv] at w
        obtain ⟨p, us, ep, h1, _, _⟩ := q
        rw [ep] at es
        cases el : lcMV vs g ft fe j xs xs [] (wipeE env vs) with
        | err x e => rw [el] at w; exact w.elim
        | stuck => rw [el] at w; exact w.elim
        | ok fin envF =>
          rw [el] at w
          refine ⟨.ref p, es, p, rfl, .inl ⟨⟨us, SqL.of h1⟩, ?_⟩⟩
          exact lc_live (J := Itl K p) live_list hg ho hm ht he hv ok es el fun F' H' o' f' v r => w F' H' o' f' v r
    | none => unfold eLcV at w; rw [h] at w; exact w.elim
    | obj c ds => unfold eLcV at w; rw [h] at w; exact w.elim
    | exc x => unfold eLcV at w; rw [h] at w; exact w.elim
end
section
variable {X : Cx} {G : Gs} {W : WX} {elt tg c : Expr} {scope : Scope} {own : List (Str × Nat)} {pos spos py p : Pos} {g : D → M Unit} {ft : M Bool} {fe : M RV} {x y : Str}
theorem je_lcV {t : TG} {vs : List Nat} (j : Nat) (hc : X.calm = true) (hN : X.N.Nodup) (ok : BlkOk X.N X.env.scope scope own) (ev : own.map (·.2) = vs) (hg : JC X G vs scope tg t g)
    (he : BlkX X scope fun Y => JE Y G (fun _ _ _ _ => False) elt fe) (hNj : X.N[j]? = some x := by rfl) (hv : Vis X.env.scope x := by first | exact Or.inl rfl | exact Or.inr (Or.inl rfl) | exact Or.inr (Or.inr rfl)) (hd : (x == ("__debug__" : Str)) = false := by decide)
    (hcd : (x == ("__classdict__" : Str)) = false := by decide) (hs : ∀ z, foldedSetIterable (.Name x p) X.env z = pure z := by intro _; rfl) : JE X G W (.ListComp elt [⟨tg, .Name x p, [], 0⟩] scope pos) (eLcV vs j g eYes fe) := by
  subst ev
  exact toE (pe_lc (te := rdE X.K G (fun _ _ _ _ => False) fe) hc hN (pi_seq (pe_var hNj hv hd hcd)) ok hg.p (fun _ _ _ _ _ => pts_nil) he hs) (sim_lcV hg.s hg.o hg.m sim_yes sE)
theorem je_lcVIf {t : TG} {vs : List Nat} (j : Nat) (hc : X.calm = true) (hN : X.N.Nodup) (ok : BlkOk X.N X.env.scope scope own) (ev : own.map (·.2) = vs) (hg : JC X G vs scope tg t g) (hif : BlkX X scope fun Y => JT Y G (fun _ _ _ _ => False) c ft)
    (he : BlkX X scope fun Y => JE Y G (fun _ _ _ _ => False) elt fe) (hNj : X.N[j]? = some x := by rfl) (hv : Vis X.env.scope x := by first | exact Or.inl rfl | exact Or.inr (Or.inl rfl) | exact Or.inr (Or.inr rfl)) (hd : (x == ("__debug__" : Str)) = false := by decide)
    (hcd : (x == ("__classdict__" : Str)) = false := by decide) (hs : ∀ z, foldedSetIterable (.Name x p) X.env z = pure z := by intro _; rfl) : JE X G W (.ListComp elt [⟨tg, .Name x p, [c], 0⟩] scope pos) (eLcV vs j g ft fe) := by
  subst ev
  exact toE (pe_lc (te := rdE X.K G (fun _ _ _ _ => False) fe) (tt := rdT X.K G (fun _ _ _ _ => False) ft) hc hN (pi_seq (pe_var hNj hv hd hcd)) ok hg.p (fun s H C cl fp => pts_one (hif s H C cl fp)) he hs) (sim_lcV hg.s hg.o hg.m sT sE)
theorem js_setLcV (i : Nat) {t : TG} {vs : List Nat} (j : Nat) (hc : X.calm = true) (hN : X.N.Nodup) (ok : BlkOk X.N X.env.scope scope own) (ev : own.map (·.2) = vs) (hg : JC X G vs scope tg t g)
    (he : BlkX X scope fun Y => JE Y G (fun _ _ _ _ => False) elt fe) (hy : X.N[i]? = some y := by rfl) (hyl : X.env.scope.names.lookup y = some .local := by rfl) (hNj : X.N[j]? = some x := by rfl) (hv : Vis X.env.scope x := by first | exact Or.inl rfl | exact Or.inr (Or.inl rfl) | exact Or.inr (Or.inr rfl)) (hd : (x == ("__debug__" : Str)) = false := by decide)
    (hcd : (x == ("__classdict__" : Str)) = false := by decide) (hs : ∀ z, foldedSetIterable (.Name x p) X.env z = pure z := by intro _; rfl)
    (hsw : swapsWith (.ListComp elt [⟨tg, .Name x p, [], 0⟩] scope pos) (some (.Name y py)) spos.line X.env = pure true := by rfl) : JS X G W (.Assign [.Name y py] (.ListComp elt [⟨tg, .Name x p, [], 0⟩] scope pos) spos) (sAsg i (eLcV vs j g eYes fe)) := by
  subst ev
  exact toS (ps_setLc (te := rdE X.K G (fun _ _ _ _ => False) fe) hc hN hy hyl hsw (pi_seq (pe_var hNj hv hd hcd)) ok hg.p (fun _ _ _ _ _ => pts_nil) he hs) (sim_asg (sim_lcV hg.s hg.o hg.m sim_yes sE))
theorem js_setLcVIf (i : Nat) {t : TG} {vs : List Nat} (j : Nat) (hc : X.calm = true) (hN : X.N.Nodup) (ok : BlkOk X.N X.env.scope scope own) (ev : own.map (·.2) = vs) (hg : JC X G vs scope tg t g) (hif : BlkX X scope fun Y => JT Y G (fun _ _ _ _ => False) c ft)
    (he : BlkX X scope fun Y => JE Y G (fun _ _ _ _ => False) elt fe) (hy : X.N[i]? = some y := by rfl) (hyl : X.env.scope.names.lookup y = some .local := by rfl) (hNj : X.N[j]? = some x := by rfl) (hv : Vis X.env.scope x := by first | exact Or.inl rfl | exact Or.inr (Or.inl rfl) | exact Or.inr (Or.inr rfl)) (hd : (x == ("__debug__" : Str)) = false := by decide)
    (hcd : (x == ("__classdict__" : Str)) = false := by decide) (hs : ∀ z, foldedSetIterable (.Name x p) X.env z = pure z := by intro _; rfl)
    (hsw : swapsWith (.ListComp elt [⟨tg, .Name x p, [c], 0⟩] scope pos) (some (.Name y py)) spos.line X.env = pure true := by rfl) : JS X G W (.Assign [.Name y py] (.ListComp elt [⟨tg, .Name x p, [c], 0⟩] scope pos) spos) (sAsg i (eLcV vs j g ft fe)) := by
  subst ev
  exact toS (ps_setLc (te := rdE X.K G (fun _ _ _ _ => False) fe) (tt := rdT X.K G (fun _ _ _ _ => False) ft) hc hN hy hyl hsw (pi_seq (pe_var hNj hv hd hcd)) ok hg.p (fun s H C cl fp => pts_one (hif s H C cl fp)) he hs) (sim_asg (sim_lcV hg.s hg.o hg.m sT sE))
end
end Dl
namespace Dl
open PySem PySem.Spec PyProof.Rows L2

/-! ### things = [..]; return things[i] : the picked one as it was made -/
def sPick (i : Nat) (fa : M (List RV)) (fc : M RV) : M Out := bindM fa fun rs => fun env => if rs.length ≤ LIM ∧ i < env.length then bindM fc (fun r => fun env => match r with
  | .imm (.int k) => (match atI rs k with
    | some (.imm d) => .ok (.ret (.imm d)) env
    | some (.fresh xs) => .ok (.ret (.fresh xs)) env
    | _ => .stuck)
  | _ => .stuck) (env.set i .none) else .stuck
section
variable {K : PySem.W.Frag} {G : Gs} {W : WX}
theorem RvsOk.at_ {F H H0 : Hp} {σ : L2.St} {env : Env} : ∀ {vs : List V} {rs : List RV} {j : Nat} {rv : RV}, RvsOk K G F H H0 σ env vs rs → rs[j]? = some rv → ∃ v, vs[j]? = some v ∧ RvOk K G F H H0 σ env v rv
  | _, _, _, _, .nil, e => by simp at e
  | _, _, 0, _, .cons h _, e => by simp at e; subst e; exact ⟨_, rfl, h⟩
  | _, _, j + 1, rv, .cons _ r, e => by
    obtain ⟨v, h1, h2⟩ := RvsOk.at_ (j := j) (rv := rv) r (by simpa using e)
    exact ⟨v, by simpa using h1, h2⟩
theorem RvsOk.length {F H H0 : Hp} {σ : L2.St} {env : Env} : ∀ {vs : List V} {rs : List RV}, RvsOk K G F H H0 σ env vs rs → vs.length = rs.length
  | _, _, .nil => rfl
  | _, _, .cons _ r => congrArg (· + 1) r.length
theorem sim_pick {i : Nat} {ta : TA} {fa : M (List RV)} {tc : TE} {fc : M RV} (ha : SimP K G W ta fa) (hc : SimE K G W tc fc) : SimS K G W (tSeq (tAsg (tLst ta) (gName i)) (tRet (tOp (rIx K) (tVar i) tc))) (sPick i fa fc) := fun F H σ env D ok w => by
  refine ha F H σ env _ ok ((wantS_bind w).imp fun rs env1 F1 H1 o1 f1 k vs rvs => ?_)
  obtain ⟨_, w1⟩ := k o1 f1
  by_cases hz : rs.length ≤ LIM ∧ i < env1.length
  · rw [if_pos hz] at w1
    refine ⟨lim_line (by rw [rvs.length]; exact hz.1), fun p hp => ?_⟩
    have o2 : Ok K G F1 (upd H1 p (.lst vs)) (σ.set i (some (.ref p))) (env1.set i .none) := (o1.apart hp).put (s := .none) trivial fun z => nomatch z
    have f2 : Fr σ env1 F1 H1 (σ.set i (some (.ref p))) (env1.set i .none) F1 (upd H1 p (.lst vs)) := (Fr.apart hp).trans (Fr.put (s := .none) rfl fun z => nomatch z)
    have hi : i < σ.length := by rw [o1.len]; exact hz.2
    refine ⟨.ref p, List.getElem?_set_self hi, ?_⟩
    refine hc _ _ _ _ _ o2 ?_
    unfold bindM at w1
    cases e : fc (env1.set i .none) with
    | stuck => simp only [e] at w1; exact w1.elim
    | err x env3 => simp only [e] at w1; exact fun F3 H3 cls d o3 f3 xo => w1 F3 H3 _ cls d o3 ((f1.trans f2).trans f3) xo
    | ok r env3 =>
      simp only [e] at w1
      intro F3 H3 o3 f3 y ry
      cases r with
      | fresh zs => exact w1.elim
      | al j => exact w1.elim
      | imm d =>
        cases d with
        | int kk =>
          dsimp only at w1
          cases (show Rep K G.g F3 y (.int kk) from ry)
          have fT := f2.trans f3
          have hnp : ¬ Own (σ.set i (some (.ref p))) (env1.set i .none) p := fun z => by
            rcases own_set z with z | ⟨m, _⟩
            · exact o1.notOwn hp z
            · cases m
          have hp3 := (f3.stays upd_same hnp).1
          have pick : ∀ rv, atI rs kk = some rv → ∃ v, atI vs kk = some v ∧ RvOk K G F1 H1 H σ env1 v rv := fun rv e => by
            unfold atI at e ⊢
            rw [rvs.length]
            cases ex : ixN rs.length kk with
            | none => rw [ex] at e; cases e
            | some j =>
              rw [ex] at e
              obtain ⟨v, e1, e2⟩ := rvs.at_ (show rs[j]? = some rv from e)
              exact ⟨v, e1, e2⟩
          cases er : atI rs kk with
          | none => rw [er] at w1; exact w1.elim
          | some rv =>
            rw [er] at w1
            obtain ⟨v, ev, rvo⟩ := pick rv er
            refine .inl ⟨p, vs, kk, v, rfl, rfl, SqL.of hp3, ev, ?_⟩
            cases rv with
            | al j => exact w1.elim
            | imm d => exact w1 F3 H3 _ v o3 (f1.trans fT) (Rep.mono fT.sub rvo)
            | fresh xs =>
              obtain ⟨p2, us, e2, q1, q2, q3, q4, q5⟩ := rvo
              obtain ⟨s1, s2⟩ := fT.stays q1 q4
              exact w1 F3 H3 _ v o3 (f1.trans fT) ⟨p2, us, e2, s1, fT.low p2 (by rw [q1]; intro z; cases z) q4 q2, q3, s2, q5.mono fT.sub⟩
        | _ => exact w1.elim
  · rw [if_neg hz] at w1; exact w1.elim
end
section
variable {X : Cx} {G : Gs} {W : WX} {es : List Expr} {e : Expr} {fa : M (List RV)} {fc : M RV} {x : Str} {p1 p2 p3 p4 p5 p6 : Pos}
/-- as the last two statements of a body -/
theorem jss_pick (i : Nat) (hN : X.N.Nodup) (ha : JP X G W es fa) (hc : JE X G W e fc) (hi : X.N[i]? = some x := by rfl) (hx : Loc X.env.scope x := by first | exact Or.inl rfl | exact Or.inr rfl) (hs : swapsWith (.List es p1) (some (.Name x p2)) p3.line X.env = pure false := by rfl)
    (hf : X.fn x = true ∨ X.env.scope.names.lookup x = some .local := by first | exact .inl rfl | exact .inr rfl) (hv : Vis X.env.scope x := by first | exact Or.inl rfl | exact Or.inr (Or.inl rfl) | exact Or.inr (Or.inr rfl)) (hd : (x == ("__debug__" : Str)) = false := by decide)
    (hcd : (x == ("__classdict__" : Str)) = false := by decide) (hpl : PlainIx e := by exact fun _ _ => rfl) :
    JSs X G W [.Assign [.Name x p2] (.List es p1) p3, .Return (some (.Subscript (.Name x p4) e p5)) p6] (sPick i fa fc) :=
  toSs (pss_cons (ps_set hN hi hx (pe_lst ha) hs hf) (pss_one (ps_ret (pe_ix ix_seq (pe_var hi hv hd hcd) hc hpl)))) (sim_pick sP sE)
end
/-! ### == : own where the left one is an instance, dicts, data -/
def eqW (kn : List Nat) (c : Nat) (den : List SV → Cal) (d e : D) : Option Bool := match d with
  | .ins _ _ => eqO kn c den d e
  | _ => eqA d e
def opEqW (kn : List Nat) (c : Nat) (den : List SV → Cal) (d e : D) : Option RV := (eqW kn c den d e).map fun b => .imm (.bl b)
section
variable {K : PySem.W.Frag} {G : Gs}
theorem ok_eqW {kn : List Nat} {c : Nat} {den : List SV → Cal} (kk : KnOk K G.g kn) (hc : c ∈ kn) (hsub : ∀ T ∈ bts7, PySem.W.notFirst K (G.g c).1 (.type T) = true) (hsubk : ∀ c' ∈ kn, PySem.W.notFirst K (G.g c).1 (.ref (G.g c').1) = true) :
    OpOkR K G (fun x y H Q => (rEqO K (G.g c).1 (spD K G 2 den) x y H Q ∨ rEqD K x y H Q) ∨ rEqDA x y H Q) (opEqW kn c den) := fun F H x y d e rv Q s px py ho q => by
  have hA : eqW kn c den d e = eqA d e → rEqD K x y H Q ∨ rEqDA x y H Q := fun h => ok_eqA F H x y d e rv Q s (.rep px) (.rep py) (by unfold opEqW at ho; rw [h] at ho; exact ho) q
  cases d with
  | ins c' ds => exact .inl (ok_eqO kk hc hsub hsubk F H x y _ e rv Q s px py ho q)
  | _ => exact (hA rfl).elim (fun z => .inl (.inr z)) .inr
end
section
variable {X : Cx} {G : Gs} {W : WX} {fa fb : M RV} {a b : Expr} {pos : Pos} {k : Nat} {f : Addr} {ps : List Str} {den : List SV → Cal} {kn : List Nat} {c0 : Nat}
theorem je_eqW (kk : KnOk X.K G.g kn) (hc : c0 ∈ kn) (q : EqC X.K G.g kn c0 f) (Z : Fk X.prog X.w X.K X.mg X.base f ps k (spD X.K G 2 den)) (hr : Room k X.A) (ha : JE X G W a fa) (hb : JE X G W b fb) : JE X G W (.Compare a [.Eq] [b] pos) (eOp2R (opEqW kn c0 den) fa fb) := by
  obtain ⟨fd, F, hbi, _⟩ := Z.ex
  have o := ((op_eqO F hr hbi q.hs q.hf).or (op_eqD hr.units)).or (op_eq_dictA (by have := hr.units; omega))
  exact toE (pe_cmpR o ha hb (nomark _)) (sim_op2R (ok_eqW kk hc q.h1 q.h2) sE sE)
theorem jt_eqW (kk : KnOk X.K G.g kn) (hc : c0 ∈ kn) (q : EqC X.K G.g kn c0 f) (Z : Fk X.prog X.w X.K X.mg X.base f ps k (spD X.K G 2 den)) (hr : Room k X.A) (ha : JE X G W a fa) (hb : JE X G W b fb) : JT X G W (.Compare a [.Eq] [b] pos) (eB (eOp2R (opEqW kn c0 den) fa fb)) := by
  obtain ⟨fd, F, hbi, _⟩ := Z.ex
  have o := ((op_eqO F hr hbi q.hs q.hf).or (op_eqD hr.units)).or (op_eq_dictA (by have := hr.units; omega))
  exact toT (pt_cmpR o ha hb (nomark _)) (sim_test (sim_op2R (ok_eqW kk hc q.h1 q.h2) sE sE))
end
end Dl
namespace Dl
open PySem PySem.Spec PyProof.Rows L2
/-! ### running denotations, a statement at a time -/
section
variable {a b : M Out} {t : M Bool} {env env1 : Dl.Env} {r : Res Out}
theorem seq_nx (h : a env = .ok .nx env1) (h2 : b env1 = r) : sSeq a b env = r := by unfold sSeq; rw [h]; exact h2
theorem seq_ret {v : RV} (h : a env = .ok (.ret v) env1) : sSeq a b env = .ok (.ret v) env1 := by unfold sSeq; rw [h]
theorem seq_err {x : Exn} (h : a env = .err x env1) : sSeq a b env = .err x env1 := by unfold sSeq; rw [h]
theorem seq_bk (h : a env = .ok .bk env1) : sSeq a b env = .ok .bk env1 := by unfold sSeq; rw [h]
theorem seq_ct (h : a env = .ok .ct env1) : sSeq a b env = .ok .ct env1 := by unfold sSeq; rw [h]
theorem if_t (h : t env = .ok true env1) (h2 : a env1 = r) : sIf t a b env = r := by unfold sIf bindM; rw [h]; exact h2
theorem if_f (h : t env = .ok false env1) (h2 : b env1 = r) : sIf t a b env = r := by unfold sIf bindM; rw [h]; exact h2
theorem if_pass (h : t env = .ok false env1) : sIf t a sNx env = .ok .nx env1 := if_f h rfl
theorem eor_t {t s : M Bool} (h : t env = .ok true env1) : eOr t s env = .ok true env1 := by unfold eOr bindM; rw [h]; rfl
theorem eor_f {t s : M Bool} {r : Res Bool} (h : t env = .ok false env1) (h2 : s env1 = r) : eOr t s env = r := by unfold eOr bindM; rw [h]; exact h2
theorem eand_f {t s : M Bool} (h : t env = .ok false env1) : eAnd t s env = .ok false env1 := by unfold eAnd bindM; rw [h]; rfl
theorem eand_t {t s : M Bool} {r : Res Bool} (h : t env = .ok true env1) (h2 : s env1 = r) : eAnd t s env = r := by unfold eAnd bindM; rw [h]; exact h2
end
/-! ### how a def ends, by its body's end -/
section
variable {n m : Nat} {f : M Out} {svs us : List SV} {env' : Dl.Env}
theorem den_nx (hl : svs.length = n) (ha : svs.all SV.arg = true) (h : f (svs ++ List.replicate m .none) = .ok .nx env') (ho : outs svs env' = some us) : denOf n m f svs = .ok (.imm .non) us := by
  unfold denOf; rw [if_pos ⟨hl, ha⟩, h]; simp only [finC, ho]
theorem den_ret {v rv : RV} (hl : svs.length = n) (ha : svs.all SV.arg = true) (h : f (svs ++ List.replicate m .none) = .ok (.ret v) env') (hr : retRV env' v = some rv) (ho : outs svs env' = some us) : denOf n m f svs = .ok rv us := by
  unfold denOf; rw [if_pos ⟨hl, ha⟩, h]; simp only [finC, hr, ho]
theorem den_errE {x : Exn} (hl : svs.length = n) (ha : svs.all SV.arg = true) (h : f (svs ++ List.replicate m .none) = .err x env') (ho : outs svs env' = some us) : denOf n m f svs = .err x us := by
  unfold denOf; rw [if_pos ⟨hl, ha⟩, h]; simp only [ho]
end
section
variable {fb : M Out} {cl : List Clause} {env env1 env2 : Dl.Env} {x : Exn} {o : Out}
theorem try_ok (h : fb env = .ok o env1) : sTry fb cl env = .ok o env1 := by unfold sTry; rw [h]
theorem try_hit {f : M Out} {hit : Nat → Option Bool} {i : Nat} (h : fb env = .err x env1) (hh : hit x.c = some true) (hn : noExc env1 = true) {v : RV} (hs : f (env1.set i (.exc x)) = .ok (.ret v) env2) (hv : ∀ j, v ≠ .al j) (hc : noExc (env2.set i .none) = true) :
    sTry fb (⟨hit, some i, f⟩ :: cl) env = .ok (.ret v) (env2.set i .none) := by
  unfold sTry; rw [h]; simp only [tryH, hh, hn, if_true, hs]
  unfold endH
  cases v with
  | al j => exact absurd rfl (hv j)
  | imm d => exact if_pos hc
  | fresh d => exact if_pos hc
theorem try_miss {f : M Out} {hit : Nat → Option Bool} {sl : Option Nat} (h : fb env = .err x env1) (hh : hit x.c = some false) {r : Res Out} (hs : sTry fb cl env = r) : sTry fb (⟨hit, sl, f⟩ :: cl) env = r := by
  unfold sTry at hs ⊢; rw [h] at hs ⊢; simp only [tryH, hh]; exact hs
end
theorem rng1 (f : M (List RV)) (env env' : Dl.Env) (rv : RV) (j : Int) (h : f env = .ok [rv] env') (hp : peek env' rv = some (.int j)) (h0 : -1000000 ≤ j) (h1 : j ≤ 1000000) : Dl.iRng1M f env = .ok ((List.range j.toNat).map fun (k : Nat) => D.int k) env' := by
  have h2 : -(2 ^ 62) ≤ j ∧ j < 2 ^ 62 := by
    have a : (2 : Int) ^ 62 = 4611686018427387904 := by decide
    omega
  unfold Dl.iRng1M Dl.bindM
  rw [h]
  simp only [peeks, hp]
  rw [if_pos h2]
end Dl
namespace PySem.W
open PySem
section
variable {prog : Program} {w : World} {A : Around} {E : Value → Shared → Prop} {s : Shared} {K : Frag} {x C L f : Addr} {h₀ : Heap} {m : Str → Option Value} {ox : Obj} {od : Option Obj}
/-- an object that stands for no int -/
def NoPrim (o : Obj) : Prop := ∀ v, o.data ≠ .prim v
theorem asInt_ref {M : Model} {Q : Option Int → Shared → Prop} (e : s.heap.get? x = some ox) (hn : NoPrim ox) (q : Q none s) : wpAny M A (asInt? (.ref x)) Q E s := by
  unfold asInt?
  refine wpAny_bind (wpAny_load e ?_)
  cases hd : ox.data with
  | prim v => exact absurd hd (hn v)
  | _ => exact wpAny_pure q
theorem intBinary_ref {M : Model} {name : String} {g : Int → Int → Sem Fin} {Q : Fin → Shared → Prop} {a : Int} {t : Tok} (e : s.heap.get? x = some ox) (hn : NoPrim ox) (q : Q (.done (.ret .notImplemented)) s) :
    wpAny M A (Builtin.Int.intBinary name g false ⟨[.int a t, .ref x], []⟩) Q E s := by
  have h : wpAny M A (asInt? (.ref x)) (fun o s' => o = none ∧ s' = s) E s := asInt_ref e hn ⟨rfl, rfl⟩
  unfold Builtin.Int.intBinary
  obtain ⟨hp, gg, d, tk, os⟩ := s
  repeat (first
    | (refine wpAny_bind (m := asInt? (.ref x)) (wpAny_mono h (fun o s' hr => by
        obtain ⟨rfl, rfl⟩ := hr
        repeat (first | exact q | wp_step)) fun _ _ e => e))
    | exact q
    | wp_step)
theorem rbin_K {op : Operator} {i : Int} {t : Tok} {g : Addr} {id : String} {Q : Value → Shared → Prop} (X : K.In s.heap) (I : InstAt s.heap x ox C od) (hc : selfFirst K C = true)
    (hs0 : findIn K (.ref C) (PySem.dunder op.info.2) = some (some (.ref g))) (hs : findIn K (.ref C) (dunderR op.info.2) = some (some (.ref f))) (hf : isFn K (.ref f) = true) (hsub : subIn K (.ref C) (.type "int") = some false)
    (hfill : fillsNumberSlot (.type "int") op.info.2 = pure true) (slot : Slot "int" (PySem.dunder op.info.2) id)
    (hd : ∀ Q' : Value → Shared → Prop, Q' .notImplemented s → wpAny (model prog w) A (call (.builtin id) [.int i t, .ref x]) Q' E s)
    (h : wpAny (model prog w) A (call (.ref f) [.ref x, .int i t]) (CmpBack Q) E s) : wpAny (model prog w) A (binaryOp op (.int i t) (.ref x)) Q E s := by
  obtain ⟨cd, rest, hcd, hm⟩ := ksp_first hc
  rcases hi : op.info with ⟨sym, nm'⟩
  rw [hi] at hs0 hs hfill slot
  dsimp only at hs0 hs hfill slot
  have one := ksp_try (b := .int i t) X I hs hf h
  have two : wpAny (model prog w) A (tryMethod (.int i t) (PySem.dunder nm') (.ref x)) (fun r s' => r = none ∧ s' = s) E s := wpAny_tryMethod_declines (typeIs_int s i t) slot (hd _ ⟨rfl, rfl, rfl⟩)
  obtain ⟨hh, gg, d, tt, os⟩ := s
  have L1 : Looks (model prog w) hh (typeOf (.int i t)) (.type "int") := Looks.of_pure rfl
  have L2 : Looks (model prog w) hh (typeOf (.ref x)) (.ref C) := I.type
  have L3 : Looks (model prog w) hh (fillsNumberSlot (.type "int") nm') true := Looks.of_pure hfill
  have L4 : Looks (model prog w) hh (fillsNumberSlot (.ref C) nm') true := fills_K X hcd hm hs0
  have L5 : Looks (model prog w) hh (isSubtype (.ref C) (.type "int")) false := looks_subIn X hsub
  have L7 : Looks (model prog w) hh (numberSlotInPython (.type "int") nm') false := Looks.of_pure rfl
  have hne : (Value.type "int" == Value.ref C) = false := Bool.eq_false_iff.mpr fun q => by cases beq_iff_eq.mp q
  simp only [binaryOp, hi]
  refine wpAny_holding (wpAny_bind ?_)
  unfold binaryOp1
  refine wpAny_bind (L1.at (wpAny_bind (L2.at (wpAny_bind (L3.at ?_)))))
  simp only [hne, Bool.false_eq_true, if_false]
  ksp_lk
  refine wpAny_mono two (fun r s' hr' => ?_) fun _ _ e => e
  obtain ⟨rfl, rfl⟩ := hr'
  ksp_lk
  refine wpAny_mono one (fun r s' hr' => ?_) fun _ _ e => e
  obtain ⟨v, rfl, hq⟩ := hr'
  ksp_lk
  exact hq
theorem call_int_ref {id : String} {name : String} {g : Int → Int → Sem Fin} {B : Builtin} {i : Int} {t : Tok} {nm : Str} (slot : Slot "int" nm id) (entry : entryFor table id = some B) (hB : B = Builtin.Int.intBinary name g false) (args : argsOk id ⟨[.int i t, .ref x], []⟩) (e : s.heap.get? x = some ox) (hn : NoPrim ox) {Q : Value → Shared → Prop} (q : Q .notImplemented s) :
    wpAny (model prog w) A (call (.builtin id) [.int i t, .ref x]) Q E s := by
  have g := intBinary_ref (name := name) (g := g) (A := A.in1) (M := model prog w) (a := i) (t := t) (E := fun e s' => wants Q E (.error e) s') (Q := fun fin s' => match fin with
    | .done f => wants Q E (.ok f) s'
    | .again c' => c'.quiet = true ∧ codeAny (model prog w) A c' (wants Q E) s') e hn q
  rw [← hB] at g
  exact wpAny_call (codeAny_call_builtin slot.plain entry (slot.check _ _ _ _ _ _ _ _ (typeIs_int s i t) args g))
end
end PySem.W
namespace L2
open PySem PySem.Spec PyProof.Rows
/-- an operator that the class at C defines: the facts -/
structure OpC (K : PySem.W.Frag) (C : Addr) (nm : String) (f g : Addr) : Prop where
  sf : PySem.W.selfFirst K C = true
  h : PySem.W.findIn K (.ref C) (PySem.dunder nm) = some (some (.ref f))
  hf : PySem.W.isFn K (.ref f) = true
  r : PySem.W.findIn K (.ref C) (dunderR nm) = some (some (.ref g))
  rf : PySem.W.isFn K (.ref g) = true
  i1 : (PySem.W.findIn K (.type "int") (PySem.dunder nm)).isSome = true
  i2 : (PySem.W.findIn K (.type "int") (dunderR nm)).isSome = true
  s1 : PySem.W.subIn K (.type "int") (.ref C) = some false
  s2 : PySem.W.subIn K (.ref C) (.type "int") = some false
def opCB (K : PySem.W.Frag) (C : Addr) (nm : String) (f g : Addr) : Bool := PySem.W.selfFirst K C && (decide (PySem.W.findIn K (.ref C) (PySem.dunder nm) = some (some (.ref f))) && (PySem.W.isFn K (.ref f) && (decide (PySem.W.findIn K (.ref C) (dunderR nm) = some (some (.ref g))) && (PySem.W.isFn K (.ref g) &&
  ((PySem.W.findIn K (.type "int") (PySem.dunder nm)).isSome && ((PySem.W.findIn K (.type "int") (dunderR nm)).isSome && (decide (PySem.W.subIn K (.type "int") (.ref C) = some false) && decide (PySem.W.subIn K (.ref C) (.type "int") = some false))))))))
theorem opCB_ok {K : PySem.W.Frag} {C : Addr} {nm : String} {f g : Addr} (h : opCB K C nm f g = true) : OpC K C nm f g := by
  obtain ⟨h1, h⟩ := He.ba h
  obtain ⟨h2, h⟩ := He.ba h
  obtain ⟨h3, h⟩ := He.ba h
  obtain ⟨h4, h⟩ := He.ba h
  obtain ⟨h5, h⟩ := He.ba h
  obtain ⟨h6, h⟩ := He.ba h
  obtain ⟨h7, h⟩ := He.ba h
  obtain ⟨h8, h9⟩ := He.ba h
  exact ⟨h1, of_decide_eq_true h2, h3, of_decide_eq_true h4, h5, h6, h7, of_decide_eq_true h8, of_decide_eq_true h9⟩
/-- what int's own side of an operator does -/
structure IntOp (op : Operator) : Prop where
  fill : fillsNumberSlot (.type "int") op.info.2 = pure true
  dec : ∃ id, Slot "int" (PySem.dunder op.info.2) id ∧ ∀ {prog : Program} {w : World} {A : Around} {E : Value → Shared → Prop} {s : Shared} {x : Addr} {ox : Obj} {i : Int} {t : Tok}, s.heap.get? x = some ox → PySem.W.NoPrim ox → ∀ Q' : Value → Shared → Prop, Q' .notImplemented s →
    wpAny (model prog w) A (call (.builtin id) [.int i t, .ref x]) Q' E s
theorem io_add : IntOp .Add := ⟨F.fills_int_add, _, F.slot_int_add, fun e hn Q' q => PySem.W.call_int_ref F.slot_int_add F.entry_int_add rfl (F.args_int_add_2 _ _) e hn q⟩
theorem io_sub : IntOp .Sub := ⟨F.fills_int_sub, _, F.slot_int_sub, fun e hn Q' q => PySem.W.call_int_ref F.slot_int_sub F.entry_int_sub rfl (F.args_int_sub_2 _ _) e hn q⟩
theorem io_mul : IntOp .Mult := ⟨F.fills_int_mul, _, F.slot_int_mul, fun e hn Q' q => PySem.W.call_int_ref F.slot_int_mul F.entry_int_mul rfl (F.args_int_mul_2 _ _) e hn q⟩
/-- the left one's own operator; the right one is of its class, or an int -/
def rBinL (C : Addr) (sp : Sp) : R2 := fun x y H Q => ∃ a dx fs, x = .ref a ∧ H a = some (.ins C dx fs) ∧ ((∃ b dy gs, y = .ref b ∧ H b = some (.ins C dy gs)) ∨ ∃ i, y = .int i) ∧ sp [x, y] H Q fun _ _ _ => False
/-- an int on the left: the right one's reflected operator -/
def rBinR (C : Addr) (sp : Sp) : R2 := fun x y H Q => ∃ a dx fs i, y = .ref a ∧ H a = some (.ins C dx fs) ∧ x = .int i ∧ sp [y, x] H Q fun _ _ _ => False
/-- a sign of one's own -/
def rOwn1 (C : Addr) (sp : Sp) : V → Hp → VK → Prop := fun x H Q => ∃ a dx fs, x = .ref a ∧ H a = some (.ins C dx fs) ∧ sp [x] H Q fun _ _ _ => False
section
variable {X : Cx} {k k' : Nat} {f g C : Addr} {fd fd' : FuncData} {ps ps' : List Str} {sp sp' : Sp}
theorem noPrim_inst {C dx : Addr} : PySem.W.NoPrim (PySem.W.instObj C dx) := fun v e => nomatch e
theorem back_of {z : V} {w : Value} {Q : Value → Shared → Prop} {s : Shared} (r : RelV z w) (q : Q w s) : PySem.W.CmpBack Q w s := by
  cases z with
  | non => cases r; exact q
  | bl b => cases r; exact q
  | int i => obtain ⟨t, rfl⟩ := r; exact q
  | str i => obtain ⟨t, rfl⟩ := r; exact q
  | byt i => obtain ⟨t, rfl⟩ := r; exact q
  | flt i => obtain ⟨t, rfl⟩ := r; exact q
  | ref i => cases r; exact q
  | ty i => cases r; exact q
theorem op_binL {op : Operator} (q : OpC X.K C op.info.2 f g) (F : FnOk X.prog X.w X.K X.mg X.base (L2.CX X.prog X.w) k f fd ps sp) (hr : Room k X.A) (hb : Binds X.K fd ps []) : OpR X (binaryOp op) (rBinL C sp) := by
  intro pins s σ H x y v u Q I rx ry hq
  obtain ⟨a, dx, fs, rfl, ha, hy, h⟩ := hq
  cases rx
  obtain ⟨mA, J, _⟩ := ins_get I.hok ha
  obtain ⟨od, J, _⟩ := J.look
  obtain ⟨m, hF⟩ := I.fr
  have hrun := run_eqO (x := .ref a) (y := y) (v := u) (R := PySem.W.CmpBack (EP X pins σ Q)) F hr rfl hb I rfl ry h fun z w H' s' I' rz q => back_of rz ⟨z, H', I', rz, q⟩
  rcases hy with ⟨b, dy, gs, rfl, hb'⟩ | ⟨i, rfl⟩
  · cases ry
    obtain ⟨mB, JB, _⟩ := ins_get I.hok hb'
    obtain ⟨ob, JB, _⟩ := JB.look
    exact PySem.W.binop_K hF I.ok.mod.kin J JB.type q.sf q.h q.hf hrun
  · obtain ⟨t, rfl⟩ := ry
    obtain ⟨fo, h1⟩ := Option.isSome_iff_exists.mp q.i1
    obtain ⟨ro, h2⟩ := Option.isSome_iff_exists.mp q.i2
    exact PySem.W.ksp_binT hF I.ok.mod.kin J rfl q.sf q.h q.hf q.r (.inr ⟨g, rfl⟩) h1 h2 q.s1 hrun
theorem op_binR {op : Operator} (io : IntOp op) (q : OpC X.K C op.info.2 f g) (F : FnOk X.prog X.w X.K X.mg X.base (L2.CX X.prog X.w) k g fd ps sp) (hr : Room k X.A) (hb : Binds X.K fd ps []) : OpR X (binaryOp op) (rBinR C sp) := by
  intro pins s σ H x y v u Q I rx ry hq
  obtain ⟨a, dx, fs, i, rfl, ha, rfl, h⟩ := hq
  cases ry
  obtain ⟨mA, J0, _⟩ := ins_get I.hok ha
  obtain ⟨od, J, _⟩ := J0.look
  obtain ⟨id, slot, dec⟩ := io.dec
  have hrun := run_eqO (x := .ref a) (y := .int i) (v := v) (R := PySem.W.CmpBack (EP X pins σ Q)) F hr rfl hb I rfl rx h fun z w H' s' I' rz q => back_of rz ⟨z, H', I', rz, q⟩
  obtain ⟨t, rfl⟩ := rx
  exact PySem.W.rbin_K I.kIn J q.sf q.h q.r q.rf q.s2 io.fill slot (fun Q' q' => dec J0.obj noPrim_inst Q' q') hrun
theorem un_own (hs : PySem.W.findIn X.K (.ref C) "__neg__" = some (some (.ref f))) (hf : PySem.W.isFn X.K (.ref f) = true) (F : FnOk X.prog X.w X.K X.mg X.base (L2.CX X.prog X.w) k f fd ps sp) (hr : Room k X.A) (hb : Binds X.K fd ps []) : UnR X (unaryOp .USub) (rOwn1 C sp) := by
  intro pins s σ H x v Q I rx hq
  obtain ⟨a, dx, fs, rfl, ha, h⟩ := hq
  cases rx
  obtain ⟨mA, J, _⟩ := ins_get I.hok ha
  obtain ⟨od, J, _⟩ := J.look
  obtain ⟨m, hF⟩ := I.fr
  refine PySem.W.ksp_neg hF I.ok.mod.kin J hs hf ?_
  have e := I.env0
  have e0 : Env0 X.prog X.w X.K X.mg X.base X.A X.stack s H := ⟨e.frames, e.mod, e.bs, e.bsz, e.funs, e.frf, e.hok, e.bare⟩
  have hl := F.len _ _ _ _ h
  have r2 : Vals [V.ref a] [Value.ref a] := .cons rfl .nil
  refine wpAny_call (codeAny_mono (F.run X.A X.stack s H ⟨[.ref a], []⟩ [.ref a] [.ref a] Q _ hr e0 (by
    have := hb s [.ref a] I.kIn (by simpa using hl)
    simpa using this) r2 h) fun r s' hq => ?_)
  cases r with
  | error e =>
    obtain ⟨_, _, _, _, _, _, _, _, _, _, _, _, z⟩ := hq
    exact z.elim
  | ok fl =>
    cases fl with
    | ret w =>
      obtain ⟨z, H', I', rz, q⟩ := I.after hq
      exact ⟨z, H', I', rz, q⟩
    | next => exact False.elim hq
    | brk => exact False.elim hq
    | cont => exact False.elim hq
end
end L2
namespace Dl
open PySem PySem.Spec PyProof.Rows L2
/-! ### own operators -/
def immOf : Cal → Option RV
  | .ok (.imm v) _ => some (.imm v)
  | _ => none
def sideB (c : Nat) : D → Bool
  | .ins c' _ => c' == c
  | .int _ => true
  | _ => false
def intB : D → Bool
  | .int _ => true
  | _ => false
def opBin (c : Nat) (dL dR : List SV → Cal) (op0 : D → D → Option RV) (d e : D) : Option RV := match d with
  | .ins c' ds => if c' = c ∧ sideB c e = true then immOf (dL [.imm (.ins c ds), .imm e]) else none
  | d => match e with
    | .ins c' es => if c' = c ∧ intB d = true then immOf (dR [.imm (.ins c es), .imm d]) else none
    | e => op0 d e
def opNegO (c : Nat) (den : List SV → Cal) (d : D) : Option RV := match d with
  | .ins c' ds => if c' = c then immOf (den [.imm (.ins c ds)]) else none
  | _ => none
section
variable {K : PySem.W.Frag} {G : Gs}
theorem run_imms {n : Nat} {den : List SV → Cal} {F H : Hp} {xs : List V} {ds : List D} {rv : RV} {Q : VK} (hn : xs.length = n) (s : Le F H) (rs : Reps K G.g F xs ds) (h : immOf (den (ds.map SV.imm)) = some rv) (q : ∀ v F' H', Gr F H F' H' → RvD K G F' H' H v rv → Q v H') :
    spD K G n den xs H Q fun _ _ _ => False := by
  have noI : ∀ (i : Nat) (sv : SV), (ds.map SV.imm)[i]? = some sv → sv.mut = false := fun i sv h1 => by
    rw [List.getElem?_map] at h1
    cases hd : ds[i]? with
    | none => rw [hd] at h1; cases h1
    | some d => rw [hd] at h1; cases h1; rfl
  have ok : Ok K G F H (xs.map some) (ds.map SV.imm) := by
    refine ⟨s, by simp [rs.length], fun i o sv h1 h2 => ?_, fun i j s1 s2 a h1 m1 _ _ _ _ => ?_⟩
    · rw [List.getElem?_map] at h1 h2
      cases hd : ds[i]? with
      | none => rw [hd] at h2; cases h2
      | some d =>
        rw [hd] at h2; cases h2
        obtain ⟨v, hv, rv⟩ := rs.get' hd
        rw [hv] at h1; cases h1
        exact ⟨v, rfl, rv⟩
    · rw [noI i s1 h1] at m1; cases m1
  have nown : ∀ a', ¬ Own (xs.map some) (ds.map SV.imm) a' := fun a' ⟨i, sv, h1, m, _⟩ => by rw [noI i sv h1] at m; cases m
  refine ⟨F, _, hn, ok, ?_⟩
  cases ed : den (ds.map SV.imm) with
  | ok r us =>
    rw [ed] at h
    cases r with
    | imm d =>
      cases h
      intro v F' H' o' f' rr' na
      exact q v F' H' ⟨f'.sub, fun a' o e' => f'.keep a' o e' (nown a'), o'.sub, fun a' h1 h2 => f'.low a' h1 (nown a') h2⟩ rr'
    | _ => cases h
  | err xx us => rw [ed] at h; cases h
  | stuck => rw [ed] at h; cases h
theorem ok_bin {c : Nat} {dL dR : List SV → Cal} {r0 : R2} {op0 : D → D → Option RV} (ho : OpOk K G r0 op0) :
    OpOkR K G (fun x y H Q => (rBinL (G.g c).1 (spD K G 2 dL) x y H Q ∨ rBinR (G.g c).1 (spD K G 2 dR) x y H Q) ∨ r0 x y H Q) (opBin c dL dR op0) := fun F H x y d e rv Q s px py h q => by
  have left : ∀ ds, d = .ins c ds → sideB c e = true → immOf (dL [.imm d, .imm e]) = some rv → rBinL (G.g c).1 (spD K G 2 dL) x y H Q := fun ds hd hs hi => by
    subst hd
    have px' := px
    cases px with
    | @ins a dx _ vs _ ha hl rr =>
      refine ⟨a, dx, _, rfl, s _ _ ha, ?_, run_imms (xs := [.ref a, y]) (ds := [.ins c ds, e]) rfl s (.cons px' (.cons py .nil)) hi q⟩
      cases e with
      | ins c' es =>
        have : c' = c := by simpa [sideB] using hs
        subst this
        cases py with
        | ins h1 h2 h3 => exact .inl ⟨_, _, _, rfl, s _ _ h1⟩
      | int i => cases py; exact .inr ⟨i, rfl⟩
      | _ => cases hs
  have right : ∀ es, e = .ins c es → intB d = true → immOf (dR [.imm e, .imm d]) = some rv → rBinR (G.g c).1 (spD K G 2 dR) x y H Q := fun es he hs hi => by
    subst he
    have py' := py
    cases py with
    | @ins a dx _ vs _ ha hl rr =>
      cases d with
      | int i =>
        have px' := px
        cases px
        exact ⟨a, dx, _, i, rfl, s _ _ ha, rfl, run_imms (xs := [.ref a, .int i]) (ds := [.ins c es, .int i]) rfl s (.cons py' (.cons px' .nil)) hi q⟩
      | _ => cases hs
  have base : op0 d e = some rv → r0 x y H Q := fun h => ho F H x y d e rv Q s (.rep px) (.rep py) h q
  cases d with
  | ins c' ds =>
    unfold opBin at h
    simp only at h
    by_cases z : c' = c ∧ sideB c e = true
    · rw [if_pos z] at h
      obtain ⟨rfl, z2⟩ := z
      exact .inl (.inl (left ds rfl z2 h))
    · rw [if_neg z] at h; cases h
  | _ =>
    cases e with
    | ins c' es =>
      unfold opBin at h
      simp only at h
      split at h
      · rename_i z
        obtain ⟨rfl, z2⟩ := z
        exact .inl (.inr (right es rfl z2 h))
      · cases h
    | _ => exact .inr (base h)
theorem ok_negO {c : Nat} {den : List SV → Cal} {F H : Hp} {x : V} {d : D} {rv : RV} {Q : VK} (s : Le F H) (px : Rep K G.g F x d) (h : opNegO c den d = some rv) (q : ∀ v F' H', Gr F H F' H' → RvD K G F' H' H v rv → Q v H') : rOwn1 (G.g c).1 (spD K G 1 den) x H Q := by
  cases d with
  | ins c' ds =>
    unfold opNegO at h
    simp only at h
    by_cases z : c' = c
    · subst z
      rw [if_pos rfl] at h
      have px' := px
      cases px with
      | @ins a dx _ vs _ ha hl rr => exact ⟨a, dx, _, rfl, s _ _ ha, run_imms (xs := [.ref a]) (ds := [.ins c' ds]) rfl s (.cons px' .nil) h q⟩
    · rw [if_neg z] at h; cases h
  | _ => cases h
def eNegO (c : Nat) (den : List SV → Cal) (fa : M RV) : M RV := bindM fa fun a => bindM (settle a) fun d => fun env => match opNegO c den d with
  | some rv => .ok rv env
  | none => .stuck
variable {W : WX}
theorem sim_negO {c : Nat} {den : List SV → Cal} {ta : TE} {fa : M RV} (ha : SimE K G W ta fa) : SimE K G W (tUn (rOwn1 (G.g c).1 (spD K G 1 den)) ta) (eNegO c den fa) := fun F H σ env Q ok w => by
  refine ha F H σ env _ ok ((want_raw w).imp fun a env1 F1 H1 o1 f1 w1 x rx => ?_)
  obtain ⟨d, env2, F2, o2, f2, r2, w2⟩ := want_bind_settle o1 f1 rx w1
  cases eo : opNegO c den d with
  | none => rw [eo] at w2; exact w2.elim
  | some rv =>
    rw [eo] at w2
    exact ok_negO o2.sub r2 eo fun v F' H' g rd => w2 F' H' (o2.gr g) (Fr.gr g) v (RvD.ok o2 g rd fun a h => f2.new h)
end
section
variable {X : Cx} {G : Gs} {W : WX} {fa fb : M RV} {a b : Expr} {pos : Pos} {k k' : Nat} {f g : Addr} {ps ps' : List Str} {dL dR : List SV → Cal} {c0 : Nat}
theorem je_bin {op : Operator} {r0 : R2} {op0 : D → D → Option RV} (h0 : OpR X (binaryOp op) r0) (ho : OpOk X.K G r0 op0) (io : IntOp op) (q : OpC X.K (G.g c0).1 op.info.2 f g) (Z : Fk X.prog X.w X.K X.mg X.base f ps k (spD X.K G 2 dL)) (hr : Room k X.A) (Z' : Fk X.prog X.w X.K X.mg X.base g ps' k' (spD X.K G 2 dR)) (hr' : Room k' X.A)
    (ha : JE X G W a fa) (hb : JE X G W b fb) : JE X G W (.BinOp a op b pos) (eOp2R (opBin c0 dL dR op0) fa fb) := by
  obtain ⟨fd, F, hbi, _⟩ := Z.ex
  obtain ⟨fd', F', hbi', _⟩ := Z'.ex
  exact toE (pe_op (((op_binL q F hr hbi).or (op_binR io q F' hr' hbi')).or h0) ha hb) (sim_op2R (ok_bin ho) sE sE)
theorem je_addO (q : OpC X.K (G.g c0).1 "add" f g) (Z : Fk X.prog X.w X.K X.mg X.base f ps k (spD X.K G 2 dL)) (hr : Room k X.A) (Z' : Fk X.prog X.w X.K X.mg X.base g ps' k' (spD X.K G 2 dR)) (hr' : Room k' X.A) (ha : JE X G W a fa) (hb : JE X G W b fb) : JE X G W (.BinOp a .Add b pos) (eOp2R (opBin c0 dL dR opAdd) fa fb) := je_bin op_addAll ok_add io_add q Z hr Z' hr' ha hb
theorem je_subO (q : OpC X.K (G.g c0).1 "sub" f g) (Z : Fk X.prog X.w X.K X.mg X.base f ps k (spD X.K G 2 dL)) (hr : Room k X.A) (Z' : Fk X.prog X.w X.K X.mg X.base g ps' k' (spD X.K G 2 dR)) (hr' : Room k' X.A) (ha : JE X G W a fa) (hb : JE X G W b fb) : JE X G W (.BinOp a .Sub b pos) (eOp2R (opBin c0 dL dR opSub) fa fb) := je_bin op_sub ok_sub io_sub q Z hr Z' hr' ha hb
theorem je_mulO (q : OpC X.K (G.g c0).1 "mul" f g) (Z : Fk X.prog X.w X.K X.mg X.base f ps k (spD X.K G 2 dL)) (hr : Room k X.A) (Z' : Fk X.prog X.w X.K X.mg X.base g ps' k' (spD X.K G 2 dR)) (hr' : Room k' X.A) (ha : JE X G W a fa) (hb : JE X G W b fb) : JE X G W (.BinOp a .Mult b pos) (eOp2R (opBin c0 dL dR opMul) fa fb) := je_bin op_mulAll ok_mul io_mul q Z hr Z' hr' ha hb
/-- the left one's own operator alone -/
def nCal : List SV → Cal := fun _ => .stuck
theorem je_binL {op : Operator} {r0 : R2} {op0 : D → D → Option RV} (h0 : OpR X (binaryOp op) r0) (ho : OpOk X.K G r0 op0) (q : OpC X.K (G.g c0).1 op.info.2 f g) (Z : Fk X.prog X.w X.K X.mg X.base f ps k (spD X.K G 2 dL)) (hr : Room k X.A)
    (ha : JE X G W a fa) (hb : JE X G W b fb) : JE X G W (.BinOp a op b pos) (eOp2R (opBin c0 dL nCal op0) fa fb) := by
  obtain ⟨fd, F, hbi, _⟩ := Z.ex
  refine toE (pe_op ((op_binL q F hr hbi).or h0) ha hb) (sim_op2R (fun F H x y d e rv Q s px py h qq => ?_) sE sE)
  rcases ok_bin (dR := nCal) ho F H x y d e rv Q s px py h qq with (z | z) | z
  · exact .inl z
  · obtain ⟨_, _, _, _, _, _, _, z⟩ := z
    obtain ⟨_, _, _, _, z⟩ := z
    exact z.elim
  · exact .inr z
theorem je_negO (hs : PySem.W.findIn X.K (.ref (G.g c0).1) "__neg__" = some (some (.ref f)) ∧ PySem.W.isFn X.K (.ref f) = true) (Z : Fk X.prog X.w X.K X.mg X.base f ps k (spD X.K G 1 dL)) (hr : Room k X.A) (ha : JE X G W a fa) : JE X G W (.UnaryOp .USub a pos) (eNegO c0 dL fa) := by
  obtain ⟨fd, F, hbi, _⟩ := Z.ex
  exact toE (pe_un (un_own hs.1 hs.2 F hr hbi) ha) (sim_negO sE)
def negB (K : PySem.W.Frag) (C f : Addr) : Bool := decide (PySem.W.findIn K (.ref C) "__neg__" = some (some (.ref f))) && PySem.W.isFn K (.ref f)
theorem negB_ok {K : PySem.W.Frag} {C f : Addr} (h : negB K C f = true) : PySem.W.findIn K (.ref C) "__neg__" = some (some (.ref f)) ∧ PySem.W.isFn K (.ref f) = true := by
  obtain ⟨h1, h2⟩ := He.ba h
  exact ⟨of_decide_eq_true h1, h2⟩
/-! ### what is never reached -/
def eStuck : M RV := fun _ => .stuck
def sStuck : M Out := fun _ => .stuck
theorem je_stuck (e : Expr) : JE X G W e eStuck := ⟨fun _ _ _ _ _ _ ⟨_, _, _, w⟩ => w.elim⟩
theorem js_stuck (e : Stmt) : JS X G W e sStuck := ⟨fun _ _ _ _ _ _ ⟨_, _, _, w⟩ => w.elim⟩
end
end Dl
namespace L01
open PySem PySem.Spec PyProof.Rows L2 Dl
def top (i : Nat) : Stmt := PySem.Challenge.pw_likespans_k01_whole_sums_of_ratios.main.body.getD i (.Pass ⟨0, 0, 0, 0⟩)
abbrev s_BadNumber___init__ : Stmt := (inClass (top 2) 0)
def d_BadNumber___init__ : He.DefD := ⟨("BadNumber", some "__init__"), "__init__", "BadNumber.__init__", defArgs s_BadNumber___init__, defBody s_BadNumber___init__, defScope s_BadNumber___init__, [], []⟩
abbrev s_is_integer : Stmt := (top 4)
def d_is_integer : He.DefD := ⟨("is_integer", none), "is_integer", "is_integer", defArgs s_is_integer, defBody s_is_integer, defScope s_is_integer, [], []⟩
abbrev s_common : Stmt := (top 5)
def d_common : He.DefD := ⟨("common", none), "common", "common", defArgs s_common, defBody s_common, defScope s_common, [], []⟩
abbrev s_Ratio___init__ : Stmt := (inClass (top 6) 0)
def d_Ratio___init__ : He.DefD := ⟨("Ratio", some "__init__"), "__init__", "Ratio.__init__", defArgs s_Ratio___init__, defBody s_Ratio___init__, defScope s_Ratio___init__, [], []⟩
abbrev s_Ratio___eq__ : Stmt := (inClass (top 6) 1)
def d_Ratio___eq__ : He.DefD := ⟨("Ratio", some "__eq__"), "__eq__", "Ratio.__eq__", defArgs s_Ratio___eq__, defBody s_Ratio___eq__, defScope s_Ratio___eq__, [], []⟩
abbrev s_Ratio___neg__ : Stmt := (inClass (top 6) 2)
def d_Ratio___neg__ : He.DefD := ⟨("Ratio", some "__neg__"), "__neg__", "Ratio.__neg__", defArgs s_Ratio___neg__, defBody s_Ratio___neg__, defScope s_Ratio___neg__, [], []⟩
abbrev s_Ratio___add__ : Stmt := (inClass (top 6) 3)
def d_Ratio___add__ : He.DefD := ⟨("Ratio", some "__add__"), "__add__", "Ratio.__add__", defArgs s_Ratio___add__, defBody s_Ratio___add__, defScope s_Ratio___add__, [], []⟩
abbrev s_Ratio___radd__ : Stmt := (inClass (top 6) 4)
def d_Ratio___radd__ : He.DefD := ⟨("Ratio", some "__radd__"), "__radd__", "Ratio.__radd__", defArgs s_Ratio___radd__, defBody s_Ratio___radd__, defScope s_Ratio___radd__, [], []⟩
abbrev s_Ratio___sub__ : Stmt := (inClass (top 6) 5)
def d_Ratio___sub__ : He.DefD := ⟨("Ratio", some "__sub__"), "__sub__", "Ratio.__sub__", defArgs s_Ratio___sub__, defBody s_Ratio___sub__, defScope s_Ratio___sub__, [], []⟩
abbrev s_Ratio___rsub__ : Stmt := (inClass (top 6) 6)
def d_Ratio___rsub__ : He.DefD := ⟨("Ratio", some "__rsub__"), "__rsub__", "Ratio.__rsub__", defArgs s_Ratio___rsub__, defBody s_Ratio___rsub__, defScope s_Ratio___rsub__, [], []⟩
abbrev s_Ratio___mul__ : Stmt := (inClass (top 6) 7)
def d_Ratio___mul__ : He.DefD := ⟨("Ratio", some "__mul__"), "__mul__", "Ratio.__mul__", defArgs s_Ratio___mul__, defBody s_Ratio___mul__, defScope s_Ratio___mul__, [], []⟩
abbrev s_Ratio___rmul__ : Stmt := (inClass (top 6) 8)
def d_Ratio___rmul__ : He.DefD := ⟨("Ratio", some "__rmul__"), "__rmul__", "Ratio.__rmul__", defArgs s_Ratio___rmul__, defBody s_Ratio___rmul__, defScope s_Ratio___rmul__, [], []⟩
abbrev s_Ratio_over : Stmt := (inClass (top 6) 9)
def d_Ratio_over : He.DefD := ⟨("Ratio", some "over"), "over", "Ratio.over", defArgs s_Ratio_over, defBody s_Ratio_over, defScope s_Ratio_over, [], []⟩
abbrev s_Ratio_less : Stmt := (inClass (top 6) 10)
def d_Ratio_less : He.DefD := ⟨("Ratio", some "less"), "less", "Ratio.less", defArgs s_Ratio_less, defBody s_Ratio_less, defScope s_Ratio_less, [], []⟩
abbrev s_Ratio_sign : Stmt := (inClass (top 6) 11)
def d_Ratio_sign : He.DefD := ⟨("Ratio", some "sign"), "sign", "Ratio.sign", defArgs s_Ratio_sign, defBody s_Ratio_sign, defScope s_Ratio_sign, [], []⟩
abbrev s_Ratio_whole : Stmt := (inClass (top 6) 12)
def d_Ratio_whole : He.DefD := ⟨("Ratio", some "whole"), "whole", "Ratio.whole", defArgs s_Ratio_whole, defBody s_Ratio_whole, defScope s_Ratio_whole, [], []⟩
abbrev s_Ratio_rest : Stmt := (inClass (top 6) 13)
def d_Ratio_rest : He.DefD := ⟨("Ratio", some "rest"), "rest", "Ratio.rest", defArgs s_Ratio_rest, defBody s_Ratio_rest, defScope s_Ratio_rest, [], []⟩
abbrev s_is_number : Stmt := (top 7)
def d_is_number : He.DefD := ⟨("is_number", none), "is_number", "is_number", defArgs s_is_number, defBody s_is_number, defScope s_is_number, [], []⟩
abbrev s_as_ratio : Stmt := (top 8)
def d_as_ratio : He.DefD := ⟨("as_ratio", none), "as_ratio", "as_ratio", defArgs s_as_ratio, defBody s_as_ratio, defScope s_as_ratio, [], []⟩
abbrev s__law_source : Stmt := (top 10)
def d__law_source : He.DefD := ⟨("_law_source", none), "_law_source", "_law_source", defArgs s__law_source, defBody s__law_source, defScope s__law_source, [], []⟩
abbrev s__law_draw : Stmt := (top 11)
def d__law_draw : He.DefD := ⟨("_law_draw", none), "_law_draw", "_law_draw", defArgs s__law_draw, defBody s__law_draw, defScope s__law_draw, [], []⟩
abbrev s__law_integer : Stmt := (top 12)
def d__law_integer : He.DefD := ⟨("_law_integer", none), "_law_integer", "_law_integer", defArgs s__law_integer, defBody s__law_integer, defScope s__law_integer, [], []⟩
abbrev s__law_odd : Stmt := (top 13)
def d__law_odd : He.DefD := ⟨("_law_odd", none), "_law_odd", "_law_odd", defArgs s__law_odd, defBody s__law_odd, defScope s__law_odd, [], []⟩
abbrev s__law_alike : Stmt := (top 14)
def d__law_alike : He.DefD := ⟨("_law_alike", none), "_law_alike", "_law_alike", defArgs s__law_alike, defBody s__law_alike, defScope s__law_alike, [], []⟩
abbrev s__law_lowest : Stmt := (top 15)
def d__law_lowest : He.DefD := ⟨("_law_lowest", none), "_law_lowest", "_law_lowest", defArgs s__law_lowest, defBody s__law_lowest, defScope s__law_lowest, [], []⟩
abbrev s__law_whole : Stmt := (top 16)
def d__law_whole : He.DefD := ⟨("_law_whole", none), "_law_whole", "_law_whole", defArgs s__law_whole, defBody s__law_whole, defScope s__law_whole, [], []⟩
abbrev s__law_pair : Stmt := (top 17)
def d__law_pair : He.DefD := ⟨("_law_pair", none), "_law_pair", "_law_pair", defArgs s__law_pair, defBody s__law_pair, defScope s__law_pair, [], []⟩
abbrev s__law_is : Stmt := (top 18)
def d__law_is : He.DefD := ⟨("_law_is", none), "_law_is", "_law_is", defArgs s__law_is, defBody s__law_is, defScope s__law_is, [], []⟩
abbrev s__law_over : Stmt := (top 19)
def d__law_over : He.DefD := ⟨("_law_over", none), "_law_over", "_law_over", defArgs s__law_over, defBody s__law_over, defScope s__law_over, [], []⟩
abbrev s__law_less : Stmt := (top 20)
def d__law_less : He.DefD := ⟨("_law_less", none), "_law_less", "_law_less", defArgs s__law_less, defBody s__law_less, defScope s__law_less, [], []⟩
abbrev s__law_sum : Stmt := (top 21)
def d__law_sum : He.DefD := ⟨("_law_sum", none), "_law_sum", "_law_sum", defArgs s__law_sum, defBody s__law_sum, defScope s__law_sum, [], []⟩
abbrev s__law_done : Stmt := (top 22)
def d__law_done : He.DefD := ⟨("_law_done", none), "_law_done", "_law_done", defArgs s__law_done, defBody s__law_done, defScope s__law_done, [], []⟩
abbrev s__law_quotient : Stmt := (top 23)
def d__law_quotient : He.DefD := ⟨("_law_quotient", none), "_law_quotient", "_law_quotient", defArgs s__law_quotient, defBody s__law_quotient, defScope s__law_quotient, [], []⟩
abbrev s__law_questions : Stmt := (top 24)
def d__law_questions : He.DefD := ⟨("_law_questions", none), "_law_questions", "_law_questions", defArgs s__law_questions, defBody s__law_questions, defScope s__law_questions, [], []⟩
abbrev s_law : Stmt := (top 25)
def d_law : He.DefD := ⟨("law", none), "law", "law", defArgs s_law, defBody s_law, defScope s_law, [], []⟩
def fn : List He.DefD := [d_BadNumber___init__, d_is_integer, d_common, d_Ratio___init__, d_Ratio___eq__, d_Ratio___neg__, d_Ratio___add__, d_Ratio___radd__, d_Ratio___sub__, d_Ratio___rsub__, d_Ratio___mul__, d_Ratio___rmul__, d_Ratio_over, d_Ratio_less, d_Ratio_sign, d_Ratio_whole, d_Ratio_rest, d_is_number, d_as_ratio, d__law_source, d__law_draw, d__law_integer, d__law_odd, d__law_alike, d__law_lowest, d__law_whole, d__law_pair, d__law_is, d__law_over, d__law_less, d__law_sum, d__law_done, d__law_quotient, d__law_questions, d_law]
def fa : List He.Fa := [.free "len", .free "min", .free "range", .free "abs", .free "max", .glo "common", .glo "BadNumber", .free "int", .free "isinstance", .free "bool", .glo "is_integer", .glo "Ratio", .glo "_law_draw", .glo "_law_whole", .glo "_law_lowest", .glo "_law_pair", .glo "_law_alike", .free "all", .glo "as_ratio", .glo "is_number", .glo "_law_less", .glo "_law_over", .glo "_law_odd", .glo "_law_integer", .glo "_law_is", .glo "_law_questions", .glo "_law_quotient", .glo "_law_done", .glo "_law_sum", .glo "_law_source", .glo "law"]
def ct (K : PySem.W.Frag) : CT := fun n => match n with
  | 0 => (He.ga K "SpansError", [])
  | 1 => (He.ga K "BadNumber", ["value"])
  | 2 => (He.ga K "Ratio", ["top", "bottom"])
  | _ => (0, [])
def kn : List Nat := [2]
def en : List Nat := [1]
def G (K : PySem.W.Frag) : Gs := ⟨ct K, 0, .none, none⟩
def xl (K : PySem.W.Frag) : List Bool := [knB K (ct K) kn,
  atB K (ct K) 2 1 "bottom",
  atB K (ct K) 2 0 "top",
  exnB K (He.ga K "BadNumber") (He.ma K (He.ga K "BadNumber") "__init__") "value",
  mkB K (He.ga K "Ratio") (He.ma K (He.ga K "Ratio") "__init__"),
  methB K (He.ga K "Ratio") "less" (He.ma K (He.ga K "Ratio") "less"),
  exmB K (ct K) [(1, true)] (.ref (He.ga K "BadNumber")),
  eqCB K (ct K) kn 2 (He.ma K (He.ga K "Ratio") "__eq__"),
  methB K (He.ga K "Ratio") "over" (He.ma K (He.ga K "Ratio") "over"),
  methB K (He.ga K "Ratio") "rest" (He.ma K (He.ga K "Ratio") "rest"),
  negB K (He.ga K "Ratio") (He.ma K (He.ga K "Ratio") "__neg__"),
  methB K (He.ga K "Ratio") "whole" (He.ma K (He.ga K "Ratio") "whole"),
  methB K (He.ga K "Ratio") "sign" (He.ma K (He.ga K "Ratio") "sign"),
  opCB K (He.ga K "Ratio") "mul" (He.ma K (He.ga K "Ratio") "__mul__") (He.ma K (He.ga K "Ratio") "__rmul__"),
  opCB K (He.ga K "Ratio") "sub" (He.ma K (He.ga K "Ratio") "__sub__") (He.ma K (He.ga K "Ratio") "__rsub__"),
  opCB K (He.ga K "Ratio") "add" (He.ma K (He.ga K "Ratio") "__add__") (He.ma K (He.ga K "Ratio") "__radd__")]
structure Zs (K : PySem.W.Frag) (mg : Str → Option Value) : Prop where
  c : He.SaysD fa fn K
  x : (xl K).all id = true
  gl : ∀ x, (He.Fa.glo x).ok K = true → mg x = some (.ref (He.ga K x))
  fr : ∀ x, (He.Fa.free x).ok K = true → mg x = none
  gi : ∀ x i, (He.Fa.int x i).ok K = true → ∃ t, mg x = some (.int i t)
section
variable {P : Program} {w : World} {K : PySem.W.Frag} {mg : Str → Option Value} {base : Heap}
theorem fr_len (Z : Zs K mg) : mg "len" = none := Z.fr _ (Z.c.fact 0 (f := .free "len") rfl)
theorem fr_min (Z : Zs K mg) : mg "min" = none := Z.fr _ (Z.c.fact 1 (f := .free "min") rfl)
theorem fr_range (Z : Zs K mg) : mg "range" = none := Z.fr _ (Z.c.fact 2 (f := .free "range") rfl)
theorem fr_abs (Z : Zs K mg) : mg "abs" = none := Z.fr _ (Z.c.fact 3 (f := .free "abs") rfl)
theorem fr_max (Z : Zs K mg) : mg "max" = none := Z.fr _ (Z.c.fact 4 (f := .free "max") rfl)
theorem kk (Z : Zs K mg) : KnOk K (ct K) kn := knB_ok (xget Z.x 0 rfl)
theorem at_Ratio_bottom (Z : Zs K mg) : AtOk K (ct K) 2 1 "bottom" := atB_ok (kk Z) (by decide) (xget Z.x 1 rfl)
theorem at_Ratio_top (Z : Zs K mg) : AtOk K (ct K) 2 0 "top" := atB_ok (kk Z) (by decide) (xget Z.x 2 rfl)
theorem g_common (Z : Zs K mg) : mg "common" = some (.ref (He.ga K "common")) := Z.gl _ (Z.c.fact 5 (f := .glo "common") rfl)
theorem x_BadNumber (Z : Zs K mg) : ExnC K (He.ga K "BadNumber") (He.ma K (He.ga K "BadNumber") "__init__") "value" := exnB_ok (xget Z.x 3 rfl)
theorem g_BadNumber (Z : Zs K mg) : mg "BadNumber" = some (.ref (He.ga K "BadNumber")) := Z.gl _ (Z.c.fact 6 (f := .glo "BadNumber") rfl)
theorem fr_int (Z : Zs K mg) : mg "int" = none := Z.fr _ (Z.c.fact 7 (f := .free "int") rfl)
theorem fr_isinstance (Z : Zs K mg) : mg "isinstance" = none := Z.fr _ (Z.c.fact 8 (f := .free "isinstance") rfl)
theorem fr_bool (Z : Zs K mg) : mg "bool" = none := Z.fr _ (Z.c.fact 9 (f := .free "bool") rfl)
theorem g_is_integer (Z : Zs K mg) : mg "is_integer" = some (.ref (He.ga K "is_integer")) := Z.gl _ (Z.c.fact 10 (f := .glo "is_integer") rfl)
theorem mk_Ratio (Z : Zs K mg) : Mk K (He.ga K "Ratio") (He.ma K (He.ga K "Ratio") "__init__") := mkB_ok (xget Z.x 4 rfl)
theorem g_Ratio (Z : Zs K mg) : mg "Ratio" = some (.ref (He.ga K "Ratio")) := Z.gl _ (Z.c.fact 11 (f := .glo "Ratio") rfl)
theorem g__law_draw (Z : Zs K mg) : mg "_law_draw" = some (.ref (He.ga K "_law_draw")) := Z.gl _ (Z.c.fact 12 (f := .glo "_law_draw") rfl)
theorem g__law_whole (Z : Zs K mg) : mg "_law_whole" = some (.ref (He.ga K "_law_whole")) := Z.gl _ (Z.c.fact 13 (f := .glo "_law_whole") rfl)
theorem g__law_lowest (Z : Zs K mg) : mg "_law_lowest" = some (.ref (He.ga K "_law_lowest")) := Z.gl _ (Z.c.fact 14 (f := .glo "_law_lowest") rfl)
theorem g__law_pair (Z : Zs K mg) : mg "_law_pair" = some (.ref (He.ga K "_law_pair")) := Z.gl _ (Z.c.fact 15 (f := .glo "_law_pair") rfl)
theorem g__law_alike (Z : Zs K mg) : mg "_law_alike" = some (.ref (He.ga K "_law_alike")) := Z.gl _ (Z.c.fact 16 (f := .glo "_law_alike") rfl)
theorem fr_all (Z : Zs K mg) : mg "all" = none := Z.fr _ (Z.c.fact 17 (f := .free "all") rfl)
theorem g_as_ratio (Z : Zs K mg) : mg "as_ratio" = some (.ref (He.ga K "as_ratio")) := Z.gl _ (Z.c.fact 18 (f := .glo "as_ratio") rfl)
theorem g_is_number (Z : Zs K mg) : mg "is_number" = some (.ref (He.ga K "is_number")) := Z.gl _ (Z.c.fact 19 (f := .glo "is_number") rfl)
theorem me_Ratio_less (Z : Zs K mg) : Meth K (He.ga K "Ratio") "less" (He.ma K (He.ga K "Ratio") "less") := methB_ok (xget Z.x 5 rfl)
theorem exm_BadNumber (Z : Zs K mg) : ∀ p ∈ ([(1, true)] : List (Nat × Bool)), PySem.W.exmOne K (.ref ((ct K) p.1).1) (.ref (He.ga K "BadNumber")) = some p.2 := exmB_ok (xget Z.x 6 rfl)
theorem g__law_less (Z : Zs K mg) : mg "_law_less" = some (.ref (He.ga K "_law_less")) := Z.gl _ (Z.c.fact 20 (f := .glo "_law_less") rfl)
theorem eq_Ratio (Z : Zs K mg) : EqC K (ct K) kn 2 (He.ma K (He.ga K "Ratio") "__eq__") := eqCB_ok (xget Z.x 7 rfl)
theorem me_Ratio_over (Z : Zs K mg) : Meth K (He.ga K "Ratio") "over" (He.ma K (He.ga K "Ratio") "over") := methB_ok (xget Z.x 8 rfl)
theorem g__law_over (Z : Zs K mg) : mg "_law_over" = some (.ref (He.ga K "_law_over")) := Z.gl _ (Z.c.fact 21 (f := .glo "_law_over") rfl)
theorem g__law_odd (Z : Zs K mg) : mg "_law_odd" = some (.ref (He.ga K "_law_odd")) := Z.gl _ (Z.c.fact 22 (f := .glo "_law_odd") rfl)
theorem me_Ratio_rest (Z : Zs K mg) : Meth K (He.ga K "Ratio") "rest" (He.ma K (He.ga K "Ratio") "rest") := methB_ok (xget Z.x 9 rfl)
theorem g__law_integer (Z : Zs K mg) : mg "_law_integer" = some (.ref (He.ga K "_law_integer")) := Z.gl _ (Z.c.fact 23 (f := .glo "_law_integer") rfl)
theorem g__law_is (Z : Zs K mg) : mg "_law_is" = some (.ref (He.ga K "_law_is")) := Z.gl _ (Z.c.fact 24 (f := .glo "_law_is") rfl)
theorem neg_Ratio (Z : Zs K mg) : PySem.W.findIn K (.ref (He.ga K "Ratio")) "__neg__" = some (some (.ref (He.ma K (He.ga K "Ratio") "__neg__"))) ∧ PySem.W.isFn K (.ref (He.ma K (He.ga K "Ratio") "__neg__")) = true := negB_ok (xget Z.x 10 rfl)
theorem me_Ratio_whole (Z : Zs K mg) : Meth K (He.ga K "Ratio") "whole" (He.ma K (He.ga K "Ratio") "whole") := methB_ok (xget Z.x 11 rfl)
theorem me_Ratio_sign (Z : Zs K mg) : Meth K (He.ga K "Ratio") "sign" (He.ma K (He.ga K "Ratio") "sign") := methB_ok (xget Z.x 12 rfl)
theorem g__law_questions (Z : Zs K mg) : mg "_law_questions" = some (.ref (He.ga K "_law_questions")) := Z.gl _ (Z.c.fact 25 (f := .glo "_law_questions") rfl)
theorem g__law_quotient (Z : Zs K mg) : mg "_law_quotient" = some (.ref (He.ga K "_law_quotient")) := Z.gl _ (Z.c.fact 26 (f := .glo "_law_quotient") rfl)
theorem op_Ratio_mul (Z : Zs K mg) : OpC K (He.ga K "Ratio") "mul" (He.ma K (He.ga K "Ratio") "__mul__") (He.ma K (He.ga K "Ratio") "__rmul__") := opCB_ok (xget Z.x 13 rfl)
theorem op_Ratio_sub (Z : Zs K mg) : OpC K (He.ga K "Ratio") "sub" (He.ma K (He.ga K "Ratio") "__sub__") (He.ma K (He.ga K "Ratio") "__rsub__") := opCB_ok (xget Z.x 14 rfl)
theorem op_Ratio_add (Z : Zs K mg) : OpC K (He.ga K "Ratio") "add" (He.ma K (He.ga K "Ratio") "__add__") (He.ma K (He.ga K "Ratio") "__radd__") := opCB_ok (xget Z.x 15 rfl)
theorem g__law_done (Z : Zs K mg) : mg "_law_done" = some (.ref (He.ga K "_law_done")) := Z.gl _ (Z.c.fact 27 (f := .glo "_law_done") rfl)
theorem g__law_sum (Z : Zs K mg) : mg "_law_sum" = some (.ref (He.ga K "_law_sum")) := Z.gl _ (Z.c.fact 28 (f := .glo "_law_sum") rfl)
theorem g__law_source (Z : Zs K mg) : mg "_law_source" = some (.ref (He.ga K "_law_source")) := Z.gl _ (Z.c.fact 29 (f := .glo "_law_source") rfl)
theorem g_law (Z : Zs K mg) : mg "law" = some (.ref (He.ga K "law")) := Z.gl _ (Z.c.fact 30 (f := .glo "law") rfl)
/-! common -/
theorem sc_common : FnScope ["one", "other"] ["one", "other"] (defScope s_common) := ⟨rfl, rfl, rfl, by decide +kernel, rfl, by decide +kernel, by decide +kernel⟩
noncomputable def l_common_0 : M Out := (sPar 0 1 (dCons (eVar 1) (dCons (eOp2 opMod (eVar 0) (eVar 1)) dNil)))
noncomputable def w_common_0 : M Out := sWhile (eB (eOp2 opGt (eVar 1) (eC (.int 0)))) l_common_0
noncomputable def b_common : M Out := (sSeq (sAsg 0 (eOpn opAbs (pCons (eVar 0) pNil))) (sSeq (sAsg 1 (eOpn opAbs (pCons (eVar 1) pNil))) (sSeq w_common_0 (sRet (eVar 0)))))
noncomputable def den_common : List SV → Cal := denOf 2 0 b_common
theorem F_common (Z : Zs K mg) : Fk P w K mg base (He.ga K "common") ["one", "other"] 1 (spD K (G K) 2 den_common) :=
  fk_def (m := 0) (Z.c.def_ 2 (d := d_common) rfl) sc_common (fun _ _ _ _ _ _ us hl => match us, hl with | [_, _], _ => rfl) rfl rfl (fun cdv A outer s H E hr tk hp =>
    (jss_cons (js_set 0 sc_common.nd (je_callB call_abs ok_abs (jp_cons (je_var 0) jp_nil) (fr_abs Z) rfl)) (jss_cons (js_set 1 sc_common.nd (je_callB call_abs ok_abs (jp_cons (je_var 1) jp_nil) (fr_abs Z) rfl)) (jss_cons (js_while hp (jt_gt (je_var 1) (je_int 0)) (jss_one (js_par 0 1 rfl sc_common.nd (jd_cons (je_var 1) (jd_cons (je_mod (je_var 0) (je_var 1)) jd_nil))))) (jss_one (js_ret (je_var 0)))))))
/-! BadNumber.__init__ -/
theorem sc_BadNumber___init__ : FnScope ["self", "value"] ["self", "value"] (defScope s_BadNumber___init__) := ⟨rfl, rfl, rfl, by decide +kernel, rfl, by decide +kernel, by decide +kernel⟩
theorem F_BadNumber___init__ (Z : Zs K mg) : Fk P w K mg base (He.ma K (He.ga K "BadNumber") "__init__") ["self", "value"] 1 (spXI (He.ga K "BadNumber") "value") :=
  fk_init (Z.c.def_ 0 (d := d_BadNumber___init__) rfl) sc_BadNumber___init__ (fun _ _ _ _ _ _ us hl => match us, hl with | [_, _], _ => rfl) (x_BadNumber Z).o (x_BadNumber Z).n (fun _ _ _ _ _ _ => pss_one (ps_ost (pv 0) (pv 1)))
/-! is_integer -/
theorem sc_is_integer : FnScope ["thing"] ["thing"] (defScope s_is_integer) := ⟨rfl, rfl, rfl, by decide +kernel, rfl, by decide +kernel, by decide +kernel⟩
noncomputable def b_is_integer : M Out := (sRet (eAndV (eIsi kn ["int"] [] (eVar 0)) (eV (eNot (eB (eIsi kn ["bool"] [] (eVar 0)))))))
noncomputable def den_is_integer : List SV → Cal := denOf 1 0 b_is_integer
theorem F_is_integer (Z : Zs K mg) : Fk P w K mg base (He.ga K "is_integer") ["thing"] 1 (spD K (G K) 1 den_is_integer) :=
  fk_def (m := 0) (Z.c.def_ 1 (d := d_is_integer) rfl) sc_is_integer (fun _ _ _ _ _ _ us hl => match us, hl with | [_], _ => rfl) rfl rfl (fun cdv A outer s H E hr tk hp =>
    (jss_one (js_ret (je_and (je_isi (kk Z) ["int"] [] (by decide) (by decide) rfl (je_var 0) (pe_ty "int" rfl (fr_int Z)) (fr_isinstance Z) rfl) (je_one (je_not (je_isi (kk Z) ["bool"] [] (by decide) (by decide) rfl (je_var 0) (pe_ty "bool" rfl (fr_bool Z)) (fr_isinstance Z) rfl)))))))
/-! Ratio.__init__ -/
theorem sc_Ratio___init__ : FnScope ["self", "top", "bottom", "value", "part"] ["self", "top", "bottom"] (defScope s_Ratio___init__) := ⟨rfl, rfl, rfl, by decide +kernel, rfl, by decide +kernel, by decide +kernel⟩
noncomputable def l_Ratio___init___0 : M Out := (sIf (eNot (eB (eCall 1 den_is_integer (aLend 3 aNil)))) (sRaise 1 (eVar 3)) sNx)
noncomputable def w_Ratio___init___0 : M Out := sFor (iSeqM (eTup (dCons (eVar 1) (dCons (eVar 2) dNil)))) (gNameM 3) l_Ratio___init___0
noncomputable def b_Ratio___init__ : M Out := (sSeq w_Ratio___init___0 (sSeq (sIf (eB (eOp2 opEqA (eVar 2) (eC (.int 0)))) (sRaise 1 (eVar 2)) sNx) (sSeq (sAsg 4 (eCall 2 den_common (aLend 1 (aLend 2 aNil)))) (sSeq (sIf (eB (eOp2 opLt (eVar 2) (eC (.int 0)))) (sAsg 4 (eOp1 opNeg (eVar 4))) sNx) (sSeq (sPutF 0 2 0 (eOp2 opFDiv (eVar 1) (eVar 4))) (sPutF 0 2 1 (eOp2 opFDiv (eVar 2) (eVar 4))))))))
noncomputable def den_Ratio___init__ : List SV → Cal := denOf 3 2 b_Ratio___init__
theorem F_Ratio___init__ (Z : Zs K mg) : Fk P w K mg base (He.ma K (He.ga K "Ratio") "__init__") ["self", "top", "bottom"] 3 (spD K (G K) 3 den_Ratio___init__) :=
  fk_def (m := 2) (Z.c.def_ 3 (d := d_Ratio___init__) rfl) sc_Ratio___init__ (fun _ _ _ _ _ _ us hl => match us, hl with | [_, _, _], _ => rfl) rfl rfl (fun cdv A outer s H E hr tk hp =>
    (jss_cons (js_for hp rfl (ji_seq (je_tup (jd_cons (je_var 1) (jd_cons (je_var 2) jd_nil)))) (jg_name 3 sc_Ratio___init__.nd) (jss_one (js_if (jt_not (jt_val (je_call (F_is_integer (P := P) (w := w) (base := base) Z) (hr.mono (by decide)) tk (g_is_integer Z) (ja_lend 3 ja_nil) rfl))) (jss_one (js_raise (c0 := 1) rfl (x_BadNumber Z).o (x_BadNumber Z).raises (x_BadNumber Z).i (x_BadNumber Z).t (F_BadNumber___init__ (P := P) (w := w) (base := base) Z) rfl (hr.mono (by decide)) tk (g_BadNumber Z) (je_var 3) rfl)) jss_nil))) (jss_cons (js_if (jt_eqA hr.units (je_var 2) (je_int 0)) (jss_one (js_raise (c0 := 1) rfl (x_BadNumber Z).o (x_BadNumber Z).raises (x_BadNumber Z).i (x_BadNumber Z).t (F_BadNumber___init__ (P := P) (w := w) (base := base) Z) rfl (hr.mono (by decide)) tk (g_BadNumber Z) (je_var 2) rfl)) jss_nil) (jss_cons (js_set 4 sc_Ratio___init__.nd (je_call (F_common (P := P) (w := w) (base := base) Z) (hr.mono (by decide)) tk (g_common Z) (ja_lend 1 (ja_lend 2 ja_nil)) rfl)) (jss_cons (js_if (jt_lt (je_var 2) (je_int 0)) (jss_one (js_set 4 sc_Ratio___init__.nd (je_neg (je_var 4)))) jss_nil) (jss_cons (js_putF 0 (at_Ratio_top Z) (show 2 ≤ 100 by decide) (je_fdiv (je_var 1) (je_var 4))) (jss_one (js_putF 0 (at_Ratio_bottom Z) (show 2 ≤ 100 by decide) (je_fdiv (je_var 2) (je_var 4))))))))))
/-! _law_draw -/
theorem sc__law_draw : FnScope ["_law_source_here", "_law_many", "_law_number", "_law_mixed"] ["_law_source_here", "_law_many"] (defScope s__law_draw) := ⟨rfl, rfl, rfl, by decide +kernel, rfl, by decide +kernel, by decide +kernel⟩
noncomputable def b__law_draw : M Out := (sSeq (sAsg 2 (eOp2 opIx (eVar 0) (eC (.int 0)))) (sSeq (sIf (eAnd (eB (eOp2 opEqA (eOp2 opIx (eVar 0) (eC (.int 1))) (eC (.int 1)))) (eB (eOp2 opGt (eVar 2) (eC (.int 0))))) (sSeq (sAsgG (eOp2 opFDiv (eVar 2) (eVar 1)) (gSubM 0 (eC (.int 0)))) (sRet (eOp2 opMod (eOpn opInt1 (pCons (eVar 2) pNil)) (eVar 1)))) sNx) (sSeq (sAsgG (eOp2 opAdd (eOp2 opIx (eVar 0) (eC (.int 2))) (eC (.int 1))) (gSubM 0 (eC (.int 2)))) (sSeq (sAsg 3 (eOp2 opMod (eOpn opInt1 (pCons (eOp2 opMul (eOp2 opAdd (eOp2 opAdd (eOp2 opIx (eVar 0) (eC (.int 3))) (eOp2 opMul (eC (.int 7919)) (eOp2 opIx (eVar 0) (eC (.int 2))))) (eC (.int 1))) (eC (.int 48271))) pNil)) (eC (.int 2147483647)))) (sSeq (sAsg 3 (eOp2 opMod (eOpn opInt1 (pCons (eOp2 opMul (eVar 3) (eOp2 opAdd (eOp2 opFDiv (eVar 3) (eC (.int 1009))) (eC (.int 69621)))) pNil)) (eC (.int 2147483647)))) (sSeq (sAsg 3 (eOp2 opMod (eOpn opInt1 (pCons (eOp2 opMul (eVar 3) (eOp2 opAdd (eOp2 opFDiv (eVar 3) (eC (.int 2003))) (eC (.int 40692)))) pNil)) (eC (.int 2147483399)))) (sRet (eOp2 opMod (eOpn opInt1 (pCons (eVar 3) pNil)) (eVar 1)))))))))
noncomputable def den__law_draw : List SV → Cal := denOf 2 2 b__law_draw
theorem F__law_draw (Z : Zs K mg) : Fk P w K mg base (He.ga K "_law_draw") ["_law_source_here", "_law_many"] 1 (spD K (G K) 2 den__law_draw) :=
  fk_def (m := 2) (Z.c.def_ 20 (d := d__law_draw) rfl) sc__law_draw (fun _ _ _ _ _ _ us hl => match us, hl with | [_, _], _ => rfl) rfl rfl (fun cdv A outer s H E hr tk hp =>
    (jss_cons (js_set 2 sc__law_draw.nd (je_ix (je_var 0) (je_int 0))) (jss_cons (js_if (jt_w (jw_and (jt_eqA hr.units (je_ix (je_var 0) (je_int 1)) (je_int 1)) (jw_and1 (jt_gt (je_var 2) (je_int 0))))) (jss_cons (js_asg (je_fdiv (je_var 2) (je_var 1)) (jg_sub (W := (fun cls d _ H => E cls d H)) 0 (je_int 0))) (jss_one (js_ret (je_mod (je_callTy call_int1 ok_int1 (jp_cons (je_var 2) jp_nil) (fr_int Z) rfl) (je_var 1))))) jss_nil) (jss_cons (js_asg (je_add (je_ix (je_var 0) (je_int 2)) (je_int 1)) (jg_sub (W := (fun cls d _ H => E cls d H)) 0 (je_int 2))) (jss_cons (js_set 3 sc__law_draw.nd (je_mod (je_callTy call_int1 ok_int1 (jp_cons (je_mul (je_add (je_add (je_ix (je_var 0) (je_int 3)) (je_mul (je_int 7919) (je_ix (je_var 0) (je_int 2)))) (je_int 1)) (je_int 48271)) jp_nil) (fr_int Z) rfl) (je_int 2147483647))) (jss_cons (js_set 3 sc__law_draw.nd (je_mod (je_callTy call_int1 ok_int1 (jp_cons (je_mul (je_var 3) (je_add (je_fdiv (je_var 3) (je_int 1009)) (je_int 69621))) jp_nil) (fr_int Z) rfl) (je_int 2147483647))) (jss_cons (js_set 3 sc__law_draw.nd (je_mod (je_callTy call_int1 ok_int1 (jp_cons (je_mul (je_var 3) (je_add (je_fdiv (je_var 3) (je_int 2003)) (je_int 40692))) jp_nil) (fr_int Z) rfl) (je_int 2147483399))) (jss_one (js_ret (je_mod (je_callTy call_int1 ok_int1 (jp_cons (je_var 3) jp_nil) (fr_int Z) rfl) (je_var 1)))))))))))
/-! _law_whole -/
theorem sc__law_whole : FnScope ["_law_source_here"] ["_law_source_here"] (defScope s__law_whole) := ⟨rfl, rfl, rfl, by decide +kernel, rfl, by decide +kernel, by decide +kernel⟩
noncomputable def b__law_whole : M Out := (sSeq (sIf (eB (eOp2 opGt (eCall 2 den__law_draw (aLend 0 (aSet (eC (.int 3)) aNil))) (eC (.int 0)))) (sRet (eOp2 opSub (eCall 2 den__law_draw (aLend 0 (aSet (eC (.int 41)) aNil))) (eC (.int 20)))) sNx) (sRet (eOp2 opSub (eOp2 opMul (eCall 2 den__law_draw (aLend 0 (aSet (eOp2 opAdd (eOp2 opMul (eC (.int 2)) (eOp2 opPow (eC (.int 10)) (eC (.int 6)))) (eC (.int 1))) aNil))) (eCall 2 den__law_draw (aLend 0 (aSet (eOp2 opPow (eC (.int 10)) (eC (.int 6))) aNil)))) (eOp2 opPow (eC (.int 10)) (eC (.int 12))))))
noncomputable def den__law_whole : List SV → Cal := denOf 1 0 b__law_whole
theorem F__law_whole (Z : Zs K mg) : Fk P w K mg base (He.ga K "_law_whole") ["_law_source_here"] 2 (spD K (G K) 1 den__law_whole) :=
  fk_def (m := 0) (Z.c.def_ 25 (d := d__law_whole) rfl) sc__law_whole (fun _ _ _ _ _ _ us hl => match us, hl with | [_], _ => rfl) rfl rfl (fun cdv A outer s H E hr tk hp =>
    (jss_cons (js_if (jt_gt (je_call (F__law_draw (P := P) (w := w) (base := base) Z) (hr.mono (by decide)) tk (g__law_draw Z) (ja_lend 0 (ja_set (je_int 3) ja_nil)) rfl) (je_int 0)) (jss_one (js_ret (je_sub (je_call (F__law_draw (P := P) (w := w) (base := base) Z) (hr.mono (by decide)) tk (g__law_draw Z) (ja_lend 0 (ja_set (je_int 41) ja_nil)) rfl) (je_int 20)))) jss_nil) (jss_one (js_ret (je_sub (je_mul (je_call (F__law_draw (P := P) (w := w) (base := base) Z) (hr.mono (by decide)) tk (g__law_draw Z) (ja_lend 0 (ja_set (je_add (je_mul (je_int 2) (je_pow (je_int 10) (je_int 6))) (je_int 1)) ja_nil)) rfl) (je_call (F__law_draw (P := P) (w := w) (base := base) Z) (hr.mono (by decide)) tk (g__law_draw Z) (ja_lend 0 (ja_set (je_pow (je_int 10) (je_int 6)) ja_nil)) rfl)) (je_pow (je_int 10) (je_int 12)))))))
/-! _law_lowest -/
theorem sc__law_lowest : FnScope ["_law_top", "_law_bottom", "_law_one", "_law_other", "_law_k", "_law_rest"] ["_law_top", "_law_bottom"] (defScope s__law_lowest) := ⟨rfl, rfl, rfl, by decide +kernel, rfl, by decide +kernel, by decide +kernel⟩
noncomputable def l__law_lowest_0 : M Out := (sSeq (sIf (eB (eOp2 opEqA (eVar 3) (eC (.int 0)))) sBk sNx) (sSeq (sAsg 5 (eOp2 opMod (eOpn opInt1 (pCons (eVar 2) pNil)) (eVar 3))) (sSeq (sAsg 2 (eVar 3)) (sAsg 3 (eVar 5)))))
noncomputable def w__law_lowest_0 : M Out := sFor (iRng1M (pCons (eC (.int 2000)) pNil)) (gNameM 4) l__law_lowest_0
noncomputable def b__law_lowest : M Out := (sSeq (sAsg 2 (eOpn opAbs (pCons (eVar 0) pNil))) (sSeq (sAsg 3 (eOpn opAbs (pCons (eVar 1) pNil))) (sSeq w__law_lowest_0 (sSeq (sIf (eB (eOp2 opLt (eVar 1) (eC (.int 0)))) (sAsg 2 (eOp1 opNeg (eVar 2))) sNx) (sRet (eTup (dCons (eOp2 opFDiv (eVar 0) (eVar 2)) (dCons (eOp2 opFDiv (eVar 1) (eVar 2)) dNil))))))))
noncomputable def den__law_lowest : List SV → Cal := denOf 2 4 b__law_lowest
theorem F__law_lowest (Z : Zs K mg) : Fk P w K mg base (He.ga K "_law_lowest") ["_law_top", "_law_bottom"] 1 (spD K (G K) 2 den__law_lowest) :=
  fk_def (m := 4) (Z.c.def_ 24 (d := d__law_lowest) rfl) sc__law_lowest (fun _ _ _ _ _ _ us hl => match us, hl with | [_, _], _ => rfl) rfl rfl (fun cdv A outer s H E hr tk hp =>
    (jss_cons (js_set 2 sc__law_lowest.nd (je_callB call_abs ok_abs (jp_cons (je_var 0) jp_nil) (fr_abs Z) rfl)) (jss_cons (js_set 3 sc__law_lowest.nd (je_callB call_abs ok_abs (jp_cons (je_var 1) jp_nil) (fr_abs Z) rfl)) (jss_cons (js_for hp rfl (ji_range1 (fr_range Z) (jp_cons (je_int 2000) jp_nil) rfl) (jg_name 4 sc__law_lowest.nd) (jss_cons (js_if (jt_eqA hr.units (je_var 3) (je_int 0)) (jss_one js_break) jss_nil) (jss_cons (js_set 5 sc__law_lowest.nd (je_mod (je_callTy call_int1 ok_int1 (jp_cons (je_var 2) jp_nil) (fr_int Z) rfl) (je_var 3))) (jss_cons (js_set 2 sc__law_lowest.nd (je_var 3)) (jss_one (js_set 3 sc__law_lowest.nd (je_var 5))))))) (jss_cons (js_if (jt_lt (je_var 1) (je_int 0)) (jss_one (js_set 2 sc__law_lowest.nd (je_neg (je_var 2)))) jss_nil) (jss_one (js_ret (je_tup (jd_cons (je_fdiv (je_var 0) (je_var 2)) (jd_cons (je_fdiv (je_var 1) (je_var 2)) jd_nil))))))))))
/-! _law_pair -/
theorem sc__law_pair : FnScope ["_law_source_here", "_law_bottom"] ["_law_source_here"] (defScope s__law_pair) := ⟨rfl, rfl, rfl, by decide +kernel, rfl, by decide +kernel, by decide +kernel⟩
noncomputable def b__law_pair : M Out := (sSeq (sAsg 1 (eCall 1 den__law_whole (aLend 0 aNil))) (sSeq (sIf (eB (eOp2 opEqA (eVar 1) (eC (.int 0)))) (sAsg 1 (eC (.int 7))) sNx) (sRet (eCall 2 den__law_lowest (aSet (eCall 1 den__law_whole (aLend 0 aNil)) (aLend 1 aNil))))))
noncomputable def den__law_pair : List SV → Cal := denOf 1 1 b__law_pair
theorem F__law_pair (Z : Zs K mg) : Fk P w K mg base (He.ga K "_law_pair") ["_law_source_here"] 3 (spD K (G K) 1 den__law_pair) :=
  fk_def (m := 1) (Z.c.def_ 26 (d := d__law_pair) rfl) sc__law_pair (fun _ _ _ _ _ _ us hl => match us, hl with | [_], _ => rfl) rfl rfl (fun cdv A outer s H E hr tk hp =>
    (jss_cons (js_set 1 sc__law_pair.nd (je_call (F__law_whole (P := P) (w := w) (base := base) Z) (hr.mono (by decide)) tk (g__law_whole Z) (ja_lend 0 ja_nil) rfl)) (jss_cons (js_if (jt_eqA hr.units (je_var 1) (je_int 0)) (jss_one (js_set 1 sc__law_pair.nd (je_int 7))) jss_nil) (jss_one (js_ret (je_call (F__law_lowest (P := P) (w := w) (base := base) Z) (hr.mono (by decide)) tk (g__law_lowest Z) (ja_set (je_call (F__law_whole (P := P) (w := w) (base := base) Z) (hr.mono (by decide)) tk (g__law_whole Z) (ja_lend 0 ja_nil) rfl) (ja_lend 1 ja_nil)) rfl))))))
/-! _law_alike -/
theorem sc__law_alike : FnScope ["_law_one", "_law_other"] ["_law_one", "_law_other"] (defScope s__law_alike) := ⟨rfl, rfl, rfl, by decide +kernel, rfl, by decide +kernel, by decide +kernel⟩
noncomputable def b__law_alike : M Out := (sSeq (sIf (eOr (eB (eIsi kn ["bool"] [] (eVar 0))) (eB (eIsi kn ["bool"] [] (eVar 1)))) (sRet (eAndV (eIsi kn ["bool"] [] (eVar 0)) (eAndV (eIsi kn ["bool"] [] (eVar 1)) (eOp2 opEqA (eVar 0) (eVar 1))))) sNx) (sRet (eOp2 opEqA (eVar 0) (eVar 1))))
noncomputable def den__law_alike : List SV → Cal := denOf 2 0 b__law_alike
theorem F__law_alike (Z : Zs K mg) : Fk P w K mg base (He.ga K "_law_alike") ["_law_one", "_law_other"] 1 (spD K (G K) 2 den__law_alike) :=
  fk_def (m := 0) (Z.c.def_ 23 (d := d__law_alike) rfl) sc__law_alike (fun _ _ _ _ _ _ us hl => match us, hl with | [_, _], _ => rfl) rfl rfl (fun cdv A outer s H E hr tk hp =>
    (jss_cons (js_if (jt_w (jw_or (jt_val (je_isi (kk Z) ["bool"] [] (by decide) (by decide) rfl (je_var 0) (pe_ty "bool" rfl (fr_bool Z)) (fr_isinstance Z) rfl)) (jw_or1 (jt_val (je_isi (kk Z) ["bool"] [] (by decide) (by decide) rfl (je_var 1) (pe_ty "bool" rfl (fr_bool Z)) (fr_isinstance Z) rfl))))) (jss_one (js_ret (je_and (je_isi (kk Z) ["bool"] [] (by decide) (by decide) rfl (je_var 0) (pe_ty "bool" rfl (fr_bool Z)) (fr_isinstance Z) rfl) (je_and (je_isi (kk Z) ["bool"] [] (by decide) (by decide) rfl (je_var 1) (pe_ty "bool" rfl (fr_bool Z)) (fr_isinstance Z) rfl) (je_one (je_eqA hr.units (je_var 0) (je_var 1))))))) jss_nil) (jss_one (js_ret (je_eqA hr.units (je_var 0) (je_var 1))))))
/-! as_ratio -/
theorem sc_as_ratio : FnScope ["number"] ["number"] (defScope s_as_ratio) := ⟨rfl, rfl, rfl, by decide +kernel, rfl, by decide +kernel, by decide +kernel⟩
noncomputable def b_as_ratio : M Out := (sRet (eIf (eB (eIsi kn [] [2] (eVar 0))) (eVar 0) (eMake 2 2 2 den_Ratio___init__ (aLend 0 (aSet (eC (.int 1)) aNil)))))
noncomputable def den_as_ratio : List SV → Cal := denOf 1 0 b_as_ratio
theorem F_as_ratio (Z : Zs K mg) : Fk P w K mg base (He.ga K "as_ratio") ["number"] 5 (spD K (G K) 1 den_as_ratio) :=
  fk_def (m := 0) (Z.c.def_ 18 (d := d_as_ratio) rfl) sc_as_ratio (fun _ _ _ _ _ _ us hl => match us, hl with | [_], _ => rfl) rfl rfl (fun cdv A outer s H E hr tk hp =>
    (jss_one (js_ret (je_if (jt_val (je_isi (kk Z) [] [2] (by decide) (by decide) rfl (je_var 0) (pe_cl rfl (g_Ratio Z)) (fr_isinstance Z) rfl)) (je_var 0) (je_make (mk_Ratio Z) (F_Ratio___init__ (P := P) (w := w) (base := base) Z) (hr.mono (by decide)) tk (g_Ratio Z) rfl (ja_lend 0 (ja_set (je_int 1) ja_nil)) rfl)))))
/-! is_number -/
theorem sc_is_number : FnScope ["thing"] ["thing"] (defScope s_is_number) := ⟨rfl, rfl, rfl, by decide +kernel, rfl, by decide +kernel, by decide +kernel⟩
noncomputable def b_is_number : M Out := (sRet (eOrV (eIsi kn [] [2] (eVar 0)) (eCall 1 den_is_integer (aLend 0 aNil))))
noncomputable def den_is_number : List SV → Cal := denOf 1 0 b_is_number
theorem F_is_number (Z : Zs K mg) : Fk P w K mg base (He.ga K "is_number") ["thing"] 2 (spD K (G K) 1 den_is_number) :=
  fk_def (m := 0) (Z.c.def_ 17 (d := d_is_number) rfl) sc_is_number (fun _ _ _ _ _ _ us hl => match us, hl with | [_], _ => rfl) rfl rfl (fun cdv A outer s H E hr tk hp =>
    (jss_one (js_ret (je_or (je_isi (kk Z) [] [2] (by decide) (by decide) rfl (je_var 0) (pe_cl rfl (g_Ratio Z)) (fr_isinstance Z) rfl) (je_one (je_call (F_is_integer (P := P) (w := w) (base := base) Z) (hr.mono (by decide)) tk (g_is_integer Z) (ja_lend 0 ja_nil) rfl))))))
/-! Ratio.less -/
theorem sc_Ratio_less : FnScope ["self", "number", "other"] ["self", "number"] (defScope s_Ratio_less) := ⟨rfl, rfl, rfl, by decide +kernel, rfl, by decide +kernel, by decide +kernel⟩
noncomputable def b_Ratio_less : M Out := (sSeq (sIf (eNot (eB (eCall 1 den_is_number (aLend 1 aNil)))) (sRaise 1 (eVar 1)) sNx) (sSeq (sAsg 2 (eCall 1 den_as_ratio (aLend 1 aNil))) (sRet (eOp2 opLt (eOp2 opMul (eFld 2 0 (eVar 0)) (eFld 2 1 (eVar 2))) (eOp2 opMul (eFld 2 0 (eVar 2)) (eFld 2 1 (eVar 0)))))))
noncomputable def den_Ratio_less : List SV → Cal := denOf 2 1 b_Ratio_less
theorem F_Ratio_less (Z : Zs K mg) : Fk P w K mg base (He.ma K (He.ga K "Ratio") "less") ["self", "number"] 6 (spD K (G K) 2 den_Ratio_less) :=
  fk_def (m := 1) (Z.c.def_ 13 (d := d_Ratio_less) rfl) sc_Ratio_less (fun _ _ _ _ _ _ us hl => match us, hl with | [_, _], _ => rfl) rfl rfl (fun cdv A outer s H E hr tk hp =>
    (jss_cons (js_if (jt_not (jt_val (je_call (F_is_number (P := P) (w := w) (base := base) Z) (hr.mono (by decide)) tk (g_is_number Z) (ja_lend 1 ja_nil) rfl))) (jss_one (js_raise (c0 := 1) rfl (x_BadNumber Z).o (x_BadNumber Z).raises (x_BadNumber Z).i (x_BadNumber Z).t (F_BadNumber___init__ (P := P) (w := w) (base := base) Z) rfl (hr.mono (by decide)) tk (g_BadNumber Z) (je_var 1) rfl)) jss_nil) (jss_cons (js_set 2 sc_Ratio_less.nd (je_call (F_as_ratio (P := P) (w := w) (base := base) Z) (hr.mono (by decide)) tk (g_as_ratio Z) (ja_lend 1 ja_nil) rfl)) (jss_one (js_ret (je_lt (je_mul (je_fld (at_Ratio_top Z) (je_var 0)) (je_fld (at_Ratio_bottom Z) (je_var 2))) (je_mul (je_fld (at_Ratio_top Z) (je_var 2)) (je_fld (at_Ratio_bottom Z) (je_var 0)))))))))
/-! _law_less -/
theorem sc__law_less : FnScope ["_law_one", "_law_number", "_law_told", "e"] ["_law_one", "_law_number"] (defScope s__law_less) := ⟨rfl, rfl, rfl, by decide +kernel, rfl, by decide +kernel, by decide +kernel⟩
noncomputable def b__law_less : M Out := (sSeq (sTry (sAsg 2 (eMeth 2 2 den_Ratio_less (eVar 0) (aLend 1 aNil))) [⟨hitL [(1, true)], some 3, (sRet (eTup (dCons (eC (.str "refused")) (dCons (eXf 3 1 0) dNil))))⟩]) (sRet (eTup (dCons (eC (.str "told")) (dCons (eVar 2) dNil)))))
noncomputable def den__law_less : List SV → Cal := denOf 2 2 b__law_less
theorem F__law_less (Z : Zs K mg) : Fk P w K mg base (He.ga K "_law_less") ["_law_one", "_law_number"] 7 (spD K (G K) 2 den__law_less) :=
  fk_def (m := 2) (Z.c.def_ 29 (d := d__law_less) rfl) sc__law_less (fun _ _ _ _ _ _ us hl => match us, hl with | [_, _], _ => rfl) rfl rfl (fun cdv A outer s H E hr tk hp =>
    (jss_cons (js_try rfl rfl tk (fun W pn xe tk' hp => (jss_one (js_set 2 sc__law_less.nd (je_meth (c0 := 2) ((kk Z).ins 2 (by decide)).cl (me_Ratio_less Z) (show ("less" : Str) ∉ (["top", "bottom"] : List Str) by decide) (F_Ratio_less (P := P) (w := w) (base := base) Z) (hr.mono (by decide)) tk' (je_var 0) (ja_lend 1 ja_nil))))) (jh_consAs 3 ⟨rfl, by decide, .inl (g_BadNumber Z)⟩ (exm_BadNumber Z) sc__law_less.nd (fun a oe cls d pn hz hf => (jss_one (js_ret (je_tup (jd_cons (je_str "refused") (jd_cons (je_xf 3 hz hf (x_BadNumber Z).x (x_BadNumber Z).n (show (["value"] : List Str).Nodup by decide) rfl) jd_nil)))))) jh_nil)) (jss_one (js_ret (je_tup (jd_cons (je_str "told") (jd_cons (je_var 2) jd_nil)))))))
/-! Ratio.__eq__ -/
theorem sc_Ratio___eq__ : FnScope ["self", "other"] ["self", "other"] (defScope s_Ratio___eq__) := ⟨rfl, rfl, rfl, by decide +kernel, rfl, by decide +kernel, by decide +kernel⟩
noncomputable def b_Ratio___eq__ : M Out := (sSeq (sIf (eB (eIsi kn [] [2] (eVar 1))) (sRet (eAndV (eOp2 opEqA (eFld 2 0 (eVar 0)) (eFld 2 0 (eVar 1))) (eOp2 opEqA (eFld 2 1 (eVar 0)) (eFld 2 1 (eVar 1))))) sNx) (sRet (eAndV (eCall 1 den_is_integer (aLend 1 aNil)) (eAndV (eOp2 opEqA (eFld 2 1 (eVar 0)) (eC (.int 1))) (eOp2 opEqA (eFld 2 0 (eVar 0)) (eVar 1))))))
noncomputable def den_Ratio___eq__ : List SV → Cal := denOf 2 0 b_Ratio___eq__
theorem F_Ratio___eq__ (Z : Zs K mg) : Fk P w K mg base (He.ma K (He.ga K "Ratio") "__eq__") ["self", "other"] 2 (spD K (G K) 2 den_Ratio___eq__) :=
  fk_def (m := 0) (Z.c.def_ 4 (d := d_Ratio___eq__) rfl) sc_Ratio___eq__ (fun _ _ _ _ _ _ us hl => match us, hl with | [_, _], _ => rfl) rfl rfl (fun cdv A outer s H E hr tk hp =>
    (jss_cons (js_if (jt_val (je_isi (kk Z) [] [2] (by decide) (by decide) rfl (je_var 1) (pe_cl rfl (g_Ratio Z)) (fr_isinstance Z) rfl)) (jss_one (js_ret (je_and (je_eqA hr.units (je_fld (at_Ratio_top Z) (je_var 0)) (je_fld (at_Ratio_top Z) (je_var 1))) (je_one (je_eqA hr.units (je_fld (at_Ratio_bottom Z) (je_var 0)) (je_fld (at_Ratio_bottom Z) (je_var 1))))))) jss_nil) (jss_one (js_ret (je_and (je_call (F_is_integer (P := P) (w := w) (base := base) Z) (hr.mono (by decide)) tk (g_is_integer Z) (ja_lend 1 ja_nil) rfl) (je_and (je_eqA hr.units (je_fld (at_Ratio_bottom Z) (je_var 0)) (je_int 1)) (je_one (je_eqA hr.units (je_fld (at_Ratio_top Z) (je_var 0)) (je_var 1)))))))))
/-! Ratio.over -/
theorem sc_Ratio_over : FnScope ["self", "number", "other"] ["self", "number"] (defScope s_Ratio_over) := ⟨rfl, rfl, rfl, by decide +kernel, rfl, by decide +kernel, by decide +kernel⟩
noncomputable def b_Ratio_over : M Out := (sSeq (sIf (eOr (eNot (eB (eCall 1 den_is_number (aLend 1 aNil)))) (eB (eOp2R (opEqW kn 2 den_Ratio___eq__) (eVar 1) (eC (.int 0))))) (sRaise 1 (eVar 1)) sNx) (sSeq (sAsg 2 (eCall 1 den_as_ratio (aLend 1 aNil))) (sRet (eMake 2 2 2 den_Ratio___init__ (aSet (eOp2 opMul (eFld 2 0 (eVar 0)) (eFld 2 1 (eVar 2))) (aSet (eOp2 opMul (eFld 2 1 (eVar 0)) (eFld 2 0 (eVar 2))) aNil))))))
noncomputable def den_Ratio_over : List SV → Cal := denOf 2 1 b_Ratio_over
theorem F_Ratio_over (Z : Zs K mg) : Fk P w K mg base (He.ma K (He.ga K "Ratio") "over") ["self", "number"] 6 (spD K (G K) 2 den_Ratio_over) :=
  fk_def (m := 1) (Z.c.def_ 12 (d := d_Ratio_over) rfl) sc_Ratio_over (fun _ _ _ _ _ _ us hl => match us, hl with | [_, _], _ => rfl) rfl rfl (fun cdv A outer s H E hr tk hp =>
    (jss_cons (js_if (jt_w (jw_or (jt_not (jt_val (je_call (F_is_number (P := P) (w := w) (base := base) Z) (hr.mono (by decide)) tk (g_is_number Z) (ja_lend 1 ja_nil) rfl))) (jw_or1 (jt_eqW (kk Z) (by decide) (eq_Ratio Z) (F_Ratio___eq__ (P := P) (w := w) (base := base) Z) (hr.mono (by decide)) (je_var 1) (je_int 0))))) (jss_one (js_raise (c0 := 1) rfl (x_BadNumber Z).o (x_BadNumber Z).raises (x_BadNumber Z).i (x_BadNumber Z).t (F_BadNumber___init__ (P := P) (w := w) (base := base) Z) rfl (hr.mono (by decide)) tk (g_BadNumber Z) (je_var 1) rfl)) jss_nil) (jss_cons (js_set 2 sc_Ratio_over.nd (je_call (F_as_ratio (P := P) (w := w) (base := base) Z) (hr.mono (by decide)) tk (g_as_ratio Z) (ja_lend 1 ja_nil) rfl)) (jss_one (js_ret (je_make (mk_Ratio Z) (F_Ratio___init__ (P := P) (w := w) (base := base) Z) (hr.mono (by decide)) tk (g_Ratio Z) rfl (ja_set (je_mul (je_fld (at_Ratio_top Z) (je_var 0)) (je_fld (at_Ratio_bottom Z) (je_var 2))) (ja_set (je_mul (je_fld (at_Ratio_bottom Z) (je_var 0)) (je_fld (at_Ratio_top Z) (je_var 2))) ja_nil)) rfl))))))
/-! _law_over -/
theorem sc__law_over : FnScope ["_law_one", "_law_number", "_law_told", "e"] ["_law_one", "_law_number"] (defScope s__law_over) := ⟨rfl, rfl, rfl, by decide +kernel, rfl, by decide +kernel, by decide +kernel⟩
noncomputable def b__law_over : M Out := (sSeq (sTry (sAsg 2 (eMeth 2 2 den_Ratio_over (eVar 0) (aLend 1 aNil))) [⟨hitL [(1, true)], some 3, (sRet (eTup (dCons (eC (.str "refused")) (dCons (eXf 3 1 0) dNil))))⟩]) (sRet (eTup (dCons (eC (.str "told")) (dCons (eVar 2) dNil)))))
noncomputable def den__law_over : List SV → Cal := denOf 2 2 b__law_over
theorem F__law_over (Z : Zs K mg) : Fk P w K mg base (He.ga K "_law_over") ["_law_one", "_law_number"] 7 (spD K (G K) 2 den__law_over) :=
  fk_def (m := 2) (Z.c.def_ 28 (d := d__law_over) rfl) sc__law_over (fun _ _ _ _ _ _ us hl => match us, hl with | [_, _], _ => rfl) rfl rfl (fun cdv A outer s H E hr tk hp =>
    (jss_cons (js_try rfl rfl tk (fun W pn xe tk' hp => (jss_one (js_set 2 sc__law_over.nd (je_meth (c0 := 2) ((kk Z).ins 2 (by decide)).cl (me_Ratio_over Z) (show ("over" : Str) ∉ (["top", "bottom"] : List Str) by decide) (F_Ratio_over (P := P) (w := w) (base := base) Z) (hr.mono (by decide)) tk' (je_var 0) (ja_lend 1 ja_nil))))) (jh_consAs 3 ⟨rfl, by decide, .inl (g_BadNumber Z)⟩ (exm_BadNumber Z) sc__law_over.nd (fun a oe cls d pn hz hf => (jss_one (js_ret (je_tup (jd_cons (je_str "refused") (jd_cons (je_xf 3 hz hf (x_BadNumber Z).x (x_BadNumber Z).n (show (["value"] : List Str).Nodup by decide) rfl) jd_nil)))))) jh_nil)) (jss_one (js_ret (je_tup (jd_cons (je_str "told") (jd_cons (je_var 2) jd_nil)))))))
/-! _law_odd -/
theorem sc__law_odd : FnScope ["_law_source_here", "_law_things"] ["_law_source_here"] (defScope s__law_odd) := ⟨rfl, rfl, rfl, by decide +kernel, rfl, by decide +kernel, by decide +kernel⟩
noncomputable def b__law_odd : M Out := (sSeq (sAsg 1 (eLst (dCons (eC .non) (dCons (eC (.bl true)) (dCons (eC (.bl false)) (dCons (eC (.str "7")) (dCons (eC (.str "")) (dCons (eTup dNil) (dCons (eTup (dCons (eC (.int 3)) dNil)) (dCons (eLst dNil) (dCons (eLst (dCons (eC (.int 5)) dNil)) (dCons (eC (.dk [])) (dCons (eC (.dk [(.inl 1, .int 2)])) (dCons (eC (.str "ab")) dNil)))))))))))))) (sRet (eOp2 opIx (eVar 1) (eCall 2 den__law_draw (aLend 0 (aSet (eC (.int 12)) aNil))))))
noncomputable def den__law_odd : List SV → Cal := denOf 1 1 b__law_odd
theorem F__law_odd (Z : Zs K mg) : Fk P w K mg base (He.ga K "_law_odd") ["_law_source_here"] 2 (spD K (G K) 1 den__law_odd) :=
  fk_def (m := 1) (Z.c.def_ 22 (d := d__law_odd) rfl) sc__law_odd (fun _ _ _ _ _ _ us hl => match us, hl with | [_], _ => rfl) rfl rfl (fun cdv A outer s H E hr tk hp =>
    (jss_cons (js_set 1 sc__law_odd.nd (je_lst (jd_cons je_non (jd_cons (je_bl true) (jd_cons (je_bl false) (jd_cons (je_str "7") (jd_cons (je_str "") (jd_cons (je_tup jd_nil) (jd_cons (je_tup (jd_cons (je_int 3) jd_nil)) (jd_cons (je_lst jd_nil) (jd_cons (je_lst (jd_cons (je_int 5) jd_nil)) (jd_cons je_dnew (jd_cons (je_done (kk := .inl 1) (v := .int 2) (dd := .int 2) pe_int pe_int (fun _ => .int 2)) (jd_cons (je_str "ab") jd_nil)))))))))))))) (jss_one (js_ret (je_ix (je_var 1) (je_call (F__law_draw (P := P) (w := w) (base := base) Z) (hr.mono (by decide)) tk (g__law_draw Z) (ja_lend 0 (ja_set (je_int 12) ja_nil)) rfl))))))
/-! Ratio.rest -/
theorem sc_Ratio_rest : FnScope ["self", "beat"] ["self", "beat"] (defScope s_Ratio_rest) := ⟨rfl, rfl, rfl, by decide +kernel, rfl, by decide +kernel, by decide +kernel⟩
noncomputable def b_Ratio_rest : M Out := (sRet (eMake 2 2 2 den_Ratio___init__ (aSet (eOp2 opMod (eFld 2 0 (eVar 0)) (eOp2 opMul (eFld 2 1 (eVar 0)) (eVar 1))) (aSet (eFld 2 1 (eVar 0)) aNil))))
noncomputable def den_Ratio_rest : List SV → Cal := denOf 2 0 b_Ratio_rest
theorem F_Ratio_rest (Z : Zs K mg) : Fk P w K mg base (He.ma K (He.ga K "Ratio") "rest") ["self", "beat"] 5 (spD K (G K) 2 den_Ratio_rest) :=
  fk_def (m := 0) (Z.c.def_ 16 (d := d_Ratio_rest) rfl) sc_Ratio_rest (fun _ _ _ _ _ _ us hl => match us, hl with | [_, _], _ => rfl) rfl rfl (fun cdv A outer s H E hr tk hp =>
    (jss_one (js_ret (je_make (mk_Ratio Z) (F_Ratio___init__ (P := P) (w := w) (base := base) Z) (hr.mono (by decide)) tk (g_Ratio Z) rfl (ja_set (je_mod (je_fld (at_Ratio_top Z) (je_var 0)) (je_mul (je_fld (at_Ratio_bottom Z) (je_var 0)) (je_var 1))) (ja_set (je_fld (at_Ratio_bottom Z) (je_var 0)) ja_nil)) rfl))))
/-! _law_integer -/
theorem sc__law_integer : FnScope ["_law_thing"] ["_law_thing"] (defScope s__law_integer) := ⟨rfl, rfl, rfl, by decide +kernel, rfl, by decide +kernel, by decide +kernel⟩
noncomputable def b__law_integer : M Out := (sRet (eAndV (eIsi kn ["int"] [] (eVar 0)) (eV (eNot (eB (eIsi kn ["bool"] [] (eVar 0)))))))
noncomputable def den__law_integer : List SV → Cal := denOf 1 0 b__law_integer
theorem F__law_integer (Z : Zs K mg) : Fk P w K mg base (He.ga K "_law_integer") ["_law_thing"] 1 (spD K (G K) 1 den__law_integer) :=
  fk_def (m := 0) (Z.c.def_ 21 (d := d__law_integer) rfl) sc__law_integer (fun _ _ _ _ _ _ us hl => match us, hl with | [_], _ => rfl) rfl rfl (fun cdv A outer s H E hr tk hp =>
    (jss_one (js_ret (je_and (je_isi (kk Z) ["int"] [] (by decide) (by decide) rfl (je_var 0) (pe_ty "int" rfl (fr_int Z)) (fr_isinstance Z) rfl) (je_one (je_not (je_isi (kk Z) ["bool"] [] (by decide) (by decide) rfl (je_var 0) (pe_ty "bool" rfl (fr_bool Z)) (fr_isinstance Z) rfl)))))))
/-! _law_is -/
theorem sc__law_is : FnScope ["_law_thing", "_law_due"] ["_law_thing", "_law_due"] (defScope s__law_is) := ⟨rfl, rfl, rfl, by decide +kernel, rfl, by decide +kernel, by decide +kernel⟩
noncomputable def b__law_is : M Out := (sSeq (sIf (eOr (eNot (eB (eIsi kn [] [2] (eVar 0)))) (eOr (eNot (eB (eCall 1 den__law_integer (aSet (eFld 2 0 (eVar 0)) aNil)))) (eNot (eB (eCall 1 den__law_integer (aSet (eFld 2 1 (eVar 0)) aNil)))))) (sRet (eC (.bl false))) sNx) (sRet (eOp2 opEqA (eTup (dCons (eFld 2 0 (eVar 0)) (dCons (eFld 2 1 (eVar 0)) dNil))) (eVar 1))))
noncomputable def den__law_is : List SV → Cal := denOf 2 0 b__law_is
theorem F__law_is (Z : Zs K mg) : Fk P w K mg base (He.ga K "_law_is") ["_law_thing", "_law_due"] 2 (spD K (G K) 2 den__law_is) :=
  fk_def (m := 0) (Z.c.def_ 27 (d := d__law_is) rfl) sc__law_is (fun _ _ _ _ _ _ us hl => match us, hl with | [_, _], _ => rfl) rfl rfl (fun cdv A outer s H E hr tk hp =>
    (jss_cons (js_if (jt_w (jw_or (jt_not (jt_val (je_isi (kk Z) [] [2] (by decide) (by decide) rfl (je_var 0) (pe_cl rfl (g_Ratio Z)) (fr_isinstance Z) rfl))) (jw_or (jt_not (jt_val (je_call (F__law_integer (P := P) (w := w) (base := base) Z) (hr.mono (by decide)) tk (g__law_integer Z) (ja_set (je_fld (at_Ratio_top Z) (je_var 0)) ja_nil) rfl))) (jw_or1 (jt_not (jt_val (je_call (F__law_integer (P := P) (w := w) (base := base) Z) (hr.mono (by decide)) tk (g__law_integer Z) (ja_set (je_fld (at_Ratio_bottom Z) (je_var 0)) ja_nil) rfl))))))) (jss_one (js_ret (je_bl false))) jss_nil) (jss_one (js_ret (je_eqA hr.units (je_tup (jd_cons (je_fld (at_Ratio_top Z) (je_var 0)) (jd_cons (je_fld (at_Ratio_bottom Z) (je_var 0)) jd_nil))) (je_var 1))))))
/-! Ratio.__neg__ -/
theorem sc_Ratio___neg__ : FnScope ["self"] ["self"] (defScope s_Ratio___neg__) := ⟨rfl, rfl, rfl, by decide +kernel, rfl, by decide +kernel, by decide +kernel⟩
noncomputable def b_Ratio___neg__ : M Out := (sRet (eMake 2 2 2 den_Ratio___init__ (aSet (eOp1 opNeg (eFld 2 0 (eVar 0))) (aSet (eFld 2 1 (eVar 0)) aNil))))
noncomputable def den_Ratio___neg__ : List SV → Cal := denOf 1 0 b_Ratio___neg__
theorem F_Ratio___neg__ (Z : Zs K mg) : Fk P w K mg base (He.ma K (He.ga K "Ratio") "__neg__") ["self"] 5 (spD K (G K) 1 den_Ratio___neg__) :=
  fk_def (m := 0) (Z.c.def_ 5 (d := d_Ratio___neg__) rfl) sc_Ratio___neg__ (fun _ _ _ _ _ _ us hl => match us, hl with | [_], _ => rfl) rfl rfl (fun cdv A outer s H E hr tk hp =>
    (jss_one (js_ret (je_make (mk_Ratio Z) (F_Ratio___init__ (P := P) (w := w) (base := base) Z) (hr.mono (by decide)) tk (g_Ratio Z) rfl (ja_set (je_neg (je_fld (at_Ratio_top Z) (je_var 0))) (ja_set (je_fld (at_Ratio_bottom Z) (je_var 0)) ja_nil)) rfl))))
/-! Ratio.whole -/
theorem sc_Ratio_whole : FnScope ["self"] ["self"] (defScope s_Ratio_whole) := ⟨rfl, rfl, rfl, by decide +kernel, rfl, by decide +kernel, by decide +kernel⟩
noncomputable def b_Ratio_whole : M Out := (sRet (eOp2 opFDiv (eFld 2 0 (eVar 0)) (eFld 2 1 (eVar 0))))
noncomputable def den_Ratio_whole : List SV → Cal := denOf 1 0 b_Ratio_whole
theorem F_Ratio_whole (Z : Zs K mg) : Fk P w K mg base (He.ma K (He.ga K "Ratio") "whole") ["self"] 1 (spD K (G K) 1 den_Ratio_whole) :=
  fk_def (m := 0) (Z.c.def_ 15 (d := d_Ratio_whole) rfl) sc_Ratio_whole (fun _ _ _ _ _ _ us hl => match us, hl with | [_], _ => rfl) rfl rfl (fun cdv A outer s H E hr tk hp =>
    (jss_one (js_ret (je_fdiv (je_fld (at_Ratio_top Z) (je_var 0)) (je_fld (at_Ratio_bottom Z) (je_var 0))))))
/-! Ratio.sign -/
theorem sc_Ratio_sign : FnScope ["self"] ["self"] (defScope s_Ratio_sign) := ⟨rfl, rfl, rfl, by decide +kernel, rfl, by decide +kernel, by decide +kernel⟩
noncomputable def b_Ratio_sign : M Out := (sRet (eOp2 opSub (eOpn opInt1 (pCons (eOp2 opGt (eFld 2 0 (eVar 0)) (eC (.int 0))) pNil)) (eOpn opInt1 (pCons (eOp2 opLt (eFld 2 0 (eVar 0)) (eC (.int 0))) pNil))))
noncomputable def den_Ratio_sign : List SV → Cal := denOf 1 0 b_Ratio_sign
theorem F_Ratio_sign (Z : Zs K mg) : Fk P w K mg base (He.ma K (He.ga K "Ratio") "sign") ["self"] 1 (spD K (G K) 1 den_Ratio_sign) :=
  fk_def (m := 0) (Z.c.def_ 14 (d := d_Ratio_sign) rfl) sc_Ratio_sign (fun _ _ _ _ _ _ us hl => match us, hl with | [_], _ => rfl) rfl rfl (fun cdv A outer s H E hr tk hp =>
    (jss_one (js_ret (je_sub (je_callTy call_int1 ok_int1 (jp_cons (je_gt (je_fld (at_Ratio_top Z) (je_var 0)) (je_int 0)) jp_nil) (fr_int Z) rfl) (je_callTy call_int1 ok_int1 (jp_cons (je_lt (je_fld (at_Ratio_top Z) (je_var 0)) (je_int 0)) jp_nil) (fr_int Z) rfl)))))
/-! _law_questions -/
theorem sc__law_questions : FnScope ["_law_source_here", "_law_one", "_law_pair_here", "_law_number", "_law_told", "_law_signs", "_law_beat", "_law_rest", "_law_odd_here", "_law_asked", "_law_found"] ["_law_source_here", "_law_one", "_law_pair_here", "_law_number"] (defScope s__law_questions) := ⟨rfl, rfl, rfl, by decide +kernel, rfl, by decide +kernel, by decide +kernel⟩
noncomputable def c__law_questions_0 : M RV := (eLcV [10] 9 (gNameM 10) eYes (eAndV (eOp2 opEqA (eOp2 opIx (eVar 10) (eC (.int 0))) (eC (.str "refused"))) (eCall 2 den__law_alike (aSet (eOp2 opIx (eVar 10) (eC (.int 1))) (aLend 8 aNil)))))
noncomputable def t__law_questions_10 : M Out := (sRet (eOpn opAll (pCons c__law_questions_0 pNil)))
noncomputable def t__law_questions_9 : M Out := sSeq (sAsg 9 (eLst (dCons (eCall 2 den__law_over (aLend 1 (aLend 8 aNil))) (dCons (eCall 2 den__law_less (aLend 1 (aLend 8 aNil))) dNil)))) t__law_questions_10
noncomputable def t__law_questions_8 : M Out := sSeq (sAsg 8 (eCall 1 den__law_odd (aLend 0 aNil))) t__law_questions_9
noncomputable def t__law_questions_7 : M Out := sSeq (sIf (eOr (eNot (eB (eCall 2 den__law_is (aSet (eMeth 2 2 den_Ratio_rest (eVar 1) (aLend 6 aNil)) (aSet (eCall 2 den__law_lowest (aLend 7 (aSet (eOp2 opIx (eVar 2) (eC (.int 1))) aNil))) aNil))))) (eNot (eB (eCall 2 den__law_is (aSet (eNegO 2 den_Ratio___neg__ (eVar 1)) (aSet (eTup (dCons (eOp1 opNeg (eOp2 opIx (eVar 2) (eC (.int 0)))) (dCons (eOp2 opIx (eVar 2) (eC (.int 1))) dNil))) aNil)))))) (sRet (eC (.bl false))) sNx) t__law_questions_8
noncomputable def t__law_questions_6 : M Out := sSeq (sAsg 7 (eOp2 opMod (eOpn opInt1 (pCons (eOp2 opIx (eVar 2) (eC (.int 0))) pNil)) (eOp2 opMul (eVar 6) (eOp2 opIx (eVar 2) (eC (.int 1)))))) t__law_questions_7
noncomputable def t__law_questions_5 : M Out := sSeq (sAsg 6 (eOp2 opAdd (eC (.int 1)) (eCall 2 den__law_draw (aLend 0 (aSet (eC (.int 1500)) aNil))))) t__law_questions_6
noncomputable def t__law_questions_4 : M Out := sSeq (sIf (eB (eOp2 opNeA (eVar 5) (eTup (dCons (eOp2 opSub (eOpn opInt1 (pCons (eOp2 opGt (eOp2 opIx (eVar 2) (eC (.int 0))) (eC (.int 0))) pNil)) (eOpn opInt1 (pCons (eOp2 opLt (eOp2 opIx (eVar 2) (eC (.int 0))) (eC (.int 0))) pNil))) (dCons (eOp2 opFDiv (eOp2 opIx (eVar 2) (eC (.int 0))) (eOp2 opIx (eVar 2) (eC (.int 1)))) dNil))))) (sRet (eC (.bl false))) sNx) t__law_questions_5
noncomputable def t__law_questions_3 : M Out := sSeq (sIf (eOr (eNot (eB (eCall 1 den__law_integer (aSet (eOp2 opIx (eVar 5) (eC (.int 0))) aNil)))) (eNot (eB (eCall 1 den__law_integer (aSet (eOp2 opIx (eVar 5) (eC (.int 1))) aNil))))) (sRet (eC (.bl false))) sNx) t__law_questions_4
noncomputable def t__law_questions_2 : M Out := sSeq (sAsg 5 (eTup (dCons (eMeth 2 1 den_Ratio_sign (eVar 1) aNil) (dCons (eMeth 2 1 den_Ratio_whole (eVar 1) aNil) dNil)))) t__law_questions_3
noncomputable def t__law_questions_1 : M Out := sSeq (sIf (eOr (eB (eOp2 opNeA (eOp2 opIx (eVar 4) (eC (.int 0))) (eC (.str "told")))) (eOr (eNot (eB (eIsi kn ["bool"] [] (eOp2 opIx (eVar 4) (eC (.int 1)))))) (eB (eOp2 opNeA (eOp2 opIx (eVar 4) (eC (.int 1))) (eOp2 opLt (eOp2 opIx (eVar 2) (eC (.int 0))) (eOp2 opMul (eVar 3) (eOp2 opIx (eVar 2) (eC (.int 1))))))))) (sRet (eC (.bl false))) sNx) t__law_questions_2
noncomputable def t__law_questions_0 : M Out := sSeq (sAsg 4 (eCall 2 den__law_less (aLend 1 (aLend 3 aNil)))) t__law_questions_1
noncomputable def b__law_questions : M Out := t__law_questions_0
noncomputable def den__law_questions : List SV → Cal := denOf 4 7 b__law_questions
theorem F__law_questions (Z : Zs K mg) : Fk P w K mg base (He.ga K "_law_questions") ["_law_source_here", "_law_one", "_law_pair_here", "_law_number"] 8 (spD K (G K) 4 den__law_questions) :=
  fk_def (m := 7) (Z.c.def_ 33 (d := d__law_questions) rfl) sc__law_questions (fun _ _ _ _ _ _ us hl => match us, hl with | [_, _, _, _], _ => rfl) rfl rfl (fun cdv A outer s H E hr tk hp =>
    (jss_cons (js_set 4 sc__law_questions.nd (je_call (F__law_less (P := P) (w := w) (base := base) Z) (hr.mono (by decide)) tk (g__law_less Z) (ja_lend 1 (ja_lend 3 ja_nil)) rfl)) (jss_cons (js_if (jt_w (jw_or (jt_neA hr.units (je_ix (je_var 4) (je_int 0)) (je_str "told")) (jw_or (jt_not (jt_val (je_isi (kk Z) ["bool"] [] (by decide) (by decide) rfl (je_ix (je_var 4) (je_int 1)) (pe_ty "bool" rfl (fr_bool Z)) (fr_isinstance Z) rfl))) (jw_or1 (jt_neA hr.units (je_ix (je_var 4) (je_int 1)) (je_lt (je_ix (je_var 2) (je_int 0)) (je_mul (je_var 3) (je_ix (je_var 2) (je_int 1))))))))) (jss_one (js_ret (je_bl false))) jss_nil) (jss_cons (js_set 5 sc__law_questions.nd (je_tup (jd_cons (je_meth0 (c0 := 2) ((kk Z).ins 2 (by decide)).cl (me_Ratio_sign Z) (show ("sign" : Str) ∉ (["top", "bottom"] : List Str) by decide) (F_Ratio_sign (P := P) (w := w) (base := base) Z) (hr.mono (by decide)) tk (je_var 1)) (jd_cons (je_meth0 (c0 := 2) ((kk Z).ins 2 (by decide)).cl (me_Ratio_whole Z) (show ("whole" : Str) ∉ (["top", "bottom"] : List Str) by decide) (F_Ratio_whole (P := P) (w := w) (base := base) Z) (hr.mono (by decide)) tk (je_var 1)) jd_nil)))) (jss_cons (js_if (jt_w (jw_or (jt_not (jt_val (je_call (F__law_integer (P := P) (w := w) (base := base) Z) (hr.mono (by decide)) tk (g__law_integer Z) (ja_set (je_ix (je_var 5) (je_int 0)) ja_nil) rfl))) (jw_or1 (jt_not (jt_val (je_call (F__law_integer (P := P) (w := w) (base := base) Z) (hr.mono (by decide)) tk (g__law_integer Z) (ja_set (je_ix (je_var 5) (je_int 1)) ja_nil) rfl)))))) (jss_one (js_ret (je_bl false))) jss_nil) (jss_cons (js_if (jt_neA hr.units (je_var 5) (je_tup (jd_cons (je_sub (je_callTy call_int1 ok_int1 (jp_cons (je_gt (je_ix (je_var 2) (je_int 0)) (je_int 0)) jp_nil) (fr_int Z) rfl) (je_callTy call_int1 ok_int1 (jp_cons (je_lt (je_ix (je_var 2) (je_int 0)) (je_int 0)) jp_nil) (fr_int Z) rfl)) (jd_cons (je_fdiv (je_ix (je_var 2) (je_int 0)) (je_ix (je_var 2) (je_int 1))) jd_nil)))) (jss_one (js_ret (je_bl false))) jss_nil) (jss_cons (js_set 6 sc__law_questions.nd (je_add (je_int 1) (je_call (F__law_draw (P := P) (w := w) (base := base) Z) (hr.mono (by decide)) tk (g__law_draw Z) (ja_lend 0 (ja_set (je_int 1500) ja_nil)) rfl))) (jss_cons (js_set 7 sc__law_questions.nd (je_mod (je_callTy call_int1 ok_int1 (jp_cons (je_ix (je_var 2) (je_int 0)) jp_nil) (fr_int Z) rfl) (je_mul (je_var 6) (je_ix (je_var 2) (je_int 1))))) (jss_cons (js_if (jt_w (jw_or (jt_not (jt_val (je_call (F__law_is (P := P) (w := w) (base := base) Z) (hr.mono (by decide)) tk (g__law_is Z) (ja_set (je_meth (c0 := 2) ((kk Z).ins 2 (by decide)).cl (me_Ratio_rest Z) (show ("rest" : Str) ∉ (["top", "bottom"] : List Str) by decide) (F_Ratio_rest (P := P) (w := w) (base := base) Z) (hr.mono (by decide)) tk (je_var 1) (ja_lend 6 ja_nil)) (ja_set (je_call (F__law_lowest (P := P) (w := w) (base := base) Z) (hr.mono (by decide)) tk (g__law_lowest Z) (ja_lend 7 (ja_set (je_ix (je_var 2) (je_int 1)) ja_nil)) rfl) ja_nil)) rfl))) (jw_or1 (jt_not (jt_val (je_call (F__law_is (P := P) (w := w) (base := base) Z) (hr.mono (by decide)) tk (g__law_is Z) (ja_set (je_negO (c0 := 2) (neg_Ratio Z) (F_Ratio___neg__ (P := P) (w := w) (base := base) Z) (hr.mono (by decide)) (je_var 1)) (ja_set (je_tup (jd_cons (je_neg (je_ix (je_var 2) (je_int 0))) (jd_cons (je_ix (je_var 2) (je_int 1)) jd_nil))) ja_nil)) rfl)))))) (jss_one (js_ret (je_bl false))) jss_nil) (jss_cons (js_set 8 sc__law_questions.nd (je_call (F__law_odd (P := P) (w := w) (base := base) Z) (hr.mono (by decide)) tk (g__law_odd Z) (ja_lend 0 ja_nil) rfl)) (jss_cons (js_set 9 sc__law_questions.nd (je_lst (jd_cons (je_call (F__law_over (P := P) (w := w) (base := base) Z) (hr.mono (by decide)) tk (g__law_over Z) (ja_lend 1 (ja_lend 8 ja_nil)) rfl) (jd_cons (je_call (F__law_less (P := P) (w := w) (base := base) Z) (hr.mono (by decide)) tk (g__law_less Z) (ja_lend 1 (ja_lend 8 ja_nil)) rfl) jd_nil)))) (jss_one (js_ret (je_callB (cr_all rfl) ok_all (jp_cons (je_lcV 9 rfl sc__law_questions.nd (blkB_ok (N := ["_law_source_here", "_law_one", "_law_pair_here", "_law_number", "_law_told", "_law_signs", "_law_beat", "_law_rest", "_law_odd_here", "_law_asked", "_law_found"]) (sc := defScope s__law_questions) (own := [("_law_found", 10)]) (by decide +kernel)) rfl (jc_name 10 sc__law_questions.nd) (fun s' H' C' cl' fp' => (je_and (je_eqA hr.units (je_ix (je_var 10) (je_int 0)) (je_str "refused")) (je_one (je_call (F__law_alike (P := P) (w := w) (base := base) Z) (hr.mono (by decide)) takes0 (g__law_alike Z) (ja_set (je_ix (je_var 10) (je_int 1)) (ja_lend 8 ja_nil)) rfl))))) jp_nil) (fr_all Z) rfl))))))))))))))
/-! _law_quotient -/
theorem sc__law_quotient : FnScope ["_law_one", "_law_pair_here", "_law_other", "_law_due", "_law_told"] ["_law_one", "_law_pair_here", "_law_other", "_law_due"] (defScope s__law_quotient) := ⟨rfl, rfl, rfl, by decide +kernel, rfl, by decide +kernel, by decide +kernel⟩
noncomputable def b__law_quotient : M Out := (sSeq (sAsg 4 (eCall 2 den__law_over (aLend 0 (aLend 2 aNil)))) (sSeq (sIf (eB (eOp2 opEqA (eOp2 opIx (eVar 3) (eC (.int 0))) (eC (.int 0)))) (sRet (eAndV (eOp2 opEqA (eOp2 opIx (eVar 4) (eC (.int 0))) (eC (.str "refused"))) (eOp2R (opEqW kn 2 den_Ratio___eq__) (eVar 2) (eOp2 opIx (eVar 4) (eC (.int 1)))))) sNx) (sRet (eAndV (eOp2 opEqA (eOp2 opIx (eVar 4) (eC (.int 0))) (eC (.str "told"))) (eCall 2 den__law_is (aSet (eOp2 opIx (eVar 4) (eC (.int 1))) (aSet (eCall 2 den__law_lowest (aSet (eOp2 opMul (eOp2 opIx (eVar 1) (eC (.int 0))) (eOp2 opIx (eVar 3) (eC (.int 1)))) (aSet (eOp2 opMul (eOp2 opIx (eVar 1) (eC (.int 1))) (eOp2 opIx (eVar 3) (eC (.int 0)))) aNil))) aNil)))))))
noncomputable def den__law_quotient : List SV → Cal := denOf 4 1 b__law_quotient
theorem F__law_quotient (Z : Zs K mg) : Fk P w K mg base (He.ga K "_law_quotient") ["_law_one", "_law_pair_here", "_law_other", "_law_due"] 8 (spD K (G K) 4 den__law_quotient) :=
  fk_def (m := 1) (Z.c.def_ 32 (d := d__law_quotient) rfl) sc__law_quotient (fun _ _ _ _ _ _ us hl => match us, hl with | [_, _, _, _], _ => rfl) rfl rfl (fun cdv A outer s H E hr tk hp =>
    (jss_cons (js_set 4 sc__law_quotient.nd (je_call (F__law_over (P := P) (w := w) (base := base) Z) (hr.mono (by decide)) tk (g__law_over Z) (ja_lend 0 (ja_lend 2 ja_nil)) rfl)) (jss_cons (js_if (jt_eqA hr.units (je_ix (je_var 3) (je_int 0)) (je_int 0)) (jss_one (js_ret (je_and (je_eqA hr.units (je_ix (je_var 4) (je_int 0)) (je_str "refused")) (je_one (je_eqW (kk Z) (by decide) (eq_Ratio Z) (F_Ratio___eq__ (P := P) (w := w) (base := base) Z) (hr.mono (by decide)) (je_var 2) (je_ix (je_var 4) (je_int 1))))))) jss_nil) (jss_one (js_ret (je_and (je_eqA hr.units (je_ix (je_var 4) (je_int 0)) (je_str "told")) (je_one (je_call (F__law_is (P := P) (w := w) (base := base) Z) (hr.mono (by decide)) tk (g__law_is Z) (ja_set (je_ix (je_var 4) (je_int 1)) (ja_set (je_call (F__law_lowest (P := P) (w := w) (base := base) Z) (hr.mono (by decide)) tk (g__law_lowest Z) (ja_set (je_mul (je_ix (je_var 1) (je_int 0)) (je_ix (je_var 3) (je_int 1))) (ja_set (je_mul (je_ix (je_var 1) (je_int 1)) (je_ix (je_var 3) (je_int 0))) ja_nil)) rfl) ja_nil)) rfl))))))))
/-! Ratio.__mul__ -/
theorem sc_Ratio___mul__ : FnScope ["self", "other"] ["self", "other"] (defScope s_Ratio___mul__) := ⟨rfl, rfl, rfl, by decide +kernel, rfl, by decide +kernel, by decide +kernel⟩
noncomputable def b_Ratio___mul__ : M Out := (sSeq (sIf (eB (eCall 1 den_is_integer (aLend 1 aNil))) (sRet (eMake 2 2 2 den_Ratio___init__ (aSet (eOp2 opMul (eFld 2 0 (eVar 0)) (eVar 1)) (aSet (eFld 2 1 (eVar 0)) aNil)))) sNx) (sSeq (sIf (eNot (eB (eIsi kn [] [2] (eVar 1)))) (sRet eStuck) sNx) (sRet (eMake 2 2 2 den_Ratio___init__ (aSet (eOp2 opMul (eFld 2 0 (eVar 0)) (eFld 2 0 (eVar 1))) (aSet (eOp2 opMul (eFld 2 1 (eVar 0)) (eFld 2 1 (eVar 1))) aNil))))))
noncomputable def den_Ratio___mul__ : List SV → Cal := denOf 2 0 b_Ratio___mul__
theorem F_Ratio___mul__ (Z : Zs K mg) : Fk P w K mg base (He.ma K (He.ga K "Ratio") "__mul__") ["self", "other"] 5 (spD K (G K) 2 den_Ratio___mul__) :=
  fk_def (m := 0) (Z.c.def_ 10 (d := d_Ratio___mul__) rfl) sc_Ratio___mul__ (fun _ _ _ _ _ _ us hl => match us, hl with | [_, _], _ => rfl) rfl rfl (fun cdv A outer s H E hr tk hp =>
    (jss_cons (js_if (jt_val (je_call (F_is_integer (P := P) (w := w) (base := base) Z) (hr.mono (by decide)) tk (g_is_integer Z) (ja_lend 1 ja_nil) rfl)) (jss_one (js_ret (je_make (mk_Ratio Z) (F_Ratio___init__ (P := P) (w := w) (base := base) Z) (hr.mono (by decide)) tk (g_Ratio Z) rfl (ja_set (je_mul (je_fld (at_Ratio_top Z) (je_var 0)) (je_var 1)) (ja_set (je_fld (at_Ratio_bottom Z) (je_var 0)) ja_nil)) rfl))) jss_nil) (jss_cons (js_if (jt_not (jt_val (je_isi (kk Z) [] [2] (by decide) (by decide) rfl (je_var 1) (pe_cl rfl (g_Ratio Z)) (fr_isinstance Z) rfl))) (jss_one (js_ret (je_stuck _))) jss_nil) (jss_one (js_ret (je_make (mk_Ratio Z) (F_Ratio___init__ (P := P) (w := w) (base := base) Z) (hr.mono (by decide)) tk (g_Ratio Z) rfl (ja_set (je_mul (je_fld (at_Ratio_top Z) (je_var 0)) (je_fld (at_Ratio_top Z) (je_var 1))) (ja_set (je_mul (je_fld (at_Ratio_bottom Z) (je_var 0)) (je_fld (at_Ratio_bottom Z) (je_var 1))) ja_nil)) rfl))))))
/-! Ratio.__rmul__ -/
theorem sc_Ratio___rmul__ : FnScope ["self", "other"] ["self", "other"] (defScope s_Ratio___rmul__) := ⟨rfl, rfl, rfl, by decide +kernel, rfl, by decide +kernel, by decide +kernel⟩
noncomputable def b_Ratio___rmul__ : M Out := (sSeq (sIf (eNot (eB (eCall 1 den_is_integer (aLend 1 aNil)))) (sRet eStuck) sNx) (sRet (eOp2R (opBin 2 den_Ratio___mul__ nCal opMul) (eVar 0) (eVar 1))))
noncomputable def den_Ratio___rmul__ : List SV → Cal := denOf 2 0 b_Ratio___rmul__
theorem F_Ratio___rmul__ (Z : Zs K mg) : Fk P w K mg base (He.ma K (He.ga K "Ratio") "__rmul__") ["self", "other"] 6 (spD K (G K) 2 den_Ratio___rmul__) :=
  fk_def (m := 0) (Z.c.def_ 11 (d := d_Ratio___rmul__) rfl) sc_Ratio___rmul__ (fun _ _ _ _ _ _ us hl => match us, hl with | [_, _], _ => rfl) rfl rfl (fun cdv A outer s H E hr tk hp =>
    (jss_cons (js_if (jt_not (jt_val (je_call (F_is_integer (P := P) (w := w) (base := base) Z) (hr.mono (by decide)) tk (g_is_integer Z) (ja_lend 1 ja_nil) rfl))) (jss_one (js_ret (je_stuck _))) jss_nil) (jss_one (js_ret (je_binL (c0 := 2) op_mulAll ok_mul (op_Ratio_mul Z) (F_Ratio___mul__ (P := P) (w := w) (base := base) Z) (hr.mono (by decide)) (je_var 0) (je_var 1))))))
/-! Ratio.__sub__ -/
theorem sc_Ratio___sub__ : FnScope ["self", "other"] ["self", "other"] (defScope s_Ratio___sub__) := ⟨rfl, rfl, rfl, by decide +kernel, rfl, by decide +kernel, by decide +kernel⟩
noncomputable def b_Ratio___sub__ : M Out := (sSeq (sIf (eB (eCall 1 den_is_integer (aLend 1 aNil))) (sRet (eMake 2 2 2 den_Ratio___init__ (aSet (eOp2 opSub (eFld 2 0 (eVar 0)) (eOp2 opMul (eVar 1) (eFld 2 1 (eVar 0)))) (aSet (eFld 2 1 (eVar 0)) aNil)))) sNx) (sSeq (sIf (eNot (eB (eIsi kn [] [2] (eVar 1)))) (sRet eStuck) sNx) (sRet (eMake 2 2 2 den_Ratio___init__ (aSet (eOp2 opSub (eOp2 opMul (eFld 2 0 (eVar 0)) (eFld 2 1 (eVar 1))) (eOp2 opMul (eFld 2 0 (eVar 1)) (eFld 2 1 (eVar 0)))) (aSet (eOp2 opMul (eFld 2 1 (eVar 0)) (eFld 2 1 (eVar 1))) aNil))))))
noncomputable def den_Ratio___sub__ : List SV → Cal := denOf 2 0 b_Ratio___sub__
theorem F_Ratio___sub__ (Z : Zs K mg) : Fk P w K mg base (He.ma K (He.ga K "Ratio") "__sub__") ["self", "other"] 5 (spD K (G K) 2 den_Ratio___sub__) :=
  fk_def (m := 0) (Z.c.def_ 8 (d := d_Ratio___sub__) rfl) sc_Ratio___sub__ (fun _ _ _ _ _ _ us hl => match us, hl with | [_, _], _ => rfl) rfl rfl (fun cdv A outer s H E hr tk hp =>
    (jss_cons (js_if (jt_val (je_call (F_is_integer (P := P) (w := w) (base := base) Z) (hr.mono (by decide)) tk (g_is_integer Z) (ja_lend 1 ja_nil) rfl)) (jss_one (js_ret (je_make (mk_Ratio Z) (F_Ratio___init__ (P := P) (w := w) (base := base) Z) (hr.mono (by decide)) tk (g_Ratio Z) rfl (ja_set (je_sub (je_fld (at_Ratio_top Z) (je_var 0)) (je_mul (je_var 1) (je_fld (at_Ratio_bottom Z) (je_var 0)))) (ja_set (je_fld (at_Ratio_bottom Z) (je_var 0)) ja_nil)) rfl))) jss_nil) (jss_cons (js_if (jt_not (jt_val (je_isi (kk Z) [] [2] (by decide) (by decide) rfl (je_var 1) (pe_cl rfl (g_Ratio Z)) (fr_isinstance Z) rfl))) (jss_one (js_ret (je_stuck _))) jss_nil) (jss_one (js_ret (je_make (mk_Ratio Z) (F_Ratio___init__ (P := P) (w := w) (base := base) Z) (hr.mono (by decide)) tk (g_Ratio Z) rfl (ja_set (je_sub (je_mul (je_fld (at_Ratio_top Z) (je_var 0)) (je_fld (at_Ratio_bottom Z) (je_var 1))) (je_mul (je_fld (at_Ratio_top Z) (je_var 1)) (je_fld (at_Ratio_bottom Z) (je_var 0)))) (ja_set (je_mul (je_fld (at_Ratio_bottom Z) (je_var 0)) (je_fld (at_Ratio_bottom Z) (je_var 1))) ja_nil)) rfl))))))
/-! Ratio.__rsub__ -/
theorem sc_Ratio___rsub__ : FnScope ["self", "other"] ["self", "other"] (defScope s_Ratio___rsub__) := ⟨rfl, rfl, rfl, by decide +kernel, rfl, by decide +kernel, by decide +kernel⟩
noncomputable def b_Ratio___rsub__ : M Out := (sSeq (sIf (eNot (eB (eCall 1 den_is_integer (aLend 1 aNil)))) (sRet eStuck) sNx) (sRet (eMake 2 2 2 den_Ratio___init__ (aSet (eOp2 opSub (eOp2 opMul (eVar 1) (eFld 2 1 (eVar 0))) (eFld 2 0 (eVar 0))) (aSet (eFld 2 1 (eVar 0)) aNil)))))
noncomputable def den_Ratio___rsub__ : List SV → Cal := denOf 2 0 b_Ratio___rsub__
theorem F_Ratio___rsub__ (Z : Zs K mg) : Fk P w K mg base (He.ma K (He.ga K "Ratio") "__rsub__") ["self", "other"] 5 (spD K (G K) 2 den_Ratio___rsub__) :=
  fk_def (m := 0) (Z.c.def_ 9 (d := d_Ratio___rsub__) rfl) sc_Ratio___rsub__ (fun _ _ _ _ _ _ us hl => match us, hl with | [_, _], _ => rfl) rfl rfl (fun cdv A outer s H E hr tk hp =>
    (jss_cons (js_if (jt_not (jt_val (je_call (F_is_integer (P := P) (w := w) (base := base) Z) (hr.mono (by decide)) tk (g_is_integer Z) (ja_lend 1 ja_nil) rfl))) (jss_one (js_ret (je_stuck _))) jss_nil) (jss_one (js_ret (je_make (mk_Ratio Z) (F_Ratio___init__ (P := P) (w := w) (base := base) Z) (hr.mono (by decide)) tk (g_Ratio Z) rfl (ja_set (je_sub (je_mul (je_var 1) (je_fld (at_Ratio_bottom Z) (je_var 0))) (je_fld (at_Ratio_top Z) (je_var 0))) (ja_set (je_fld (at_Ratio_bottom Z) (je_var 0)) ja_nil)) rfl)))))
/-! Ratio.__add__ -/
theorem sc_Ratio___add__ : FnScope ["self", "other"] ["self", "other"] (defScope s_Ratio___add__) := ⟨rfl, rfl, rfl, by decide +kernel, rfl, by decide +kernel, by decide +kernel⟩
noncomputable def b_Ratio___add__ : M Out := (sSeq (sIf (eB (eCall 1 den_is_integer (aLend 1 aNil))) (sRet (eMake 2 2 2 den_Ratio___init__ (aSet (eOp2 opAdd (eFld 2 0 (eVar 0)) (eOp2 opMul (eVar 1) (eFld 2 1 (eVar 0)))) (aSet (eFld 2 1 (eVar 0)) aNil)))) sNx) (sSeq (sIf (eNot (eB (eIsi kn [] [2] (eVar 1)))) (sRet eStuck) sNx) (sRet (eMake 2 2 2 den_Ratio___init__ (aSet (eOp2 opAdd (eOp2 opMul (eFld 2 0 (eVar 0)) (eFld 2 1 (eVar 1))) (eOp2 opMul (eFld 2 0 (eVar 1)) (eFld 2 1 (eVar 0)))) (aSet (eOp2 opMul (eFld 2 1 (eVar 0)) (eFld 2 1 (eVar 1))) aNil))))))
noncomputable def den_Ratio___add__ : List SV → Cal := denOf 2 0 b_Ratio___add__
theorem F_Ratio___add__ (Z : Zs K mg) : Fk P w K mg base (He.ma K (He.ga K "Ratio") "__add__") ["self", "other"] 5 (spD K (G K) 2 den_Ratio___add__) :=
  fk_def (m := 0) (Z.c.def_ 6 (d := d_Ratio___add__) rfl) sc_Ratio___add__ (fun _ _ _ _ _ _ us hl => match us, hl with | [_, _], _ => rfl) rfl rfl (fun cdv A outer s H E hr tk hp =>
    (jss_cons (js_if (jt_val (je_call (F_is_integer (P := P) (w := w) (base := base) Z) (hr.mono (by decide)) tk (g_is_integer Z) (ja_lend 1 ja_nil) rfl)) (jss_one (js_ret (je_make (mk_Ratio Z) (F_Ratio___init__ (P := P) (w := w) (base := base) Z) (hr.mono (by decide)) tk (g_Ratio Z) rfl (ja_set (je_add (je_fld (at_Ratio_top Z) (je_var 0)) (je_mul (je_var 1) (je_fld (at_Ratio_bottom Z) (je_var 0)))) (ja_set (je_fld (at_Ratio_bottom Z) (je_var 0)) ja_nil)) rfl))) jss_nil) (jss_cons (js_if (jt_not (jt_val (je_isi (kk Z) [] [2] (by decide) (by decide) rfl (je_var 1) (pe_cl rfl (g_Ratio Z)) (fr_isinstance Z) rfl))) (jss_one (js_ret (je_stuck _))) jss_nil) (jss_one (js_ret (je_make (mk_Ratio Z) (F_Ratio___init__ (P := P) (w := w) (base := base) Z) (hr.mono (by decide)) tk (g_Ratio Z) rfl (ja_set (je_add (je_mul (je_fld (at_Ratio_top Z) (je_var 0)) (je_fld (at_Ratio_bottom Z) (je_var 1))) (je_mul (je_fld (at_Ratio_top Z) (je_var 1)) (je_fld (at_Ratio_bottom Z) (je_var 0)))) (ja_set (je_mul (je_fld (at_Ratio_bottom Z) (je_var 0)) (je_fld (at_Ratio_bottom Z) (je_var 1))) ja_nil)) rfl))))))
/-! Ratio.__radd__ -/
theorem sc_Ratio___radd__ : FnScope ["self", "other"] ["self", "other"] (defScope s_Ratio___radd__) := ⟨rfl, rfl, rfl, by decide +kernel, rfl, by decide +kernel, by decide +kernel⟩
noncomputable def b_Ratio___radd__ : M Out := (sSeq (sIf (eNot (eB (eCall 1 den_is_integer (aLend 1 aNil)))) (sRet eStuck) sNx) (sRet (eOp2R (opBin 2 den_Ratio___add__ nCal opAdd) (eVar 0) (eVar 1))))
noncomputable def den_Ratio___radd__ : List SV → Cal := denOf 2 0 b_Ratio___radd__
theorem F_Ratio___radd__ (Z : Zs K mg) : Fk P w K mg base (He.ma K (He.ga K "Ratio") "__radd__") ["self", "other"] 6 (spD K (G K) 2 den_Ratio___radd__) :=
  fk_def (m := 0) (Z.c.def_ 7 (d := d_Ratio___radd__) rfl) sc_Ratio___radd__ (fun _ _ _ _ _ _ us hl => match us, hl with | [_, _], _ => rfl) rfl rfl (fun cdv A outer s H E hr tk hp =>
    (jss_cons (js_if (jt_not (jt_val (je_call (F_is_integer (P := P) (w := w) (base := base) Z) (hr.mono (by decide)) tk (g_is_integer Z) (ja_lend 1 ja_nil) rfl))) (jss_one (js_ret (je_stuck _))) jss_nil) (jss_one (js_ret (je_binL (c0 := 2) op_addAll ok_add (op_Ratio_add Z) (F_Ratio___add__ (P := P) (w := w) (base := base) Z) (hr.mono (by decide)) (je_var 0) (je_var 1))))))
/-! _law_done -/
theorem sc__law_done : FnScope ["_law_deed", "_law_one", "_law_other"] ["_law_deed", "_law_one", "_law_other"] (defScope s__law_done) := ⟨rfl, rfl, rfl, by decide +kernel, rfl, by decide +kernel, by decide +kernel⟩
noncomputable def b__law_done : M Out := (sSeq (sIf (eB (eOp2 opEqA (eVar 0) (eC (.int 0)))) (sRet (eOp2R (opBin 2 den_Ratio___add__ den_Ratio___radd__ opAdd) (eVar 1) (eVar 2))) sNx) (sSeq (sIf (eB (eOp2 opEqA (eVar 0) (eC (.int 1)))) (sRet (eOp2R (opBin 2 den_Ratio___sub__ den_Ratio___rsub__ opSub) (eVar 1) (eVar 2))) sNx) (sRet (eOp2R (opBin 2 den_Ratio___mul__ den_Ratio___rmul__ opMul) (eVar 1) (eVar 2)))))
noncomputable def den__law_done : List SV → Cal := denOf 3 0 b__law_done
theorem F__law_done (Z : Zs K mg) : Fk P w K mg base (He.ga K "_law_done") ["_law_deed", "_law_one", "_law_other"] 7 (spD K (G K) 3 den__law_done) :=
  fk_def (m := 0) (Z.c.def_ 31 (d := d__law_done) rfl) sc__law_done (fun _ _ _ _ _ _ us hl => match us, hl with | [_, _, _], _ => rfl) rfl rfl (fun cdv A outer s H E hr tk hp =>
    (jss_cons (js_if (jt_eqA hr.units (je_var 0) (je_int 0)) (jss_one (js_ret (je_addO (c0 := 2) (op_Ratio_add Z) (F_Ratio___add__ (P := P) (w := w) (base := base) Z) (hr.mono (by decide)) (F_Ratio___radd__ (P := P) (w := w) (base := base) Z) (hr.mono (by decide)) (je_var 1) (je_var 2)))) jss_nil) (jss_cons (js_if (jt_eqA hr.units (je_var 0) (je_int 1)) (jss_one (js_ret (je_subO (c0 := 2) (op_Ratio_sub Z) (F_Ratio___sub__ (P := P) (w := w) (base := base) Z) (hr.mono (by decide)) (F_Ratio___rsub__ (P := P) (w := w) (base := base) Z) (hr.mono (by decide)) (je_var 1) (je_var 2)))) jss_nil) (jss_one (js_ret (je_mulO (c0 := 2) (op_Ratio_mul Z) (F_Ratio___mul__ (P := P) (w := w) (base := base) Z) (hr.mono (by decide)) (F_Ratio___rmul__ (P := P) (w := w) (base := base) Z) (hr.mono (by decide)) (je_var 1) (je_var 2)))))))
/-! _law_sum -/
theorem sc__law_sum : FnScope ["_law_deed", "_law_one", "_law_other"] ["_law_deed", "_law_one", "_law_other"] (defScope s__law_sum) := ⟨rfl, rfl, rfl, by decide +kernel, rfl, by decide +kernel, by decide +kernel⟩
noncomputable def b__law_sum : M Out := (sSeq (sIf (eB (eOp2 opEqA (eVar 0) (eC (.int 0)))) (sRet (eCall 2 den__law_lowest (aSet (eOp2 opAdd (eOp2 opMul (eOp2 opIx (eVar 1) (eC (.int 0))) (eOp2 opIx (eVar 2) (eC (.int 1)))) (eOp2 opMul (eOp2 opIx (eVar 2) (eC (.int 0))) (eOp2 opIx (eVar 1) (eC (.int 1))))) (aSet (eOp2 opMul (eOp2 opIx (eVar 1) (eC (.int 1))) (eOp2 opIx (eVar 2) (eC (.int 1)))) aNil)))) sNx) (sSeq (sIf (eB (eOp2 opEqA (eVar 0) (eC (.int 1)))) (sRet (eCall 2 den__law_lowest (aSet (eOp2 opSub (eOp2 opMul (eOp2 opIx (eVar 1) (eC (.int 0))) (eOp2 opIx (eVar 2) (eC (.int 1)))) (eOp2 opMul (eOp2 opIx (eVar 2) (eC (.int 0))) (eOp2 opIx (eVar 1) (eC (.int 1))))) (aSet (eOp2 opMul (eOp2 opIx (eVar 1) (eC (.int 1))) (eOp2 opIx (eVar 2) (eC (.int 1)))) aNil)))) sNx) (sRet (eCall 2 den__law_lowest (aSet (eOp2 opMul (eOp2 opIx (eVar 1) (eC (.int 0))) (eOp2 opIx (eVar 2) (eC (.int 0)))) (aSet (eOp2 opMul (eOp2 opIx (eVar 1) (eC (.int 1))) (eOp2 opIx (eVar 2) (eC (.int 1)))) aNil))))))
noncomputable def den__law_sum : List SV → Cal := denOf 3 0 b__law_sum
theorem F__law_sum (Z : Zs K mg) : Fk P w K mg base (He.ga K "_law_sum") ["_law_deed", "_law_one", "_law_other"] 2 (spD K (G K) 3 den__law_sum) :=
  fk_def (m := 0) (Z.c.def_ 30 (d := d__law_sum) rfl) sc__law_sum (fun _ _ _ _ _ _ us hl => match us, hl with | [_, _, _], _ => rfl) rfl rfl (fun cdv A outer s H E hr tk hp =>
    (jss_cons (js_if (jt_eqA hr.units (je_var 0) (je_int 0)) (jss_one (js_ret (je_call (F__law_lowest (P := P) (w := w) (base := base) Z) (hr.mono (by decide)) tk (g__law_lowest Z) (ja_set (je_add (je_mul (je_ix (je_var 1) (je_int 0)) (je_ix (je_var 2) (je_int 1))) (je_mul (je_ix (je_var 2) (je_int 0)) (je_ix (je_var 1) (je_int 1)))) (ja_set (je_mul (je_ix (je_var 1) (je_int 1)) (je_ix (je_var 2) (je_int 1))) ja_nil)) rfl))) jss_nil) (jss_cons (js_if (jt_eqA hr.units (je_var 0) (je_int 1)) (jss_one (js_ret (je_call (F__law_lowest (P := P) (w := w) (base := base) Z) (hr.mono (by decide)) tk (g__law_lowest Z) (ja_set (je_sub (je_mul (je_ix (je_var 1) (je_int 0)) (je_ix (je_var 2) (je_int 1))) (je_mul (je_ix (je_var 2) (je_int 0)) (je_ix (je_var 1) (je_int 1)))) (ja_set (je_mul (je_ix (je_var 1) (je_int 1)) (je_ix (je_var 2) (je_int 1))) ja_nil)) rfl))) jss_nil) (jss_one (js_ret (je_call (F__law_lowest (P := P) (w := w) (base := base) Z) (hr.mono (by decide)) tk (g__law_lowest Z) (ja_set (je_mul (je_ix (je_var 1) (je_int 0)) (je_ix (je_var 2) (je_int 0))) (ja_set (je_mul (je_ix (je_var 1) (je_int 1)) (je_ix (je_var 2) (je_int 1))) ja_nil)) rfl))))))
/-! _law_source -/
theorem sc__law_source : FnScope ["_law_script", "_law_k", "_law_first"] ["_law_script", "_law_k"] (defScope s__law_source) := ⟨rfl, rfl, rfl, by decide +kernel, rfl, by decide +kernel, by decide +kernel⟩
noncomputable def b__law_source : M Out := (sSeq (sIf (eB (eOp2 opLt (eVar 1) (eOpn opLen (pCons (eVar 0) pNil)))) (sRet (eLst (dCons (eOp2 opIx (eVar 0) (eVar 1)) (dCons (eOpn opInt1 (pCons (eOp2 opGe (eOp2 opIx (eVar 0) (eVar 1)) (eOp2 opPow (eC (.int 10)) (eC (.int 18)))) pNil)) (dCons (eC (.int 0)) (dCons (eOp2 opMod (eOpn opInt1 (pCons (eOp2 opIx (eVar 0) (eVar 1)) pNil)) (eC (.int 2147483629))) dNil)))))) sNx) (sSeq (sAsg 2 (eC (.int 0))) (sSeq (sIf (eB (eOp2 opGt (eOpn opLen (pCons (eVar 0) pNil)) (eC (.int 0)))) (sAsg 2 (eOp2 opMod (eOpn opInt1 (pCons (eOp2 opIx (eVar 0) (eC (.int 0))) pNil)) (eC (.int 2147483629)))) sNx) (sRet (eLst (dCons (eC (.int 0)) (dCons (eC (.int 0)) (dCons (eC (.int 0)) (dCons (eOp2 opAdd (eOp2 opAdd (eVar 2) (eOp2 opMul (eC (.int 104729)) (eVar 1))) (eOpn opLen (pCons (eVar 0) pNil))) dNil)))))))))
noncomputable def den__law_source : List SV → Cal := denOf 2 1 b__law_source
theorem F__law_source (Z : Zs K mg) : Fk P w K mg base (He.ga K "_law_source") ["_law_script", "_law_k"] 1 (spD K (G K) 2 den__law_source) :=
  fk_def (m := 1) (Z.c.def_ 19 (d := d__law_source) rfl) sc__law_source (fun _ _ _ _ _ _ us hl => match us, hl with | [_, _], _ => rfl) rfl rfl (fun cdv A outer s H E hr tk hp =>
    (jss_cons (js_if (jt_lt (je_var 1) (je_callB call_len ok_len (jp_cons (je_var 0) jp_nil) (fr_len Z) rfl)) (jss_one (js_ret (je_lst (jd_cons (je_ix (je_var 0) (je_var 1)) (jd_cons (je_callTy call_int1 ok_int1 (jp_cons (je_ge (je_ix (je_var 0) (je_var 1)) (je_pow (je_int 10) (je_int 18))) jp_nil) (fr_int Z) rfl) (jd_cons (je_int 0) (jd_cons (je_mod (je_callTy call_int1 ok_int1 (jp_cons (je_ix (je_var 0) (je_var 1)) jp_nil) (fr_int Z) rfl) (je_int 2147483629)) jd_nil))))))) jss_nil) (jss_cons (js_set 2 sc__law_source.nd (je_int 0)) (jss_cons (js_if (jt_gt (je_callB call_len ok_len (jp_cons (je_var 0) jp_nil) (fr_len Z) rfl) (je_int 0)) (jss_one (js_set 2 sc__law_source.nd (je_mod (je_callTy call_int1 ok_int1 (jp_cons (je_ix (je_var 0) (je_int 0)) jp_nil) (fr_int Z) rfl) (je_int 2147483629)))) jss_nil) (jss_one (js_ret (je_lst (jd_cons (je_int 0) (jd_cons (je_int 0) (jd_cons (je_int 0) (jd_cons (je_add (je_add (je_var 2) (je_mul (je_int 104729) (je_var 1))) (je_callB call_len ok_len (jp_cons (je_var 0) jp_nil) (fr_len Z) rfl)) jd_nil)))))))))))
/-! law -/
theorem sc_law : FnScope ["_law_script", "_law_source_here", "_law_k", "_law_pairs", "_law_pair_here", "_law_kept", "_law_deed", "_law_one", "_law_other", "_law_way", "_law_number", "_law_due", "_law_told"] ["_law_script"] (defScope s_law) := ⟨rfl, rfl, rfl, by decide +kernel, rfl, by decide +kernel, by decide +kernel⟩
noncomputable def l_law_0 : M Out := (sSeq (sAsg 1 (eCall 2 den__law_source (aLend 0 (aLend 2 aNil)))) (sSeq (sAsg 6 (eCall 2 den__law_draw (aLend 1 (aSet (eC (.int 3)) aNil)))) (sSeq (sAsg 7 (eCall 2 den__law_draw (aLend 1 (aSet (eC (.int 3)) aNil)))) (sSeq (sAsg 8 (eCall 2 den__law_draw (aLend 1 (aSet (eC (.int 3)) aNil)))) (sSeq (sAsg 9 (eCall 2 den__law_draw (aLend 1 (aSet (eC (.int 5)) aNil)))) (sSeq (sAsg 10 (eCall 1 den__law_whole (aLend 1 aNil))) (sSeq (sAsg 11 (eTup (dCons (eVar 10) (dCons (eC (.int 1)) dNil)))) (sSeq (sIf (eB (eOp2 opEqA (eVar 9) (eC (.int 0)))) (sSeq (sAsg 11 (eCall 3 den__law_sum (aLend 6 (aSet (eOp2 opIx (eVar 3) (eVar 7)) (aLend 11 aNil))))) (sAsg 12 (eCall 3 den__law_done (aLend 6 (aSet (eOp2 opIx (eVar 5) (eVar 7)) (aLend 10 aNil)))))) (sIf (eB (eOp2 opEqA (eVar 9) (eC (.int 1)))) (sSeq (sAsg 11 (eCall 3 den__law_sum (aLend 6 (aLend 11 (aSet (eOp2 opIx (eVar 3) (eVar 7)) aNil))))) (sAsg 12 (eCall 3 den__law_done (aLend 6 (aLend 10 (aSet (eOp2 opIx (eVar 5) (eVar 7)) aNil)))))) (sSeq (sAsg 11 (eCall 3 den__law_sum (aLend 6 (aSet (eOp2 opIx (eVar 3) (eVar 7)) (aSet (eOp2 opIx (eVar 3) (eVar 8)) aNil))))) (sAsg 12 (eCall 3 den__law_done (aLend 6 (aSet (eOp2 opIx (eVar 5) (eVar 7)) (aSet (eOp2 opIx (eVar 5) (eVar 8)) aNil)))))))) (sSeq (sIf (eOr (eNot (eB (eCall 2 den__law_is (aLend 12 (aLend 11 aNil))))) (eOr (eNot (eB (eCall 2 den__law_is (aSet (eOp2 opIx (eVar 5) (eVar 7)) (aSet (eOp2 opIx (eVar 3) (eVar 7)) aNil))))) (eNot (eB (eCall 2 den__law_is (aSet (eOp2 opIx (eVar 5) (eVar 8)) (aSet (eOp2 opIx (eVar 3) (eVar 8)) aNil))))))) (sRet (eC (.bl false))) sNx) (sSeq (sIf (eOr (eNot (eB (eCall 4 den__law_quotient (aLend 12 (aLend 11 (aSet (eOp2 opIx (eVar 5) (eVar 8)) (aSet (eOp2 opIx (eVar 3) (eVar 8)) aNil))))))) (eNot (eB (eCall 4 den__law_quotient (aLend 12 (aLend 11 (aLend 10 (aSet (eTup (dCons (eVar 10) (dCons (eC (.int 1)) dNil))) aNil)))))))) (sRet (eC (.bl false))) sNx) (sSeq (sIf (eB (eOp2 opNeA (eMeth 2 2 den_Ratio_less (eVar 12) (aSet (eOp2 opIx (eVar 5) (eVar 8)) aNil)) (eOp2 opLt (eOp2 opMul (eOp2 opIx (eVar 11) (eC (.int 0))) (eOp2 opIx (eOp2 opIx (eVar 3) (eVar 8)) (eC (.int 1)))) (eOp2 opMul (eOp2 opIx (eOp2 opIx (eVar 3) (eVar 8)) (eC (.int 0))) (eOp2 opIx (eVar 11) (eC (.int 1))))))) (sRet (eC (.bl false))) sNx) (sSeq (sIf (eNot (eB (eCall 4 den__law_questions (aLend 1 (aLend 12 (aLend 11 (aLend 10 aNil))))))) (sRet (eC (.bl false))) sNx) (sSeq (sIf (eB (eOp2 opGt (eOpn opMax2 (pCons (eOpn opAbs (pCons (eOp2 opIx (eVar 11) (eC (.int 0))) pNil)) (pCons (eOp2 opIx (eVar 11) (eC (.int 1))) pNil))) (eOp2 opPow (eC (.int 10)) (eC (.int 30))))) (sSeq (sAsg 11 (eCall 1 den__law_pair (aLend 1 aNil))) (sAsg 12 (eMake 2 2 2 den_Ratio___init__ (aSet (eOp2 opIx (eVar 11) (eC (.int 0))) (aSet (eOp2 opIx (eVar 11) (eC (.int 1))) aNil))))) sNx) (sSeq (sAsgG (eVar 11) (gSubM 3 (eVar 8))) (sAsgG (eVar 12) (gSubM 5 (eVar 8)))))))))))))))))
noncomputable def w_law_0 : M Out := sFor (iRng2M (pCons (eC (.int 1)) (pCons (eOpn opMin2 (pCons (eOpn opLen (pCons (eVar 0) pNil)) (pCons (eC (.int 61)) pNil))) pNil))) (gNameM 2) l_law_0
noncomputable def c_law_0 : M RV := (eLcV [4] 3 (gNameM 4) eYes (eMake 2 2 2 den_Ratio___init__ (aSet (eOp2 opMul (eOp2 opIx (eVar 4) (eC (.int 0))) (eC (.int 3))) (aSet (eOp2 opMul (eOp2 opIx (eVar 4) (eC (.int 1))) (eC (.int 3))) aNil))))
noncomputable def c_law_1 : M RV := (eLc [2] (iRng1M (pCons (eC (.int 3)) pNil)) (gNameM 2) eYes (eCall 1 den__law_pair (aLend 1 aNil)))
noncomputable def b_law : M Out := (sSeq (sAsg 1 (eCall 2 den__law_source (aLend 0 (aSet (eC (.int 0)) aNil)))) (sSeq (sAsg 3 c_law_1) (sSeq (sAsg 5 c_law_0) (sSeq w_law_0 (sRet (eC (.bl true)))))))
noncomputable def den_law : List SV → Cal := denOf 1 12 b_law
theorem F_law (Z : Zs K mg) : Fk P w K mg base (He.ga K "law") ["_law_script"] 9 (spD K (G K) 1 den_law) :=
  fk_def (m := 12) (Z.c.def_ 34 (d := d_law) rfl) sc_law (fun _ _ _ _ _ _ us hl => match us, hl with | [_], _ => rfl) rfl rfl (fun cdv A outer s H E hr tk hp =>
    (jss_cons (js_set 1 sc_law.nd (je_call (F__law_source (P := P) (w := w) (base := base) Z) (hr.mono (by decide)) tk (g__law_source Z) (ja_lend 0 (ja_set (je_int 0) ja_nil)) rfl)) (jss_cons (js_setLc 3 rfl sc_law.nd (ji_range1 (fr_range Z) (jp_cons (je_int 3) jp_nil) rfl) (blkB_ok (N := ["_law_script", "_law_source_here", "_law_k", "_law_pairs", "_law_pair_here", "_law_kept", "_law_deed", "_law_one", "_law_other", "_law_way", "_law_number", "_law_due", "_law_told"]) (sc := defScope s_law) (own := [("_law_k", 2)]) (by decide +kernel)) rfl (jc_name 2 sc_law.nd) (fun s' H' C' cl' fp' => (je_call (F__law_pair (P := P) (w := w) (base := base) Z) (hr.mono (by decide)) takes0 (g__law_pair Z) (ja_lend 1 ja_nil) rfl))) (jss_cons (js_setLcV 5 3 rfl sc_law.nd (blkB_ok (N := ["_law_script", "_law_source_here", "_law_k", "_law_pairs", "_law_pair_here", "_law_kept", "_law_deed", "_law_one", "_law_other", "_law_way", "_law_number", "_law_due", "_law_told"]) (sc := defScope s_law) (own := [("_law_pair_here", 4)]) (by decide +kernel)) rfl (jc_name 4 sc_law.nd) (fun s' H' C' cl' fp' => (je_make (mk_Ratio Z) (F_Ratio___init__ (P := P) (w := w) (base := base) Z) (hr.mono (by decide)) takes0 (g_Ratio Z) rfl (ja_set (je_mul (je_ix (je_var 4) (je_int 0)) (je_int 3)) (ja_set (je_mul (je_ix (je_var 4) (je_int 1)) (je_int 3)) ja_nil)) rfl))) (jss_cons (js_for hp rfl (ji_range2 (fr_range Z) (jp_cons (je_int 1) (jp_cons (je_callB (call_min2 rfl) ok_min2 (jp_cons (je_callB call_len ok_len (jp_cons (je_var 0) jp_nil) (fr_len Z) rfl) (jp_cons (je_int 61) jp_nil)) (fr_min Z) rfl) jp_nil)) rfl) (jg_name 2 sc_law.nd) (jss_cons (js_set 1 sc_law.nd (je_call (F__law_source (P := P) (w := w) (base := base) Z) (hr.mono (by decide)) tk (g__law_source Z) (ja_lend 0 (ja_lend 2 ja_nil)) rfl)) (jss_cons (js_set 6 sc_law.nd (je_call (F__law_draw (P := P) (w := w) (base := base) Z) (hr.mono (by decide)) tk (g__law_draw Z) (ja_lend 1 (ja_set (je_int 3) ja_nil)) rfl)) (jss_cons (js_set 7 sc_law.nd (je_call (F__law_draw (P := P) (w := w) (base := base) Z) (hr.mono (by decide)) tk (g__law_draw Z) (ja_lend 1 (ja_set (je_int 3) ja_nil)) rfl)) (jss_cons (js_set 8 sc_law.nd (je_call (F__law_draw (P := P) (w := w) (base := base) Z) (hr.mono (by decide)) tk (g__law_draw Z) (ja_lend 1 (ja_set (je_int 3) ja_nil)) rfl)) (jss_cons (js_set 9 sc_law.nd (je_call (F__law_draw (P := P) (w := w) (base := base) Z) (hr.mono (by decide)) tk (g__law_draw Z) (ja_lend 1 (ja_set (je_int 5) ja_nil)) rfl)) (jss_cons (js_set 10 sc_law.nd (je_call (F__law_whole (P := P) (w := w) (base := base) Z) (hr.mono (by decide)) tk (g__law_whole Z) (ja_lend 1 ja_nil) rfl)) (jss_cons (js_set 11 sc_law.nd (je_tup (jd_cons (je_var 10) (jd_cons (je_int 1) jd_nil)))) (jss_cons (js_if (jt_eqA hr.units (je_var 9) (je_int 0)) (jss_cons (js_set 11 sc_law.nd (je_call (F__law_sum (P := P) (w := w) (base := base) Z) (hr.mono (by decide)) tk (g__law_sum Z) (ja_lend 6 (ja_set (je_ix (je_var 3) (je_var 7)) (ja_lend 11 ja_nil))) rfl)) (jss_one (js_set 12 sc_law.nd (je_call (F__law_done (P := P) (w := w) (base := base) Z) (hr.mono (by decide)) tk (g__law_done Z) (ja_lend 6 (ja_set (je_ix (je_var 5) (je_var 7)) (ja_lend 10 ja_nil))) rfl)))) (jss_one (js_if (jt_eqA hr.units (je_var 9) (je_int 1)) (jss_cons (js_set 11 sc_law.nd (je_call (F__law_sum (P := P) (w := w) (base := base) Z) (hr.mono (by decide)) tk (g__law_sum Z) (ja_lend 6 (ja_lend 11 (ja_set (je_ix (je_var 3) (je_var 7)) ja_nil))) rfl)) (jss_one (js_set 12 sc_law.nd (je_call (F__law_done (P := P) (w := w) (base := base) Z) (hr.mono (by decide)) tk (g__law_done Z) (ja_lend 6 (ja_lend 10 (ja_set (je_ix (je_var 5) (je_var 7)) ja_nil))) rfl)))) (jss_cons (js_set 11 sc_law.nd (je_call (F__law_sum (P := P) (w := w) (base := base) Z) (hr.mono (by decide)) tk (g__law_sum Z) (ja_lend 6 (ja_set (je_ix (je_var 3) (je_var 7)) (ja_set (je_ix (je_var 3) (je_var 8)) ja_nil))) rfl)) (jss_one (js_set 12 sc_law.nd (je_call (F__law_done (P := P) (w := w) (base := base) Z) (hr.mono (by decide)) tk (g__law_done Z) (ja_lend 6 (ja_set (je_ix (je_var 5) (je_var 7)) (ja_set (je_ix (je_var 5) (je_var 8)) ja_nil))) rfl))))))) (jss_cons (js_if (jt_w (jw_or (jt_not (jt_val (je_call (F__law_is (P := P) (w := w) (base := base) Z) (hr.mono (by decide)) tk (g__law_is Z) (ja_lend 12 (ja_lend 11 ja_nil)) rfl))) (jw_or (jt_not (jt_val (je_call (F__law_is (P := P) (w := w) (base := base) Z) (hr.mono (by decide)) tk (g__law_is Z) (ja_set (je_ix (je_var 5) (je_var 7)) (ja_set (je_ix (je_var 3) (je_var 7)) ja_nil)) rfl))) (jw_or1 (jt_not (jt_val (je_call (F__law_is (P := P) (w := w) (base := base) Z) (hr.mono (by decide)) tk (g__law_is Z) (ja_set (je_ix (je_var 5) (je_var 8)) (ja_set (je_ix (je_var 3) (je_var 8)) ja_nil)) rfl))))))) (jss_one (js_ret (je_bl false))) jss_nil) (jss_cons (js_if (jt_w (jw_or (jt_not (jt_val (je_call (F__law_quotient (P := P) (w := w) (base := base) Z) (hr.mono (by decide)) tk (g__law_quotient Z) (ja_lend 12 (ja_lend 11 (ja_set (je_ix (je_var 5) (je_var 8)) (ja_set (je_ix (je_var 3) (je_var 8)) ja_nil)))) rfl))) (jw_or1 (jt_not (jt_val (je_call (F__law_quotient (P := P) (w := w) (base := base) Z) (hr.mono (by decide)) tk (g__law_quotient Z) (ja_lend 12 (ja_lend 11 (ja_lend 10 (ja_set (je_tup (jd_cons (je_var 10) (jd_cons (je_int 1) jd_nil))) ja_nil)))) rfl)))))) (jss_one (js_ret (je_bl false))) jss_nil) (jss_cons (js_if (jt_neA hr.units (je_meth (c0 := 2) ((kk Z).ins 2 (by decide)).cl (me_Ratio_less Z) (show ("less" : Str) ∉ (["top", "bottom"] : List Str) by decide) (F_Ratio_less (P := P) (w := w) (base := base) Z) (hr.mono (by decide)) tk (je_var 12) (ja_set (je_ix (je_var 5) (je_var 8)) ja_nil)) (je_lt (je_mul (je_ix (je_var 11) (je_int 0)) (je_ix (je_ix (je_var 3) (je_var 8)) (je_int 1))) (je_mul (je_ix (je_ix (je_var 3) (je_var 8)) (je_int 0)) (je_ix (je_var 11) (je_int 1))))) (jss_one (js_ret (je_bl false))) jss_nil) (jss_cons (js_if (jt_not (jt_val (je_call (F__law_questions (P := P) (w := w) (base := base) Z) (hr.mono (by decide)) tk (g__law_questions Z) (ja_lend 1 (ja_lend 12 (ja_lend 11 (ja_lend 10 ja_nil)))) rfl))) (jss_one (js_ret (je_bl false))) jss_nil) (jss_cons (js_if (jt_gt (je_callB (call_max2 rfl) ok_max2 (jp_cons (je_callB call_abs ok_abs (jp_cons (je_ix (je_var 11) (je_int 0)) jp_nil) (fr_abs Z) rfl) (jp_cons (je_ix (je_var 11) (je_int 1)) jp_nil)) (fr_max Z) rfl) (je_pow (je_int 10) (je_int 30))) (jss_cons (js_set 11 sc_law.nd (je_call (F__law_pair (P := P) (w := w) (base := base) Z) (hr.mono (by decide)) tk (g__law_pair Z) (ja_lend 1 ja_nil) rfl)) (jss_one (js_set 12 sc_law.nd (je_make (mk_Ratio Z) (F_Ratio___init__ (P := P) (w := w) (base := base) Z) (hr.mono (by decide)) tk (g_Ratio Z) rfl (ja_set (je_ix (je_var 11) (je_int 0)) (ja_set (je_ix (je_var 11) (je_int 1)) ja_nil)) rfl)))) jss_nil) (jss_cons (js_asg (je_var 11) (jg_sub (W := (fun cls d _ H => E cls d H)) 3 (je_var 8))) (jss_one (js_asg (je_var 12) (jg_sub (W := (fun cls d _ H => E cls d H)) 5 (je_var 8))))))))))))))))))) (jss_one (js_ret (je_bl true))))))))
end
def nm0 : List PySem.Str := ["SpansError", "BadNumber", "is_integer", "common", "Ratio", "is_number", "as_ratio", "_law_source", "_law_draw", "_law_integer", "_law_odd", "_law_alike", "_law_lowest", "_law_whole", "_law_pair", "_law_is", "_law_over", "_law_less", "_law_sum", "_law_done", "_law_quotient", "_law_questions"]
def names : List PySem.Str := nm0
abbrev R : PySem.W.OpenRow := PySem.W.OpenLaw.row PySem.Challenge.rw_likespans_k01_whole_sums_of_ratios
abbrev xb (K : PySem.W.Frag) : Bool := (xl K).all id
abbrev hk : PySem.W.Hook := hookX 4 xb fa fn
def ob (s : PySem.W.SharedT) : AlX := obsXG 4 xb fa fn (HandSHeadRun.getT s)
theorem ob_eq (s : PySem.W.SharedT) : ob s = hk.obs s.abs := obsXG_eq (HandSHeadRun.getT_eq s)
theorem zs {K : PySem.W.Frag} {h : Heap} {mg : Str → Option Value} (X : K.In h) (Gm : h.Ns mainGlobals mg) (hx : xb K = true) (c : He.SaysD fa fn K) : Zs K mg := ⟨c, hx, fun x q => He.glo_ok X Gm q, fun x q => He.free_ok X Gm q, fun x i q => He.int_ok X Gm q⟩
end L01
namespace L01
open PySem PySem.Spec PyProof.Rows L2 Dl
theorem run (w : World) : HandSHeadRun.RunEq R (PySem.W.view R.prog [25]) hk ob 3000 names w := by
  intro os
  kernel_rfl
end L01
namespace L01
open PySem PySem.Spec PyProof.Rows L2 Dl
def isI : D → Bool
  | .int _ => true
  | _ => false
def pl : D → Bool
  | .ins c _ => kn.contains c
  | _ => true
theorem isI_den (d : D) (h : pl d = true) : den_is_integer [.imm d] = .ok (.imm (.bl (isI d))) [.imm d] := by
  cases d with
  | ins c ds =>
    simp [pl] at h
    simp [den_is_integer, b_is_integer, h, isI, Dl.sSeq, Dl.sIf, Dl.sRet, Dl.sRetN, Dl.sDrop, Dl.putM, Dl.sAsg, Dl.sAsgG, Dl.sNx, Dl.sBk, Dl.sCt, Dl.bindM, Dl.retM, Dl.liftM, Dl.settle, Dl.eVar, Dl.eC, Dl.eB, Dl.eNot, Dl.eAnd, Dl.eOr, Dl.eV, Dl.eIf, Dl.eAndV, Dl.eOrV, Dl.eOp2, Dl.eOp1, Dl.eOpn, Dl.op2M, Dl.op1M, Dl.opnM, Dl.eOp2R, Dl.peek, Dl.peeks, Dl.pNil, Dl.pCons, Dl.dNil, Dl.dCons, Dl.eTup, Dl.eLst, Dl.aNil, Dl.aSet, Dl.aLend, Dl.eCall, Dl.callM, Dl.alsOf, Dl.svsOf, Dl.svOf, Dl.backs, Dl.backSv, Dl.denOf, Dl.finC, Dl.outs, Dl.retRV, Dl.SV.arg, Dl.SV.lent, Dl.gNameM, Dl.gNilM, Dl.gConsM, Dl.gTupM, Dl.gSubM, Dl.isLst, Dl.sPar, Dl.sFor, Dl.forM, Dl.iSeqM, Dl.D.items, Dl.eCallF, Dl.callF, Dl.eMake, Dl.makeM, Dl.eFld, Dl.opFld, Dl.sPutF, Dl.opAdd, Dl.opSub, Dl.opMul, Dl.opFDiv, Dl.opMod, Dl.opPow, Dl.opNeg, Dl.opLt, Dl.opLe, Dl.opGt, Dl.opGe, Dl.opIs2, Dl.opIsNot2, Dl.opIsN, Dl.opNotN, Dl.D.isNon, Dl.opIx, Dl.opLen, Dl.opAbs, Dl.opMax2, Dl.opMin2, Dl.opInt1, Dl.opStrI, Dl.opList, Dl.opTuple, Dl.eIsi, Dl.isaD, Dl.D.bt, Dl.subB, Dl.sTry, Dl.tryH, Dl.endH, Dl.noExc, Dl.clearS, Dl.SV.isExc, Dl.eXf, Dl.eIsX, Dl.sRaise, Dl.hitL, L2.atI, L2.ixN, Dl.LIM]
  | _ => simp [den_is_integer, b_is_integer, isI, Dl.sSeq, Dl.sIf, Dl.sRet, Dl.sRetN, Dl.sDrop, Dl.putM, Dl.sAsg, Dl.sAsgG, Dl.sNx, Dl.sBk, Dl.sCt, Dl.bindM, Dl.retM, Dl.liftM, Dl.settle, Dl.eVar, Dl.eC, Dl.eB, Dl.eNot, Dl.eAnd, Dl.eOr, Dl.eV, Dl.eIf, Dl.eAndV, Dl.eOrV, Dl.eOp2, Dl.eOp1, Dl.eOpn, Dl.op2M, Dl.op1M, Dl.opnM, Dl.eOp2R, Dl.peek, Dl.peeks, Dl.pNil, Dl.pCons, Dl.dNil, Dl.dCons, Dl.eTup, Dl.eLst, Dl.aNil, Dl.aSet, Dl.aLend, Dl.eCall, Dl.callM, Dl.alsOf, Dl.svsOf, Dl.svOf, Dl.backs, Dl.backSv, Dl.denOf, Dl.finC, Dl.outs, Dl.retRV, Dl.SV.arg, Dl.SV.lent, Dl.gNameM, Dl.gNilM, Dl.gConsM, Dl.gTupM, Dl.gSubM, Dl.isLst, Dl.sPar, Dl.sFor, Dl.forM, Dl.iSeqM, Dl.D.items, Dl.eCallF, Dl.callF, Dl.eMake, Dl.makeM, Dl.eFld, Dl.opFld, Dl.sPutF, Dl.opAdd, Dl.opSub, Dl.opMul, Dl.opFDiv, Dl.opMod, Dl.opPow, Dl.opNeg, Dl.opLt, Dl.opLe, Dl.opGt, Dl.opGe, Dl.opIs2, Dl.opIsNot2, Dl.opIsN, Dl.opNotN, Dl.D.isNon, Dl.opIx, Dl.opLen, Dl.opAbs, Dl.opMax2, Dl.opMin2, Dl.opInt1, Dl.opStrI, Dl.opList, Dl.opTuple, Dl.eIsi, Dl.isaD, Dl.D.bt, Dl.subB, Dl.sTry, Dl.tryH, Dl.endH, Dl.noExc, Dl.clearS, Dl.SV.isExc, Dl.eXf, Dl.eIsX, Dl.sRaise, Dl.hitL, L2.atI, L2.ixN, Dl.LIM]
theorem isI_den' (d : D) (h : pl d = true) : den__law_integer [.imm d] = .ok (.imm (.bl (isI d))) [.imm d] := by
  cases d with
  | ins c ds =>
    simp [pl] at h
    simp [den__law_integer, b__law_integer, h, isI, Dl.sSeq, Dl.sIf, Dl.sRet, Dl.sRetN, Dl.sDrop, Dl.putM, Dl.sAsg, Dl.sAsgG, Dl.sNx, Dl.sBk, Dl.sCt, Dl.bindM, Dl.retM, Dl.liftM, Dl.settle, Dl.eVar, Dl.eC, Dl.eB, Dl.eNot, Dl.eAnd, Dl.eOr, Dl.eV, Dl.eIf, Dl.eAndV, Dl.eOrV, Dl.eOp2, Dl.eOp1, Dl.eOpn, Dl.op2M, Dl.op1M, Dl.opnM, Dl.eOp2R, Dl.peek, Dl.peeks, Dl.pNil, Dl.pCons, Dl.dNil, Dl.dCons, Dl.eTup, Dl.eLst, Dl.aNil, Dl.aSet, Dl.aLend, Dl.eCall, Dl.callM, Dl.alsOf, Dl.svsOf, Dl.svOf, Dl.backs, Dl.backSv, Dl.denOf, Dl.finC, Dl.outs, Dl.retRV, Dl.SV.arg, Dl.SV.lent, Dl.gNameM, Dl.gNilM, Dl.gConsM, Dl.gTupM, Dl.gSubM, Dl.isLst, Dl.sPar, Dl.sFor, Dl.forM, Dl.iSeqM, Dl.D.items, Dl.eCallF, Dl.callF, Dl.eMake, Dl.makeM, Dl.eFld, Dl.opFld, Dl.sPutF, Dl.opAdd, Dl.opSub, Dl.opMul, Dl.opFDiv, Dl.opMod, Dl.opPow, Dl.opNeg, Dl.opLt, Dl.opLe, Dl.opGt, Dl.opGe, Dl.opIs2, Dl.opIsNot2, Dl.opIsN, Dl.opNotN, Dl.D.isNon, Dl.opIx, Dl.opLen, Dl.opAbs, Dl.opMax2, Dl.opMin2, Dl.opInt1, Dl.opStrI, Dl.opList, Dl.opTuple, Dl.eIsi, Dl.isaD, Dl.D.bt, Dl.subB, Dl.sTry, Dl.tryH, Dl.endH, Dl.noExc, Dl.clearS, Dl.SV.isExc, Dl.eXf, Dl.eIsX, Dl.sRaise, Dl.hitL, L2.atI, L2.ixN, Dl.LIM]
  | _ => simp [den__law_integer, b__law_integer, isI, Dl.sSeq, Dl.sIf, Dl.sRet, Dl.sRetN, Dl.sDrop, Dl.putM, Dl.sAsg, Dl.sAsgG, Dl.sNx, Dl.sBk, Dl.sCt, Dl.bindM, Dl.retM, Dl.liftM, Dl.settle, Dl.eVar, Dl.eC, Dl.eB, Dl.eNot, Dl.eAnd, Dl.eOr, Dl.eV, Dl.eIf, Dl.eAndV, Dl.eOrV, Dl.eOp2, Dl.eOp1, Dl.eOpn, Dl.op2M, Dl.op1M, Dl.opnM, Dl.eOp2R, Dl.peek, Dl.peeks, Dl.pNil, Dl.pCons, Dl.dNil, Dl.dCons, Dl.eTup, Dl.eLst, Dl.aNil, Dl.aSet, Dl.aLend, Dl.eCall, Dl.callM, Dl.alsOf, Dl.svsOf, Dl.svOf, Dl.backs, Dl.backSv, Dl.denOf, Dl.finC, Dl.outs, Dl.retRV, Dl.SV.arg, Dl.SV.lent, Dl.gNameM, Dl.gNilM, Dl.gConsM, Dl.gTupM, Dl.gSubM, Dl.isLst, Dl.sPar, Dl.sFor, Dl.forM, Dl.iSeqM, Dl.D.items, Dl.eCallF, Dl.callF, Dl.eMake, Dl.makeM, Dl.eFld, Dl.opFld, Dl.sPutF, Dl.opAdd, Dl.opSub, Dl.opMul, Dl.opFDiv, Dl.opMod, Dl.opPow, Dl.opNeg, Dl.opLt, Dl.opLe, Dl.opGt, Dl.opGe, Dl.opIs2, Dl.opIsNot2, Dl.opIsN, Dl.opNotN, Dl.D.isNon, Dl.opIx, Dl.opLen, Dl.opAbs, Dl.opMax2, Dl.opMin2, Dl.opInt1, Dl.opStrI, Dl.opList, Dl.opTuple, Dl.eIsi, Dl.isaD, Dl.D.bt, Dl.subB, Dl.sTry, Dl.tryH, Dl.endH, Dl.noExc, Dl.clearS, Dl.SV.isExc, Dl.eXf, Dl.eIsX, Dl.sRaise, Dl.hitL, L2.atI, L2.ixN, Dl.LIM]
end L01
namespace L01
open PySem PySem.Spec PyProof.Rows L2 Dl
theorem eqA_int (i j : Int) : opEqA (.int i) (.int j) = some (.imm (.bl (decide (i = j)))) := by
  simp [opEqA, eqA, eqvD, D.toP, SeqAt.shaped, PyData.eqv]
  refine ⟨⟨⟨rfl, ?_⟩, rfl, ?_⟩, ?_⟩
  · simp [PyData.depth]
  · simp [PyData.depth]
  · by_cases h : i = j
    · simp [h]
    · simp [h]
theorem l2 {n : Nat} (h : n < 2 ^ 250) : n.log2 < 250 := by
  by_cases z : n = 0
  · subst z; decide
  · exact (Nat.log2_lt z).mpr h
theorem mulOk {i j : Int} (hi : i.natAbs < 2 ^ 250) (hj : j.natAbs < 2 ^ 250) : opMul (.int i) (.int j) = some (.imm (.int (i * j))) := by
  unfold opMul
  simp only
  rw [if_pos (by have := l2 hi; have := l2 hj; omega)]
theorem fmod_lt (a : Int) {m : Int} (h : 0 < m) : 0 ≤ a.fmod m ∧ a.fmod m < m := ⟨Int.fmod_nonneg_of_pos a h, Int.fmod_lt_of_pos a h⟩
theorem fdiv_lt {a m : Int} (h : 0 ≤ a) (hm : 0 < m) : 0 ≤ a.fdiv m ∧ a.fdiv m ≤ a := by
  rw [Int.fdiv_eq_ediv_of_nonneg _ (by omega)]
  exact ⟨Int.ediv_nonneg h (by omega), Int.ediv_le_self _ h⟩
theorem lg1 : Nat.log2 1009 < 9000 := by decide
theorem lg2 : Nat.log2 2003 < 9000 := by decide
theorem draw2 (n f c s m : Int) (hm : 0 < m) (hml : m.natAbs.log2 < 9000) (hc : 0 ≤ c ∧ c ≤ 1000) (hs : 0 ≤ s ∧ s ≤ 1000000000000) (hnf : ¬ (f = 1 ∧ 0 < n)) :
    ∃ r, 0 ≤ r ∧ r < m ∧ den__law_draw [.brw [.int n, .int f, .int c, .int s], .imm (.int m)] = .ok (.imm (.int r)) [.brw [.int n, .int f, .int (c + 1), .int s], .imm (.int m)] := by
  have hm0 : ¬ m = 0 := by omega
  have hn : m ≠ 0 ∧ m.natAbs.log2 < 9000 := ⟨hm0, hml⟩
  have e1 : opMul (.int 7919) (.int (c + 1)) = some (.imm (.int (7919 * (c + 1)))) := mulOk (by decide) (by omega)
  have e2 : opMul (.int (s + 7919 * (c + 1) + 1)) (.int 48271) = some (.imm (.int ((s + 7919 * (c + 1) + 1) * 48271))) := mulOk (by omega) (by decide)
  obtain ⟨x1, hx1⟩ : ∃ x, x = ((s + 7919 * (c + 1) + 1) * 48271).fmod 2147483647 := ⟨_, rfl⟩
  have b1 : 0 ≤ x1 ∧ x1 < 2147483647 := by rw [hx1]; exact fmod_lt _ (by decide)
  obtain ⟨q1, hq1⟩ : ∃ x, x = x1.fdiv 1009 := ⟨_, rfl⟩
  have c1 : 0 ≤ q1 ∧ q1 ≤ x1 := by rw [hq1]; exact fdiv_lt b1.1 (by decide)
  have e3 : opMul (.int x1) (.int (q1 + 69621)) = some (.imm (.int (x1 * (q1 + 69621)))) := mulOk (by omega) (by omega)
  obtain ⟨x2, hx2⟩ : ∃ x, x = (x1 * (q1 + 69621)).fmod 2147483647 := ⟨_, rfl⟩
  have b2 : 0 ≤ x2 ∧ x2 < 2147483647 := by rw [hx2]; exact fmod_lt _ (by decide)
  obtain ⟨q2, hq2⟩ : ∃ x, x = x2.fdiv 2003 := ⟨_, rfl⟩
  have c2 : 0 ≤ q2 ∧ q2 ≤ x2 := by rw [hq2]; exact fdiv_lt b2.1 (by decide)
  have e4 : opMul (.int x2) (.int (q2 + 40692)) = some (.imm (.int (x2 * (q2 + 40692)))) := mulOk (by omega) (by omega)
  obtain ⟨x3, hx3⟩ : ∃ x, x = (x2 * (q2 + 40692)).fmod 2147483399 := ⟨_, rfl⟩
  refine ⟨x3.fmod m, (fmod_lt _ hm).1, (fmod_lt _ hm).2, ?_⟩
  by_cases h1 : f = 1
  · have h2 : ¬ 0 < n := fun h => hnf ⟨h1, h⟩
    simp [den__law_draw, b__law_draw, h1, h2, hn, hm0, eqA_int, e1, e2, ← hx1, ← hq1, e3, ← hx2, ← hq2, e4, ← hx3, lg1, lg2, Dl.sSeq, Dl.sIf, Dl.sRet, Dl.sRetN, Dl.sDrop, Dl.putM, Dl.sAsg, Dl.sAsgG, Dl.sNx, Dl.sBk, Dl.sCt, Dl.bindM, Dl.retM, Dl.liftM, Dl.settle, Dl.eVar, Dl.eC, Dl.eB, Dl.eNot, Dl.eAnd, Dl.eOr, Dl.eV, Dl.eIf, Dl.eAndV, Dl.eOrV, Dl.eOp2, Dl.eOp1, Dl.eOpn, Dl.op2M, Dl.op1M, Dl.opnM, Dl.eOp2R, Dl.peek, Dl.peeks, Dl.pNil, Dl.pCons, Dl.dNil, Dl.dCons, Dl.eTup, Dl.eLst, Dl.aNil, Dl.aSet, Dl.aLend, Dl.eCall, Dl.callM, Dl.alsOf, Dl.svsOf, Dl.svOf, Dl.backs, Dl.backSv, Dl.denOf, Dl.finC, Dl.outs, Dl.retRV, Dl.SV.arg, Dl.SV.lent, Dl.gNameM, Dl.gNilM, Dl.gConsM, Dl.gTupM, Dl.gSubM, Dl.isLst, Dl.sPar, Dl.sFor, Dl.forM, Dl.iSeqM, Dl.D.items, Dl.eCallF, Dl.callF, Dl.eMake, Dl.makeM, Dl.eFld, Dl.opFld, Dl.sPutF, Dl.opAdd, Dl.opSub, Dl.opFDiv, Dl.opMod, Dl.opPow, Dl.opNeg, Dl.opLt, Dl.opLe, Dl.opGt, Dl.opGe, Dl.opIs2, Dl.opIsNot2, Dl.opIsN, Dl.opNotN, Dl.D.isNon, Dl.opIx, Dl.opLen, Dl.opAbs, Dl.opMax2, Dl.opMin2, Dl.opInt1, Dl.opStrI, Dl.opList, Dl.opTuple, Dl.eIsi, Dl.isaD, Dl.D.bt, Dl.subB, Dl.sTry, Dl.tryH, Dl.endH, Dl.noExc, Dl.clearS, Dl.SV.isExc, Dl.eXf, Dl.eIsX, Dl.sRaise, Dl.hitL, L2.atI, L2.ixN, Dl.LIM]
  · simp [den__law_draw, b__law_draw, h1, hn, hm0, eqA_int, e1, e2, ← hx1, ← hq1, e3, ← hx2, ← hq2, e4, ← hx3, lg1, lg2, Dl.sSeq, Dl.sIf, Dl.sRet, Dl.sRetN, Dl.sDrop, Dl.putM, Dl.sAsg, Dl.sAsgG, Dl.sNx, Dl.sBk, Dl.sCt, Dl.bindM, Dl.retM, Dl.liftM, Dl.settle, Dl.eVar, Dl.eC, Dl.eB, Dl.eNot, Dl.eAnd, Dl.eOr, Dl.eV, Dl.eIf, Dl.eAndV, Dl.eOrV, Dl.eOp2, Dl.eOp1, Dl.eOpn, Dl.op2M, Dl.op1M, Dl.opnM, Dl.eOp2R, Dl.peek, Dl.peeks, Dl.pNil, Dl.pCons, Dl.dNil, Dl.dCons, Dl.eTup, Dl.eLst, Dl.aNil, Dl.aSet, Dl.aLend, Dl.eCall, Dl.callM, Dl.alsOf, Dl.svsOf, Dl.svOf, Dl.backs, Dl.backSv, Dl.denOf, Dl.finC, Dl.outs, Dl.retRV, Dl.SV.arg, Dl.SV.lent, Dl.gNameM, Dl.gNilM, Dl.gConsM, Dl.gTupM, Dl.gSubM, Dl.isLst, Dl.sPar, Dl.sFor, Dl.forM, Dl.iSeqM, Dl.D.items, Dl.eCallF, Dl.callF, Dl.eMake, Dl.makeM, Dl.eFld, Dl.opFld, Dl.sPutF, Dl.opAdd, Dl.opSub, Dl.opFDiv, Dl.opMod, Dl.opPow, Dl.opNeg, Dl.opLt, Dl.opLe, Dl.opGt, Dl.opGe, Dl.opIs2, Dl.opIsNot2, Dl.opIsN, Dl.opNotN, Dl.D.isNon, Dl.opIx, Dl.opLen, Dl.opAbs, Dl.opMax2, Dl.opMin2, Dl.opInt1, Dl.opStrI, Dl.opList, Dl.opTuple, Dl.eIsi, Dl.isaD, Dl.D.bt, Dl.subB, Dl.sTry, Dl.tryH, Dl.endH, Dl.noExc, Dl.clearS, Dl.SV.isExc, Dl.eXf, Dl.eIsX, Dl.sRaise, Dl.hitL, L2.atI, L2.ixN, Dl.LIM]
theorem draw (n f c s m : Int) (hm : 0 < m) (hml : m.natAbs.log2 < 9000) (hc : 0 ≤ c ∧ c ≤ 1000) (hs : 0 ≤ s ∧ s ≤ 1000000000000) :
    ∃ r n' c', 0 ≤ r ∧ r < m ∧ c ≤ c' ∧ c' ≤ c + 1 ∧ den__law_draw [.brw [.int n, .int f, .int c, .int s], .imm (.int m)] = .ok (.imm (.int r)) [.brw [.int n', .int f, .int c', .int s], .imm (.int m)] := by
  have hm0 : ¬ m = 0 := by omega
  have hn : m ≠ 0 ∧ m.natAbs.log2 < 9000 := ⟨hm0, hml⟩
  by_cases h : f = 1 ∧ 0 < n
  · obtain ⟨h1, h2⟩ := h
    refine ⟨n.fmod m, n.fdiv m, c, (fmod_lt n hm).1, (fmod_lt n hm).2, by omega, by omega, ?_⟩
    simp [den__law_draw, b__law_draw, h1, h2, hn, hm0, eqA_int, Dl.sSeq, Dl.sIf, Dl.sRet, Dl.sRetN, Dl.sDrop, Dl.putM, Dl.sAsg, Dl.sAsgG, Dl.sNx, Dl.sBk, Dl.sCt, Dl.bindM, Dl.retM, Dl.liftM, Dl.settle, Dl.eVar, Dl.eC, Dl.eB, Dl.eNot, Dl.eAnd, Dl.eOr, Dl.eV, Dl.eIf, Dl.eAndV, Dl.eOrV, Dl.eOp2, Dl.eOp1, Dl.eOpn, Dl.op2M, Dl.op1M, Dl.opnM, Dl.eOp2R, Dl.peek, Dl.peeks, Dl.pNil, Dl.pCons, Dl.dNil, Dl.dCons, Dl.eTup, Dl.eLst, Dl.aNil, Dl.aSet, Dl.aLend, Dl.eCall, Dl.callM, Dl.alsOf, Dl.svsOf, Dl.svOf, Dl.backs, Dl.backSv, Dl.denOf, Dl.finC, Dl.outs, Dl.retRV, Dl.SV.arg, Dl.SV.lent, Dl.gNameM, Dl.gNilM, Dl.gConsM, Dl.gTupM, Dl.gSubM, Dl.isLst, Dl.sPar, Dl.sFor, Dl.forM, Dl.iSeqM, Dl.D.items, Dl.eCallF, Dl.callF, Dl.eMake, Dl.makeM, Dl.eFld, Dl.opFld, Dl.sPutF, Dl.opAdd, Dl.opSub, Dl.opMul, Dl.opFDiv, Dl.opMod, Dl.opPow, Dl.opNeg, Dl.opLt, Dl.opLe, Dl.opGt, Dl.opGe, Dl.opIs2, Dl.opIsNot2, Dl.opIsN, Dl.opNotN, Dl.D.isNon, Dl.opIx, Dl.opLen, Dl.opAbs, Dl.opMax2, Dl.opMin2, Dl.opInt1, Dl.opStrI, Dl.opList, Dl.opTuple, Dl.eIsi, Dl.isaD, Dl.D.bt, Dl.subB, Dl.sTry, Dl.tryH, Dl.endH, Dl.noExc, Dl.clearS, Dl.SV.isExc, Dl.eXf, Dl.eIsX, Dl.sRaise, Dl.hitL, L2.atI, L2.ixN, Dl.LIM]
  · obtain ⟨r, h1, h2, h3⟩ := draw2 n f c s m hm hml hc hs h
    exact ⟨r, n, c + 1, h1, h2, by omega, by omega, h3⟩
/-- a source: at most k numbers drawn by the seed -/
def Src (k : Int) (xs : List D) : Prop := ∃ n f c s : Int, xs = [.int n, .int f, .int c, .int s] ∧ (0 ≤ c ∧ c ≤ k) ∧ 0 ≤ s ∧ s ≤ 1000000000000
theorem draw_src {k m : Int} {xs : List D} (h : Src k xs) (hk : k ≤ 1000) (hm : 0 < m) (hml : m.natAbs.log2 < 9000) : ∃ r ys, 0 ≤ r ∧ r < m ∧ Src (k + 1) ys ∧ den__law_draw [.brw xs, .imm (.int m)] = .ok (.imm (.int r)) [.brw ys, .imm (.int m)] := by
  obtain ⟨n, f, c, s, rfl, hc, hs⟩ := h
  obtain ⟨r, n', c', h1, h2, h3, h4, e⟩ := draw n f c s m hm hml ⟨hc.1, by omega⟩ hs
  exact ⟨r, _, h1, h2, ⟨n', f, c', s, rfl, ⟨by omega, by omega⟩, hs⟩, e⟩
end L01
namespace L01
open PySem PySem.Spec PyProof.Rows L2 Dl
theorem at_int (ns : List Int) (k : Int) (h0 : 0 ≤ k) (h : k < ns.length) : ∃ n, atI (ns.map D.int) k = some (.int n) := by
  have hk : k.toNat < ns.length := by omega
  refine ⟨ns[k.toNat], ?_⟩
  simp [atI, ixN, h0, h, hk]
theorem source (ns : List Int) (k : Int) (h0 : 0 ≤ k) (hk : k ≤ 1000) (hl : ns.length ≤ 63) : ∃ xs, Src 0 xs ∧ den__law_source [.imm (.rol (ns.map D.int)), .imm (.int k)] = .ok (.fresh xs) [.imm (.rol (ns.map D.int)), .imm (.int k)] := by
  by_cases h : k < ns.length
  · obtain ⟨n, hn⟩ := at_int ns k h0 h
    obtain ⟨s, hs⟩ : ∃ s, s = n.fmod 2147483629 := ⟨_, rfl⟩
    have b := fmod_lt n (m := 2147483629) (by decide)
    rw [← hs] at b
    refine ⟨[.int n, .int (if decide (10 ^ 18 ≤ n) = true then 1 else 0), .int 0, .int s], ⟨n, _, 0, s, rfl, by decide, by omega⟩, ?_⟩
    have e : Dl.opIx (.rol (ns.map D.int)) (.int k) = some (.imm (.int n)) := by simp [opIx, Dl.D.items, hn]
    simp [den__law_source, b__law_source, h, e, ← hs, Dl.sSeq, Dl.sIf, Dl.sRet, Dl.sRetN, Dl.sDrop, Dl.putM, Dl.sAsg, Dl.sAsgG, Dl.sNx, Dl.sBk, Dl.sCt, Dl.bindM, Dl.retM, Dl.liftM, Dl.settle, Dl.eVar, Dl.eC, Dl.eB, Dl.eNot, Dl.eAnd, Dl.eOr, Dl.eV, Dl.eIf, Dl.eAndV, Dl.eOrV, Dl.eOp2, Dl.eOp1, Dl.eOpn, Dl.op2M, Dl.op1M, Dl.opnM, Dl.eOp2R, Dl.peek, Dl.peeks, Dl.pNil, Dl.pCons, Dl.dNil, Dl.dCons, Dl.eTup, Dl.eLst, Dl.aNil, Dl.aSet, Dl.aLend, Dl.eCall, Dl.callM, Dl.alsOf, Dl.svsOf, Dl.svOf, Dl.backs, Dl.backSv, Dl.denOf, Dl.finC, Dl.outs, Dl.retRV, Dl.SV.arg, Dl.SV.lent, Dl.gNameM, Dl.gNilM, Dl.gConsM, Dl.gTupM, Dl.gSubM, Dl.isLst, Dl.sPar, Dl.sFor, Dl.forM, Dl.iSeqM, Dl.D.items, Dl.eCallF, Dl.callF, Dl.eMake, Dl.makeM, Dl.eFld, Dl.opFld, Dl.sPutF, Dl.opAdd, Dl.opSub, Dl.opMul, Dl.opFDiv, Dl.opMod, Dl.opPow, Dl.opNeg, Dl.opLt, Dl.opLe, Dl.opGt, Dl.opGe, Dl.opIs2, Dl.opIsNot2, Dl.opIsN, Dl.opNotN, Dl.D.isNon, Dl.opLen, Dl.opAbs, Dl.opMax2, Dl.opMin2, Dl.opInt1, Dl.opStrI, Dl.opList, Dl.opTuple, Dl.eIsi, Dl.isaD, Dl.D.bt, Dl.subB, Dl.sTry, Dl.tryH, Dl.endH, Dl.noExc, Dl.clearS, Dl.SV.isExc, Dl.eXf, Dl.eIsX, Dl.sRaise, Dl.hitL, L2.atI, L2.ixN, Dl.LIM]
  · by_cases h2 : 0 < ns.length
    · obtain ⟨n, hn⟩ := at_int ns 0 (by decide) (by omega)
      obtain ⟨s, hs⟩ : ∃ s, s = n.fmod 2147483629 := ⟨_, rfl⟩
      have b := fmod_lt n (m := 2147483629) (by decide)
      rw [← hs] at b
      have e : Dl.opIx (.rol (ns.map D.int)) (.int 0) = some (.imm (.int n)) := by simp [opIx, Dl.D.items, hn]
      have e1 : Dl.opMul (.int 104729) (.int k) = some (.imm (.int (104729 * k))) := mulOk (by decide) (by omega)
      refine ⟨[.int 0, .int 0, .int 0, .int (s + 104729 * k + ns.length)], ⟨0, 0, 0, _, rfl, by decide, by omega⟩, ?_⟩
      simp [den__law_source, b__law_source, h, h2, e, ← hs, e1, Dl.sSeq, Dl.sIf, Dl.sRet, Dl.sRetN, Dl.sDrop, Dl.putM, Dl.sAsg, Dl.sAsgG, Dl.sNx, Dl.sBk, Dl.sCt, Dl.bindM, Dl.retM, Dl.liftM, Dl.settle, Dl.eVar, Dl.eC, Dl.eB, Dl.eNot, Dl.eAnd, Dl.eOr, Dl.eV, Dl.eIf, Dl.eAndV, Dl.eOrV, Dl.eOp2, Dl.eOp1, Dl.eOpn, Dl.op2M, Dl.op1M, Dl.opnM, Dl.eOp2R, Dl.peek, Dl.peeks, Dl.pNil, Dl.pCons, Dl.dNil, Dl.dCons, Dl.eTup, Dl.eLst, Dl.aNil, Dl.aSet, Dl.aLend, Dl.eCall, Dl.callM, Dl.alsOf, Dl.svsOf, Dl.svOf, Dl.backs, Dl.backSv, Dl.denOf, Dl.finC, Dl.outs, Dl.retRV, Dl.SV.arg, Dl.SV.lent, Dl.gNameM, Dl.gNilM, Dl.gConsM, Dl.gTupM, Dl.gSubM, Dl.isLst, Dl.sPar, Dl.sFor, Dl.forM, Dl.iSeqM, Dl.D.items, Dl.eCallF, Dl.callF, Dl.eMake, Dl.makeM, Dl.eFld, Dl.opFld, Dl.sPutF, Dl.opAdd, Dl.opSub, Dl.opFDiv, Dl.opMod, Dl.opPow, Dl.opNeg, Dl.opLt, Dl.opLe, Dl.opGt, Dl.opGe, Dl.opIs2, Dl.opIsNot2, Dl.opIsN, Dl.opNotN, Dl.D.isNon, Dl.opLen, Dl.opAbs, Dl.opMax2, Dl.opMin2, Dl.opInt1, Dl.opStrI, Dl.opList, Dl.opTuple, Dl.eIsi, Dl.isaD, Dl.D.bt, Dl.subB, Dl.sTry, Dl.tryH, Dl.endH, Dl.noExc, Dl.clearS, Dl.SV.isExc, Dl.eXf, Dl.eIsX, Dl.sRaise, Dl.hitL, L2.atI, L2.ixN, Dl.LIM]
    · have e1 : Dl.opMul (.int 104729) (.int k) = some (.imm (.int (104729 * k))) := mulOk (by decide) (by omega)
      refine ⟨[.int 0, .int 0, .int 0, .int (0 + 104729 * k + ns.length)], ⟨0, 0, 0, _, rfl, by decide, by omega⟩, ?_⟩
      have e0 : ns = [] := List.eq_nil_iff_length_eq_zero.mpr (by omega)
      subst e0
      simp at h
      have h3 : ¬ k < 0 := by omega
      simp [den__law_source, b__law_source, h3, e1, Dl.sSeq, Dl.sIf, Dl.sRet, Dl.sRetN, Dl.sDrop, Dl.putM, Dl.sAsg, Dl.sAsgG, Dl.sNx, Dl.sBk, Dl.sCt, Dl.bindM, Dl.retM, Dl.liftM, Dl.settle, Dl.eVar, Dl.eC, Dl.eB, Dl.eNot, Dl.eAnd, Dl.eOr, Dl.eV, Dl.eIf, Dl.eAndV, Dl.eOrV, Dl.eOp2, Dl.eOp1, Dl.eOpn, Dl.op2M, Dl.op1M, Dl.opnM, Dl.eOp2R, Dl.peek, Dl.peeks, Dl.pNil, Dl.pCons, Dl.dNil, Dl.dCons, Dl.eTup, Dl.eLst, Dl.aNil, Dl.aSet, Dl.aLend, Dl.eCall, Dl.callM, Dl.alsOf, Dl.svsOf, Dl.svOf, Dl.backs, Dl.backSv, Dl.denOf, Dl.finC, Dl.outs, Dl.retRV, Dl.SV.arg, Dl.SV.lent, Dl.gNameM, Dl.gNilM, Dl.gConsM, Dl.gTupM, Dl.gSubM, Dl.isLst, Dl.sPar, Dl.sFor, Dl.forM, Dl.iSeqM, Dl.D.items, Dl.eCallF, Dl.callF, Dl.eMake, Dl.makeM, Dl.eFld, Dl.opFld, Dl.sPutF, Dl.opAdd, Dl.opSub, Dl.opFDiv, Dl.opMod, Dl.opPow, Dl.opNeg, Dl.opLt, Dl.opLe, Dl.opGt, Dl.opGe, Dl.opIs2, Dl.opIsNot2, Dl.opIsN, Dl.opNotN, Dl.D.isNon, Dl.opLen, Dl.opAbs, Dl.opMax2, Dl.opMin2, Dl.opInt1, Dl.opStrI, Dl.opList, Dl.opTuple, Dl.eIsi, Dl.isaD, Dl.D.bt, Dl.subB, Dl.sTry, Dl.tryH, Dl.endH, Dl.noExc, Dl.clearS, Dl.SV.isExc, Dl.eXf, Dl.eIsX, Dl.sRaise, Dl.hitL, L2.atI, L2.ixN, Dl.LIM]
end L01
namespace L01
open PySem PySem.Spec PyProof.Rows L2 Dl
theorem ne_of {d e : D} {b : Bool} (h : opEqA d e = some (.imm (.bl b))) : opNeA d e = some (.imm (.bl (!b))) := by
  unfold opEqA at h
  unfold opNeA
  cases q : eqA d e with
  | none => rw [q] at h; cases h
  | some c => rw [q] at h; cases h; rfl
theorem neA_int (i j : Int) : opNeA (.int i) (.int j) = some (.imm (.bl (!decide (i = j)))) := ne_of (eqA_int i j)
theorem fmodN (x y : Nat) : (x : Int).fmod (y : Int) = ((x % y : Nat) : Int) := by
  rw [Int.fmod_eq_emod_of_nonneg _ (by omega)]
  exact (Int.natCast_emod x y).symm
theorem comB_eq (x y : Int) (h : y ≠ 0) : l_common_0 [.imm (.int x), .imm (.int y)] = .ok .nx [.imm (.int y), .imm (.int (x.fmod y))] := by simp [l_common_0, h, Dl.sSeq, Dl.sIf, Dl.sRet, Dl.sRetN, Dl.sDrop, Dl.putM, Dl.sAsg, Dl.sAsgG, Dl.sNx, Dl.sBk, Dl.sCt, Dl.bindM, Dl.retM, Dl.liftM, Dl.settle, Dl.eVar, Dl.eC, Dl.eB, Dl.eNot, Dl.eAnd, Dl.eOr, Dl.eV, Dl.eIf, Dl.eAndV, Dl.eOrV, Dl.eOp2, Dl.eOp1, Dl.eOpn, Dl.op2M, Dl.op1M, Dl.opnM, Dl.eOp2R, Dl.peek, Dl.peeks, Dl.pNil, Dl.pCons, Dl.dNil, Dl.dCons, Dl.eTup, Dl.eLst, Dl.aNil, Dl.aSet, Dl.aLend, Dl.eCall, Dl.callM, Dl.alsOf, Dl.svsOf, Dl.svOf, Dl.backs, Dl.backSv, Dl.denOf, Dl.finC, Dl.outs, Dl.retRV, Dl.SV.arg, Dl.SV.lent, Dl.gNameM, Dl.gNilM, Dl.gConsM, Dl.gTupM, Dl.gSubM, Dl.isLst, Dl.sPar, Dl.sFor, Dl.forM, Dl.iSeqM, Dl.D.items, Dl.eCallF, Dl.callF, Dl.eMake, Dl.makeM, Dl.eFld, Dl.opFld, Dl.sPutF, Dl.opAdd, Dl.opSub, Dl.opMul, Dl.opFDiv, Dl.opMod, Dl.opPow, Dl.opNeg, Dl.opLt, Dl.opLe, Dl.opGt, Dl.opGe, Dl.opIs2, Dl.opIsNot2, Dl.opIsN, Dl.opNotN, Dl.D.isNon, Dl.opIx, Dl.opLen, Dl.opAbs, Dl.opMax2, Dl.opMin2, Dl.opInt1, Dl.opStrI, Dl.opList, Dl.opTuple, Dl.eIsi, Dl.isaD, Dl.D.bt, Dl.subB, Dl.sTry, Dl.tryH, Dl.endH, Dl.noExc, Dl.clearS, Dl.SV.isExc, Dl.eXf, Dl.eIsX, Dl.sRaise, Dl.hitL, L2.atI, L2.ixN, Dl.LIM]
theorem w_common : ∀ (y x : Nat), w_common_0 [.imm (.int x), .imm (.int y)] = .ok .nx [.imm (.int (Nat.gcd y x)), .imm (.int 0)] := fun y => by
  induction y using Nat.strongRecOn with
  | _ y ih =>
    intro x
    unfold w_common_0 at ih ⊢
    rw [sWhile_unfold]
    unfold Dl.bindM
    have e0 : (eB (eOp2 opGt (eVar 1) (eC (.int 0)))) [.imm (.int x), .imm (.int y)] = .ok (decide ((0 : Int) < y)) [.imm (.int x), .imm (.int y)] := by simp [Dl.sSeq, Dl.sIf, Dl.sRet, Dl.sRetN, Dl.sDrop, Dl.putM, Dl.sAsg, Dl.sAsgG, Dl.sNx, Dl.sBk, Dl.sCt, Dl.bindM, Dl.retM, Dl.liftM, Dl.settle, Dl.eVar, Dl.eC, Dl.eB, Dl.eNot, Dl.eAnd, Dl.eOr, Dl.eV, Dl.eIf, Dl.eAndV, Dl.eOrV, Dl.eOp2, Dl.eOp1, Dl.eOpn, Dl.op2M, Dl.op1M, Dl.opnM, Dl.eOp2R, Dl.peek, Dl.peeks, Dl.pNil, Dl.pCons, Dl.dNil, Dl.dCons, Dl.eTup, Dl.eLst, Dl.aNil, Dl.aSet, Dl.aLend, Dl.eCall, Dl.callM, Dl.alsOf, Dl.svsOf, Dl.svOf, Dl.backs, Dl.backSv, Dl.denOf, Dl.finC, Dl.outs, Dl.retRV, Dl.SV.arg, Dl.SV.lent, Dl.gNameM, Dl.gNilM, Dl.gConsM, Dl.gTupM, Dl.gSubM, Dl.isLst, Dl.sPar, Dl.sFor, Dl.forM, Dl.iSeqM, Dl.D.items, Dl.eCallF, Dl.callF, Dl.eMake, Dl.makeM, Dl.eFld, Dl.opFld, Dl.sPutF, Dl.opAdd, Dl.opSub, Dl.opMul, Dl.opFDiv, Dl.opMod, Dl.opPow, Dl.opNeg, Dl.opLt, Dl.opLe, Dl.opGt, Dl.opGe, Dl.opIs2, Dl.opIsNot2, Dl.opIsN, Dl.opNotN, Dl.D.isNon, Dl.opIx, Dl.opLen, Dl.opAbs, Dl.opMax2, Dl.opMin2, Dl.opInt1, Dl.opStrI, Dl.opList, Dl.opTuple, Dl.eIsi, Dl.isaD, Dl.D.bt, Dl.subB, Dl.sTry, Dl.tryH, Dl.endH, Dl.noExc, Dl.clearS, Dl.SV.isExc, Dl.eXf, Dl.eIsX, Dl.sRaise, Dl.hitL, L2.atI, L2.ixN, Dl.LIM]
    rw [e0]
    by_cases h : y = 0
    · subst h
      simp [Dl.retM]
    · have h1 : decide ((0 : Int) < y) = true := by simp; omega
      have e := ih (x % y) (Nat.mod_lt _ (by omega)) y
      rw [← Nat.gcd_rec] at e
      rw [h1]
      simp only [if_true]
      rw [comB_eq _ _ (by omega), fmodN]
      exact e
theorem absN (a : Int) : (if a < 0 then -a else a) = (a.natAbs : Int) := by split <;> omega
theorem opAbsN (a : Int) : opAbs [.int a] = some (.imm (.int a.natAbs)) := by simp [opAbs, absN]
theorem common (a b : Int) : den_common [.imm (.int a), .imm (.int b)] = .ok (.imm (.int (Nat.gcd b.natAbs a.natAbs))) [.imm (.int a), .imm (.int b)] := by
  have e := w_common b.natAbs a.natAbs
  simp [den_common, b_common, absN, e, Dl.sSeq, Dl.sIf, Dl.sRet, Dl.sRetN, Dl.sDrop, Dl.putM, Dl.sAsg, Dl.sAsgG, Dl.sNx, Dl.sBk, Dl.sCt, Dl.bindM, Dl.retM, Dl.liftM, Dl.settle, Dl.eVar, Dl.eC, Dl.eB, Dl.eNot, Dl.eAnd, Dl.eOr, Dl.eV, Dl.eIf, Dl.eAndV, Dl.eOrV, Dl.eOp2, Dl.eOp1, Dl.eOpn, Dl.op2M, Dl.op1M, Dl.opnM, Dl.eOp2R, Dl.peek, Dl.peeks, Dl.pNil, Dl.pCons, Dl.dNil, Dl.dCons, Dl.eTup, Dl.eLst, Dl.aNil, Dl.aSet, Dl.aLend, Dl.eCall, Dl.callM, Dl.alsOf, Dl.svsOf, Dl.svOf, Dl.backs, Dl.backSv, Dl.denOf, Dl.finC, Dl.outs, Dl.retRV, Dl.SV.arg, Dl.SV.lent, Dl.gNameM, Dl.gNilM, Dl.gConsM, Dl.gTupM, Dl.gSubM, Dl.isLst, Dl.sPar, Dl.sFor, Dl.forM, Dl.iSeqM, Dl.D.items, Dl.eCallF, Dl.callF, Dl.eMake, Dl.makeM, Dl.eFld, Dl.opFld, Dl.sPutF, Dl.opAdd, Dl.opSub, Dl.opMul, Dl.opFDiv, Dl.opMod, Dl.opPow, Dl.opNeg, Dl.opLt, Dl.opLe, Dl.opGt, Dl.opGe, Dl.opIs2, Dl.opIsNot2, Dl.opIsN, Dl.opNotN, Dl.D.isNon, Dl.opIx, Dl.opLen, Dl.opAbs, Dl.opMax2, Dl.opMin2, Dl.opInt1, Dl.opStrI, Dl.opList, Dl.opTuple, Dl.eIsi, Dl.isaD, Dl.D.bt, Dl.subB, Dl.sTry, Dl.tryH, Dl.endH, Dl.noExc, Dl.clearS, Dl.SV.isExc, Dl.eXf, Dl.eIsX, Dl.sRaise, Dl.hitL, L2.atI, L2.ixN, Dl.LIM]
/-! lowest terms -/
theorem low0 (t b s4 s5 : SV) (x : Int) : l__law_lowest_0 [t, b, .imm (.int x), .imm (.int 0), s4, s5] = .ok .bk [t, b, .imm (.int x), .imm (.int 0), s4, s5] := by
  simp [l__law_lowest_0, eqA_int, Dl.sSeq, Dl.sIf, Dl.sRet, Dl.sRetN, Dl.sDrop, Dl.putM, Dl.sAsg, Dl.sAsgG, Dl.sNx, Dl.sBk, Dl.sCt, Dl.bindM, Dl.retM, Dl.liftM, Dl.settle, Dl.eVar, Dl.eC, Dl.eB, Dl.eNot, Dl.eAnd, Dl.eOr, Dl.eV, Dl.eIf, Dl.eAndV, Dl.eOrV, Dl.eOp2, Dl.eOp1, Dl.eOpn, Dl.op2M, Dl.op1M, Dl.opnM, Dl.eOp2R, Dl.peek, Dl.peeks, Dl.pNil, Dl.pCons, Dl.dNil, Dl.dCons, Dl.eTup, Dl.eLst, Dl.aNil, Dl.aSet, Dl.aLend, Dl.eCall, Dl.callM, Dl.alsOf, Dl.svsOf, Dl.svOf, Dl.backs, Dl.backSv, Dl.denOf, Dl.finC, Dl.outs, Dl.retRV, Dl.SV.arg, Dl.SV.lent, Dl.gNameM, Dl.gNilM, Dl.gConsM, Dl.gTupM, Dl.gSubM, Dl.isLst, Dl.sPar, Dl.sFor, Dl.forM, Dl.iSeqM, Dl.D.items, Dl.eCallF, Dl.callF, Dl.eMake, Dl.makeM, Dl.eFld, Dl.opFld, Dl.sPutF, Dl.opAdd, Dl.opSub, Dl.opMul, Dl.opFDiv, Dl.opMod, Dl.opPow, Dl.opNeg, Dl.opLt, Dl.opLe, Dl.opGt, Dl.opGe, Dl.opIs2, Dl.opIsNot2, Dl.opIsN, Dl.opNotN, Dl.D.isNon, Dl.opIx, Dl.opLen, Dl.opAbs, Dl.opMax2, Dl.opMin2, Dl.opInt1, Dl.opStrI, Dl.opList, Dl.opTuple, Dl.eIsi, Dl.isaD, Dl.D.bt, Dl.subB, Dl.sTry, Dl.tryH, Dl.endH, Dl.noExc, Dl.clearS, Dl.SV.isExc, Dl.eXf, Dl.eIsX, Dl.sRaise, Dl.hitL, L2.atI, L2.ixN, Dl.LIM]
theorem low1 (t b s4 s5 : SV) (x y : Int) (h : y ≠ 0) : l__law_lowest_0 [t, b, .imm (.int x), .imm (.int y), s4, s5] = .ok .nx [t, b, .imm (.int y), .imm (.int (x.fmod y)), s4, .imm (.int (x.fmod y))] := by
  simp [l__law_lowest_0, eqA_int, h, Dl.sSeq, Dl.sIf, Dl.sRet, Dl.sRetN, Dl.sDrop, Dl.putM, Dl.sAsg, Dl.sAsgG, Dl.sNx, Dl.sBk, Dl.sCt, Dl.bindM, Dl.retM, Dl.liftM, Dl.settle, Dl.eVar, Dl.eC, Dl.eB, Dl.eNot, Dl.eAnd, Dl.eOr, Dl.eV, Dl.eIf, Dl.eAndV, Dl.eOrV, Dl.eOp2, Dl.eOp1, Dl.eOpn, Dl.op2M, Dl.op1M, Dl.opnM, Dl.eOp2R, Dl.peek, Dl.peeks, Dl.pNil, Dl.pCons, Dl.dNil, Dl.dCons, Dl.eTup, Dl.eLst, Dl.aNil, Dl.aSet, Dl.aLend, Dl.eCall, Dl.callM, Dl.alsOf, Dl.svsOf, Dl.svOf, Dl.backs, Dl.backSv, Dl.denOf, Dl.finC, Dl.outs, Dl.retRV, Dl.SV.arg, Dl.SV.lent, Dl.gNameM, Dl.gNilM, Dl.gConsM, Dl.gTupM, Dl.gSubM, Dl.isLst, Dl.sPar, Dl.sFor, Dl.forM, Dl.iSeqM, Dl.D.items, Dl.eCallF, Dl.callF, Dl.eMake, Dl.makeM, Dl.eFld, Dl.opFld, Dl.sPutF, Dl.opAdd, Dl.opSub, Dl.opMul, Dl.opFDiv, Dl.opMod, Dl.opPow, Dl.opNeg, Dl.opLt, Dl.opLe, Dl.opGt, Dl.opGe, Dl.opIs2, Dl.opIsNot2, Dl.opIsN, Dl.opNotN, Dl.D.isNon, Dl.opIx, Dl.opLen, Dl.opAbs, Dl.opMax2, Dl.opMin2, Dl.opInt1, Dl.opStrI, Dl.opList, Dl.opTuple, Dl.eIsi, Dl.isaD, Dl.D.bt, Dl.subB, Dl.sTry, Dl.tryH, Dl.endH, Dl.noExc, Dl.clearS, Dl.SV.isExc, Dl.eXf, Dl.eIsX, Dl.sRaise, Dl.hitL, L2.atI, L2.ixN, Dl.LIM]
theorem halve {y r : Nat} (h0 : 0 < r) (h : r < y) : 2 * (y % r) < y := by
  have h1 := Nat.mod_lt y h0
  by_cases z : 2 * r ≤ y
  · omega
  · have : y % r = y - r := by
      rw [Nat.mod_eq_sub_mod (by omega), Nat.mod_eq_of_lt (by omega)]
    omega
theorem low (t b : SV) : ∀ (n : Nat) (ds : List D) (x y : Nat) (s4 s5 : SV), y < 2 ^ n → 2 * n + 1 ≤ ds.length → ∃ s4' s5', Dl.forM (gNameM 4) l__law_lowest_0 ds [t, b, .imm (.int x), .imm (.int y), s4, s5] = .ok .nx [t, b, .imm (.int (Nat.gcd y x)), .imm (.int 0), s4', s5'] := by
  intro n
  induction n with
  | zero =>
    intro ds x y s4 s5 hy hl
    have : y = 0 := by simpa using hy
    subst this
    match ds, hl with
    | d :: ds, _ =>
      refine ⟨.imm d, s5, ?_⟩
      have e := low0 t b (.imm d) s5 x
      simp only [Dl.forM, gNameM, List.set_cons_succ, List.set_cons_zero]
      rw [show ((0 : Nat) : Int) = 0 from rfl, e]
      simp
  | succ n ih =>
    intro ds x y s4 s5 hy hl
    match ds, hl with
    | d :: d2 :: ds, hl =>
      by_cases hy0 : y = 0
      · subst hy0
        refine ⟨.imm d, s5, ?_⟩
        have e := low0 t b (.imm d) s5 x
        simp only [Dl.forM, gNameM, List.set_cons_succ, List.set_cons_zero]
        rw [show ((0 : Nat) : Int) = 0 from rfl, e]
        simp
      · have e := low1 t b (.imm d) s5 x y (by omega)
        rw [fmodN] at e
        by_cases hr : x % y = 0
        · have e2 := low0 t b (.imm d2) (.imm (.int ((x % y : Nat) : Int))) y
          refine ⟨.imm d2, .imm (.int ((x % y : Nat) : Int)), ?_⟩
          simp only [Dl.forM, gNameM, List.set_cons_succ, List.set_cons_zero]
          rw [e]
          simp only [Dl.forM, gNameM, List.set_cons_succ, List.set_cons_zero]
          rw [hr] at e2 ⊢
          rw [show ((0 : Nat) : Int) = 0 from rfl] at e2 ⊢
          rw [e2, Nat.gcd_rec, hr]
          simp
        · have e2 := low1 t b (.imm d2) (.imm (.int ((x % y : Nat) : Int))) y (x % y : Nat) (by omega)
          rw [fmodN] at e2
          have hlt := Nat.mod_lt x (show 0 < y by omega)
          have hh := halve (y := y) (r := x % y) (by omega) hlt
          obtain ⟨s4', s5', q⟩ := ih ds (x % y) (y % (x % y)) (.imm d2) (.imm (.int ((y % (x % y) : Nat) : Int))) (by rw [Nat.pow_succ] at hy; omega) (by simp at hl; omega)
          refine ⟨s4', s5', ?_⟩
          simp only [Dl.forM, gNameM, List.set_cons_succ, List.set_cons_zero]
          rw [e]
          simp only [Dl.forM, gNameM, List.set_cons_succ, List.set_cons_zero]
          rw [e2]
          simp only
          rw [q, ← Nat.gcd_rec, ← Nat.gcd_rec]
theorem lowFor (t b : SV) (x y : Nat) (hy : y < 2 ^ 800) : ∃ s4 s5, w__law_lowest_0 [t, b, .imm (.int x), .imm (.int y), .none, .none] = .ok .nx [t, b, .imm (.int (Nat.gcd y x)), .imm (.int 0), s4, s5] := by
  obtain ⟨s4, s5, e⟩ := low t b 800 ((List.range (2000 : Int).toNat).map fun (k : Nat) => D.int k) x y .none .none hy (by simp)
  refine ⟨s4, s5, ?_⟩
  unfold w__law_lowest_0 sFor Dl.bindM
  have f : pCons (eC (.int 2000)) pNil [t, b, .imm (.int x), .imm (.int y), .none, .none] = .ok [.imm (.int 2000)] [t, b, .imm (.int x), .imm (.int y), .none, .none] := rfl
  rw [rng1 _ _ _ _ _ f rfl (by decide) (by decide)]
  exact e
def sg (a b : Int) : Int := if b < 0 then -(Nat.gcd b.natAbs a.natAbs : Int) else (Nat.gcd b.natAbs a.natAbs : Int)
/-- in lowest terms -/
def nT (a b : Int) : Int := a.fdiv (sg a b)
def nB (a b : Int) : Int := b.fdiv (sg a b)
theorem gcd_pos' {a b : Int} (h : b ≠ 0) : 0 < Nat.gcd b.natAbs a.natAbs := Nat.gcd_pos_of_pos_left _ (by omega)
theorem l3 {n : Nat} (h : n < 2 ^ 800) : n.log2 < 9000 := by
  by_cases z : n = 0
  · subst z; decide
  · have := (Nat.log2_lt z).mpr h
    omega
theorem sg_lg {a b : Int} (h : b ≠ 0) (hb : b.natAbs < 2 ^ 800) : (sg a b).natAbs.log2 < 9000 := by
  have h1 := Nat.gcd_le_left a.natAbs (show 0 < b.natAbs by omega)
  have e : (sg a b).natAbs = Nat.gcd b.natAbs a.natAbs := by unfold sg; split <;> omega
  rw [e]
  exact l3 (Nat.lt_of_le_of_lt h1 hb)
theorem lowest (a b : Int) (h : b ≠ 0) (hb : b.natAbs < 2 ^ 800) : den__law_lowest [.imm (.int a), .imm (.int b)] = .ok (.imm (.tup [.int (nT a b), .int (nB a b)])) [.imm (.int a), .imm (.int b)] := by
  obtain ⟨s4, s5, e⟩ := lowFor (.imm (.int a)) (.imm (.int b)) a.natAbs b.natAbs hb
  unfold den__law_lowest b__law_lowest nT nB
  revert e
  generalize w__law_lowest_0 = wM
  intro e
  have h1 := gcd_pos' (a := a) h
  have h2 := sg_lg (a := a) h hb
  unfold sg at h2 ⊢
  generalize Nat.gcd b.natAbs a.natAbs = g at *
  have h3 : ¬ g = 0 := by omega
  by_cases hn : b < 0
  · rw [if_pos hn] at h2 ⊢
    simp at h2
    simp [opAbsN, e, hn, h3, h2, Dl.sSeq, Dl.sIf, Dl.sRet, Dl.sRetN, Dl.sDrop, Dl.putM, Dl.sAsg, Dl.sAsgG, Dl.sNx, Dl.sBk, Dl.sCt, Dl.bindM, Dl.retM, Dl.liftM, Dl.settle, Dl.eVar, Dl.eC, Dl.eB, Dl.eNot, Dl.eAnd, Dl.eOr, Dl.eV, Dl.eIf, Dl.eAndV, Dl.eOrV, Dl.eOp2, Dl.eOp1, Dl.eOpn, Dl.op2M, Dl.op1M, Dl.opnM, Dl.eOp2R, Dl.peek, Dl.peeks, Dl.pNil, Dl.pCons, Dl.dNil, Dl.dCons, Dl.eTup, Dl.eLst, Dl.aNil, Dl.aSet, Dl.aLend, Dl.eCall, Dl.callM, Dl.alsOf, Dl.svsOf, Dl.svOf, Dl.backs, Dl.backSv, Dl.denOf, Dl.finC, Dl.outs, Dl.retRV, Dl.SV.arg, Dl.SV.lent, Dl.gNameM, Dl.gNilM, Dl.gConsM, Dl.gTupM, Dl.gSubM, Dl.isLst, Dl.sPar, Dl.sFor, Dl.forM, Dl.iSeqM, Dl.D.items, Dl.eCallF, Dl.callF, Dl.eMake, Dl.makeM, Dl.eFld, Dl.opFld, Dl.sPutF, Dl.opAdd, Dl.opSub, Dl.opMul, Dl.opFDiv, Dl.opMod, Dl.opPow, Dl.opNeg, Dl.opLt, Dl.opLe, Dl.opGt, Dl.opGe, Dl.opIs2, Dl.opIsNot2, Dl.opIsN, Dl.opNotN, Dl.D.isNon, Dl.opIx, Dl.opLen, Dl.opMax2, Dl.opMin2, Dl.opInt1, Dl.opStrI, Dl.opList, Dl.opTuple, Dl.eIsi, Dl.isaD, Dl.D.bt, Dl.subB, Dl.sTry, Dl.tryH, Dl.endH, Dl.noExc, Dl.clearS, Dl.SV.isExc, Dl.eXf, Dl.eIsX, Dl.sRaise, Dl.hitL, L2.atI, L2.ixN, Dl.LIM]
  · rw [if_neg hn] at h2 ⊢
    simp at h2
    simp [opAbsN, e, hn, h3, h2, Dl.sSeq, Dl.sIf, Dl.sRet, Dl.sRetN, Dl.sDrop, Dl.putM, Dl.sAsg, Dl.sAsgG, Dl.sNx, Dl.sBk, Dl.sCt, Dl.bindM, Dl.retM, Dl.liftM, Dl.settle, Dl.eVar, Dl.eC, Dl.eB, Dl.eNot, Dl.eAnd, Dl.eOr, Dl.eV, Dl.eIf, Dl.eAndV, Dl.eOrV, Dl.eOp2, Dl.eOp1, Dl.eOpn, Dl.op2M, Dl.op1M, Dl.opnM, Dl.eOp2R, Dl.peek, Dl.peeks, Dl.pNil, Dl.pCons, Dl.dNil, Dl.dCons, Dl.eTup, Dl.eLst, Dl.aNil, Dl.aSet, Dl.aLend, Dl.eCall, Dl.callM, Dl.alsOf, Dl.svsOf, Dl.svOf, Dl.backs, Dl.backSv, Dl.denOf, Dl.finC, Dl.outs, Dl.retRV, Dl.SV.arg, Dl.SV.lent, Dl.gNameM, Dl.gNilM, Dl.gConsM, Dl.gTupM, Dl.gSubM, Dl.isLst, Dl.sPar, Dl.sFor, Dl.forM, Dl.iSeqM, Dl.D.items, Dl.eCallF, Dl.callF, Dl.eMake, Dl.makeM, Dl.eFld, Dl.opFld, Dl.sPutF, Dl.opAdd, Dl.opSub, Dl.opMul, Dl.opFDiv, Dl.opMod, Dl.opPow, Dl.opNeg, Dl.opLt, Dl.opLe, Dl.opGt, Dl.opGe, Dl.opIs2, Dl.opIsNot2, Dl.opIsN, Dl.opNotN, Dl.D.isNon, Dl.opIx, Dl.opLen, Dl.opMax2, Dl.opMin2, Dl.opInt1, Dl.opStrI, Dl.opList, Dl.opTuple, Dl.eIsi, Dl.isaD, Dl.D.bt, Dl.subB, Dl.sTry, Dl.tryH, Dl.endH, Dl.noExc, Dl.clearS, Dl.SV.isExc, Dl.eXf, Dl.eIsX, Dl.sRaise, Dl.hitL, L2.atI, L2.ixN, Dl.LIM]
/-! Ratio -/
theorem isI_int (a : Int) : den_is_integer [.imm (.int a)] = .ok (.imm (.bl true)) [.imm (.int a)] := isI_den (.int a) rfl
theorem isI_int' (a : Int) : den__law_integer [.imm (.int a)] = .ok (.imm (.bl true)) [.imm (.int a)] := isI_den' (.int a) rfl
def rat (t b : Int) : D := .ins 2 [.int t, .int b]
theorem initK (t b : Int) (h : b ≠ 0) (hb : b.natAbs < 2 ^ 800) : den_Ratio___init__ [.obj 2 [], .imm (.int t), .imm (.int b)] = .ok (.imm .non) [.obj 2 [.int (nT t b), .int (nB t b)], .imm (.int t), .imm (.int b)] := by
  have h1 := gcd_pos' (a := t) h
  have h2 := sg_lg (a := t) h hb
  have hc := common t b
  unfold nT nB
  unfold sg at h2 ⊢
  generalize Nat.gcd b.natAbs t.natAbs = g at *
  have h3 : ¬ g = 0 := by omega
  by_cases hn : b < 0
  · rw [if_pos hn] at h2 ⊢
    simp at h2
    simp [den_Ratio___init__, b_Ratio___init__, w_Ratio___init___0, l_Ratio___init___0, isI_int, eqA_int, hc, h, hn, h3, h2, Dl.sSeq, Dl.sIf, Dl.sRet, Dl.sRetN, Dl.sDrop, Dl.putM, Dl.sAsg, Dl.sAsgG, Dl.sNx, Dl.sBk, Dl.sCt, Dl.bindM, Dl.retM, Dl.liftM, Dl.settle, Dl.eVar, Dl.eC, Dl.eB, Dl.eNot, Dl.eAnd, Dl.eOr, Dl.eV, Dl.eIf, Dl.eAndV, Dl.eOrV, Dl.eOp2, Dl.eOp1, Dl.eOpn, Dl.op2M, Dl.op1M, Dl.opnM, Dl.eOp2R, Dl.peek, Dl.peeks, Dl.pNil, Dl.pCons, Dl.dNil, Dl.dCons, Dl.eTup, Dl.eLst, Dl.aNil, Dl.aSet, Dl.aLend, Dl.eCall, Dl.callM, Dl.alsOf, Dl.svsOf, Dl.svOf, Dl.backs, Dl.backSv, Dl.denOf, Dl.finC, Dl.outs, Dl.retRV, Dl.SV.arg, Dl.SV.lent, Dl.gNameM, Dl.gNilM, Dl.gConsM, Dl.gTupM, Dl.gSubM, Dl.isLst, Dl.sPar, Dl.sFor, Dl.forM, Dl.iSeqM, Dl.D.items, Dl.eCallF, Dl.callF, Dl.eMake, Dl.makeM, Dl.eFld, Dl.opFld, Dl.sPutF, Dl.opAdd, Dl.opSub, Dl.opMul, Dl.opFDiv, Dl.opMod, Dl.opPow, Dl.opNeg, Dl.opLt, Dl.opLe, Dl.opGt, Dl.opGe, Dl.opIs2, Dl.opIsNot2, Dl.opIsN, Dl.opNotN, Dl.D.isNon, Dl.opIx, Dl.opLen, Dl.opAbs, Dl.opMax2, Dl.opMin2, Dl.opInt1, Dl.opStrI, Dl.opList, Dl.opTuple, Dl.eIsi, Dl.isaD, Dl.D.bt, Dl.subB, Dl.sTry, Dl.tryH, Dl.endH, Dl.noExc, Dl.clearS, Dl.SV.isExc, Dl.eXf, Dl.eIsX, Dl.sRaise, Dl.hitL, L2.atI, L2.ixN, Dl.LIM]
  · rw [if_neg hn] at h2 ⊢
    simp at h2
    simp [den_Ratio___init__, b_Ratio___init__, w_Ratio___init___0, l_Ratio___init___0, isI_int, eqA_int, hc, h, hn, h3, h2, Dl.sSeq, Dl.sIf, Dl.sRet, Dl.sRetN, Dl.sDrop, Dl.putM, Dl.sAsg, Dl.sAsgG, Dl.sNx, Dl.sBk, Dl.sCt, Dl.bindM, Dl.retM, Dl.liftM, Dl.settle, Dl.eVar, Dl.eC, Dl.eB, Dl.eNot, Dl.eAnd, Dl.eOr, Dl.eV, Dl.eIf, Dl.eAndV, Dl.eOrV, Dl.eOp2, Dl.eOp1, Dl.eOpn, Dl.op2M, Dl.op1M, Dl.opnM, Dl.eOp2R, Dl.peek, Dl.peeks, Dl.pNil, Dl.pCons, Dl.dNil, Dl.dCons, Dl.eTup, Dl.eLst, Dl.aNil, Dl.aSet, Dl.aLend, Dl.eCall, Dl.callM, Dl.alsOf, Dl.svsOf, Dl.svOf, Dl.backs, Dl.backSv, Dl.denOf, Dl.finC, Dl.outs, Dl.retRV, Dl.SV.arg, Dl.SV.lent, Dl.gNameM, Dl.gNilM, Dl.gConsM, Dl.gTupM, Dl.gSubM, Dl.isLst, Dl.sPar, Dl.sFor, Dl.forM, Dl.iSeqM, Dl.D.items, Dl.eCallF, Dl.callF, Dl.eMake, Dl.makeM, Dl.eFld, Dl.opFld, Dl.sPutF, Dl.opAdd, Dl.opSub, Dl.opMul, Dl.opFDiv, Dl.opMod, Dl.opPow, Dl.opNeg, Dl.opLt, Dl.opLe, Dl.opGt, Dl.opGe, Dl.opIs2, Dl.opIsNot2, Dl.opIsN, Dl.opNotN, Dl.D.isNon, Dl.opIx, Dl.opLen, Dl.opAbs, Dl.opMax2, Dl.opMin2, Dl.opInt1, Dl.opStrI, Dl.opList, Dl.opTuple, Dl.eIsi, Dl.isaD, Dl.D.bt, Dl.subB, Dl.sTry, Dl.tryH, Dl.endH, Dl.noExc, Dl.clearS, Dl.SV.isExc, Dl.eXf, Dl.eIsX, Dl.sRaise, Dl.hitL, L2.atI, L2.ixN, Dl.LIM]
/-! the plain arithmetic -/
structure Low (t b : Int) : Prop where
  pos : 0 < b
  gcd : Nat.gcd b.natAbs t.natAbs = 1
theorem nrm_spec (a b : Int) (h : b ≠ 0) : Low (nT a b) (nB a b) ∧ (nT a b).natAbs ≤ a.natAbs ∧ (nB a b).natAbs ≤ b.natAbs := by
  have hg := gcd_pos' (a := a) h
  have hs : sg a b ≠ 0 := by unfold sg; split <;> omega
  have hd : ∀ c : Int, Nat.gcd b.natAbs a.natAbs ∣ c.natAbs → ∃ k, c = sg a b * k := fun c hc => by
    have : (Nat.gcd b.natAbs a.natAbs : Int) ∣ c := Int.natAbs_dvd_natAbs.mp (by simpa using hc)
    obtain ⟨k, hk⟩ := this
    unfold sg
    split
    · exact ⟨-k, by rw [Int.neg_mul_neg]; exact hk⟩
    · exact ⟨k, hk⟩
  obtain ⟨k, hk⟩ := hd a (Nat.gcd_dvd_right _ _)
  obtain ⟨l, hl⟩ := hd b (Nat.gcd_dvd_left _ _)
  have ek : nT a b = k := by
    unfold nT
    generalize hz : sg a b = z at *
    rw [hk, Int.mul_fdiv_cancel_left _ hs]
  have el : nB a b = l := by
    unfold nB
    generalize hz : sg a b = z at *
    rw [hl, Int.mul_fdiv_cancel_left _ hs]
  have sgN : (sg a b).natAbs = Nat.gcd b.natAbs a.natAbs := by unfold sg; split <;> omega
  have na : a.natAbs = Nat.gcd b.natAbs a.natAbs * k.natAbs := by
    have := congrArg Int.natAbs hk
    rw [Int.natAbs_mul, sgN] at this
    exact this
  have nb : b.natAbs = Nat.gcd b.natAbs a.natAbs * l.natAbs := by
    have := congrArg Int.natAbs hl
    rw [Int.natAbs_mul, sgN] at this
    exact this
  have g1 : Nat.gcd l.natAbs k.natAbs = 1 := by
    have : Nat.gcd b.natAbs a.natAbs * Nat.gcd l.natAbs k.natAbs = Nat.gcd b.natAbs a.natAbs * 1 := by
      rw [← Nat.gcd_mul_left, ← nb, ← na, Nat.mul_one]
    exact Nat.eq_of_mul_eq_mul_left hg this
  have lp : 0 < l := by
    have e := hl
    unfold sg at e
    by_cases hn : b < 0
    · rw [if_pos hn] at e
      by_cases z : 0 < l
      · exact z
      · exfalso
        have : 0 ≤ (-(Nat.gcd b.natAbs a.natAbs : Int)) * l := Int.mul_nonneg_of_nonpos_of_nonpos (by omega) (by omega)
        omega
    · rw [if_neg hn] at e
      by_cases z : 0 < l
      · exact z
      · exfalso
        have : (Nat.gcd b.natAbs a.natAbs : Int) * l ≤ 0 := Int.mul_nonpos_of_nonneg_of_nonpos (by omega) (by omega)
        omega
  rw [ek, el]
  refine ⟨⟨lp, g1⟩, ?_, ?_⟩
  · rw [na]; exact Nat.le_mul_of_pos_left _ hg
  · rw [nb]; exact Nat.le_mul_of_pos_left _ hg
theorem sg_low {t b : Int} (l : Low t b) : sg t b = 1 := by
  have := l.pos
  unfold sg
  rw [if_neg (by omega), l.gcd]
  rfl
theorem nT_low {t b : Int} (l : Low t b) : nT t b = t := by unfold nT; rw [sg_low l]; exact Int.fdiv_one _
theorem nB_low {t b : Int} (l : Low t b) : nB t b = b := by unfold nB; rw [sg_low l]; exact Int.fdiv_one _
theorem sg3 {t b : Int} (l : Low t b) : sg (t * 3) (b * 3) = 3 := by
  have := l.pos
  unfold sg
  rw [if_neg (by omega), Int.natAbs_mul, Int.natAbs_mul, Nat.gcd_mul_right, l.gcd]
  rfl
theorem nT3 {t b : Int} (l : Low t b) : nT (t * 3) (b * 3) = t := by unfold nT; rw [sg3 l]; exact Int.mul_fdiv_cancel _ (by decide)
theorem nB3 {t b : Int} (l : Low t b) : nB (t * 3) (b * 3) = b := by unfold nB; rw [sg3 l]; exact Int.mul_fdiv_cancel _ (by decide)
theorem low_neg {t b : Int} (l : Low t b) : Low (-t) b := ⟨l.pos, by rw [Int.natAbs_neg]; exact l.gcd⟩
theorem low_one (n : Int) : Low n 1 := ⟨by decide, by simp⟩
theorem mul_lt {a b : Int} {m n : Nat} (ha : a.natAbs < 2 ^ m) (hb : b.natAbs < 2 ^ n) : (a * b).natAbs < 2 ^ (m + n) := by
  rw [Int.natAbs_mul, Nat.pow_add]
  exact Nat.mul_lt_mul'' ha hb
theorem lt_mono {a : Int} {m n : Nat} (h : a.natAbs < 2 ^ m) (hm : m ≤ n) : a.natAbs < 2 ^ n := Nat.lt_of_lt_of_le h (Nat.pow_le_pow_right (by decide) hm)
end L01
namespace L01
open PySem PySem.Spec PyProof.Rows L2 Dl
/-- what is no number -/
def O : List D := [.non, .bl true, .bl false, .str "7", .str "", .tup [], .tup [.int 3], .lst [], .lst [.int 5], .dk [], .dk [(.inl 1, .int 2)], .str "ab"]
theorem O_cases {P : D → Prop} (h1 : P .non) (h2 : P (.bl true)) (h3 : P (.bl false)) (h4 : P (.str "7")) (h5 : P (.str "")) (h6 : P (.tup [])) (h7 : P (.tup [.int 3])) (h8 : P (.lst [])) (h9 : P (.lst [.int 5])) (h10 : P (.dk [])) (h11 : P (.dk [(.inl 1, .int 2)])) (h12 : P (.str "ab")) : ∀ d ∈ O, P d := fun d h => by
  simp only [O, List.mem_cons, List.not_mem_nil, or_false] at h
  rcases h with rfl | rfl | rfl | rfl | rfl | rfl | rfl | rfl | rfl | rfl | rfl | rfl <;> assumption
theorem mkR {a b : Int} (h : b ≠ 0) (hb : b.natAbs < 2 ^ 800) {f : M (List AV)} {env env1 : Dl.Env} (hf : f env = .ok [.imm (.int a), .imm (.int b)] env1) : eMake 2 2 2 den_Ratio___init__ f env = .ok (.imm (rat (nT a b) (nB a b))) env1 := by
  have e := initK a b h hb
  unfold rat
  simp [hf, e, Dl.sSeq, Dl.sIf, Dl.sRet, Dl.sRetN, Dl.sDrop, Dl.putM, Dl.sAsg, Dl.sAsgG, Dl.sNx, Dl.sBk, Dl.sCt, Dl.bindM, Dl.retM, Dl.liftM, Dl.settle, Dl.eVar, Dl.eC, Dl.eB, Dl.eNot, Dl.eAnd, Dl.eOr, Dl.eV, Dl.eIf, Dl.eAndV, Dl.eOrV, Dl.eOp2, Dl.eOp1, Dl.eOpn, Dl.op2M, Dl.op1M, Dl.opnM, Dl.eOp2R, Dl.peek, Dl.peeks, Dl.pNil, Dl.pCons, Dl.dNil, Dl.dCons, Dl.eTup, Dl.eLst, Dl.aNil, Dl.aSet, Dl.aLend, Dl.eCall, Dl.callM, Dl.alsOf, Dl.svsOf, Dl.svOf, Dl.backs, Dl.backSv, Dl.denOf, Dl.finC, Dl.outs, Dl.retRV, Dl.SV.arg, Dl.SV.lent, Dl.gNameM, Dl.gNilM, Dl.gConsM, Dl.gTupM, Dl.gSubM, Dl.isLst, Dl.sPar, Dl.sFor, Dl.forM, Dl.iSeqM, Dl.D.items, Dl.eCallF, Dl.callF, Dl.eMake, Dl.makeM, Dl.eFld, Dl.opFld, Dl.sPutF, Dl.opAdd, Dl.opSub, Dl.opMul, Dl.opFDiv, Dl.opMod, Dl.opPow, Dl.opNeg, Dl.opLt, Dl.opLe, Dl.opGt, Dl.opGe, Dl.opIs2, Dl.opIsNot2, Dl.opIsN, Dl.opNotN, Dl.D.isNon, Dl.opIx, Dl.opLen, Dl.opAbs, Dl.opMax2, Dl.opMin2, Dl.opInt1, Dl.opStrI, Dl.opList, Dl.opTuple, Dl.eIsi, Dl.isaD, Dl.D.bt, Dl.subB, Dl.sTry, Dl.tryH, Dl.endH, Dl.noExc, Dl.clearS, Dl.SV.isExc, Dl.eXf, Dl.eIsX, Dl.sRaise, Dl.hitL, L2.atI, L2.ixN, Dl.LIM]
theorem isn_int (n : Int) : den_is_number [.imm (.int n)] = .ok (.imm (.bl true)) [.imm (.int n)] := by
  simp [den_is_number, b_is_number, isI_int, kn, Dl.sSeq, Dl.sIf, Dl.sRet, Dl.sRetN, Dl.sDrop, Dl.putM, Dl.sAsg, Dl.sAsgG, Dl.sNx, Dl.sBk, Dl.sCt, Dl.bindM, Dl.retM, Dl.liftM, Dl.settle, Dl.eVar, Dl.eC, Dl.eB, Dl.eNot, Dl.eAnd, Dl.eOr, Dl.eV, Dl.eIf, Dl.eAndV, Dl.eOrV, Dl.eOp2, Dl.eOp1, Dl.eOpn, Dl.op2M, Dl.op1M, Dl.opnM, Dl.eOp2R, Dl.peek, Dl.peeks, Dl.pNil, Dl.pCons, Dl.dNil, Dl.dCons, Dl.eTup, Dl.eLst, Dl.aNil, Dl.aSet, Dl.aLend, Dl.eCall, Dl.callM, Dl.alsOf, Dl.svsOf, Dl.svOf, Dl.backs, Dl.backSv, Dl.denOf, Dl.finC, Dl.outs, Dl.retRV, Dl.SV.arg, Dl.SV.lent, Dl.gNameM, Dl.gNilM, Dl.gConsM, Dl.gTupM, Dl.gSubM, Dl.isLst, Dl.sPar, Dl.sFor, Dl.forM, Dl.iSeqM, Dl.D.items, Dl.eCallF, Dl.callF, Dl.eMake, Dl.makeM, Dl.eFld, Dl.opFld, Dl.sPutF, Dl.opAdd, Dl.opSub, Dl.opMul, Dl.opFDiv, Dl.opMod, Dl.opPow, Dl.opNeg, Dl.opLt, Dl.opLe, Dl.opGt, Dl.opGe, Dl.opIs2, Dl.opIsNot2, Dl.opIsN, Dl.opNotN, Dl.D.isNon, Dl.opIx, Dl.opLen, Dl.opAbs, Dl.opMax2, Dl.opMin2, Dl.opInt1, Dl.opStrI, Dl.opList, Dl.opTuple, Dl.eIsi, Dl.isaD, Dl.D.bt, Dl.subB, Dl.sTry, Dl.tryH, Dl.endH, Dl.noExc, Dl.clearS, Dl.SV.isExc, Dl.eXf, Dl.eIsX, Dl.sRaise, Dl.hitL, L2.atI, L2.ixN, Dl.LIM]
theorem isn_rat (t b : Int) : den_is_number [.imm (rat t b)] = .ok (.imm (.bl true)) [.imm (rat t b)] := by
  simp [den_is_number, b_is_number, rat, kn, Dl.sSeq, Dl.sIf, Dl.sRet, Dl.sRetN, Dl.sDrop, Dl.putM, Dl.sAsg, Dl.sAsgG, Dl.sNx, Dl.sBk, Dl.sCt, Dl.bindM, Dl.retM, Dl.liftM, Dl.settle, Dl.eVar, Dl.eC, Dl.eB, Dl.eNot, Dl.eAnd, Dl.eOr, Dl.eV, Dl.eIf, Dl.eAndV, Dl.eOrV, Dl.eOp2, Dl.eOp1, Dl.eOpn, Dl.op2M, Dl.op1M, Dl.opnM, Dl.eOp2R, Dl.peek, Dl.peeks, Dl.pNil, Dl.pCons, Dl.dNil, Dl.dCons, Dl.eTup, Dl.eLst, Dl.aNil, Dl.aSet, Dl.aLend, Dl.eCall, Dl.callM, Dl.alsOf, Dl.svsOf, Dl.svOf, Dl.backs, Dl.backSv, Dl.denOf, Dl.finC, Dl.outs, Dl.retRV, Dl.SV.arg, Dl.SV.lent, Dl.gNameM, Dl.gNilM, Dl.gConsM, Dl.gTupM, Dl.gSubM, Dl.isLst, Dl.sPar, Dl.sFor, Dl.forM, Dl.iSeqM, Dl.D.items, Dl.eCallF, Dl.callF, Dl.eMake, Dl.makeM, Dl.eFld, Dl.opFld, Dl.sPutF, Dl.opAdd, Dl.opSub, Dl.opMul, Dl.opFDiv, Dl.opMod, Dl.opPow, Dl.opNeg, Dl.opLt, Dl.opLe, Dl.opGt, Dl.opGe, Dl.opIs2, Dl.opIsNot2, Dl.opIsN, Dl.opNotN, Dl.D.isNon, Dl.opIx, Dl.opLen, Dl.opAbs, Dl.opMax2, Dl.opMin2, Dl.opInt1, Dl.opStrI, Dl.opList, Dl.opTuple, Dl.eIsi, Dl.isaD, Dl.D.bt, Dl.subB, Dl.sTry, Dl.tryH, Dl.endH, Dl.noExc, Dl.clearS, Dl.SV.isExc, Dl.eXf, Dl.eIsX, Dl.sRaise, Dl.hitL, L2.atI, L2.ixN, Dl.LIM]
theorem O_facts : ∀ d ∈ O, pl d = true ∧ isI d = false ∧ isaD kn [] [2] d = some false := by
  refine O_cases ?_ ?_ ?_ ?_ ?_ ?_ ?_ ?_ ?_ ?_ ?_ ?_ <;> exact ⟨rfl, rfl, by decide +kernel⟩
theorem isn_odd (d : D) (h : d ∈ O) : den_is_number [.imm d] = .ok (.imm (.bl false)) [.imm d] := by
  obtain ⟨h1, h2, h3⟩ := O_facts d h
  have e1 := isI_den d h1
  rw [h2] at e1
  simp [den_is_number, b_is_number, e1, h3, Dl.sSeq, Dl.sIf, Dl.sRet, Dl.sRetN, Dl.sDrop, Dl.putM, Dl.sAsg, Dl.sAsgG, Dl.sNx, Dl.sBk, Dl.sCt, Dl.bindM, Dl.retM, Dl.liftM, Dl.settle, Dl.eVar, Dl.eC, Dl.eB, Dl.eNot, Dl.eAnd, Dl.eOr, Dl.eV, Dl.eIf, Dl.eAndV, Dl.eOrV, Dl.eOp2, Dl.eOp1, Dl.eOpn, Dl.op2M, Dl.op1M, Dl.opnM, Dl.eOp2R, Dl.peek, Dl.peeks, Dl.pNil, Dl.pCons, Dl.dNil, Dl.dCons, Dl.eTup, Dl.eLst, Dl.aNil, Dl.aSet, Dl.aLend, Dl.eCall, Dl.callM, Dl.alsOf, Dl.svsOf, Dl.svOf, Dl.backs, Dl.backSv, Dl.denOf, Dl.finC, Dl.outs, Dl.retRV, Dl.SV.arg, Dl.SV.lent, Dl.gNameM, Dl.gNilM, Dl.gConsM, Dl.gTupM, Dl.gSubM, Dl.isLst, Dl.sPar, Dl.sFor, Dl.forM, Dl.iSeqM, Dl.D.items, Dl.eCallF, Dl.callF, Dl.eMake, Dl.makeM, Dl.eFld, Dl.opFld, Dl.sPutF, Dl.opAdd, Dl.opSub, Dl.opMul, Dl.opFDiv, Dl.opMod, Dl.opPow, Dl.opNeg, Dl.opLt, Dl.opLe, Dl.opGt, Dl.opGe, Dl.opIs2, Dl.opIsNot2, Dl.opIsN, Dl.opNotN, Dl.D.isNon, Dl.opIx, Dl.opLen, Dl.opAbs, Dl.opMax2, Dl.opMin2, Dl.opInt1, Dl.opStrI, Dl.opList, Dl.opTuple, Dl.eIsi, Dl.sTry, Dl.tryH, Dl.endH, Dl.noExc, Dl.clearS, Dl.SV.isExc, Dl.eXf, Dl.eIsX, Dl.sRaise, Dl.hitL, L2.atI, L2.ixN, Dl.LIM]
theorem asr_int (n : Int) : den_as_ratio [.imm (.int n)] = .ok (.imm (rat n 1)) [.imm (.int n)] := by
  have e := initK n 1 (by decide) (by decide)
  rw [nT_low (low_one n), nB_low (low_one n)] at e
  simp [den_as_ratio, b_as_ratio, e, rat, kn, Dl.sSeq, Dl.sIf, Dl.sRet, Dl.sRetN, Dl.sDrop, Dl.putM, Dl.sAsg, Dl.sAsgG, Dl.sNx, Dl.sBk, Dl.sCt, Dl.bindM, Dl.retM, Dl.liftM, Dl.settle, Dl.eVar, Dl.eC, Dl.eB, Dl.eNot, Dl.eAnd, Dl.eOr, Dl.eV, Dl.eIf, Dl.eAndV, Dl.eOrV, Dl.eOp2, Dl.eOp1, Dl.eOpn, Dl.op2M, Dl.op1M, Dl.opnM, Dl.eOp2R, Dl.peek, Dl.peeks, Dl.pNil, Dl.pCons, Dl.dNil, Dl.dCons, Dl.eTup, Dl.eLst, Dl.aNil, Dl.aSet, Dl.aLend, Dl.eCall, Dl.callM, Dl.alsOf, Dl.svsOf, Dl.svOf, Dl.backs, Dl.backSv, Dl.denOf, Dl.finC, Dl.outs, Dl.retRV, Dl.SV.arg, Dl.SV.lent, Dl.gNameM, Dl.gNilM, Dl.gConsM, Dl.gTupM, Dl.gSubM, Dl.isLst, Dl.sPar, Dl.sFor, Dl.forM, Dl.iSeqM, Dl.D.items, Dl.eCallF, Dl.callF, Dl.eMake, Dl.makeM, Dl.eFld, Dl.opFld, Dl.sPutF, Dl.opAdd, Dl.opSub, Dl.opMul, Dl.opFDiv, Dl.opMod, Dl.opPow, Dl.opNeg, Dl.opLt, Dl.opLe, Dl.opGt, Dl.opGe, Dl.opIs2, Dl.opIsNot2, Dl.opIsN, Dl.opNotN, Dl.D.isNon, Dl.opIx, Dl.opLen, Dl.opAbs, Dl.opMax2, Dl.opMin2, Dl.opInt1, Dl.opStrI, Dl.opList, Dl.opTuple, Dl.eIsi, Dl.isaD, Dl.D.bt, Dl.subB, Dl.sTry, Dl.tryH, Dl.endH, Dl.noExc, Dl.clearS, Dl.SV.isExc, Dl.eXf, Dl.eIsX, Dl.sRaise, Dl.hitL, L2.atI, L2.ixN, Dl.LIM]
theorem asr_rat (t b : Int) : den_as_ratio [.imm (rat t b)] = .ok (.imm (rat t b)) [.imm (rat t b)] := by
  simp [den_as_ratio, b_as_ratio, rat, kn, Dl.sSeq, Dl.sIf, Dl.sRet, Dl.sRetN, Dl.sDrop, Dl.putM, Dl.sAsg, Dl.sAsgG, Dl.sNx, Dl.sBk, Dl.sCt, Dl.bindM, Dl.retM, Dl.liftM, Dl.settle, Dl.eVar, Dl.eC, Dl.eB, Dl.eNot, Dl.eAnd, Dl.eOr, Dl.eV, Dl.eIf, Dl.eAndV, Dl.eOrV, Dl.eOp2, Dl.eOp1, Dl.eOpn, Dl.op2M, Dl.op1M, Dl.opnM, Dl.eOp2R, Dl.peek, Dl.peeks, Dl.pNil, Dl.pCons, Dl.dNil, Dl.dCons, Dl.eTup, Dl.eLst, Dl.aNil, Dl.aSet, Dl.aLend, Dl.eCall, Dl.callM, Dl.alsOf, Dl.svsOf, Dl.svOf, Dl.backs, Dl.backSv, Dl.denOf, Dl.finC, Dl.outs, Dl.retRV, Dl.SV.arg, Dl.SV.lent, Dl.gNameM, Dl.gNilM, Dl.gConsM, Dl.gTupM, Dl.gSubM, Dl.isLst, Dl.sPar, Dl.sFor, Dl.forM, Dl.iSeqM, Dl.D.items, Dl.eCallF, Dl.callF, Dl.eMake, Dl.makeM, Dl.eFld, Dl.opFld, Dl.sPutF, Dl.opAdd, Dl.opSub, Dl.opMul, Dl.opFDiv, Dl.opMod, Dl.opPow, Dl.opNeg, Dl.opLt, Dl.opLe, Dl.opGt, Dl.opGe, Dl.opIs2, Dl.opIsNot2, Dl.opIsN, Dl.opNotN, Dl.D.isNon, Dl.opIx, Dl.opLen, Dl.opAbs, Dl.opMax2, Dl.opMin2, Dl.opInt1, Dl.opStrI, Dl.opList, Dl.opTuple, Dl.eIsi, Dl.isaD, Dl.D.bt, Dl.subB, Dl.sTry, Dl.tryH, Dl.endH, Dl.noExc, Dl.clearS, Dl.SV.isExc, Dl.eXf, Dl.eIsX, Dl.sRaise, Dl.hitL, L2.atI, L2.ixN, Dl.LIM]
section
variable (t b : Int)
theorem less_odd : ∀ d ∈ O, den_Ratio_less [.imm (rat t b), .imm d] = .err ⟨1, [d]⟩ [.imm (rat t b), .imm d] := fun d hd => by
  have e := isn_odd d hd
  have h : b_Ratio_less [.imm (rat t b), .imm d, .none] = .err ⟨1, [d]⟩ [.imm (rat t b), .imm d, .none] := by
    unfold b_Ratio_less
    refine seq_err (if_t (env1 := [.imm (rat t b), .imm d, .none]) ?_ ?_)
    · simp [e, Dl.sSeq, Dl.sIf, Dl.sRet, Dl.sRetN, Dl.sDrop, Dl.putM, Dl.sAsg, Dl.sAsgG, Dl.sNx, Dl.sBk, Dl.sCt, Dl.bindM, Dl.retM, Dl.liftM, Dl.settle, Dl.eVar, Dl.eC, Dl.eB, Dl.eNot, Dl.eAnd, Dl.eOr, Dl.eV, Dl.eIf, Dl.eAndV, Dl.eOrV, Dl.eOp2, Dl.eOp1, Dl.eOpn, Dl.op2M, Dl.op1M, Dl.opnM, Dl.eOp2R, Dl.peek, Dl.peeks, Dl.pNil, Dl.pCons, Dl.dNil, Dl.dCons, Dl.eTup, Dl.eLst, Dl.aNil, Dl.aSet, Dl.aLend, Dl.eCall, Dl.callM, Dl.alsOf, Dl.svsOf, Dl.svOf, Dl.backs, Dl.backSv, Dl.denOf, Dl.finC, Dl.outs, Dl.retRV, Dl.SV.arg, Dl.SV.lent, Dl.gNameM, Dl.gNilM, Dl.gConsM, Dl.gTupM, Dl.gSubM, Dl.isLst, Dl.sPar, Dl.sFor, Dl.forM, Dl.iSeqM, Dl.D.items, Dl.eCallF, Dl.callF, Dl.eMake, Dl.makeM, Dl.eFld, Dl.opFld, Dl.sPutF, Dl.opAdd, Dl.opSub, Dl.opMul, Dl.opFDiv, Dl.opMod, Dl.opPow, Dl.opNeg, Dl.opLt, Dl.opLe, Dl.opGt, Dl.opGe, Dl.opIs2, Dl.opIsNot2, Dl.opIsN, Dl.opNotN, Dl.D.isNon, Dl.opIx, Dl.opLen, Dl.opAbs, Dl.opMax2, Dl.opMin2, Dl.opInt1, Dl.opStrI, Dl.opList, Dl.opTuple, Dl.eIsi, Dl.isaD, Dl.D.bt, Dl.subB, Dl.sTry, Dl.tryH, Dl.endH, Dl.noExc, Dl.clearS, Dl.SV.isExc, Dl.eXf, Dl.eIsX, Dl.sRaise, Dl.hitL, L2.atI, L2.ixN, Dl.LIM]
    · simp [Dl.sSeq, Dl.sIf, Dl.sRet, Dl.sRetN, Dl.sDrop, Dl.putM, Dl.sAsg, Dl.sAsgG, Dl.sNx, Dl.sBk, Dl.sCt, Dl.bindM, Dl.retM, Dl.liftM, Dl.settle, Dl.eVar, Dl.eC, Dl.eB, Dl.eNot, Dl.eAnd, Dl.eOr, Dl.eV, Dl.eIf, Dl.eAndV, Dl.eOrV, Dl.eOp2, Dl.eOp1, Dl.eOpn, Dl.op2M, Dl.op1M, Dl.opnM, Dl.eOp2R, Dl.peek, Dl.peeks, Dl.pNil, Dl.pCons, Dl.dNil, Dl.dCons, Dl.eTup, Dl.eLst, Dl.aNil, Dl.aSet, Dl.aLend, Dl.eCall, Dl.callM, Dl.alsOf, Dl.svsOf, Dl.svOf, Dl.backs, Dl.backSv, Dl.denOf, Dl.finC, Dl.outs, Dl.retRV, Dl.SV.arg, Dl.SV.lent, Dl.gNameM, Dl.gNilM, Dl.gConsM, Dl.gTupM, Dl.gSubM, Dl.isLst, Dl.sPar, Dl.sFor, Dl.forM, Dl.iSeqM, Dl.D.items, Dl.eCallF, Dl.callF, Dl.eMake, Dl.makeM, Dl.eFld, Dl.opFld, Dl.sPutF, Dl.opAdd, Dl.opSub, Dl.opMul, Dl.opFDiv, Dl.opMod, Dl.opPow, Dl.opNeg, Dl.opLt, Dl.opLe, Dl.opGt, Dl.opGe, Dl.opIs2, Dl.opIsNot2, Dl.opIsN, Dl.opNotN, Dl.D.isNon, Dl.opIx, Dl.opLen, Dl.opAbs, Dl.opMax2, Dl.opMin2, Dl.opInt1, Dl.opStrI, Dl.opList, Dl.opTuple, Dl.eIsi, Dl.isaD, Dl.D.bt, Dl.subB, Dl.sTry, Dl.tryH, Dl.endH, Dl.noExc, Dl.clearS, Dl.SV.isExc, Dl.eXf, Dl.eIsX, Dl.sRaise, Dl.hitL, L2.atI, L2.ixN, Dl.LIM]
  exact den_errE rfl rfl h rfl
theorem less_int (n : Int) (ht : t.natAbs < 2 ^ 240) (hb : b.natAbs < 2 ^ 240) (hn : n.natAbs < 2 ^ 240) : den_Ratio_less [.imm (rat t b), .imm (.int n)] = .ok (.imm (.bl (decide (t < n * b)))) [.imm (rat t b), .imm (.int n)] := by
  have m1 : opMul (.int t) (.int 1) = some (.imm (.int t)) := by rw [mulOk (lt_mono ht (by decide)) (by decide), Int.mul_one]
  have m2 : opMul (.int n) (.int b) = some (.imm (.int (n * b))) := mulOk (lt_mono hn (by decide)) (lt_mono hb (by decide))
  have h : b_Ratio_less [.imm (rat t b), .imm (.int n), .none] = .ok (.ret (.imm (.bl (decide (t < n * b))))) [.imm (rat t b), .imm (.int n), .imm (rat n 1)] := by
    unfold b_Ratio_less
    refine seq_nx (if_pass (env1 := ?_) ?_) ?_
    rotate_left
    · simp [isn_int, Dl.sSeq, Dl.sIf, Dl.sRet, Dl.sRetN, Dl.sDrop, Dl.putM, Dl.sAsg, Dl.sAsgG, Dl.sNx, Dl.sBk, Dl.sCt, Dl.bindM, Dl.retM, Dl.liftM, Dl.settle, Dl.eVar, Dl.eC, Dl.eB, Dl.eNot, Dl.eAnd, Dl.eOr, Dl.eV, Dl.eIf, Dl.eAndV, Dl.eOrV, Dl.eOp2, Dl.eOp1, Dl.eOpn, Dl.op2M, Dl.op1M, Dl.opnM, Dl.eOp2R, Dl.peek, Dl.peeks, Dl.pNil, Dl.pCons, Dl.dNil, Dl.dCons, Dl.eTup, Dl.eLst, Dl.aNil, Dl.aSet, Dl.aLend, Dl.eCall, Dl.callM, Dl.alsOf, Dl.svsOf, Dl.svOf, Dl.backs, Dl.backSv, Dl.denOf, Dl.finC, Dl.outs, Dl.retRV, Dl.SV.arg, Dl.SV.lent, Dl.gNameM, Dl.gNilM, Dl.gConsM, Dl.gTupM, Dl.gSubM, Dl.isLst, Dl.sPar, Dl.sFor, Dl.forM, Dl.iSeqM, Dl.D.items, Dl.eCallF, Dl.callF, Dl.eMake, Dl.makeM, Dl.eFld, Dl.opFld, Dl.sPutF, Dl.opAdd, Dl.opSub, Dl.opMul, Dl.opFDiv, Dl.opMod, Dl.opPow, Dl.opNeg, Dl.opLt, Dl.opLe, Dl.opGt, Dl.opGe, Dl.opIs2, Dl.opIsNot2, Dl.opIsN, Dl.opNotN, Dl.D.isNon, Dl.opIx, Dl.opLen, Dl.opAbs, Dl.opMax2, Dl.opMin2, Dl.opInt1, Dl.opStrI, Dl.opList, Dl.opTuple, Dl.eIsi, Dl.isaD, Dl.D.bt, Dl.subB, Dl.sTry, Dl.tryH, Dl.endH, Dl.noExc, Dl.clearS, Dl.SV.isExc, Dl.eXf, Dl.eIsX, Dl.sRaise, Dl.hitL, L2.atI, L2.ixN, Dl.LIM]; exact rfl
    refine seq_nx (env1 := ?_) ?_ ?_
    rotate_left
    · simp [asr_int, Dl.sSeq, Dl.sIf, Dl.sRet, Dl.sRetN, Dl.sDrop, Dl.putM, Dl.sAsg, Dl.sAsgG, Dl.sNx, Dl.sBk, Dl.sCt, Dl.bindM, Dl.retM, Dl.liftM, Dl.settle, Dl.eVar, Dl.eC, Dl.eB, Dl.eNot, Dl.eAnd, Dl.eOr, Dl.eV, Dl.eIf, Dl.eAndV, Dl.eOrV, Dl.eOp2, Dl.eOp1, Dl.eOpn, Dl.op2M, Dl.op1M, Dl.opnM, Dl.eOp2R, Dl.peek, Dl.peeks, Dl.pNil, Dl.pCons, Dl.dNil, Dl.dCons, Dl.eTup, Dl.eLst, Dl.aNil, Dl.aSet, Dl.aLend, Dl.eCall, Dl.callM, Dl.alsOf, Dl.svsOf, Dl.svOf, Dl.backs, Dl.backSv, Dl.denOf, Dl.finC, Dl.outs, Dl.retRV, Dl.SV.arg, Dl.SV.lent, Dl.gNameM, Dl.gNilM, Dl.gConsM, Dl.gTupM, Dl.gSubM, Dl.isLst, Dl.sPar, Dl.sFor, Dl.forM, Dl.iSeqM, Dl.D.items, Dl.eCallF, Dl.callF, Dl.eMake, Dl.makeM, Dl.eFld, Dl.opFld, Dl.sPutF, Dl.opAdd, Dl.opSub, Dl.opMul, Dl.opFDiv, Dl.opMod, Dl.opPow, Dl.opNeg, Dl.opLt, Dl.opLe, Dl.opGt, Dl.opGe, Dl.opIs2, Dl.opIsNot2, Dl.opIsN, Dl.opNotN, Dl.D.isNon, Dl.opIx, Dl.opLen, Dl.opAbs, Dl.opMax2, Dl.opMin2, Dl.opInt1, Dl.opStrI, Dl.opList, Dl.opTuple, Dl.eIsi, Dl.isaD, Dl.D.bt, Dl.subB, Dl.sTry, Dl.tryH, Dl.endH, Dl.noExc, Dl.clearS, Dl.SV.isExc, Dl.eXf, Dl.eIsX, Dl.sRaise, Dl.hitL, L2.atI, L2.ixN, Dl.LIM]; exact rfl
    simp [rat, m1, m2, Dl.sSeq, Dl.sIf, Dl.sRet, Dl.sRetN, Dl.sDrop, Dl.putM, Dl.sAsg, Dl.sAsgG, Dl.sNx, Dl.sBk, Dl.sCt, Dl.bindM, Dl.retM, Dl.liftM, Dl.settle, Dl.eVar, Dl.eC, Dl.eB, Dl.eNot, Dl.eAnd, Dl.eOr, Dl.eV, Dl.eIf, Dl.eAndV, Dl.eOrV, Dl.eOp2, Dl.eOp1, Dl.eOpn, Dl.op2M, Dl.op1M, Dl.opnM, Dl.eOp2R, Dl.peek, Dl.peeks, Dl.pNil, Dl.pCons, Dl.dNil, Dl.dCons, Dl.eTup, Dl.eLst, Dl.aNil, Dl.aSet, Dl.aLend, Dl.eCall, Dl.callM, Dl.alsOf, Dl.svsOf, Dl.svOf, Dl.backs, Dl.backSv, Dl.denOf, Dl.finC, Dl.outs, Dl.retRV, Dl.SV.arg, Dl.SV.lent, Dl.gNameM, Dl.gNilM, Dl.gConsM, Dl.gTupM, Dl.gSubM, Dl.isLst, Dl.sPar, Dl.sFor, Dl.forM, Dl.iSeqM, Dl.D.items, Dl.eCallF, Dl.callF, Dl.eMake, Dl.makeM, Dl.eFld, Dl.opFld, Dl.sPutF, Dl.opAdd, Dl.opSub, Dl.opFDiv, Dl.opMod, Dl.opPow, Dl.opNeg, Dl.opLt, Dl.opLe, Dl.opGt, Dl.opGe, Dl.opIs2, Dl.opIsNot2, Dl.opIsN, Dl.opNotN, Dl.D.isNon, Dl.opIx, Dl.opLen, Dl.opAbs, Dl.opMax2, Dl.opMin2, Dl.opInt1, Dl.opStrI, Dl.opList, Dl.opTuple, Dl.eIsi, Dl.isaD, Dl.D.bt, Dl.subB, Dl.sTry, Dl.tryH, Dl.endH, Dl.noExc, Dl.clearS, Dl.SV.isExc, Dl.eXf, Dl.eIsX, Dl.sRaise, Dl.hitL, L2.atI, L2.ixN, Dl.LIM]
  exact den_ret rfl rfl h rfl rfl
theorem less_rat (t2 b2 : Int) (ht : t.natAbs < 2 ^ 240) (hb : b.natAbs < 2 ^ 240) (ht2 : t2.natAbs < 2 ^ 240) (hb2 : b2.natAbs < 2 ^ 240) : den_Ratio_less [.imm (rat t b), .imm (rat t2 b2)] = .ok (.imm (.bl (decide (t * b2 < t2 * b)))) [.imm (rat t b), .imm (rat t2 b2)] := by
  have m1 : opMul (.int t) (.int b2) = some (.imm (.int (t * b2))) := mulOk (lt_mono ht (by decide)) (lt_mono hb2 (by decide))
  have m2 : opMul (.int t2) (.int b) = some (.imm (.int (t2 * b))) := mulOk (lt_mono ht2 (by decide)) (lt_mono hb (by decide))
  have h : b_Ratio_less [.imm (rat t b), .imm (rat t2 b2), .none] = .ok (.ret (.imm (.bl (decide (t * b2 < t2 * b))))) [.imm (rat t b), .imm (rat t2 b2), .imm (rat t2 b2)] := by
    unfold b_Ratio_less
    refine seq_nx (if_pass (env1 := ?_) ?_) ?_
    rotate_left
    · simp [isn_rat, Dl.sSeq, Dl.sIf, Dl.sRet, Dl.sRetN, Dl.sDrop, Dl.putM, Dl.sAsg, Dl.sAsgG, Dl.sNx, Dl.sBk, Dl.sCt, Dl.bindM, Dl.retM, Dl.liftM, Dl.settle, Dl.eVar, Dl.eC, Dl.eB, Dl.eNot, Dl.eAnd, Dl.eOr, Dl.eV, Dl.eIf, Dl.eAndV, Dl.eOrV, Dl.eOp2, Dl.eOp1, Dl.eOpn, Dl.op2M, Dl.op1M, Dl.opnM, Dl.eOp2R, Dl.peek, Dl.peeks, Dl.pNil, Dl.pCons, Dl.dNil, Dl.dCons, Dl.eTup, Dl.eLst, Dl.aNil, Dl.aSet, Dl.aLend, Dl.eCall, Dl.callM, Dl.alsOf, Dl.svsOf, Dl.svOf, Dl.backs, Dl.backSv, Dl.denOf, Dl.finC, Dl.outs, Dl.retRV, Dl.SV.arg, Dl.SV.lent, Dl.gNameM, Dl.gNilM, Dl.gConsM, Dl.gTupM, Dl.gSubM, Dl.isLst, Dl.sPar, Dl.sFor, Dl.forM, Dl.iSeqM, Dl.D.items, Dl.eCallF, Dl.callF, Dl.eMake, Dl.makeM, Dl.eFld, Dl.opFld, Dl.sPutF, Dl.opAdd, Dl.opSub, Dl.opMul, Dl.opFDiv, Dl.opMod, Dl.opPow, Dl.opNeg, Dl.opLt, Dl.opLe, Dl.opGt, Dl.opGe, Dl.opIs2, Dl.opIsNot2, Dl.opIsN, Dl.opNotN, Dl.D.isNon, Dl.opIx, Dl.opLen, Dl.opAbs, Dl.opMax2, Dl.opMin2, Dl.opInt1, Dl.opStrI, Dl.opList, Dl.opTuple, Dl.eIsi, Dl.isaD, Dl.D.bt, Dl.subB, Dl.sTry, Dl.tryH, Dl.endH, Dl.noExc, Dl.clearS, Dl.SV.isExc, Dl.eXf, Dl.eIsX, Dl.sRaise, Dl.hitL, L2.atI, L2.ixN, Dl.LIM]; exact rfl
    refine seq_nx (env1 := ?_) ?_ ?_
    rotate_left
    · simp [asr_rat, Dl.sSeq, Dl.sIf, Dl.sRet, Dl.sRetN, Dl.sDrop, Dl.putM, Dl.sAsg, Dl.sAsgG, Dl.sNx, Dl.sBk, Dl.sCt, Dl.bindM, Dl.retM, Dl.liftM, Dl.settle, Dl.eVar, Dl.eC, Dl.eB, Dl.eNot, Dl.eAnd, Dl.eOr, Dl.eV, Dl.eIf, Dl.eAndV, Dl.eOrV, Dl.eOp2, Dl.eOp1, Dl.eOpn, Dl.op2M, Dl.op1M, Dl.opnM, Dl.eOp2R, Dl.peek, Dl.peeks, Dl.pNil, Dl.pCons, Dl.dNil, Dl.dCons, Dl.eTup, Dl.eLst, Dl.aNil, Dl.aSet, Dl.aLend, Dl.eCall, Dl.callM, Dl.alsOf, Dl.svsOf, Dl.svOf, Dl.backs, Dl.backSv, Dl.denOf, Dl.finC, Dl.outs, Dl.retRV, Dl.SV.arg, Dl.SV.lent, Dl.gNameM, Dl.gNilM, Dl.gConsM, Dl.gTupM, Dl.gSubM, Dl.isLst, Dl.sPar, Dl.sFor, Dl.forM, Dl.iSeqM, Dl.D.items, Dl.eCallF, Dl.callF, Dl.eMake, Dl.makeM, Dl.eFld, Dl.opFld, Dl.sPutF, Dl.opAdd, Dl.opSub, Dl.opMul, Dl.opFDiv, Dl.opMod, Dl.opPow, Dl.opNeg, Dl.opLt, Dl.opLe, Dl.opGt, Dl.opGe, Dl.opIs2, Dl.opIsNot2, Dl.opIsN, Dl.opNotN, Dl.D.isNon, Dl.opIx, Dl.opLen, Dl.opAbs, Dl.opMax2, Dl.opMin2, Dl.opInt1, Dl.opStrI, Dl.opList, Dl.opTuple, Dl.eIsi, Dl.isaD, Dl.D.bt, Dl.subB, Dl.sTry, Dl.tryH, Dl.endH, Dl.noExc, Dl.clearS, Dl.SV.isExc, Dl.eXf, Dl.eIsX, Dl.sRaise, Dl.hitL, L2.atI, L2.ixN, Dl.LIM]; exact rfl
    simp [rat, m1, m2, Dl.sSeq, Dl.sIf, Dl.sRet, Dl.sRetN, Dl.sDrop, Dl.putM, Dl.sAsg, Dl.sAsgG, Dl.sNx, Dl.sBk, Dl.sCt, Dl.bindM, Dl.retM, Dl.liftM, Dl.settle, Dl.eVar, Dl.eC, Dl.eB, Dl.eNot, Dl.eAnd, Dl.eOr, Dl.eV, Dl.eIf, Dl.eAndV, Dl.eOrV, Dl.eOp2, Dl.eOp1, Dl.eOpn, Dl.op2M, Dl.op1M, Dl.opnM, Dl.eOp2R, Dl.peek, Dl.peeks, Dl.pNil, Dl.pCons, Dl.dNil, Dl.dCons, Dl.eTup, Dl.eLst, Dl.aNil, Dl.aSet, Dl.aLend, Dl.eCall, Dl.callM, Dl.alsOf, Dl.svsOf, Dl.svOf, Dl.backs, Dl.backSv, Dl.denOf, Dl.finC, Dl.outs, Dl.retRV, Dl.SV.arg, Dl.SV.lent, Dl.gNameM, Dl.gNilM, Dl.gConsM, Dl.gTupM, Dl.gSubM, Dl.isLst, Dl.sPar, Dl.sFor, Dl.forM, Dl.iSeqM, Dl.D.items, Dl.eCallF, Dl.callF, Dl.eMake, Dl.makeM, Dl.eFld, Dl.opFld, Dl.sPutF, Dl.opAdd, Dl.opSub, Dl.opFDiv, Dl.opMod, Dl.opPow, Dl.opNeg, Dl.opLt, Dl.opLe, Dl.opGt, Dl.opGe, Dl.opIs2, Dl.opIsNot2, Dl.opIsN, Dl.opNotN, Dl.D.isNon, Dl.opIx, Dl.opLen, Dl.opAbs, Dl.opMax2, Dl.opMin2, Dl.opInt1, Dl.opStrI, Dl.opList, Dl.opTuple, Dl.eIsi, Dl.isaD, Dl.D.bt, Dl.subB, Dl.sTry, Dl.tryH, Dl.endH, Dl.noExc, Dl.clearS, Dl.SV.isExc, Dl.eXf, Dl.eIsX, Dl.sRaise, Dl.hitL, L2.atI, L2.ixN, Dl.LIM]
  exact den_ret rfl rfl h rfl rfl
theorem over_odd : ∀ d ∈ O, den_Ratio_over [.imm (rat t b), .imm d] = .err ⟨1, [d]⟩ [.imm (rat t b), .imm d] := fun d hd => by
  have e := isn_odd d hd
  have h : b_Ratio_over [.imm (rat t b), .imm d, .none] = .err ⟨1, [d]⟩ [.imm (rat t b), .imm d, .none] := by
    unfold b_Ratio_over
    refine seq_err (if_t (env1 := [.imm (rat t b), .imm d, .none]) (eor_t ?_) ?_)
    · simp [e, Dl.sSeq, Dl.sIf, Dl.sRet, Dl.sRetN, Dl.sDrop, Dl.putM, Dl.sAsg, Dl.sAsgG, Dl.sNx, Dl.sBk, Dl.sCt, Dl.bindM, Dl.retM, Dl.liftM, Dl.settle, Dl.eVar, Dl.eC, Dl.eB, Dl.eNot, Dl.eAnd, Dl.eOr, Dl.eV, Dl.eIf, Dl.eAndV, Dl.eOrV, Dl.eOp2, Dl.eOp1, Dl.eOpn, Dl.op2M, Dl.op1M, Dl.opnM, Dl.eOp2R, Dl.peek, Dl.peeks, Dl.pNil, Dl.pCons, Dl.dNil, Dl.dCons, Dl.eTup, Dl.eLst, Dl.aNil, Dl.aSet, Dl.aLend, Dl.eCall, Dl.callM, Dl.alsOf, Dl.svsOf, Dl.svOf, Dl.backs, Dl.backSv, Dl.denOf, Dl.finC, Dl.outs, Dl.retRV, Dl.SV.arg, Dl.SV.lent, Dl.gNameM, Dl.gNilM, Dl.gConsM, Dl.gTupM, Dl.gSubM, Dl.isLst, Dl.sPar, Dl.sFor, Dl.forM, Dl.iSeqM, Dl.D.items, Dl.eCallF, Dl.callF, Dl.eMake, Dl.makeM, Dl.eFld, Dl.opFld, Dl.sPutF, Dl.opAdd, Dl.opSub, Dl.opMul, Dl.opFDiv, Dl.opMod, Dl.opPow, Dl.opNeg, Dl.opLt, Dl.opLe, Dl.opGt, Dl.opGe, Dl.opIs2, Dl.opIsNot2, Dl.opIsN, Dl.opNotN, Dl.D.isNon, Dl.opIx, Dl.opLen, Dl.opAbs, Dl.opMax2, Dl.opMin2, Dl.opInt1, Dl.opStrI, Dl.opList, Dl.opTuple, Dl.eIsi, Dl.isaD, Dl.D.bt, Dl.subB, Dl.sTry, Dl.tryH, Dl.endH, Dl.noExc, Dl.clearS, Dl.SV.isExc, Dl.eXf, Dl.eIsX, Dl.sRaise, Dl.hitL, L2.atI, L2.ixN, Dl.LIM]
    · simp [Dl.sSeq, Dl.sIf, Dl.sRet, Dl.sRetN, Dl.sDrop, Dl.putM, Dl.sAsg, Dl.sAsgG, Dl.sNx, Dl.sBk, Dl.sCt, Dl.bindM, Dl.retM, Dl.liftM, Dl.settle, Dl.eVar, Dl.eC, Dl.eB, Dl.eNot, Dl.eAnd, Dl.eOr, Dl.eV, Dl.eIf, Dl.eAndV, Dl.eOrV, Dl.eOp2, Dl.eOp1, Dl.eOpn, Dl.op2M, Dl.op1M, Dl.opnM, Dl.eOp2R, Dl.peek, Dl.peeks, Dl.pNil, Dl.pCons, Dl.dNil, Dl.dCons, Dl.eTup, Dl.eLst, Dl.aNil, Dl.aSet, Dl.aLend, Dl.eCall, Dl.callM, Dl.alsOf, Dl.svsOf, Dl.svOf, Dl.backs, Dl.backSv, Dl.denOf, Dl.finC, Dl.outs, Dl.retRV, Dl.SV.arg, Dl.SV.lent, Dl.gNameM, Dl.gNilM, Dl.gConsM, Dl.gTupM, Dl.gSubM, Dl.isLst, Dl.sPar, Dl.sFor, Dl.forM, Dl.iSeqM, Dl.D.items, Dl.eCallF, Dl.callF, Dl.eMake, Dl.makeM, Dl.eFld, Dl.opFld, Dl.sPutF, Dl.opAdd, Dl.opSub, Dl.opMul, Dl.opFDiv, Dl.opMod, Dl.opPow, Dl.opNeg, Dl.opLt, Dl.opLe, Dl.opGt, Dl.opGe, Dl.opIs2, Dl.opIsNot2, Dl.opIsN, Dl.opNotN, Dl.D.isNon, Dl.opIx, Dl.opLen, Dl.opAbs, Dl.opMax2, Dl.opMin2, Dl.opInt1, Dl.opStrI, Dl.opList, Dl.opTuple, Dl.eIsi, Dl.isaD, Dl.D.bt, Dl.subB, Dl.sTry, Dl.tryH, Dl.endH, Dl.noExc, Dl.clearS, Dl.SV.isExc, Dl.eXf, Dl.eIsX, Dl.sRaise, Dl.hitL, L2.atI, L2.ixN, Dl.LIM]
  exact den_errE rfl rfl h rfl
theorem eqW_int (i j : Int) : opEqW kn 2 den_Ratio___eq__ (.int i) (.int j) = some (.imm (.bl (decide (i = j)))) := eqA_int i j
theorem req_int (t b n : Int) : den_Ratio___eq__ [.imm (rat t b), .imm (.int n)] = .ok (.imm (.bl (decide (b = 1) && decide (t = n)))) [.imm (rat t b), .imm (.int n)] := by
  by_cases h : b = 1 <;> simp [den_Ratio___eq__, b_Ratio___eq__, rat, kn, isI_int, eqA_int, h, Dl.sSeq, Dl.sIf, Dl.sRet, Dl.sRetN, Dl.sDrop, Dl.putM, Dl.sAsg, Dl.sAsgG, Dl.sNx, Dl.sBk, Dl.sCt, Dl.bindM, Dl.retM, Dl.liftM, Dl.settle, Dl.eVar, Dl.eC, Dl.eB, Dl.eNot, Dl.eAnd, Dl.eOr, Dl.eV, Dl.eIf, Dl.eAndV, Dl.eOrV, Dl.eOp2, Dl.eOp1, Dl.eOpn, Dl.op2M, Dl.op1M, Dl.opnM, Dl.eOp2R, Dl.peek, Dl.peeks, Dl.pNil, Dl.pCons, Dl.dNil, Dl.dCons, Dl.eTup, Dl.eLst, Dl.aNil, Dl.aSet, Dl.aLend, Dl.eCall, Dl.callM, Dl.alsOf, Dl.svsOf, Dl.svOf, Dl.backs, Dl.backSv, Dl.denOf, Dl.finC, Dl.outs, Dl.retRV, Dl.SV.arg, Dl.SV.lent, Dl.gNameM, Dl.gNilM, Dl.gConsM, Dl.gTupM, Dl.gSubM, Dl.isLst, Dl.sPar, Dl.sFor, Dl.forM, Dl.iSeqM, Dl.D.items, Dl.eCallF, Dl.callF, Dl.eMake, Dl.makeM, Dl.eFld, Dl.opFld, Dl.sPutF, Dl.opAdd, Dl.opSub, Dl.opMul, Dl.opFDiv, Dl.opMod, Dl.opPow, Dl.opNeg, Dl.opLt, Dl.opLe, Dl.opGt, Dl.opGe, Dl.opIs2, Dl.opIsNot2, Dl.opIsN, Dl.opNotN, Dl.D.isNon, Dl.opIx, Dl.opLen, Dl.opAbs, Dl.opMax2, Dl.opMin2, Dl.opInt1, Dl.opStrI, Dl.opList, Dl.opTuple, Dl.eIsi, Dl.isaD, Dl.D.bt, Dl.subB, Dl.sTry, Dl.tryH, Dl.endH, Dl.noExc, Dl.clearS, Dl.SV.isExc, Dl.eXf, Dl.eIsX, Dl.sRaise, Dl.hitL, L2.atI, L2.ixN, Dl.LIM]
theorem req_rat (t b t2 b2 : Int) : den_Ratio___eq__ [.imm (rat t b), .imm (rat t2 b2)] = .ok (.imm (.bl (decide (t = t2) && decide (b = b2)))) [.imm (rat t b), .imm (rat t2 b2)] := by
  by_cases h : t = t2 <;> simp [den_Ratio___eq__, b_Ratio___eq__, rat, kn, isI_int, eqA_int, h, Dl.sSeq, Dl.sIf, Dl.sRet, Dl.sRetN, Dl.sDrop, Dl.putM, Dl.sAsg, Dl.sAsgG, Dl.sNx, Dl.sBk, Dl.sCt, Dl.bindM, Dl.retM, Dl.liftM, Dl.settle, Dl.eVar, Dl.eC, Dl.eB, Dl.eNot, Dl.eAnd, Dl.eOr, Dl.eV, Dl.eIf, Dl.eAndV, Dl.eOrV, Dl.eOp2, Dl.eOp1, Dl.eOpn, Dl.op2M, Dl.op1M, Dl.opnM, Dl.eOp2R, Dl.peek, Dl.peeks, Dl.pNil, Dl.pCons, Dl.dNil, Dl.dCons, Dl.eTup, Dl.eLst, Dl.aNil, Dl.aSet, Dl.aLend, Dl.eCall, Dl.callM, Dl.alsOf, Dl.svsOf, Dl.svOf, Dl.backs, Dl.backSv, Dl.denOf, Dl.finC, Dl.outs, Dl.retRV, Dl.SV.arg, Dl.SV.lent, Dl.gNameM, Dl.gNilM, Dl.gConsM, Dl.gTupM, Dl.gSubM, Dl.isLst, Dl.sPar, Dl.sFor, Dl.forM, Dl.iSeqM, Dl.D.items, Dl.eCallF, Dl.callF, Dl.eMake, Dl.makeM, Dl.eFld, Dl.opFld, Dl.sPutF, Dl.opAdd, Dl.opSub, Dl.opMul, Dl.opFDiv, Dl.opMod, Dl.opPow, Dl.opNeg, Dl.opLt, Dl.opLe, Dl.opGt, Dl.opGe, Dl.opIs2, Dl.opIsNot2, Dl.opIsN, Dl.opNotN, Dl.D.isNon, Dl.opIx, Dl.opLen, Dl.opAbs, Dl.opMax2, Dl.opMin2, Dl.opInt1, Dl.opStrI, Dl.opList, Dl.opTuple, Dl.eIsi, Dl.isaD, Dl.D.bt, Dl.subB, Dl.sTry, Dl.tryH, Dl.endH, Dl.noExc, Dl.clearS, Dl.SV.isExc, Dl.eXf, Dl.eIsX, Dl.sRaise, Dl.hitL, L2.atI, L2.ixN, Dl.LIM]
theorem eqW_ri (t b n : Int) : opEqW kn 2 den_Ratio___eq__ (rat t b) (.int n) = some (.imm (.bl (decide (b = 1) && decide (t = n)))) := by
  have e := req_int t b n
  unfold rat at e ⊢
  simp only [opEqW, eqW, eqO, knD]
  rw [if_pos (by simp [kn]), e]
  rfl
theorem eqW_rr (t b t2 b2 : Int) : opEqW kn 2 den_Ratio___eq__ (rat t b) (rat t2 b2) = some (.imm (.bl (decide (t = t2) && decide (b = b2)))) := by
  have e := req_rat t b t2 b2
  unfold rat at e ⊢
  simp only [opEqW, eqW, eqO, knD]
  rw [if_pos (by simp [kn]), e]
  rfl
theorem over_i0 : den_Ratio_over [.imm (rat t b), .imm (.int 0)] = .err ⟨1, [.int 0]⟩ [.imm (rat t b), .imm (.int 0)] := by
  have h : b_Ratio_over [.imm (rat t b), .imm (.int 0), .none] = .err ⟨1, [.int 0]⟩ [.imm (rat t b), .imm (.int 0), .none] := by
    unfold b_Ratio_over
    refine seq_err (if_t (env1 := [.imm (rat t b), .imm (.int 0), .none]) (eor_f (env1 := [.imm (rat t b), .imm (.int 0), .none]) ?_ ?_) ?_)
    · simp [isn_int, Dl.sSeq, Dl.sIf, Dl.sRet, Dl.sRetN, Dl.sDrop, Dl.putM, Dl.sAsg, Dl.sAsgG, Dl.sNx, Dl.sBk, Dl.sCt, Dl.bindM, Dl.retM, Dl.liftM, Dl.settle, Dl.eVar, Dl.eC, Dl.eB, Dl.eNot, Dl.eAnd, Dl.eOr, Dl.eV, Dl.eIf, Dl.eAndV, Dl.eOrV, Dl.eOp2, Dl.eOp1, Dl.eOpn, Dl.op2M, Dl.op1M, Dl.opnM, Dl.eOp2R, Dl.peek, Dl.peeks, Dl.pNil, Dl.pCons, Dl.dNil, Dl.dCons, Dl.eTup, Dl.eLst, Dl.aNil, Dl.aSet, Dl.aLend, Dl.eCall, Dl.callM, Dl.alsOf, Dl.svsOf, Dl.svOf, Dl.backs, Dl.backSv, Dl.denOf, Dl.finC, Dl.outs, Dl.retRV, Dl.SV.arg, Dl.SV.lent, Dl.gNameM, Dl.gNilM, Dl.gConsM, Dl.gTupM, Dl.gSubM, Dl.isLst, Dl.sPar, Dl.sFor, Dl.forM, Dl.iSeqM, Dl.D.items, Dl.eCallF, Dl.callF, Dl.eMake, Dl.makeM, Dl.eFld, Dl.opFld, Dl.sPutF, Dl.opAdd, Dl.opSub, Dl.opMul, Dl.opFDiv, Dl.opMod, Dl.opPow, Dl.opNeg, Dl.opLt, Dl.opLe, Dl.opGt, Dl.opGe, Dl.opIs2, Dl.opIsNot2, Dl.opIsN, Dl.opNotN, Dl.D.isNon, Dl.opIx, Dl.opLen, Dl.opAbs, Dl.opMax2, Dl.opMin2, Dl.opInt1, Dl.opStrI, Dl.opList, Dl.opTuple, Dl.eIsi, Dl.isaD, Dl.D.bt, Dl.subB, Dl.sTry, Dl.tryH, Dl.endH, Dl.noExc, Dl.clearS, Dl.SV.isExc, Dl.eXf, Dl.eIsX, Dl.sRaise, Dl.hitL, L2.atI, L2.ixN, Dl.LIM]
    · simp [eqW_int, Dl.sSeq, Dl.sIf, Dl.sRet, Dl.sRetN, Dl.sDrop, Dl.putM, Dl.sAsg, Dl.sAsgG, Dl.sNx, Dl.sBk, Dl.sCt, Dl.bindM, Dl.retM, Dl.liftM, Dl.settle, Dl.eVar, Dl.eC, Dl.eB, Dl.eNot, Dl.eAnd, Dl.eOr, Dl.eV, Dl.eIf, Dl.eAndV, Dl.eOrV, Dl.eOp2, Dl.eOp1, Dl.eOpn, Dl.op2M, Dl.op1M, Dl.opnM, Dl.eOp2R, Dl.peek, Dl.peeks, Dl.pNil, Dl.pCons, Dl.dNil, Dl.dCons, Dl.eTup, Dl.eLst, Dl.aNil, Dl.aSet, Dl.aLend, Dl.eCall, Dl.callM, Dl.alsOf, Dl.svsOf, Dl.svOf, Dl.backs, Dl.backSv, Dl.denOf, Dl.finC, Dl.outs, Dl.retRV, Dl.SV.arg, Dl.SV.lent, Dl.gNameM, Dl.gNilM, Dl.gConsM, Dl.gTupM, Dl.gSubM, Dl.isLst, Dl.sPar, Dl.sFor, Dl.forM, Dl.iSeqM, Dl.D.items, Dl.eCallF, Dl.callF, Dl.eMake, Dl.makeM, Dl.eFld, Dl.opFld, Dl.sPutF, Dl.opAdd, Dl.opSub, Dl.opMul, Dl.opFDiv, Dl.opMod, Dl.opPow, Dl.opNeg, Dl.opLt, Dl.opLe, Dl.opGt, Dl.opGe, Dl.opIs2, Dl.opIsNot2, Dl.opIsN, Dl.opNotN, Dl.D.isNon, Dl.opIx, Dl.opLen, Dl.opAbs, Dl.opMax2, Dl.opMin2, Dl.opInt1, Dl.opStrI, Dl.opList, Dl.opTuple, Dl.eIsi, Dl.isaD, Dl.D.bt, Dl.subB, Dl.sTry, Dl.tryH, Dl.endH, Dl.noExc, Dl.clearS, Dl.SV.isExc, Dl.eXf, Dl.eIsX, Dl.sRaise, Dl.hitL, L2.atI, L2.ixN, Dl.LIM]
    · simp [Dl.sSeq, Dl.sIf, Dl.sRet, Dl.sRetN, Dl.sDrop, Dl.putM, Dl.sAsg, Dl.sAsgG, Dl.sNx, Dl.sBk, Dl.sCt, Dl.bindM, Dl.retM, Dl.liftM, Dl.settle, Dl.eVar, Dl.eC, Dl.eB, Dl.eNot, Dl.eAnd, Dl.eOr, Dl.eV, Dl.eIf, Dl.eAndV, Dl.eOrV, Dl.eOp2, Dl.eOp1, Dl.eOpn, Dl.op2M, Dl.op1M, Dl.opnM, Dl.eOp2R, Dl.peek, Dl.peeks, Dl.pNil, Dl.pCons, Dl.dNil, Dl.dCons, Dl.eTup, Dl.eLst, Dl.aNil, Dl.aSet, Dl.aLend, Dl.eCall, Dl.callM, Dl.alsOf, Dl.svsOf, Dl.svOf, Dl.backs, Dl.backSv, Dl.denOf, Dl.finC, Dl.outs, Dl.retRV, Dl.SV.arg, Dl.SV.lent, Dl.gNameM, Dl.gNilM, Dl.gConsM, Dl.gTupM, Dl.gSubM, Dl.isLst, Dl.sPar, Dl.sFor, Dl.forM, Dl.iSeqM, Dl.D.items, Dl.eCallF, Dl.callF, Dl.eMake, Dl.makeM, Dl.eFld, Dl.opFld, Dl.sPutF, Dl.opAdd, Dl.opSub, Dl.opMul, Dl.opFDiv, Dl.opMod, Dl.opPow, Dl.opNeg, Dl.opLt, Dl.opLe, Dl.opGt, Dl.opGe, Dl.opIs2, Dl.opIsNot2, Dl.opIsN, Dl.opNotN, Dl.D.isNon, Dl.opIx, Dl.opLen, Dl.opAbs, Dl.opMax2, Dl.opMin2, Dl.opInt1, Dl.opStrI, Dl.opList, Dl.opTuple, Dl.eIsi, Dl.isaD, Dl.D.bt, Dl.subB, Dl.sTry, Dl.tryH, Dl.endH, Dl.noExc, Dl.clearS, Dl.SV.isExc, Dl.eXf, Dl.eIsX, Dl.sRaise, Dl.hitL, L2.atI, L2.ixN, Dl.LIM]
  exact den_errE rfl rfl h rfl
theorem over_r0 : den_Ratio_over [.imm (rat t b), .imm (rat 0 1)] = .err ⟨1, [rat 0 1]⟩ [.imm (rat t b), .imm (rat 0 1)] := by
  have h : b_Ratio_over [.imm (rat t b), .imm (rat 0 1), .none] = .err ⟨1, [rat 0 1]⟩ [.imm (rat t b), .imm (rat 0 1), .none] := by
    unfold b_Ratio_over
    refine seq_err (if_t (env1 := [.imm (rat t b), .imm (rat 0 1), .none]) (eor_f (env1 := [.imm (rat t b), .imm (rat 0 1), .none]) ?_ ?_) ?_)
    · simp [isn_rat, Dl.sSeq, Dl.sIf, Dl.sRet, Dl.sRetN, Dl.sDrop, Dl.putM, Dl.sAsg, Dl.sAsgG, Dl.sNx, Dl.sBk, Dl.sCt, Dl.bindM, Dl.retM, Dl.liftM, Dl.settle, Dl.eVar, Dl.eC, Dl.eB, Dl.eNot, Dl.eAnd, Dl.eOr, Dl.eV, Dl.eIf, Dl.eAndV, Dl.eOrV, Dl.eOp2, Dl.eOp1, Dl.eOpn, Dl.op2M, Dl.op1M, Dl.opnM, Dl.eOp2R, Dl.peek, Dl.peeks, Dl.pNil, Dl.pCons, Dl.dNil, Dl.dCons, Dl.eTup, Dl.eLst, Dl.aNil, Dl.aSet, Dl.aLend, Dl.eCall, Dl.callM, Dl.alsOf, Dl.svsOf, Dl.svOf, Dl.backs, Dl.backSv, Dl.denOf, Dl.finC, Dl.outs, Dl.retRV, Dl.SV.arg, Dl.SV.lent, Dl.gNameM, Dl.gNilM, Dl.gConsM, Dl.gTupM, Dl.gSubM, Dl.isLst, Dl.sPar, Dl.sFor, Dl.forM, Dl.iSeqM, Dl.D.items, Dl.eCallF, Dl.callF, Dl.eMake, Dl.makeM, Dl.eFld, Dl.opFld, Dl.sPutF, Dl.opAdd, Dl.opSub, Dl.opMul, Dl.opFDiv, Dl.opMod, Dl.opPow, Dl.opNeg, Dl.opLt, Dl.opLe, Dl.opGt, Dl.opGe, Dl.opIs2, Dl.opIsNot2, Dl.opIsN, Dl.opNotN, Dl.D.isNon, Dl.opIx, Dl.opLen, Dl.opAbs, Dl.opMax2, Dl.opMin2, Dl.opInt1, Dl.opStrI, Dl.opList, Dl.opTuple, Dl.eIsi, Dl.isaD, Dl.D.bt, Dl.subB, Dl.sTry, Dl.tryH, Dl.endH, Dl.noExc, Dl.clearS, Dl.SV.isExc, Dl.eXf, Dl.eIsX, Dl.sRaise, Dl.hitL, L2.atI, L2.ixN, Dl.LIM]
    · simp [eqW_ri, Dl.sSeq, Dl.sIf, Dl.sRet, Dl.sRetN, Dl.sDrop, Dl.putM, Dl.sAsg, Dl.sAsgG, Dl.sNx, Dl.sBk, Dl.sCt, Dl.bindM, Dl.retM, Dl.liftM, Dl.settle, Dl.eVar, Dl.eC, Dl.eB, Dl.eNot, Dl.eAnd, Dl.eOr, Dl.eV, Dl.eIf, Dl.eAndV, Dl.eOrV, Dl.eOp2, Dl.eOp1, Dl.eOpn, Dl.op2M, Dl.op1M, Dl.opnM, Dl.eOp2R, Dl.peek, Dl.peeks, Dl.pNil, Dl.pCons, Dl.dNil, Dl.dCons, Dl.eTup, Dl.eLst, Dl.aNil, Dl.aSet, Dl.aLend, Dl.eCall, Dl.callM, Dl.alsOf, Dl.svsOf, Dl.svOf, Dl.backs, Dl.backSv, Dl.denOf, Dl.finC, Dl.outs, Dl.retRV, Dl.SV.arg, Dl.SV.lent, Dl.gNameM, Dl.gNilM, Dl.gConsM, Dl.gTupM, Dl.gSubM, Dl.isLst, Dl.sPar, Dl.sFor, Dl.forM, Dl.iSeqM, Dl.D.items, Dl.eCallF, Dl.callF, Dl.eMake, Dl.makeM, Dl.eFld, Dl.opFld, Dl.sPutF, Dl.opAdd, Dl.opSub, Dl.opMul, Dl.opFDiv, Dl.opMod, Dl.opPow, Dl.opNeg, Dl.opLt, Dl.opLe, Dl.opGt, Dl.opGe, Dl.opIs2, Dl.opIsNot2, Dl.opIsN, Dl.opNotN, Dl.D.isNon, Dl.opIx, Dl.opLen, Dl.opAbs, Dl.opMax2, Dl.opMin2, Dl.opInt1, Dl.opStrI, Dl.opList, Dl.opTuple, Dl.eIsi, Dl.isaD, Dl.D.bt, Dl.subB, Dl.sTry, Dl.tryH, Dl.endH, Dl.noExc, Dl.clearS, Dl.SV.isExc, Dl.eXf, Dl.eIsX, Dl.sRaise, Dl.hitL, L2.atI, L2.ixN, Dl.LIM]
    · simp [Dl.sSeq, Dl.sIf, Dl.sRet, Dl.sRetN, Dl.sDrop, Dl.putM, Dl.sAsg, Dl.sAsgG, Dl.sNx, Dl.sBk, Dl.sCt, Dl.bindM, Dl.retM, Dl.liftM, Dl.settle, Dl.eVar, Dl.eC, Dl.eB, Dl.eNot, Dl.eAnd, Dl.eOr, Dl.eV, Dl.eIf, Dl.eAndV, Dl.eOrV, Dl.eOp2, Dl.eOp1, Dl.eOpn, Dl.op2M, Dl.op1M, Dl.opnM, Dl.eOp2R, Dl.peek, Dl.peeks, Dl.pNil, Dl.pCons, Dl.dNil, Dl.dCons, Dl.eTup, Dl.eLst, Dl.aNil, Dl.aSet, Dl.aLend, Dl.eCall, Dl.callM, Dl.alsOf, Dl.svsOf, Dl.svOf, Dl.backs, Dl.backSv, Dl.denOf, Dl.finC, Dl.outs, Dl.retRV, Dl.SV.arg, Dl.SV.lent, Dl.gNameM, Dl.gNilM, Dl.gConsM, Dl.gTupM, Dl.gSubM, Dl.isLst, Dl.sPar, Dl.sFor, Dl.forM, Dl.iSeqM, Dl.D.items, Dl.eCallF, Dl.callF, Dl.eMake, Dl.makeM, Dl.eFld, Dl.opFld, Dl.sPutF, Dl.opAdd, Dl.opSub, Dl.opMul, Dl.opFDiv, Dl.opMod, Dl.opPow, Dl.opNeg, Dl.opLt, Dl.opLe, Dl.opGt, Dl.opGe, Dl.opIs2, Dl.opIsNot2, Dl.opIsN, Dl.opNotN, Dl.D.isNon, Dl.opIx, Dl.opLen, Dl.opAbs, Dl.opMax2, Dl.opMin2, Dl.opInt1, Dl.opStrI, Dl.opList, Dl.opTuple, Dl.eIsi, Dl.isaD, Dl.D.bt, Dl.subB, Dl.sTry, Dl.tryH, Dl.endH, Dl.noExc, Dl.clearS, Dl.SV.isExc, Dl.eXf, Dl.eIsX, Dl.sRaise, Dl.hitL, L2.atI, L2.ixN, Dl.LIM]
  exact den_errE rfl rfl h rfl
theorem over_int (n : Int) (hn0 : n ≠ 0) (hb0 : b ≠ 0) (ht : t.natAbs < 2 ^ 240) (hb : b.natAbs < 2 ^ 240) (hn : n.natAbs < 2 ^ 240) : den_Ratio_over [.imm (rat t b), .imm (.int n)] = .ok (.imm (rat (nT t (b * n)) (nB t (b * n)))) [.imm (rat t b), .imm (.int n)] := by
  have m1 : opMul (.int t) (.int 1) = some (.imm (.int t)) := by rw [mulOk (lt_mono ht (by decide)) (by decide), Int.mul_one]
  have m2 : opMul (.int b) (.int n) = some (.imm (.int (b * n))) := mulOk (lt_mono hb (by decide)) (lt_mono hn (by decide))
  have h : b_Ratio_over [.imm (rat t b), .imm (.int n), .none] = .ok (.ret (.imm (rat (nT t (b * n)) (nB t (b * n))))) [.imm (rat t b), .imm (.int n), .imm (rat n 1)] := by
    unfold b_Ratio_over
    refine seq_nx (env1 := [.imm (rat t b), .imm (.int n), .none]) (if_pass (eor_f (env1 := [.imm (rat t b), .imm (.int n), .none]) ?_ ?_)) ?_
    · simp [isn_int, Dl.sSeq, Dl.sIf, Dl.sRet, Dl.sRetN, Dl.sDrop, Dl.putM, Dl.sAsg, Dl.sAsgG, Dl.sNx, Dl.sBk, Dl.sCt, Dl.bindM, Dl.retM, Dl.liftM, Dl.settle, Dl.eVar, Dl.eC, Dl.eB, Dl.eNot, Dl.eAnd, Dl.eOr, Dl.eV, Dl.eIf, Dl.eAndV, Dl.eOrV, Dl.eOp2, Dl.eOp1, Dl.eOpn, Dl.op2M, Dl.op1M, Dl.opnM, Dl.eOp2R, Dl.peek, Dl.peeks, Dl.pNil, Dl.pCons, Dl.dNil, Dl.dCons, Dl.eTup, Dl.eLst, Dl.aNil, Dl.aSet, Dl.aLend, Dl.eCall, Dl.callM, Dl.alsOf, Dl.svsOf, Dl.svOf, Dl.backs, Dl.backSv, Dl.denOf, Dl.finC, Dl.outs, Dl.retRV, Dl.SV.arg, Dl.SV.lent, Dl.gNameM, Dl.gNilM, Dl.gConsM, Dl.gTupM, Dl.gSubM, Dl.isLst, Dl.sPar, Dl.sFor, Dl.forM, Dl.iSeqM, Dl.D.items, Dl.eCallF, Dl.callF, Dl.eMake, Dl.makeM, Dl.eFld, Dl.opFld, Dl.sPutF, Dl.opAdd, Dl.opSub, Dl.opMul, Dl.opFDiv, Dl.opMod, Dl.opPow, Dl.opNeg, Dl.opLt, Dl.opLe, Dl.opGt, Dl.opGe, Dl.opIs2, Dl.opIsNot2, Dl.opIsN, Dl.opNotN, Dl.D.isNon, Dl.opIx, Dl.opLen, Dl.opAbs, Dl.opMax2, Dl.opMin2, Dl.opInt1, Dl.opStrI, Dl.opList, Dl.opTuple, Dl.eIsi, Dl.isaD, Dl.D.bt, Dl.subB, Dl.sTry, Dl.tryH, Dl.endH, Dl.noExc, Dl.clearS, Dl.SV.isExc, Dl.eXf, Dl.eIsX, Dl.sRaise, Dl.hitL, L2.atI, L2.ixN, Dl.LIM]
    · simp [eqW_int, hn0, Dl.sSeq, Dl.sIf, Dl.sRet, Dl.sRetN, Dl.sDrop, Dl.putM, Dl.sAsg, Dl.sAsgG, Dl.sNx, Dl.sBk, Dl.sCt, Dl.bindM, Dl.retM, Dl.liftM, Dl.settle, Dl.eVar, Dl.eC, Dl.eB, Dl.eNot, Dl.eAnd, Dl.eOr, Dl.eV, Dl.eIf, Dl.eAndV, Dl.eOrV, Dl.eOp2, Dl.eOp1, Dl.eOpn, Dl.op2M, Dl.op1M, Dl.opnM, Dl.eOp2R, Dl.peek, Dl.peeks, Dl.pNil, Dl.pCons, Dl.dNil, Dl.dCons, Dl.eTup, Dl.eLst, Dl.aNil, Dl.aSet, Dl.aLend, Dl.eCall, Dl.callM, Dl.alsOf, Dl.svsOf, Dl.svOf, Dl.backs, Dl.backSv, Dl.denOf, Dl.finC, Dl.outs, Dl.retRV, Dl.SV.arg, Dl.SV.lent, Dl.gNameM, Dl.gNilM, Dl.gConsM, Dl.gTupM, Dl.gSubM, Dl.isLst, Dl.sPar, Dl.sFor, Dl.forM, Dl.iSeqM, Dl.D.items, Dl.eCallF, Dl.callF, Dl.eMake, Dl.makeM, Dl.eFld, Dl.opFld, Dl.sPutF, Dl.opAdd, Dl.opSub, Dl.opMul, Dl.opFDiv, Dl.opMod, Dl.opPow, Dl.opNeg, Dl.opLt, Dl.opLe, Dl.opGt, Dl.opGe, Dl.opIs2, Dl.opIsNot2, Dl.opIsN, Dl.opNotN, Dl.D.isNon, Dl.opIx, Dl.opLen, Dl.opAbs, Dl.opMax2, Dl.opMin2, Dl.opInt1, Dl.opStrI, Dl.opList, Dl.opTuple, Dl.eIsi, Dl.isaD, Dl.D.bt, Dl.subB, Dl.sTry, Dl.tryH, Dl.endH, Dl.noExc, Dl.clearS, Dl.SV.isExc, Dl.eXf, Dl.eIsX, Dl.sRaise, Dl.hitL, L2.atI, L2.ixN, Dl.LIM]
    refine seq_nx (env1 := ?_) ?_ ?_
    rotate_left
    · simp [asr_int, Dl.sSeq, Dl.sIf, Dl.sRet, Dl.sRetN, Dl.sDrop, Dl.putM, Dl.sAsg, Dl.sAsgG, Dl.sNx, Dl.sBk, Dl.sCt, Dl.bindM, Dl.retM, Dl.liftM, Dl.settle, Dl.eVar, Dl.eC, Dl.eB, Dl.eNot, Dl.eAnd, Dl.eOr, Dl.eV, Dl.eIf, Dl.eAndV, Dl.eOrV, Dl.eOp2, Dl.eOp1, Dl.eOpn, Dl.op2M, Dl.op1M, Dl.opnM, Dl.eOp2R, Dl.peek, Dl.peeks, Dl.pNil, Dl.pCons, Dl.dNil, Dl.dCons, Dl.eTup, Dl.eLst, Dl.aNil, Dl.aSet, Dl.aLend, Dl.eCall, Dl.callM, Dl.alsOf, Dl.svsOf, Dl.svOf, Dl.backs, Dl.backSv, Dl.denOf, Dl.finC, Dl.outs, Dl.retRV, Dl.SV.arg, Dl.SV.lent, Dl.gNameM, Dl.gNilM, Dl.gConsM, Dl.gTupM, Dl.gSubM, Dl.isLst, Dl.sPar, Dl.sFor, Dl.forM, Dl.iSeqM, Dl.D.items, Dl.eCallF, Dl.callF, Dl.eMake, Dl.makeM, Dl.eFld, Dl.opFld, Dl.sPutF, Dl.opAdd, Dl.opSub, Dl.opMul, Dl.opFDiv, Dl.opMod, Dl.opPow, Dl.opNeg, Dl.opLt, Dl.opLe, Dl.opGt, Dl.opGe, Dl.opIs2, Dl.opIsNot2, Dl.opIsN, Dl.opNotN, Dl.D.isNon, Dl.opIx, Dl.opLen, Dl.opAbs, Dl.opMax2, Dl.opMin2, Dl.opInt1, Dl.opStrI, Dl.opList, Dl.opTuple, Dl.eIsi, Dl.isaD, Dl.D.bt, Dl.subB, Dl.sTry, Dl.tryH, Dl.endH, Dl.noExc, Dl.clearS, Dl.SV.isExc, Dl.eXf, Dl.eIsX, Dl.sRaise, Dl.hitL, L2.atI, L2.ixN, Dl.LIM]; exact rfl
    unfold sRet Dl.bindM
    rw [mkR (a := t) (b := b * n) (Int.mul_ne_zero hb0 hn0) (lt_mono (mul_lt hb hn) (by decide)) (env1 := [.imm (rat t b), .imm (.int n), .imm (rat n 1)]) (by simp [rat, m1, m2, Dl.sSeq, Dl.sIf, Dl.sRet, Dl.sRetN, Dl.sDrop, Dl.putM, Dl.sAsg, Dl.sAsgG, Dl.sNx, Dl.sBk, Dl.sCt, Dl.bindM, Dl.retM, Dl.liftM, Dl.settle, Dl.eVar, Dl.eC, Dl.eB, Dl.eNot, Dl.eAnd, Dl.eOr, Dl.eV, Dl.eIf, Dl.eAndV, Dl.eOrV, Dl.eOp2, Dl.eOp1, Dl.eOpn, Dl.op2M, Dl.op1M, Dl.opnM, Dl.eOp2R, Dl.peek, Dl.peeks, Dl.pNil, Dl.pCons, Dl.dNil, Dl.dCons, Dl.eTup, Dl.eLst, Dl.aNil, Dl.aSet, Dl.aLend, Dl.eCall, Dl.callM, Dl.alsOf, Dl.svsOf, Dl.svOf, Dl.backs, Dl.backSv, Dl.denOf, Dl.finC, Dl.outs, Dl.retRV, Dl.SV.arg, Dl.SV.lent, Dl.gNameM, Dl.gNilM, Dl.gConsM, Dl.gTupM, Dl.gSubM, Dl.isLst, Dl.sPar, Dl.sFor, Dl.forM, Dl.iSeqM, Dl.D.items, Dl.eCallF, Dl.callF, Dl.eMake, Dl.makeM, Dl.eFld, Dl.opFld, Dl.sPutF, Dl.opAdd, Dl.opSub, Dl.opFDiv, Dl.opMod, Dl.opPow, Dl.opNeg, Dl.opLt, Dl.opLe, Dl.opGt, Dl.opGe, Dl.opIs2, Dl.opIsNot2, Dl.opIsN, Dl.opNotN, Dl.D.isNon, Dl.opIx, Dl.opLen, Dl.opAbs, Dl.opMax2, Dl.opMin2, Dl.opInt1, Dl.opStrI, Dl.opList, Dl.opTuple, Dl.eIsi, Dl.isaD, Dl.D.bt, Dl.subB, Dl.sTry, Dl.tryH, Dl.endH, Dl.noExc, Dl.clearS, Dl.SV.isExc, Dl.eXf, Dl.eIsX, Dl.sRaise, Dl.hitL, L2.atI, L2.ixN, Dl.LIM])]
    rfl
  exact den_ret rfl rfl h rfl rfl
theorem over_rat (t2 b2 : Int) (hn0 : t2 ≠ 0) (hb0 : b ≠ 0) (ht : t.natAbs < 2 ^ 240) (hb : b.natAbs < 2 ^ 240) (ht2 : t2.natAbs < 2 ^ 240) (hb2 : b2.natAbs < 2 ^ 240) : den_Ratio_over [.imm (rat t b), .imm (rat t2 b2)] = .ok (.imm (rat (nT (t * b2) (b * t2)) (nB (t * b2) (b * t2)))) [.imm (rat t b), .imm (rat t2 b2)] := by
  have m1 : opMul (.int t) (.int b2) = some (.imm (.int (t * b2))) := mulOk (lt_mono ht (by decide)) (lt_mono hb2 (by decide))
  have m2 : opMul (.int b) (.int t2) = some (.imm (.int (b * t2))) := mulOk (lt_mono hb (by decide)) (lt_mono ht2 (by decide))
  have h : b_Ratio_over [.imm (rat t b), .imm (rat t2 b2), .none] = .ok (.ret (.imm (rat (nT (t * b2) (b * t2)) (nB (t * b2) (b * t2))))) [.imm (rat t b), .imm (rat t2 b2), .imm (rat t2 b2)] := by
    unfold b_Ratio_over
    refine seq_nx (env1 := [.imm (rat t b), .imm (rat t2 b2), .none]) (if_pass (eor_f (env1 := [.imm (rat t b), .imm (rat t2 b2), .none]) ?_ ?_)) ?_
    · simp [isn_rat, Dl.sSeq, Dl.sIf, Dl.sRet, Dl.sRetN, Dl.sDrop, Dl.putM, Dl.sAsg, Dl.sAsgG, Dl.sNx, Dl.sBk, Dl.sCt, Dl.bindM, Dl.retM, Dl.liftM, Dl.settle, Dl.eVar, Dl.eC, Dl.eB, Dl.eNot, Dl.eAnd, Dl.eOr, Dl.eV, Dl.eIf, Dl.eAndV, Dl.eOrV, Dl.eOp2, Dl.eOp1, Dl.eOpn, Dl.op2M, Dl.op1M, Dl.opnM, Dl.eOp2R, Dl.peek, Dl.peeks, Dl.pNil, Dl.pCons, Dl.dNil, Dl.dCons, Dl.eTup, Dl.eLst, Dl.aNil, Dl.aSet, Dl.aLend, Dl.eCall, Dl.callM, Dl.alsOf, Dl.svsOf, Dl.svOf, Dl.backs, Dl.backSv, Dl.denOf, Dl.finC, Dl.outs, Dl.retRV, Dl.SV.arg, Dl.SV.lent, Dl.gNameM, Dl.gNilM, Dl.gConsM, Dl.gTupM, Dl.gSubM, Dl.isLst, Dl.sPar, Dl.sFor, Dl.forM, Dl.iSeqM, Dl.D.items, Dl.eCallF, Dl.callF, Dl.eMake, Dl.makeM, Dl.eFld, Dl.opFld, Dl.sPutF, Dl.opAdd, Dl.opSub, Dl.opMul, Dl.opFDiv, Dl.opMod, Dl.opPow, Dl.opNeg, Dl.opLt, Dl.opLe, Dl.opGt, Dl.opGe, Dl.opIs2, Dl.opIsNot2, Dl.opIsN, Dl.opNotN, Dl.D.isNon, Dl.opIx, Dl.opLen, Dl.opAbs, Dl.opMax2, Dl.opMin2, Dl.opInt1, Dl.opStrI, Dl.opList, Dl.opTuple, Dl.eIsi, Dl.isaD, Dl.D.bt, Dl.subB, Dl.sTry, Dl.tryH, Dl.endH, Dl.noExc, Dl.clearS, Dl.SV.isExc, Dl.eXf, Dl.eIsX, Dl.sRaise, Dl.hitL, L2.atI, L2.ixN, Dl.LIM]
    · simp [eqW_ri, hn0, Dl.sSeq, Dl.sIf, Dl.sRet, Dl.sRetN, Dl.sDrop, Dl.putM, Dl.sAsg, Dl.sAsgG, Dl.sNx, Dl.sBk, Dl.sCt, Dl.bindM, Dl.retM, Dl.liftM, Dl.settle, Dl.eVar, Dl.eC, Dl.eB, Dl.eNot, Dl.eAnd, Dl.eOr, Dl.eV, Dl.eIf, Dl.eAndV, Dl.eOrV, Dl.eOp2, Dl.eOp1, Dl.eOpn, Dl.op2M, Dl.op1M, Dl.opnM, Dl.eOp2R, Dl.peek, Dl.peeks, Dl.pNil, Dl.pCons, Dl.dNil, Dl.dCons, Dl.eTup, Dl.eLst, Dl.aNil, Dl.aSet, Dl.aLend, Dl.eCall, Dl.callM, Dl.alsOf, Dl.svsOf, Dl.svOf, Dl.backs, Dl.backSv, Dl.denOf, Dl.finC, Dl.outs, Dl.retRV, Dl.SV.arg, Dl.SV.lent, Dl.gNameM, Dl.gNilM, Dl.gConsM, Dl.gTupM, Dl.gSubM, Dl.isLst, Dl.sPar, Dl.sFor, Dl.forM, Dl.iSeqM, Dl.D.items, Dl.eCallF, Dl.callF, Dl.eMake, Dl.makeM, Dl.eFld, Dl.opFld, Dl.sPutF, Dl.opAdd, Dl.opSub, Dl.opMul, Dl.opFDiv, Dl.opMod, Dl.opPow, Dl.opNeg, Dl.opLt, Dl.opLe, Dl.opGt, Dl.opGe, Dl.opIs2, Dl.opIsNot2, Dl.opIsN, Dl.opNotN, Dl.D.isNon, Dl.opIx, Dl.opLen, Dl.opAbs, Dl.opMax2, Dl.opMin2, Dl.opInt1, Dl.opStrI, Dl.opList, Dl.opTuple, Dl.eIsi, Dl.isaD, Dl.D.bt, Dl.subB, Dl.sTry, Dl.tryH, Dl.endH, Dl.noExc, Dl.clearS, Dl.SV.isExc, Dl.eXf, Dl.eIsX, Dl.sRaise, Dl.hitL, L2.atI, L2.ixN, Dl.LIM]
    refine seq_nx (env1 := ?_) ?_ ?_
    rotate_left
    · simp [asr_rat, Dl.sSeq, Dl.sIf, Dl.sRet, Dl.sRetN, Dl.sDrop, Dl.putM, Dl.sAsg, Dl.sAsgG, Dl.sNx, Dl.sBk, Dl.sCt, Dl.bindM, Dl.retM, Dl.liftM, Dl.settle, Dl.eVar, Dl.eC, Dl.eB, Dl.eNot, Dl.eAnd, Dl.eOr, Dl.eV, Dl.eIf, Dl.eAndV, Dl.eOrV, Dl.eOp2, Dl.eOp1, Dl.eOpn, Dl.op2M, Dl.op1M, Dl.opnM, Dl.eOp2R, Dl.peek, Dl.peeks, Dl.pNil, Dl.pCons, Dl.dNil, Dl.dCons, Dl.eTup, Dl.eLst, Dl.aNil, Dl.aSet, Dl.aLend, Dl.eCall, Dl.callM, Dl.alsOf, Dl.svsOf, Dl.svOf, Dl.backs, Dl.backSv, Dl.denOf, Dl.finC, Dl.outs, Dl.retRV, Dl.SV.arg, Dl.SV.lent, Dl.gNameM, Dl.gNilM, Dl.gConsM, Dl.gTupM, Dl.gSubM, Dl.isLst, Dl.sPar, Dl.sFor, Dl.forM, Dl.iSeqM, Dl.D.items, Dl.eCallF, Dl.callF, Dl.eMake, Dl.makeM, Dl.eFld, Dl.opFld, Dl.sPutF, Dl.opAdd, Dl.opSub, Dl.opMul, Dl.opFDiv, Dl.opMod, Dl.opPow, Dl.opNeg, Dl.opLt, Dl.opLe, Dl.opGt, Dl.opGe, Dl.opIs2, Dl.opIsNot2, Dl.opIsN, Dl.opNotN, Dl.D.isNon, Dl.opIx, Dl.opLen, Dl.opAbs, Dl.opMax2, Dl.opMin2, Dl.opInt1, Dl.opStrI, Dl.opList, Dl.opTuple, Dl.eIsi, Dl.isaD, Dl.D.bt, Dl.subB, Dl.sTry, Dl.tryH, Dl.endH, Dl.noExc, Dl.clearS, Dl.SV.isExc, Dl.eXf, Dl.eIsX, Dl.sRaise, Dl.hitL, L2.atI, L2.ixN, Dl.LIM]; exact rfl
    unfold sRet Dl.bindM
    rw [mkR (a := t * b2) (b := b * t2) (Int.mul_ne_zero hb0 hn0) (lt_mono (mul_lt hb ht2) (by decide)) (env1 := [.imm (rat t b), .imm (rat t2 b2), .imm (rat t2 b2)]) (by simp [rat, m1, m2, Dl.sSeq, Dl.sIf, Dl.sRet, Dl.sRetN, Dl.sDrop, Dl.putM, Dl.sAsg, Dl.sAsgG, Dl.sNx, Dl.sBk, Dl.sCt, Dl.bindM, Dl.retM, Dl.liftM, Dl.settle, Dl.eVar, Dl.eC, Dl.eB, Dl.eNot, Dl.eAnd, Dl.eOr, Dl.eV, Dl.eIf, Dl.eAndV, Dl.eOrV, Dl.eOp2, Dl.eOp1, Dl.eOpn, Dl.op2M, Dl.op1M, Dl.opnM, Dl.eOp2R, Dl.peek, Dl.peeks, Dl.pNil, Dl.pCons, Dl.dNil, Dl.dCons, Dl.eTup, Dl.eLst, Dl.aNil, Dl.aSet, Dl.aLend, Dl.eCall, Dl.callM, Dl.alsOf, Dl.svsOf, Dl.svOf, Dl.backs, Dl.backSv, Dl.denOf, Dl.finC, Dl.outs, Dl.retRV, Dl.SV.arg, Dl.SV.lent, Dl.gNameM, Dl.gNilM, Dl.gConsM, Dl.gTupM, Dl.gSubM, Dl.isLst, Dl.sPar, Dl.sFor, Dl.forM, Dl.iSeqM, Dl.D.items, Dl.eCallF, Dl.callF, Dl.eMake, Dl.makeM, Dl.eFld, Dl.opFld, Dl.sPutF, Dl.opAdd, Dl.opSub, Dl.opFDiv, Dl.opMod, Dl.opPow, Dl.opNeg, Dl.opLt, Dl.opLe, Dl.opGt, Dl.opGe, Dl.opIs2, Dl.opIsNot2, Dl.opIsN, Dl.opNotN, Dl.D.isNon, Dl.opIx, Dl.opLen, Dl.opAbs, Dl.opMax2, Dl.opMin2, Dl.opInt1, Dl.opStrI, Dl.opList, Dl.opTuple, Dl.eIsi, Dl.isaD, Dl.D.bt, Dl.subB, Dl.sTry, Dl.tryH, Dl.endH, Dl.noExc, Dl.clearS, Dl.SV.isExc, Dl.eXf, Dl.eIsX, Dl.sRaise, Dl.hitL, L2.atI, L2.ixN, Dl.LIM])]
    rfl
  exact den_ret rfl rfl h rfl rfl
end
end L01
namespace L01
open PySem PySem.Spec PyProof.Rows L2 Dl
/-! over and less, asked -/
section
variable (t b : Int)
theorem asked_err {den : List SV → Cal} {x : D} (h : den [.imm (rat t b), .imm x] = .err ⟨1, [x]⟩ [.imm (rat t b), .imm x]) : sAsg 2 (eMeth 2 2 den (eVar 0) (aLend 1 aNil)) [.imm (rat t b), .imm x, .none, .none] = .err ⟨1, [x]⟩ [.imm (rat t b), .imm x, .none, .none] := by
  unfold rat at *
  simp [Dl.eMeth, h, Dl.sSeq, Dl.sIf, Dl.sRet, Dl.sRetN, Dl.sDrop, Dl.putM, Dl.sAsg, Dl.sAsgG, Dl.sNx, Dl.sBk, Dl.sCt, Dl.bindM, Dl.retM, Dl.liftM, Dl.settle, Dl.eVar, Dl.eC, Dl.eB, Dl.eNot, Dl.eAnd, Dl.eOr, Dl.eV, Dl.eIf, Dl.eAndV, Dl.eOrV, Dl.eOp2, Dl.eOp1, Dl.eOpn, Dl.op2M, Dl.op1M, Dl.opnM, Dl.eOp2R, Dl.peek, Dl.peeks, Dl.pNil, Dl.pCons, Dl.dNil, Dl.dCons, Dl.eTup, Dl.eLst, Dl.aNil, Dl.aSet, Dl.aLend, Dl.eCall, Dl.callM, Dl.alsOf, Dl.svsOf, Dl.svOf, Dl.backs, Dl.backSv, Dl.denOf, Dl.finC, Dl.outs, Dl.retRV, Dl.SV.arg, Dl.SV.lent, Dl.gNameM, Dl.gNilM, Dl.gConsM, Dl.gTupM, Dl.gSubM, Dl.isLst, Dl.sPar, Dl.sFor, Dl.forM, Dl.iSeqM, Dl.D.items, Dl.eCallF, Dl.callF, Dl.eMake, Dl.makeM, Dl.eFld, Dl.opFld, Dl.sPutF, Dl.opAdd, Dl.opSub, Dl.opMul, Dl.opFDiv, Dl.opMod, Dl.opPow, Dl.opNeg, Dl.opLt, Dl.opLe, Dl.opGt, Dl.opGe, Dl.opIs2, Dl.opIsNot2, Dl.opIsN, Dl.opNotN, Dl.D.isNon, Dl.opIx, Dl.opLen, Dl.opAbs, Dl.opMax2, Dl.opMin2, Dl.opInt1, Dl.opStrI, Dl.opList, Dl.opTuple, Dl.eIsi, Dl.isaD, Dl.D.bt, Dl.subB, Dl.sTry, Dl.tryH, Dl.endH, Dl.noExc, Dl.clearS, Dl.SV.isExc, Dl.eXf, Dl.eIsX, Dl.sRaise, Dl.hitL, L2.atI, L2.ixN, Dl.LIM]
theorem asked_ok {den : List SV → Cal} {x v : D} (h : den [.imm (rat t b), .imm x] = .ok (.imm v) [.imm (rat t b), .imm x]) : sAsg 2 (eMeth 2 2 den (eVar 0) (aLend 1 aNil)) [.imm (rat t b), .imm x, .none, .none] = .ok .nx [.imm (rat t b), .imm x, .imm v, .none] := by
  unfold rat at *
  simp [Dl.eMeth, h, Dl.sSeq, Dl.sIf, Dl.sRet, Dl.sRetN, Dl.sDrop, Dl.putM, Dl.sAsg, Dl.sAsgG, Dl.sNx, Dl.sBk, Dl.sCt, Dl.bindM, Dl.retM, Dl.liftM, Dl.settle, Dl.eVar, Dl.eC, Dl.eB, Dl.eNot, Dl.eAnd, Dl.eOr, Dl.eV, Dl.eIf, Dl.eAndV, Dl.eOrV, Dl.eOp2, Dl.eOp1, Dl.eOpn, Dl.op2M, Dl.op1M, Dl.opnM, Dl.eOp2R, Dl.peek, Dl.peeks, Dl.pNil, Dl.pCons, Dl.dNil, Dl.dCons, Dl.eTup, Dl.eLst, Dl.aNil, Dl.aSet, Dl.aLend, Dl.eCall, Dl.callM, Dl.alsOf, Dl.svsOf, Dl.svOf, Dl.backs, Dl.backSv, Dl.denOf, Dl.finC, Dl.outs, Dl.retRV, Dl.SV.arg, Dl.SV.lent, Dl.gNameM, Dl.gNilM, Dl.gConsM, Dl.gTupM, Dl.gSubM, Dl.isLst, Dl.sPar, Dl.sFor, Dl.forM, Dl.iSeqM, Dl.D.items, Dl.eCallF, Dl.callF, Dl.eMake, Dl.makeM, Dl.eFld, Dl.opFld, Dl.sPutF, Dl.opAdd, Dl.opSub, Dl.opMul, Dl.opFDiv, Dl.opMod, Dl.opPow, Dl.opNeg, Dl.opLt, Dl.opLe, Dl.opGt, Dl.opGe, Dl.opIs2, Dl.opIsNot2, Dl.opIsN, Dl.opNotN, Dl.D.isNon, Dl.opIx, Dl.opLen, Dl.opAbs, Dl.opMax2, Dl.opMin2, Dl.opInt1, Dl.opStrI, Dl.opList, Dl.opTuple, Dl.eIsi, Dl.isaD, Dl.D.bt, Dl.subB, Dl.sTry, Dl.tryH, Dl.endH, Dl.noExc, Dl.clearS, Dl.SV.isExc, Dl.eXf, Dl.eIsX, Dl.sRaise, Dl.hitL, L2.atI, L2.ixN, Dl.LIM]
theorem tail_err {f : M Out} {x : D} (h : f [.imm (rat t b), .imm x, .none, .none] = .err ⟨1, [x]⟩ [.imm (rat t b), .imm x, .none, .none]) :
    sSeq (sTry f [⟨hitL [(1, true)], some 3, (sRet (eTup (dCons (eC (.str "refused")) (dCons (eXf 3 1 0) dNil))))⟩]) (sRet (eTup (dCons (eC (.str "told")) (dCons (eVar 2) dNil)))) [.imm (rat t b), .imm x, .none, .none] = .ok (.ret (.imm (.tup [.str "refused", x]))) [.imm (rat t b), .imm x, .none, .none] := by
  refine seq_ret (try_hit (env2 := [.imm (rat t b), .imm x, .none, .exc ⟨1, [x]⟩]) h rfl rfl ?_ (fun j z => nomatch z) rfl)
  simp [Dl.sSeq, Dl.sIf, Dl.sRet, Dl.sRetN, Dl.sDrop, Dl.putM, Dl.sAsg, Dl.sAsgG, Dl.sNx, Dl.sBk, Dl.sCt, Dl.bindM, Dl.retM, Dl.liftM, Dl.settle, Dl.eVar, Dl.eC, Dl.eB, Dl.eNot, Dl.eAnd, Dl.eOr, Dl.eV, Dl.eIf, Dl.eAndV, Dl.eOrV, Dl.eOp2, Dl.eOp1, Dl.eOpn, Dl.op2M, Dl.op1M, Dl.opnM, Dl.eOp2R, Dl.peek, Dl.peeks, Dl.pNil, Dl.pCons, Dl.dNil, Dl.dCons, Dl.eTup, Dl.eLst, Dl.aNil, Dl.aSet, Dl.aLend, Dl.eCall, Dl.callM, Dl.alsOf, Dl.svsOf, Dl.svOf, Dl.backs, Dl.backSv, Dl.denOf, Dl.finC, Dl.outs, Dl.retRV, Dl.SV.arg, Dl.SV.lent, Dl.gNameM, Dl.gNilM, Dl.gConsM, Dl.gTupM, Dl.gSubM, Dl.isLst, Dl.sPar, Dl.sFor, Dl.forM, Dl.iSeqM, Dl.D.items, Dl.eCallF, Dl.callF, Dl.eMake, Dl.makeM, Dl.eFld, Dl.opFld, Dl.sPutF, Dl.opAdd, Dl.opSub, Dl.opMul, Dl.opFDiv, Dl.opMod, Dl.opPow, Dl.opNeg, Dl.opLt, Dl.opLe, Dl.opGt, Dl.opGe, Dl.opIs2, Dl.opIsNot2, Dl.opIsN, Dl.opNotN, Dl.D.isNon, Dl.opIx, Dl.opLen, Dl.opAbs, Dl.opMax2, Dl.opMin2, Dl.opInt1, Dl.opStrI, Dl.opList, Dl.opTuple, Dl.eIsi, Dl.isaD, Dl.D.bt, Dl.subB, Dl.sTry, Dl.tryH, Dl.endH, Dl.noExc, Dl.clearS, Dl.SV.isExc, Dl.eXf, Dl.eIsX, Dl.sRaise, Dl.hitL, L2.atI, L2.ixN, Dl.LIM]
theorem tail_ok {f : M Out} {x v : D} {cl : List Clause} (h : f [.imm (rat t b), .imm x, .none, .none] = .ok .nx [.imm (rat t b), .imm x, .imm v, .none]) :
    sSeq (sTry f cl) (sRet (eTup (dCons (eC (.str "told")) (dCons (eVar 2) dNil)))) [.imm (rat t b), .imm x, .none, .none] = .ok (.ret (.imm (.tup [.str "told", v]))) [.imm (rat t b), .imm x, .imm v, .none] := by
  refine seq_nx (try_ok h) ?_
  simp [Dl.sSeq, Dl.sIf, Dl.sRet, Dl.sRetN, Dl.sDrop, Dl.putM, Dl.sAsg, Dl.sAsgG, Dl.sNx, Dl.sBk, Dl.sCt, Dl.bindM, Dl.retM, Dl.liftM, Dl.settle, Dl.eVar, Dl.eC, Dl.eB, Dl.eNot, Dl.eAnd, Dl.eOr, Dl.eV, Dl.eIf, Dl.eAndV, Dl.eOrV, Dl.eOp2, Dl.eOp1, Dl.eOpn, Dl.op2M, Dl.op1M, Dl.opnM, Dl.eOp2R, Dl.peek, Dl.peeks, Dl.pNil, Dl.pCons, Dl.dNil, Dl.dCons, Dl.eTup, Dl.eLst, Dl.aNil, Dl.aSet, Dl.aLend, Dl.eCall, Dl.callM, Dl.alsOf, Dl.svsOf, Dl.svOf, Dl.backs, Dl.backSv, Dl.denOf, Dl.finC, Dl.outs, Dl.retRV, Dl.SV.arg, Dl.SV.lent, Dl.gNameM, Dl.gNilM, Dl.gConsM, Dl.gTupM, Dl.gSubM, Dl.isLst, Dl.sPar, Dl.sFor, Dl.forM, Dl.iSeqM, Dl.D.items, Dl.eCallF, Dl.callF, Dl.eMake, Dl.makeM, Dl.eFld, Dl.opFld, Dl.sPutF, Dl.opAdd, Dl.opSub, Dl.opMul, Dl.opFDiv, Dl.opMod, Dl.opPow, Dl.opNeg, Dl.opLt, Dl.opLe, Dl.opGt, Dl.opGe, Dl.opIs2, Dl.opIsNot2, Dl.opIsN, Dl.opNotN, Dl.D.isNon, Dl.opIx, Dl.opLen, Dl.opAbs, Dl.opMax2, Dl.opMin2, Dl.opInt1, Dl.opStrI, Dl.opList, Dl.opTuple, Dl.eIsi, Dl.isaD, Dl.D.bt, Dl.subB, Dl.sTry, Dl.tryH, Dl.endH, Dl.noExc, Dl.clearS, Dl.SV.isExc, Dl.eXf, Dl.eIsX, Dl.sRaise, Dl.hitL, L2.atI, L2.ixN, Dl.LIM]
theorem law_over_err {x : D} (h : den_Ratio_over [.imm (rat t b), .imm x] = .err ⟨1, [x]⟩ [.imm (rat t b), .imm x]) : den__law_over [.imm (rat t b), .imm x] = .ok (.imm (.tup [.str "refused", x])) [.imm (rat t b), .imm x] :=
  den_ret (f := b__law_over) rfl rfl (tail_err t b (asked_err t b h)) rfl rfl
theorem law_over_ok {x v : D} (h : den_Ratio_over [.imm (rat t b), .imm x] = .ok (.imm v) [.imm (rat t b), .imm x]) : den__law_over [.imm (rat t b), .imm x] = .ok (.imm (.tup [.str "told", v])) [.imm (rat t b), .imm x] :=
  den_ret (f := b__law_over) rfl rfl (tail_ok t b (asked_ok t b h)) rfl rfl
theorem law_less_err {x : D} (h : den_Ratio_less [.imm (rat t b), .imm x] = .err ⟨1, [x]⟩ [.imm (rat t b), .imm x]) : den__law_less [.imm (rat t b), .imm x] = .ok (.imm (.tup [.str "refused", x])) [.imm (rat t b), .imm x] :=
  den_ret (f := b__law_less) rfl rfl (tail_err t b (asked_err t b h)) rfl rfl
theorem law_less_ok {x v : D} (h : den_Ratio_less [.imm (rat t b), .imm x] = .ok (.imm v) [.imm (rat t b), .imm x]) : den__law_less [.imm (rat t b), .imm x] = .ok (.imm (.tup [.str "told", v])) [.imm (rat t b), .imm x] :=
  den_ret (f := b__law_less) rfl rfl (tail_ok t b (asked_ok t b h)) rfl rfl
end
/-! is it that fraction -/
theorem eqA2 (i j k l : Int) : opEqA (.tup [.int i, .int j]) (.tup [.int k, .int l]) = some (.imm (.bl (decide (i = k) && decide (j = l)))) := by
  simp [opEqA, eqA, eqvD, D.toP, D.toPs, SeqAt.shaped, PyData.eqv, PyData.eqvAll, PyData.depth, PyData.depthAll]
  refine ⟨⟨rfl, rfl⟩, ?_⟩
  by_cases h1 : i = k <;> by_cases h2 : j = l <;> simp [h1, h2]
theorem law_is (t b : Int) : den__law_is [.imm (rat t b), .imm (.tup [.int t, .int b])] = .ok (.imm (.bl true)) [.imm (rat t b), .imm (.tup [.int t, .int b])] := by
  have h : b__law_is [.imm (rat t b), .imm (.tup [.int t, .int b])] = .ok (.ret (.imm (.bl true))) [.imm (rat t b), .imm (.tup [.int t, .int b])] := by
    unfold b__law_is rat
    refine seq_nx (if_pass (env1 := ?_) ?_) ?_
    rotate_left
    · simp [isI_int', kn, Dl.sSeq, Dl.sIf, Dl.sRet, Dl.sRetN, Dl.sDrop, Dl.putM, Dl.sAsg, Dl.sAsgG, Dl.sNx, Dl.sBk, Dl.sCt, Dl.bindM, Dl.retM, Dl.liftM, Dl.settle, Dl.eVar, Dl.eC, Dl.eB, Dl.eNot, Dl.eAnd, Dl.eOr, Dl.eV, Dl.eIf, Dl.eAndV, Dl.eOrV, Dl.eOp2, Dl.eOp1, Dl.eOpn, Dl.op2M, Dl.op1M, Dl.opnM, Dl.eOp2R, Dl.peek, Dl.peeks, Dl.pNil, Dl.pCons, Dl.dNil, Dl.dCons, Dl.eTup, Dl.eLst, Dl.aNil, Dl.aSet, Dl.aLend, Dl.eCall, Dl.callM, Dl.alsOf, Dl.svsOf, Dl.svOf, Dl.backs, Dl.backSv, Dl.denOf, Dl.finC, Dl.outs, Dl.retRV, Dl.SV.arg, Dl.SV.lent, Dl.gNameM, Dl.gNilM, Dl.gConsM, Dl.gTupM, Dl.gSubM, Dl.isLst, Dl.sPar, Dl.sFor, Dl.forM, Dl.iSeqM, Dl.D.items, Dl.eCallF, Dl.callF, Dl.eMake, Dl.makeM, Dl.eFld, Dl.opFld, Dl.sPutF, Dl.opAdd, Dl.opSub, Dl.opMul, Dl.opFDiv, Dl.opMod, Dl.opPow, Dl.opNeg, Dl.opLt, Dl.opLe, Dl.opGt, Dl.opGe, Dl.opIs2, Dl.opIsNot2, Dl.opIsN, Dl.opNotN, Dl.D.isNon, Dl.opIx, Dl.opLen, Dl.opAbs, Dl.opMax2, Dl.opMin2, Dl.opInt1, Dl.opStrI, Dl.opList, Dl.opTuple, Dl.eIsi, Dl.isaD, Dl.D.bt, Dl.subB, Dl.sTry, Dl.tryH, Dl.endH, Dl.noExc, Dl.clearS, Dl.SV.isExc, Dl.eXf, Dl.eIsX, Dl.sRaise, Dl.hitL, L2.atI, L2.ixN, Dl.LIM]; exact rfl
    simp [eqA2, Dl.sSeq, Dl.sIf, Dl.sRet, Dl.sRetN, Dl.sDrop, Dl.putM, Dl.sAsg, Dl.sAsgG, Dl.sNx, Dl.sBk, Dl.sCt, Dl.bindM, Dl.retM, Dl.liftM, Dl.settle, Dl.eVar, Dl.eC, Dl.eB, Dl.eNot, Dl.eAnd, Dl.eOr, Dl.eV, Dl.eIf, Dl.eAndV, Dl.eOrV, Dl.eOp2, Dl.eOp1, Dl.eOpn, Dl.op2M, Dl.op1M, Dl.opnM, Dl.eOp2R, Dl.peek, Dl.peeks, Dl.pNil, Dl.pCons, Dl.dNil, Dl.dCons, Dl.eTup, Dl.eLst, Dl.aNil, Dl.aSet, Dl.aLend, Dl.eCall, Dl.callM, Dl.alsOf, Dl.svsOf, Dl.svOf, Dl.backs, Dl.backSv, Dl.denOf, Dl.finC, Dl.outs, Dl.retRV, Dl.SV.arg, Dl.SV.lent, Dl.gNameM, Dl.gNilM, Dl.gConsM, Dl.gTupM, Dl.gSubM, Dl.isLst, Dl.sPar, Dl.sFor, Dl.forM, Dl.iSeqM, Dl.D.items, Dl.eCallF, Dl.callF, Dl.eMake, Dl.makeM, Dl.eFld, Dl.opFld, Dl.sPutF, Dl.opAdd, Dl.opSub, Dl.opMul, Dl.opFDiv, Dl.opMod, Dl.opPow, Dl.opNeg, Dl.opLt, Dl.opLe, Dl.opGt, Dl.opGe, Dl.opIs2, Dl.opIsNot2, Dl.opIsN, Dl.opNotN, Dl.D.isNon, Dl.opIx, Dl.opLen, Dl.opAbs, Dl.opMax2, Dl.opMin2, Dl.opInt1, Dl.opStrI, Dl.opList, Dl.opTuple, Dl.eIsi, Dl.isaD, Dl.D.bt, Dl.subB, Dl.sTry, Dl.tryH, Dl.endH, Dl.noExc, Dl.clearS, Dl.SV.isExc, Dl.eXf, Dl.eIsX, Dl.sRaise, Dl.hitL, L2.atI, L2.ixN, Dl.LIM]
  exact den_ret rfl rfl h rfl rfl
/-! quotients -/
theorem str_shaped (x : PySem.Str) (h : PyData.canLay0 (.str x) = true) : SeqAt.shaped (.str x) = true := by
  simp [SeqAt.shaped, h, PyData.depth]
theorem eqA_str (x : PySem.Str) (h : PyData.canLay0 (.str x) = true) : opEqA (.str x) (.str x) = some (.imm (.bl true)) := by
  have := str_shaped x h
  simp [opEqA, eqA, eqvD, D.toP, this, PyData.eqv]
theorem ref : opEqA (.str "refused") (.str "refused") = some (.imm (.bl true)) := eqA_str _ (by decide +kernel)
theorem tld : opEqA (.str "told") (.str "told") = some (.imm (.bl true)) := eqA_str _ (by decide +kernel)
/-- a number and its pair -/
inductive Num : D → Int → Int → Prop
  | int {n : Int} (h : n.natAbs < 2 ^ 240) : Num (.int n) n 1
  | rat {t b : Int} (l : Low t b) (ht : t.natAbs < 2 ^ 240) (hb : b.natAbs < 2 ^ 240) : Num (rat t b) t b
theorem Num.low {x : D} {t b : Int} (h : Num x t b) : Low t b := by
  cases h with
  | int h => exact low_one _
  | rat l ht hb => exact l
theorem Num.bt {x : D} {t b : Int} (h : Num x t b) : t.natAbs < 2 ^ 240 := by
  cases h with
  | int h => exact h
  | rat l ht hb => exact ht
theorem Num.bb {x : D} {t b : Int} (h : Num x t b) : b.natAbs < 2 ^ 240 := by
  cases h with
  | int h => decide
  | rat l ht hb => exact hb
theorem over_num {t b : Int} {x : D} {d e : Int} (hb0 : b ≠ 0) (ht : t.natAbs < 2 ^ 240) (hb : b.natAbs < 2 ^ 240) (h : Num x d e) (hd : d ≠ 0) : den_Ratio_over [.imm (rat t b), .imm x] = .ok (.imm (rat (nT (t * e) (b * d)) (nB (t * e) (b * d)))) [.imm (rat t b), .imm x] := by
  cases h with
  | int h => rw [Int.mul_one]; exact over_int t b d hd hb0 ht hb h
  | rat l h1 h2 => exact over_rat t b d e hd hb0 ht hb h1 h2
theorem over_zero (t b : Int) {x : D} {e : Int} (h : Num x 0 e) : den_Ratio_over [.imm (rat t b), .imm x] = .err ⟨1, [x]⟩ [.imm (rat t b), .imm x] := by
  cases h with
  | int h => exact over_i0 t b
  | rat l h1 h2 =>
    have h1 := l.gcd
    have h2 := l.pos
    simp at h1
    have : e = 1 := by omega
    subst this
    exact over_r0 t b
theorem less_num {t b : Int} {x : D} {d e : Int} (ht : t.natAbs < 2 ^ 240) (hb : b.natAbs < 2 ^ 240) (h : Num x d e) : den_Ratio_less [.imm (rat t b), .imm x] = .ok (.imm (.bl (decide (t * e < d * b)))) [.imm (rat t b), .imm x] := by
  cases h with
  | int h => rw [Int.mul_one]; exact less_int t b d ht hb h
  | rat l h1 h2 => exact less_rat t b d e ht hb h1 h2
theorem eqW_num {x : D} {d e : Int} (h : Num x d e) : opEqW kn 2 den_Ratio___eq__ x x = some (.imm (.bl true)) := by
  cases h with
  | int h => rw [eqW_int]; simp
  | rat l h1 h2 => rw [eqW_rr]; simp
theorem quotient {t b : Int} {x : D} {d e : Int} (l : Low t b) (ht : t.natAbs < 2 ^ 240) (hb : b.natAbs < 2 ^ 240) (h : Num x d e) : den__law_quotient [.imm (rat t b), .imm (.tup [.int t, .int b]), .imm x, .imm (.tup [.int d, .int e])] = .ok (.imm (.bl true)) [.imm (rat t b), .imm (.tup [.int t, .int b]), .imm x, .imm (.tup [.int d, .int e])] := by
  have hb0 : b ≠ 0 := by have := l.pos; omega
  have q := eqW_num h
  by_cases hd : d = 0
  · subst hd
    have o := law_over_err t b (over_zero t b h)
    have h2 : b__law_quotient [.imm (rat t b), .imm (.tup [.int t, .int b]), .imm x, .imm (.tup [.int 0, .int e]), .none] = .ok (.ret (.imm (.bl true))) [.imm (rat t b), .imm (.tup [.int t, .int b]), .imm x, .imm (.tup [.int 0, .int e]), .imm (.tup [.str "refused", x])] := by
      unfold b__law_quotient
      refine seq_nx (env1 := ?_) ?_ ?_
      rotate_left
      · simp [o, Dl.sSeq, Dl.sIf, Dl.sRet, Dl.sRetN, Dl.sDrop, Dl.putM, Dl.sAsg, Dl.sAsgG, Dl.sNx, Dl.sBk, Dl.sCt, Dl.bindM, Dl.retM, Dl.liftM, Dl.settle, Dl.eVar, Dl.eC, Dl.eB, Dl.eNot, Dl.eAnd, Dl.eOr, Dl.eV, Dl.eIf, Dl.eAndV, Dl.eOrV, Dl.eOp2, Dl.eOp1, Dl.eOpn, Dl.op2M, Dl.op1M, Dl.opnM, Dl.eOp2R, Dl.peek, Dl.peeks, Dl.pNil, Dl.pCons, Dl.dNil, Dl.dCons, Dl.eTup, Dl.eLst, Dl.aNil, Dl.aSet, Dl.aLend, Dl.eCall, Dl.callM, Dl.alsOf, Dl.svsOf, Dl.svOf, Dl.backs, Dl.backSv, Dl.denOf, Dl.finC, Dl.outs, Dl.retRV, Dl.SV.arg, Dl.SV.lent, Dl.gNameM, Dl.gNilM, Dl.gConsM, Dl.gTupM, Dl.gSubM, Dl.isLst, Dl.sPar, Dl.sFor, Dl.forM, Dl.iSeqM, Dl.D.items, Dl.eCallF, Dl.callF, Dl.eMake, Dl.makeM, Dl.eFld, Dl.opFld, Dl.sPutF, Dl.opAdd, Dl.opSub, Dl.opMul, Dl.opFDiv, Dl.opMod, Dl.opPow, Dl.opNeg, Dl.opLt, Dl.opLe, Dl.opGt, Dl.opGe, Dl.opIs2, Dl.opIsNot2, Dl.opIsN, Dl.opNotN, Dl.D.isNon, Dl.opIx, Dl.opLen, Dl.opAbs, Dl.opMax2, Dl.opMin2, Dl.opInt1, Dl.opStrI, Dl.opList, Dl.opTuple, Dl.eIsi, Dl.isaD, Dl.D.bt, Dl.subB, Dl.sTry, Dl.tryH, Dl.endH, Dl.noExc, Dl.clearS, Dl.SV.isExc, Dl.eXf, Dl.eIsX, Dl.sRaise, Dl.hitL, L2.atI, L2.ixN, Dl.LIM]; exact rfl
      refine seq_ret (if_t (env1 := ?_) ?_ ?_)
      rotate_left
      · simp [eqA_int, Dl.sSeq, Dl.sIf, Dl.sRet, Dl.sRetN, Dl.sDrop, Dl.putM, Dl.sAsg, Dl.sAsgG, Dl.sNx, Dl.sBk, Dl.sCt, Dl.bindM, Dl.retM, Dl.liftM, Dl.settle, Dl.eVar, Dl.eC, Dl.eB, Dl.eNot, Dl.eAnd, Dl.eOr, Dl.eV, Dl.eIf, Dl.eAndV, Dl.eOrV, Dl.eOp2, Dl.eOp1, Dl.eOpn, Dl.op2M, Dl.op1M, Dl.opnM, Dl.eOp2R, Dl.peek, Dl.peeks, Dl.pNil, Dl.pCons, Dl.dNil, Dl.dCons, Dl.eTup, Dl.eLst, Dl.aNil, Dl.aSet, Dl.aLend, Dl.eCall, Dl.callM, Dl.alsOf, Dl.svsOf, Dl.svOf, Dl.backs, Dl.backSv, Dl.denOf, Dl.finC, Dl.outs, Dl.retRV, Dl.SV.arg, Dl.SV.lent, Dl.gNameM, Dl.gNilM, Dl.gConsM, Dl.gTupM, Dl.gSubM, Dl.isLst, Dl.sPar, Dl.sFor, Dl.forM, Dl.iSeqM, Dl.D.items, Dl.eCallF, Dl.callF, Dl.eMake, Dl.makeM, Dl.eFld, Dl.opFld, Dl.sPutF, Dl.opAdd, Dl.opSub, Dl.opMul, Dl.opFDiv, Dl.opMod, Dl.opPow, Dl.opNeg, Dl.opLt, Dl.opLe, Dl.opGt, Dl.opGe, Dl.opIs2, Dl.opIsNot2, Dl.opIsN, Dl.opNotN, Dl.D.isNon, Dl.opIx, Dl.opLen, Dl.opAbs, Dl.opMax2, Dl.opMin2, Dl.opInt1, Dl.opStrI, Dl.opList, Dl.opTuple, Dl.eIsi, Dl.isaD, Dl.D.bt, Dl.subB, Dl.sTry, Dl.tryH, Dl.endH, Dl.noExc, Dl.clearS, Dl.SV.isExc, Dl.eXf, Dl.eIsX, Dl.sRaise, Dl.hitL, L2.atI, L2.ixN, Dl.LIM]; exact rfl
      simp [ref, q, Dl.sSeq, Dl.sIf, Dl.sRet, Dl.sRetN, Dl.sDrop, Dl.putM, Dl.sAsg, Dl.sAsgG, Dl.sNx, Dl.sBk, Dl.sCt, Dl.bindM, Dl.retM, Dl.liftM, Dl.settle, Dl.eVar, Dl.eC, Dl.eB, Dl.eNot, Dl.eAnd, Dl.eOr, Dl.eV, Dl.eIf, Dl.eAndV, Dl.eOrV, Dl.eOp2, Dl.eOp1, Dl.eOpn, Dl.op2M, Dl.op1M, Dl.opnM, Dl.eOp2R, Dl.peek, Dl.peeks, Dl.pNil, Dl.pCons, Dl.dNil, Dl.dCons, Dl.eTup, Dl.eLst, Dl.aNil, Dl.aSet, Dl.aLend, Dl.eCall, Dl.callM, Dl.alsOf, Dl.svsOf, Dl.svOf, Dl.backs, Dl.backSv, Dl.denOf, Dl.finC, Dl.outs, Dl.retRV, Dl.SV.arg, Dl.SV.lent, Dl.gNameM, Dl.gNilM, Dl.gConsM, Dl.gTupM, Dl.gSubM, Dl.isLst, Dl.sPar, Dl.sFor, Dl.forM, Dl.iSeqM, Dl.D.items, Dl.eCallF, Dl.callF, Dl.eMake, Dl.makeM, Dl.eFld, Dl.opFld, Dl.sPutF, Dl.opAdd, Dl.opSub, Dl.opMul, Dl.opFDiv, Dl.opMod, Dl.opPow, Dl.opNeg, Dl.opLt, Dl.opLe, Dl.opGt, Dl.opGe, Dl.opIs2, Dl.opIsNot2, Dl.opIsN, Dl.opNotN, Dl.D.isNon, Dl.opIx, Dl.opLen, Dl.opAbs, Dl.opMax2, Dl.opMin2, Dl.opInt1, Dl.opStrI, Dl.opList, Dl.opTuple, Dl.eIsi, Dl.isaD, Dl.D.bt, Dl.subB, Dl.sTry, Dl.tryH, Dl.endH, Dl.noExc, Dl.clearS, Dl.SV.isExc, Dl.eXf, Dl.eIsX, Dl.sRaise, Dl.hitL, L2.atI, L2.ixN, Dl.LIM]
    exact den_ret rfl rfl h2 rfl rfl
  · have o := law_over_ok t b (over_num hb0 ht hb h hd)
    have m1 : opMul (.int t) (.int e) = some (.imm (.int (t * e))) := mulOk (lt_mono ht (by decide)) (lt_mono h.bb (by decide))
    have m2 : opMul (.int b) (.int d) = some (.imm (.int (b * d))) := mulOk (lt_mono hb (by decide)) (lt_mono h.bt (by decide))
    have w := lowest (t * e) (b * d) (Int.mul_ne_zero hb0 hd) (lt_mono (mul_lt hb h.bt) (by decide))
    have i := law_is (nT (t * e) (b * d)) (nB (t * e) (b * d))
    generalize nT (t * e) (b * d) = p at *
    generalize nB (t * e) (b * d) = r at *
    have h2 : b__law_quotient [.imm (rat t b), .imm (.tup [.int t, .int b]), .imm x, .imm (.tup [.int d, .int e]), .none] = .ok (.ret (.imm (.bl true))) [.imm (rat t b), .imm (.tup [.int t, .int b]), .imm x, .imm (.tup [.int d, .int e]), .imm (.tup [.str "told", rat p r])] := by
      unfold b__law_quotient
      refine seq_nx (env1 := ?_) ?_ ?_
      rotate_left
      · simp [o, Dl.sSeq, Dl.sIf, Dl.sRet, Dl.sRetN, Dl.sDrop, Dl.putM, Dl.sAsg, Dl.sAsgG, Dl.sNx, Dl.sBk, Dl.sCt, Dl.bindM, Dl.retM, Dl.liftM, Dl.settle, Dl.eVar, Dl.eC, Dl.eB, Dl.eNot, Dl.eAnd, Dl.eOr, Dl.eV, Dl.eIf, Dl.eAndV, Dl.eOrV, Dl.eOp2, Dl.eOp1, Dl.eOpn, Dl.op2M, Dl.op1M, Dl.opnM, Dl.eOp2R, Dl.peek, Dl.peeks, Dl.pNil, Dl.pCons, Dl.dNil, Dl.dCons, Dl.eTup, Dl.eLst, Dl.aNil, Dl.aSet, Dl.aLend, Dl.eCall, Dl.callM, Dl.alsOf, Dl.svsOf, Dl.svOf, Dl.backs, Dl.backSv, Dl.denOf, Dl.finC, Dl.outs, Dl.retRV, Dl.SV.arg, Dl.SV.lent, Dl.gNameM, Dl.gNilM, Dl.gConsM, Dl.gTupM, Dl.gSubM, Dl.isLst, Dl.sPar, Dl.sFor, Dl.forM, Dl.iSeqM, Dl.D.items, Dl.eCallF, Dl.callF, Dl.eMake, Dl.makeM, Dl.eFld, Dl.opFld, Dl.sPutF, Dl.opAdd, Dl.opSub, Dl.opMul, Dl.opFDiv, Dl.opMod, Dl.opPow, Dl.opNeg, Dl.opLt, Dl.opLe, Dl.opGt, Dl.opGe, Dl.opIs2, Dl.opIsNot2, Dl.opIsN, Dl.opNotN, Dl.D.isNon, Dl.opIx, Dl.opLen, Dl.opAbs, Dl.opMax2, Dl.opMin2, Dl.opInt1, Dl.opStrI, Dl.opList, Dl.opTuple, Dl.eIsi, Dl.isaD, Dl.D.bt, Dl.subB, Dl.sTry, Dl.tryH, Dl.endH, Dl.noExc, Dl.clearS, Dl.SV.isExc, Dl.eXf, Dl.eIsX, Dl.sRaise, Dl.hitL, L2.atI, L2.ixN, Dl.LIM]; exact rfl
      refine seq_nx (if_pass (env1 := ?_) ?_) ?_
      rotate_left
      · simp [eqA_int, hd, Dl.sSeq, Dl.sIf, Dl.sRet, Dl.sRetN, Dl.sDrop, Dl.putM, Dl.sAsg, Dl.sAsgG, Dl.sNx, Dl.sBk, Dl.sCt, Dl.bindM, Dl.retM, Dl.liftM, Dl.settle, Dl.eVar, Dl.eC, Dl.eB, Dl.eNot, Dl.eAnd, Dl.eOr, Dl.eV, Dl.eIf, Dl.eAndV, Dl.eOrV, Dl.eOp2, Dl.eOp1, Dl.eOpn, Dl.op2M, Dl.op1M, Dl.opnM, Dl.eOp2R, Dl.peek, Dl.peeks, Dl.pNil, Dl.pCons, Dl.dNil, Dl.dCons, Dl.eTup, Dl.eLst, Dl.aNil, Dl.aSet, Dl.aLend, Dl.eCall, Dl.callM, Dl.alsOf, Dl.svsOf, Dl.svOf, Dl.backs, Dl.backSv, Dl.denOf, Dl.finC, Dl.outs, Dl.retRV, Dl.SV.arg, Dl.SV.lent, Dl.gNameM, Dl.gNilM, Dl.gConsM, Dl.gTupM, Dl.gSubM, Dl.isLst, Dl.sPar, Dl.sFor, Dl.forM, Dl.iSeqM, Dl.D.items, Dl.eCallF, Dl.callF, Dl.eMake, Dl.makeM, Dl.eFld, Dl.opFld, Dl.sPutF, Dl.opAdd, Dl.opSub, Dl.opMul, Dl.opFDiv, Dl.opMod, Dl.opPow, Dl.opNeg, Dl.opLt, Dl.opLe, Dl.opGt, Dl.opGe, Dl.opIs2, Dl.opIsNot2, Dl.opIsN, Dl.opNotN, Dl.D.isNon, Dl.opIx, Dl.opLen, Dl.opAbs, Dl.opMax2, Dl.opMin2, Dl.opInt1, Dl.opStrI, Dl.opList, Dl.opTuple, Dl.eIsi, Dl.isaD, Dl.D.bt, Dl.subB, Dl.sTry, Dl.tryH, Dl.endH, Dl.noExc, Dl.clearS, Dl.SV.isExc, Dl.eXf, Dl.eIsX, Dl.sRaise, Dl.hitL, L2.atI, L2.ixN, Dl.LIM]; exact rfl
      simp [tld, m1, m2, w, i, Dl.sSeq, Dl.sIf, Dl.sRet, Dl.sRetN, Dl.sDrop, Dl.putM, Dl.sAsg, Dl.sAsgG, Dl.sNx, Dl.sBk, Dl.sCt, Dl.bindM, Dl.retM, Dl.liftM, Dl.settle, Dl.eVar, Dl.eC, Dl.eB, Dl.eNot, Dl.eAnd, Dl.eOr, Dl.eV, Dl.eIf, Dl.eAndV, Dl.eOrV, Dl.eOp2, Dl.eOp1, Dl.eOpn, Dl.op2M, Dl.op1M, Dl.opnM, Dl.eOp2R, Dl.peek, Dl.peeks, Dl.pNil, Dl.pCons, Dl.dNil, Dl.dCons, Dl.eTup, Dl.eLst, Dl.aNil, Dl.aSet, Dl.aLend, Dl.eCall, Dl.callM, Dl.alsOf, Dl.svsOf, Dl.svOf, Dl.backs, Dl.backSv, Dl.denOf, Dl.finC, Dl.outs, Dl.retRV, Dl.SV.arg, Dl.SV.lent, Dl.gNameM, Dl.gNilM, Dl.gConsM, Dl.gTupM, Dl.gSubM, Dl.isLst, Dl.sPar, Dl.sFor, Dl.forM, Dl.iSeqM, Dl.D.items, Dl.eCallF, Dl.callF, Dl.eMake, Dl.makeM, Dl.eFld, Dl.opFld, Dl.sPutF, Dl.opAdd, Dl.opSub, Dl.opFDiv, Dl.opMod, Dl.opPow, Dl.opNeg, Dl.opLt, Dl.opLe, Dl.opGt, Dl.opGe, Dl.opIs2, Dl.opIsNot2, Dl.opIsN, Dl.opNotN, Dl.D.isNon, Dl.opIx, Dl.opLen, Dl.opAbs, Dl.opMax2, Dl.opMin2, Dl.opInt1, Dl.opStrI, Dl.opList, Dl.opTuple, Dl.eIsi, Dl.isaD, Dl.D.bt, Dl.subB, Dl.sTry, Dl.tryH, Dl.endH, Dl.noExc, Dl.clearS, Dl.SV.isExc, Dl.eXf, Dl.eIsX, Dl.sRaise, Dl.hitL, L2.atI, L2.ixN, Dl.LIM]
    exact den_ret rfl rfl h2 rfl rfl
end L01
namespace L01
open PySem PySem.Spec PyProof.Rows L2 Dl
theorem add_lt {a b : Int} {n : Nat} (ha : a.natAbs < 2 ^ n) (hb : b.natAbs < 2 ^ n) : (a + b).natAbs < 2 ^ (n + 1) := by
  have := Int.natAbs_add_le a b
  rw [Nat.pow_succ]
  omega
theorem sub_lt {a b : Int} {n : Nat} (ha : a.natAbs < 2 ^ n) (hb : b.natAbs < 2 ^ n) : (a - b).natAbs < 2 ^ (n + 1) := by
  rw [Int.sub_eq_add_neg]
  exact add_lt ha (by rw [Int.natAbs_neg]; exact hb)
/-- numbers of a size -/
structure Sz (n : Nat) (x : D) (d e : Int) : Prop where
  num : Num x d e
  d : d.natAbs < 2 ^ n
  e : e.natAbs < 2 ^ n
theorem Sz.ne {n : Nat} {x : D} {d e : Int} (h : Sz n x d e) : e ≠ 0 := by
  have := h.num.low.pos
  omega
theorem muls {n : Nat} {i j : Int} (hn : n ≤ 240) (hi : i.natAbs < 2 ^ n) (hj : j.natAbs < 2 ^ n) : opMul (.int i) (.int j) = some (.imm (.int (i * j))) := mulOk (lt_mono hi (by omega)) (lt_mono hj (by omega))
theorem isI_rat (d e : Int) : den_is_integer [.imm (rat d e)] = .ok (.imm (.bl false)) [.imm (rat d e)] := isI_den (rat d e) (by simp [pl, rat, kn])
section
variable {n : Nat} (hn : n ≤ 240) {t b : Int} {y : D} {d e : Int}
include hn
theorem add_den (hx : Sz n (rat t b) t b) (hy : Sz n y d e) : den_Ratio___add__ [.imm (rat t b), .imm y] = .ok (.imm (rat (nT (t * e + d * b) (b * e)) (nB (t * e + d * b) (b * e)))) [.imm (rat t b), .imm y] := by
  obtain ⟨hy, hd, he⟩ := hy
  have h0 := hx.ne
  have hb2 := lt_mono hx.e (show n ≤ 800 by omega)
  cases hy with
  | int h =>
    have m := muls hn hd hx.e
    have h2 : b_Ratio___add__ [.imm (rat t b), .imm (.int d)] = .ok (.ret (.imm (rat (nT (t + d * b) b) (nB (t + d * b) b)))) [.imm (rat t b), .imm (.int d)] := by
      unfold b_Ratio___add__
      refine seq_ret (if_t (env1 := [.imm (rat t b), .imm (.int d)]) ?_ ?_)
      · simp [isI_int, Dl.sSeq, Dl.sIf, Dl.sRet, Dl.sRetN, Dl.sDrop, Dl.putM, Dl.sAsg, Dl.sAsgG, Dl.sNx, Dl.sBk, Dl.sCt, Dl.bindM, Dl.retM, Dl.liftM, Dl.settle, Dl.eVar, Dl.eC, Dl.eB, Dl.eNot, Dl.eAnd, Dl.eOr, Dl.eV, Dl.eIf, Dl.eAndV, Dl.eOrV, Dl.eOp2, Dl.eOp1, Dl.eOpn, Dl.op2M, Dl.op1M, Dl.opnM, Dl.eOp2R, Dl.peek, Dl.peeks, Dl.pNil, Dl.pCons, Dl.dNil, Dl.dCons, Dl.eTup, Dl.eLst, Dl.aNil, Dl.aSet, Dl.aLend, Dl.eCall, Dl.callM, Dl.alsOf, Dl.svsOf, Dl.svOf, Dl.backs, Dl.backSv, Dl.denOf, Dl.finC, Dl.outs, Dl.retRV, Dl.SV.arg, Dl.SV.lent, Dl.gNameM, Dl.gNilM, Dl.gConsM, Dl.gTupM, Dl.gSubM, Dl.isLst, Dl.sPar, Dl.sFor, Dl.forM, Dl.iSeqM, Dl.D.items, Dl.eCallF, Dl.callF, Dl.eMake, Dl.makeM, Dl.eFld, Dl.opFld, Dl.sPutF, Dl.opAdd, Dl.opSub, Dl.opMul, Dl.opFDiv, Dl.opMod, Dl.opPow, Dl.opNeg, Dl.opLt, Dl.opLe, Dl.opGt, Dl.opGe, Dl.opIs2, Dl.opIsNot2, Dl.opIsN, Dl.opNotN, Dl.D.isNon, Dl.opIx, Dl.opLen, Dl.opAbs, Dl.opMax2, Dl.opMin2, Dl.opInt1, Dl.opStrI, Dl.opList, Dl.opTuple, Dl.eIsi, Dl.isaD, Dl.D.bt, Dl.subB, Dl.sTry, Dl.tryH, Dl.endH, Dl.noExc, Dl.clearS, Dl.SV.isExc, Dl.eXf, Dl.eIsX, Dl.sRaise, Dl.hitL, L2.atI, L2.ixN, Dl.LIM]
      unfold sRet Dl.bindM
      rw [mkR (a := t + d * b) (b := b) h0 hb2 (env1 := [.imm (rat t b), .imm (.int d)]) (by simp [rat, m, Dl.sSeq, Dl.sIf, Dl.sRet, Dl.sRetN, Dl.sDrop, Dl.putM, Dl.sAsg, Dl.sAsgG, Dl.sNx, Dl.sBk, Dl.sCt, Dl.bindM, Dl.retM, Dl.liftM, Dl.settle, Dl.eVar, Dl.eC, Dl.eB, Dl.eNot, Dl.eAnd, Dl.eOr, Dl.eV, Dl.eIf, Dl.eAndV, Dl.eOrV, Dl.eOp2, Dl.eOp1, Dl.eOpn, Dl.op2M, Dl.op1M, Dl.opnM, Dl.eOp2R, Dl.peek, Dl.peeks, Dl.pNil, Dl.pCons, Dl.dNil, Dl.dCons, Dl.eTup, Dl.eLst, Dl.aNil, Dl.aSet, Dl.aLend, Dl.eCall, Dl.callM, Dl.alsOf, Dl.svsOf, Dl.svOf, Dl.backs, Dl.backSv, Dl.denOf, Dl.finC, Dl.outs, Dl.retRV, Dl.SV.arg, Dl.SV.lent, Dl.gNameM, Dl.gNilM, Dl.gConsM, Dl.gTupM, Dl.gSubM, Dl.isLst, Dl.sPar, Dl.sFor, Dl.forM, Dl.iSeqM, Dl.D.items, Dl.eCallF, Dl.callF, Dl.eMake, Dl.makeM, Dl.eFld, Dl.opFld, Dl.sPutF, Dl.opAdd, Dl.opSub, Dl.opFDiv, Dl.opMod, Dl.opPow, Dl.opNeg, Dl.opLt, Dl.opLe, Dl.opGt, Dl.opGe, Dl.opIs2, Dl.opIsNot2, Dl.opIsN, Dl.opNotN, Dl.D.isNon, Dl.opIx, Dl.opLen, Dl.opAbs, Dl.opMax2, Dl.opMin2, Dl.opInt1, Dl.opStrI, Dl.opList, Dl.opTuple, Dl.eIsi, Dl.isaD, Dl.D.bt, Dl.subB, Dl.sTry, Dl.tryH, Dl.endH, Dl.noExc, Dl.clearS, Dl.SV.isExc, Dl.eXf, Dl.eIsX, Dl.sRaise, Dl.hitL, L2.atI, L2.ixN, Dl.LIM])]
      rfl
    rw [Int.mul_one, Int.mul_one]
    exact den_ret rfl rfl h2 rfl rfl
  | rat l h1 h2 =>
    have m1 := muls hn hx.d he
    have m2 := muls hn hd hx.e
    have m3 := muls hn hx.e he
    have i := isI_rat d e
    have l0 : e ≠ 0 := by have := l.pos; omega
    have h2 : b_Ratio___add__ [.imm (rat t b), .imm (rat d e)] = .ok (.ret (.imm (rat (nT (t * e + d * b) (b * e)) (nB (t * e + d * b) (b * e))))) [.imm (rat t b), .imm (rat d e)] := by
      unfold b_Ratio___add__
      refine seq_nx (env1 := [.imm (rat t b), .imm (rat d e)]) (if_pass ?_) ?_
      · simp [i, Dl.sSeq, Dl.sIf, Dl.sRet, Dl.sRetN, Dl.sDrop, Dl.putM, Dl.sAsg, Dl.sAsgG, Dl.sNx, Dl.sBk, Dl.sCt, Dl.bindM, Dl.retM, Dl.liftM, Dl.settle, Dl.eVar, Dl.eC, Dl.eB, Dl.eNot, Dl.eAnd, Dl.eOr, Dl.eV, Dl.eIf, Dl.eAndV, Dl.eOrV, Dl.eOp2, Dl.eOp1, Dl.eOpn, Dl.op2M, Dl.op1M, Dl.opnM, Dl.eOp2R, Dl.peek, Dl.peeks, Dl.pNil, Dl.pCons, Dl.dNil, Dl.dCons, Dl.eTup, Dl.eLst, Dl.aNil, Dl.aSet, Dl.aLend, Dl.eCall, Dl.callM, Dl.alsOf, Dl.svsOf, Dl.svOf, Dl.backs, Dl.backSv, Dl.denOf, Dl.finC, Dl.outs, Dl.retRV, Dl.SV.arg, Dl.SV.lent, Dl.gNameM, Dl.gNilM, Dl.gConsM, Dl.gTupM, Dl.gSubM, Dl.isLst, Dl.sPar, Dl.sFor, Dl.forM, Dl.iSeqM, Dl.D.items, Dl.eCallF, Dl.callF, Dl.eMake, Dl.makeM, Dl.eFld, Dl.opFld, Dl.sPutF, Dl.opAdd, Dl.opSub, Dl.opMul, Dl.opFDiv, Dl.opMod, Dl.opPow, Dl.opNeg, Dl.opLt, Dl.opLe, Dl.opGt, Dl.opGe, Dl.opIs2, Dl.opIsNot2, Dl.opIsN, Dl.opNotN, Dl.D.isNon, Dl.opIx, Dl.opLen, Dl.opAbs, Dl.opMax2, Dl.opMin2, Dl.opInt1, Dl.opStrI, Dl.opList, Dl.opTuple, Dl.eIsi, Dl.isaD, Dl.D.bt, Dl.subB, Dl.sTry, Dl.tryH, Dl.endH, Dl.noExc, Dl.clearS, Dl.SV.isExc, Dl.eXf, Dl.eIsX, Dl.sRaise, Dl.hitL, L2.atI, L2.ixN, Dl.LIM]
      refine seq_nx (env1 := [.imm (rat t b), .imm (rat d e)]) (if_pass ?_) ?_
      · simp [rat, kn, Dl.sSeq, Dl.sIf, Dl.sRet, Dl.sRetN, Dl.sDrop, Dl.putM, Dl.sAsg, Dl.sAsgG, Dl.sNx, Dl.sBk, Dl.sCt, Dl.bindM, Dl.retM, Dl.liftM, Dl.settle, Dl.eVar, Dl.eC, Dl.eB, Dl.eNot, Dl.eAnd, Dl.eOr, Dl.eV, Dl.eIf, Dl.eAndV, Dl.eOrV, Dl.eOp2, Dl.eOp1, Dl.eOpn, Dl.op2M, Dl.op1M, Dl.opnM, Dl.eOp2R, Dl.peek, Dl.peeks, Dl.pNil, Dl.pCons, Dl.dNil, Dl.dCons, Dl.eTup, Dl.eLst, Dl.aNil, Dl.aSet, Dl.aLend, Dl.eCall, Dl.callM, Dl.alsOf, Dl.svsOf, Dl.svOf, Dl.backs, Dl.backSv, Dl.denOf, Dl.finC, Dl.outs, Dl.retRV, Dl.SV.arg, Dl.SV.lent, Dl.gNameM, Dl.gNilM, Dl.gConsM, Dl.gTupM, Dl.gSubM, Dl.isLst, Dl.sPar, Dl.sFor, Dl.forM, Dl.iSeqM, Dl.D.items, Dl.eCallF, Dl.callF, Dl.eMake, Dl.makeM, Dl.eFld, Dl.opFld, Dl.sPutF, Dl.opAdd, Dl.opSub, Dl.opMul, Dl.opFDiv, Dl.opMod, Dl.opPow, Dl.opNeg, Dl.opLt, Dl.opLe, Dl.opGt, Dl.opGe, Dl.opIs2, Dl.opIsNot2, Dl.opIsN, Dl.opNotN, Dl.D.isNon, Dl.opIx, Dl.opLen, Dl.opAbs, Dl.opMax2, Dl.opMin2, Dl.opInt1, Dl.opStrI, Dl.opList, Dl.opTuple, Dl.eIsi, Dl.isaD, Dl.D.bt, Dl.subB, Dl.sTry, Dl.tryH, Dl.endH, Dl.noExc, Dl.clearS, Dl.SV.isExc, Dl.eXf, Dl.eIsX, Dl.sRaise, Dl.hitL, L2.atI, L2.ixN, Dl.LIM]
      unfold sRet Dl.bindM
      rw [mkR (a := t * e + d * b) (b := b * e) (Int.mul_ne_zero h0 l0) (lt_mono (mul_lt hx.e he) (by omega)) (env1 := [.imm (rat t b), .imm (rat d e)]) (by simp [rat, m1, m2, m3, Dl.sSeq, Dl.sIf, Dl.sRet, Dl.sRetN, Dl.sDrop, Dl.putM, Dl.sAsg, Dl.sAsgG, Dl.sNx, Dl.sBk, Dl.sCt, Dl.bindM, Dl.retM, Dl.liftM, Dl.settle, Dl.eVar, Dl.eC, Dl.eB, Dl.eNot, Dl.eAnd, Dl.eOr, Dl.eV, Dl.eIf, Dl.eAndV, Dl.eOrV, Dl.eOp2, Dl.eOp1, Dl.eOpn, Dl.op2M, Dl.op1M, Dl.opnM, Dl.eOp2R, Dl.peek, Dl.peeks, Dl.pNil, Dl.pCons, Dl.dNil, Dl.dCons, Dl.eTup, Dl.eLst, Dl.aNil, Dl.aSet, Dl.aLend, Dl.eCall, Dl.callM, Dl.alsOf, Dl.svsOf, Dl.svOf, Dl.backs, Dl.backSv, Dl.denOf, Dl.finC, Dl.outs, Dl.retRV, Dl.SV.arg, Dl.SV.lent, Dl.gNameM, Dl.gNilM, Dl.gConsM, Dl.gTupM, Dl.gSubM, Dl.isLst, Dl.sPar, Dl.sFor, Dl.forM, Dl.iSeqM, Dl.D.items, Dl.eCallF, Dl.callF, Dl.eMake, Dl.makeM, Dl.eFld, Dl.opFld, Dl.sPutF, Dl.opAdd, Dl.opSub, Dl.opFDiv, Dl.opMod, Dl.opPow, Dl.opNeg, Dl.opLt, Dl.opLe, Dl.opGt, Dl.opGe, Dl.opIs2, Dl.opIsNot2, Dl.opIsN, Dl.opNotN, Dl.D.isNon, Dl.opIx, Dl.opLen, Dl.opAbs, Dl.opMax2, Dl.opMin2, Dl.opInt1, Dl.opStrI, Dl.opList, Dl.opTuple, Dl.eIsi, Dl.isaD, Dl.D.bt, Dl.subB, Dl.sTry, Dl.tryH, Dl.endH, Dl.noExc, Dl.clearS, Dl.SV.isExc, Dl.eXf, Dl.eIsX, Dl.sRaise, Dl.hitL, L2.atI, L2.ixN, Dl.LIM])]
      rfl
    exact den_ret rfl rfl h2 rfl rfl
theorem sub_den (hx : Sz n (rat t b) t b) (hy : Sz n y d e) : den_Ratio___sub__ [.imm (rat t b), .imm y] = .ok (.imm (rat (nT (t * e - d * b) (b * e)) (nB (t * e - d * b) (b * e)))) [.imm (rat t b), .imm y] := by
  obtain ⟨hy, hd, he⟩ := hy
  have h0 := hx.ne
  have hb2 := lt_mono hx.e (show n ≤ 800 by omega)
  cases hy with
  | int h =>
    have m := muls hn hd hx.e
    have h2 : b_Ratio___sub__ [.imm (rat t b), .imm (.int d)] = .ok (.ret (.imm (rat (nT (t - d * b) b) (nB (t - d * b) b)))) [.imm (rat t b), .imm (.int d)] := by
      unfold b_Ratio___sub__
      refine seq_ret (if_t (env1 := [.imm (rat t b), .imm (.int d)]) ?_ ?_)
      · simp [isI_int, Dl.sSeq, Dl.sIf, Dl.sRet, Dl.sRetN, Dl.sDrop, Dl.putM, Dl.sAsg, Dl.sAsgG, Dl.sNx, Dl.sBk, Dl.sCt, Dl.bindM, Dl.retM, Dl.liftM, Dl.settle, Dl.eVar, Dl.eC, Dl.eB, Dl.eNot, Dl.eAnd, Dl.eOr, Dl.eV, Dl.eIf, Dl.eAndV, Dl.eOrV, Dl.eOp2, Dl.eOp1, Dl.eOpn, Dl.op2M, Dl.op1M, Dl.opnM, Dl.eOp2R, Dl.peek, Dl.peeks, Dl.pNil, Dl.pCons, Dl.dNil, Dl.dCons, Dl.eTup, Dl.eLst, Dl.aNil, Dl.aSet, Dl.aLend, Dl.eCall, Dl.callM, Dl.alsOf, Dl.svsOf, Dl.svOf, Dl.backs, Dl.backSv, Dl.denOf, Dl.finC, Dl.outs, Dl.retRV, Dl.SV.arg, Dl.SV.lent, Dl.gNameM, Dl.gNilM, Dl.gConsM, Dl.gTupM, Dl.gSubM, Dl.isLst, Dl.sPar, Dl.sFor, Dl.forM, Dl.iSeqM, Dl.D.items, Dl.eCallF, Dl.callF, Dl.eMake, Dl.makeM, Dl.eFld, Dl.opFld, Dl.sPutF, Dl.opAdd, Dl.opSub, Dl.opMul, Dl.opFDiv, Dl.opMod, Dl.opPow, Dl.opNeg, Dl.opLt, Dl.opLe, Dl.opGt, Dl.opGe, Dl.opIs2, Dl.opIsNot2, Dl.opIsN, Dl.opNotN, Dl.D.isNon, Dl.opIx, Dl.opLen, Dl.opAbs, Dl.opMax2, Dl.opMin2, Dl.opInt1, Dl.opStrI, Dl.opList, Dl.opTuple, Dl.eIsi, Dl.isaD, Dl.D.bt, Dl.subB, Dl.sTry, Dl.tryH, Dl.endH, Dl.noExc, Dl.clearS, Dl.SV.isExc, Dl.eXf, Dl.eIsX, Dl.sRaise, Dl.hitL, L2.atI, L2.ixN, Dl.LIM]
      unfold sRet Dl.bindM
      rw [mkR (a := t - d * b) (b := b) h0 hb2 (env1 := [.imm (rat t b), .imm (.int d)]) (by simp [rat, m, Dl.sSeq, Dl.sIf, Dl.sRet, Dl.sRetN, Dl.sDrop, Dl.putM, Dl.sAsg, Dl.sAsgG, Dl.sNx, Dl.sBk, Dl.sCt, Dl.bindM, Dl.retM, Dl.liftM, Dl.settle, Dl.eVar, Dl.eC, Dl.eB, Dl.eNot, Dl.eAnd, Dl.eOr, Dl.eV, Dl.eIf, Dl.eAndV, Dl.eOrV, Dl.eOp2, Dl.eOp1, Dl.eOpn, Dl.op2M, Dl.op1M, Dl.opnM, Dl.eOp2R, Dl.peek, Dl.peeks, Dl.pNil, Dl.pCons, Dl.dNil, Dl.dCons, Dl.eTup, Dl.eLst, Dl.aNil, Dl.aSet, Dl.aLend, Dl.eCall, Dl.callM, Dl.alsOf, Dl.svsOf, Dl.svOf, Dl.backs, Dl.backSv, Dl.denOf, Dl.finC, Dl.outs, Dl.retRV, Dl.SV.arg, Dl.SV.lent, Dl.gNameM, Dl.gNilM, Dl.gConsM, Dl.gTupM, Dl.gSubM, Dl.isLst, Dl.sPar, Dl.sFor, Dl.forM, Dl.iSeqM, Dl.D.items, Dl.eCallF, Dl.callF, Dl.eMake, Dl.makeM, Dl.eFld, Dl.opFld, Dl.sPutF, Dl.opAdd, Dl.opSub, Dl.opFDiv, Dl.opMod, Dl.opPow, Dl.opNeg, Dl.opLt, Dl.opLe, Dl.opGt, Dl.opGe, Dl.opIs2, Dl.opIsNot2, Dl.opIsN, Dl.opNotN, Dl.D.isNon, Dl.opIx, Dl.opLen, Dl.opAbs, Dl.opMax2, Dl.opMin2, Dl.opInt1, Dl.opStrI, Dl.opList, Dl.opTuple, Dl.eIsi, Dl.isaD, Dl.D.bt, Dl.subB, Dl.sTry, Dl.tryH, Dl.endH, Dl.noExc, Dl.clearS, Dl.SV.isExc, Dl.eXf, Dl.eIsX, Dl.sRaise, Dl.hitL, L2.atI, L2.ixN, Dl.LIM])]
      rfl
    rw [Int.mul_one, Int.mul_one]
    exact den_ret rfl rfl h2 rfl rfl
  | rat l h1 h2 =>
    have m1 := muls hn hx.d he
    have m2 := muls hn hd hx.e
    have m3 := muls hn hx.e he
    have i := isI_rat d e
    have l0 : e ≠ 0 := by have := l.pos; omega
    have h2 : b_Ratio___sub__ [.imm (rat t b), .imm (rat d e)] = .ok (.ret (.imm (rat (nT (t * e - d * b) (b * e)) (nB (t * e - d * b) (b * e))))) [.imm (rat t b), .imm (rat d e)] := by
      unfold b_Ratio___sub__
      refine seq_nx (env1 := [.imm (rat t b), .imm (rat d e)]) (if_pass ?_) ?_
      · simp [i, Dl.sSeq, Dl.sIf, Dl.sRet, Dl.sRetN, Dl.sDrop, Dl.putM, Dl.sAsg, Dl.sAsgG, Dl.sNx, Dl.sBk, Dl.sCt, Dl.bindM, Dl.retM, Dl.liftM, Dl.settle, Dl.eVar, Dl.eC, Dl.eB, Dl.eNot, Dl.eAnd, Dl.eOr, Dl.eV, Dl.eIf, Dl.eAndV, Dl.eOrV, Dl.eOp2, Dl.eOp1, Dl.eOpn, Dl.op2M, Dl.op1M, Dl.opnM, Dl.eOp2R, Dl.peek, Dl.peeks, Dl.pNil, Dl.pCons, Dl.dNil, Dl.dCons, Dl.eTup, Dl.eLst, Dl.aNil, Dl.aSet, Dl.aLend, Dl.eCall, Dl.callM, Dl.alsOf, Dl.svsOf, Dl.svOf, Dl.backs, Dl.backSv, Dl.denOf, Dl.finC, Dl.outs, Dl.retRV, Dl.SV.arg, Dl.SV.lent, Dl.gNameM, Dl.gNilM, Dl.gConsM, Dl.gTupM, Dl.gSubM, Dl.isLst, Dl.sPar, Dl.sFor, Dl.forM, Dl.iSeqM, Dl.D.items, Dl.eCallF, Dl.callF, Dl.eMake, Dl.makeM, Dl.eFld, Dl.opFld, Dl.sPutF, Dl.opAdd, Dl.opSub, Dl.opMul, Dl.opFDiv, Dl.opMod, Dl.opPow, Dl.opNeg, Dl.opLt, Dl.opLe, Dl.opGt, Dl.opGe, Dl.opIs2, Dl.opIsNot2, Dl.opIsN, Dl.opNotN, Dl.D.isNon, Dl.opIx, Dl.opLen, Dl.opAbs, Dl.opMax2, Dl.opMin2, Dl.opInt1, Dl.opStrI, Dl.opList, Dl.opTuple, Dl.eIsi, Dl.isaD, Dl.D.bt, Dl.subB, Dl.sTry, Dl.tryH, Dl.endH, Dl.noExc, Dl.clearS, Dl.SV.isExc, Dl.eXf, Dl.eIsX, Dl.sRaise, Dl.hitL, L2.atI, L2.ixN, Dl.LIM]
      refine seq_nx (env1 := [.imm (rat t b), .imm (rat d e)]) (if_pass ?_) ?_
      · simp [rat, kn, Dl.sSeq, Dl.sIf, Dl.sRet, Dl.sRetN, Dl.sDrop, Dl.putM, Dl.sAsg, Dl.sAsgG, Dl.sNx, Dl.sBk, Dl.sCt, Dl.bindM, Dl.retM, Dl.liftM, Dl.settle, Dl.eVar, Dl.eC, Dl.eB, Dl.eNot, Dl.eAnd, Dl.eOr, Dl.eV, Dl.eIf, Dl.eAndV, Dl.eOrV, Dl.eOp2, Dl.eOp1, Dl.eOpn, Dl.op2M, Dl.op1M, Dl.opnM, Dl.eOp2R, Dl.peek, Dl.peeks, Dl.pNil, Dl.pCons, Dl.dNil, Dl.dCons, Dl.eTup, Dl.eLst, Dl.aNil, Dl.aSet, Dl.aLend, Dl.eCall, Dl.callM, Dl.alsOf, Dl.svsOf, Dl.svOf, Dl.backs, Dl.backSv, Dl.denOf, Dl.finC, Dl.outs, Dl.retRV, Dl.SV.arg, Dl.SV.lent, Dl.gNameM, Dl.gNilM, Dl.gConsM, Dl.gTupM, Dl.gSubM, Dl.isLst, Dl.sPar, Dl.sFor, Dl.forM, Dl.iSeqM, Dl.D.items, Dl.eCallF, Dl.callF, Dl.eMake, Dl.makeM, Dl.eFld, Dl.opFld, Dl.sPutF, Dl.opAdd, Dl.opSub, Dl.opMul, Dl.opFDiv, Dl.opMod, Dl.opPow, Dl.opNeg, Dl.opLt, Dl.opLe, Dl.opGt, Dl.opGe, Dl.opIs2, Dl.opIsNot2, Dl.opIsN, Dl.opNotN, Dl.D.isNon, Dl.opIx, Dl.opLen, Dl.opAbs, Dl.opMax2, Dl.opMin2, Dl.opInt1, Dl.opStrI, Dl.opList, Dl.opTuple, Dl.eIsi, Dl.isaD, Dl.D.bt, Dl.subB, Dl.sTry, Dl.tryH, Dl.endH, Dl.noExc, Dl.clearS, Dl.SV.isExc, Dl.eXf, Dl.eIsX, Dl.sRaise, Dl.hitL, L2.atI, L2.ixN, Dl.LIM]
      unfold sRet Dl.bindM
      rw [mkR (a := t * e - d * b) (b := b * e) (Int.mul_ne_zero h0 l0) (lt_mono (mul_lt hx.e he) (by omega)) (env1 := [.imm (rat t b), .imm (rat d e)]) (by simp [rat, m1, m2, m3, Dl.sSeq, Dl.sIf, Dl.sRet, Dl.sRetN, Dl.sDrop, Dl.putM, Dl.sAsg, Dl.sAsgG, Dl.sNx, Dl.sBk, Dl.sCt, Dl.bindM, Dl.retM, Dl.liftM, Dl.settle, Dl.eVar, Dl.eC, Dl.eB, Dl.eNot, Dl.eAnd, Dl.eOr, Dl.eV, Dl.eIf, Dl.eAndV, Dl.eOrV, Dl.eOp2, Dl.eOp1, Dl.eOpn, Dl.op2M, Dl.op1M, Dl.opnM, Dl.eOp2R, Dl.peek, Dl.peeks, Dl.pNil, Dl.pCons, Dl.dNil, Dl.dCons, Dl.eTup, Dl.eLst, Dl.aNil, Dl.aSet, Dl.aLend, Dl.eCall, Dl.callM, Dl.alsOf, Dl.svsOf, Dl.svOf, Dl.backs, Dl.backSv, Dl.denOf, Dl.finC, Dl.outs, Dl.retRV, Dl.SV.arg, Dl.SV.lent, Dl.gNameM, Dl.gNilM, Dl.gConsM, Dl.gTupM, Dl.gSubM, Dl.isLst, Dl.sPar, Dl.sFor, Dl.forM, Dl.iSeqM, Dl.D.items, Dl.eCallF, Dl.callF, Dl.eMake, Dl.makeM, Dl.eFld, Dl.opFld, Dl.sPutF, Dl.opAdd, Dl.opSub, Dl.opFDiv, Dl.opMod, Dl.opPow, Dl.opNeg, Dl.opLt, Dl.opLe, Dl.opGt, Dl.opGe, Dl.opIs2, Dl.opIsNot2, Dl.opIsN, Dl.opNotN, Dl.D.isNon, Dl.opIx, Dl.opLen, Dl.opAbs, Dl.opMax2, Dl.opMin2, Dl.opInt1, Dl.opStrI, Dl.opList, Dl.opTuple, Dl.eIsi, Dl.isaD, Dl.D.bt, Dl.subB, Dl.sTry, Dl.tryH, Dl.endH, Dl.noExc, Dl.clearS, Dl.SV.isExc, Dl.eXf, Dl.eIsX, Dl.sRaise, Dl.hitL, L2.atI, L2.ixN, Dl.LIM])]
      rfl
    exact den_ret rfl rfl h2 rfl rfl
theorem mul_den (hx : Sz n (rat t b) t b) (hy : Sz n y d e) : den_Ratio___mul__ [.imm (rat t b), .imm y] = .ok (.imm (rat (nT (t * d) (b * e)) (nB (t * d) (b * e)))) [.imm (rat t b), .imm y] := by
  obtain ⟨hy, hd, he⟩ := hy
  have h0 := hx.ne
  have hb2 := lt_mono hx.e (show n ≤ 800 by omega)
  cases hy with
  | int h =>
    have m := muls hn hx.d hd
    have h2 : b_Ratio___mul__ [.imm (rat t b), .imm (.int d)] = .ok (.ret (.imm (rat (nT (t * d) b) (nB (t * d) b)))) [.imm (rat t b), .imm (.int d)] := by
      unfold b_Ratio___mul__
      refine seq_ret (if_t (env1 := [.imm (rat t b), .imm (.int d)]) ?_ ?_)
      · simp [isI_int, Dl.sSeq, Dl.sIf, Dl.sRet, Dl.sRetN, Dl.sDrop, Dl.putM, Dl.sAsg, Dl.sAsgG, Dl.sNx, Dl.sBk, Dl.sCt, Dl.bindM, Dl.retM, Dl.liftM, Dl.settle, Dl.eVar, Dl.eC, Dl.eB, Dl.eNot, Dl.eAnd, Dl.eOr, Dl.eV, Dl.eIf, Dl.eAndV, Dl.eOrV, Dl.eOp2, Dl.eOp1, Dl.eOpn, Dl.op2M, Dl.op1M, Dl.opnM, Dl.eOp2R, Dl.peek, Dl.peeks, Dl.pNil, Dl.pCons, Dl.dNil, Dl.dCons, Dl.eTup, Dl.eLst, Dl.aNil, Dl.aSet, Dl.aLend, Dl.eCall, Dl.callM, Dl.alsOf, Dl.svsOf, Dl.svOf, Dl.backs, Dl.backSv, Dl.denOf, Dl.finC, Dl.outs, Dl.retRV, Dl.SV.arg, Dl.SV.lent, Dl.gNameM, Dl.gNilM, Dl.gConsM, Dl.gTupM, Dl.gSubM, Dl.isLst, Dl.sPar, Dl.sFor, Dl.forM, Dl.iSeqM, Dl.D.items, Dl.eCallF, Dl.callF, Dl.eMake, Dl.makeM, Dl.eFld, Dl.opFld, Dl.sPutF, Dl.opAdd, Dl.opSub, Dl.opMul, Dl.opFDiv, Dl.opMod, Dl.opPow, Dl.opNeg, Dl.opLt, Dl.opLe, Dl.opGt, Dl.opGe, Dl.opIs2, Dl.opIsNot2, Dl.opIsN, Dl.opNotN, Dl.D.isNon, Dl.opIx, Dl.opLen, Dl.opAbs, Dl.opMax2, Dl.opMin2, Dl.opInt1, Dl.opStrI, Dl.opList, Dl.opTuple, Dl.eIsi, Dl.isaD, Dl.D.bt, Dl.subB, Dl.sTry, Dl.tryH, Dl.endH, Dl.noExc, Dl.clearS, Dl.SV.isExc, Dl.eXf, Dl.eIsX, Dl.sRaise, Dl.hitL, L2.atI, L2.ixN, Dl.LIM]
      unfold sRet Dl.bindM
      rw [mkR (a := t * d) (b := b) h0 hb2 (env1 := [.imm (rat t b), .imm (.int d)]) (by simp [rat, m, Dl.sSeq, Dl.sIf, Dl.sRet, Dl.sRetN, Dl.sDrop, Dl.putM, Dl.sAsg, Dl.sAsgG, Dl.sNx, Dl.sBk, Dl.sCt, Dl.bindM, Dl.retM, Dl.liftM, Dl.settle, Dl.eVar, Dl.eC, Dl.eB, Dl.eNot, Dl.eAnd, Dl.eOr, Dl.eV, Dl.eIf, Dl.eAndV, Dl.eOrV, Dl.eOp2, Dl.eOp1, Dl.eOpn, Dl.op2M, Dl.op1M, Dl.opnM, Dl.eOp2R, Dl.peek, Dl.peeks, Dl.pNil, Dl.pCons, Dl.dNil, Dl.dCons, Dl.eTup, Dl.eLst, Dl.aNil, Dl.aSet, Dl.aLend, Dl.eCall, Dl.callM, Dl.alsOf, Dl.svsOf, Dl.svOf, Dl.backs, Dl.backSv, Dl.denOf, Dl.finC, Dl.outs, Dl.retRV, Dl.SV.arg, Dl.SV.lent, Dl.gNameM, Dl.gNilM, Dl.gConsM, Dl.gTupM, Dl.gSubM, Dl.isLst, Dl.sPar, Dl.sFor, Dl.forM, Dl.iSeqM, Dl.D.items, Dl.eCallF, Dl.callF, Dl.eMake, Dl.makeM, Dl.eFld, Dl.opFld, Dl.sPutF, Dl.opAdd, Dl.opSub, Dl.opFDiv, Dl.opMod, Dl.opPow, Dl.opNeg, Dl.opLt, Dl.opLe, Dl.opGt, Dl.opGe, Dl.opIs2, Dl.opIsNot2, Dl.opIsN, Dl.opNotN, Dl.D.isNon, Dl.opIx, Dl.opLen, Dl.opAbs, Dl.opMax2, Dl.opMin2, Dl.opInt1, Dl.opStrI, Dl.opList, Dl.opTuple, Dl.eIsi, Dl.isaD, Dl.D.bt, Dl.subB, Dl.sTry, Dl.tryH, Dl.endH, Dl.noExc, Dl.clearS, Dl.SV.isExc, Dl.eXf, Dl.eIsX, Dl.sRaise, Dl.hitL, L2.atI, L2.ixN, Dl.LIM])]
      rfl
    rw [Int.mul_one]
    exact den_ret rfl rfl h2 rfl rfl
  | rat l h1 h2 =>
    have m1 := muls hn hx.d hd
    have m3 := muls hn hx.e he
    have i := isI_rat d e
    have l0 : e ≠ 0 := by have := l.pos; omega
    have h2 : b_Ratio___mul__ [.imm (rat t b), .imm (rat d e)] = .ok (.ret (.imm (rat (nT (t * d) (b * e)) (nB (t * d) (b * e))))) [.imm (rat t b), .imm (rat d e)] := by
      unfold b_Ratio___mul__
      refine seq_nx (env1 := [.imm (rat t b), .imm (rat d e)]) (if_pass ?_) ?_
      · simp [i, Dl.sSeq, Dl.sIf, Dl.sRet, Dl.sRetN, Dl.sDrop, Dl.putM, Dl.sAsg, Dl.sAsgG, Dl.sNx, Dl.sBk, Dl.sCt, Dl.bindM, Dl.retM, Dl.liftM, Dl.settle, Dl.eVar, Dl.eC, Dl.eB, Dl.eNot, Dl.eAnd, Dl.eOr, Dl.eV, Dl.eIf, Dl.eAndV, Dl.eOrV, Dl.eOp2, Dl.eOp1, Dl.eOpn, Dl.op2M, Dl.op1M, Dl.opnM, Dl.eOp2R, Dl.peek, Dl.peeks, Dl.pNil, Dl.pCons, Dl.dNil, Dl.dCons, Dl.eTup, Dl.eLst, Dl.aNil, Dl.aSet, Dl.aLend, Dl.eCall, Dl.callM, Dl.alsOf, Dl.svsOf, Dl.svOf, Dl.backs, Dl.backSv, Dl.denOf, Dl.finC, Dl.outs, Dl.retRV, Dl.SV.arg, Dl.SV.lent, Dl.gNameM, Dl.gNilM, Dl.gConsM, Dl.gTupM, Dl.gSubM, Dl.isLst, Dl.sPar, Dl.sFor, Dl.forM, Dl.iSeqM, Dl.D.items, Dl.eCallF, Dl.callF, Dl.eMake, Dl.makeM, Dl.eFld, Dl.opFld, Dl.sPutF, Dl.opAdd, Dl.opSub, Dl.opMul, Dl.opFDiv, Dl.opMod, Dl.opPow, Dl.opNeg, Dl.opLt, Dl.opLe, Dl.opGt, Dl.opGe, Dl.opIs2, Dl.opIsNot2, Dl.opIsN, Dl.opNotN, Dl.D.isNon, Dl.opIx, Dl.opLen, Dl.opAbs, Dl.opMax2, Dl.opMin2, Dl.opInt1, Dl.opStrI, Dl.opList, Dl.opTuple, Dl.eIsi, Dl.isaD, Dl.D.bt, Dl.subB, Dl.sTry, Dl.tryH, Dl.endH, Dl.noExc, Dl.clearS, Dl.SV.isExc, Dl.eXf, Dl.eIsX, Dl.sRaise, Dl.hitL, L2.atI, L2.ixN, Dl.LIM]
      refine seq_nx (env1 := [.imm (rat t b), .imm (rat d e)]) (if_pass ?_) ?_
      · simp [rat, kn, Dl.sSeq, Dl.sIf, Dl.sRet, Dl.sRetN, Dl.sDrop, Dl.putM, Dl.sAsg, Dl.sAsgG, Dl.sNx, Dl.sBk, Dl.sCt, Dl.bindM, Dl.retM, Dl.liftM, Dl.settle, Dl.eVar, Dl.eC, Dl.eB, Dl.eNot, Dl.eAnd, Dl.eOr, Dl.eV, Dl.eIf, Dl.eAndV, Dl.eOrV, Dl.eOp2, Dl.eOp1, Dl.eOpn, Dl.op2M, Dl.op1M, Dl.opnM, Dl.eOp2R, Dl.peek, Dl.peeks, Dl.pNil, Dl.pCons, Dl.dNil, Dl.dCons, Dl.eTup, Dl.eLst, Dl.aNil, Dl.aSet, Dl.aLend, Dl.eCall, Dl.callM, Dl.alsOf, Dl.svsOf, Dl.svOf, Dl.backs, Dl.backSv, Dl.denOf, Dl.finC, Dl.outs, Dl.retRV, Dl.SV.arg, Dl.SV.lent, Dl.gNameM, Dl.gNilM, Dl.gConsM, Dl.gTupM, Dl.gSubM, Dl.isLst, Dl.sPar, Dl.sFor, Dl.forM, Dl.iSeqM, Dl.D.items, Dl.eCallF, Dl.callF, Dl.eMake, Dl.makeM, Dl.eFld, Dl.opFld, Dl.sPutF, Dl.opAdd, Dl.opSub, Dl.opMul, Dl.opFDiv, Dl.opMod, Dl.opPow, Dl.opNeg, Dl.opLt, Dl.opLe, Dl.opGt, Dl.opGe, Dl.opIs2, Dl.opIsNot2, Dl.opIsN, Dl.opNotN, Dl.D.isNon, Dl.opIx, Dl.opLen, Dl.opAbs, Dl.opMax2, Dl.opMin2, Dl.opInt1, Dl.opStrI, Dl.opList, Dl.opTuple, Dl.eIsi, Dl.isaD, Dl.D.bt, Dl.subB, Dl.sTry, Dl.tryH, Dl.endH, Dl.noExc, Dl.clearS, Dl.SV.isExc, Dl.eXf, Dl.eIsX, Dl.sRaise, Dl.hitL, L2.atI, L2.ixN, Dl.LIM]
      unfold sRet Dl.bindM
      rw [mkR (a := t * d) (b := b * e) (Int.mul_ne_zero h0 l0) (lt_mono (mul_lt hx.e he) (by omega)) (env1 := [.imm (rat t b), .imm (rat d e)]) (by simp [rat, m1, m3, Dl.sSeq, Dl.sIf, Dl.sRet, Dl.sRetN, Dl.sDrop, Dl.putM, Dl.sAsg, Dl.sAsgG, Dl.sNx, Dl.sBk, Dl.sCt, Dl.bindM, Dl.retM, Dl.liftM, Dl.settle, Dl.eVar, Dl.eC, Dl.eB, Dl.eNot, Dl.eAnd, Dl.eOr, Dl.eV, Dl.eIf, Dl.eAndV, Dl.eOrV, Dl.eOp2, Dl.eOp1, Dl.eOpn, Dl.op2M, Dl.op1M, Dl.opnM, Dl.eOp2R, Dl.peek, Dl.peeks, Dl.pNil, Dl.pCons, Dl.dNil, Dl.dCons, Dl.eTup, Dl.eLst, Dl.aNil, Dl.aSet, Dl.aLend, Dl.eCall, Dl.callM, Dl.alsOf, Dl.svsOf, Dl.svOf, Dl.backs, Dl.backSv, Dl.denOf, Dl.finC, Dl.outs, Dl.retRV, Dl.SV.arg, Dl.SV.lent, Dl.gNameM, Dl.gNilM, Dl.gConsM, Dl.gTupM, Dl.gSubM, Dl.isLst, Dl.sPar, Dl.sFor, Dl.forM, Dl.iSeqM, Dl.D.items, Dl.eCallF, Dl.callF, Dl.eMake, Dl.makeM, Dl.eFld, Dl.opFld, Dl.sPutF, Dl.opAdd, Dl.opSub, Dl.opFDiv, Dl.opMod, Dl.opPow, Dl.opNeg, Dl.opLt, Dl.opLe, Dl.opGt, Dl.opGe, Dl.opIs2, Dl.opIsNot2, Dl.opIsN, Dl.opNotN, Dl.D.isNon, Dl.opIx, Dl.opLen, Dl.opAbs, Dl.opMax2, Dl.opMin2, Dl.opInt1, Dl.opStrI, Dl.opList, Dl.opTuple, Dl.eIsi, Dl.isaD, Dl.D.bt, Dl.subB, Dl.sTry, Dl.tryH, Dl.endH, Dl.noExc, Dl.clearS, Dl.SV.isExc, Dl.eXf, Dl.eIsX, Dl.sRaise, Dl.hitL, L2.atI, L2.ixN, Dl.LIM])]
      rfl
    exact den_ret rfl rfl h2 rfl rfl
omit hn in
theorem bin_L {L R : List SV → Cal} {op0 : D → D → Option RV} {v : D} {us : List SV} (hy : sideB 2 y = true) (h : L [.imm (rat t b), .imm y] = .ok (.imm v) us) : opBin 2 L R op0 (rat t b) y = some (.imm v) := by
  unfold rat at *
  simp only [opBin]
  rw [if_pos ⟨trivial, hy⟩, h]
  rfl
omit hn in
theorem bin_R {L R : List SV → Cal} {op0 : D → D → Option RV} {v : D} {us : List SV} {i : Int} (h : R [.imm (rat t b), .imm (.int i)] = .ok (.imm v) us) : opBin 2 L R op0 (.int i) (rat t b) = some (.imm v) := by
  unfold rat at *
  simp only [opBin]
  rw [if_pos ⟨trivial, rfl⟩, h]
  rfl
omit hn in
theorem side_num (h : Num y d e) : sideB 2 y = true := by cases h <;> rfl
theorem radd_den {i : Int} (hx : Sz n (rat t b) t b) (hy : Sz n (.int i) i 1) : den_Ratio___radd__ [.imm (rat t b), .imm (.int i)] = .ok (.imm (rat (nT (i * b + t * 1) (1 * b)) (nB (i * b + t * 1) (1 * b)))) [.imm (rat t b), .imm (.int i)] := by
  have e := bin_L (R := nCal) (op0 := opAdd) (side_num hy.num) (add_den hn hx hy)
  rw [Int.add_comm, Int.mul_comm b 1] at e
  have h : b_Ratio___radd__ [.imm (rat t b), .imm (.int i)] = .ok (.ret (.imm (rat (nT (i * b + t * 1) (1 * b)) (nB (i * b + t * 1) (1 * b))))) [.imm (rat t b), .imm (.int i)] := by
    unfold b_Ratio___radd__
    refine seq_nx (if_pass (env1 := ?_) ?_) ?_
    rotate_left
    · simp [isI_int, Dl.sSeq, Dl.sIf, Dl.sRet, Dl.sRetN, Dl.sDrop, Dl.putM, Dl.sAsg, Dl.sAsgG, Dl.sNx, Dl.sBk, Dl.sCt, Dl.bindM, Dl.retM, Dl.liftM, Dl.settle, Dl.eVar, Dl.eC, Dl.eB, Dl.eNot, Dl.eAnd, Dl.eOr, Dl.eV, Dl.eIf, Dl.eAndV, Dl.eOrV, Dl.eOp2, Dl.eOp1, Dl.eOpn, Dl.op2M, Dl.op1M, Dl.opnM, Dl.eOp2R, Dl.peek, Dl.peeks, Dl.pNil, Dl.pCons, Dl.dNil, Dl.dCons, Dl.eTup, Dl.eLst, Dl.aNil, Dl.aSet, Dl.aLend, Dl.eCall, Dl.callM, Dl.alsOf, Dl.svsOf, Dl.svOf, Dl.backs, Dl.backSv, Dl.denOf, Dl.finC, Dl.outs, Dl.retRV, Dl.SV.arg, Dl.SV.lent, Dl.gNameM, Dl.gNilM, Dl.gConsM, Dl.gTupM, Dl.gSubM, Dl.isLst, Dl.sPar, Dl.sFor, Dl.forM, Dl.iSeqM, Dl.D.items, Dl.eCallF, Dl.callF, Dl.eMake, Dl.makeM, Dl.eFld, Dl.opFld, Dl.sPutF, Dl.opAdd, Dl.opSub, Dl.opMul, Dl.opFDiv, Dl.opMod, Dl.opPow, Dl.opNeg, Dl.opLt, Dl.opLe, Dl.opGt, Dl.opGe, Dl.opIs2, Dl.opIsNot2, Dl.opIsN, Dl.opNotN, Dl.D.isNon, Dl.opIx, Dl.opLen, Dl.opAbs, Dl.opMax2, Dl.opMin2, Dl.opInt1, Dl.opStrI, Dl.opList, Dl.opTuple, Dl.eIsi, Dl.isaD, Dl.D.bt, Dl.subB, Dl.sTry, Dl.tryH, Dl.endH, Dl.noExc, Dl.clearS, Dl.SV.isExc, Dl.eXf, Dl.eIsX, Dl.sRaise, Dl.hitL, L2.atI, L2.ixN, Dl.LIM]; exact rfl
    simp only [sRet, eOp2R, Dl.bindM, eVar, List.getElem?_cons_zero, List.getElem?_cons_succ, Dl.settle, Dl.retM, e]
  exact den_ret rfl rfl h rfl rfl
theorem rmul_den {i : Int} (hx : Sz n (rat t b) t b) (hy : Sz n (.int i) i 1) : den_Ratio___rmul__ [.imm (rat t b), .imm (.int i)] = .ok (.imm (rat (nT (i * t) (1 * b)) (nB (i * t) (1 * b)))) [.imm (rat t b), .imm (.int i)] := by
  have e := bin_L (R := nCal) (op0 := opMul) (side_num hy.num) (mul_den hn hx hy)
  rw [Int.mul_comm t i, Int.mul_comm b 1] at e
  have h : b_Ratio___rmul__ [.imm (rat t b), .imm (.int i)] = .ok (.ret (.imm (rat (nT (i * t) (1 * b)) (nB (i * t) (1 * b))))) [.imm (rat t b), .imm (.int i)] := by
    unfold b_Ratio___rmul__
    refine seq_nx (if_pass (env1 := ?_) ?_) ?_
    rotate_left
    · simp [isI_int, Dl.sSeq, Dl.sIf, Dl.sRet, Dl.sRetN, Dl.sDrop, Dl.putM, Dl.sAsg, Dl.sAsgG, Dl.sNx, Dl.sBk, Dl.sCt, Dl.bindM, Dl.retM, Dl.liftM, Dl.settle, Dl.eVar, Dl.eC, Dl.eB, Dl.eNot, Dl.eAnd, Dl.eOr, Dl.eV, Dl.eIf, Dl.eAndV, Dl.eOrV, Dl.eOp2, Dl.eOp1, Dl.eOpn, Dl.op2M, Dl.op1M, Dl.opnM, Dl.eOp2R, Dl.peek, Dl.peeks, Dl.pNil, Dl.pCons, Dl.dNil, Dl.dCons, Dl.eTup, Dl.eLst, Dl.aNil, Dl.aSet, Dl.aLend, Dl.eCall, Dl.callM, Dl.alsOf, Dl.svsOf, Dl.svOf, Dl.backs, Dl.backSv, Dl.denOf, Dl.finC, Dl.outs, Dl.retRV, Dl.SV.arg, Dl.SV.lent, Dl.gNameM, Dl.gNilM, Dl.gConsM, Dl.gTupM, Dl.gSubM, Dl.isLst, Dl.sPar, Dl.sFor, Dl.forM, Dl.iSeqM, Dl.D.items, Dl.eCallF, Dl.callF, Dl.eMake, Dl.makeM, Dl.eFld, Dl.opFld, Dl.sPutF, Dl.opAdd, Dl.opSub, Dl.opMul, Dl.opFDiv, Dl.opMod, Dl.opPow, Dl.opNeg, Dl.opLt, Dl.opLe, Dl.opGt, Dl.opGe, Dl.opIs2, Dl.opIsNot2, Dl.opIsN, Dl.opNotN, Dl.D.isNon, Dl.opIx, Dl.opLen, Dl.opAbs, Dl.opMax2, Dl.opMin2, Dl.opInt1, Dl.opStrI, Dl.opList, Dl.opTuple, Dl.eIsi, Dl.isaD, Dl.D.bt, Dl.subB, Dl.sTry, Dl.tryH, Dl.endH, Dl.noExc, Dl.clearS, Dl.SV.isExc, Dl.eXf, Dl.eIsX, Dl.sRaise, Dl.hitL, L2.atI, L2.ixN, Dl.LIM]; exact rfl
    simp only [sRet, eOp2R, Dl.bindM, eVar, List.getElem?_cons_zero, List.getElem?_cons_succ, Dl.settle, Dl.retM, e]
  exact den_ret rfl rfl h rfl rfl
theorem rsub_den {i : Int} (hx : Sz n (rat t b) t b) (hy : Sz n (.int i) i 1) : den_Ratio___rsub__ [.imm (rat t b), .imm (.int i)] = .ok (.imm (rat (nT (i * b - t * 1) (1 * b)) (nB (i * b - t * 1) (1 * b)))) [.imm (rat t b), .imm (.int i)] := by
  have m := muls hn hy.d hx.e
  rw [Int.mul_one, Int.one_mul]
  have h : b_Ratio___rsub__ [.imm (rat t b), .imm (.int i)] = .ok (.ret (.imm (rat (nT (i * b - t) b) (nB (i * b - t) b)))) [.imm (rat t b), .imm (.int i)] := by
    unfold b_Ratio___rsub__
    refine seq_nx (if_pass (env1 := ?_) ?_) ?_
    rotate_left
    · simp [isI_int, Dl.sSeq, Dl.sIf, Dl.sRet, Dl.sRetN, Dl.sDrop, Dl.putM, Dl.sAsg, Dl.sAsgG, Dl.sNx, Dl.sBk, Dl.sCt, Dl.bindM, Dl.retM, Dl.liftM, Dl.settle, Dl.eVar, Dl.eC, Dl.eB, Dl.eNot, Dl.eAnd, Dl.eOr, Dl.eV, Dl.eIf, Dl.eAndV, Dl.eOrV, Dl.eOp2, Dl.eOp1, Dl.eOpn, Dl.op2M, Dl.op1M, Dl.opnM, Dl.eOp2R, Dl.peek, Dl.peeks, Dl.pNil, Dl.pCons, Dl.dNil, Dl.dCons, Dl.eTup, Dl.eLst, Dl.aNil, Dl.aSet, Dl.aLend, Dl.eCall, Dl.callM, Dl.alsOf, Dl.svsOf, Dl.svOf, Dl.backs, Dl.backSv, Dl.denOf, Dl.finC, Dl.outs, Dl.retRV, Dl.SV.arg, Dl.SV.lent, Dl.gNameM, Dl.gNilM, Dl.gConsM, Dl.gTupM, Dl.gSubM, Dl.isLst, Dl.sPar, Dl.sFor, Dl.forM, Dl.iSeqM, Dl.D.items, Dl.eCallF, Dl.callF, Dl.eMake, Dl.makeM, Dl.eFld, Dl.opFld, Dl.sPutF, Dl.opAdd, Dl.opSub, Dl.opMul, Dl.opFDiv, Dl.opMod, Dl.opPow, Dl.opNeg, Dl.opLt, Dl.opLe, Dl.opGt, Dl.opGe, Dl.opIs2, Dl.opIsNot2, Dl.opIsN, Dl.opNotN, Dl.D.isNon, Dl.opIx, Dl.opLen, Dl.opAbs, Dl.opMax2, Dl.opMin2, Dl.opInt1, Dl.opStrI, Dl.opList, Dl.opTuple, Dl.eIsi, Dl.isaD, Dl.D.bt, Dl.subB, Dl.sTry, Dl.tryH, Dl.endH, Dl.noExc, Dl.clearS, Dl.SV.isExc, Dl.eXf, Dl.eIsX, Dl.sRaise, Dl.hitL, L2.atI, L2.ixN, Dl.LIM]; exact rfl
    unfold sRet Dl.bindM
    rw [mkR (a := i * b - t) (b := b) hx.ne (lt_mono hx.e (show n ≤ 800 by omega)) (env1 := [.imm (rat t b), .imm (.int i)]) (by simp [rat, m, Dl.sSeq, Dl.sIf, Dl.sRet, Dl.sRetN, Dl.sDrop, Dl.putM, Dl.sAsg, Dl.sAsgG, Dl.sNx, Dl.sBk, Dl.sCt, Dl.bindM, Dl.retM, Dl.liftM, Dl.settle, Dl.eVar, Dl.eC, Dl.eB, Dl.eNot, Dl.eAnd, Dl.eOr, Dl.eV, Dl.eIf, Dl.eAndV, Dl.eOrV, Dl.eOp2, Dl.eOp1, Dl.eOpn, Dl.op2M, Dl.op1M, Dl.opnM, Dl.eOp2R, Dl.peek, Dl.peeks, Dl.pNil, Dl.pCons, Dl.dNil, Dl.dCons, Dl.eTup, Dl.eLst, Dl.aNil, Dl.aSet, Dl.aLend, Dl.eCall, Dl.callM, Dl.alsOf, Dl.svsOf, Dl.svOf, Dl.backs, Dl.backSv, Dl.denOf, Dl.finC, Dl.outs, Dl.retRV, Dl.SV.arg, Dl.SV.lent, Dl.gNameM, Dl.gNilM, Dl.gConsM, Dl.gTupM, Dl.gSubM, Dl.isLst, Dl.sPar, Dl.sFor, Dl.forM, Dl.iSeqM, Dl.D.items, Dl.eCallF, Dl.callF, Dl.eMake, Dl.makeM, Dl.eFld, Dl.opFld, Dl.sPutF, Dl.opAdd, Dl.opSub, Dl.opFDiv, Dl.opMod, Dl.opPow, Dl.opNeg, Dl.opLt, Dl.opLe, Dl.opGt, Dl.opGe, Dl.opIs2, Dl.opIsNot2, Dl.opIsN, Dl.opNotN, Dl.D.isNon, Dl.opIx, Dl.opLen, Dl.opAbs, Dl.opMax2, Dl.opMin2, Dl.opInt1, Dl.opStrI, Dl.opList, Dl.opTuple, Dl.eIsi, Dl.isaD, Dl.D.bt, Dl.subB, Dl.sTry, Dl.tryH, Dl.endH, Dl.noExc, Dl.clearS, Dl.SV.isExc, Dl.eXf, Dl.eIsX, Dl.sRaise, Dl.hitL, L2.atI, L2.ixN, Dl.LIM])]
    rfl
  exact den_ret rfl rfl h rfl rfl
end
/-- what is due -/
def dueT (k d1 e1 d2 e2 : Int) : Int := if k = 0 then d1 * e2 + d2 * e1 else if k = 1 then d1 * e2 - d2 * e1 else d1 * d2
/-- one of both is a fraction -/
inductive Two : D → D → Prop
  | l (t b : Int) (y : D) : Two (rat t b) y
  | r (i t b : Int) : Two (.int i) (rat t b)
section
variable {n : Nat} (hn : n ≤ 240) {k : Int} (hk : 0 ≤ k ∧ k < 3) {x y : D} {d1 e1 d2 e2 : Int} (hx : Sz n x d1 e1) (hy : Sz n y d2 e2)
include hn hk hx hy
theorem done (tw : Two x y) : den__law_done [.imm (.int k), .imm x, .imm y] = .ok (.imm (rat (nT (dueT k d1 e1 d2 e2) (e1 * e2)) (nB (dueT k d1 e1 d2 e2) (e1 * e2)))) [.imm (.int k), .imm x, .imm y] := by
  have sx := side_num hx.num
  have sy := side_num hy.num
  have hE : ∀ {op0 : D → D → Option RV} {L R : List SV → Cal} {v : D}, opBin 2 L R op0 x y = some (.imm v) → sRet (eOp2R (opBin 2 L R op0) (eVar 1) (eVar 2)) [.imm (.int k), .imm x, .imm y] = .ok (.ret (.imm v)) [.imm (.int k), .imm x, .imm y] := fun h => by
    simp only [sRet, eOp2R, Dl.bindM, eVar, List.getElem?_cons_zero, List.getElem?_cons_succ, Dl.settle, Dl.retM, h]
  have main : ∀ v, (k = 0 → opBin 2 den_Ratio___add__ den_Ratio___radd__ opAdd x y = some (.imm v)) → (k = 1 → opBin 2 den_Ratio___sub__ den_Ratio___rsub__ opSub x y = some (.imm v)) → (k = 2 → opBin 2 den_Ratio___mul__ den_Ratio___rmul__ opMul x y = some (.imm v)) → den__law_done [.imm (.int k), .imm x, .imm y] = .ok (.imm v) [.imm (.int k), .imm x, .imm y] := fun v h0 h1 h2 => by
    have h : b__law_done [.imm (.int k), .imm x, .imm y] = .ok (.ret (.imm v)) [.imm (.int k), .imm x, .imm y] := by
      unfold b__law_done
      by_cases k0 : k = 0
      · refine seq_ret (if_t (env1 := [.imm (.int k), .imm x, .imm y]) ?_ (hE (h0 k0)))
        simp [eqA_int, k0, Dl.sSeq, Dl.sIf, Dl.sRet, Dl.sRetN, Dl.sDrop, Dl.putM, Dl.sAsg, Dl.sAsgG, Dl.sNx, Dl.sBk, Dl.sCt, Dl.bindM, Dl.retM, Dl.liftM, Dl.settle, Dl.eVar, Dl.eC, Dl.eB, Dl.eNot, Dl.eAnd, Dl.eOr, Dl.eV, Dl.eIf, Dl.eAndV, Dl.eOrV, Dl.eOp2, Dl.eOp1, Dl.eOpn, Dl.op2M, Dl.op1M, Dl.opnM, Dl.eOp2R, Dl.peek, Dl.peeks, Dl.pNil, Dl.pCons, Dl.dNil, Dl.dCons, Dl.eTup, Dl.eLst, Dl.aNil, Dl.aSet, Dl.aLend, Dl.eCall, Dl.callM, Dl.alsOf, Dl.svsOf, Dl.svOf, Dl.backs, Dl.backSv, Dl.denOf, Dl.finC, Dl.outs, Dl.retRV, Dl.SV.arg, Dl.SV.lent, Dl.gNameM, Dl.gNilM, Dl.gConsM, Dl.gTupM, Dl.gSubM, Dl.isLst, Dl.sPar, Dl.sFor, Dl.forM, Dl.iSeqM, Dl.D.items, Dl.eCallF, Dl.callF, Dl.eMake, Dl.makeM, Dl.eFld, Dl.opFld, Dl.sPutF, Dl.opAdd, Dl.opSub, Dl.opMul, Dl.opFDiv, Dl.opMod, Dl.opPow, Dl.opNeg, Dl.opLt, Dl.opLe, Dl.opGt, Dl.opGe, Dl.opIs2, Dl.opIsNot2, Dl.opIsN, Dl.opNotN, Dl.D.isNon, Dl.opIx, Dl.opLen, Dl.opAbs, Dl.opMax2, Dl.opMin2, Dl.opInt1, Dl.opStrI, Dl.opList, Dl.opTuple, Dl.eIsi, Dl.isaD, Dl.D.bt, Dl.subB, Dl.sTry, Dl.tryH, Dl.endH, Dl.noExc, Dl.clearS, Dl.SV.isExc, Dl.eXf, Dl.eIsX, Dl.sRaise, Dl.hitL, L2.atI, L2.ixN, Dl.LIM]
      · refine seq_nx (env1 := [.imm (.int k), .imm x, .imm y]) (if_pass ?_) ?_
        · simp [eqA_int, k0, Dl.sSeq, Dl.sIf, Dl.sRet, Dl.sRetN, Dl.sDrop, Dl.putM, Dl.sAsg, Dl.sAsgG, Dl.sNx, Dl.sBk, Dl.sCt, Dl.bindM, Dl.retM, Dl.liftM, Dl.settle, Dl.eVar, Dl.eC, Dl.eB, Dl.eNot, Dl.eAnd, Dl.eOr, Dl.eV, Dl.eIf, Dl.eAndV, Dl.eOrV, Dl.eOp2, Dl.eOp1, Dl.eOpn, Dl.op2M, Dl.op1M, Dl.opnM, Dl.eOp2R, Dl.peek, Dl.peeks, Dl.pNil, Dl.pCons, Dl.dNil, Dl.dCons, Dl.eTup, Dl.eLst, Dl.aNil, Dl.aSet, Dl.aLend, Dl.eCall, Dl.callM, Dl.alsOf, Dl.svsOf, Dl.svOf, Dl.backs, Dl.backSv, Dl.denOf, Dl.finC, Dl.outs, Dl.retRV, Dl.SV.arg, Dl.SV.lent, Dl.gNameM, Dl.gNilM, Dl.gConsM, Dl.gTupM, Dl.gSubM, Dl.isLst, Dl.sPar, Dl.sFor, Dl.forM, Dl.iSeqM, Dl.D.items, Dl.eCallF, Dl.callF, Dl.eMake, Dl.makeM, Dl.eFld, Dl.opFld, Dl.sPutF, Dl.opAdd, Dl.opSub, Dl.opMul, Dl.opFDiv, Dl.opMod, Dl.opPow, Dl.opNeg, Dl.opLt, Dl.opLe, Dl.opGt, Dl.opGe, Dl.opIs2, Dl.opIsNot2, Dl.opIsN, Dl.opNotN, Dl.D.isNon, Dl.opIx, Dl.opLen, Dl.opAbs, Dl.opMax2, Dl.opMin2, Dl.opInt1, Dl.opStrI, Dl.opList, Dl.opTuple, Dl.eIsi, Dl.isaD, Dl.D.bt, Dl.subB, Dl.sTry, Dl.tryH, Dl.endH, Dl.noExc, Dl.clearS, Dl.SV.isExc, Dl.eXf, Dl.eIsX, Dl.sRaise, Dl.hitL, L2.atI, L2.ixN, Dl.LIM]
        by_cases k1 : k = 1
        · refine seq_ret (if_t (env1 := [.imm (.int k), .imm x, .imm y]) ?_ (hE (h1 k1)))
          simp [eqA_int, k1, Dl.sSeq, Dl.sIf, Dl.sRet, Dl.sRetN, Dl.sDrop, Dl.putM, Dl.sAsg, Dl.sAsgG, Dl.sNx, Dl.sBk, Dl.sCt, Dl.bindM, Dl.retM, Dl.liftM, Dl.settle, Dl.eVar, Dl.eC, Dl.eB, Dl.eNot, Dl.eAnd, Dl.eOr, Dl.eV, Dl.eIf, Dl.eAndV, Dl.eOrV, Dl.eOp2, Dl.eOp1, Dl.eOpn, Dl.op2M, Dl.op1M, Dl.opnM, Dl.eOp2R, Dl.peek, Dl.peeks, Dl.pNil, Dl.pCons, Dl.dNil, Dl.dCons, Dl.eTup, Dl.eLst, Dl.aNil, Dl.aSet, Dl.aLend, Dl.eCall, Dl.callM, Dl.alsOf, Dl.svsOf, Dl.svOf, Dl.backs, Dl.backSv, Dl.denOf, Dl.finC, Dl.outs, Dl.retRV, Dl.SV.arg, Dl.SV.lent, Dl.gNameM, Dl.gNilM, Dl.gConsM, Dl.gTupM, Dl.gSubM, Dl.isLst, Dl.sPar, Dl.sFor, Dl.forM, Dl.iSeqM, Dl.D.items, Dl.eCallF, Dl.callF, Dl.eMake, Dl.makeM, Dl.eFld, Dl.opFld, Dl.sPutF, Dl.opAdd, Dl.opSub, Dl.opMul, Dl.opFDiv, Dl.opMod, Dl.opPow, Dl.opNeg, Dl.opLt, Dl.opLe, Dl.opGt, Dl.opGe, Dl.opIs2, Dl.opIsNot2, Dl.opIsN, Dl.opNotN, Dl.D.isNon, Dl.opIx, Dl.opLen, Dl.opAbs, Dl.opMax2, Dl.opMin2, Dl.opInt1, Dl.opStrI, Dl.opList, Dl.opTuple, Dl.eIsi, Dl.isaD, Dl.D.bt, Dl.subB, Dl.sTry, Dl.tryH, Dl.endH, Dl.noExc, Dl.clearS, Dl.SV.isExc, Dl.eXf, Dl.eIsX, Dl.sRaise, Dl.hitL, L2.atI, L2.ixN, Dl.LIM]
        · refine seq_nx (env1 := [.imm (.int k), .imm x, .imm y]) (if_pass ?_) (hE (h2 (by omega)))
          simp [eqA_int, k1, Dl.sSeq, Dl.sIf, Dl.sRet, Dl.sRetN, Dl.sDrop, Dl.putM, Dl.sAsg, Dl.sAsgG, Dl.sNx, Dl.sBk, Dl.sCt, Dl.bindM, Dl.retM, Dl.liftM, Dl.settle, Dl.eVar, Dl.eC, Dl.eB, Dl.eNot, Dl.eAnd, Dl.eOr, Dl.eV, Dl.eIf, Dl.eAndV, Dl.eOrV, Dl.eOp2, Dl.eOp1, Dl.eOpn, Dl.op2M, Dl.op1M, Dl.opnM, Dl.eOp2R, Dl.peek, Dl.peeks, Dl.pNil, Dl.pCons, Dl.dNil, Dl.dCons, Dl.eTup, Dl.eLst, Dl.aNil, Dl.aSet, Dl.aLend, Dl.eCall, Dl.callM, Dl.alsOf, Dl.svsOf, Dl.svOf, Dl.backs, Dl.backSv, Dl.denOf, Dl.finC, Dl.outs, Dl.retRV, Dl.SV.arg, Dl.SV.lent, Dl.gNameM, Dl.gNilM, Dl.gConsM, Dl.gTupM, Dl.gSubM, Dl.isLst, Dl.sPar, Dl.sFor, Dl.forM, Dl.iSeqM, Dl.D.items, Dl.eCallF, Dl.callF, Dl.eMake, Dl.makeM, Dl.eFld, Dl.opFld, Dl.sPutF, Dl.opAdd, Dl.opSub, Dl.opMul, Dl.opFDiv, Dl.opMod, Dl.opPow, Dl.opNeg, Dl.opLt, Dl.opLe, Dl.opGt, Dl.opGe, Dl.opIs2, Dl.opIsNot2, Dl.opIsN, Dl.opNotN, Dl.D.isNon, Dl.opIx, Dl.opLen, Dl.opAbs, Dl.opMax2, Dl.opMin2, Dl.opInt1, Dl.opStrI, Dl.opList, Dl.opTuple, Dl.eIsi, Dl.isaD, Dl.D.bt, Dl.subB, Dl.sTry, Dl.tryH, Dl.endH, Dl.noExc, Dl.clearS, Dl.SV.isExc, Dl.eXf, Dl.eIsX, Dl.sRaise, Dl.hitL, L2.atI, L2.ixN, Dl.LIM]
    exact den_ret rfl rfl h rfl rfl
  cases tw with
  | l t b y =>
    have : t = d1 ∧ b = e1 := by
      obtain ⟨hx, _, _⟩ := hx
      generalize hz : rat t b = z at hx
      cases hx with
      | int h => cases hz
      | rat l h1 h2 => cases hz; exact ⟨rfl, rfl⟩
    obtain ⟨rfl, rfl⟩ := this
    refine main _ (fun h => ?_) (fun h => ?_) (fun h => ?_)
    · subst h; exact bin_L sy (add_den hn hx hy)
    · subst h; exact bin_L sy (sub_den hn hx hy)
    · subst h; exact bin_L sy (mul_den hn hx hy)
  | r i t b =>
    have a1 : i = d1 ∧ e1 = 1 := by
      obtain ⟨hx, _, _⟩ := hx
      generalize hz : D.int i = z at hx
      cases hx with
      | int h => cases hz; exact ⟨rfl, rfl⟩
      | rat l h1 h2 => cases hz
    obtain ⟨rfl, rfl⟩ := a1
    have a2 : t = d2 ∧ b = e2 := by
      obtain ⟨hy, _, _⟩ := hy
      generalize hz : rat t b = z at hy
      cases hy with
      | int h => cases hz
      | rat l h1 h2 => cases hz; exact ⟨rfl, rfl⟩
    obtain ⟨rfl, rfl⟩ := a2
    refine main _ (fun h => ?_) (fun h => ?_) (fun h => ?_)
    · subst h; exact bin_R (radd_den hn hy hx)
    · subst h; exact bin_R (rsub_den hn hy hx)
    · subst h; exact bin_R (rmul_den hn hy hx)
theorem due_lt : (dueT k d1 e1 d2 e2).natAbs < 2 ^ (n + n + 1) := by
  have a1 := mul_lt hx.d hy.e
  have a2 := mul_lt hy.d hx.e
  have a3 := mul_lt hx.d hy.d
  unfold dueT
  split
  · exact add_lt a1 a2
  · split
    · exact sub_lt a1 a2
    · exact lt_mono a3 (by omega)
theorem sum : den__law_sum [.imm (.int k), .imm (.tup [.int d1, .int e1]), .imm (.tup [.int d2, .int e2])] = .ok (.imm (.tup [.int (nT (dueT k d1 e1 d2 e2) (e1 * e2)), .int (nB (dueT k d1 e1 d2 e2) (e1 * e2))])) [.imm (.int k), .imm (.tup [.int d1, .int e1]), .imm (.tup [.int d2, .int e2])] := by
  have m1 := muls hn hx.d hy.e
  have m2 := muls hn hy.d hx.e
  have m3 := muls hn hx.e hy.e
  have m4 := muls hn hx.d hy.d
  have w := lowest (dueT k d1 e1 d2 e2) (e1 * e2) (Int.mul_ne_zero hx.ne hy.ne) (lt_mono (mul_lt hx.e hy.e) (by omega))
  have h : b__law_sum [.imm (.int k), .imm (.tup [.int d1, .int e1]), .imm (.tup [.int d2, .int e2])] = .ok (.ret (.imm (.tup [.int (nT (dueT k d1 e1 d2 e2) (e1 * e2)), .int (nB (dueT k d1 e1 d2 e2) (e1 * e2))]))) [.imm (.int k), .imm (.tup [.int d1, .int e1]), .imm (.tup [.int d2, .int e2])] := by
    unfold b__law_sum
    unfold dueT at *
    by_cases k0 : k = 0
    · rw [if_pos k0] at w ⊢
      generalize nT (d1 * e2 + d2 * e1) (e1 * e2) = p at *
      generalize nB (d1 * e2 + d2 * e1) (e1 * e2) = q at *
      refine seq_ret (if_t (env1 := [.imm (.int k), .imm (.tup [.int d1, .int e1]), .imm (.tup [.int d2, .int e2])]) ?_ ?_)
      · simp [eqA_int, k0, Dl.sSeq, Dl.sIf, Dl.sRet, Dl.sRetN, Dl.sDrop, Dl.putM, Dl.sAsg, Dl.sAsgG, Dl.sNx, Dl.sBk, Dl.sCt, Dl.bindM, Dl.retM, Dl.liftM, Dl.settle, Dl.eVar, Dl.eC, Dl.eB, Dl.eNot, Dl.eAnd, Dl.eOr, Dl.eV, Dl.eIf, Dl.eAndV, Dl.eOrV, Dl.eOp2, Dl.eOp1, Dl.eOpn, Dl.op2M, Dl.op1M, Dl.opnM, Dl.eOp2R, Dl.peek, Dl.peeks, Dl.pNil, Dl.pCons, Dl.dNil, Dl.dCons, Dl.eTup, Dl.eLst, Dl.aNil, Dl.aSet, Dl.aLend, Dl.eCall, Dl.callM, Dl.alsOf, Dl.svsOf, Dl.svOf, Dl.backs, Dl.backSv, Dl.denOf, Dl.finC, Dl.outs, Dl.retRV, Dl.SV.arg, Dl.SV.lent, Dl.gNameM, Dl.gNilM, Dl.gConsM, Dl.gTupM, Dl.gSubM, Dl.isLst, Dl.sPar, Dl.sFor, Dl.forM, Dl.iSeqM, Dl.D.items, Dl.eCallF, Dl.callF, Dl.eMake, Dl.makeM, Dl.eFld, Dl.opFld, Dl.sPutF, Dl.opAdd, Dl.opSub, Dl.opMul, Dl.opFDiv, Dl.opMod, Dl.opPow, Dl.opNeg, Dl.opLt, Dl.opLe, Dl.opGt, Dl.opGe, Dl.opIs2, Dl.opIsNot2, Dl.opIsN, Dl.opNotN, Dl.D.isNon, Dl.opIx, Dl.opLen, Dl.opAbs, Dl.opMax2, Dl.opMin2, Dl.opInt1, Dl.opStrI, Dl.opList, Dl.opTuple, Dl.eIsi, Dl.isaD, Dl.D.bt, Dl.subB, Dl.sTry, Dl.tryH, Dl.endH, Dl.noExc, Dl.clearS, Dl.SV.isExc, Dl.eXf, Dl.eIsX, Dl.sRaise, Dl.hitL, L2.atI, L2.ixN, Dl.LIM]
      · simp [m1, m2, m3, w, Dl.sSeq, Dl.sIf, Dl.sRet, Dl.sRetN, Dl.sDrop, Dl.putM, Dl.sAsg, Dl.sAsgG, Dl.sNx, Dl.sBk, Dl.sCt, Dl.bindM, Dl.retM, Dl.liftM, Dl.settle, Dl.eVar, Dl.eC, Dl.eB, Dl.eNot, Dl.eAnd, Dl.eOr, Dl.eV, Dl.eIf, Dl.eAndV, Dl.eOrV, Dl.eOp2, Dl.eOp1, Dl.eOpn, Dl.op2M, Dl.op1M, Dl.opnM, Dl.eOp2R, Dl.peek, Dl.peeks, Dl.pNil, Dl.pCons, Dl.dNil, Dl.dCons, Dl.eTup, Dl.eLst, Dl.aNil, Dl.aSet, Dl.aLend, Dl.eCall, Dl.callM, Dl.alsOf, Dl.svsOf, Dl.svOf, Dl.backs, Dl.backSv, Dl.denOf, Dl.finC, Dl.outs, Dl.retRV, Dl.SV.arg, Dl.SV.lent, Dl.gNameM, Dl.gNilM, Dl.gConsM, Dl.gTupM, Dl.gSubM, Dl.isLst, Dl.sPar, Dl.sFor, Dl.forM, Dl.iSeqM, Dl.D.items, Dl.eCallF, Dl.callF, Dl.eMake, Dl.makeM, Dl.eFld, Dl.opFld, Dl.sPutF, Dl.opAdd, Dl.opSub, Dl.opFDiv, Dl.opMod, Dl.opPow, Dl.opNeg, Dl.opLt, Dl.opLe, Dl.opGt, Dl.opGe, Dl.opIs2, Dl.opIsNot2, Dl.opIsN, Dl.opNotN, Dl.D.isNon, Dl.opIx, Dl.opLen, Dl.opAbs, Dl.opMax2, Dl.opMin2, Dl.opInt1, Dl.opStrI, Dl.opList, Dl.opTuple, Dl.eIsi, Dl.isaD, Dl.D.bt, Dl.subB, Dl.sTry, Dl.tryH, Dl.endH, Dl.noExc, Dl.clearS, Dl.SV.isExc, Dl.eXf, Dl.eIsX, Dl.sRaise, Dl.hitL, L2.atI, L2.ixN, Dl.LIM]
    · rw [if_neg k0] at w ⊢
      refine seq_nx (env1 := [.imm (.int k), .imm (.tup [.int d1, .int e1]), .imm (.tup [.int d2, .int e2])]) (if_pass ?_) ?_
      · simp [eqA_int, k0, Dl.sSeq, Dl.sIf, Dl.sRet, Dl.sRetN, Dl.sDrop, Dl.putM, Dl.sAsg, Dl.sAsgG, Dl.sNx, Dl.sBk, Dl.sCt, Dl.bindM, Dl.retM, Dl.liftM, Dl.settle, Dl.eVar, Dl.eC, Dl.eB, Dl.eNot, Dl.eAnd, Dl.eOr, Dl.eV, Dl.eIf, Dl.eAndV, Dl.eOrV, Dl.eOp2, Dl.eOp1, Dl.eOpn, Dl.op2M, Dl.op1M, Dl.opnM, Dl.eOp2R, Dl.peek, Dl.peeks, Dl.pNil, Dl.pCons, Dl.dNil, Dl.dCons, Dl.eTup, Dl.eLst, Dl.aNil, Dl.aSet, Dl.aLend, Dl.eCall, Dl.callM, Dl.alsOf, Dl.svsOf, Dl.svOf, Dl.backs, Dl.backSv, Dl.denOf, Dl.finC, Dl.outs, Dl.retRV, Dl.SV.arg, Dl.SV.lent, Dl.gNameM, Dl.gNilM, Dl.gConsM, Dl.gTupM, Dl.gSubM, Dl.isLst, Dl.sPar, Dl.sFor, Dl.forM, Dl.iSeqM, Dl.D.items, Dl.eCallF, Dl.callF, Dl.eMake, Dl.makeM, Dl.eFld, Dl.opFld, Dl.sPutF, Dl.opAdd, Dl.opSub, Dl.opMul, Dl.opFDiv, Dl.opMod, Dl.opPow, Dl.opNeg, Dl.opLt, Dl.opLe, Dl.opGt, Dl.opGe, Dl.opIs2, Dl.opIsNot2, Dl.opIsN, Dl.opNotN, Dl.D.isNon, Dl.opIx, Dl.opLen, Dl.opAbs, Dl.opMax2, Dl.opMin2, Dl.opInt1, Dl.opStrI, Dl.opList, Dl.opTuple, Dl.eIsi, Dl.isaD, Dl.D.bt, Dl.subB, Dl.sTry, Dl.tryH, Dl.endH, Dl.noExc, Dl.clearS, Dl.SV.isExc, Dl.eXf, Dl.eIsX, Dl.sRaise, Dl.hitL, L2.atI, L2.ixN, Dl.LIM]
      by_cases k1 : k = 1
      · rw [if_pos k1] at w ⊢
        generalize nT (d1 * e2 - d2 * e1) (e1 * e2) = p at *
        generalize nB (d1 * e2 - d2 * e1) (e1 * e2) = q at *
        refine seq_ret (if_t (env1 := [.imm (.int k), .imm (.tup [.int d1, .int e1]), .imm (.tup [.int d2, .int e2])]) ?_ ?_)
        · simp [eqA_int, k1, Dl.sSeq, Dl.sIf, Dl.sRet, Dl.sRetN, Dl.sDrop, Dl.putM, Dl.sAsg, Dl.sAsgG, Dl.sNx, Dl.sBk, Dl.sCt, Dl.bindM, Dl.retM, Dl.liftM, Dl.settle, Dl.eVar, Dl.eC, Dl.eB, Dl.eNot, Dl.eAnd, Dl.eOr, Dl.eV, Dl.eIf, Dl.eAndV, Dl.eOrV, Dl.eOp2, Dl.eOp1, Dl.eOpn, Dl.op2M, Dl.op1M, Dl.opnM, Dl.eOp2R, Dl.peek, Dl.peeks, Dl.pNil, Dl.pCons, Dl.dNil, Dl.dCons, Dl.eTup, Dl.eLst, Dl.aNil, Dl.aSet, Dl.aLend, Dl.eCall, Dl.callM, Dl.alsOf, Dl.svsOf, Dl.svOf, Dl.backs, Dl.backSv, Dl.denOf, Dl.finC, Dl.outs, Dl.retRV, Dl.SV.arg, Dl.SV.lent, Dl.gNameM, Dl.gNilM, Dl.gConsM, Dl.gTupM, Dl.gSubM, Dl.isLst, Dl.sPar, Dl.sFor, Dl.forM, Dl.iSeqM, Dl.D.items, Dl.eCallF, Dl.callF, Dl.eMake, Dl.makeM, Dl.eFld, Dl.opFld, Dl.sPutF, Dl.opAdd, Dl.opSub, Dl.opMul, Dl.opFDiv, Dl.opMod, Dl.opPow, Dl.opNeg, Dl.opLt, Dl.opLe, Dl.opGt, Dl.opGe, Dl.opIs2, Dl.opIsNot2, Dl.opIsN, Dl.opNotN, Dl.D.isNon, Dl.opIx, Dl.opLen, Dl.opAbs, Dl.opMax2, Dl.opMin2, Dl.opInt1, Dl.opStrI, Dl.opList, Dl.opTuple, Dl.eIsi, Dl.isaD, Dl.D.bt, Dl.subB, Dl.sTry, Dl.tryH, Dl.endH, Dl.noExc, Dl.clearS, Dl.SV.isExc, Dl.eXf, Dl.eIsX, Dl.sRaise, Dl.hitL, L2.atI, L2.ixN, Dl.LIM]
        · simp [m1, m2, m3, w, Dl.sSeq, Dl.sIf, Dl.sRet, Dl.sRetN, Dl.sDrop, Dl.putM, Dl.sAsg, Dl.sAsgG, Dl.sNx, Dl.sBk, Dl.sCt, Dl.bindM, Dl.retM, Dl.liftM, Dl.settle, Dl.eVar, Dl.eC, Dl.eB, Dl.eNot, Dl.eAnd, Dl.eOr, Dl.eV, Dl.eIf, Dl.eAndV, Dl.eOrV, Dl.eOp2, Dl.eOp1, Dl.eOpn, Dl.op2M, Dl.op1M, Dl.opnM, Dl.eOp2R, Dl.peek, Dl.peeks, Dl.pNil, Dl.pCons, Dl.dNil, Dl.dCons, Dl.eTup, Dl.eLst, Dl.aNil, Dl.aSet, Dl.aLend, Dl.eCall, Dl.callM, Dl.alsOf, Dl.svsOf, Dl.svOf, Dl.backs, Dl.backSv, Dl.denOf, Dl.finC, Dl.outs, Dl.retRV, Dl.SV.arg, Dl.SV.lent, Dl.gNameM, Dl.gNilM, Dl.gConsM, Dl.gTupM, Dl.gSubM, Dl.isLst, Dl.sPar, Dl.sFor, Dl.forM, Dl.iSeqM, Dl.D.items, Dl.eCallF, Dl.callF, Dl.eMake, Dl.makeM, Dl.eFld, Dl.opFld, Dl.sPutF, Dl.opAdd, Dl.opSub, Dl.opFDiv, Dl.opMod, Dl.opPow, Dl.opNeg, Dl.opLt, Dl.opLe, Dl.opGt, Dl.opGe, Dl.opIs2, Dl.opIsNot2, Dl.opIsN, Dl.opNotN, Dl.D.isNon, Dl.opIx, Dl.opLen, Dl.opAbs, Dl.opMax2, Dl.opMin2, Dl.opInt1, Dl.opStrI, Dl.opList, Dl.opTuple, Dl.eIsi, Dl.isaD, Dl.D.bt, Dl.subB, Dl.sTry, Dl.tryH, Dl.endH, Dl.noExc, Dl.clearS, Dl.SV.isExc, Dl.eXf, Dl.eIsX, Dl.sRaise, Dl.hitL, L2.atI, L2.ixN, Dl.LIM]
      · rw [if_neg k1] at w ⊢
        generalize nT (d1 * d2) (e1 * e2) = p at *
        generalize nB (d1 * d2) (e1 * e2) = q at *
        refine seq_nx (env1 := [.imm (.int k), .imm (.tup [.int d1, .int e1]), .imm (.tup [.int d2, .int e2])]) (if_pass ?_) ?_
        · simp [eqA_int, k1, Dl.sSeq, Dl.sIf, Dl.sRet, Dl.sRetN, Dl.sDrop, Dl.putM, Dl.sAsg, Dl.sAsgG, Dl.sNx, Dl.sBk, Dl.sCt, Dl.bindM, Dl.retM, Dl.liftM, Dl.settle, Dl.eVar, Dl.eC, Dl.eB, Dl.eNot, Dl.eAnd, Dl.eOr, Dl.eV, Dl.eIf, Dl.eAndV, Dl.eOrV, Dl.eOp2, Dl.eOp1, Dl.eOpn, Dl.op2M, Dl.op1M, Dl.opnM, Dl.eOp2R, Dl.peek, Dl.peeks, Dl.pNil, Dl.pCons, Dl.dNil, Dl.dCons, Dl.eTup, Dl.eLst, Dl.aNil, Dl.aSet, Dl.aLend, Dl.eCall, Dl.callM, Dl.alsOf, Dl.svsOf, Dl.svOf, Dl.backs, Dl.backSv, Dl.denOf, Dl.finC, Dl.outs, Dl.retRV, Dl.SV.arg, Dl.SV.lent, Dl.gNameM, Dl.gNilM, Dl.gConsM, Dl.gTupM, Dl.gSubM, Dl.isLst, Dl.sPar, Dl.sFor, Dl.forM, Dl.iSeqM, Dl.D.items, Dl.eCallF, Dl.callF, Dl.eMake, Dl.makeM, Dl.eFld, Dl.opFld, Dl.sPutF, Dl.opAdd, Dl.opSub, Dl.opMul, Dl.opFDiv, Dl.opMod, Dl.opPow, Dl.opNeg, Dl.opLt, Dl.opLe, Dl.opGt, Dl.opGe, Dl.opIs2, Dl.opIsNot2, Dl.opIsN, Dl.opNotN, Dl.D.isNon, Dl.opIx, Dl.opLen, Dl.opAbs, Dl.opMax2, Dl.opMin2, Dl.opInt1, Dl.opStrI, Dl.opList, Dl.opTuple, Dl.eIsi, Dl.isaD, Dl.D.bt, Dl.subB, Dl.sTry, Dl.tryH, Dl.endH, Dl.noExc, Dl.clearS, Dl.SV.isExc, Dl.eXf, Dl.eIsX, Dl.sRaise, Dl.hitL, L2.atI, L2.ixN, Dl.LIM]
        · simp [m4, m3, w, Dl.sSeq, Dl.sIf, Dl.sRet, Dl.sRetN, Dl.sDrop, Dl.putM, Dl.sAsg, Dl.sAsgG, Dl.sNx, Dl.sBk, Dl.sCt, Dl.bindM, Dl.retM, Dl.liftM, Dl.settle, Dl.eVar, Dl.eC, Dl.eB, Dl.eNot, Dl.eAnd, Dl.eOr, Dl.eV, Dl.eIf, Dl.eAndV, Dl.eOrV, Dl.eOp2, Dl.eOp1, Dl.eOpn, Dl.op2M, Dl.op1M, Dl.opnM, Dl.eOp2R, Dl.peek, Dl.peeks, Dl.pNil, Dl.pCons, Dl.dNil, Dl.dCons, Dl.eTup, Dl.eLst, Dl.aNil, Dl.aSet, Dl.aLend, Dl.eCall, Dl.callM, Dl.alsOf, Dl.svsOf, Dl.svOf, Dl.backs, Dl.backSv, Dl.denOf, Dl.finC, Dl.outs, Dl.retRV, Dl.SV.arg, Dl.SV.lent, Dl.gNameM, Dl.gNilM, Dl.gConsM, Dl.gTupM, Dl.gSubM, Dl.isLst, Dl.sPar, Dl.sFor, Dl.forM, Dl.iSeqM, Dl.D.items, Dl.eCallF, Dl.callF, Dl.eMake, Dl.makeM, Dl.eFld, Dl.opFld, Dl.sPutF, Dl.opAdd, Dl.opSub, Dl.opFDiv, Dl.opMod, Dl.opPow, Dl.opNeg, Dl.opLt, Dl.opLe, Dl.opGt, Dl.opGe, Dl.opIs2, Dl.opIsNot2, Dl.opIsN, Dl.opNotN, Dl.D.isNon, Dl.opIx, Dl.opLen, Dl.opAbs, Dl.opMax2, Dl.opMin2, Dl.opInt1, Dl.opStrI, Dl.opList, Dl.opTuple, Dl.eIsi, Dl.isaD, Dl.D.bt, Dl.subB, Dl.sTry, Dl.tryH, Dl.endH, Dl.noExc, Dl.clearS, Dl.SV.isExc, Dl.eXf, Dl.eIsX, Dl.sRaise, Dl.hitL, L2.atI, L2.ixN, Dl.LIM]
  exact den_ret rfl rfl h rfl rfl
end
end L01
namespace L01
open PySem PySem.Spec PyProof.Rows L2 Dl
theorem Src.up {j k : Int} {zs : List D} (h : Src j zs) (hj : j ≤ k) : Src k zs := by
  obtain ⟨n, f, c, s, e, hc, hs⟩ := h
  exact ⟨n, f, c, s, e, ⟨hc.1, by omega⟩, hs⟩
theorem at_mem {α : Type} {xs : List α} {r : Int} (h0 : 0 ≤ r) (h : r < xs.length) : ∃ v, v ∈ xs ∧ atI xs r = some v := by
  have hk : r.toNat < xs.length := by omega
  exact ⟨xs[r.toNat], List.getElem_mem hk, by simp [atI, ixN, h0, h, hk]⟩
theorem odd {k : Int} {xs : List D} (h : Src k xs) (hk : k ≤ 1000) : ∃ v ys, v ∈ O ∧ Src (k + 1) ys ∧ den__law_odd [.brw xs] = .ok (.imm v) [.brw ys] := by
  obtain ⟨r, ys, h0, h1, hs, e⟩ := draw_src h hk (m := 12) (by decide) (by decide)
  obtain ⟨v, hv, ev⟩ := at_mem (xs := O) h0 h1
  refine ⟨v, ys, hv, hs, ?_⟩
  have e2 : opIx (.lst O) (.int r) = some (.imm v) := by simp [opIx, Dl.D.items, ev]
  unfold O at e2
  simp [den__law_odd, b__law_odd, e, e2, Dl.sSeq, Dl.sIf, Dl.sRet, Dl.sRetN, Dl.sDrop, Dl.putM, Dl.sAsg, Dl.sAsgG, Dl.sNx, Dl.sBk, Dl.sCt, Dl.bindM, Dl.retM, Dl.liftM, Dl.settle, Dl.eVar, Dl.eC, Dl.eB, Dl.eNot, Dl.eAnd, Dl.eOr, Dl.eV, Dl.eIf, Dl.eAndV, Dl.eOrV, Dl.eOp2, Dl.eOp1, Dl.eOpn, Dl.op2M, Dl.op1M, Dl.opnM, Dl.eOp2R, Dl.peek, Dl.peeks, Dl.pNil, Dl.pCons, Dl.dNil, Dl.dCons, Dl.eTup, Dl.eLst, Dl.aNil, Dl.aSet, Dl.aLend, Dl.eCall, Dl.callM, Dl.alsOf, Dl.svsOf, Dl.svOf, Dl.backs, Dl.backSv, Dl.denOf, Dl.finC, Dl.outs, Dl.retRV, Dl.SV.arg, Dl.SV.lent, Dl.gNameM, Dl.gNilM, Dl.gConsM, Dl.gTupM, Dl.gSubM, Dl.isLst, Dl.sPar, Dl.sFor, Dl.forM, Dl.iSeqM, Dl.D.items, Dl.eCallF, Dl.callF, Dl.eMake, Dl.makeM, Dl.eFld, Dl.opFld, Dl.sPutF, Dl.opAdd, Dl.opSub, Dl.opMul, Dl.opFDiv, Dl.opMod, Dl.opPow, Dl.opNeg, Dl.opLt, Dl.opLe, Dl.opGt, Dl.opGe, Dl.opIs2, Dl.opIsNot2, Dl.opIsN, Dl.opNotN, Dl.D.isNon, Dl.opLen, Dl.opAbs, Dl.opMax2, Dl.opMin2, Dl.opInt1, Dl.opStrI, Dl.opList, Dl.opTuple, Dl.eIsi, Dl.isaD, Dl.D.bt, Dl.subB, Dl.sTry, Dl.tryH, Dl.endH, Dl.noExc, Dl.clearS, Dl.SV.isExc, Dl.eXf, Dl.eIsX, Dl.sRaise, Dl.hitL, L2.atI, L2.ixN, Dl.LIM]
/-! alike -/
theorem alike_of (d : D) (hb : isaD kn ["bool"] [] d = some false) (h : opEqA d d = some (.imm (.bl true))) : den__law_alike [.imm d, .imm d] = .ok (.imm (.bl true)) [.imm d, .imm d] := by
  have b : b__law_alike [.imm d, .imm d] = .ok (.ret (.imm (.bl true))) [.imm d, .imm d] := by
    unfold b__law_alike
    refine seq_nx (if_pass (env1 := ?_) ?_) ?_
    rotate_left
    · simp [hb, Dl.sSeq, Dl.sIf, Dl.sRet, Dl.sRetN, Dl.sDrop, Dl.putM, Dl.sAsg, Dl.sAsgG, Dl.sNx, Dl.sBk, Dl.sCt, Dl.bindM, Dl.retM, Dl.liftM, Dl.settle, Dl.eVar, Dl.eC, Dl.eB, Dl.eNot, Dl.eAnd, Dl.eOr, Dl.eV, Dl.eIf, Dl.eAndV, Dl.eOrV, Dl.eOp2, Dl.eOp1, Dl.eOpn, Dl.op2M, Dl.op1M, Dl.opnM, Dl.eOp2R, Dl.peek, Dl.peeks, Dl.pNil, Dl.pCons, Dl.dNil, Dl.dCons, Dl.eTup, Dl.eLst, Dl.aNil, Dl.aSet, Dl.aLend, Dl.eCall, Dl.callM, Dl.alsOf, Dl.svsOf, Dl.svOf, Dl.backs, Dl.backSv, Dl.denOf, Dl.finC, Dl.outs, Dl.retRV, Dl.SV.arg, Dl.SV.lent, Dl.gNameM, Dl.gNilM, Dl.gConsM, Dl.gTupM, Dl.gSubM, Dl.isLst, Dl.sPar, Dl.sFor, Dl.forM, Dl.iSeqM, Dl.D.items, Dl.eCallF, Dl.callF, Dl.eMake, Dl.makeM, Dl.eFld, Dl.opFld, Dl.sPutF, Dl.opAdd, Dl.opSub, Dl.opMul, Dl.opFDiv, Dl.opMod, Dl.opPow, Dl.opNeg, Dl.opLt, Dl.opLe, Dl.opGt, Dl.opGe, Dl.opIs2, Dl.opIsNot2, Dl.opIsN, Dl.opNotN, Dl.D.isNon, Dl.opIx, Dl.opLen, Dl.opAbs, Dl.opMax2, Dl.opMin2, Dl.opInt1, Dl.opStrI, Dl.opList, Dl.opTuple, Dl.eIsi, Dl.sTry, Dl.tryH, Dl.endH, Dl.noExc, Dl.clearS, Dl.SV.isExc, Dl.eXf, Dl.eIsX, Dl.sRaise, Dl.hitL, L2.atI, L2.ixN, Dl.LIM]; exact rfl
    simp [h, Dl.sSeq, Dl.sIf, Dl.sRet, Dl.sRetN, Dl.sDrop, Dl.putM, Dl.sAsg, Dl.sAsgG, Dl.sNx, Dl.sBk, Dl.sCt, Dl.bindM, Dl.retM, Dl.liftM, Dl.settle, Dl.eVar, Dl.eC, Dl.eB, Dl.eNot, Dl.eAnd, Dl.eOr, Dl.eV, Dl.eIf, Dl.eAndV, Dl.eOrV, Dl.eOp2, Dl.eOp1, Dl.eOpn, Dl.op2M, Dl.op1M, Dl.opnM, Dl.eOp2R, Dl.peek, Dl.peeks, Dl.pNil, Dl.pCons, Dl.dNil, Dl.dCons, Dl.eTup, Dl.eLst, Dl.aNil, Dl.aSet, Dl.aLend, Dl.eCall, Dl.callM, Dl.alsOf, Dl.svsOf, Dl.svOf, Dl.backs, Dl.backSv, Dl.denOf, Dl.finC, Dl.outs, Dl.retRV, Dl.SV.arg, Dl.SV.lent, Dl.gNameM, Dl.gNilM, Dl.gConsM, Dl.gTupM, Dl.gSubM, Dl.isLst, Dl.sPar, Dl.sFor, Dl.forM, Dl.iSeqM, Dl.D.items, Dl.eCallF, Dl.callF, Dl.eMake, Dl.makeM, Dl.eFld, Dl.opFld, Dl.sPutF, Dl.opAdd, Dl.opSub, Dl.opMul, Dl.opFDiv, Dl.opMod, Dl.opPow, Dl.opNeg, Dl.opLt, Dl.opLe, Dl.opGt, Dl.opGe, Dl.opIs2, Dl.opIsNot2, Dl.opIsN, Dl.opNotN, Dl.D.isNon, Dl.opIx, Dl.opLen, Dl.opAbs, Dl.opMax2, Dl.opMin2, Dl.opInt1, Dl.opStrI, Dl.opList, Dl.opTuple, Dl.eIsi, Dl.isaD, Dl.D.bt, Dl.subB, Dl.sTry, Dl.tryH, Dl.endH, Dl.noExc, Dl.clearS, Dl.SV.isExc, Dl.eXf, Dl.eIsX, Dl.sRaise, Dl.hitL, L2.atI, L2.ixN, Dl.LIM]
  exact den_ret rfl rfl b rfl rfl
theorem alike_b (x : Bool) : den__law_alike [.imm (.bl x), .imm (.bl x)] = .ok (.imm (.bl true)) [.imm (.bl x), .imm (.bl x)] := by
  have h : opEqA (.bl x) (.bl x) = some (.imm (.bl true)) := by cases x <;> rfl
  have b : b__law_alike [.imm (.bl x), .imm (.bl x)] = .ok (.ret (.imm (.bl true))) [.imm (.bl x), .imm (.bl x)] := by
    unfold b__law_alike
    refine seq_ret (if_t (env1 := ?_) ?_ ?_)
    rotate_left
    · simp [Dl.sSeq, Dl.sIf, Dl.sRet, Dl.sRetN, Dl.sDrop, Dl.putM, Dl.sAsg, Dl.sAsgG, Dl.sNx, Dl.sBk, Dl.sCt, Dl.bindM, Dl.retM, Dl.liftM, Dl.settle, Dl.eVar, Dl.eC, Dl.eB, Dl.eNot, Dl.eAnd, Dl.eOr, Dl.eV, Dl.eIf, Dl.eAndV, Dl.eOrV, Dl.eOp2, Dl.eOp1, Dl.eOpn, Dl.op2M, Dl.op1M, Dl.opnM, Dl.eOp2R, Dl.peek, Dl.peeks, Dl.pNil, Dl.pCons, Dl.dNil, Dl.dCons, Dl.eTup, Dl.eLst, Dl.aNil, Dl.aSet, Dl.aLend, Dl.eCall, Dl.callM, Dl.alsOf, Dl.svsOf, Dl.svOf, Dl.backs, Dl.backSv, Dl.denOf, Dl.finC, Dl.outs, Dl.retRV, Dl.SV.arg, Dl.SV.lent, Dl.gNameM, Dl.gNilM, Dl.gConsM, Dl.gTupM, Dl.gSubM, Dl.isLst, Dl.sPar, Dl.sFor, Dl.forM, Dl.iSeqM, Dl.D.items, Dl.eCallF, Dl.callF, Dl.eMake, Dl.makeM, Dl.eFld, Dl.opFld, Dl.sPutF, Dl.opAdd, Dl.opSub, Dl.opMul, Dl.opFDiv, Dl.opMod, Dl.opPow, Dl.opNeg, Dl.opLt, Dl.opLe, Dl.opGt, Dl.opGe, Dl.opIs2, Dl.opIsNot2, Dl.opIsN, Dl.opNotN, Dl.D.isNon, Dl.opIx, Dl.opLen, Dl.opAbs, Dl.opMax2, Dl.opMin2, Dl.opInt1, Dl.opStrI, Dl.opList, Dl.opTuple, Dl.eIsi, Dl.isaD, Dl.D.bt, Dl.subB, Dl.sTry, Dl.tryH, Dl.endH, Dl.noExc, Dl.clearS, Dl.SV.isExc, Dl.eXf, Dl.eIsX, Dl.sRaise, Dl.hitL, L2.atI, L2.ixN, Dl.LIM]; exact rfl
    simp [h, Dl.sSeq, Dl.sIf, Dl.sRet, Dl.sRetN, Dl.sDrop, Dl.putM, Dl.sAsg, Dl.sAsgG, Dl.sNx, Dl.sBk, Dl.sCt, Dl.bindM, Dl.retM, Dl.liftM, Dl.settle, Dl.eVar, Dl.eC, Dl.eB, Dl.eNot, Dl.eAnd, Dl.eOr, Dl.eV, Dl.eIf, Dl.eAndV, Dl.eOrV, Dl.eOp2, Dl.eOp1, Dl.eOpn, Dl.op2M, Dl.op1M, Dl.opnM, Dl.eOp2R, Dl.peek, Dl.peeks, Dl.pNil, Dl.pCons, Dl.dNil, Dl.dCons, Dl.eTup, Dl.eLst, Dl.aNil, Dl.aSet, Dl.aLend, Dl.eCall, Dl.callM, Dl.alsOf, Dl.svsOf, Dl.svOf, Dl.backs, Dl.backSv, Dl.denOf, Dl.finC, Dl.outs, Dl.retRV, Dl.SV.arg, Dl.SV.lent, Dl.gNameM, Dl.gNilM, Dl.gConsM, Dl.gTupM, Dl.gSubM, Dl.isLst, Dl.sPar, Dl.sFor, Dl.forM, Dl.iSeqM, Dl.D.items, Dl.eCallF, Dl.callF, Dl.eMake, Dl.makeM, Dl.eFld, Dl.opFld, Dl.sPutF, Dl.opAdd, Dl.opSub, Dl.opMul, Dl.opFDiv, Dl.opMod, Dl.opPow, Dl.opNeg, Dl.opLt, Dl.opLe, Dl.opGt, Dl.opGe, Dl.opIs2, Dl.opIsNot2, Dl.opIsN, Dl.opNotN, Dl.D.isNon, Dl.opIx, Dl.opLen, Dl.opAbs, Dl.opMax2, Dl.opMin2, Dl.opInt1, Dl.opStrI, Dl.opList, Dl.opTuple, Dl.eIsi, Dl.isaD, Dl.D.bt, Dl.subB, Dl.sTry, Dl.tryH, Dl.endH, Dl.noExc, Dl.clearS, Dl.SV.isExc, Dl.eXf, Dl.eIsX, Dl.sRaise, Dl.hitL, L2.atI, L2.ixN, Dl.LIM]
  exact den_ret rfl rfl b rfl rfl
theorem alike : ∀ d ∈ O, den__law_alike [.imm d, .imm d] = .ok (.imm (.bl true)) [.imm d, .imm d] := by
  refine O_cases ?_ ?_ ?_ ?_ ?_ ?_ ?_ ?_ ?_ ?_ ?_ ?_
  · exact alike_of _ rfl rfl
  · exact alike_b true
  · exact alike_b false
  · exact alike_of _ rfl (eqA_str _ (by decide +kernel))
  · exact alike_of _ rfl (eqA_str _ (by decide +kernel))
  · exact alike_of _ rfl rfl
  · exact alike_of _ rfl rfl
  · exact alike_of _ rfl rfl
  · exact alike_of _ rfl rfl
  · exact alike_of _ rfl rfl
  · exact alike_of _ rfl rfl
  · exact alike_of _ rfl (eqA_str _ (by decide +kernel))
/-! the questions -/
theorem eq_bl (a : Bool) : opEqA (.bl a) (.bl a) = some (.imm (.bl true)) := by cases a <;> rfl
section
variable {t b : Int} (l : Low t b) (ht : t.natAbs < 2 ^ 220) (hb : b.natAbs < 2 ^ 220)
theorem sign_den (t b : Int) : den_Ratio_sign [.imm (rat t b)] = .ok (.imm (.int ((if decide (0 < t) then 1 else 0) - (if decide (t < 0) then 1 else 0)))) [.imm (rat t b)] := by
  have h : b_Ratio_sign [.imm (rat t b)] = .ok (.ret (.imm (.int ((if decide (0 < t) then 1 else 0) - (if decide (t < 0) then 1 else 0))))) [.imm (rat t b)] := by
    unfold b_Ratio_sign rat
    simp [Dl.sSeq, Dl.sIf, Dl.sRet, Dl.sRetN, Dl.sDrop, Dl.putM, Dl.sAsg, Dl.sAsgG, Dl.sNx, Dl.sBk, Dl.sCt, Dl.bindM, Dl.retM, Dl.liftM, Dl.settle, Dl.eVar, Dl.eC, Dl.eB, Dl.eNot, Dl.eAnd, Dl.eOr, Dl.eV, Dl.eIf, Dl.eAndV, Dl.eOrV, Dl.eOp2, Dl.eOp1, Dl.eOpn, Dl.op2M, Dl.op1M, Dl.opnM, Dl.eOp2R, Dl.peek, Dl.peeks, Dl.pNil, Dl.pCons, Dl.dNil, Dl.dCons, Dl.eTup, Dl.eLst, Dl.aNil, Dl.aSet, Dl.aLend, Dl.eCall, Dl.callM, Dl.alsOf, Dl.svsOf, Dl.svOf, Dl.backs, Dl.backSv, Dl.denOf, Dl.finC, Dl.outs, Dl.retRV, Dl.SV.arg, Dl.SV.lent, Dl.gNameM, Dl.gNilM, Dl.gConsM, Dl.gTupM, Dl.gSubM, Dl.isLst, Dl.sPar, Dl.sFor, Dl.forM, Dl.iSeqM, Dl.D.items, Dl.eCallF, Dl.callF, Dl.eMake, Dl.makeM, Dl.eFld, Dl.opFld, Dl.sPutF, Dl.opAdd, Dl.opSub, Dl.opMul, Dl.opFDiv, Dl.opMod, Dl.opPow, Dl.opNeg, Dl.opLt, Dl.opLe, Dl.opGt, Dl.opGe, Dl.opIs2, Dl.opIsNot2, Dl.opIsN, Dl.opNotN, Dl.D.isNon, Dl.opIx, Dl.opLen, Dl.opAbs, Dl.opMax2, Dl.opMin2, Dl.opInt1, Dl.opStrI, Dl.opList, Dl.opTuple, Dl.eIsi, Dl.isaD, Dl.D.bt, Dl.subB, Dl.sTry, Dl.tryH, Dl.endH, Dl.noExc, Dl.clearS, Dl.SV.isExc, Dl.eXf, Dl.eIsX, Dl.sRaise, Dl.hitL, L2.atI, L2.ixN, Dl.LIM]
  exact den_ret rfl rfl h rfl rfl
include l ht hb
theorem whole_den : den_Ratio_whole [.imm (rat t b)] = .ok (.imm (.int (t.fdiv b))) [.imm (rat t b)] := by
  have hz : ¬ b = 0 ∧ b.natAbs.log2 < 9000 := ⟨by have := l.pos; omega, l3 (lt_mono hb (by decide))⟩
  have h : b_Ratio_whole [.imm (rat t b)] = .ok (.ret (.imm (.int (t.fdiv b)))) [.imm (rat t b)] := by
    unfold b_Ratio_whole rat
    simp [hz, Dl.sSeq, Dl.sIf, Dl.sRet, Dl.sRetN, Dl.sDrop, Dl.putM, Dl.sAsg, Dl.sAsgG, Dl.sNx, Dl.sBk, Dl.sCt, Dl.bindM, Dl.retM, Dl.liftM, Dl.settle, Dl.eVar, Dl.eC, Dl.eB, Dl.eNot, Dl.eAnd, Dl.eOr, Dl.eV, Dl.eIf, Dl.eAndV, Dl.eOrV, Dl.eOp2, Dl.eOp1, Dl.eOpn, Dl.op2M, Dl.op1M, Dl.opnM, Dl.eOp2R, Dl.peek, Dl.peeks, Dl.pNil, Dl.pCons, Dl.dNil, Dl.dCons, Dl.eTup, Dl.eLst, Dl.aNil, Dl.aSet, Dl.aLend, Dl.eCall, Dl.callM, Dl.alsOf, Dl.svsOf, Dl.svOf, Dl.backs, Dl.backSv, Dl.denOf, Dl.finC, Dl.outs, Dl.retRV, Dl.SV.arg, Dl.SV.lent, Dl.gNameM, Dl.gNilM, Dl.gConsM, Dl.gTupM, Dl.gSubM, Dl.isLst, Dl.sPar, Dl.sFor, Dl.forM, Dl.iSeqM, Dl.D.items, Dl.eCallF, Dl.callF, Dl.eMake, Dl.makeM, Dl.eFld, Dl.opFld, Dl.sPutF, Dl.opAdd, Dl.opSub, Dl.opMul, Dl.opFDiv, Dl.opMod, Dl.opPow, Dl.opNeg, Dl.opLt, Dl.opLe, Dl.opGt, Dl.opGe, Dl.opIs2, Dl.opIsNot2, Dl.opIsN, Dl.opNotN, Dl.D.isNon, Dl.opIx, Dl.opLen, Dl.opAbs, Dl.opMax2, Dl.opMin2, Dl.opInt1, Dl.opStrI, Dl.opList, Dl.opTuple, Dl.eIsi, Dl.isaD, Dl.D.bt, Dl.subB, Dl.sTry, Dl.tryH, Dl.endH, Dl.noExc, Dl.clearS, Dl.SV.isExc, Dl.eXf, Dl.eIsX, Dl.sRaise, Dl.hitL, L2.atI, L2.ixN, Dl.LIM]
  exact den_ret rfl rfl h rfl rfl
theorem rest_den (be : Int) (h1 : 0 < be) (h2 : be ≤ 1500) : den_Ratio_rest [.imm (rat t b), .imm (.int be)] = .ok (.imm (rat (nT (t.fmod (be * b)) b) (nB (t.fmod (be * b)) b))) [.imm (rat t b), .imm (.int be)] := by
  have h0 : b ≠ 0 := by have := l.pos; omega
  have m : opMul (.int b) (.int be) = some (.imm (.int (be * b))) := by rw [mulOk (lt_mono hb (by decide)) (by omega), Int.mul_comm]
  have hz : be * b ≠ 0 := Int.mul_ne_zero (by omega) h0
  have h : b_Ratio_rest [.imm (rat t b), .imm (.int be)] = .ok (.ret (.imm (rat (nT (t.fmod (be * b)) b) (nB (t.fmod (be * b)) b)))) [.imm (rat t b), .imm (.int be)] := by
    unfold b_Ratio_rest sRet Dl.bindM
    rw [mkR (a := t.fmod (be * b)) (b := b) h0 (lt_mono hb (by decide)) (env1 := [.imm (rat t b), .imm (.int be)]) (by
      generalize be * b = z at *
      simp [rat, m, hz, Dl.sSeq, Dl.sIf, Dl.sRet, Dl.sRetN, Dl.sDrop, Dl.putM, Dl.sAsg, Dl.sAsgG, Dl.sNx, Dl.sBk, Dl.sCt, Dl.bindM, Dl.retM, Dl.liftM, Dl.settle, Dl.eVar, Dl.eC, Dl.eB, Dl.eNot, Dl.eAnd, Dl.eOr, Dl.eV, Dl.eIf, Dl.eAndV, Dl.eOrV, Dl.eOp2, Dl.eOp1, Dl.eOpn, Dl.op2M, Dl.op1M, Dl.opnM, Dl.eOp2R, Dl.peek, Dl.peeks, Dl.pNil, Dl.pCons, Dl.dNil, Dl.dCons, Dl.eTup, Dl.eLst, Dl.aNil, Dl.aSet, Dl.aLend, Dl.eCall, Dl.callM, Dl.alsOf, Dl.svsOf, Dl.svOf, Dl.backs, Dl.backSv, Dl.denOf, Dl.finC, Dl.outs, Dl.retRV, Dl.SV.arg, Dl.SV.lent, Dl.gNameM, Dl.gNilM, Dl.gConsM, Dl.gTupM, Dl.gSubM, Dl.isLst, Dl.sPar, Dl.sFor, Dl.forM, Dl.iSeqM, Dl.D.items, Dl.eCallF, Dl.callF, Dl.eMake, Dl.makeM, Dl.eFld, Dl.opFld, Dl.sPutF, Dl.opAdd, Dl.opSub, Dl.opFDiv, Dl.opMod, Dl.opPow, Dl.opNeg, Dl.opLt, Dl.opLe, Dl.opGt, Dl.opGe, Dl.opIs2, Dl.opIsNot2, Dl.opIsN, Dl.opNotN, Dl.D.isNon, Dl.opIx, Dl.opLen, Dl.opAbs, Dl.opMax2, Dl.opMin2, Dl.opInt1, Dl.opStrI, Dl.opList, Dl.opTuple, Dl.eIsi, Dl.isaD, Dl.D.bt, Dl.subB, Dl.sTry, Dl.tryH, Dl.endH, Dl.noExc, Dl.clearS, Dl.SV.isExc, Dl.eXf, Dl.eIsX, Dl.sRaise, Dl.hitL, L2.atI, L2.ixN, Dl.LIM])]
    rfl
  exact den_ret rfl rfl h rfl rfl
theorem neg_den : den_Ratio___neg__ [.imm (rat t b)] = .ok (.imm (rat (-t) b)) [.imm (rat t b)] := by
  have h0 : b ≠ 0 := by have := l.pos; omega
  have h : b_Ratio___neg__ [.imm (rat t b)] = .ok (.ret (.imm (rat (-t) b))) [.imm (rat t b)] := by
    unfold b_Ratio___neg__ sRet Dl.bindM
    rw [mkR (a := -t) (b := b) h0 (lt_mono hb (by decide)) (env1 := [.imm (rat t b)]) (by simp [rat, Dl.sSeq, Dl.sIf, Dl.sRet, Dl.sRetN, Dl.sDrop, Dl.putM, Dl.sAsg, Dl.sAsgG, Dl.sNx, Dl.sBk, Dl.sCt, Dl.bindM, Dl.retM, Dl.liftM, Dl.settle, Dl.eVar, Dl.eC, Dl.eB, Dl.eNot, Dl.eAnd, Dl.eOr, Dl.eV, Dl.eIf, Dl.eAndV, Dl.eOrV, Dl.eOp2, Dl.eOp1, Dl.eOpn, Dl.op2M, Dl.op1M, Dl.opnM, Dl.eOp2R, Dl.peek, Dl.peeks, Dl.pNil, Dl.pCons, Dl.dNil, Dl.dCons, Dl.eTup, Dl.eLst, Dl.aNil, Dl.aSet, Dl.aLend, Dl.eCall, Dl.callM, Dl.alsOf, Dl.svsOf, Dl.svOf, Dl.backs, Dl.backSv, Dl.denOf, Dl.finC, Dl.outs, Dl.retRV, Dl.SV.arg, Dl.SV.lent, Dl.gNameM, Dl.gNilM, Dl.gConsM, Dl.gTupM, Dl.gSubM, Dl.isLst, Dl.sPar, Dl.sFor, Dl.forM, Dl.iSeqM, Dl.D.items, Dl.eCallF, Dl.callF, Dl.eMake, Dl.makeM, Dl.eFld, Dl.opFld, Dl.sPutF, Dl.opAdd, Dl.opSub, Dl.opMul, Dl.opFDiv, Dl.opMod, Dl.opPow, Dl.opNeg, Dl.opLt, Dl.opLe, Dl.opGt, Dl.opGe, Dl.opIs2, Dl.opIsNot2, Dl.opIsN, Dl.opNotN, Dl.D.isNon, Dl.opIx, Dl.opLen, Dl.opAbs, Dl.opMax2, Dl.opMin2, Dl.opInt1, Dl.opStrI, Dl.opList, Dl.opTuple, Dl.eIsi, Dl.isaD, Dl.D.bt, Dl.subB, Dl.sTry, Dl.tryH, Dl.endH, Dl.noExc, Dl.clearS, Dl.SV.isExc, Dl.eXf, Dl.eIsX, Dl.sRaise, Dl.hitL, L2.atI, L2.ixN, Dl.LIM]), nT_low (low_neg l), nB_low (low_neg l)]
    rfl
  exact den_ret rfl rfl h rfl rfl
theorem questions {k : Int} {xs : List D} (hs : Src k xs) (hk : k ≤ 900) (n : Int) (hn : n.natAbs < 2 ^ 100) : ∃ ys, Src (k + 2) ys ∧ den__law_questions [.brw xs, .imm (rat t b), .imm (.tup [.int t, .int b]), .imm (.int n)] = .ok (.imm (.bl true)) [.brw ys, .imm (rat t b), .imm (.tup [.int t, .int b]), .imm (.int n)] := by
  obtain ⟨r, y1, a1, b1, h1, e1⟩ := draw_src hs (by omega) (m := 1500) (by decide) (by decide)
  obtain ⟨o, y2, ho, h2, e2⟩ := odd h1 (by omega)
  refine ⟨y2, h2.up (by omega), ?_⟩
  have L := law_less_ok t b (less_num (lt_mono ht (by decide)) (lt_mono hb (by decide)) (Num.int (n := n) (lt_mono hn (by decide))))
  rw [Int.mul_one] at L
  have m1 : opMul (.int n) (.int b) = some (.imm (.int (n * b))) := mulOk (lt_mono hn (by decide)) (lt_mono hb (by decide))
  have h0 : b ≠ 0 := by have := l.pos; omega
  have hz : ¬ b = 0 ∧ b.natAbs.log2 < 9000 := ⟨h0, l3 (lt_mono hb (by decide))⟩
  obtain ⟨sgn, hsg⟩ : ∃ s : Int, s = (if decide (0 < t) then 1 else 0) - (if decide (t < 0) then 1 else 0) := ⟨_, rfl⟩
  have S1 := sign_den t b
  rw [← hsg] at S1
  have W := whole_den l ht hb
  have R := rest_den l ht hb (1 + r) (by omega) (by omega)
  have N := neg_den l ht hb
  have m2 : opMul (.int (1 + r)) (.int b) = some (.imm (.int ((1 + r) * b))) := mulOk (by omega) (lt_mono hb (by decide))
  have hz2 : (1 + r) * b ≠ 0 := Int.mul_ne_zero (by omega) h0
  obtain ⟨re, hre⟩ : ∃ z, z = t.fmod ((1 + r) * b) := ⟨_, rfl⟩
  rw [← hre] at R
  have w := lowest re b h0 (lt_mono hb (by decide))
  have i1 := law_is (nT re b) (nB re b)
  have i2 := law_is (-t) b
  have o1 := law_over_err t b (over_odd t b o ho)
  have o2 := law_less_err t b (less_odd t b o ho)
  have al := alike o ho
  have st : ∀ {R : Res Out}, t__law_questions_10 [.brw y2, .imm (rat t b), .imm (.tup [.int t, .int b]), .imm (.int n), .imm (.tup [.str "told", .bl (decide (t < n * b))]), .imm (.tup [.int sgn, .int (t.fdiv b)]), .imm (.int (1 + r)), .imm (.int re), .imm o, .own [.tup [.str "refused", o], .tup [.str "refused", o]], .none] = R →
      b__law_questions [.brw xs, .imm (rat t b), .imm (.tup [.int t, .int b]), .imm (.int n), .none, .none, .none, .none, .none, .none, .none] = R := fun hR => by
    unfold b__law_questions t__law_questions_0
    refine seq_nx (env1 := ?_) ?_ ?_
    rotate_left
    · simp [L, Dl.sSeq, Dl.sIf, Dl.sRet, Dl.sRetN, Dl.sDrop, Dl.putM, Dl.sAsg, Dl.sAsgG, Dl.sNx, Dl.sBk, Dl.sCt, Dl.bindM, Dl.retM, Dl.liftM, Dl.settle, Dl.eVar, Dl.eC, Dl.eB, Dl.eNot, Dl.eAnd, Dl.eOr, Dl.eV, Dl.eIf, Dl.eAndV, Dl.eOrV, Dl.eOp2, Dl.eOp1, Dl.eOpn, Dl.op2M, Dl.op1M, Dl.opnM, Dl.eOp2R, Dl.peek, Dl.peeks, Dl.pNil, Dl.pCons, Dl.dNil, Dl.dCons, Dl.eTup, Dl.eLst, Dl.aNil, Dl.aSet, Dl.aLend, Dl.eCall, Dl.callM, Dl.alsOf, Dl.svsOf, Dl.svOf, Dl.backs, Dl.backSv, Dl.denOf, Dl.finC, Dl.outs, Dl.retRV, Dl.SV.arg, Dl.SV.lent, Dl.gNameM, Dl.gNilM, Dl.gConsM, Dl.gTupM, Dl.gSubM, Dl.isLst, Dl.sPar, Dl.sFor, Dl.forM, Dl.iSeqM, Dl.D.items, Dl.eCallF, Dl.callF, Dl.eMake, Dl.makeM, Dl.eFld, Dl.opFld, Dl.sPutF, Dl.opAdd, Dl.opSub, Dl.opMul, Dl.opFDiv, Dl.opMod, Dl.opPow, Dl.opNeg, Dl.opLt, Dl.opLe, Dl.opGt, Dl.opGe, Dl.opIs2, Dl.opIsNot2, Dl.opIsN, Dl.opNotN, Dl.D.isNon, Dl.opIx, Dl.opLen, Dl.opAbs, Dl.opMax2, Dl.opMin2, Dl.opInt1, Dl.opStrI, Dl.opList, Dl.opTuple, Dl.eIsi, Dl.isaD, Dl.D.bt, Dl.subB, Dl.sTry, Dl.tryH, Dl.endH, Dl.noExc, Dl.clearS, Dl.SV.isExc, Dl.eXf, Dl.eIsX, Dl.sRaise, Dl.hitL, L2.atI, L2.ixN, Dl.LIM]; exact rfl
    unfold t__law_questions_1
    have c1 := ne_of (eq_bl (decide (t < n * b)))
    have c2 := ne_of tld
    refine seq_nx (if_pass (env1 := ?_) ?_) ?_
    rotate_left
    · simp [m1, c1, c2, Dl.sSeq, Dl.sIf, Dl.sRet, Dl.sRetN, Dl.sDrop, Dl.putM, Dl.sAsg, Dl.sAsgG, Dl.sNx, Dl.sBk, Dl.sCt, Dl.bindM, Dl.retM, Dl.liftM, Dl.settle, Dl.eVar, Dl.eC, Dl.eB, Dl.eNot, Dl.eAnd, Dl.eOr, Dl.eV, Dl.eIf, Dl.eAndV, Dl.eOrV, Dl.eOp2, Dl.eOp1, Dl.eOpn, Dl.op2M, Dl.op1M, Dl.opnM, Dl.eOp2R, Dl.peek, Dl.peeks, Dl.pNil, Dl.pCons, Dl.dNil, Dl.dCons, Dl.eTup, Dl.eLst, Dl.aNil, Dl.aSet, Dl.aLend, Dl.eCall, Dl.callM, Dl.alsOf, Dl.svsOf, Dl.svOf, Dl.backs, Dl.backSv, Dl.denOf, Dl.finC, Dl.outs, Dl.retRV, Dl.SV.arg, Dl.SV.lent, Dl.gNameM, Dl.gNilM, Dl.gConsM, Dl.gTupM, Dl.gSubM, Dl.isLst, Dl.sPar, Dl.sFor, Dl.forM, Dl.iSeqM, Dl.D.items, Dl.eCallF, Dl.callF, Dl.eMake, Dl.makeM, Dl.eFld, Dl.opFld, Dl.sPutF, Dl.opAdd, Dl.opSub, Dl.opFDiv, Dl.opMod, Dl.opPow, Dl.opNeg, Dl.opLt, Dl.opLe, Dl.opGt, Dl.opGe, Dl.opIs2, Dl.opIsNot2, Dl.opIsN, Dl.opNotN, Dl.D.isNon, Dl.opIx, Dl.opLen, Dl.opAbs, Dl.opMax2, Dl.opMin2, Dl.opInt1, Dl.opStrI, Dl.opList, Dl.opTuple, Dl.eIsi, Dl.isaD, Dl.D.bt, Dl.subB, Dl.sTry, Dl.tryH, Dl.endH, Dl.noExc, Dl.clearS, Dl.SV.isExc, Dl.eXf, Dl.eIsX, Dl.sRaise, Dl.hitL, L2.atI, L2.ixN, Dl.LIM]; exact rfl
    unfold t__law_questions_2
    refine seq_nx (env1 := [.brw xs, .imm (rat t b), .imm (.tup [.int t, .int b]), .imm (.int n), .imm (.tup [.str "told", .bl (decide (t < n * b))]), .imm (.tup [.int sgn, .int (t.fdiv b)]), .none, .none, .none, .none, .none]) ?_ ?_
    · unfold rat at *
      simp [Dl.eMeth, S1, W, Dl.sSeq, Dl.sIf, Dl.sRet, Dl.sRetN, Dl.sDrop, Dl.putM, Dl.sAsg, Dl.sAsgG, Dl.sNx, Dl.sBk, Dl.sCt, Dl.bindM, Dl.retM, Dl.liftM, Dl.settle, Dl.eVar, Dl.eC, Dl.eB, Dl.eNot, Dl.eAnd, Dl.eOr, Dl.eV, Dl.eIf, Dl.eAndV, Dl.eOrV, Dl.eOp2, Dl.eOp1, Dl.eOpn, Dl.op2M, Dl.op1M, Dl.opnM, Dl.eOp2R, Dl.peek, Dl.peeks, Dl.pNil, Dl.pCons, Dl.dNil, Dl.dCons, Dl.eTup, Dl.eLst, Dl.aNil, Dl.aSet, Dl.aLend, Dl.eCall, Dl.callM, Dl.alsOf, Dl.svsOf, Dl.svOf, Dl.backs, Dl.backSv, Dl.denOf, Dl.finC, Dl.outs, Dl.retRV, Dl.SV.arg, Dl.SV.lent, Dl.gNameM, Dl.gNilM, Dl.gConsM, Dl.gTupM, Dl.gSubM, Dl.isLst, Dl.sPar, Dl.sFor, Dl.forM, Dl.iSeqM, Dl.D.items, Dl.eCallF, Dl.callF, Dl.eMake, Dl.makeM, Dl.eFld, Dl.opFld, Dl.sPutF, Dl.opAdd, Dl.opSub, Dl.opMul, Dl.opFDiv, Dl.opMod, Dl.opPow, Dl.opNeg, Dl.opLt, Dl.opLe, Dl.opGt, Dl.opGe, Dl.opIs2, Dl.opIsNot2, Dl.opIsN, Dl.opNotN, Dl.D.isNon, Dl.opIx, Dl.opLen, Dl.opAbs, Dl.opMax2, Dl.opMin2, Dl.opInt1, Dl.opStrI, Dl.opList, Dl.opTuple, Dl.eIsi, Dl.isaD, Dl.D.bt, Dl.subB, Dl.sTry, Dl.tryH, Dl.endH, Dl.noExc, Dl.clearS, Dl.SV.isExc, Dl.eXf, Dl.eIsX, Dl.sRaise, Dl.hitL, L2.atI, L2.ixN, Dl.LIM]
    unfold t__law_questions_3
    refine seq_nx (if_pass (env1 := ?_) ?_) ?_
    rotate_left
    · simp [isI_int', Dl.sSeq, Dl.sIf, Dl.sRet, Dl.sRetN, Dl.sDrop, Dl.putM, Dl.sAsg, Dl.sAsgG, Dl.sNx, Dl.sBk, Dl.sCt, Dl.bindM, Dl.retM, Dl.liftM, Dl.settle, Dl.eVar, Dl.eC, Dl.eB, Dl.eNot, Dl.eAnd, Dl.eOr, Dl.eV, Dl.eIf, Dl.eAndV, Dl.eOrV, Dl.eOp2, Dl.eOp1, Dl.eOpn, Dl.op2M, Dl.op1M, Dl.opnM, Dl.eOp2R, Dl.peek, Dl.peeks, Dl.pNil, Dl.pCons, Dl.dNil, Dl.dCons, Dl.eTup, Dl.eLst, Dl.aNil, Dl.aSet, Dl.aLend, Dl.eCall, Dl.callM, Dl.alsOf, Dl.svsOf, Dl.svOf, Dl.backs, Dl.backSv, Dl.denOf, Dl.finC, Dl.outs, Dl.retRV, Dl.SV.arg, Dl.SV.lent, Dl.gNameM, Dl.gNilM, Dl.gConsM, Dl.gTupM, Dl.gSubM, Dl.isLst, Dl.sPar, Dl.sFor, Dl.forM, Dl.iSeqM, Dl.D.items, Dl.eCallF, Dl.callF, Dl.eMake, Dl.makeM, Dl.eFld, Dl.opFld, Dl.sPutF, Dl.opAdd, Dl.opSub, Dl.opMul, Dl.opFDiv, Dl.opMod, Dl.opPow, Dl.opNeg, Dl.opLt, Dl.opLe, Dl.opGt, Dl.opGe, Dl.opIs2, Dl.opIsNot2, Dl.opIsN, Dl.opNotN, Dl.D.isNon, Dl.opIx, Dl.opLen, Dl.opAbs, Dl.opMax2, Dl.opMin2, Dl.opInt1, Dl.opStrI, Dl.opList, Dl.opTuple, Dl.eIsi, Dl.isaD, Dl.D.bt, Dl.subB, Dl.sTry, Dl.tryH, Dl.endH, Dl.noExc, Dl.clearS, Dl.SV.isExc, Dl.eXf, Dl.eIsX, Dl.sRaise, Dl.hitL, L2.atI, L2.ixN, Dl.LIM]; exact rfl
    unfold t__law_questions_4
    have c3 := ne_of (eqA2 sgn (t.fdiv b) sgn (t.fdiv b))
    refine seq_nx (env1 := [.brw xs, .imm (rat t b), .imm (.tup [.int t, .int b]), .imm (.int n), .imm (.tup [.str "told", .bl (decide (t < n * b))]), .imm (.tup [.int sgn, .int (t.fdiv b)]), .none, .none, .none, .none, .none]) (if_pass ?_) ?_
    · simp at hsg c3
      simp [hz, ← hsg, c3, Dl.sSeq, Dl.sIf, Dl.sRet, Dl.sRetN, Dl.sDrop, Dl.putM, Dl.sAsg, Dl.sAsgG, Dl.sNx, Dl.sBk, Dl.sCt, Dl.bindM, Dl.retM, Dl.liftM, Dl.settle, Dl.eVar, Dl.eC, Dl.eB, Dl.eNot, Dl.eAnd, Dl.eOr, Dl.eV, Dl.eIf, Dl.eAndV, Dl.eOrV, Dl.eOp2, Dl.eOp1, Dl.eOpn, Dl.op2M, Dl.op1M, Dl.opnM, Dl.eOp2R, Dl.peek, Dl.peeks, Dl.pNil, Dl.pCons, Dl.dNil, Dl.dCons, Dl.eTup, Dl.eLst, Dl.aNil, Dl.aSet, Dl.aLend, Dl.eCall, Dl.callM, Dl.alsOf, Dl.svsOf, Dl.svOf, Dl.backs, Dl.backSv, Dl.denOf, Dl.finC, Dl.outs, Dl.retRV, Dl.SV.arg, Dl.SV.lent, Dl.gNameM, Dl.gNilM, Dl.gConsM, Dl.gTupM, Dl.gSubM, Dl.isLst, Dl.sPar, Dl.sFor, Dl.forM, Dl.iSeqM, Dl.D.items, Dl.eCallF, Dl.callF, Dl.eMake, Dl.makeM, Dl.eFld, Dl.opFld, Dl.sPutF, Dl.opAdd, Dl.opSub, Dl.opMul, Dl.opFDiv, Dl.opMod, Dl.opPow, Dl.opNeg, Dl.opLt, Dl.opLe, Dl.opGt, Dl.opGe, Dl.opIs2, Dl.opIsNot2, Dl.opIsN, Dl.opNotN, Dl.D.isNon, Dl.opIx, Dl.opLen, Dl.opAbs, Dl.opMax2, Dl.opMin2, Dl.opInt1, Dl.opStrI, Dl.opList, Dl.opTuple, Dl.eIsi, Dl.isaD, Dl.D.bt, Dl.subB, Dl.sTry, Dl.tryH, Dl.endH, Dl.noExc, Dl.clearS, Dl.SV.isExc, Dl.eXf, Dl.eIsX, Dl.sRaise, Dl.hitL, L2.atI, L2.ixN, Dl.LIM]
    unfold t__law_questions_5
    refine seq_nx (env1 := ?_) ?_ ?_
    rotate_left
    · simp [e1, Dl.sSeq, Dl.sIf, Dl.sRet, Dl.sRetN, Dl.sDrop, Dl.putM, Dl.sAsg, Dl.sAsgG, Dl.sNx, Dl.sBk, Dl.sCt, Dl.bindM, Dl.retM, Dl.liftM, Dl.settle, Dl.eVar, Dl.eC, Dl.eB, Dl.eNot, Dl.eAnd, Dl.eOr, Dl.eV, Dl.eIf, Dl.eAndV, Dl.eOrV, Dl.eOp2, Dl.eOp1, Dl.eOpn, Dl.op2M, Dl.op1M, Dl.opnM, Dl.eOp2R, Dl.peek, Dl.peeks, Dl.pNil, Dl.pCons, Dl.dNil, Dl.dCons, Dl.eTup, Dl.eLst, Dl.aNil, Dl.aSet, Dl.aLend, Dl.eCall, Dl.callM, Dl.alsOf, Dl.svsOf, Dl.svOf, Dl.backs, Dl.backSv, Dl.denOf, Dl.finC, Dl.outs, Dl.retRV, Dl.SV.arg, Dl.SV.lent, Dl.gNameM, Dl.gNilM, Dl.gConsM, Dl.gTupM, Dl.gSubM, Dl.isLst, Dl.sPar, Dl.sFor, Dl.forM, Dl.iSeqM, Dl.D.items, Dl.eCallF, Dl.callF, Dl.eMake, Dl.makeM, Dl.eFld, Dl.opFld, Dl.sPutF, Dl.opAdd, Dl.opSub, Dl.opMul, Dl.opFDiv, Dl.opMod, Dl.opPow, Dl.opNeg, Dl.opLt, Dl.opLe, Dl.opGt, Dl.opGe, Dl.opIs2, Dl.opIsNot2, Dl.opIsN, Dl.opNotN, Dl.D.isNon, Dl.opIx, Dl.opLen, Dl.opAbs, Dl.opMax2, Dl.opMin2, Dl.opInt1, Dl.opStrI, Dl.opList, Dl.opTuple, Dl.eIsi, Dl.isaD, Dl.D.bt, Dl.subB, Dl.sTry, Dl.tryH, Dl.endH, Dl.noExc, Dl.clearS, Dl.SV.isExc, Dl.eXf, Dl.eIsX, Dl.sRaise, Dl.hitL, L2.atI, L2.ixN, Dl.LIM]; exact rfl
    unfold t__law_questions_6
    refine seq_nx (env1 := [.brw y1, .imm (rat t b), .imm (.tup [.int t, .int b]), .imm (.int n), .imm (.tup [.str "told", .bl (decide (t < n * b))]), .imm (.tup [.int sgn, .int (t.fdiv b)]), .imm (.int (1 + r)), .imm (.int re), .none, .none, .none]) ?_ ?_
    · generalize (1 + r) * b = z at *
      simp [m2, hz2, ← hre, Dl.sSeq, Dl.sIf, Dl.sRet, Dl.sRetN, Dl.sDrop, Dl.putM, Dl.sAsg, Dl.sAsgG, Dl.sNx, Dl.sBk, Dl.sCt, Dl.bindM, Dl.retM, Dl.liftM, Dl.settle, Dl.eVar, Dl.eC, Dl.eB, Dl.eNot, Dl.eAnd, Dl.eOr, Dl.eV, Dl.eIf, Dl.eAndV, Dl.eOrV, Dl.eOp2, Dl.eOp1, Dl.eOpn, Dl.op2M, Dl.op1M, Dl.opnM, Dl.eOp2R, Dl.peek, Dl.peeks, Dl.pNil, Dl.pCons, Dl.dNil, Dl.dCons, Dl.eTup, Dl.eLst, Dl.aNil, Dl.aSet, Dl.aLend, Dl.eCall, Dl.callM, Dl.alsOf, Dl.svsOf, Dl.svOf, Dl.backs, Dl.backSv, Dl.denOf, Dl.finC, Dl.outs, Dl.retRV, Dl.SV.arg, Dl.SV.lent, Dl.gNameM, Dl.gNilM, Dl.gConsM, Dl.gTupM, Dl.gSubM, Dl.isLst, Dl.sPar, Dl.sFor, Dl.forM, Dl.iSeqM, Dl.D.items, Dl.eCallF, Dl.callF, Dl.eMake, Dl.makeM, Dl.eFld, Dl.opFld, Dl.sPutF, Dl.opAdd, Dl.opSub, Dl.opFDiv, Dl.opMod, Dl.opPow, Dl.opNeg, Dl.opLt, Dl.opLe, Dl.opGt, Dl.opGe, Dl.opIs2, Dl.opIsNot2, Dl.opIsN, Dl.opNotN, Dl.D.isNon, Dl.opIx, Dl.opLen, Dl.opAbs, Dl.opMax2, Dl.opMin2, Dl.opInt1, Dl.opStrI, Dl.opList, Dl.opTuple, Dl.eIsi, Dl.isaD, Dl.D.bt, Dl.subB, Dl.sTry, Dl.tryH, Dl.endH, Dl.noExc, Dl.clearS, Dl.SV.isExc, Dl.eXf, Dl.eIsX, Dl.sRaise, Dl.hitL, L2.atI, L2.ixN, Dl.LIM]
    unfold t__law_questions_7
    generalize nT re b = p at *
    generalize nB re b = q at *
    refine seq_nx (env1 := [.brw y1, .imm (rat t b), .imm (.tup [.int t, .int b]), .imm (.int n), .imm (.tup [.str "told", .bl (decide (t < n * b))]), .imm (.tup [.int sgn, .int (t.fdiv b)]), .imm (.int (1 + r)), .imm (.int re), .none, .none, .none]) (if_pass (eor_f (env1 := [.brw y1, .imm (rat t b), .imm (.tup [.int t, .int b]), .imm (.int n), .imm (.tup [.str "told", .bl (decide (t < n * b))]), .imm (.tup [.int sgn, .int (t.fdiv b)]), .imm (.int (1 + r)), .imm (.int re), .none, .none, .none]) ?_ ?_)) ?_
    · unfold rat at *
      simp [Dl.eMeth, R, w, i1, Dl.sSeq, Dl.sIf, Dl.sRet, Dl.sRetN, Dl.sDrop, Dl.putM, Dl.sAsg, Dl.sAsgG, Dl.sNx, Dl.sBk, Dl.sCt, Dl.bindM, Dl.retM, Dl.liftM, Dl.settle, Dl.eVar, Dl.eC, Dl.eB, Dl.eNot, Dl.eAnd, Dl.eOr, Dl.eV, Dl.eIf, Dl.eAndV, Dl.eOrV, Dl.eOp2, Dl.eOp1, Dl.eOpn, Dl.op2M, Dl.op1M, Dl.opnM, Dl.eOp2R, Dl.peek, Dl.peeks, Dl.pNil, Dl.pCons, Dl.dNil, Dl.dCons, Dl.eTup, Dl.eLst, Dl.aNil, Dl.aSet, Dl.aLend, Dl.eCall, Dl.callM, Dl.alsOf, Dl.svsOf, Dl.svOf, Dl.backs, Dl.backSv, Dl.denOf, Dl.finC, Dl.outs, Dl.retRV, Dl.SV.arg, Dl.SV.lent, Dl.gNameM, Dl.gNilM, Dl.gConsM, Dl.gTupM, Dl.gSubM, Dl.isLst, Dl.sPar, Dl.sFor, Dl.forM, Dl.iSeqM, Dl.D.items, Dl.eCallF, Dl.callF, Dl.eMake, Dl.makeM, Dl.eFld, Dl.opFld, Dl.sPutF, Dl.opAdd, Dl.opSub, Dl.opMul, Dl.opFDiv, Dl.opMod, Dl.opPow, Dl.opNeg, Dl.opLt, Dl.opLe, Dl.opGt, Dl.opGe, Dl.opIs2, Dl.opIsNot2, Dl.opIsN, Dl.opNotN, Dl.D.isNon, Dl.opIx, Dl.opLen, Dl.opAbs, Dl.opMax2, Dl.opMin2, Dl.opInt1, Dl.opStrI, Dl.opList, Dl.opTuple, Dl.eIsi, Dl.isaD, Dl.D.bt, Dl.subB, Dl.sTry, Dl.tryH, Dl.endH, Dl.noExc, Dl.clearS, Dl.SV.isExc, Dl.eXf, Dl.eIsX, Dl.sRaise, Dl.hitL, L2.atI, L2.ixN, Dl.LIM]
    · unfold rat at *
      simp [Dl.eNegO, opNegO, N, immOf, i2, Dl.sSeq, Dl.sIf, Dl.sRet, Dl.sRetN, Dl.sDrop, Dl.putM, Dl.sAsg, Dl.sAsgG, Dl.sNx, Dl.sBk, Dl.sCt, Dl.bindM, Dl.retM, Dl.liftM, Dl.settle, Dl.eVar, Dl.eC, Dl.eB, Dl.eNot, Dl.eAnd, Dl.eOr, Dl.eV, Dl.eIf, Dl.eAndV, Dl.eOrV, Dl.eOp2, Dl.eOp1, Dl.eOpn, Dl.op2M, Dl.op1M, Dl.opnM, Dl.eOp2R, Dl.peek, Dl.peeks, Dl.pNil, Dl.pCons, Dl.dNil, Dl.dCons, Dl.eTup, Dl.eLst, Dl.aNil, Dl.aSet, Dl.aLend, Dl.eCall, Dl.callM, Dl.alsOf, Dl.svsOf, Dl.svOf, Dl.backs, Dl.backSv, Dl.denOf, Dl.finC, Dl.outs, Dl.retRV, Dl.SV.arg, Dl.SV.lent, Dl.gNameM, Dl.gNilM, Dl.gConsM, Dl.gTupM, Dl.gSubM, Dl.isLst, Dl.sPar, Dl.sFor, Dl.forM, Dl.iSeqM, Dl.D.items, Dl.eCallF, Dl.callF, Dl.eMake, Dl.makeM, Dl.eFld, Dl.opFld, Dl.sPutF, Dl.opAdd, Dl.opSub, Dl.opMul, Dl.opFDiv, Dl.opMod, Dl.opPow, Dl.opNeg, Dl.opLt, Dl.opLe, Dl.opGt, Dl.opGe, Dl.opIs2, Dl.opIsNot2, Dl.opIsN, Dl.opNotN, Dl.D.isNon, Dl.opIx, Dl.opLen, Dl.opAbs, Dl.opMax2, Dl.opMin2, Dl.opInt1, Dl.opStrI, Dl.opList, Dl.opTuple, Dl.eIsi, Dl.isaD, Dl.D.bt, Dl.subB, Dl.sTry, Dl.tryH, Dl.endH, Dl.noExc, Dl.clearS, Dl.SV.isExc, Dl.eXf, Dl.eIsX, Dl.sRaise, Dl.hitL, L2.atI, L2.ixN, Dl.LIM]
    unfold t__law_questions_8
    refine seq_nx (env1 := ?_) ?_ ?_
    rotate_left
    · simp [e2, Dl.sSeq, Dl.sIf, Dl.sRet, Dl.sRetN, Dl.sDrop, Dl.putM, Dl.sAsg, Dl.sAsgG, Dl.sNx, Dl.sBk, Dl.sCt, Dl.bindM, Dl.retM, Dl.liftM, Dl.settle, Dl.eVar, Dl.eC, Dl.eB, Dl.eNot, Dl.eAnd, Dl.eOr, Dl.eV, Dl.eIf, Dl.eAndV, Dl.eOrV, Dl.eOp2, Dl.eOp1, Dl.eOpn, Dl.op2M, Dl.op1M, Dl.opnM, Dl.eOp2R, Dl.peek, Dl.peeks, Dl.pNil, Dl.pCons, Dl.dNil, Dl.dCons, Dl.eTup, Dl.eLst, Dl.aNil, Dl.aSet, Dl.aLend, Dl.eCall, Dl.callM, Dl.alsOf, Dl.svsOf, Dl.svOf, Dl.backs, Dl.backSv, Dl.denOf, Dl.finC, Dl.outs, Dl.retRV, Dl.SV.arg, Dl.SV.lent, Dl.gNameM, Dl.gNilM, Dl.gConsM, Dl.gTupM, Dl.gSubM, Dl.isLst, Dl.sPar, Dl.sFor, Dl.forM, Dl.iSeqM, Dl.D.items, Dl.eCallF, Dl.callF, Dl.eMake, Dl.makeM, Dl.eFld, Dl.opFld, Dl.sPutF, Dl.opAdd, Dl.opSub, Dl.opMul, Dl.opFDiv, Dl.opMod, Dl.opPow, Dl.opNeg, Dl.opLt, Dl.opLe, Dl.opGt, Dl.opGe, Dl.opIs2, Dl.opIsNot2, Dl.opIsN, Dl.opNotN, Dl.D.isNon, Dl.opIx, Dl.opLen, Dl.opAbs, Dl.opMax2, Dl.opMin2, Dl.opInt1, Dl.opStrI, Dl.opList, Dl.opTuple, Dl.eIsi, Dl.isaD, Dl.D.bt, Dl.subB, Dl.sTry, Dl.tryH, Dl.endH, Dl.noExc, Dl.clearS, Dl.SV.isExc, Dl.eXf, Dl.eIsX, Dl.sRaise, Dl.hitL, L2.atI, L2.ixN, Dl.LIM]; exact rfl
    unfold t__law_questions_9
    refine seq_nx (env1 := ?_) ?_ ?_
    rotate_left
    · simp [o1, o2, Dl.sSeq, Dl.sIf, Dl.sRet, Dl.sRetN, Dl.sDrop, Dl.putM, Dl.sAsg, Dl.sAsgG, Dl.sNx, Dl.sBk, Dl.sCt, Dl.bindM, Dl.retM, Dl.liftM, Dl.settle, Dl.eVar, Dl.eC, Dl.eB, Dl.eNot, Dl.eAnd, Dl.eOr, Dl.eV, Dl.eIf, Dl.eAndV, Dl.eOrV, Dl.eOp2, Dl.eOp1, Dl.eOpn, Dl.op2M, Dl.op1M, Dl.opnM, Dl.eOp2R, Dl.peek, Dl.peeks, Dl.pNil, Dl.pCons, Dl.dNil, Dl.dCons, Dl.eTup, Dl.eLst, Dl.aNil, Dl.aSet, Dl.aLend, Dl.eCall, Dl.callM, Dl.alsOf, Dl.svsOf, Dl.svOf, Dl.backs, Dl.backSv, Dl.denOf, Dl.finC, Dl.outs, Dl.retRV, Dl.SV.arg, Dl.SV.lent, Dl.gNameM, Dl.gNilM, Dl.gConsM, Dl.gTupM, Dl.gSubM, Dl.isLst, Dl.sPar, Dl.sFor, Dl.forM, Dl.iSeqM, Dl.D.items, Dl.eCallF, Dl.callF, Dl.eMake, Dl.makeM, Dl.eFld, Dl.opFld, Dl.sPutF, Dl.opAdd, Dl.opSub, Dl.opMul, Dl.opFDiv, Dl.opMod, Dl.opPow, Dl.opNeg, Dl.opLt, Dl.opLe, Dl.opGt, Dl.opGe, Dl.opIs2, Dl.opIsNot2, Dl.opIsN, Dl.opNotN, Dl.D.isNon, Dl.opIx, Dl.opLen, Dl.opAbs, Dl.opMax2, Dl.opMin2, Dl.opInt1, Dl.opStrI, Dl.opList, Dl.opTuple, Dl.eIsi, Dl.isaD, Dl.D.bt, Dl.subB, Dl.sTry, Dl.tryH, Dl.endH, Dl.noExc, Dl.clearS, Dl.SV.isExc, Dl.eXf, Dl.eIsX, Dl.sRaise, Dl.hitL, L2.atI, L2.ixN, Dl.LIM]; exact rfl
    exact hR
  have fin : c__law_questions_0 [.brw y2, .imm (rat t b), .imm (.tup [.int t, .int b]), .imm (.int n), .imm (.tup [.str "told", .bl (decide (t < n * b))]), .imm (.tup [.int sgn, .int (t.fdiv b)]), .imm (.int (1 + r)), .imm (.int re), .imm o, .own [.tup [.str "refused", o], .tup [.str "refused", o]], .none] = .ok (.fresh [.bl true, .bl true]) [.brw y2, .imm (rat t b), .imm (.tup [.int t, .int b]), .imm (.int n), .imm (.tup [.str "told", .bl (decide (t < n * b))]), .imm (.tup [.int sgn, .int (t.fdiv b)]), .imm (.int (1 + r)), .imm (.int re), .imm o, .own [.tup [.str "refused", o], .tup [.str "refused", o]], .none] := by
    unfold c__law_questions_0
    simp [Dl.eLcV, lcMV, Dl.wipeE, Dl.unwipe, Dl.eYes, ref, al, Dl.sSeq, Dl.sIf, Dl.sRet, Dl.sRetN, Dl.sDrop, Dl.putM, Dl.sAsg, Dl.sAsgG, Dl.sNx, Dl.sBk, Dl.sCt, Dl.bindM, Dl.retM, Dl.liftM, Dl.settle, Dl.eVar, Dl.eC, Dl.eB, Dl.eNot, Dl.eAnd, Dl.eOr, Dl.eV, Dl.eIf, Dl.eAndV, Dl.eOrV, Dl.eOp2, Dl.eOp1, Dl.eOpn, Dl.op2M, Dl.op1M, Dl.opnM, Dl.eOp2R, Dl.peek, Dl.peeks, Dl.pNil, Dl.pCons, Dl.dNil, Dl.dCons, Dl.eTup, Dl.eLst, Dl.aNil, Dl.aSet, Dl.aLend, Dl.eCall, Dl.callM, Dl.alsOf, Dl.svsOf, Dl.svOf, Dl.backs, Dl.backSv, Dl.denOf, Dl.finC, Dl.outs, Dl.retRV, Dl.SV.arg, Dl.SV.lent, Dl.gNameM, Dl.gNilM, Dl.gConsM, Dl.gTupM, Dl.gSubM, Dl.isLst, Dl.sPar, Dl.sFor, Dl.forM, Dl.iSeqM, Dl.D.items, Dl.eCallF, Dl.callF, Dl.eMake, Dl.makeM, Dl.eFld, Dl.opFld, Dl.sPutF, Dl.opAdd, Dl.opSub, Dl.opMul, Dl.opFDiv, Dl.opMod, Dl.opPow, Dl.opNeg, Dl.opLt, Dl.opLe, Dl.opGt, Dl.opGe, Dl.opIs2, Dl.opIsNot2, Dl.opIsN, Dl.opNotN, Dl.D.isNon, Dl.opIx, Dl.opLen, Dl.opAbs, Dl.opMax2, Dl.opMin2, Dl.opInt1, Dl.opStrI, Dl.opList, Dl.opTuple, Dl.eIsi, Dl.isaD, Dl.D.bt, Dl.subB, Dl.sTry, Dl.tryH, Dl.endH, Dl.noExc, Dl.clearS, Dl.SV.isExc, Dl.eXf, Dl.eIsX, Dl.sRaise, Dl.hitL, L2.atI, L2.ixN, Dl.LIM]
  have B : b__law_questions [.brw xs, .imm (rat t b), .imm (.tup [.int t, .int b]), .imm (.int n), .none, .none, .none, .none, .none, .none, .none] = .ok (.ret (.imm (.bl true))) [.brw y2, .imm (rat t b), .imm (.tup [.int t, .int b]), .imm (.int n), .imm (.tup [.str "told", .bl (decide (t < n * b))]), .imm (.tup [.int sgn, .int (t.fdiv b)]), .imm (.int (1 + r)), .imm (.int re), .imm o, .own [.tup [.str "refused", o], .tup [.str "refused", o]], .none] := by
    refine st ?_
    unfold t__law_questions_10
    generalize c__law_questions_0 = cM at *
    have al2 : opAll [.lst [.bl true, .bl true]] = some (.imm (.bl true)) := rfl
    simp [fin, al2, Dl.sSeq, Dl.sIf, Dl.sRet, Dl.sRetN, Dl.sDrop, Dl.putM, Dl.sAsg, Dl.sAsgG, Dl.sNx, Dl.sBk, Dl.sCt, Dl.bindM, Dl.retM, Dl.liftM, Dl.settle, Dl.eVar, Dl.eC, Dl.eB, Dl.eNot, Dl.eAnd, Dl.eOr, Dl.eV, Dl.eIf, Dl.eAndV, Dl.eOrV, Dl.eOp2, Dl.eOp1, Dl.eOpn, Dl.op2M, Dl.op1M, Dl.opnM, Dl.eOp2R, Dl.peek, Dl.peeks, Dl.pNil, Dl.pCons, Dl.dNil, Dl.dCons, Dl.eTup, Dl.eLst, Dl.aNil, Dl.aSet, Dl.aLend, Dl.eCall, Dl.callM, Dl.alsOf, Dl.svsOf, Dl.svOf, Dl.backs, Dl.backSv, Dl.denOf, Dl.finC, Dl.outs, Dl.retRV, Dl.SV.arg, Dl.SV.lent, Dl.gNameM, Dl.gNilM, Dl.gConsM, Dl.gTupM, Dl.gSubM, Dl.isLst, Dl.sPar, Dl.sFor, Dl.forM, Dl.iSeqM, Dl.D.items, Dl.eCallF, Dl.callF, Dl.eMake, Dl.makeM, Dl.eFld, Dl.opFld, Dl.sPutF, Dl.opAdd, Dl.opSub, Dl.opMul, Dl.opFDiv, Dl.opMod, Dl.opPow, Dl.opNeg, Dl.opLt, Dl.opLe, Dl.opGt, Dl.opGe, Dl.opIs2, Dl.opIsNot2, Dl.opIsN, Dl.opNotN, Dl.D.isNon, Dl.opIx, Dl.opLen, Dl.opAbs, Dl.opMax2, Dl.opMin2, Dl.opInt1, Dl.opStrI, Dl.opList, Dl.opTuple, Dl.eIsi, Dl.isaD, Dl.D.bt, Dl.subB, Dl.sTry, Dl.tryH, Dl.endH, Dl.noExc, Dl.clearS, Dl.SV.isExc, Dl.eXf, Dl.eIsX, Dl.sRaise, Dl.hitL, L2.atI, L2.ixN, Dl.LIM]
  exact den_ret rfl rfl B rfl rfl
end
end L01
namespace L01
open PySem PySem.Spec PyProof.Rows L2 Dl

theorem whole {k : Int} {xs : List D} (h : Src k xs) (hk : k ≤ 900) : ∃ r ys, Int.natAbs r < 2 ^ 60 ∧ Src (k + 3) ys ∧ den__law_whole [.brw xs] = .ok (.imm (.int r)) [.brw ys] := by
  obtain ⟨r, ys, h0, h1, hs, e⟩ := draw_src h (by omega) (m := 3) (by decide) (by decide)
  by_cases z0 : 0 < r
  · obtain ⟨r2, zs, g0, g1, gs, e2⟩ := draw_src hs (by omega) (m := 41) (by decide) (by decide)
    refine ⟨r2 - 20, zs, by omega, gs.up (by omega), ?_⟩
    have B : b__law_whole [.brw xs] = .ok (.ret (.imm (.int (r2 - 20)))) [.brw zs] := by
      unfold b__law_whole
      refine seq_ret (if_t (env1 := ?_) ?_ ?_)
      rotate_left
      · simp [e, z0, Dl.sSeq, Dl.sIf, Dl.sRet, Dl.sRetN, Dl.sDrop, Dl.putM, Dl.sAsg, Dl.sAsgG, Dl.sNx, Dl.sBk, Dl.sCt, Dl.bindM, Dl.retM, Dl.liftM, Dl.settle, Dl.eVar, Dl.eC, Dl.eB, Dl.eNot, Dl.eAnd, Dl.eOr, Dl.eV, Dl.eIf, Dl.eAndV, Dl.eOrV, Dl.eOp2, Dl.eOp1, Dl.eOpn, Dl.op2M, Dl.op1M, Dl.opnM, Dl.eOp2R, Dl.peek, Dl.peeks, Dl.pNil, Dl.pCons, Dl.dNil, Dl.dCons, Dl.eTup, Dl.eLst, Dl.aNil, Dl.aSet, Dl.aLend, Dl.eCall, Dl.callM, Dl.alsOf, Dl.svsOf, Dl.svOf, Dl.backs, Dl.backSv, Dl.denOf, Dl.finC, Dl.outs, Dl.retRV, Dl.SV.arg, Dl.SV.lent, Dl.gNameM, Dl.gNilM, Dl.gConsM, Dl.gTupM, Dl.gSubM, Dl.isLst, Dl.sPar, Dl.sFor, Dl.forM, Dl.iSeqM, Dl.D.items, Dl.eCallF, Dl.callF, Dl.eMake, Dl.makeM, Dl.eFld, Dl.opFld, Dl.sPutF, Dl.opAdd, Dl.opSub, Dl.opMul, Dl.opFDiv, Dl.opMod, Dl.opPow, Dl.opNeg, Dl.opLt, Dl.opLe, Dl.opGt, Dl.opGe, Dl.opIs2, Dl.opIsNot2, Dl.opIsN, Dl.opNotN, Dl.D.isNon, Dl.opIx, Dl.opLen, Dl.opAbs, Dl.opMax2, Dl.opMin2, Dl.opInt1, Dl.opStrI, Dl.opList, Dl.opTuple, Dl.eIsi, Dl.isaD, Dl.D.bt, Dl.subB, Dl.sTry, Dl.tryH, Dl.endH, Dl.noExc, Dl.clearS, Dl.SV.isExc, Dl.eXf, Dl.eIsX, Dl.sRaise, Dl.hitL, L2.atI, L2.ixN, Dl.LIM]; exact rfl
      simp [e2, Dl.sSeq, Dl.sIf, Dl.sRet, Dl.sRetN, Dl.sDrop, Dl.putM, Dl.sAsg, Dl.sAsgG, Dl.sNx, Dl.sBk, Dl.sCt, Dl.bindM, Dl.retM, Dl.liftM, Dl.settle, Dl.eVar, Dl.eC, Dl.eB, Dl.eNot, Dl.eAnd, Dl.eOr, Dl.eV, Dl.eIf, Dl.eAndV, Dl.eOrV, Dl.eOp2, Dl.eOp1, Dl.eOpn, Dl.op2M, Dl.op1M, Dl.opnM, Dl.eOp2R, Dl.peek, Dl.peeks, Dl.pNil, Dl.pCons, Dl.dNil, Dl.dCons, Dl.eTup, Dl.eLst, Dl.aNil, Dl.aSet, Dl.aLend, Dl.eCall, Dl.callM, Dl.alsOf, Dl.svsOf, Dl.svOf, Dl.backs, Dl.backSv, Dl.denOf, Dl.finC, Dl.outs, Dl.retRV, Dl.SV.arg, Dl.SV.lent, Dl.gNameM, Dl.gNilM, Dl.gConsM, Dl.gTupM, Dl.gSubM, Dl.isLst, Dl.sPar, Dl.sFor, Dl.forM, Dl.iSeqM, Dl.D.items, Dl.eCallF, Dl.callF, Dl.eMake, Dl.makeM, Dl.eFld, Dl.opFld, Dl.sPutF, Dl.opAdd, Dl.opSub, Dl.opMul, Dl.opFDiv, Dl.opMod, Dl.opPow, Dl.opNeg, Dl.opLt, Dl.opLe, Dl.opGt, Dl.opGe, Dl.opIs2, Dl.opIsNot2, Dl.opIsN, Dl.opNotN, Dl.D.isNon, Dl.opIx, Dl.opLen, Dl.opAbs, Dl.opMax2, Dl.opMin2, Dl.opInt1, Dl.opStrI, Dl.opList, Dl.opTuple, Dl.eIsi, Dl.isaD, Dl.D.bt, Dl.subB, Dl.sTry, Dl.tryH, Dl.endH, Dl.noExc, Dl.clearS, Dl.SV.isExc, Dl.eXf, Dl.eIsX, Dl.sRaise, Dl.hitL, L2.atI, L2.ixN, Dl.LIM]
    exact den_ret rfl rfl B rfl rfl
  · obtain ⟨r2, zs, g0, g1, gs, e2⟩ := draw_src hs (by omega) (m := 2000001) (by decide) (by decide)
    obtain ⟨r3, ws, k0, k1, ks, e3⟩ := draw_src gs (by omega) (m := 1000000) (by decide) (by decide)
    have m1 : opMul (.int 2) (.int 1000000) = some (.imm (.int 2000000)) := mulOk (by decide) (by decide)
    have m2 : opMul (.int r2) (.int r3) = some (.imm (.int (r2 * r3))) := mulOk (by omega) (by omega)
    refine ⟨r2 * r3 - 1000000000000, ws, ?_, ks.up (by omega), ?_⟩
    · have a1 : r2 * r3 ≤ 2000001 * 1000000 := Int.mul_le_mul (by omega) (by omega) k0 (by decide)
      have a2 : 0 ≤ r2 * r3 := Int.mul_nonneg g0 k0
      omega
    · have B : b__law_whole [.brw xs] = .ok (.ret (.imm (.int (r2 * r3 - 1000000000000)))) [.brw ws] := by
        unfold b__law_whole
        refine seq_nx (if_pass (env1 := ?_) ?_) ?_
        rotate_left
        · simp [e, z0, Dl.sSeq, Dl.sIf, Dl.sRet, Dl.sRetN, Dl.sDrop, Dl.putM, Dl.sAsg, Dl.sAsgG, Dl.sNx, Dl.sBk, Dl.sCt, Dl.bindM, Dl.retM, Dl.liftM, Dl.settle, Dl.eVar, Dl.eC, Dl.eB, Dl.eNot, Dl.eAnd, Dl.eOr, Dl.eV, Dl.eIf, Dl.eAndV, Dl.eOrV, Dl.eOp2, Dl.eOp1, Dl.eOpn, Dl.op2M, Dl.op1M, Dl.opnM, Dl.eOp2R, Dl.peek, Dl.peeks, Dl.pNil, Dl.pCons, Dl.dNil, Dl.dCons, Dl.eTup, Dl.eLst, Dl.aNil, Dl.aSet, Dl.aLend, Dl.eCall, Dl.callM, Dl.alsOf, Dl.svsOf, Dl.svOf, Dl.backs, Dl.backSv, Dl.denOf, Dl.finC, Dl.outs, Dl.retRV, Dl.SV.arg, Dl.SV.lent, Dl.gNameM, Dl.gNilM, Dl.gConsM, Dl.gTupM, Dl.gSubM, Dl.isLst, Dl.sPar, Dl.sFor, Dl.forM, Dl.iSeqM, Dl.D.items, Dl.eCallF, Dl.callF, Dl.eMake, Dl.makeM, Dl.eFld, Dl.opFld, Dl.sPutF, Dl.opAdd, Dl.opSub, Dl.opMul, Dl.opFDiv, Dl.opMod, Dl.opPow, Dl.opNeg, Dl.opLt, Dl.opLe, Dl.opGt, Dl.opGe, Dl.opIs2, Dl.opIsNot2, Dl.opIsN, Dl.opNotN, Dl.D.isNon, Dl.opIx, Dl.opLen, Dl.opAbs, Dl.opMax2, Dl.opMin2, Dl.opInt1, Dl.opStrI, Dl.opList, Dl.opTuple, Dl.eIsi, Dl.isaD, Dl.D.bt, Dl.subB, Dl.sTry, Dl.tryH, Dl.endH, Dl.noExc, Dl.clearS, Dl.SV.isExc, Dl.eXf, Dl.eIsX, Dl.sRaise, Dl.hitL, L2.atI, L2.ixN, Dl.LIM]; exact rfl
        simp [m1, m2, e2, e3, Dl.sSeq, Dl.sIf, Dl.sRet, Dl.sRetN, Dl.sDrop, Dl.putM, Dl.sAsg, Dl.sAsgG, Dl.sNx, Dl.sBk, Dl.sCt, Dl.bindM, Dl.retM, Dl.liftM, Dl.settle, Dl.eVar, Dl.eC, Dl.eB, Dl.eNot, Dl.eAnd, Dl.eOr, Dl.eV, Dl.eIf, Dl.eAndV, Dl.eOrV, Dl.eOp2, Dl.eOp1, Dl.eOpn, Dl.op2M, Dl.op1M, Dl.opnM, Dl.eOp2R, Dl.peek, Dl.peeks, Dl.pNil, Dl.pCons, Dl.dNil, Dl.dCons, Dl.eTup, Dl.eLst, Dl.aNil, Dl.aSet, Dl.aLend, Dl.eCall, Dl.callM, Dl.alsOf, Dl.svsOf, Dl.svOf, Dl.backs, Dl.backSv, Dl.denOf, Dl.finC, Dl.outs, Dl.retRV, Dl.SV.arg, Dl.SV.lent, Dl.gNameM, Dl.gNilM, Dl.gConsM, Dl.gTupM, Dl.gSubM, Dl.isLst, Dl.sPar, Dl.sFor, Dl.forM, Dl.iSeqM, Dl.D.items, Dl.eCallF, Dl.callF, Dl.eMake, Dl.makeM, Dl.eFld, Dl.opFld, Dl.sPutF, Dl.opAdd, Dl.opSub, Dl.opFDiv, Dl.opMod, Dl.opPow, Dl.opNeg, Dl.opLt, Dl.opLe, Dl.opGt, Dl.opGe, Dl.opIs2, Dl.opIsNot2, Dl.opIsN, Dl.opNotN, Dl.D.isNon, Dl.opIx, Dl.opLen, Dl.opAbs, Dl.opMax2, Dl.opMin2, Dl.opInt1, Dl.opStrI, Dl.opList, Dl.opTuple, Dl.eIsi, Dl.isaD, Dl.D.bt, Dl.subB, Dl.sTry, Dl.tryH, Dl.endH, Dl.noExc, Dl.clearS, Dl.SV.isExc, Dl.eXf, Dl.eIsX, Dl.sRaise, Dl.hitL, L2.atI, L2.ixN, Dl.LIM]
      exact den_ret rfl rfl B rfl rfl
theorem pair {k : Int} {xs : List D} (h : Src k xs) (hk : k ≤ 800) : ∃ t b ys, Low t b ∧ Int.natAbs t < 2 ^ 60 ∧ Int.natAbs b < 2 ^ 60 ∧ Src (k + 6) ys ∧ den__law_pair [.brw xs] = .ok (.imm (.tup [.int t, .int b])) [.brw ys] := by
  obtain ⟨b0, y1, hb0, h1, e1⟩ := whole h (by omega)
  obtain ⟨b, hb, bne, eb⟩ : ∃ b : Int, b.natAbs < 2 ^ 60 ∧ b ≠ 0 ∧ b = if b0 = 0 then 7 else b0 := by
    by_cases z : b0 = 0
    · exact ⟨7, by decide, by decide, by rw [if_pos z]⟩
    · exact ⟨b0, hb0, z, by rw [if_neg z]⟩
  obtain ⟨t, y2, ht, h2, e2⟩ := whole h1 (by omega)
  obtain ⟨l, g1, g2⟩ := nrm_spec t b bne
  have w := lowest t b bne (lt_mono hb (by decide))
  refine ⟨nT t b, nB t b, y2, l, Nat.lt_of_le_of_lt g1 ht, Nat.lt_of_le_of_lt g2 hb, h2.up (by omega), ?_⟩
  generalize nT t b = p at *
  generalize nB t b = q at *
  have B : b__law_pair [.brw xs, .none] = .ok (.ret (.imm (.tup [.int p, .int q]))) [.brw y2, .imm (.int b)] := by
    unfold b__law_pair
    refine seq_nx (env1 := ?_) ?_ ?_
    rotate_left
    · simp [e1, Dl.sSeq, Dl.sIf, Dl.sRet, Dl.sRetN, Dl.sDrop, Dl.putM, Dl.sAsg, Dl.sAsgG, Dl.sNx, Dl.sBk, Dl.sCt, Dl.bindM, Dl.retM, Dl.liftM, Dl.settle, Dl.eVar, Dl.eC, Dl.eB, Dl.eNot, Dl.eAnd, Dl.eOr, Dl.eV, Dl.eIf, Dl.eAndV, Dl.eOrV, Dl.eOp2, Dl.eOp1, Dl.eOpn, Dl.op2M, Dl.op1M, Dl.opnM, Dl.eOp2R, Dl.peek, Dl.peeks, Dl.pNil, Dl.pCons, Dl.dNil, Dl.dCons, Dl.eTup, Dl.eLst, Dl.aNil, Dl.aSet, Dl.aLend, Dl.eCall, Dl.callM, Dl.alsOf, Dl.svsOf, Dl.svOf, Dl.backs, Dl.backSv, Dl.denOf, Dl.finC, Dl.outs, Dl.retRV, Dl.SV.arg, Dl.SV.lent, Dl.gNameM, Dl.gNilM, Dl.gConsM, Dl.gTupM, Dl.gSubM, Dl.isLst, Dl.sPar, Dl.sFor, Dl.forM, Dl.iSeqM, Dl.D.items, Dl.eCallF, Dl.callF, Dl.eMake, Dl.makeM, Dl.eFld, Dl.opFld, Dl.sPutF, Dl.opAdd, Dl.opSub, Dl.opMul, Dl.opFDiv, Dl.opMod, Dl.opPow, Dl.opNeg, Dl.opLt, Dl.opLe, Dl.opGt, Dl.opGe, Dl.opIs2, Dl.opIsNot2, Dl.opIsN, Dl.opNotN, Dl.D.isNon, Dl.opIx, Dl.opLen, Dl.opAbs, Dl.opMax2, Dl.opMin2, Dl.opInt1, Dl.opStrI, Dl.opList, Dl.opTuple, Dl.eIsi, Dl.isaD, Dl.D.bt, Dl.subB, Dl.sTry, Dl.tryH, Dl.endH, Dl.noExc, Dl.clearS, Dl.SV.isExc, Dl.eXf, Dl.eIsX, Dl.sRaise, Dl.hitL, L2.atI, L2.ixN, Dl.LIM]; exact rfl
    refine seq_nx (env1 := [.brw y1, .imm (.int b)]) ?_ ?_
    · by_cases z : b0 = 0
      · rw [if_pos z] at eb
        subst eb
        simp [eqA_int, z, Dl.sSeq, Dl.sIf, Dl.sRet, Dl.sRetN, Dl.sDrop, Dl.putM, Dl.sAsg, Dl.sAsgG, Dl.sNx, Dl.sBk, Dl.sCt, Dl.bindM, Dl.retM, Dl.liftM, Dl.settle, Dl.eVar, Dl.eC, Dl.eB, Dl.eNot, Dl.eAnd, Dl.eOr, Dl.eV, Dl.eIf, Dl.eAndV, Dl.eOrV, Dl.eOp2, Dl.eOp1, Dl.eOpn, Dl.op2M, Dl.op1M, Dl.opnM, Dl.eOp2R, Dl.peek, Dl.peeks, Dl.pNil, Dl.pCons, Dl.dNil, Dl.dCons, Dl.eTup, Dl.eLst, Dl.aNil, Dl.aSet, Dl.aLend, Dl.eCall, Dl.callM, Dl.alsOf, Dl.svsOf, Dl.svOf, Dl.backs, Dl.backSv, Dl.denOf, Dl.finC, Dl.outs, Dl.retRV, Dl.SV.arg, Dl.SV.lent, Dl.gNameM, Dl.gNilM, Dl.gConsM, Dl.gTupM, Dl.gSubM, Dl.isLst, Dl.sPar, Dl.sFor, Dl.forM, Dl.iSeqM, Dl.D.items, Dl.eCallF, Dl.callF, Dl.eMake, Dl.makeM, Dl.eFld, Dl.opFld, Dl.sPutF, Dl.opAdd, Dl.opSub, Dl.opMul, Dl.opFDiv, Dl.opMod, Dl.opPow, Dl.opNeg, Dl.opLt, Dl.opLe, Dl.opGt, Dl.opGe, Dl.opIs2, Dl.opIsNot2, Dl.opIsN, Dl.opNotN, Dl.D.isNon, Dl.opIx, Dl.opLen, Dl.opAbs, Dl.opMax2, Dl.opMin2, Dl.opInt1, Dl.opStrI, Dl.opList, Dl.opTuple, Dl.eIsi, Dl.isaD, Dl.D.bt, Dl.subB, Dl.sTry, Dl.tryH, Dl.endH, Dl.noExc, Dl.clearS, Dl.SV.isExc, Dl.eXf, Dl.eIsX, Dl.sRaise, Dl.hitL, L2.atI, L2.ixN, Dl.LIM]
      · rw [if_neg z] at eb
        subst eb
        simp [eqA_int, z, Dl.sSeq, Dl.sIf, Dl.sRet, Dl.sRetN, Dl.sDrop, Dl.putM, Dl.sAsg, Dl.sAsgG, Dl.sNx, Dl.sBk, Dl.sCt, Dl.bindM, Dl.retM, Dl.liftM, Dl.settle, Dl.eVar, Dl.eC, Dl.eB, Dl.eNot, Dl.eAnd, Dl.eOr, Dl.eV, Dl.eIf, Dl.eAndV, Dl.eOrV, Dl.eOp2, Dl.eOp1, Dl.eOpn, Dl.op2M, Dl.op1M, Dl.opnM, Dl.eOp2R, Dl.peek, Dl.peeks, Dl.pNil, Dl.pCons, Dl.dNil, Dl.dCons, Dl.eTup, Dl.eLst, Dl.aNil, Dl.aSet, Dl.aLend, Dl.eCall, Dl.callM, Dl.alsOf, Dl.svsOf, Dl.svOf, Dl.backs, Dl.backSv, Dl.denOf, Dl.finC, Dl.outs, Dl.retRV, Dl.SV.arg, Dl.SV.lent, Dl.gNameM, Dl.gNilM, Dl.gConsM, Dl.gTupM, Dl.gSubM, Dl.isLst, Dl.sPar, Dl.sFor, Dl.forM, Dl.iSeqM, Dl.D.items, Dl.eCallF, Dl.callF, Dl.eMake, Dl.makeM, Dl.eFld, Dl.opFld, Dl.sPutF, Dl.opAdd, Dl.opSub, Dl.opMul, Dl.opFDiv, Dl.opMod, Dl.opPow, Dl.opNeg, Dl.opLt, Dl.opLe, Dl.opGt, Dl.opGe, Dl.opIs2, Dl.opIsNot2, Dl.opIsN, Dl.opNotN, Dl.D.isNon, Dl.opIx, Dl.opLen, Dl.opAbs, Dl.opMax2, Dl.opMin2, Dl.opInt1, Dl.opStrI, Dl.opList, Dl.opTuple, Dl.eIsi, Dl.isaD, Dl.D.bt, Dl.subB, Dl.sTry, Dl.tryH, Dl.endH, Dl.noExc, Dl.clearS, Dl.SV.isExc, Dl.eXf, Dl.eIsX, Dl.sRaise, Dl.hitL, L2.atI, L2.ixN, Dl.LIM]
    simp [e2, w, Dl.sSeq, Dl.sIf, Dl.sRet, Dl.sRetN, Dl.sDrop, Dl.putM, Dl.sAsg, Dl.sAsgG, Dl.sNx, Dl.sBk, Dl.sCt, Dl.bindM, Dl.retM, Dl.liftM, Dl.settle, Dl.eVar, Dl.eC, Dl.eB, Dl.eNot, Dl.eAnd, Dl.eOr, Dl.eV, Dl.eIf, Dl.eAndV, Dl.eOrV, Dl.eOp2, Dl.eOp1, Dl.eOpn, Dl.op2M, Dl.op1M, Dl.opnM, Dl.eOp2R, Dl.peek, Dl.peeks, Dl.pNil, Dl.pCons, Dl.dNil, Dl.dCons, Dl.eTup, Dl.eLst, Dl.aNil, Dl.aSet, Dl.aLend, Dl.eCall, Dl.callM, Dl.alsOf, Dl.svsOf, Dl.svOf, Dl.backs, Dl.backSv, Dl.denOf, Dl.finC, Dl.outs, Dl.retRV, Dl.SV.arg, Dl.SV.lent, Dl.gNameM, Dl.gNilM, Dl.gConsM, Dl.gTupM, Dl.gSubM, Dl.isLst, Dl.sPar, Dl.sFor, Dl.forM, Dl.iSeqM, Dl.D.items, Dl.eCallF, Dl.callF, Dl.eMake, Dl.makeM, Dl.eFld, Dl.opFld, Dl.sPutF, Dl.opAdd, Dl.opSub, Dl.opMul, Dl.opFDiv, Dl.opMod, Dl.opPow, Dl.opNeg, Dl.opLt, Dl.opLe, Dl.opGt, Dl.opGe, Dl.opIs2, Dl.opIsNot2, Dl.opIsN, Dl.opNotN, Dl.D.isNon, Dl.opIx, Dl.opLen, Dl.opAbs, Dl.opMax2, Dl.opMin2, Dl.opInt1, Dl.opStrI, Dl.opList, Dl.opTuple, Dl.eIsi, Dl.isaD, Dl.D.bt, Dl.subB, Dl.sTry, Dl.tryH, Dl.endH, Dl.noExc, Dl.clearS, Dl.SV.isExc, Dl.eXf, Dl.eIsX, Dl.sRaise, Dl.hitL, L2.atI, L2.ixN, Dl.LIM]
  exact den_ret rfl rfl B rfl rfl
theorem rng2 (f : Dl.M (List RV)) (env env' : Dl.Env) (r1 r2 : RV) (i j : Int) (h : f env = .ok [r1, r2] env') (hp : peek env' r1 = some (.int i)) (hq : peek env' r2 = some (.int j)) (h0 : -1000000 ≤ i ∧ i ≤ 1000000) (h1 : -1000000 ≤ j ∧ j ≤ 1000000) : Dl.iRng2M f env = .ok ((List.range (j - i).toNat).map fun (k : Nat) => D.int (i + k)) env' := by
  have h2 : (-(2 ^ 62) ≤ i ∧ i < 2 ^ 62) ∧ -(2 ^ 62) ≤ j ∧ j < 2 ^ 62 := by
    have a : (2 : Int) ^ 62 = 4611686018427387904 := by decide
    omega
  unfold Dl.iRng2M Dl.bindM
  rw [h]
  simp only [peeks, hp, hq]
  rw [if_pos h2]
def pD (p : Int × Int) : D := .tup [.int p.1, .int p.2]
def kD (p : Int × Int) : D := rat p.1 p.2
def Ok1 (p : Int × Int) : Prop := Low p.1 p.2 ∧ p.1.natAbs ≤ 10 ^ 30 ∧ p.2.natAbs ≤ 10 ^ 30
theorem Ok1.sz {p : Int × Int} (h : Ok1 p) : Sz 100 (kD p) p.1 p.2 := by
  obtain ⟨l, h1, h2⟩ := h
  have a : (10 : Nat) ^ 30 < 2 ^ 100 := by decide
  have b : (2 : Nat) ^ 100 < 2 ^ 240 := by decide
  exact ⟨.rat l (by omega) (by omega), by omega, by omega⟩
theorem at_map {α β : Type} (f : α → β) {xs : List α} {r : Int} {x : α} (h0 : 0 ≤ r) (h : atI xs r = some x) : atI (xs.map f) r = some (f x) := by
  unfold atI at *
  rw [List.length_map]
  cases e : ixN xs.length r with
  | none => rw [e] at h; cases h
  | some j =>
    rw [e] at h
    simp only [Option.bind_some] at h ⊢
    rw [List.getElem?_map, h]
    rfl
end L01
namespace L01
open PySem PySem.Spec PyProof.Rows L2 Dl

section
variable (ns : List Int) (hn : ns.length ≤ 63)
/-- the sum, both ways -/
theorem made {xs : List D} {ps : List (Int × Int)} (x4 x12 : SV) (i : Int) {k o1 o2 wy n : Int} (hk : 0 ≤ k ∧ k < 3) {p1 p2 : Int × Int} (hp1 : Ok1 p1) (hp2 : Ok1 p2) (a1 : atI (ps.map pD) o1 = some (pD p1)) (c1 : atI (ps.map kD) o1 = some (kD p1)) (a2 : atI (ps.map pD) o2 = some (pD p2)) (c2 : atI (ps.map kD) o2 = some (kD p2)) (hnn : n.natAbs < 2 ^ 60) :
    ∃ T B : Int, Low T B ∧ T.natAbs < 2 ^ 220 ∧ B.natAbs < 2 ^ 220 ∧ (sIf (eB (eOp2 opEqA (eVar 9) (eC (.int 0)))) (sSeq (sAsg 11 (eCall 3 den__law_sum (aLend 6 (aSet (eOp2 opIx (eVar 3) (eVar 7)) (aLend 11 aNil))))) (sAsg 12 (eCall 3 den__law_done (aLend 6 (aSet (eOp2 opIx (eVar 5) (eVar 7)) (aLend 10 aNil)))))) (sIf (eB (eOp2 opEqA (eVar 9) (eC (.int 1)))) (sSeq (sAsg 11 (eCall 3 den__law_sum (aLend 6 (aLend 11 (aSet (eOp2 opIx (eVar 3) (eVar 7)) aNil))))) (sAsg 12 (eCall 3 den__law_done (aLend 6 (aLend 10 (aSet (eOp2 opIx (eVar 5) (eVar 7)) aNil)))))) (sSeq (sAsg 11 (eCall 3 den__law_sum (aLend 6 (aSet (eOp2 opIx (eVar 3) (eVar 7)) (aSet (eOp2 opIx (eVar 3) (eVar 8)) aNil))))) (sAsg 12 (eCall 3 den__law_done (aLend 6 (aSet (eOp2 opIx (eVar 5) (eVar 7)) (aSet (eOp2 opIx (eVar 5) (eVar 8)) aNil)))))))) [.imm (.rol (ns.map D.int)), .own xs, .imm (.int i), .own (ps.map pD), x4, .own (ps.map kD), .imm (.int k), .imm (.int o1), .imm (.int o2), .imm (.int wy), .imm (.int n), .imm (.tup [.int n, .int 1]), x12] = .ok .nx [.imm (.rol (ns.map D.int)), .own xs, .imm (.int i), .own (ps.map pD), x4, .own (ps.map kD), .imm (.int k), .imm (.int o1), .imm (.int o2), .imm (.int wy), .imm (.int n), .imm (.tup [.int T, .int B]), .imm (rat T B)] := by
  have s1 := hp1.sz
  have s2 := hp2.sz
  have sn : Sz 100 (.int n) n 1 := ⟨.int (lt_mono hnn (by decide)), lt_mono hnn (by decide), by decide⟩
  obtain ⟨t1, b1⟩ := p1
  obtain ⟨t2, b2⟩ := p2
  have fin : ∀ {x y : D} {d1 e1 d2 e2 : Int}, Sz 100 x d1 e1 → Sz 100 y d2 e2 → Low (nT (dueT k d1 e1 d2 e2) (e1 * e2)) (nB (dueT k d1 e1 d2 e2) (e1 * e2)) ∧ (nT (dueT k d1 e1 d2 e2) (e1 * e2)).natAbs < 2 ^ 220 ∧ (nB (dueT k d1 e1 d2 e2) (e1 * e2)).natAbs < 2 ^ 220 := fun hx hy => by
    obtain ⟨l, g1, g2⟩ := nrm_spec _ _ (Int.mul_ne_zero hx.ne hy.ne)
    exact ⟨l, Nat.lt_of_le_of_lt g1 (lt_mono (due_lt (by decide) hk hx hy) (by decide)), Nat.lt_of_le_of_lt g2 (lt_mono (mul_lt hx.e hy.e) (by decide))⟩
  have a1 : atI (ps.map pD) o1 = some (.tup [.int t1, .int b1]) := a1
  have a2 : atI (ps.map pD) o2 = some (.tup [.int t2, .int b2]) := a2
  have c1 : atI (ps.map kD) o1 = some (rat t1 b1) := c1
  have c2 : atI (ps.map kD) o2 = some (rat t2 b2) := c2
  by_cases w0 : wy = 0
  · obtain ⟨l, g1, g2⟩ := fin s1 sn
    have S := sum (by decide) hk s1 sn
    have D' := done (by decide) hk s1 sn (.l _ _ _)
    refine ⟨_, _, l, g1, g2, ?_⟩
    generalize nT (dueT k (t1, b1).1 (t1, b1).2 n 1) ((t1, b1).2 * 1) = T at *
    generalize nB (dueT k (t1, b1).1 (t1, b1).2 n 1) ((t1, b1).2 * 1) = B at *
    simp only [kD] at D' S
    unfold rat at *
    refine if_t (env1 := [.imm (.rol (ns.map D.int)), .own xs, .imm (.int i), .own (ps.map pD), x4, .own (ps.map kD), .imm (.int k), .imm (.int o1), .imm (.int o2), .imm (.int wy), .imm (.int n), .imm (.tup [.int n, .int 1]), x12]) ?_ ?_
    · simp [eqA_int, w0, Dl.sSeq, Dl.sIf, Dl.sRet, Dl.sRetN, Dl.sDrop, Dl.putM, Dl.sAsg, Dl.sAsgG, Dl.sNx, Dl.sBk, Dl.sCt, Dl.bindM, Dl.retM, Dl.liftM, Dl.settle, Dl.eVar, Dl.eC, Dl.eB, Dl.eNot, Dl.eAnd, Dl.eOr, Dl.eV, Dl.eIf, Dl.eAndV, Dl.eOrV, Dl.eOp2, Dl.eOp1, Dl.eOpn, Dl.op2M, Dl.op1M, Dl.opnM, Dl.eOp2R, Dl.peek, Dl.peeks, Dl.pNil, Dl.pCons, Dl.dNil, Dl.dCons, Dl.eTup, Dl.eLst, Dl.aNil, Dl.aSet, Dl.aLend, Dl.eCall, Dl.callM, Dl.alsOf, Dl.svsOf, Dl.svOf, Dl.backs, Dl.backSv, Dl.denOf, Dl.finC, Dl.outs, Dl.retRV, Dl.SV.arg, Dl.SV.lent, Dl.gNameM, Dl.gNilM, Dl.gConsM, Dl.gTupM, Dl.gSubM, Dl.isLst, Dl.sPar, Dl.sFor, Dl.forM, Dl.iSeqM, Dl.D.items, Dl.eCallF, Dl.callF, Dl.eMake, Dl.makeM, Dl.eFld, Dl.opFld, Dl.sPutF, Dl.opAdd, Dl.opSub, Dl.opMul, Dl.opFDiv, Dl.opMod, Dl.opPow, Dl.opNeg, Dl.opLt, Dl.opLe, Dl.opGt, Dl.opGe, Dl.opIs2, Dl.opIsNot2, Dl.opIsN, Dl.opNotN, Dl.D.isNon, Dl.opIx, Dl.opLen, Dl.opAbs, Dl.opMax2, Dl.opMin2, Dl.opInt1, Dl.opStrI, Dl.opList, Dl.opTuple, Dl.eIsi, Dl.isaD, Dl.D.bt, Dl.subB, Dl.sTry, Dl.tryH, Dl.endH, Dl.noExc, Dl.clearS, Dl.SV.isExc, Dl.eXf, Dl.eIsX, Dl.sRaise, Dl.hitL, L2.atI, L2.ixN, Dl.LIM]
    generalize ps.map pD = pl at *
    generalize ps.map kD = kl at *
    refine seq_nx (env1 := ?_) ?_ ?_
    rotate_left
    · simp [a1, S, Dl.sSeq, Dl.sIf, Dl.sRet, Dl.sRetN, Dl.sDrop, Dl.putM, Dl.sAsg, Dl.sAsgG, Dl.sNx, Dl.sBk, Dl.sCt, Dl.bindM, Dl.retM, Dl.liftM, Dl.settle, Dl.eVar, Dl.eC, Dl.eB, Dl.eNot, Dl.eAnd, Dl.eOr, Dl.eV, Dl.eIf, Dl.eAndV, Dl.eOrV, Dl.eOp2, Dl.eOp1, Dl.eOpn, Dl.op2M, Dl.op1M, Dl.opnM, Dl.eOp2R, Dl.peek, Dl.peeks, Dl.pNil, Dl.pCons, Dl.dNil, Dl.dCons, Dl.eTup, Dl.eLst, Dl.aNil, Dl.aSet, Dl.aLend, Dl.eCall, Dl.callM, Dl.alsOf, Dl.svsOf, Dl.svOf, Dl.backs, Dl.backSv, Dl.denOf, Dl.finC, Dl.outs, Dl.retRV, Dl.SV.arg, Dl.SV.lent, Dl.gNameM, Dl.gNilM, Dl.gConsM, Dl.gTupM, Dl.gSubM, Dl.isLst, Dl.sPar, Dl.sFor, Dl.forM, Dl.iSeqM, Dl.D.items, Dl.eCallF, Dl.callF, Dl.eMake, Dl.makeM, Dl.eFld, Dl.opFld, Dl.sPutF, Dl.opAdd, Dl.opSub, Dl.opMul, Dl.opFDiv, Dl.opMod, Dl.opPow, Dl.opNeg, Dl.opLt, Dl.opLe, Dl.opGt, Dl.opGe, Dl.opIs2, Dl.opIsNot2, Dl.opIsN, Dl.opNotN, Dl.D.isNon, Dl.opIx, Dl.opLen, Dl.opAbs, Dl.opMax2, Dl.opMin2, Dl.opInt1, Dl.opStrI, Dl.opList, Dl.opTuple, Dl.eIsi, Dl.isaD, Dl.D.bt, Dl.subB, Dl.sTry, Dl.tryH, Dl.endH, Dl.noExc, Dl.clearS, Dl.SV.isExc, Dl.eXf, Dl.eIsX, Dl.sRaise, Dl.hitL, Dl.LIM]; exact rfl
    simp [c1, D', Dl.sSeq, Dl.sIf, Dl.sRet, Dl.sRetN, Dl.sDrop, Dl.putM, Dl.sAsg, Dl.sAsgG, Dl.sNx, Dl.sBk, Dl.sCt, Dl.bindM, Dl.retM, Dl.liftM, Dl.settle, Dl.eVar, Dl.eC, Dl.eB, Dl.eNot, Dl.eAnd, Dl.eOr, Dl.eV, Dl.eIf, Dl.eAndV, Dl.eOrV, Dl.eOp2, Dl.eOp1, Dl.eOpn, Dl.op2M, Dl.op1M, Dl.opnM, Dl.eOp2R, Dl.peek, Dl.peeks, Dl.pNil, Dl.pCons, Dl.dNil, Dl.dCons, Dl.eTup, Dl.eLst, Dl.aNil, Dl.aSet, Dl.aLend, Dl.eCall, Dl.callM, Dl.alsOf, Dl.svsOf, Dl.svOf, Dl.backs, Dl.backSv, Dl.denOf, Dl.finC, Dl.outs, Dl.retRV, Dl.SV.arg, Dl.SV.lent, Dl.gNameM, Dl.gNilM, Dl.gConsM, Dl.gTupM, Dl.gSubM, Dl.isLst, Dl.sPar, Dl.sFor, Dl.forM, Dl.iSeqM, Dl.D.items, Dl.eCallF, Dl.callF, Dl.eMake, Dl.makeM, Dl.eFld, Dl.opFld, Dl.sPutF, Dl.opAdd, Dl.opSub, Dl.opMul, Dl.opFDiv, Dl.opMod, Dl.opPow, Dl.opNeg, Dl.opLt, Dl.opLe, Dl.opGt, Dl.opGe, Dl.opIs2, Dl.opIsNot2, Dl.opIsN, Dl.opNotN, Dl.D.isNon, Dl.opIx, Dl.opLen, Dl.opAbs, Dl.opMax2, Dl.opMin2, Dl.opInt1, Dl.opStrI, Dl.opList, Dl.opTuple, Dl.eIsi, Dl.isaD, Dl.D.bt, Dl.subB, Dl.sTry, Dl.tryH, Dl.endH, Dl.noExc, Dl.clearS, Dl.SV.isExc, Dl.eXf, Dl.eIsX, Dl.sRaise, Dl.hitL, Dl.LIM]
  by_cases w1 : wy = 1
  · obtain ⟨l, g1, g2⟩ := fin sn s1
    have S := sum (by decide) hk sn s1
    have D' := done (by decide) hk sn s1 (.r _ _ _)
    refine ⟨_, _, l, g1, g2, ?_⟩
    generalize nT (dueT k n 1 (t1, b1).1 (t1, b1).2) (1 * (t1, b1).2) = T at *
    generalize nB (dueT k n 1 (t1, b1).1 (t1, b1).2) (1 * (t1, b1).2) = B at *
    simp only [kD] at D' S
    unfold rat at *
    refine if_f (env1 := [.imm (.rol (ns.map D.int)), .own xs, .imm (.int i), .own (ps.map pD), x4, .own (ps.map kD), .imm (.int k), .imm (.int o1), .imm (.int o2), .imm (.int wy), .imm (.int n), .imm (.tup [.int n, .int 1]), x12]) ?_ (if_t (env1 := [.imm (.rol (ns.map D.int)), .own xs, .imm (.int i), .own (ps.map pD), x4, .own (ps.map kD), .imm (.int k), .imm (.int o1), .imm (.int o2), .imm (.int wy), .imm (.int n), .imm (.tup [.int n, .int 1]), x12]) ?_ ?_)
    · simp [eqA_int, w0, Dl.sSeq, Dl.sIf, Dl.sRet, Dl.sRetN, Dl.sDrop, Dl.putM, Dl.sAsg, Dl.sAsgG, Dl.sNx, Dl.sBk, Dl.sCt, Dl.bindM, Dl.retM, Dl.liftM, Dl.settle, Dl.eVar, Dl.eC, Dl.eB, Dl.eNot, Dl.eAnd, Dl.eOr, Dl.eV, Dl.eIf, Dl.eAndV, Dl.eOrV, Dl.eOp2, Dl.eOp1, Dl.eOpn, Dl.op2M, Dl.op1M, Dl.opnM, Dl.eOp2R, Dl.peek, Dl.peeks, Dl.pNil, Dl.pCons, Dl.dNil, Dl.dCons, Dl.eTup, Dl.eLst, Dl.aNil, Dl.aSet, Dl.aLend, Dl.eCall, Dl.callM, Dl.alsOf, Dl.svsOf, Dl.svOf, Dl.backs, Dl.backSv, Dl.denOf, Dl.finC, Dl.outs, Dl.retRV, Dl.SV.arg, Dl.SV.lent, Dl.gNameM, Dl.gNilM, Dl.gConsM, Dl.gTupM, Dl.gSubM, Dl.isLst, Dl.sPar, Dl.sFor, Dl.forM, Dl.iSeqM, Dl.D.items, Dl.eCallF, Dl.callF, Dl.eMake, Dl.makeM, Dl.eFld, Dl.opFld, Dl.sPutF, Dl.opAdd, Dl.opSub, Dl.opMul, Dl.opFDiv, Dl.opMod, Dl.opPow, Dl.opNeg, Dl.opLt, Dl.opLe, Dl.opGt, Dl.opGe, Dl.opIs2, Dl.opIsNot2, Dl.opIsN, Dl.opNotN, Dl.D.isNon, Dl.opIx, Dl.opLen, Dl.opAbs, Dl.opMax2, Dl.opMin2, Dl.opInt1, Dl.opStrI, Dl.opList, Dl.opTuple, Dl.eIsi, Dl.isaD, Dl.D.bt, Dl.subB, Dl.sTry, Dl.tryH, Dl.endH, Dl.noExc, Dl.clearS, Dl.SV.isExc, Dl.eXf, Dl.eIsX, Dl.sRaise, Dl.hitL, L2.atI, L2.ixN, Dl.LIM]
    · simp [eqA_int, w1, Dl.sSeq, Dl.sIf, Dl.sRet, Dl.sRetN, Dl.sDrop, Dl.putM, Dl.sAsg, Dl.sAsgG, Dl.sNx, Dl.sBk, Dl.sCt, Dl.bindM, Dl.retM, Dl.liftM, Dl.settle, Dl.eVar, Dl.eC, Dl.eB, Dl.eNot, Dl.eAnd, Dl.eOr, Dl.eV, Dl.eIf, Dl.eAndV, Dl.eOrV, Dl.eOp2, Dl.eOp1, Dl.eOpn, Dl.op2M, Dl.op1M, Dl.opnM, Dl.eOp2R, Dl.peek, Dl.peeks, Dl.pNil, Dl.pCons, Dl.dNil, Dl.dCons, Dl.eTup, Dl.eLst, Dl.aNil, Dl.aSet, Dl.aLend, Dl.eCall, Dl.callM, Dl.alsOf, Dl.svsOf, Dl.svOf, Dl.backs, Dl.backSv, Dl.denOf, Dl.finC, Dl.outs, Dl.retRV, Dl.SV.arg, Dl.SV.lent, Dl.gNameM, Dl.gNilM, Dl.gConsM, Dl.gTupM, Dl.gSubM, Dl.isLst, Dl.sPar, Dl.sFor, Dl.forM, Dl.iSeqM, Dl.D.items, Dl.eCallF, Dl.callF, Dl.eMake, Dl.makeM, Dl.eFld, Dl.opFld, Dl.sPutF, Dl.opAdd, Dl.opSub, Dl.opMul, Dl.opFDiv, Dl.opMod, Dl.opPow, Dl.opNeg, Dl.opLt, Dl.opLe, Dl.opGt, Dl.opGe, Dl.opIs2, Dl.opIsNot2, Dl.opIsN, Dl.opNotN, Dl.D.isNon, Dl.opIx, Dl.opLen, Dl.opAbs, Dl.opMax2, Dl.opMin2, Dl.opInt1, Dl.opStrI, Dl.opList, Dl.opTuple, Dl.eIsi, Dl.isaD, Dl.D.bt, Dl.subB, Dl.sTry, Dl.tryH, Dl.endH, Dl.noExc, Dl.clearS, Dl.SV.isExc, Dl.eXf, Dl.eIsX, Dl.sRaise, Dl.hitL, L2.atI, L2.ixN, Dl.LIM]
    generalize ps.map pD = pl at *
    generalize ps.map kD = kl at *
    refine seq_nx (env1 := ?_) ?_ ?_
    rotate_left
    · simp [a1, S, Dl.sSeq, Dl.sIf, Dl.sRet, Dl.sRetN, Dl.sDrop, Dl.putM, Dl.sAsg, Dl.sAsgG, Dl.sNx, Dl.sBk, Dl.sCt, Dl.bindM, Dl.retM, Dl.liftM, Dl.settle, Dl.eVar, Dl.eC, Dl.eB, Dl.eNot, Dl.eAnd, Dl.eOr, Dl.eV, Dl.eIf, Dl.eAndV, Dl.eOrV, Dl.eOp2, Dl.eOp1, Dl.eOpn, Dl.op2M, Dl.op1M, Dl.opnM, Dl.eOp2R, Dl.peek, Dl.peeks, Dl.pNil, Dl.pCons, Dl.dNil, Dl.dCons, Dl.eTup, Dl.eLst, Dl.aNil, Dl.aSet, Dl.aLend, Dl.eCall, Dl.callM, Dl.alsOf, Dl.svsOf, Dl.svOf, Dl.backs, Dl.backSv, Dl.denOf, Dl.finC, Dl.outs, Dl.retRV, Dl.SV.arg, Dl.SV.lent, Dl.gNameM, Dl.gNilM, Dl.gConsM, Dl.gTupM, Dl.gSubM, Dl.isLst, Dl.sPar, Dl.sFor, Dl.forM, Dl.iSeqM, Dl.D.items, Dl.eCallF, Dl.callF, Dl.eMake, Dl.makeM, Dl.eFld, Dl.opFld, Dl.sPutF, Dl.opAdd, Dl.opSub, Dl.opMul, Dl.opFDiv, Dl.opMod, Dl.opPow, Dl.opNeg, Dl.opLt, Dl.opLe, Dl.opGt, Dl.opGe, Dl.opIs2, Dl.opIsNot2, Dl.opIsN, Dl.opNotN, Dl.D.isNon, Dl.opIx, Dl.opLen, Dl.opAbs, Dl.opMax2, Dl.opMin2, Dl.opInt1, Dl.opStrI, Dl.opList, Dl.opTuple, Dl.eIsi, Dl.isaD, Dl.D.bt, Dl.subB, Dl.sTry, Dl.tryH, Dl.endH, Dl.noExc, Dl.clearS, Dl.SV.isExc, Dl.eXf, Dl.eIsX, Dl.sRaise, Dl.hitL, Dl.LIM]; exact rfl
    simp [c1, D', Dl.sSeq, Dl.sIf, Dl.sRet, Dl.sRetN, Dl.sDrop, Dl.putM, Dl.sAsg, Dl.sAsgG, Dl.sNx, Dl.sBk, Dl.sCt, Dl.bindM, Dl.retM, Dl.liftM, Dl.settle, Dl.eVar, Dl.eC, Dl.eB, Dl.eNot, Dl.eAnd, Dl.eOr, Dl.eV, Dl.eIf, Dl.eAndV, Dl.eOrV, Dl.eOp2, Dl.eOp1, Dl.eOpn, Dl.op2M, Dl.op1M, Dl.opnM, Dl.eOp2R, Dl.peek, Dl.peeks, Dl.pNil, Dl.pCons, Dl.dNil, Dl.dCons, Dl.eTup, Dl.eLst, Dl.aNil, Dl.aSet, Dl.aLend, Dl.eCall, Dl.callM, Dl.alsOf, Dl.svsOf, Dl.svOf, Dl.backs, Dl.backSv, Dl.denOf, Dl.finC, Dl.outs, Dl.retRV, Dl.SV.arg, Dl.SV.lent, Dl.gNameM, Dl.gNilM, Dl.gConsM, Dl.gTupM, Dl.gSubM, Dl.isLst, Dl.sPar, Dl.sFor, Dl.forM, Dl.iSeqM, Dl.D.items, Dl.eCallF, Dl.callF, Dl.eMake, Dl.makeM, Dl.eFld, Dl.opFld, Dl.sPutF, Dl.opAdd, Dl.opSub, Dl.opMul, Dl.opFDiv, Dl.opMod, Dl.opPow, Dl.opNeg, Dl.opLt, Dl.opLe, Dl.opGt, Dl.opGe, Dl.opIs2, Dl.opIsNot2, Dl.opIsN, Dl.opNotN, Dl.D.isNon, Dl.opIx, Dl.opLen, Dl.opAbs, Dl.opMax2, Dl.opMin2, Dl.opInt1, Dl.opStrI, Dl.opList, Dl.opTuple, Dl.eIsi, Dl.isaD, Dl.D.bt, Dl.subB, Dl.sTry, Dl.tryH, Dl.endH, Dl.noExc, Dl.clearS, Dl.SV.isExc, Dl.eXf, Dl.eIsX, Dl.sRaise, Dl.hitL, Dl.LIM]
  · obtain ⟨l, g1, g2⟩ := fin s1 s2
    have S := sum (by decide) hk s1 s2
    have D' := done (by decide) hk s1 s2 (.l _ _ _)
    refine ⟨_, _, l, g1, g2, ?_⟩
    generalize nT (dueT k (t1, b1).1 (t1, b1).2 (t2, b2).1 (t2, b2).2) ((t1, b1).2 * (t2, b2).2) = T at *
    generalize nB (dueT k (t1, b1).1 (t1, b1).2 (t2, b2).1 (t2, b2).2) ((t1, b1).2 * (t2, b2).2) = B at *
    simp only [kD] at D' S
    unfold rat at *
    refine if_f (env1 := [.imm (.rol (ns.map D.int)), .own xs, .imm (.int i), .own (ps.map pD), x4, .own (ps.map kD), .imm (.int k), .imm (.int o1), .imm (.int o2), .imm (.int wy), .imm (.int n), .imm (.tup [.int n, .int 1]), x12]) ?_ (if_f (env1 := [.imm (.rol (ns.map D.int)), .own xs, .imm (.int i), .own (ps.map pD), x4, .own (ps.map kD), .imm (.int k), .imm (.int o1), .imm (.int o2), .imm (.int wy), .imm (.int n), .imm (.tup [.int n, .int 1]), x12]) ?_ ?_)
    · simp [eqA_int, w0, Dl.sSeq, Dl.sIf, Dl.sRet, Dl.sRetN, Dl.sDrop, Dl.putM, Dl.sAsg, Dl.sAsgG, Dl.sNx, Dl.sBk, Dl.sCt, Dl.bindM, Dl.retM, Dl.liftM, Dl.settle, Dl.eVar, Dl.eC, Dl.eB, Dl.eNot, Dl.eAnd, Dl.eOr, Dl.eV, Dl.eIf, Dl.eAndV, Dl.eOrV, Dl.eOp2, Dl.eOp1, Dl.eOpn, Dl.op2M, Dl.op1M, Dl.opnM, Dl.eOp2R, Dl.peek, Dl.peeks, Dl.pNil, Dl.pCons, Dl.dNil, Dl.dCons, Dl.eTup, Dl.eLst, Dl.aNil, Dl.aSet, Dl.aLend, Dl.eCall, Dl.callM, Dl.alsOf, Dl.svsOf, Dl.svOf, Dl.backs, Dl.backSv, Dl.denOf, Dl.finC, Dl.outs, Dl.retRV, Dl.SV.arg, Dl.SV.lent, Dl.gNameM, Dl.gNilM, Dl.gConsM, Dl.gTupM, Dl.gSubM, Dl.isLst, Dl.sPar, Dl.sFor, Dl.forM, Dl.iSeqM, Dl.D.items, Dl.eCallF, Dl.callF, Dl.eMake, Dl.makeM, Dl.eFld, Dl.opFld, Dl.sPutF, Dl.opAdd, Dl.opSub, Dl.opMul, Dl.opFDiv, Dl.opMod, Dl.opPow, Dl.opNeg, Dl.opLt, Dl.opLe, Dl.opGt, Dl.opGe, Dl.opIs2, Dl.opIsNot2, Dl.opIsN, Dl.opNotN, Dl.D.isNon, Dl.opIx, Dl.opLen, Dl.opAbs, Dl.opMax2, Dl.opMin2, Dl.opInt1, Dl.opStrI, Dl.opList, Dl.opTuple, Dl.eIsi, Dl.isaD, Dl.D.bt, Dl.subB, Dl.sTry, Dl.tryH, Dl.endH, Dl.noExc, Dl.clearS, Dl.SV.isExc, Dl.eXf, Dl.eIsX, Dl.sRaise, Dl.hitL, L2.atI, L2.ixN, Dl.LIM]
    · simp [eqA_int, w1, Dl.sSeq, Dl.sIf, Dl.sRet, Dl.sRetN, Dl.sDrop, Dl.putM, Dl.sAsg, Dl.sAsgG, Dl.sNx, Dl.sBk, Dl.sCt, Dl.bindM, Dl.retM, Dl.liftM, Dl.settle, Dl.eVar, Dl.eC, Dl.eB, Dl.eNot, Dl.eAnd, Dl.eOr, Dl.eV, Dl.eIf, Dl.eAndV, Dl.eOrV, Dl.eOp2, Dl.eOp1, Dl.eOpn, Dl.op2M, Dl.op1M, Dl.opnM, Dl.eOp2R, Dl.peek, Dl.peeks, Dl.pNil, Dl.pCons, Dl.dNil, Dl.dCons, Dl.eTup, Dl.eLst, Dl.aNil, Dl.aSet, Dl.aLend, Dl.eCall, Dl.callM, Dl.alsOf, Dl.svsOf, Dl.svOf, Dl.backs, Dl.backSv, Dl.denOf, Dl.finC, Dl.outs, Dl.retRV, Dl.SV.arg, Dl.SV.lent, Dl.gNameM, Dl.gNilM, Dl.gConsM, Dl.gTupM, Dl.gSubM, Dl.isLst, Dl.sPar, Dl.sFor, Dl.forM, Dl.iSeqM, Dl.D.items, Dl.eCallF, Dl.callF, Dl.eMake, Dl.makeM, Dl.eFld, Dl.opFld, Dl.sPutF, Dl.opAdd, Dl.opSub, Dl.opMul, Dl.opFDiv, Dl.opMod, Dl.opPow, Dl.opNeg, Dl.opLt, Dl.opLe, Dl.opGt, Dl.opGe, Dl.opIs2, Dl.opIsNot2, Dl.opIsN, Dl.opNotN, Dl.D.isNon, Dl.opIx, Dl.opLen, Dl.opAbs, Dl.opMax2, Dl.opMin2, Dl.opInt1, Dl.opStrI, Dl.opList, Dl.opTuple, Dl.eIsi, Dl.isaD, Dl.D.bt, Dl.subB, Dl.sTry, Dl.tryH, Dl.endH, Dl.noExc, Dl.clearS, Dl.SV.isExc, Dl.eXf, Dl.eIsX, Dl.sRaise, Dl.hitL, L2.atI, L2.ixN, Dl.LIM]
    generalize ps.map pD = pl at *
    generalize ps.map kD = kl at *
    refine seq_nx (env1 := ?_) ?_ ?_
    rotate_left
    · simp [a1, a2, S, Dl.sSeq, Dl.sIf, Dl.sRet, Dl.sRetN, Dl.sDrop, Dl.putM, Dl.sAsg, Dl.sAsgG, Dl.sNx, Dl.sBk, Dl.sCt, Dl.bindM, Dl.retM, Dl.liftM, Dl.settle, Dl.eVar, Dl.eC, Dl.eB, Dl.eNot, Dl.eAnd, Dl.eOr, Dl.eV, Dl.eIf, Dl.eAndV, Dl.eOrV, Dl.eOp2, Dl.eOp1, Dl.eOpn, Dl.op2M, Dl.op1M, Dl.opnM, Dl.eOp2R, Dl.peek, Dl.peeks, Dl.pNil, Dl.pCons, Dl.dNil, Dl.dCons, Dl.eTup, Dl.eLst, Dl.aNil, Dl.aSet, Dl.aLend, Dl.eCall, Dl.callM, Dl.alsOf, Dl.svsOf, Dl.svOf, Dl.backs, Dl.backSv, Dl.denOf, Dl.finC, Dl.outs, Dl.retRV, Dl.SV.arg, Dl.SV.lent, Dl.gNameM, Dl.gNilM, Dl.gConsM, Dl.gTupM, Dl.gSubM, Dl.isLst, Dl.sPar, Dl.sFor, Dl.forM, Dl.iSeqM, Dl.D.items, Dl.eCallF, Dl.callF, Dl.eMake, Dl.makeM, Dl.eFld, Dl.opFld, Dl.sPutF, Dl.opAdd, Dl.opSub, Dl.opMul, Dl.opFDiv, Dl.opMod, Dl.opPow, Dl.opNeg, Dl.opLt, Dl.opLe, Dl.opGt, Dl.opGe, Dl.opIs2, Dl.opIsNot2, Dl.opIsN, Dl.opNotN, Dl.D.isNon, Dl.opIx, Dl.opLen, Dl.opAbs, Dl.opMax2, Dl.opMin2, Dl.opInt1, Dl.opStrI, Dl.opList, Dl.opTuple, Dl.eIsi, Dl.isaD, Dl.D.bt, Dl.subB, Dl.sTry, Dl.tryH, Dl.endH, Dl.noExc, Dl.clearS, Dl.SV.isExc, Dl.eXf, Dl.eIsX, Dl.sRaise, Dl.hitL, Dl.LIM]; exact rfl
    simp [c1, c2, D', Dl.sSeq, Dl.sIf, Dl.sRet, Dl.sRetN, Dl.sDrop, Dl.putM, Dl.sAsg, Dl.sAsgG, Dl.sNx, Dl.sBk, Dl.sCt, Dl.bindM, Dl.retM, Dl.liftM, Dl.settle, Dl.eVar, Dl.eC, Dl.eB, Dl.eNot, Dl.eAnd, Dl.eOr, Dl.eV, Dl.eIf, Dl.eAndV, Dl.eOrV, Dl.eOp2, Dl.eOp1, Dl.eOpn, Dl.op2M, Dl.op1M, Dl.opnM, Dl.eOp2R, Dl.peek, Dl.peeks, Dl.pNil, Dl.pCons, Dl.dNil, Dl.dCons, Dl.eTup, Dl.eLst, Dl.aNil, Dl.aSet, Dl.aLend, Dl.eCall, Dl.callM, Dl.alsOf, Dl.svsOf, Dl.svOf, Dl.backs, Dl.backSv, Dl.denOf, Dl.finC, Dl.outs, Dl.retRV, Dl.SV.arg, Dl.SV.lent, Dl.gNameM, Dl.gNilM, Dl.gConsM, Dl.gTupM, Dl.gSubM, Dl.isLst, Dl.sPar, Dl.sFor, Dl.forM, Dl.iSeqM, Dl.D.items, Dl.eCallF, Dl.callF, Dl.eMake, Dl.makeM, Dl.eFld, Dl.opFld, Dl.sPutF, Dl.opAdd, Dl.opSub, Dl.opMul, Dl.opFDiv, Dl.opMod, Dl.opPow, Dl.opNeg, Dl.opLt, Dl.opLe, Dl.opGt, Dl.opGe, Dl.opIs2, Dl.opIsNot2, Dl.opIsN, Dl.opNotN, Dl.D.isNon, Dl.opIx, Dl.opLen, Dl.opAbs, Dl.opMax2, Dl.opMin2, Dl.opInt1, Dl.opStrI, Dl.opList, Dl.opTuple, Dl.eIsi, Dl.isaD, Dl.D.bt, Dl.subB, Dl.sTry, Dl.tryH, Dl.endH, Dl.noExc, Dl.clearS, Dl.SV.isExc, Dl.eXf, Dl.eIsX, Dl.sRaise, Dl.hitL, Dl.LIM]
end
end L01
namespace L01
open PySem PySem.Spec PyProof.Rows L2 Dl

theorem at20 (a b : D) : atI [a, b] 0 = some a := rfl
theorem at21 (a b : D) : atI [a, b] 1 = some b := rfl
section
variable (ns : List Int) (hn : ns.length ≤ 63)
include hn
theorem step (i : Int) (hi : 0 ≤ i ∧ i ≤ 100) (ps : List (Int × Int)) (hp3 : ps.length = 3) (hps : ∀ p ∈ ps, Ok1 p) (x1 x4 x6 x7 x8 x9 x10 x11 x12 : SV) :
    ∃ (qs : List (Int × Int)) (y1 y6 y7 y8 y9 y10 y11 y12 : SV), qs.length = 3 ∧ (∀ p ∈ qs, Ok1 p) ∧ l_law_0 [.imm (.rol (ns.map D.int)), x1, .imm (.int i), .own (ps.map pD), x4, .own (ps.map kD), x6, x7, x8, x9, x10, x11, x12] = .ok .nx [.imm (.rol (ns.map D.int)), y1, .imm (.int i), .own (qs.map pD), x4, .own (qs.map kD), y6, y7, y8, y9, y10, y11, y12] := by
  obtain ⟨s0, hs0, e0⟩ := source ns i hi.1 (by omega) hn
  obtain ⟨k, s1, ak, bk, h1, e1⟩ := draw_src hs0 (by omega) (m := 3) (by decide) (by decide)
  obtain ⟨o1, s2, ao1, bo1, h2, e2⟩ := draw_src h1 (by omega) (m := 3) (by decide) (by decide)
  obtain ⟨o2, s3, ao2, bo2, h3, e3⟩ := draw_src h2 (by omega) (m := 3) (by decide) (by decide)
  obtain ⟨wy, s4, aw, bw, h4, e4⟩ := draw_src h3 (by omega) (m := 5) (by decide) (by decide)
  obtain ⟨n, xs, hnn, h5, e5⟩ := whole h4 (by omega)
  obtain ⟨p1, hp1, t1⟩ := at_mem (xs := ps) ao1 (by omega)
  obtain ⟨p2, hp2, t2⟩ := at_mem (xs := ps) ao2 (by omega)
  have q1 := hps p1 hp1
  have q2 := hps p2 hp2
  have a1 := at_map pD ao1 t1
  have c1 := at_map kD ao1 t1
  have a2 := at_map pD ao2 t2
  have c2 := at_map kD ao2 t2
  obtain ⟨T, B, lw, hT, hB, em⟩ := made ns (xs := xs) x4 x12 i ⟨ak, bk⟩ q1 q2 a1 c1 a2 c2 hnn (wy := wy)
  obtain ⟨zs, hz, eq⟩ := questions lw hT hB h5 (by omega) n (lt_mono hnn (by decide))
  have st : ∀ {R : Res Out}, (sSeq (sIf (eB (eOp2 opGt (eOpn opMax2 (pCons (eOpn opAbs (pCons (eOp2 opIx (eVar 11) (eC (.int 0))) pNil)) (pCons (eOp2 opIx (eVar 11) (eC (.int 1))) pNil))) (eOp2 opPow (eC (.int 10)) (eC (.int 30))))) (sSeq (sAsg 11 (eCall 1 den__law_pair (aLend 1 aNil))) (sAsg 12 (eMake 2 2 2 den_Ratio___init__ (aSet (eOp2 opIx (eVar 11) (eC (.int 0))) (aSet (eOp2 opIx (eVar 11) (eC (.int 1))) aNil))))) sNx) (sSeq (sAsgG (eVar 11) (gSubM 3 (eVar 8))) (sAsgG (eVar 12) (gSubM 5 (eVar 8))))) [.imm (.rol (ns.map D.int)), .own zs, .imm (.int i), .own (ps.map pD), x4, .own (ps.map kD), .imm (.int k), .imm (.int o1), .imm (.int o2), .imm (.int wy), .imm (.int n), .imm (.tup [.int T, .int B]), .imm (rat T B)] = R → l_law_0 [.imm (.rol (ns.map D.int)), x1, .imm (.int i), .own (ps.map pD), x4, .own (ps.map kD), x6, x7, x8, x9, x10, x11, x12] = R := fun hR => by
    unfold l_law_0
    generalize hpl : ps.map pD = pl at *
    generalize hkl : ps.map kD = kl at *
    refine seq_nx (env1 := [.imm (.rol (ns.map D.int)), .own s0, .imm (.int i), .own (pl), x4, .own (kl), x6, x7, x8, x9, x10, x11, x12]) ?_ ?_
    · simp [e0, Dl.sSeq, Dl.sIf, Dl.sRet, Dl.sRetN, Dl.sDrop, Dl.putM, Dl.sAsg, Dl.sAsgG, Dl.sNx, Dl.sBk, Dl.sCt, Dl.bindM, Dl.retM, Dl.liftM, Dl.settle, Dl.eVar, Dl.eC, Dl.eB, Dl.eNot, Dl.eAnd, Dl.eOr, Dl.eV, Dl.eIf, Dl.eAndV, Dl.eOrV, Dl.eOp2, Dl.eOp1, Dl.eOpn, Dl.op2M, Dl.op1M, Dl.opnM, Dl.eOp2R, Dl.peek, Dl.peeks, Dl.pNil, Dl.pCons, Dl.dNil, Dl.dCons, Dl.eTup, Dl.eLst, Dl.aNil, Dl.aSet, Dl.aLend, Dl.eCall, Dl.callM, Dl.alsOf, Dl.svsOf, Dl.svOf, Dl.backs, Dl.backSv, Dl.denOf, Dl.finC, Dl.outs, Dl.retRV, Dl.SV.arg, Dl.SV.lent, Dl.gNameM, Dl.gNilM, Dl.gConsM, Dl.gTupM, Dl.gSubM, Dl.isLst, Dl.sPar, Dl.sFor, Dl.forM, Dl.iSeqM, Dl.D.items, Dl.eCallF, Dl.callF, Dl.eMake, Dl.makeM, Dl.eFld, Dl.opFld, Dl.sPutF, Dl.opAdd, Dl.opSub, Dl.opMul, Dl.opFDiv, Dl.opMod, Dl.opPow, Dl.opNeg, Dl.opLt, Dl.opLe, Dl.opGt, Dl.opGe, Dl.opIs2, Dl.opIsNot2, Dl.opIsN, Dl.opNotN, Dl.D.isNon, Dl.opIx, Dl.opLen, Dl.opAbs, Dl.opMax2, Dl.opMin2, Dl.opInt1, Dl.opStrI, Dl.opList, Dl.opTuple, Dl.eIsi, Dl.isaD, Dl.D.bt, Dl.subB, Dl.sTry, Dl.tryH, Dl.endH, Dl.noExc, Dl.clearS, Dl.SV.isExc, Dl.eXf, Dl.eIsX, Dl.sRaise, Dl.hitL, L2.atI, L2.ixN, Dl.LIM]
    refine seq_nx (env1 := [.imm (.rol (ns.map D.int)), .own s1, .imm (.int i), .own (pl), x4, .own (kl), .imm (.int k), x7, x8, x9, x10, x11, x12]) ?_ ?_
    · simp [e1, Dl.sSeq, Dl.sIf, Dl.sRet, Dl.sRetN, Dl.sDrop, Dl.putM, Dl.sAsg, Dl.sAsgG, Dl.sNx, Dl.sBk, Dl.sCt, Dl.bindM, Dl.retM, Dl.liftM, Dl.settle, Dl.eVar, Dl.eC, Dl.eB, Dl.eNot, Dl.eAnd, Dl.eOr, Dl.eV, Dl.eIf, Dl.eAndV, Dl.eOrV, Dl.eOp2, Dl.eOp1, Dl.eOpn, Dl.op2M, Dl.op1M, Dl.opnM, Dl.eOp2R, Dl.peek, Dl.peeks, Dl.pNil, Dl.pCons, Dl.dNil, Dl.dCons, Dl.eTup, Dl.eLst, Dl.aNil, Dl.aSet, Dl.aLend, Dl.eCall, Dl.callM, Dl.alsOf, Dl.svsOf, Dl.svOf, Dl.backs, Dl.backSv, Dl.denOf, Dl.finC, Dl.outs, Dl.retRV, Dl.SV.arg, Dl.SV.lent, Dl.gNameM, Dl.gNilM, Dl.gConsM, Dl.gTupM, Dl.gSubM, Dl.isLst, Dl.sPar, Dl.sFor, Dl.forM, Dl.iSeqM, Dl.D.items, Dl.eCallF, Dl.callF, Dl.eMake, Dl.makeM, Dl.eFld, Dl.opFld, Dl.sPutF, Dl.opAdd, Dl.opSub, Dl.opMul, Dl.opFDiv, Dl.opMod, Dl.opPow, Dl.opNeg, Dl.opLt, Dl.opLe, Dl.opGt, Dl.opGe, Dl.opIs2, Dl.opIsNot2, Dl.opIsN, Dl.opNotN, Dl.D.isNon, Dl.opIx, Dl.opLen, Dl.opAbs, Dl.opMax2, Dl.opMin2, Dl.opInt1, Dl.opStrI, Dl.opList, Dl.opTuple, Dl.eIsi, Dl.isaD, Dl.D.bt, Dl.subB, Dl.sTry, Dl.tryH, Dl.endH, Dl.noExc, Dl.clearS, Dl.SV.isExc, Dl.eXf, Dl.eIsX, Dl.sRaise, Dl.hitL, L2.atI, L2.ixN, Dl.LIM]
    refine seq_nx (env1 := [.imm (.rol (ns.map D.int)), .own s2, .imm (.int i), .own (pl), x4, .own (kl), .imm (.int k), .imm (.int o1), x8, x9, x10, x11, x12]) ?_ ?_
    · simp [e2, Dl.sSeq, Dl.sIf, Dl.sRet, Dl.sRetN, Dl.sDrop, Dl.putM, Dl.sAsg, Dl.sAsgG, Dl.sNx, Dl.sBk, Dl.sCt, Dl.bindM, Dl.retM, Dl.liftM, Dl.settle, Dl.eVar, Dl.eC, Dl.eB, Dl.eNot, Dl.eAnd, Dl.eOr, Dl.eV, Dl.eIf, Dl.eAndV, Dl.eOrV, Dl.eOp2, Dl.eOp1, Dl.eOpn, Dl.op2M, Dl.op1M, Dl.opnM, Dl.eOp2R, Dl.peek, Dl.peeks, Dl.pNil, Dl.pCons, Dl.dNil, Dl.dCons, Dl.eTup, Dl.eLst, Dl.aNil, Dl.aSet, Dl.aLend, Dl.eCall, Dl.callM, Dl.alsOf, Dl.svsOf, Dl.svOf, Dl.backs, Dl.backSv, Dl.denOf, Dl.finC, Dl.outs, Dl.retRV, Dl.SV.arg, Dl.SV.lent, Dl.gNameM, Dl.gNilM, Dl.gConsM, Dl.gTupM, Dl.gSubM, Dl.isLst, Dl.sPar, Dl.sFor, Dl.forM, Dl.iSeqM, Dl.D.items, Dl.eCallF, Dl.callF, Dl.eMake, Dl.makeM, Dl.eFld, Dl.opFld, Dl.sPutF, Dl.opAdd, Dl.opSub, Dl.opMul, Dl.opFDiv, Dl.opMod, Dl.opPow, Dl.opNeg, Dl.opLt, Dl.opLe, Dl.opGt, Dl.opGe, Dl.opIs2, Dl.opIsNot2, Dl.opIsN, Dl.opNotN, Dl.D.isNon, Dl.opIx, Dl.opLen, Dl.opAbs, Dl.opMax2, Dl.opMin2, Dl.opInt1, Dl.opStrI, Dl.opList, Dl.opTuple, Dl.eIsi, Dl.isaD, Dl.D.bt, Dl.subB, Dl.sTry, Dl.tryH, Dl.endH, Dl.noExc, Dl.clearS, Dl.SV.isExc, Dl.eXf, Dl.eIsX, Dl.sRaise, Dl.hitL, L2.atI, L2.ixN, Dl.LIM]
    refine seq_nx (env1 := [.imm (.rol (ns.map D.int)), .own s3, .imm (.int i), .own (pl), x4, .own (kl), .imm (.int k), .imm (.int o1), .imm (.int o2), x9, x10, x11, x12]) ?_ ?_
    · simp [e3, Dl.sSeq, Dl.sIf, Dl.sRet, Dl.sRetN, Dl.sDrop, Dl.putM, Dl.sAsg, Dl.sAsgG, Dl.sNx, Dl.sBk, Dl.sCt, Dl.bindM, Dl.retM, Dl.liftM, Dl.settle, Dl.eVar, Dl.eC, Dl.eB, Dl.eNot, Dl.eAnd, Dl.eOr, Dl.eV, Dl.eIf, Dl.eAndV, Dl.eOrV, Dl.eOp2, Dl.eOp1, Dl.eOpn, Dl.op2M, Dl.op1M, Dl.opnM, Dl.eOp2R, Dl.peek, Dl.peeks, Dl.pNil, Dl.pCons, Dl.dNil, Dl.dCons, Dl.eTup, Dl.eLst, Dl.aNil, Dl.aSet, Dl.aLend, Dl.eCall, Dl.callM, Dl.alsOf, Dl.svsOf, Dl.svOf, Dl.backs, Dl.backSv, Dl.denOf, Dl.finC, Dl.outs, Dl.retRV, Dl.SV.arg, Dl.SV.lent, Dl.gNameM, Dl.gNilM, Dl.gConsM, Dl.gTupM, Dl.gSubM, Dl.isLst, Dl.sPar, Dl.sFor, Dl.forM, Dl.iSeqM, Dl.D.items, Dl.eCallF, Dl.callF, Dl.eMake, Dl.makeM, Dl.eFld, Dl.opFld, Dl.sPutF, Dl.opAdd, Dl.opSub, Dl.opMul, Dl.opFDiv, Dl.opMod, Dl.opPow, Dl.opNeg, Dl.opLt, Dl.opLe, Dl.opGt, Dl.opGe, Dl.opIs2, Dl.opIsNot2, Dl.opIsN, Dl.opNotN, Dl.D.isNon, Dl.opIx, Dl.opLen, Dl.opAbs, Dl.opMax2, Dl.opMin2, Dl.opInt1, Dl.opStrI, Dl.opList, Dl.opTuple, Dl.eIsi, Dl.isaD, Dl.D.bt, Dl.subB, Dl.sTry, Dl.tryH, Dl.endH, Dl.noExc, Dl.clearS, Dl.SV.isExc, Dl.eXf, Dl.eIsX, Dl.sRaise, Dl.hitL, L2.atI, L2.ixN, Dl.LIM]
    refine seq_nx (env1 := [.imm (.rol (ns.map D.int)), .own s4, .imm (.int i), .own (pl), x4, .own (kl), .imm (.int k), .imm (.int o1), .imm (.int o2), .imm (.int wy), x10, x11, x12]) ?_ ?_
    · simp [e4, Dl.sSeq, Dl.sIf, Dl.sRet, Dl.sRetN, Dl.sDrop, Dl.putM, Dl.sAsg, Dl.sAsgG, Dl.sNx, Dl.sBk, Dl.sCt, Dl.bindM, Dl.retM, Dl.liftM, Dl.settle, Dl.eVar, Dl.eC, Dl.eB, Dl.eNot, Dl.eAnd, Dl.eOr, Dl.eV, Dl.eIf, Dl.eAndV, Dl.eOrV, Dl.eOp2, Dl.eOp1, Dl.eOpn, Dl.op2M, Dl.op1M, Dl.opnM, Dl.eOp2R, Dl.peek, Dl.peeks, Dl.pNil, Dl.pCons, Dl.dNil, Dl.dCons, Dl.eTup, Dl.eLst, Dl.aNil, Dl.aSet, Dl.aLend, Dl.eCall, Dl.callM, Dl.alsOf, Dl.svsOf, Dl.svOf, Dl.backs, Dl.backSv, Dl.denOf, Dl.finC, Dl.outs, Dl.retRV, Dl.SV.arg, Dl.SV.lent, Dl.gNameM, Dl.gNilM, Dl.gConsM, Dl.gTupM, Dl.gSubM, Dl.isLst, Dl.sPar, Dl.sFor, Dl.forM, Dl.iSeqM, Dl.D.items, Dl.eCallF, Dl.callF, Dl.eMake, Dl.makeM, Dl.eFld, Dl.opFld, Dl.sPutF, Dl.opAdd, Dl.opSub, Dl.opMul, Dl.opFDiv, Dl.opMod, Dl.opPow, Dl.opNeg, Dl.opLt, Dl.opLe, Dl.opGt, Dl.opGe, Dl.opIs2, Dl.opIsNot2, Dl.opIsN, Dl.opNotN, Dl.D.isNon, Dl.opIx, Dl.opLen, Dl.opAbs, Dl.opMax2, Dl.opMin2, Dl.opInt1, Dl.opStrI, Dl.opList, Dl.opTuple, Dl.eIsi, Dl.isaD, Dl.D.bt, Dl.subB, Dl.sTry, Dl.tryH, Dl.endH, Dl.noExc, Dl.clearS, Dl.SV.isExc, Dl.eXf, Dl.eIsX, Dl.sRaise, Dl.hitL, L2.atI, L2.ixN, Dl.LIM]
    refine seq_nx (env1 := [.imm (.rol (ns.map D.int)), .own xs, .imm (.int i), .own (pl), x4, .own (kl), .imm (.int k), .imm (.int o1), .imm (.int o2), .imm (.int wy), .imm (.int n), x11, x12]) ?_ ?_
    · simp [e5, Dl.sSeq, Dl.sIf, Dl.sRet, Dl.sRetN, Dl.sDrop, Dl.putM, Dl.sAsg, Dl.sAsgG, Dl.sNx, Dl.sBk, Dl.sCt, Dl.bindM, Dl.retM, Dl.liftM, Dl.settle, Dl.eVar, Dl.eC, Dl.eB, Dl.eNot, Dl.eAnd, Dl.eOr, Dl.eV, Dl.eIf, Dl.eAndV, Dl.eOrV, Dl.eOp2, Dl.eOp1, Dl.eOpn, Dl.op2M, Dl.op1M, Dl.opnM, Dl.eOp2R, Dl.peek, Dl.peeks, Dl.pNil, Dl.pCons, Dl.dNil, Dl.dCons, Dl.eTup, Dl.eLst, Dl.aNil, Dl.aSet, Dl.aLend, Dl.eCall, Dl.callM, Dl.alsOf, Dl.svsOf, Dl.svOf, Dl.backs, Dl.backSv, Dl.denOf, Dl.finC, Dl.outs, Dl.retRV, Dl.SV.arg, Dl.SV.lent, Dl.gNameM, Dl.gNilM, Dl.gConsM, Dl.gTupM, Dl.gSubM, Dl.isLst, Dl.sPar, Dl.sFor, Dl.forM, Dl.iSeqM, Dl.D.items, Dl.eCallF, Dl.callF, Dl.eMake, Dl.makeM, Dl.eFld, Dl.opFld, Dl.sPutF, Dl.opAdd, Dl.opSub, Dl.opMul, Dl.opFDiv, Dl.opMod, Dl.opPow, Dl.opNeg, Dl.opLt, Dl.opLe, Dl.opGt, Dl.opGe, Dl.opIs2, Dl.opIsNot2, Dl.opIsN, Dl.opNotN, Dl.D.isNon, Dl.opIx, Dl.opLen, Dl.opAbs, Dl.opMax2, Dl.opMin2, Dl.opInt1, Dl.opStrI, Dl.opList, Dl.opTuple, Dl.eIsi, Dl.isaD, Dl.D.bt, Dl.subB, Dl.sTry, Dl.tryH, Dl.endH, Dl.noExc, Dl.clearS, Dl.SV.isExc, Dl.eXf, Dl.eIsX, Dl.sRaise, Dl.hitL, L2.atI, L2.ixN, Dl.LIM]
    refine seq_nx (env1 := [.imm (.rol (ns.map D.int)), .own xs, .imm (.int i), .own (pl), x4, .own (kl), .imm (.int k), .imm (.int o1), .imm (.int o2), .imm (.int wy), .imm (.int n), .imm (.tup [.int n, .int 1]), x12]) ?_ ?_
    · simp [Dl.sSeq, Dl.sIf, Dl.sRet, Dl.sRetN, Dl.sDrop, Dl.putM, Dl.sAsg, Dl.sAsgG, Dl.sNx, Dl.sBk, Dl.sCt, Dl.bindM, Dl.retM, Dl.liftM, Dl.settle, Dl.eVar, Dl.eC, Dl.eB, Dl.eNot, Dl.eAnd, Dl.eOr, Dl.eV, Dl.eIf, Dl.eAndV, Dl.eOrV, Dl.eOp2, Dl.eOp1, Dl.eOpn, Dl.op2M, Dl.op1M, Dl.opnM, Dl.eOp2R, Dl.peek, Dl.peeks, Dl.pNil, Dl.pCons, Dl.dNil, Dl.dCons, Dl.eTup, Dl.eLst, Dl.aNil, Dl.aSet, Dl.aLend, Dl.eCall, Dl.callM, Dl.alsOf, Dl.svsOf, Dl.svOf, Dl.backs, Dl.backSv, Dl.denOf, Dl.finC, Dl.outs, Dl.retRV, Dl.SV.arg, Dl.SV.lent, Dl.gNameM, Dl.gNilM, Dl.gConsM, Dl.gTupM, Dl.gSubM, Dl.isLst, Dl.sPar, Dl.sFor, Dl.forM, Dl.iSeqM, Dl.D.items, Dl.eCallF, Dl.callF, Dl.eMake, Dl.makeM, Dl.eFld, Dl.opFld, Dl.sPutF, Dl.opAdd, Dl.opSub, Dl.opMul, Dl.opFDiv, Dl.opMod, Dl.opPow, Dl.opNeg, Dl.opLt, Dl.opLe, Dl.opGt, Dl.opGe, Dl.opIs2, Dl.opIsNot2, Dl.opIsN, Dl.opNotN, Dl.D.isNon, Dl.opIx, Dl.opLen, Dl.opAbs, Dl.opMax2, Dl.opMin2, Dl.opInt1, Dl.opStrI, Dl.opList, Dl.opTuple, Dl.eIsi, Dl.isaD, Dl.D.bt, Dl.subB, Dl.sTry, Dl.tryH, Dl.endH, Dl.noExc, Dl.clearS, Dl.SV.isExc, Dl.eXf, Dl.eIsX, Dl.sRaise, Dl.hitL, L2.atI, L2.ixN, Dl.LIM]
    refine seq_nx em ?_
    have i0 := law_is T B
    have i1 := law_is p1.1 p1.2
    have i2 := law_is p2.1 p2.2
    refine seq_nx (env1 := [.imm (.rol (ns.map D.int)), .own xs, .imm (.int i), .own (pl), x4, .own (kl), .imm (.int k), .imm (.int o1), .imm (.int o2), .imm (.int wy), .imm (.int n), .imm (.tup [.int T, .int B]), .imm (rat T B)]) (if_pass ?_) ?_
    · unfold pD at a1 a2
      unfold kD at c1 c2
      unfold rat at *
      simp [i0, i1, i2, a1, a2, c1, c2, Dl.sSeq, Dl.sIf, Dl.sRet, Dl.sRetN, Dl.sDrop, Dl.putM, Dl.sAsg, Dl.sAsgG, Dl.sNx, Dl.sBk, Dl.sCt, Dl.bindM, Dl.retM, Dl.liftM, Dl.settle, Dl.eVar, Dl.eC, Dl.eB, Dl.eNot, Dl.eAnd, Dl.eOr, Dl.eV, Dl.eIf, Dl.eAndV, Dl.eOrV, Dl.eOp2, Dl.eOp1, Dl.eOpn, Dl.op2M, Dl.op1M, Dl.opnM, Dl.eOp2R, Dl.peek, Dl.peeks, Dl.pNil, Dl.pCons, Dl.dNil, Dl.dCons, Dl.eTup, Dl.eLst, Dl.aNil, Dl.aSet, Dl.aLend, Dl.eCall, Dl.callM, Dl.alsOf, Dl.svsOf, Dl.svOf, Dl.backs, Dl.backSv, Dl.denOf, Dl.finC, Dl.outs, Dl.retRV, Dl.SV.arg, Dl.SV.lent, Dl.gNameM, Dl.gNilM, Dl.gConsM, Dl.gTupM, Dl.gSubM, Dl.isLst, Dl.sPar, Dl.sFor, Dl.forM, Dl.iSeqM, Dl.D.items, Dl.eCallF, Dl.callF, Dl.eMake, Dl.makeM, Dl.eFld, Dl.opFld, Dl.sPutF, Dl.opAdd, Dl.opSub, Dl.opMul, Dl.opFDiv, Dl.opMod, Dl.opPow, Dl.opNeg, Dl.opLt, Dl.opLe, Dl.opGt, Dl.opGe, Dl.opIs2, Dl.opIsNot2, Dl.opIsN, Dl.opNotN, Dl.D.isNon, Dl.opIx, Dl.opLen, Dl.opAbs, Dl.opMax2, Dl.opMin2, Dl.opInt1, Dl.opStrI, Dl.opList, Dl.opTuple, Dl.eIsi, Dl.isaD, Dl.D.bt, Dl.subB, Dl.sTry, Dl.tryH, Dl.endH, Dl.noExc, Dl.clearS, Dl.SV.isExc, Dl.eXf, Dl.eIsX, Dl.sRaise, Dl.hitL, Dl.LIM]
    have u1 := quotient lw (lt_mono hT (by decide)) (lt_mono hB (by decide)) q2.sz.num
    have u2 := quotient lw (lt_mono hT (by decide)) (lt_mono hB (by decide)) (Num.int (n := n) (lt_mono hnn (by decide)))
    refine seq_nx (env1 := [.imm (.rol (ns.map D.int)), .own xs, .imm (.int i), .own (pl), x4, .own (kl), .imm (.int k), .imm (.int o1), .imm (.int o2), .imm (.int wy), .imm (.int n), .imm (.tup [.int T, .int B]), .imm (rat T B)]) (if_pass ?_) ?_
    · unfold pD at a1 a2
      simp [u1, u2, a2, c2, Dl.sSeq, Dl.sIf, Dl.sRet, Dl.sRetN, Dl.sDrop, Dl.putM, Dl.sAsg, Dl.sAsgG, Dl.sNx, Dl.sBk, Dl.sCt, Dl.bindM, Dl.retM, Dl.liftM, Dl.settle, Dl.eVar, Dl.eC, Dl.eB, Dl.eNot, Dl.eAnd, Dl.eOr, Dl.eV, Dl.eIf, Dl.eAndV, Dl.eOrV, Dl.eOp2, Dl.eOp1, Dl.eOpn, Dl.op2M, Dl.op1M, Dl.opnM, Dl.eOp2R, Dl.peek, Dl.peeks, Dl.pNil, Dl.pCons, Dl.dNil, Dl.dCons, Dl.eTup, Dl.eLst, Dl.aNil, Dl.aSet, Dl.aLend, Dl.eCall, Dl.callM, Dl.alsOf, Dl.svsOf, Dl.svOf, Dl.backs, Dl.backSv, Dl.denOf, Dl.finC, Dl.outs, Dl.retRV, Dl.SV.arg, Dl.SV.lent, Dl.gNameM, Dl.gNilM, Dl.gConsM, Dl.gTupM, Dl.gSubM, Dl.isLst, Dl.sPar, Dl.sFor, Dl.forM, Dl.iSeqM, Dl.D.items, Dl.eCallF, Dl.callF, Dl.eMake, Dl.makeM, Dl.eFld, Dl.opFld, Dl.sPutF, Dl.opAdd, Dl.opSub, Dl.opMul, Dl.opFDiv, Dl.opMod, Dl.opPow, Dl.opNeg, Dl.opLt, Dl.opLe, Dl.opGt, Dl.opGe, Dl.opIs2, Dl.opIsNot2, Dl.opIsN, Dl.opNotN, Dl.D.isNon, Dl.opIx, Dl.opLen, Dl.opAbs, Dl.opMax2, Dl.opMin2, Dl.opInt1, Dl.opStrI, Dl.opList, Dl.opTuple, Dl.eIsi, Dl.isaD, Dl.D.bt, Dl.subB, Dl.sTry, Dl.tryH, Dl.endH, Dl.noExc, Dl.clearS, Dl.SV.isExc, Dl.eXf, Dl.eIsX, Dl.sRaise, Dl.hitL, Dl.LIM]
    have v1 := less_num (lt_mono hT (by decide)) (lt_mono hB (by decide)) q2.sz.num
    have m1 : opMul (.int T) (.int p2.2) = some (.imm (.int (T * p2.2))) := mulOk (lt_mono hT (by decide)) (lt_mono q2.sz.e (by decide))
    have m2 : opMul (.int p2.1) (.int B) = some (.imm (.int (p2.1 * B))) := mulOk (lt_mono q2.sz.d (by decide)) (lt_mono hB (by decide))
    have bb := ne_of (eq_bl (decide (T * p2.2 < p2.1 * B)))
    refine seq_nx (env1 := [.imm (.rol (ns.map D.int)), .own xs, .imm (.int i), .own (pl), x4, .own (kl), .imm (.int k), .imm (.int o1), .imm (.int o2), .imm (.int wy), .imm (.int n), .imm (.tup [.int T, .int B]), .imm (rat T B)]) (if_pass ?_) ?_
    · unfold pD at a1 a2
      unfold kD at v1 c2
      unfold rat at *
      simp [Dl.eMeth, v1, a2, c2, m1, m2, bb, at20, at21, Dl.sSeq, Dl.sIf, Dl.sRet, Dl.sRetN, Dl.sDrop, Dl.putM, Dl.sAsg, Dl.sAsgG, Dl.sNx, Dl.sBk, Dl.sCt, Dl.bindM, Dl.retM, Dl.liftM, Dl.settle, Dl.eVar, Dl.eC, Dl.eB, Dl.eNot, Dl.eAnd, Dl.eOr, Dl.eV, Dl.eIf, Dl.eAndV, Dl.eOrV, Dl.eOp2, Dl.eOp1, Dl.eOpn, Dl.op2M, Dl.op1M, Dl.opnM, Dl.eOp2R, Dl.peek, Dl.peeks, Dl.pNil, Dl.pCons, Dl.dNil, Dl.dCons, Dl.eTup, Dl.eLst, Dl.aNil, Dl.aSet, Dl.aLend, Dl.eCall, Dl.callM, Dl.alsOf, Dl.svsOf, Dl.svOf, Dl.backs, Dl.backSv, Dl.denOf, Dl.finC, Dl.outs, Dl.retRV, Dl.SV.arg, Dl.SV.lent, Dl.gNameM, Dl.gNilM, Dl.gConsM, Dl.gTupM, Dl.gSubM, Dl.isLst, Dl.sPar, Dl.sFor, Dl.forM, Dl.iSeqM, Dl.D.items, Dl.eCallF, Dl.callF, Dl.eMake, Dl.makeM, Dl.eFld, Dl.opFld, Dl.sPutF, Dl.opAdd, Dl.opSub, Dl.opFDiv, Dl.opMod, Dl.opPow, Dl.opNeg, Dl.opLt, Dl.opLe, Dl.opGt, Dl.opGe, Dl.opIs2, Dl.opIsNot2, Dl.opIsN, Dl.opNotN, Dl.D.isNon, Dl.opIx, Dl.opLen, Dl.opAbs, Dl.opMax2, Dl.opMin2, Dl.opInt1, Dl.opStrI, Dl.opList, Dl.opTuple, Dl.eIsi, Dl.isaD, Dl.D.bt, Dl.subB, Dl.sTry, Dl.tryH, Dl.endH, Dl.noExc, Dl.clearS, Dl.SV.isExc, Dl.eXf, Dl.eIsX, Dl.sRaise, Dl.hitL, Dl.LIM]
    refine seq_nx (env1 := [.imm (.rol (ns.map D.int)), .own zs, .imm (.int i), .own (pl), x4, .own (kl), .imm (.int k), .imm (.int o1), .imm (.int o2), .imm (.int wy), .imm (.int n), .imm (.tup [.int T, .int B]), .imm (rat T B)]) (if_pass ?_) ?_
    · simp [eq, Dl.sSeq, Dl.sIf, Dl.sRet, Dl.sRetN, Dl.sDrop, Dl.putM, Dl.sAsg, Dl.sAsgG, Dl.sNx, Dl.sBk, Dl.sCt, Dl.bindM, Dl.retM, Dl.liftM, Dl.settle, Dl.eVar, Dl.eC, Dl.eB, Dl.eNot, Dl.eAnd, Dl.eOr, Dl.eV, Dl.eIf, Dl.eAndV, Dl.eOrV, Dl.eOp2, Dl.eOp1, Dl.eOpn, Dl.op2M, Dl.op1M, Dl.opnM, Dl.eOp2R, Dl.peek, Dl.peeks, Dl.pNil, Dl.pCons, Dl.dNil, Dl.dCons, Dl.eTup, Dl.eLst, Dl.aNil, Dl.aSet, Dl.aLend, Dl.eCall, Dl.callM, Dl.alsOf, Dl.svsOf, Dl.svOf, Dl.backs, Dl.backSv, Dl.denOf, Dl.finC, Dl.outs, Dl.retRV, Dl.SV.arg, Dl.SV.lent, Dl.gNameM, Dl.gNilM, Dl.gConsM, Dl.gTupM, Dl.gSubM, Dl.isLst, Dl.sPar, Dl.sFor, Dl.forM, Dl.iSeqM, Dl.D.items, Dl.eCallF, Dl.callF, Dl.eMake, Dl.makeM, Dl.eFld, Dl.opFld, Dl.sPutF, Dl.opAdd, Dl.opSub, Dl.opMul, Dl.opFDiv, Dl.opMod, Dl.opPow, Dl.opNeg, Dl.opLt, Dl.opLe, Dl.opGt, Dl.opGe, Dl.opIs2, Dl.opIsNot2, Dl.opIsN, Dl.opNotN, Dl.D.isNon, Dl.opIx, Dl.opLen, Dl.opAbs, Dl.opMax2, Dl.opMin2, Dl.opInt1, Dl.opStrI, Dl.opList, Dl.opTuple, Dl.eIsi, Dl.isaD, Dl.D.bt, Dl.subB, Dl.sTry, Dl.tryH, Dl.endH, Dl.noExc, Dl.clearS, Dl.SV.isExc, Dl.eXf, Dl.eIsX, Dl.sRaise, Dl.hitL, L2.atI, L2.ixN, Dl.LIM]
    exact hR
  have io : ixN ps.length o2 = some o2.toNat := by simp [ixN, ao2, hp3, bo2]
  have store : ∀ (q : Int × Int) (src : List D), (sSeq (sAsgG (eVar 11) (gSubM 3 (eVar 8))) (sAsgG (eVar 12) (gSubM 5 (eVar 8)))) [.imm (.rol (ns.map D.int)), .own src, .imm (.int i), .own (ps.map pD), x4, .own (ps.map kD), .imm (.int k), .imm (.int o1), .imm (.int o2), .imm (.int wy), .imm (.int n), .imm (pD q), .imm (kD q)] = .ok .nx [.imm (.rol (ns.map D.int)), .own src, .imm (.int i), .own ((ps.set o2.toNat q).map pD), x4, .own ((ps.set o2.toNat q).map kD), .imm (.int k), .imm (.int o1), .imm (.int o2), .imm (.int wy), .imm (.int n), .imm (pD q), .imm (kD q)] := fun q src => by
    have l1 : (ps.map pD).length = ps.length := List.length_map _
    have l2 : (ps.map kD).length = ps.length := List.length_map _
    rw [List.map_set, List.map_set]
    generalize ps.map pD = pl at *
    generalize ps.map kD = kl at *
    rw [← l1] at io
    have io2 := io
    rw [l1, ← l2] at io2
    generalize pD q = pq
    generalize kD q = kq
    refine seq_nx (env1 := [.imm (.rol (ns.map D.int)), .own src, .imm (.int i), .own (pl.set o2.toNat pq), x4, .own (kl), .imm (.int k), .imm (.int o1), .imm (.int o2), .imm (.int wy), .imm (.int n), .imm pq, .imm kq]) ?_ ?_
    · simp [io, Dl.sSeq, Dl.sIf, Dl.sRet, Dl.sRetN, Dl.sDrop, Dl.putM, Dl.sAsg, Dl.sAsgG, Dl.sNx, Dl.sBk, Dl.sCt, Dl.bindM, Dl.retM, Dl.liftM, Dl.settle, Dl.eVar, Dl.eC, Dl.eB, Dl.eNot, Dl.eAnd, Dl.eOr, Dl.eV, Dl.eIf, Dl.eAndV, Dl.eOrV, Dl.eOp2, Dl.eOp1, Dl.eOpn, Dl.op2M, Dl.op1M, Dl.opnM, Dl.eOp2R, Dl.peek, Dl.peeks, Dl.pNil, Dl.pCons, Dl.dNil, Dl.dCons, Dl.eTup, Dl.eLst, Dl.aNil, Dl.aSet, Dl.aLend, Dl.eCall, Dl.callM, Dl.alsOf, Dl.svsOf, Dl.svOf, Dl.backs, Dl.backSv, Dl.denOf, Dl.finC, Dl.outs, Dl.retRV, Dl.SV.arg, Dl.SV.lent, Dl.gNameM, Dl.gNilM, Dl.gConsM, Dl.gTupM, Dl.gSubM, Dl.isLst, Dl.sPar, Dl.sFor, Dl.forM, Dl.iSeqM, Dl.D.items, Dl.eCallF, Dl.callF, Dl.eMake, Dl.makeM, Dl.eFld, Dl.opFld, Dl.sPutF, Dl.opAdd, Dl.opSub, Dl.opMul, Dl.opFDiv, Dl.opMod, Dl.opPow, Dl.opNeg, Dl.opLt, Dl.opLe, Dl.opGt, Dl.opGe, Dl.opIs2, Dl.opIsNot2, Dl.opIsN, Dl.opNotN, Dl.D.isNon, Dl.opIx, Dl.opLen, Dl.opAbs, Dl.opMax2, Dl.opMin2, Dl.opInt1, Dl.opStrI, Dl.opList, Dl.opTuple, Dl.eIsi, Dl.isaD, Dl.D.bt, Dl.subB, Dl.sTry, Dl.tryH, Dl.endH, Dl.noExc, Dl.clearS, Dl.SV.isExc, Dl.eXf, Dl.eIsX, Dl.sRaise, Dl.hitL, L2.atI, Dl.LIM]
    · simp [io2, Dl.sSeq, Dl.sIf, Dl.sRet, Dl.sRetN, Dl.sDrop, Dl.putM, Dl.sAsg, Dl.sAsgG, Dl.sNx, Dl.sBk, Dl.sCt, Dl.bindM, Dl.retM, Dl.liftM, Dl.settle, Dl.eVar, Dl.eC, Dl.eB, Dl.eNot, Dl.eAnd, Dl.eOr, Dl.eV, Dl.eIf, Dl.eAndV, Dl.eOrV, Dl.eOp2, Dl.eOp1, Dl.eOpn, Dl.op2M, Dl.op1M, Dl.opnM, Dl.eOp2R, Dl.peek, Dl.peeks, Dl.pNil, Dl.pCons, Dl.dNil, Dl.dCons, Dl.eTup, Dl.eLst, Dl.aNil, Dl.aSet, Dl.aLend, Dl.eCall, Dl.callM, Dl.alsOf, Dl.svsOf, Dl.svOf, Dl.backs, Dl.backSv, Dl.denOf, Dl.finC, Dl.outs, Dl.retRV, Dl.SV.arg, Dl.SV.lent, Dl.gNameM, Dl.gNilM, Dl.gConsM, Dl.gTupM, Dl.gSubM, Dl.isLst, Dl.sPar, Dl.sFor, Dl.forM, Dl.iSeqM, Dl.D.items, Dl.eCallF, Dl.callF, Dl.eMake, Dl.makeM, Dl.eFld, Dl.opFld, Dl.sPutF, Dl.opAdd, Dl.opSub, Dl.opMul, Dl.opFDiv, Dl.opMod, Dl.opPow, Dl.opNeg, Dl.opLt, Dl.opLe, Dl.opGt, Dl.opGe, Dl.opIs2, Dl.opIsNot2, Dl.opIsN, Dl.opNotN, Dl.D.isNon, Dl.opIx, Dl.opLen, Dl.opAbs, Dl.opMax2, Dl.opMin2, Dl.opInt1, Dl.opStrI, Dl.opList, Dl.opTuple, Dl.eIsi, Dl.isaD, Dl.D.bt, Dl.subB, Dl.sTry, Dl.tryH, Dl.endH, Dl.noExc, Dl.clearS, Dl.SV.isExc, Dl.eXf, Dl.eIsX, Dl.sRaise, Dl.hitL, L2.atI, Dl.LIM]
  have okset : ∀ q, Ok1 q → (ps.set o2.toNat q).length = 3 ∧ ∀ p ∈ ps.set o2.toNat q, Ok1 p := fun q hq => ⟨by simpa using hp3, fun p hp => by
    rcases List.mem_or_eq_of_mem_set hp with hp | rfl
    · exact hps p hp
    · exact hq⟩
  obtain ⟨t, b, ws, lp, ht, hb, hw, ew⟩ := pair hz (by omega)
  have hmx : opMax2 [.int (T.natAbs : Int), .int B] = some (.imm (.int (if B > (T.natAbs : Int) then B else (T.natAbs : Int)))) := rfl
  have a30 : (2 : Nat) ^ 60 < 10 ^ 30 := by decide
  have c30 : (10 : Int) ^ 30 = 1000000000000000000000000000000 := by decide
  have c30n : (10 : Nat) ^ 30 = 1000000000000000000000000000000 := by decide
  obtain ⟨M, hM⟩ : ∃ M : Int, M = if B > (T.natAbs : Int) then B else (T.natAbs : Int) := ⟨_, rfl⟩
  rw [← hM] at hmx
  by_cases c : 1000000000000000000000000000000 < M
  · have ok : Ok1 (t, b) := ⟨lp, by show t.natAbs ≤ 10 ^ 30; omega, by show b.natAbs ≤ 10 ^ 30; omega⟩
    obtain ⟨g1, g2⟩ := okset _ ok
    refine ⟨ps.set o2.toNat (t, b), .own ws, .imm (.int k), .imm (.int o1), .imm (.int o2), .imm (.int wy), .imm (.int n), .imm (pD (t, b)), .imm (kD (t, b)), g1, g2, st ?_⟩
    refine seq_nx ?_ (store (t, b) ws)
    have em := mkR (a := t) (b := b) (by have := lp.pos; omega) (lt_mono hb (by decide)) (f := (aSet (eOp2 opIx (eVar 11) (eC (.int 0))) (aSet (eOp2 opIx (eVar 11) (eC (.int 1))) aNil))) (env := [.imm (.rol (ns.map D.int)), .own ws, .imm (.int i), .own (ps.map pD), x4, .own (ps.map kD), .imm (.int k), .imm (.int o1), .imm (.int o2), .imm (.int wy), .imm (.int n), .imm (.tup [.int t, .int b]), .imm (rat T B)]) (env1 := [.imm (.rol (ns.map D.int)), .own ws, .imm (.int i), .own (ps.map pD), x4, .own (ps.map kD), .imm (.int k), .imm (.int o1), .imm (.int o2), .imm (.int wy), .imm (.int n), .imm (.tup [.int t, .int b]), .imm (rat T B)]) (by simp [Dl.sSeq, Dl.sIf, Dl.sRet, Dl.sRetN, Dl.sDrop, Dl.putM, Dl.sAsg, Dl.sAsgG, Dl.sNx, Dl.sBk, Dl.sCt, Dl.bindM, Dl.retM, Dl.liftM, Dl.settle, Dl.eVar, Dl.eC, Dl.eB, Dl.eNot, Dl.eAnd, Dl.eOr, Dl.eV, Dl.eIf, Dl.eAndV, Dl.eOrV, Dl.eOp2, Dl.eOp1, Dl.eOpn, Dl.op2M, Dl.op1M, Dl.opnM, Dl.eOp2R, Dl.peek, Dl.peeks, Dl.pNil, Dl.pCons, Dl.dNil, Dl.dCons, Dl.eTup, Dl.eLst, Dl.aNil, Dl.aSet, Dl.aLend, Dl.eCall, Dl.callM, Dl.alsOf, Dl.svsOf, Dl.svOf, Dl.backs, Dl.backSv, Dl.denOf, Dl.finC, Dl.outs, Dl.retRV, Dl.SV.arg, Dl.SV.lent, Dl.gNameM, Dl.gNilM, Dl.gConsM, Dl.gTupM, Dl.gSubM, Dl.isLst, Dl.sPar, Dl.sFor, Dl.forM, Dl.iSeqM, Dl.D.items, Dl.eCallF, Dl.callF, Dl.eMake, Dl.makeM, Dl.eFld, Dl.opFld, Dl.sPutF, Dl.opAdd, Dl.opSub, Dl.opMul, Dl.opFDiv, Dl.opMod, Dl.opPow, Dl.opNeg, Dl.opLt, Dl.opLe, Dl.opGt, Dl.opGe, Dl.opIs2, Dl.opIsNot2, Dl.opIsN, Dl.opNotN, Dl.D.isNon, Dl.opIx, Dl.opLen, Dl.opAbs, Dl.opMax2, Dl.opMin2, Dl.opInt1, Dl.opStrI, Dl.opList, Dl.opTuple, Dl.eIsi, Dl.isaD, Dl.D.bt, Dl.subB, Dl.sTry, Dl.tryH, Dl.endH, Dl.noExc, Dl.clearS, Dl.SV.isExc, Dl.eXf, Dl.eIsX, Dl.sRaise, Dl.hitL, L2.atI, L2.ixN, Dl.LIM])
    rw [nT_low lp, nB_low lp] at em
    refine if_t (env1 := [.imm (.rol (ns.map D.int)), .own zs, .imm (.int i), .own (ps.map pD), x4, .own (ps.map kD), .imm (.int k), .imm (.int o1), .imm (.int o2), .imm (.int wy), .imm (.int n), .imm (.tup [.int T, .int B]), .imm (rat T B)]) ?_ ?_
    · simp [opAbsN, hmx, c, Dl.sSeq, Dl.sIf, Dl.sRet, Dl.sRetN, Dl.sDrop, Dl.putM, Dl.sAsg, Dl.sAsgG, Dl.sNx, Dl.sBk, Dl.sCt, Dl.bindM, Dl.retM, Dl.liftM, Dl.settle, Dl.eVar, Dl.eC, Dl.eB, Dl.eNot, Dl.eAnd, Dl.eOr, Dl.eV, Dl.eIf, Dl.eAndV, Dl.eOrV, Dl.eOp2, Dl.eOp1, Dl.eOpn, Dl.op2M, Dl.op1M, Dl.opnM, Dl.eOp2R, Dl.peek, Dl.peeks, Dl.pNil, Dl.pCons, Dl.dNil, Dl.dCons, Dl.eTup, Dl.eLst, Dl.aNil, Dl.aSet, Dl.aLend, Dl.eCall, Dl.callM, Dl.alsOf, Dl.svsOf, Dl.svOf, Dl.backs, Dl.backSv, Dl.denOf, Dl.finC, Dl.outs, Dl.retRV, Dl.SV.arg, Dl.SV.lent, Dl.gNameM, Dl.gNilM, Dl.gConsM, Dl.gTupM, Dl.gSubM, Dl.isLst, Dl.sPar, Dl.sFor, Dl.forM, Dl.iSeqM, Dl.D.items, Dl.eCallF, Dl.callF, Dl.eMake, Dl.makeM, Dl.eFld, Dl.opFld, Dl.sPutF, Dl.opAdd, Dl.opSub, Dl.opMul, Dl.opFDiv, Dl.opMod, Dl.opPow, Dl.opNeg, Dl.opLt, Dl.opLe, Dl.opGt, Dl.opGe, Dl.opIs2, Dl.opIsNot2, Dl.opIsN, Dl.opNotN, Dl.D.isNon, Dl.opIx, Dl.opLen, Dl.opMin2, Dl.opInt1, Dl.opStrI, Dl.opList, Dl.opTuple, Dl.eIsi, Dl.isaD, Dl.D.bt, Dl.subB, Dl.sTry, Dl.tryH, Dl.endH, Dl.noExc, Dl.clearS, Dl.SV.isExc, Dl.eXf, Dl.eIsX, Dl.sRaise, Dl.hitL, L2.atI, L2.ixN, Dl.LIM]
    refine seq_nx (env1 := [.imm (.rol (ns.map D.int)), .own ws, .imm (.int i), .own (ps.map pD), x4, .own (ps.map kD), .imm (.int k), .imm (.int o1), .imm (.int o2), .imm (.int wy), .imm (.int n), .imm (.tup [.int t, .int b]), .imm (rat T B)]) ?_ ?_
    · simp [ew, Dl.sSeq, Dl.sIf, Dl.sRet, Dl.sRetN, Dl.sDrop, Dl.putM, Dl.sAsg, Dl.sAsgG, Dl.sNx, Dl.sBk, Dl.sCt, Dl.bindM, Dl.retM, Dl.liftM, Dl.settle, Dl.eVar, Dl.eC, Dl.eB, Dl.eNot, Dl.eAnd, Dl.eOr, Dl.eV, Dl.eIf, Dl.eAndV, Dl.eOrV, Dl.eOp2, Dl.eOp1, Dl.eOpn, Dl.op2M, Dl.op1M, Dl.opnM, Dl.eOp2R, Dl.peek, Dl.peeks, Dl.pNil, Dl.pCons, Dl.dNil, Dl.dCons, Dl.eTup, Dl.eLst, Dl.aNil, Dl.aSet, Dl.aLend, Dl.eCall, Dl.callM, Dl.alsOf, Dl.svsOf, Dl.svOf, Dl.backs, Dl.backSv, Dl.denOf, Dl.finC, Dl.outs, Dl.retRV, Dl.SV.arg, Dl.SV.lent, Dl.gNameM, Dl.gNilM, Dl.gConsM, Dl.gTupM, Dl.gSubM, Dl.isLst, Dl.sPar, Dl.sFor, Dl.forM, Dl.iSeqM, Dl.D.items, Dl.eCallF, Dl.callF, Dl.eMake, Dl.makeM, Dl.eFld, Dl.opFld, Dl.sPutF, Dl.opAdd, Dl.opSub, Dl.opMul, Dl.opFDiv, Dl.opMod, Dl.opPow, Dl.opNeg, Dl.opLt, Dl.opLe, Dl.opGt, Dl.opGe, Dl.opIs2, Dl.opIsNot2, Dl.opIsN, Dl.opNotN, Dl.D.isNon, Dl.opIx, Dl.opLen, Dl.opAbs, Dl.opMax2, Dl.opMin2, Dl.opInt1, Dl.opStrI, Dl.opList, Dl.opTuple, Dl.eIsi, Dl.isaD, Dl.D.bt, Dl.subB, Dl.sTry, Dl.tryH, Dl.endH, Dl.noExc, Dl.clearS, Dl.SV.isExc, Dl.eXf, Dl.eIsX, Dl.sRaise, Dl.hitL, L2.atI, L2.ixN, Dl.LIM]
    · unfold sAsg Dl.bindM
      rw [em]
      rfl
  · have ok : Ok1 (T, B) := by
      have := lw.pos
      refine ⟨lw, ?_, ?_⟩
      · show T.natAbs ≤ 10 ^ 30
        split at hM <;> omega
      · show B.natAbs ≤ 10 ^ 30
        split at hM <;> omega
    obtain ⟨g1, g2⟩ := okset _ ok
    refine ⟨ps.set o2.toNat (T, B), .own zs, .imm (.int k), .imm (.int o1), .imm (.int o2), .imm (.int wy), .imm (.int n), .imm (pD (T, B)), .imm (kD (T, B)), g1, g2, st ?_⟩
    refine seq_nx (if_pass ?_) (store (T, B) zs)
    simp [opAbsN, hmx, c, pD, kD, Dl.sSeq, Dl.sIf, Dl.sRet, Dl.sRetN, Dl.sDrop, Dl.putM, Dl.sAsg, Dl.sAsgG, Dl.sNx, Dl.sBk, Dl.sCt, Dl.bindM, Dl.retM, Dl.liftM, Dl.settle, Dl.eVar, Dl.eC, Dl.eB, Dl.eNot, Dl.eAnd, Dl.eOr, Dl.eV, Dl.eIf, Dl.eAndV, Dl.eOrV, Dl.eOp2, Dl.eOp1, Dl.eOpn, Dl.op2M, Dl.op1M, Dl.opnM, Dl.eOp2R, Dl.peek, Dl.peeks, Dl.pNil, Dl.pCons, Dl.dNil, Dl.dCons, Dl.eTup, Dl.eLst, Dl.aNil, Dl.aSet, Dl.aLend, Dl.eCall, Dl.callM, Dl.alsOf, Dl.svsOf, Dl.svOf, Dl.backs, Dl.backSv, Dl.denOf, Dl.finC, Dl.outs, Dl.retRV, Dl.SV.arg, Dl.SV.lent, Dl.gNameM, Dl.gNilM, Dl.gConsM, Dl.gTupM, Dl.gSubM, Dl.isLst, Dl.sPar, Dl.sFor, Dl.forM, Dl.iSeqM, Dl.D.items, Dl.eCallF, Dl.callF, Dl.eMake, Dl.makeM, Dl.eFld, Dl.opFld, Dl.sPutF, Dl.opAdd, Dl.opSub, Dl.opMul, Dl.opFDiv, Dl.opMod, Dl.opPow, Dl.opNeg, Dl.opLt, Dl.opLe, Dl.opGt, Dl.opGe, Dl.opIs2, Dl.opIsNot2, Dl.opIsN, Dl.opNotN, Dl.D.isNon, Dl.opIx, Dl.opLen, Dl.opMin2, Dl.opInt1, Dl.opStrI, Dl.opList, Dl.opTuple, Dl.eIsi, Dl.isaD, Dl.D.bt, Dl.subB, Dl.sTry, Dl.tryH, Dl.endH, Dl.noExc, Dl.clearS, Dl.SV.isExc, Dl.eXf, Dl.eIsX, Dl.sRaise, Dl.hitL, L2.atI, L2.ixN, Dl.LIM]
end
end L01
namespace L01
open PySem PySem.Spec PyProof.Rows L2 Dl

section
variable (ns : List Int) (hn : ns.length ≤ 63)
include hn
theorem loop : ∀ (is : List Nat) (ps : List (Int × Int)) (x1 x2 x4 x6 x7 x8 x9 x10 x11 x12 : SV), (∀ i ∈ is, i ≤ 99) → ps.length = 3 → (∀ p ∈ ps, Ok1 p) →
    ∃ (qs : List (Int × Int)) (y1 y2 y4 y6 y7 y8 y9 y10 y11 y12 : SV), Dl.forM (gNameM 2) l_law_0 (is.map fun (j : Nat) => D.int (1 + j)) [.imm (.rol (ns.map D.int)), x1, x2, .own (ps.map pD), x4, .own (ps.map kD), x6, x7, x8, x9, x10, x11, x12] = .ok .nx [.imm (.rol (ns.map D.int)), y1, y2, .own (qs.map pD), y4, .own (qs.map kD), y6, y7, y8, y9, y10, y11, y12] := fun is => by
  induction is with
  | nil => intro ps x1 x2 x4 x6 x7 x8 x9 x10 x11 x12 _ _ _; exact ⟨ps, x1, x2, x4, x6, x7, x8, x9, x10, x11, x12, rfl⟩
  | cons j is ih =>
    intro ps x1 x2 x4 x6 x7 x8 x9 x10 x11 x12 hi h3 hp
    have hj := hi j (by simp)
    obtain ⟨qs, y1, y6, y7, y8, y9, y10, y11, y12, g1, g2, e1⟩ := step ns hn (1 + j) (by omega) ps h3 hp x1 x4 x6 x7 x8 x9 x10 x11 x12
    obtain ⟨rs, z1, z2, z4, z6, z7, z8, z9, z10, z11, z12, e2⟩ := ih qs y1 (.imm (.int (1 + j))) x4 y6 y7 y8 y9 y10 y11 y12 (fun i h => hi i (by simp [h])) g1 g2
    refine ⟨rs, z1, z2, z4, z6, z7, z8, z9, z10, z11, z12, ?_⟩
    have e0 : gNameM 2 (.int (1 + j)) [.imm (.rol (ns.map D.int)), x1, x2, .own (ps.map pD), x4, .own (ps.map kD), x6, x7, x8, x9, x10, x11, x12] = .ok () [.imm (.rol (ns.map D.int)), x1, .imm (.int (1 + j)), .own (ps.map pD), x4, .own (ps.map kD), x6, x7, x8, x9, x10, x11, x12] := rfl
    simp only [List.map_cons, Dl.forM]
    rw [e0]
    simp only
    rw [e1]
    exact e2
end
theorem init3 {t b : Int} (l : Low t b) (hb : b.natAbs < 2 ^ 60) : den_Ratio___init__ [.obj 2 [], .imm (.int (t * 3)), .imm (.int (b * 3))] = .ok (.imm .non) [.obj 2 [.int t, .int b], .imm (.int (t * 3)), .imm (.int (b * 3))] := by
  have e := initK (t * 3) (b * 3) (by have := l.pos; omega) (lt_mono (mul_lt hb (show (3 : Int).natAbs < 2 ^ 2 by decide)) (by decide))
  rw [nT3 l, nB3 l] at e
  exact e
theorem law_true (ns : List Int) (hl : ns.length ≤ 63) (hbits : ∀ z ∈ ns, Builtin.Int.intBits z ≤ 1048576) : ∃ us, den_law [.imm (.rol (ns.map D.int))] = .ok (.imm (.bl true)) us := by
  obtain ⟨s0, hs0, e0⟩ := source ns 0 (by omega) (by omega) hl
  obtain ⟨t1, b1, s1, l1, ht1, hb1, h1, e1⟩ := pair hs0 (by omega)
  obtain ⟨t2, b2, s2, l2, ht2, hb2, h2, e2⟩ := pair h1 (by omega)
  obtain ⟨t3, b3, s3, l3, ht3, hb3, h3, e3⟩ := pair h2 (by omega)
  have a30 : (2 : Nat) ^ 60 < 10 ^ 30 := by decide
  have c1 : c_law_1 [.imm (.rol (ns.map D.int)), .own s0, .none, .none, .none, .none, .none, .none, .none, .none, .none, .none, .none] = .ok (.fresh [pD (t1, b1), pD (t2, b2), pD (t3, b3)]) [.imm (.rol (ns.map D.int)), .own s3, .none, .none, .none, .none, .none, .none, .none, .none, .none, .none, .none] := by
    have f : pCons (eC (.int 3)) pNil [.imm (.rol (ns.map D.int)), .own s0, .none, .none, .none, .none, .none, .none, .none, .none, .none, .none, .none] = .ok [.imm (.int 3)] [.imm (.rol (ns.map D.int)), .own s0, .none, .none, .none, .none, .none, .none, .none, .none, .none, .none, .none] := rfl
    have r3 : (List.range (3 : Int).toNat).map (fun (k : Nat) => D.int k) = [.int 0, .int 1, .int 2] := rfl
    unfold c_law_1 eLc Dl.bindM
    rw [rng1 _ _ _ _ _ f rfl (by decide) (by decide), r3]
    simp [lcM, Dl.wipeE, Dl.unwipe, Dl.eYes, e1, e2, e3, pD, Dl.sSeq, Dl.sIf, Dl.sRet, Dl.sRetN, Dl.sDrop, Dl.putM, Dl.sAsg, Dl.sAsgG, Dl.sNx, Dl.sBk, Dl.sCt, Dl.bindM, Dl.retM, Dl.liftM, Dl.settle, Dl.eVar, Dl.eC, Dl.eB, Dl.eNot, Dl.eAnd, Dl.eOr, Dl.eV, Dl.eIf, Dl.eAndV, Dl.eOrV, Dl.eOp2, Dl.eOp1, Dl.eOpn, Dl.op2M, Dl.op1M, Dl.opnM, Dl.eOp2R, Dl.peek, Dl.peeks, Dl.pNil, Dl.pCons, Dl.dNil, Dl.dCons, Dl.eTup, Dl.eLst, Dl.aNil, Dl.aSet, Dl.aLend, Dl.eCall, Dl.callM, Dl.alsOf, Dl.svsOf, Dl.svOf, Dl.backs, Dl.backSv, Dl.denOf, Dl.finC, Dl.outs, Dl.retRV, Dl.SV.arg, Dl.SV.lent, Dl.gNameM, Dl.gNilM, Dl.gConsM, Dl.gTupM, Dl.gSubM, Dl.isLst, Dl.sPar, Dl.sFor, Dl.forM, Dl.iSeqM, Dl.D.items, Dl.eCallF, Dl.callF, Dl.eMake, Dl.makeM, Dl.eFld, Dl.opFld, Dl.sPutF, Dl.opAdd, Dl.opSub, Dl.opMul, Dl.opFDiv, Dl.opMod, Dl.opPow, Dl.opNeg, Dl.opLt, Dl.opLe, Dl.opGt, Dl.opGe, Dl.opIs2, Dl.opIsNot2, Dl.opIsN, Dl.opNotN, Dl.D.isNon, Dl.opIx, Dl.opLen, Dl.opAbs, Dl.opMax2, Dl.opMin2, Dl.opInt1, Dl.opStrI, Dl.opList, Dl.opTuple, Dl.eIsi, Dl.isaD, Dl.D.bt, Dl.subB, Dl.sTry, Dl.tryH, Dl.endH, Dl.noExc, Dl.clearS, Dl.SV.isExc, Dl.eXf, Dl.eIsX, Dl.sRaise, Dl.hitL, L2.atI, L2.ixN, Dl.LIM]
  have i1 := init3 l1 hb1
  have i2 := init3 l2 hb2
  have i3 := init3 l3 hb3
  have m : ∀ {z : Int}, z.natAbs < 2 ^ 60 → opMul (.int z) (.int 3) = some (.imm (.int (z * 3))) := fun h => mulOk (lt_mono h (by decide)) (by decide)
  have c0 : c_law_0 [.imm (.rol (ns.map D.int)), .own s3, .none, .own [pD (t1, b1), pD (t2, b2), pD (t3, b3)], .none, .none, .none, .none, .none, .none, .none, .none, .none] = .ok (.fresh [kD (t1, b1), kD (t2, b2), kD (t3, b3)]) [.imm (.rol (ns.map D.int)), .own s3, .none, .own [pD (t1, b1), pD (t2, b2), pD (t3, b3)], .none, .none, .none, .none, .none, .none, .none, .none, .none] := by
    unfold c_law_0
    simp [Dl.eLcV, lcMV, Dl.wipeE, Dl.unwipe, Dl.eYes, pD, kD, rat, i1, i2, i3, m ht1, m ht2, m ht3, m hb1, m hb2, m hb3, Dl.sSeq, Dl.sIf, Dl.sRet, Dl.sRetN, Dl.sDrop, Dl.putM, Dl.sAsg, Dl.sAsgG, Dl.sNx, Dl.sBk, Dl.sCt, Dl.bindM, Dl.retM, Dl.liftM, Dl.settle, Dl.eVar, Dl.eC, Dl.eB, Dl.eNot, Dl.eAnd, Dl.eOr, Dl.eV, Dl.eIf, Dl.eAndV, Dl.eOrV, Dl.eOp2, Dl.eOp1, Dl.eOpn, Dl.op2M, Dl.op1M, Dl.opnM, Dl.eOp2R, Dl.peek, Dl.peeks, Dl.pNil, Dl.pCons, Dl.dNil, Dl.dCons, Dl.eTup, Dl.eLst, Dl.aNil, Dl.aSet, Dl.aLend, Dl.eCall, Dl.callM, Dl.alsOf, Dl.svsOf, Dl.svOf, Dl.backs, Dl.backSv, Dl.denOf, Dl.finC, Dl.outs, Dl.retRV, Dl.SV.arg, Dl.SV.lent, Dl.gNameM, Dl.gNilM, Dl.gConsM, Dl.gTupM, Dl.gSubM, Dl.isLst, Dl.sPar, Dl.sFor, Dl.forM, Dl.iSeqM, Dl.D.items, Dl.eCallF, Dl.callF, Dl.eMake, Dl.makeM, Dl.eFld, Dl.opFld, Dl.sPutF, Dl.opAdd, Dl.opSub, Dl.opFDiv, Dl.opMod, Dl.opPow, Dl.opNeg, Dl.opLt, Dl.opLe, Dl.opGt, Dl.opGe, Dl.opIs2, Dl.opIsNot2, Dl.opIsN, Dl.opNotN, Dl.D.isNon, Dl.opIx, Dl.opLen, Dl.opAbs, Dl.opMax2, Dl.opMin2, Dl.opInt1, Dl.opStrI, Dl.opList, Dl.opTuple, Dl.eIsi, Dl.isaD, Dl.D.bt, Dl.subB, Dl.sTry, Dl.tryH, Dl.endH, Dl.noExc, Dl.clearS, Dl.SV.isExc, Dl.eXf, Dl.eIsX, Dl.sRaise, Dl.hitL, L2.atI, L2.ixN, Dl.LIM]
  have hps : ∀ p ∈ [(t1, b1), (t2, b2), (t3, b3)], Ok1 p := fun p hp => by
    simp at hp
    rcases hp with rfl | rfl | rfl
    · exact ⟨l1, by show t1.natAbs ≤ 10 ^ 30; omega, by show b1.natAbs ≤ 10 ^ 30; omega⟩
    · exact ⟨l2, by show t2.natAbs ≤ 10 ^ 30; omega, by show b2.natAbs ≤ 10 ^ 30; omega⟩
    · exact ⟨l3, by show t3.natAbs ≤ 10 ^ 30; omega, by show b3.natAbs ≤ 10 ^ 30; omega⟩
  obtain ⟨m61, hm61⟩ : ∃ z : Int, z = if (61 : Int) < (ns.length : Int) then 61 else (ns.length : Int) := ⟨_, rfl⟩
  have hm : 0 ≤ m61 ∧ m61 ≤ 61 := by
    split at hm61 <;> omega
  obtain ⟨qs, y1, y2, y4, y6, y7, y8, y9, y10, y11, y12, el⟩ := loop ns hl (List.range (m61 - 1).toNat) [(t1, b1), (t2, b2), (t3, b3)] (.own s3) .none .none .none .none .none .none .none .none .none (fun i h => by simp at h; omega) rfl hps
  have w : w_law_0 [.imm (.rol (ns.map D.int)), .own s3, .none, .own [pD (t1, b1), pD (t2, b2), pD (t3, b3)], .none, .own [kD (t1, b1), kD (t2, b2), kD (t3, b3)], .none, .none, .none, .none, .none, .none, .none] = .ok .nx [.imm (.rol (ns.map D.int)), y1, y2, .own (qs.map pD), y4, .own (qs.map kD), y6, y7, y8, y9, y10, y11, y12] := by
    have f : pCons (eC (.int 1)) (pCons (eOpn opMin2 (pCons (eOpn opLen (pCons (eVar 0) pNil)) (pCons (eC (.int 61)) pNil))) pNil) [.imm (.rol (ns.map D.int)), .own s3, .none, .own [pD (t1, b1), pD (t2, b2), pD (t3, b3)], .none, .own [kD (t1, b1), kD (t2, b2), kD (t3, b3)], .none, .none, .none, .none, .none, .none, .none] = .ok [.imm (.int 1), .imm (.int m61)] [.imm (.rol (ns.map D.int)), .own s3, .none, .own [pD (t1, b1), pD (t2, b2), pD (t3, b3)], .none, .own [kD (t1, b1), kD (t2, b2), kD (t3, b3)], .none, .none, .none, .none, .none, .none, .none] := by
      rw [hm61]
      simp [Dl.sSeq, Dl.sIf, Dl.sRet, Dl.sRetN, Dl.sDrop, Dl.putM, Dl.sAsg, Dl.sAsgG, Dl.sNx, Dl.sBk, Dl.sCt, Dl.bindM, Dl.retM, Dl.liftM, Dl.settle, Dl.eVar, Dl.eC, Dl.eB, Dl.eNot, Dl.eAnd, Dl.eOr, Dl.eV, Dl.eIf, Dl.eAndV, Dl.eOrV, Dl.eOp2, Dl.eOp1, Dl.eOpn, Dl.op2M, Dl.op1M, Dl.opnM, Dl.eOp2R, Dl.peek, Dl.peeks, Dl.pNil, Dl.pCons, Dl.dNil, Dl.dCons, Dl.eTup, Dl.eLst, Dl.aNil, Dl.aSet, Dl.aLend, Dl.eCall, Dl.callM, Dl.alsOf, Dl.svsOf, Dl.svOf, Dl.backs, Dl.backSv, Dl.denOf, Dl.finC, Dl.outs, Dl.retRV, Dl.SV.arg, Dl.SV.lent, Dl.gNameM, Dl.gNilM, Dl.gConsM, Dl.gTupM, Dl.gSubM, Dl.isLst, Dl.sPar, Dl.sFor, Dl.forM, Dl.iSeqM, Dl.D.items, Dl.eCallF, Dl.callF, Dl.eMake, Dl.makeM, Dl.eFld, Dl.opFld, Dl.sPutF, Dl.opAdd, Dl.opSub, Dl.opMul, Dl.opFDiv, Dl.opMod, Dl.opPow, Dl.opNeg, Dl.opLt, Dl.opLe, Dl.opGt, Dl.opGe, Dl.opIs2, Dl.opIsNot2, Dl.opIsN, Dl.opNotN, Dl.D.isNon, Dl.opIx, Dl.opLen, Dl.opAbs, Dl.opMax2, Dl.opMin2, Dl.opInt1, Dl.opStrI, Dl.opList, Dl.opTuple, Dl.eIsi, Dl.isaD, Dl.D.bt, Dl.subB, Dl.sTry, Dl.tryH, Dl.endH, Dl.noExc, Dl.clearS, Dl.SV.isExc, Dl.eXf, Dl.eIsX, Dl.sRaise, Dl.hitL, L2.atI, L2.ixN, Dl.LIM]
    unfold w_law_0 sFor Dl.bindM
    rw [rng2 _ _ _ _ _ _ _ f rfl rfl (by decide) (by omega)]
    exact el
  have B : b_law [.imm (.rol (ns.map D.int)), .none, .none, .none, .none, .none, .none, .none, .none, .none, .none, .none, .none] = .ok (.ret (.imm (.bl true))) [.imm (.rol (ns.map D.int)), y1, y2, .own (qs.map pD), y4, .own (qs.map kD), y6, y7, y8, y9, y10, y11, y12] := by
    unfold b_law
    generalize w_law_0 = wM at *
    refine seq_nx (env1 := [.imm (.rol (ns.map D.int)), .own s0, .none, .none, .none, .none, .none, .none, .none, .none, .none, .none, .none]) ?_ ?_
    · simp [e0, Dl.sSeq, Dl.sIf, Dl.sRet, Dl.sRetN, Dl.sDrop, Dl.putM, Dl.sAsg, Dl.sAsgG, Dl.sNx, Dl.sBk, Dl.sCt, Dl.bindM, Dl.retM, Dl.liftM, Dl.settle, Dl.eVar, Dl.eC, Dl.eB, Dl.eNot, Dl.eAnd, Dl.eOr, Dl.eV, Dl.eIf, Dl.eAndV, Dl.eOrV, Dl.eOp2, Dl.eOp1, Dl.eOpn, Dl.op2M, Dl.op1M, Dl.opnM, Dl.eOp2R, Dl.peek, Dl.peeks, Dl.pNil, Dl.pCons, Dl.dNil, Dl.dCons, Dl.eTup, Dl.eLst, Dl.aNil, Dl.aSet, Dl.aLend, Dl.eCall, Dl.callM, Dl.alsOf, Dl.svsOf, Dl.svOf, Dl.backs, Dl.backSv, Dl.denOf, Dl.finC, Dl.outs, Dl.retRV, Dl.SV.arg, Dl.SV.lent, Dl.gNameM, Dl.gNilM, Dl.gConsM, Dl.gTupM, Dl.gSubM, Dl.isLst, Dl.sPar, Dl.sFor, Dl.forM, Dl.iSeqM, Dl.D.items, Dl.eCallF, Dl.callF, Dl.eMake, Dl.makeM, Dl.eFld, Dl.opFld, Dl.sPutF, Dl.opAdd, Dl.opSub, Dl.opMul, Dl.opFDiv, Dl.opMod, Dl.opPow, Dl.opNeg, Dl.opLt, Dl.opLe, Dl.opGt, Dl.opGe, Dl.opIs2, Dl.opIsNot2, Dl.opIsN, Dl.opNotN, Dl.D.isNon, Dl.opIx, Dl.opLen, Dl.opAbs, Dl.opMax2, Dl.opMin2, Dl.opInt1, Dl.opStrI, Dl.opList, Dl.opTuple, Dl.eIsi, Dl.isaD, Dl.D.bt, Dl.subB, Dl.sTry, Dl.tryH, Dl.endH, Dl.noExc, Dl.clearS, Dl.SV.isExc, Dl.eXf, Dl.eIsX, Dl.sRaise, Dl.hitL, L2.atI, L2.ixN, Dl.LIM]
    refine seq_nx (env1 := [.imm (.rol (ns.map D.int)), .own s3, .none, .own [pD (t1, b1), pD (t2, b2), pD (t3, b3)], .none, .none, .none, .none, .none, .none, .none, .none, .none]) ?_ ?_
    · unfold sAsg Dl.bindM
      rw [c1]
      rfl
    refine seq_nx (env1 := [.imm (.rol (ns.map D.int)), .own s3, .none, .own [pD (t1, b1), pD (t2, b2), pD (t3, b3)], .none, .own [kD (t1, b1), kD (t2, b2), kD (t3, b3)], .none, .none, .none, .none, .none, .none, .none]) ?_ ?_
    · unfold sAsg Dl.bindM
      rw [c0]
      rfl
    refine seq_nx w ?_
    rfl
  exact ⟨[.imm (.rol (ns.map D.int))], den_ret (n := 1) (m := 12) rfl rfl B rfl rfl⟩
end L01
namespace L01
open PySem PySem.Spec PyProof.Rows L2 Dl
theorem reps_ints {K : PySem.W.Frag} {G : CT} {F : Hp} : ∀ ns : List Int, Reps K G F (ns.map V.int) (ns.map D.int)
  | [] => .nil
  | n :: ns => .cons (.int n) (reps_ints ns)
theorem cx_false {P : Program} {w : World} {H : Hp} {s s' : Shared} {e : Value} (h : L2.CX P w [] H s (fun _ _ _ => False) e s') : False := by
  obtain ⟨_, _, _, _, _, _, _, _, _, _, _, _, z⟩ := h
  exact z
theorem sp_law {K : PySem.W.Frag} {H : Hp} {a : Addr} {ns : List Int} {E : XK} (hl : ns.length ≤ 63) (hbits : ∀ z ∈ ns, Builtin.Int.intBits z ≤ 1048576) (hS : SqL K H a (ns.map V.int)) : spD K (G K) 1 den_law [.ref a] H (fun v _ => v = .bl true) E := by
  refine ⟨H, [.imm (.rol (ns.map D.int))], rfl, ⟨Le.rfl, rfl, fun i o s h1 h2 => ?_, fun i j s t b h1 m1 _ _ _ _ => ?_⟩, ?_⟩
  · match i with
    | 0 => simp at h1 h2; subst h1 h2; exact ⟨_, rfl, .rol hS (reps_ints ns)⟩
    | i + 1 => simp at h1
  · match i with
    | 0 => simp at h1; subst h1; cases m1
    | i + 1 => simp at h1
  · obtain ⟨us, e⟩ := law_true ns hl hbits
    rw [e]
    intro v F' H' _ _ r _
    cases r
    rfl
theorem facts {P : Program} {w : World} {K : PySem.W.Frag} {h : Heap} {mg : Str → Option Value} {f : Addr} (X : K.In h) (Gm : h.Ns mainGlobals mg) (hfa : mg ("law" : Str) = some (.ref f)) (hx : xb K = true) (c : He.SaysD fa fn K) :
    ∃ fd : FuncData, (∀ (s : Shared) (v : Value), BindsTo s fd ⟨[v], []⟩ [("_law_script", v)]) ∧ ∀ base : Heap, K.In base → base.Ns mainGlobals mg → FnOk P w K mg base (L2.CX P w) 9 f fd ["_law_script"] (spD K (G K) 1 den_law) := by
  have Z := zs X Gm hx c
  have e := hfa.symm.trans (g_law Z)
  cases e
  obtain ⟨fd, F⟩ := c.def_ 34 (d := d_law) rfl
  have b := FunD.bindsA (ps := ["_law_script"]) F fun _ _ _ _ _ _ us hl => match us, hl with | [_], _ => rfl
  refine ⟨fd, fun s v => b s [v] rfl, fun base _ _ => ?_⟩
  exact (F_law (P := P) (w := w) (base := base) Z).at_ (funD_lookup F)
end L01
open PySem PySem.W PySem.Calls PyProof.Rows
theorem PySem.Challenge.cw_likespans_k01_whole_sums_of_ratios_holds : PySem.Challenge.rw_likespans_k01_whole_sums_of_ratios.Holds := by
  w_on; o_law
  refine HandSHeadRun.head_any (r := OpenLaw.row PySem.Challenge.rw_likespans_k01_whole_sums_of_ratios) (q := view (OpenLaw.row PySem.Challenge.rw_likespans_k01_whole_sums_of_ratios).prog [25]) (H := L01.hk) (ob := L01.ob) (M := 3000) (loose := L01.names) (d := HandSHeadRun.topDef (OpenLaw.row PySem.Challenge.rw_likespans_k01_whole_sums_of_ratios).prog 25) (kwd := []) L01.ob_eq
    (by kernel_rfl) (fun s => by kernel_rfl) L01.run (by kernel_rfl) (by kernel_rfl) (by kernel_rfl) (by rfl) (by first | assumption | decide +kernel) (by decide +kernel) ⟨rfl, rfl, rfl, rfl, rfl, by decide +kernel⟩ ?hw ?hc
  case hw => w_witness2
  case hc =>
    refine LamX.walk_ofTsE (l := PySem.Challenge.rw_likespans_k01_whole_sums_of_ratios) (n := 63) (k := 9) (x := "_law_script") (CX := fun v => L2.CX (PySem.Challenge.rw_likespans_k01_whole_sums_of_ratios).prog v) rfl (by decide) (by kernel_rfl) ⟨rfl, by decide, by decide⟩ ?F (fun _ _ _ _ _ z => L01.cx_false z)
    intro w mg fa h Y Gm hmg0
    obtain ⟨K, KX, hx, c⟩ := Y
    have hmg : mg ("law" : PySem.Str) = some (.ref fa) := by
      have e : (HandSHeadRun.topDef (OpenLaw.row PySem.Challenge.rw_likespans_k01_whole_sums_of_ratios).prog 25).name = ("law" : PySem.Str) := by kernel_rfl
      rw [← e]
      exact hmg0
    obtain ⟨fd, hb, hF⟩ := L01.facts (P := (PySem.Challenge.rw_likespans_k01_whole_sums_of_ratios).prog) (w := w) KX Gm hmg hx c
    exact ⟨K, KX, fd, [], _, fun p hp => (nomatch hp), fun p hp => (nomatch hp), fun p hp => (nomatch hp), hb, fun H a ns hl hbits _ hS => L01.sp_law hl hbits hS, fun base k1 k2 _ => hF base k1 k2⟩
