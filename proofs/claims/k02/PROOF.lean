import PyProof.Rows.All
import Wide.All
import OpenK.AllK
import Wide.FinOn
import HandS.ForMost
import HandS.Wide
import HandS.WideBits
import HandS.IsInst
import HandS.Style
import HandS.Flow
import HandS.Walk
import HandS.Exc
import HandS.ExcOwn
import HandS.CallSlots
import HandS.WordsExc
import HandS.TupAny
import HandS.Deep
import HandS.RaiseMore
import HandS.Zip
import HandS.Defaults
import HandS.HeadEnd
import PyProof.StrLawsRepr
import PyProof.FitsInt
import HandS.HeadHook1
import HandS.HeadHook2
import KE.KStateDown
import Lean
import HandS.Base
import HandS.Call
import HandS.Ends
import HandS.More
import HandS.Words
import HandS.Head0
import HandS.Head1
import HandS.Head2
import PySem.Challenge.RW_stoprows_k02_whole_numbers_with_roots
set_option Elab.async false
set_option linter.all false
set_option maxRecDepth 100000
set_option maxHeartbeats 0
/-! Ev, part 1: plain data for Python values, how it stands in the heap, what a step keeps, readings made of plain functions. -/
namespace Ev
open PySem L2

/-- plain data: tuples, lists and frozen instances are told whole; a list or an instance that may still change is a number in the store -/
inductive D where
  | non | bl (b : Bool) | int (i : Int) | str (x : Str)
  | tup (xs : List D) | lst (xs : List D) | rol (xs : List D)
  | ref (n : Nat)
  | glo (x : Str)
  | obj (c : Str) (ns : List Str) (xs : List D)
  deriving Inhabited

/-- the written part and what the module's names hold -/
structure GC where
  K : PySem.W.Frag
  mg : Str → Option Value

def KTup (K : PySem.W.Frag) (a : Addr) (xs : List V) : Prop := ∃ (o : Obj) (its : Array Value) (n : Nat), K.lookup a = some o ∧ o.cls = .type "tuple" ∧ o.data = .seq its n ∧ its.size ≤ sizeLine ∧ Vals xs its.toList
def KLst (K : PySem.W.Frag) (a : Addr) (xs : List V) : Prop := ∃ (o : Obj) (its : Array Value) (n : Nat), K.lookup a = some o ∧ o.cls = .type "list" ∧ o.dict = none ∧ o.data = .seq its n ∧ its.size ≤ sizeLine ∧ Vals xs its.toList
/-- a stands outside of what may change -/
def Out (B : Addr → Prop) (ρ : List Addr) (a : Addr) : Prop := a ∉ ρ ∧ ¬ B a
def TupA (G : GC) (B : Addr → Prop) (ρ : List Addr) (H : Hp) (a : Addr) (vs : List V) : Prop := (H a = some (.tup vs) ∧ Out B ρ a) ∨ KTup G.K a vs
def RolA (G : GC) (B : Addr → Prop) (ρ : List Addr) (H : Hp) (a : Addr) (vs : List V) : Prop := (Rd H a (.lst vs) ∧ Out B ρ a) ∨ KLst G.K a vs
def GloV (G : GC) (x : Str) (v : V) : Prop := ∃ u, (G.mg x = some u ∨ (G.mg x = none ∧ bootBuiltins x = some u)) ∧ RelV v u

mutual
def Rep (G : GC) (B : Addr → Prop) (ρ : List Addr) (H : Hp) : D → V → Prop
  | .non, v => v = .non
  | .bl b, v => v = .bl b
  | .int i, v => v = .int i
  | .str x, v => v = .str x
  | .tup ds, v => ∃ a vs, v = .ref a ∧ TupA G B ρ H a vs ∧ RepL G B ρ H ds vs
  | .lst ds, v => ∃ a vs, v = .ref a ∧ H a = some (.lst vs) ∧ Out B ρ a ∧ RepL G B ρ H ds vs
  | .rol ds, v => ∃ a vs, v = .ref a ∧ RolA G B ρ H a vs ∧ RepL G B ρ H ds vs
  | .ref n, v => ∃ a, v = .ref a ∧ ρ[n]? = some a
  | .glo x, v => GloV G x v
  | .obj c ns ds, v => ∃ a C dx fs, v = .ref a ∧ H a = some (.ins C dx fs) ∧ Out B ρ a ∧ G.mg c = some (.ref C) ∧ fs.map (·.1) = ns ∧ RepL G B ρ H ds (fs.map (·.2))
def RepL (G : GC) (B : Addr → Prop) (ρ : List Addr) (H : Hp) : List D → List V → Prop
  | [], vs => vs = []
  | d :: ds, vs => ∃ v r, vs = v :: r ∧ Rep G B ρ H d v ∧ RepL G B ρ H ds r
end

/-- what a step keeps: only what stands at ρ may change; what is new at ρ' was free -/
structure Ext (ρ : List Addr) (H : Hp) (ρ' : List Addr) (H' : Hp) : Prop where
  pre : ∀ (n : Nat) (a : Addr), ρ[n]? = some a → ρ'[n]? = some a
  keep : ∀ a o, H a = some o → a ∉ ρ → H' a = some o
  new : ∀ a, a ∈ ρ' → a ∉ ρ → H a = none
section
variable {G : GC} {B : Addr → Prop} {ρ ρ' ρ2 : List Addr} {H H' H2 : Hp}
theorem Ext.refl : Ext ρ H ρ H := ⟨fun _ _ h => h, fun _ _ h _ => h, fun _ h n => absurd h n⟩
theorem Ext.mem (e : Ext ρ H ρ' H') {a : Addr} (h : a ∈ ρ) : a ∈ ρ' := by
  obtain ⟨n, hn⟩ := List.mem_iff_getElem?.mp h
  exact List.mem_iff_getElem?.mpr ⟨n, e.pre n a hn⟩
theorem Ext.out (e : Ext ρ H ρ' H') {a : Addr} {o : HO} (h : H a = some o) (n : a ∉ ρ) : a ∉ ρ' := fun z => by
  have := e.new a z n
  rw [h] at this; cases this
theorem Ext.trans (e : Ext ρ H ρ' H') (f : Ext ρ' H' ρ2 H2) : Ext ρ H ρ2 H2 where
  pre := fun n a h => f.pre n a (e.pre n a h)
  keep := fun a o h n => f.keep a o (e.keep a o h n) (e.out h n)
  new := fun a h n => by
    by_cases h1 : a ∈ ρ'
    · exact e.new a h1 n
    · have := f.new a h h1
      cases q : H a with
      | none => rfl
      | some o => rw [e.keep a o q n] at this; cases this
/-- a new object outside of ρ -/
theorem Ext.laid {p : Addr} {o : HO} (h : H p = none) : Ext ρ H ρ (upd H p o) :=
  ⟨fun _ _ h => h, fun a u q _ => by rw [upd_ne (ne_of_none q h)]; exact q, fun _ h n => absurd h n⟩
/-- a new object at ρ's end -/
theorem Ext.push {p : Addr} {o : HO} (h : H p = none) : Ext ρ H (ρ ++ [p]) (upd H p o) :=
  ⟨fun n a e => by rw [List.getElem?_append_left (List.getElem?_eq_some_iff.mp e).1]; exact e, fun a u q _ => by rw [upd_ne (ne_of_none q h)]; exact q, fun a m n => by
    rcases List.mem_append.mp m with m | m
    · exact absurd m n
    · have : a = p := by simpa using m
      rw [this]; exact h⟩
theorem Ext.write {a : Addr} {o : HO} (h : a ∈ ρ) : Ext ρ H ρ (upd H a o) :=
  ⟨fun _ _ h => h, fun b u q n => by rw [upd_ne (fun z : b = a => n (z.symm ▸ h))]; exact q, fun _ h n => absurd h n⟩
theorem Ext.of_same (s : Same H H') : Ext ρ H ρ H' := ⟨fun _ _ h => h, fun a o h _ => s a o h, fun _ h n => absurd h n⟩
theorem Ext.same (e : Ext [] H ρ' H') : Same H H' := fun a o h => e.keep a o h (by simp)
theorem Out.mono (e : Ext ρ H ρ' H') {a : Addr} {o : HO} (h : H a = some o) (x : Out B ρ a) : Out B ρ' a := ⟨e.out h x.1, x.2⟩

section
variable {B' : Addr → Prop}
mutual
/-- what stands outside stays as it is: the data are there, too -/
theorem Rep.move (p : ∀ (n : Nat) (a : Addr), ρ[n]? = some a → ρ'[n]? = some a) (k : ∀ a o, Out B ρ a → H a = some o → H' a = some o ∧ Out B' ρ' a) : ∀ {d : D} {v : V}, Rep G B ρ H d v → Rep G B' ρ' H' d v
  | .non, _, h => by simpa only [Rep] using h
  | .bl _, _, h => by simpa only [Rep] using h
  | .int _, _, h => by simpa only [Rep] using h
  | .str _, _, h => by simpa only [Rep] using h
  | .tup ds, v, h => by
    simp only [Rep] at h ⊢
    obtain ⟨a, vs, ev, ha, hl⟩ := h
    refine ⟨a, vs, ev, ?_, RepL.move p k hl⟩
    rcases ha with ⟨h1, h2⟩ | h1
    · obtain ⟨z1, z2⟩ := k a _ h2 h1
      exact .inl ⟨z1, z2⟩
    · exact .inr h1
  | .lst ds, v, h => by
    simp only [Rep] at h ⊢
    obtain ⟨a, vs, ev, h1, h2, hl⟩ := h
    obtain ⟨z1, z2⟩ := k a _ h2 h1
    exact ⟨a, vs, ev, z1, z2, RepL.move p k hl⟩
  | .rol ds, v, h => by
    simp only [Rep] at h ⊢
    obtain ⟨a, vs, ev, ha, hl⟩ := h
    refine ⟨a, vs, ev, ?_, RepL.move p k hl⟩
    rcases ha with ⟨h1 | ⟨o, h1⟩, h2⟩ | h1
    · obtain ⟨z1, z2⟩ := k a _ h2 h1
      exact .inl ⟨.inl z1, z2⟩
    · obtain ⟨z1, z2⟩ := k a _ h2 h1
      exact .inl ⟨.inr ⟨o, z1⟩, z2⟩
    · exact .inr h1
  | .ref n, v, h => by
    simp only [Rep] at h ⊢
    obtain ⟨a, ev, h1⟩ := h
    exact ⟨a, ev, p n a h1⟩
  | .glo _, _, h => by simpa only [Rep] using h
  | .obj c ns ds, v, h => by
    simp only [Rep] at h ⊢
    obtain ⟨a, C, dx, fs, ev, h1, h2, h3, h4, hl⟩ := h
    obtain ⟨z1, z2⟩ := k a _ h2 h1
    exact ⟨a, C, dx, fs, ev, z1, z2, h3, h4, RepL.move p k hl⟩
theorem RepL.move (p : ∀ (n : Nat) (a : Addr), ρ[n]? = some a → ρ'[n]? = some a) (k : ∀ a o, Out B ρ a → H a = some o → H' a = some o ∧ Out B' ρ' a) : ∀ {ds : List D} {vs : List V}, RepL G B ρ H ds vs → RepL G B' ρ' H' ds vs
  | [], _, h => by simpa only [RepL] using h
  | d :: ds, vs, h => by
    simp only [RepL] at h ⊢
    obtain ⟨v, r, ev, h1, h2⟩ := h
    exact ⟨v, r, ev, Rep.move p k h1, RepL.move p k h2⟩
end
end
theorem Rep.mono (e : Ext ρ H ρ' H') {d : D} {v : V} (h : Rep G B ρ H d v) : Rep G B ρ' H' d v := h.move e.pre fun a o x q => ⟨e.keep a o q x.1, x.mono e q⟩
theorem RepL.mono (e : Ext ρ H ρ' H') {ds : List D} {vs : List V} (h : RepL G B ρ H ds vs) : RepL G B ρ' H' ds vs := h.move e.pre fun a o x q => ⟨e.keep a o q x.1, x.mono e q⟩
end

/-- what stands in the store -/
inductive Ob where
  | lst (xs : List D)
  | ins (c : Str) (ns : List Str) (xs : List D)
  deriving Inhabited
abbrev Sto := List Ob
abbrev En := List (Option D)
def ObA (G : GC) (B : Addr → Prop) (ρ : List Addr) (H : Hp) : Ob → Addr → Prop
  | .lst ds, a => ∃ vs, H a = some (.lst vs) ∧ RepL G B ρ H ds vs
  | .ins c ns ds, a => ∃ C dx fs, H a = some (.ins C dx fs) ∧ G.mg c = some (.ref C) ∧ fs.map (·.1) = ns ∧ RepL G B ρ H ds (fs.map (·.2))
structure SOk (G : GC) (B : Addr → Prop) (S : Sto) (ρ : List Addr) (H : Hp) : Prop where
  len : ρ.length = S.length
  nd : ρ.Nodup
  b : ∀ a, B a → ∃ o, H a = some o
  dis : ∀ a, a ∈ ρ → ¬ B a
  ob : ∀ (n : Nat) (o : Ob) (a : Addr), S[n]? = some o → ρ[n]? = some a → ObA G B ρ H o a
structure EnvOk (G : GC) (B : Addr → Prop) (ρ : List Addr) (H : Hp) (env : En) (σ : St) : Prop where
  len : env.length = σ.length
  at_ : ∀ (i : Nat) (d : D), env[i]? = some (some d) → ∃ v, σ[i]? = some (some v) ∧ Rep G B ρ H d v

section
variable {G : GC} {B : Addr → Prop} {ρ ρ' ρ2 : List Addr} {H H' H2 : Hp} {S S' : Sto} {env : En} {σ : St}
theorem ObA.there {o : Ob} {a : Addr} (h : ObA G B ρ H o a) : ∃ u, H a = some u := by
  cases o with
  | lst ds => obtain ⟨_, h, _⟩ := h; exact ⟨_, h⟩
  | ins c ns ds => obtain ⟨_, _, _, h, _⟩ := h; exact ⟨_, h⟩
theorem ObA.no_tup {o : Ob} {a : Addr} (h : ObA G B ρ H o a) : ∀ vs, H a ≠ some (.tup vs) := fun vs z => by
  cases o with
  | lst ds => obtain ⟨_, h, _⟩ := h; rw [z] at h; cases h
  | ins c ns ds => obtain ⟨_, _, _, h, _⟩ := h; rw [z] at h; cases h
theorem SOk.there (s : SOk G B S ρ H) {a : Addr} (h : a ∈ ρ) : ∃ o, H a = some o := by
  obtain ⟨n, hn⟩ := List.mem_iff_getElem?.mp h
  have hl : n < S.length := by rw [← s.len]; exact (List.getElem?_eq_some_iff.mp hn).1
  exact (s.ob n S[n] a (by simp [hl]) hn).there
theorem SOk.fresh (s : SOk G B S ρ H) {p : Addr} (h : H p = none) : Out B ρ p := by
  constructor
  · intro m
    obtain ⟨o, e⟩ := s.there m
    rw [h] at e; cases e
  · intro b
    obtain ⟨o, e⟩ := s.b p b
    rw [h] at e; cases e
theorem EnvOk.mono (x : EnvOk G B ρ H env σ) (e : Ext ρ H ρ' H') : EnvOk G B ρ' H' env σ :=
  ⟨x.len, fun i d h => let ⟨v, h1, h2⟩ := x.at_ i d h; ⟨v, h1, h2.mono e⟩⟩
theorem EnvOk.set (x : EnvOk G B ρ H env σ) {d : D} {v : V} (r : Rep G B ρ H d v) (i : Nat) : EnvOk G B ρ H (env.set i (some d)) (σ.set i (some v)) := by
  refine ⟨by rw [List.length_set, List.length_set]; exact x.len, fun j d' h => ?_⟩
  by_cases hj : i = j
  · subst hj
    have hi : i < env.length := by
      have := (List.getElem?_eq_some_iff.mp h).1
      rwa [List.length_set] at this
    rw [List.getElem?_set_self hi] at h
    obtain rfl : d = d' := by injection h with h; injection h
    exact ⟨v, List.getElem?_set_self (by rw [← x.len]; exact hi), r⟩
  · rw [List.getElem?_set_ne hj] at h
    obtain ⟨v', h1, h2⟩ := x.at_ j d' h
    exact ⟨v', by rw [List.getElem?_set_ne hj]; exact h1, h2⟩
theorem ObA.mono (e : Ext ρ H ρ' H') {o : Ob} {a : Addr} (h : ObA G B ρ H o a) (k : H' a = H a) : ObA G B ρ' H' o a := by
  cases o with
  | lst ds => obtain ⟨vs, h, r⟩ := h; exact ⟨vs, by rw [k]; exact h, r.mono e⟩
  | ins c ns ds => obtain ⟨C, dx, fs, h, g, f, r⟩ := h; exact ⟨C, dx, fs, by rw [k]; exact h, g, f, r.mono e⟩
/-- nothing that stood has changed -/
theorem SOk.same (s : SOk G B S ρ H) (k : Same H H') : SOk G B S ρ H' :=
  ⟨s.len, s.nd, fun a h => let ⟨o, e⟩ := s.b a h; ⟨o, k a o e⟩, s.dis, fun n o a h1 h2 => by
    have q := s.ob n o a h1 h2
    obtain ⟨u, hu⟩ := q.there
    exact q.mono (Ext.of_same k) (by rw [k a u hu, hu])⟩
theorem same_laid {p : Addr} {o : HO} (h : H p = none) : Same H (upd H p o) := fun a u q => by rw [upd_ne (ne_of_none q h)]; exact q
theorem SOk.laid (s : SOk G B S ρ H) {p : Addr} {o : HO} (h : H p = none) : SOk G B S ρ (upd H p o) := s.same (same_laid h)
/-- a new object of the store -/
theorem SOk.push (s : SOk G B S ρ H) {p : Addr} {o : HO} {ob : Ob} (h : H p = none) (new : ObA G B (ρ ++ [p]) (upd H p o) ob p) : SOk G B (S ++ [ob]) (ρ ++ [p]) (upd H p o) := by
  have hp := s.fresh h
  refine ⟨by rw [List.length_append, List.length_append, s.len]; rfl, ?_, fun a b => ?_, fun a m => ?_, fun n u a h1 h2 => ?_⟩
  · rw [List.nodup_append]
    exact ⟨s.nd, by simp, fun a ha b hb => by
      have : b = p := by simpa using hb
      subst this
      exact fun z => hp.1 (z ▸ ha)⟩
  · obtain ⟨u, e⟩ := s.b a b
    exact ⟨u, by rw [upd_ne (ne_of_none e h)]; exact e⟩
  · rcases List.mem_append.mp m with m | m
    · exact s.dis a m
    · have : a = p := by simpa using m
      rw [this]; exact hp.2
  · by_cases hn : n < S.length
    · rw [List.getElem?_append_left hn] at h1
      rw [List.getElem?_append_left (by rw [s.len]; exact hn)] at h2
      have q := s.ob n u a h1 h2
      obtain ⟨w, hw⟩ := q.there
      exact q.mono (Ext.push h) (upd_ne (ne_of_none hw h))
    · have h3 : n = S.length := by
        have := (List.getElem?_eq_some_iff.mp h1).1
        rw [List.length_append] at this
        have e1 : ([ob] : List Ob).length = 1 := rfl
        omega
      subst h3
      rw [List.getElem?_append_right (Nat.le_refl _)] at h1
      rw [List.getElem?_append_right (by rw [s.len]; exact Nat.le_refl _), s.len] at h2
      simp only [Nat.sub_self, List.getElem?_cons_zero, Option.some.injEq] at h1 h2
      subst h1 h2
      exact new
/-- an object of the store is written -/
theorem SOk.write (s : SOk G B S ρ H) {n : Nat} {a : Addr} {o : HO} {ob : Ob} (hn : ρ[n]? = some a) (new : ObA G B ρ (upd H a o) ob a) : SOk G B (S.set n ob) ρ (upd H a o) := by
  have hm : a ∈ ρ := List.mem_iff_getElem?.mpr ⟨n, hn⟩
  refine ⟨by rw [List.length_set]; exact s.len, s.nd, fun b hb => ?_, s.dis, fun j u b h1 h2 => ?_⟩
  · by_cases e : b = a
    · exact ⟨o, by rw [e, upd_same]⟩
    · obtain ⟨u, q⟩ := s.b b hb
      exact ⟨u, by rw [upd_ne e]; exact q⟩
  · by_cases hj : n = j
    · subst hj
      rw [hn] at h2; cases h2
      have hl : n < S.length := by rw [← s.len]; exact (List.getElem?_eq_some_iff.mp hn).1
      rw [List.getElem?_set_self hl] at h1
      cases h1
      exact new
    · rw [List.getElem?_set_ne hj] at h1
      have hne : b ≠ a := fun z => by
        subst z
        obtain ⟨l1, e1⟩ := List.getElem?_eq_some_iff.mp hn
        obtain ⟨l2, e2⟩ := List.getElem?_eq_some_iff.mp h2
        exact hj ((List.getElem_inj s.nd).mp (e1.trans e2.symm))
      exact (s.ob j u b h1 h2).mono (Ext.write hm) (upd_ne hne)
end

/-! ### plain functions -/
inductive Rs (α : Type) where
  | ok (a : α) (S : Sto)
  | exc (c : Str) (p : Option (List Str × List D)) (S : Sto)
  | err
abbrev M := En → Sto → Rs D
abbrev ML := En → Sto → Rs (List D)
abbrev MT := En → Sto → Rs Bool
inductive Fl where
  | nx (e : En) | rt (d : D) | bk (e : En) | ct (e : En) | xc (e : En) (c : Str) (p : Option (List Str × List D))
abbrev MS := En → Sto → Option (Fl × Sto)

def Rs.bind {α β : Type} (x : Rs α) (f : α → Sto → Rs β) : Rs β :=
  match x with
  | .ok a S => f a S
  | .exc c p S => .exc c p S
  | .err => .err
@[simp] theorem Rs.bind_ok {α β : Type} (a : α) (S : Sto) (f : α → Sto → Rs β) : (Rs.ok a S).bind f = f a S := rfl
@[simp] theorem Rs.bind_exc {α β : Type} (c : Str) (p : Option (List Str × List D)) (S : Sto) (f : α → Sto → Rs β) : (Rs.exc c p S : Rs α).bind f = .exc c p S := rfl
@[simp] theorem Rs.bind_err {α β : Type} (f : α → Sto → Rs β) : (Rs.err : Rs α).bind f = .err := rfl
def Rs.of {α : Type} (o : Option α) (S : Sto) : Rs α := match o with | some a => .ok a S | none => .err
@[simp] theorem Rs.of_some {α : Type} (a : α) (S : Sto) : Rs.of (some a) S = .ok a S := rfl
@[simp] theorem Rs.of_none {α : Type} (S : Sto) : Rs.of (none : Option α) S = .err := rfl

/-! ### readings made of plain functions -/
abbrev WX := Value → Option Addr → St → Hp → Prop
/-- an exception of the class named c with these fields stands ready -/
def ExcA (G : GC) (B : Addr → Prop) (ρ : List Addr) (H : Hp) (c : Str) (p : Option (List Str × List D)) (C : Addr) (d : Option Addr) : Prop :=
  G.mg c = some (.ref C) ∧ match p with
  | none => d = none
  | some (ns, ds) => ∃ dx fs, d = some dx ∧ H dx = some (.xd fs) ∧ fs.map (·.1) = ns ∧ RepL G B ρ H ds (fs.map (·.2))
/-- what must hold behind a plain function's result -/
def Post {α : Type} (G : GC) (B : Addr → Prop) (ρ : List Addr) (H : Hp) (r : Rs α) (k : α → Sto → List Addr → Hp → Prop) (x : Addr → Option Addr → Hp → Prop) : Prop :=
  match r with
  | .ok a S' => ∀ ρ' H', Ext ρ H ρ' H' → SOk G B S' ρ' H' → k a S' ρ' H'
  | .exc c p S' => ∀ ρ' H' C d, Ext ρ H ρ' H' → SOk G B S' ρ' H' → ExcA G B ρ' H' c p C d → x C d H'
  | .err => False
theorem Post.mono {α : Type} {G : GC} {B : Addr → Prop} {ρ : List Addr} {H : Hp} {r : Rs α} {k k' : α → Sto → List Addr → Hp → Prop} {x x' : Addr → Option Addr → Hp → Prop} (h : Post G B ρ H r k x)
    (hk : ∀ a S' ρ' H', Ext ρ H ρ' H' → SOk G B S' ρ' H' → k a S' ρ' H' → k' a S' ρ' H') (hx : ∀ C d H', x C d H' → x' C d H') : Post G B ρ H r k' x' := by
  cases r with
  | ok a S' => exact fun ρ' H' e s => hk a S' ρ' H' e s (h ρ' H' e s)
  | exc c p S' => exact fun ρ' H' C d e s q => hx C d H' (h ρ' H' C d e s q)
  | err => exact h
/-- one after another -/
theorem Post.bind {α β : Type} {G : GC} {B : Addr → Prop} {ρ : List Addr} {H : Hp} {r : Rs α} {f : α → Sto → Rs β} {k : β → Sto → List Addr → Hp → Prop} {x : Addr → Option Addr → Hp → Prop}
    (h : Post G B ρ H (r.bind f) k x) : Post G B ρ H r (fun a S' ρ' H' => Post G B ρ' H' (f a S') k x) x := by
  cases r with
  | ok a S' =>
    intro ρ' H' e s
    have h : Post G B ρ H (f a S') k x := h
    show Post G B ρ' H' (f a S') k x
    cases q : f a S' with
    | ok b S2 => rw [q] at h; exact fun ρ2 H2 e2 s2 => h ρ2 H2 (e.trans e2) s2
    | exc c p S2 => rw [q] at h; exact fun ρ2 H2 C d e2 s2 z => h ρ2 H2 C d (e.trans e2) s2 z
    | err => rw [q] at h; exact h
  | exc c p S' => exact h
  | err => exact h

section
variable (G : GC) (W : WX)
def tE (m : M) : TE := fun σ H Q => ∃ B env S ρ, EnvOk G B ρ H env σ ∧ SOk G B S ρ H ∧
  Post G B ρ H (m env S) (fun d _ ρ' H' => ∀ v, Rep G B ρ' H' d v → Q v H') fun C d H' => W (.ref C) d σ H'
def tA (m : ML) : TA := fun σ H Q => ∃ B env S ρ, EnvOk G B ρ H env σ ∧ SOk G B S ρ H ∧
  Post G B ρ H (m env S) (fun ds _ ρ' H' => ∀ vs, RepL G B ρ' H' ds vs → Q vs H') fun C d H' => W (.ref C) d σ H'
def tT (m : MT) : TT := fun σ H Q => ∃ B env S ρ, EnvOk G B ρ H env σ ∧ SOk G B S ρ H ∧
  Post G B ρ H (m env S) (fun b _ _ H' => Q b H') fun C d H' => W (.ref C) d σ H'
def PostS (B : Addr → Prop) (ρ : List Addr) (H : Hp) (r : Option (Fl × Sto)) (D : Ends) : Prop :=
  match r with
  | none => False
  | some (.nx e', S') => ∀ σ' ρ' H', Ext ρ H ρ' H' → SOk G B S' ρ' H' → EnvOk G B ρ' H' e' σ' → D.nx σ' H'
  | some (.bk e', S') => ∀ σ' ρ' H', Ext ρ H ρ' H' → SOk G B S' ρ' H' → EnvOk G B ρ' H' e' σ' → D.bk σ' H'
  | some (.ct e', S') => ∀ σ' ρ' H', Ext ρ H ρ' H' → SOk G B S' ρ' H' → EnvOk G B ρ' H' e' σ' → D.ct σ' H'
  | some (.rt d, S') => ∀ ρ' H' v, Ext ρ H ρ' H' → SOk G B S' ρ' H' → Rep G B ρ' H' d v → D.rt v H'
  | some (.xc e' c p, S') => ∀ σ' ρ' H' C d, Ext ρ H ρ' H' → SOk G B S' ρ' H' → EnvOk G B ρ' H' e' σ' → ExcA G B ρ' H' c p C d → W (.ref C) d σ' H'
def tS (m : MS) : TS := fun D σ H => ∃ B env S ρ, EnvOk G B ρ H env σ ∧ SOk G B S ρ H ∧ PostS G W B ρ H (m env S) D
end
theorem PostS.ext {G : GC} {W : WX} {B : Addr → Prop} {ρ ρ1 : List Addr} {H H1 : Hp} {r : Option (Fl × Sto)} {D : Ends} (h : PostS G W B ρ H r D) (e : Ext ρ H ρ1 H1) : PostS G W B ρ1 H1 r D := by
  cases r with
  | none => exact h
  | some r =>
    obtain ⟨f, S'⟩ := r
    cases f with
    | nx e' => exact fun σ' ρ' H' x => h σ' ρ' H' (e.trans x)
    | bk e' => exact fun σ' ρ' H' x => h σ' ρ' H' (e.trans x)
    | ct e' => exact fun σ' ρ' H' x => h σ' ρ' H' (e.trans x)
    | rt d => exact fun ρ' H' v x => h ρ' H' v (e.trans x)
    | xc e' c p => exact fun σ' ρ' H' C d x => h σ' ρ' H' C d (e.trans x)
/-- an expression, arguments, a test, a statement, a block are what the plain function says -/
abbrev SE (X : Cx) (W : WX) (x : Expr) (m : M) : Prop := PE X x (tE ⟨X.K, X.mg⟩ W m)
abbrev SA (X : Cx) (W : WX) (xs : List Expr) (m : ML) : Prop := PA X xs (tA ⟨X.K, X.mg⟩ W m)
abbrev ST (X : Cx) (W : WX) (x : Expr) (m : MT) : Prop := PT X x (tT ⟨X.K, X.mg⟩ W m)
abbrev SS (X : Cx) (W : WX) (st : Stmt) (m : MS) : Prop := PS X st (tS ⟨X.K, X.mg⟩ W m)
abbrev SSs (X : Cx) (W : WX) (st : List Stmt) (m : MS) : Prop := PSs X st (tS ⟨X.K, X.mg⟩ W m)

/-! ### weakening of readings -/
section
variable {X : Cx}
theorem PE.imp {x : Expr} {t u : TE} (h : PE X x t) (hi : ∀ σ H Q, u σ H Q → t σ H Q) : PE X x u := ⟨fun pins s σ H Q I q => h.run pins s σ H Q I (hi σ H Q q)⟩
theorem PT.imp {x : Expr} {t u : TT} (h : PT X x t) (hi : ∀ σ H Q, u σ H Q → t σ H Q) : PT X x u := ⟨fun pins s σ H Q I q => h.run pins s σ H Q I (hi σ H Q q)⟩
theorem PW.imp {x : Expr} {t u : TT} (h : PW X x t) (hi : ∀ σ H Q, u σ H Q → t σ H Q) : PW X x u := ⟨fun wh pins s σ H Q I q => h.run wh pins s σ H Q I (hi σ H Q q)⟩
theorem PA.imp {xs : List Expr} {t u : TA} (h : PA X xs t) (hi : ∀ σ H Q, u σ H Q → t σ H Q) : PA X xs u := ⟨fun pos pins s σ H Q I q => h.run pos pins s σ H Q I (hi σ H Q q)⟩
theorem PS.imp {x : Stmt} {t u : TS} (h : PS X x t) (hi : ∀ D σ H, u D σ H → t D σ H) : PS X x u := ⟨fun pins s σ H D I q => h.run pins s σ H D I (hi D σ H q)⟩
theorem PSs.imp {x : List Stmt} {t u : TS} (h : PSs X x t) (hi : ∀ D σ H, u D σ H → t D σ H) : PSs X x u := ⟨fun pins s σ H D I q => h.run pins s σ H D I (hi D σ H q)⟩
end
end Ev

/-! Ev, part 2: names, constants, operators, comparisons, displays, subscripts by plain functions. -/
namespace Ev
open PySem L2
section
variable {X : Cx} {W : WX}
abbrev Cx.G (X : Cx) : GC := ⟨X.K, X.mg⟩

/-! ### names, constants -/
def mVar (i : Nat) : M := fun env S => match env[i]? with | some (some d) => .ok d S | _ => .err
theorem se_var (i : Nat) {x : Str} {pos : Pos} (hN : X.N[i]? = some x := by rfl) (hv : Vis X.env.scope x := by first | exact Or.inl rfl | exact Or.inr (Or.inl rfl) | exact Or.inr (Or.inr rfl)) (hd : (x == ("__debug__" : Str)) = false := by decide)
    (hcd : (x == ("__classdict__" : Str)) = false := by decide) : SE X W (.Name x pos) (mVar i) := by
  refine PE.imp (pe_var hN hv hd hcd) fun σ H Q h => ?_
  obtain ⟨B, env, S, ρ, eo, so, P⟩ := h
  unfold mVar at P
  split at P
  · rename_i d he
    obtain ⟨v, h1, h2⟩ := eo.at_ i d he
    exact ⟨v, h1, P ρ H Ext.refl so v h2⟩
  · exact P.elim
def mC (d : D) : M := fun _ S => .ok d S
theorem tE_C {G : GC} {d : D} {v : V} (r : ∀ B ρ H, Rep G B ρ H d v) : ∀ σ H Q, tE G W (mC d) σ H Q → tC v σ H Q := fun σ H Q h => by
  obtain ⟨B, env, S, ρ, eo, so, P⟩ := h
  exact P ρ H Ext.refl so v (r B ρ H)
theorem se_int {i j pos} : SE X W (.Constant (.int i) j pos) (mC (.int i)) := PE.imp pe_int (tE_C fun _ _ _ => by simp only [Rep])
theorem se_bl {b j pos} : SE X W (.Constant (.bool b) j pos) (mC (.bl b)) := PE.imp pe_bl (tE_C fun _ _ _ => by simp only [Rep])
theorem se_non {j pos} : SE X W (.Constant .none j pos) (mC .non) := PE.imp pe_non (tE_C fun _ _ _ => by simp only [Rep])
theorem se_str {x j pos} : SE X W (.Constant (.str x) j pos) (mC (.str x)) := PE.imp pe_str (tE_C fun _ _ _ => by simp only [Rep])
/-- a module's constant whose data are known -/
structure KD (K : PySem.W.Frag) (mg : Str → Option Value) (x : Str) (d : D) : Prop where
  ex : ∃ u v, mg x = some u ∧ RelV v u ∧ ∀ B ρ H, Rep ⟨K, mg⟩ B ρ H d v
theorem se_glob {x : Str} {d : D} {pos : Pos} (k : KD X.K X.mg x d) (hg : Gl X x := by rfl) (hd : (x == ("__debug__" : Str)) = false := by decide) : SE X W (.Name x pos) (mC d) := by
  obtain ⟨u, v, hm, r, hr⟩ := k.ex
  exact PE.imp (pe_glob hg hm r hd) (tE_C hr)
/-- a class or a def of the module, as a value -/
theorem se_glo {x : Str} {u : Value} {v : V} {pos : Pos} (hm : X.mg x = some u) (r : RelV v u) (hg : Gl X x := by rfl) (hd : (x == ("__debug__" : Str)) = false := by decide) : SE X W (.Name x pos) (mC (.glo x)) :=
  PE.imp (pe_glob hg hm r hd) (tE_C fun _ _ _ => by simp only [Rep]; exact ⟨u, .inl hm, r⟩)
theorem se_blt {x : Str} {u : Value} {v : V} {pos : Pos} (hm : X.mg x = none) (hv : bootBuiltins x = some u) (r : RelV v u) (hg : Gl X x := by rfl) (hn : x ≠ "__name__" := by decide) (hd : (x == ("__debug__" : Str)) = false := by decide) : SE X W (.Name x pos) (mC (.glo x)) :=
  PE.imp (pe_bltn hg hm hv r hn hd) (tE_C fun _ _ _ => by simp only [Rep]; exact ⟨u, .inr ⟨hm, hv⟩, r⟩)

/-! ### two operands -/
/-- an operation on plain data, in the heap -/
def rOf (G : GC) (sem : Sto → D → D → Option D) : R2 := fun x y H Q => ∃ B S ρ dx dy, SOk G B S ρ H ∧ Rep G B ρ H dx x ∧ Rep G B ρ H dy y ∧ ∃ d, sem S dx dy = some d ∧
  ∀ ρ' H' v, Ext ρ H ρ' H' → SOk G B S ρ' H' → Rep G B ρ' H' d v → Q v H'
def mOp (sem : Sto → D → D → Option D) (a b : M) : M := fun env S => (a env S).bind fun x S1 => (b env S1).bind fun y S2 => Rs.of (sem S2 x y) S2
theorem tE_op {G : GC} {sem : Sto → D → D → Option D} {a b : M} : ∀ σ H Q, tE G W (mOp sem a b) σ H Q → tOp (rOf G sem) (tE G W a) (tE G W b) σ H Q := fun σ H Q h => by
  obtain ⟨B, env, S, ρ, eo, so, P⟩ := h
  refine ⟨B, env, S, ρ, eo, so, Post.mono P.bind (fun dx S1 ρ1 H1 e1 s1 P1 vx rx => ⟨B, env, S1, ρ1, eo.mono e1, s1, Post.mono P1.bind (fun dy S2 ρ2 H2 e2 s2 P2 vy ry => ?_) (fun _ _ _ z => z)⟩) (fun _ _ _ z => z)⟩
  cases q : sem S2 dx dy with
  | none => rw [q] at P2; exact P2.elim
  | some d =>
    rw [q] at P2
    exact ⟨B, S2, ρ2, dx, dy, s2, rx.mono e2, ry, d, q, fun ρ' H' v e s r => P2 ρ' H' e s v r⟩
/-- the operation f does what sem says -/
abbrev VOp (X : Cx) (f : Value → Value → Sem Value) (sem : Sto → D → D → Option D) : Prop := OpR X f (rOf ⟨X.K, X.mg⟩ sem)
theorem se_op {op : Operator} {sem : Sto → D → D → Option D} {a b : Expr} {ma mb : M} {pos : Pos} (ho : VOp X (binaryOp op) sem) (ha : SE X W a ma) (hb : SE X W b mb) : SE X W (.BinOp a op b pos) (mOp sem ma mb) :=
  PE.imp (pe_op ho ha hb) tE_op
/-- the items of a list -/
def lstOf (S : Sto) : D → Option (List D)
  | .lst ds => some ds
  | .rol ds => some ds
  | .ref n => match S[n]? with | some (.lst ds) => some ds | _ => none
  | _ => none
/-- .. of one that is no longer written, or ours -/
def lstM (S : Sto) : D → Option (List D)
  | .lst ds => some ds
  | .ref n => match S[n]? with | some (.lst ds) => some ds | _ => none
  | _ => none
section
variable {G : GC} {B : Addr → Prop} {ρ : List Addr} {H : Hp} {S : Sto} {d : D} {ds : List D} {v : V}
theorem ref_get (so : SOk G B S ρ H) {n : Nat} {o : Ob} {a : Addr} (h : S[n]? = some o) (r : ρ[n]? = some a) : ObA G B ρ H o a := so.ob n o a h r
theorem lstM_ok (so : SOk G B S ρ H) (r : Rep G B ρ H d v) (h : lstM S d = some ds) : ∃ a vs, v = .ref a ∧ H a = some (.lst vs) ∧ RepL G B ρ H ds vs := by
  unfold lstM at h
  split at h
  · cases h
    simp only [Rep] at r
    obtain ⟨a, vs, e, h1, _, h2⟩ := r
    exact ⟨a, vs, e, h1, h2⟩
  · split at h
    · rename_i q
      cases h
      simp only [Rep] at r
      obtain ⟨a, e, h1⟩ := r
      obtain ⟨vs, h2, h3⟩ := so.ob _ _ _ q h1
      exact ⟨a, vs, e, h2, h3⟩
    · cases h
  · cases h
theorem lstOf_ok {K : PySem.W.Frag} {mg : Str → Option Value} (so : SOk ⟨K, mg⟩ B S ρ H) (r : Rep ⟨K, mg⟩ B ρ H d v) (h : lstOf S d = some ds) : ∃ a vs, v = .ref a ∧ SqL K H a vs ∧ RepL ⟨K, mg⟩ B ρ H ds vs := by
  unfold lstOf at h
  split at h
  · cases h
    simp only [Rep] at r
    obtain ⟨a, vs, e, h1, _, h2⟩ := r
    exact ⟨a, vs, e, SqL.of h1, h2⟩
  · cases h
    simp only [Rep] at r
    obtain ⟨a, vs, e, h1 | h1, h2⟩ := r
    · exact ⟨a, vs, e, .inl h1.1, h2⟩
    · exact ⟨a, vs, e, .inr h1, h2⟩
  · split at h
    · rename_i q
      cases h
      simp only [Rep] at r
      obtain ⟨a, e, h1⟩ := r
      obtain ⟨vs, h2, h3⟩ := so.ob _ _ _ q h1
      exact ⟨a, vs, e, SqL.of h2, h3⟩
    · cases h
  · cases h
theorem tup_ok {K : PySem.W.Frag} {mg : Str → Option Value} (r : Rep ⟨K, mg⟩ B ρ H (.tup ds) v) : ∃ a vs, v = .ref a ∧ SqT K H a vs ∧ RepL ⟨K, mg⟩ B ρ H ds vs := by
  simp only [Rep] at r
  obtain ⟨a, vs, e, h1 | h1, h2⟩ := r
  · exact ⟨a, vs, e, SqT.of h1.1, h2⟩
  · exact ⟨a, vs, e, .inr h1, h2⟩
theorem RepL.length : ∀ {ds : List D} {vs : List V}, RepL G B ρ H ds vs → ds.length = vs.length
  | [], _, h => by simp only [RepL] at h; subst h; rfl
  | d :: ds, _, h => by
    simp only [RepL] at h
    obtain ⟨v, r, e, _, h2⟩ := h
    subst e
    simp [RepL.length h2]
theorem RepL.append : ∀ {ds es : List D} {vs ws : List V}, RepL G B ρ H ds vs → RepL G B ρ H es ws → RepL G B ρ H (ds ++ es) (vs ++ ws)
  | [], _, _, _, h, h' => by simp only [RepL] at h; subst h; exact h'
  | d :: ds, es, _, ws, h, h' => by
    simp only [RepL] at h
    obtain ⟨v, r, e, h1, h2⟩ := h
    subst e
    simp only [List.cons_append, RepL]
    exact ⟨v, r ++ ws, rfl, h1, RepL.append h2 h'⟩
theorem RepL.get : ∀ {ds : List D} {vs : List V} {i : Nat} {d : D}, RepL G B ρ H ds vs → ds[i]? = some d → ∃ v, vs[i]? = some v ∧ Rep G B ρ H d v
  | [], _, _, _, _, h => by simp at h
  | d :: ds, _, 0, d', h, e => by
    simp only [RepL] at h
    obtain ⟨v, r, e', h1, h2⟩ := h
    subst e'
    simp only [List.getElem?_cons_zero, Option.some.injEq] at e
    subst e
    exact ⟨v, rfl, h1⟩
  | d :: ds, _, i + 1, d', h, e => by
    simp only [RepL] at h
    obtain ⟨v, r, e', h1, h2⟩ := h
    subst e'
    simp only [List.getElem?_cons_succ] at e ⊢
    exact RepL.get h2 e
theorem RepL.set : ∀ {ds : List D} {vs : List V} {d : D} {v : V} (i : Nat), RepL G B ρ H ds vs → Rep G B ρ H d v → RepL G B ρ H (ds.set i d) (vs.set i v)
  | [], _, _, _, i, h, r => by simp only [RepL] at h; subst h; simp only [List.set_nil, RepL]
  | d :: ds, _, d', v', i, h, r => by
    simp only [RepL] at h
    obtain ⟨v, w, e', h1, h2⟩ := h
    subst e'
    cases i with
    | zero => simp only [List.set_cons_zero, RepL]; exact ⟨_, _, rfl, r, h2⟩
    | succ i => simp only [List.set_cons_succ, RepL]; exact ⟨_, _, rfl, h1, RepL.set i h2 r⟩
theorem RepL.take : ∀ {ds : List D} {vs : List V} (n : Nat), RepL G B ρ H ds vs → RepL G B ρ H (ds.take n) (vs.take n)
  | ds, vs, 0, h => by simp only [List.take_zero, RepL]
  | [], _, n + 1, h => by simp only [RepL] at h; subst h; simp only [List.take_nil, RepL]
  | d :: ds, _, n + 1, h => by
    simp only [RepL] at h
    obtain ⟨v, w, e', h1, h2⟩ := h
    subst e'
    simp only [List.take_succ_cons, RepL]
    exact ⟨_, _, rfl, h1, RepL.take n h2⟩
theorem RepL.drop : ∀ {ds : List D} {vs : List V} (n : Nat), RepL G B ρ H ds vs → RepL G B ρ H (ds.drop n) (vs.drop n)
  | ds, vs, 0, h => by simpa only [List.drop_zero] using h
  | [], _, n + 1, h => by simp only [RepL] at h; subst h; simp only [List.drop_nil, RepL]
  | d :: ds, _, n + 1, h => by
    simp only [RepL] at h
    obtain ⟨v, w, e', h1, h2⟩ := h
    subst e'
    simp only [List.drop_succ_cons]
    exact RepL.drop n h2
theorem RepL.rep {vs : List V} (h : RepL G B ρ H ds vs) : ∀ n : Nat, RepL G B ρ H (List.replicate n ds).flatten (List.replicate n vs).flatten
  | 0 => by simp only [List.replicate_zero, List.flatten_nil, RepL]
  | n + 1 => by
    simp only [List.replicate_succ, List.flatten_cons]
    exact RepL.append h (RepL.rep h n)
theorem RepL.nil_iff {vs : List V} (h : RepL G B ρ H ds vs) : ds = [] ↔ vs = [] := by
  have e := h.length
  constructor
  · intro z; subst z; exact List.length_eq_zero_iff.mp e.symm
  · intro z; subst z; exact List.length_eq_zero_iff.mp e
theorem rep_tup {a : Addr} {vs : List V} (h : H a = some (.tup vs)) (o : Out B ρ a) (r : RepL G B ρ H ds vs) : Rep G B ρ H (.tup ds) (.ref a) := by
  simp only [Rep]; exact ⟨a, vs, rfl, .inl ⟨h, o⟩, r⟩
theorem rep_lst {a : Addr} {vs : List V} (h : H a = some (.lst vs)) (o : Out B ρ a) (r : RepL G B ρ H ds vs) : Rep G B ρ H (.lst ds) (.ref a) := by
  simp only [Rep]; exact ⟨a, vs, rfl, h, o, r⟩
end
/-- a new list, a new tuple is what the store does not know of -/
theorem new_lst {G : GC} {B : Addr → Prop} {ρ : List Addr} {H : Hp} {S : Sto} {ds : List D} {vs : List V} (so : SOk G B S ρ H) (r : RepL G B ρ H ds vs) {p : Addr} (hp : H p = none) : Rep G B ρ (upd H p (.lst vs)) (.lst ds) (.ref p) :=
  rep_lst upd_same (so.fresh hp) (r.mono (Ext.laid hp))
theorem new_tup {G : GC} {B : Addr → Prop} {ρ : List Addr} {H : Hp} {S : Sto} {ds : List D} {vs : List V} (so : SOk G B S ρ H) (r : RepL G B ρ H ds vs) {p : Addr} (hp : H p = none) : Rep G B ρ (upd H p (.tup vs)) (.tup ds) (.ref p) :=
  rep_tup upd_same (so.fresh hp) (r.mono (Ext.laid hp))

/-! ### arithmetic -/
/-- lengths that are let -/
def room (n : Nat) : Bool := Nat.ble n 16000000
theorem room_le {n : Nat} (h : room n = true) : n ≤ sizeLine := by
  have := Nat.le_of_ble_eq_true h
  rw [sizeLine_eq]; omega
def sAdd (S : Sto) (x y : D) : Option D :=
  match x, y with
  | .int i, .int j => some (.int (i + j))
  | .str a, .str b => if room (a.length + b.length) then some (.str (a ++ b)) else none
  | .tup xs, .tup ys => if room (xs.length + ys.length) then some (.tup (xs ++ ys)) else none
  | x, y => match lstM S x, lstM S y with
    | some xs, some ys => if room (xs.length + ys.length) then some (.lst (xs ++ ys)) else none
    | _, _ => none
theorem op_sAdd : VOp X (binaryOp .Add) sAdd := by
  intro pins s σ H x y v u Q I rx ry h
  obtain ⟨B, S, ρ, dx, dy, so, hx, hy, d, he, k⟩ := h
  unfold sAdd at he
  split at he
  · cases he
    simp only [Rep] at hx hy
    subst hx hy
    exact op_add pins s σ H _ _ v u Q I rx ry ⟨_, _, rfl, rfl, k ρ H _ Ext.refl so (by simp only [Rep])⟩
  · split at he
    · rename_i hz
      cases he
      simp only [Rep] at hx hy
      subst hx hy
      exact op_add_str pins s σ H _ _ v u Q I rx ry ⟨_, _, rfl, rfl, room_le hz, k ρ H _ Ext.refl so (by simp only [Rep])⟩
    · cases he
  · rename_i xs ys
    split at he
    · rename_i hz
      cases he
      have hx0 := hx
      have hy0 := hy
      obtain ⟨a, vs, rfl, h1, h2⟩ := tup_ok hx
      obtain ⟨b, ws, rfl, h3, h4⟩ := tup_ok hy
      refine op_catA pins s σ H _ _ v u Q I rx ry ⟨a, b, vs, ws, rfl, rfl, h1, h3, by rw [← h2.length, ← h4.length]; exact room_le hz, fun e => ?_, fun e1 e2 => ?_, fun e1 e2 p hp => ?_⟩
      · have e' := h2.nil_iff.mpr e
        subst e'
        exact k ρ H _ Ext.refl so hy0
      · have e' := h4.nil_iff.mpr e2
        subst e'
        exact k ρ H _ Ext.refl so (by rw [List.append_nil]; exact hx0)
      · exact k ρ _ _ (Ext.laid hp) (so.laid hp) (new_tup so (h2.append h4) hp)
    · cases he
  · split at he
    · rename_i xs ys e1 e2
      split at he
      · rename_i hz
        cases he
        obtain ⟨a, vs, rfl, h1, h2⟩ := lstM_ok so hx e1
        obtain ⟨b, ws, rfl, h3, h4⟩ := lstM_ok so hy e2
        refine op_cat pins s σ H _ _ v u Q I rx ry ⟨a, b, vs, ws, rfl, rfl, h1, h3, by rw [← h2.length, ← h4.length]; exact room_le hz, fun p hp => ?_⟩
        exact k ρ _ _ (Ext.laid hp) (so.laid hp) (new_lst so (h2.append h4) hp)
      · cases he
    · cases he
/-- two ints, under a condition -/
def sI (c : Int → Int → Bool) (g : Int → Int → D) (_ : Sto) (x y : D) : Option D := match x, y with | .int i, .int j => if c i j then some (g i j) else none | _, _ => none
theorem op_sI {f : Value → Value → Sem Value} {c : Int → Int → Bool} {C : Int → Int → Prop} {g : Int → Int → Int} (h : OpR X f (rI C fun i j => .int (g i j))) (hc : ∀ i j, c i j = true → C i j) : VOp X f (sI c fun i j => .int (g i j)) := by
  intro pins s σ H x y v u Q I rx ry ⟨B, S, ρ, dx, dy, so, hx, hy, d, he, k⟩
  unfold sI at he
  split at he
  · split at he
    · rename_i hz
      cases he
      simp only [Rep] at hx hy
      subst hx hy
      exact h pins s σ H _ _ v u Q I rx ry ⟨_, _, rfl, rfl, hc _ _ hz, k ρ H _ Ext.refl so (by simp only [Rep])⟩
    · cases he
  · cases he
def yes2 (_ _ : Int) : Bool := true
abbrev sSub := sI yes2 fun i j => .int (i - j)
theorem op_sSub : VOp X (binaryOp .Sub) sSub := op_sI (C := fun _ _ => True) (opI fun _ _ _ _ _ _ _ _ q => PyProof.Rows.sub_int q) fun _ _ _ => trivial
def cMul (i j : Int) : Bool := Nat.blt i.natAbs 18446744073709551616 || Nat.blt j.natAbs 18446744073709551616 || Nat.blt (i.natAbs.log2 + j.natAbs.log2) 1000000
theorem cMul_ok {i j : Int} (h : cMul i j = true) : IntMulOk i j := by
  unfold cMul at h
  simp only [Bool.or_eq_true] at h
  rcases h with (h | h) | h
  · have := Nat.le_of_ble_eq_true h
    exact CMul.ok (.inl (by omega))
  · have := Nat.le_of_ble_eq_true h
    exact CMul.ok (.inr (by omega))
  · have := Nat.le_of_ble_eq_true h
    exact CMulW.ok (by unfold CMulW; omega)
def sMul (S : Sto) (x y : D) : Option D :=
  match x, y with
  | .int i, .int j => if cMul i j then some (.int (i * j)) else none
  | x, .int k => match lstM S x with
    | some xs => if Nat.ble k.natAbs 1000000 && room (xs.length * k.toNat) then some (.lst (List.replicate k.toNat xs).flatten) else none
    | none => none
  | _, _ => none
theorem op_sMul : VOp X (binaryOp .Mult) sMul := by
  intro pins s σ H x y v u Q I rx ry ⟨B, S, ρ, dx, dy, so, hx, hy, d, he, k⟩
  unfold sMul at he
  split at he
  · split at he
    · rename_i hz
      cases he
      simp only [Rep] at hx hy
      subst hx hy
      exact (opI (C := fun i j => IntMulOk i j) fun _ _ _ _ _ _ _ hc q => PyProof.Rows.mul_int q hc) pins s σ H _ _ v u Q I rx ry ⟨_, _, rfl, rfl, cMul_ok hz, k ρ H _ Ext.refl so (by simp only [Rep])⟩
    · cases he
  · rename_i k' _
    split at he
    · rename_i xs e1
      split at he
      · rename_i hz
        cases he
        simp only [Bool.and_eq_true] at hz
        have hb := Nat.le_of_ble_eq_true hz.1
        obtain ⟨a, vs, rfl, h1, h2⟩ := lstM_ok so hx e1
        simp only [Rep] at hy
        subst hy
        refine op_rep pins s σ H _ _ v u Q I rx ry ⟨a, k', vs, rfl, rfl, h1, by omega, by omega, by rw [← h2.length]; exact room_le hz.2, fun p hp => ?_⟩
        exact k ρ _ _ (Ext.laid hp) (so.laid hp) (new_lst so (RepL.rep h2 _) hp)
      · cases he
    · cases he
  · cases he
def cDivG (_ j : Int) : Bool := !(Nat.beq j.natAbs 0) && Nat.blt j.natAbs.log2 9000
abbrev sFdiv := sI cDivG fun i j => .int (i.fdiv j)
theorem cDivG_ok {i j : Int} (h : cDivG i j = true) : j ≠ 0 ∧ j.natAbs.log2 < 9000 := by
  unfold cDivG at h
  simp only [Bool.and_eq_true, Bool.not_eq_true'] at h
  refine ⟨fun z => ?_, Nat.le_of_ble_eq_true h.2⟩
  subst z
  exact absurd h.1 (by decide)
theorem op_sFdiv : VOp X (binaryOp .FloorDiv) sFdiv := op_sI (C := fun _ j => j ≠ 0 ∧ j.natAbs.log2 < 9000) (opI fun i j _ _ _ _ _ hc q => PyProof.Rows.floordiv_int hc.1 q (.inl (PyProof.noPylong_of_log2 hc.2))) fun _ _ h => cDivG_ok h
def cNz (_ j : Int) : Bool := !(Nat.beq j.natAbs 0)
abbrev sMod := sI cNz fun i j => .int (i.fmod j)
theorem cNz_ok {i j : Int} (h : cNz i j = true) : j ≠ 0 := fun z => by
  subst z
  have : (false : Bool) = true := h
  cases this
theorem op_sMod : VOp X (binaryOp .Mod) sMod := op_sI op_modN fun _ _ h => cNz_ok h
def cPow (i j : Int) : Bool := decide (0 ≤ j) && Nat.ble j.natAbs 1000 && Nat.blt i.natAbs 18446744073709551616
abbrev sPow := sI cPow fun i j => .int (i ^ j.toNat)
theorem op_sPow : VOp X (binaryOp .Pow) sPow := op_sI op_pow fun i j h => by
  unfold cPow at h
  simp only [Bool.and_eq_true, decide_eq_true_eq] at h
  have h1 := Nat.le_of_ble_eq_true h.1.2
  have h2 := Nat.le_of_ble_eq_true h.2
  exact ⟨h.1.1, by omega, by omega⟩

def sUn (sem : Sto → D → Option D) (a : M) : M := fun env S => (a env S).bind fun x S1 => Rs.of (sem S1 x) S1
def rOf1 (G : GC) (sem : Sto → D → Option D) : V → Hp → VK → Prop := fun x H Q => ∃ B S ρ dx, SOk G B S ρ H ∧ Rep G B ρ H dx x ∧ ∃ d, sem S dx = some d ∧
  ∀ ρ' H' v, Ext ρ H ρ' H' → SOk G B S ρ' H' → Rep G B ρ' H' d v → Q v H'
theorem tE_un {G : GC} {sem : Sto → D → Option D} {a : M} : ∀ σ H Q, tE G W (sUn sem a) σ H Q → tUn (rOf1 G sem) (tE G W a) σ H Q := fun σ H Q h => by
  obtain ⟨B, env, S, ρ, eo, so, P⟩ := h
  refine ⟨B, env, S, ρ, eo, so, Post.mono P.bind (fun dx S1 ρ1 H1 e1 s1 P1 vx rx => ?_) (fun _ _ _ z => z)⟩
  cases q : sem S1 dx with
  | none => rw [q] at P1; exact P1.elim
  | some d =>
    rw [q] at P1
    exact ⟨B, S1, ρ1, dx, s1, rx, d, q, fun ρ' H' v e s r => P1 ρ' H' e s v r⟩
def sNeg (_ : Sto) : D → Option D | .int i => some (.int (-i)) | _ => none
theorem un_sNeg : UnR X (unaryOp .USub) (rOf1 ⟨X.K, X.mg⟩ sNeg) := by
  intro pins s σ H x v Q I rx ⟨B, S, ρ, dx, so, hx, d, he, k⟩
  unfold sNeg at he
  split at he
  · cases he
    simp only [Rep] at hx
    subst hx
    exact un_neg pins s σ H _ v Q I rx ⟨_, rfl, k ρ H _ Ext.refl so (by simp only [Rep])⟩
  · cases he
theorem se_neg {a : Expr} {ma : M} {pos : Pos} (ha : SE X W a ma) : SE X W (.UnaryOp .USub a pos) (sUn sNeg ma) := PE.imp (pe_un un_sNeg ha) tE_un

/-! ### comparisons -/
/-! data that == and repr see whole -/
mutual
def pyOf (S : Sto) : D → Option PyData
  | .non => some .none
  | .bl b => some (.bool b)
  | .int i => some (.int i)
  | .str x => some (.str x)
  | .tup ds => (pyAll S ds).map .tuple
  | .lst ds => (pyAll S ds).map .list
  | .rol ds => (pyAll S ds).map .list
  | _ => none
def pyAll (S : Sto) : List D → Option (List PyData)
  | [] => some []
  | d :: ds => match pyOf S d, pyAll S ds with
    | some p, some q => some (p :: q)
    | _, _ => none
end
/-- .. a list of ours, too -/
def pyTop (S : Sto) : D → Option PyData
  | .ref n => match S[n]? with | some (.lst ds) => (pyAll S ds).map .list | _ => none
  | d => pyOf S d
section
variable {K : PySem.W.Frag} {mg : Str → Option Value} {B : Addr → Prop} {ρ : List Addr} {H : Hp} {S : Sto}
mutual
theorem dp_of (so : SOk ⟨K, mg⟩ B S ρ H) : ∀ {d : D} {v : V} {p : PyData}, Rep ⟨K, mg⟩ B ρ H d v → pyOf S d = some p → Dp K H v p
  | .non, _, _, r, h => by simp only [Rep] at r; subst r; cases h; exact .non
  | .bl b, _, _, r, h => by simp only [Rep] at r; subst r; cases h; exact .bl b
  | .int i, _, _, r, h => by simp only [Rep] at r; subst r; cases h; exact .int i
  | .str x, _, _, r, h => by simp only [Rep] at r; subst r; cases h; exact .str x
  | .tup ds, _, _, r, h => by
    simp only [pyOf, Option.map_eq_some_iff] at h
    obtain ⟨q, h, rfl⟩ := h
    obtain ⟨a, vs, rfl, h1, h2⟩ := tup_ok r
    exact .tup h1 (dpAll_of so h2 h)
  | .lst ds, v, _, r, h => by
    simp only [pyOf, Option.map_eq_some_iff] at h
    obtain ⟨q, h, rfl⟩ := h
    obtain ⟨a, vs, rfl, h1, h2⟩ := lstOf_ok (S := S) so (d := .lst ds) r rfl
    exact .lst h1 (dpAll_of so h2 h)
  | .rol ds, v, _, r, h => by
    simp only [pyOf, Option.map_eq_some_iff] at h
    obtain ⟨q, h, rfl⟩ := h
    obtain ⟨a, vs, rfl, h1, h2⟩ := lstOf_ok (S := S) so (d := .rol ds) r rfl
    exact .lst h1 (dpAll_of so h2 h)
  | .ref n, _, _, r, h => by simp [pyOf] at h
  | .glo x, _, _, r, h => by simp [pyOf] at h
  | .obj c ns ds, _, _, r, h => by simp [pyOf] at h
theorem dpAll_of (so : SOk ⟨K, mg⟩ B S ρ H) : ∀ {ds : List D} {vs : List V} {ps : List PyData}, RepL ⟨K, mg⟩ B ρ H ds vs → pyAll S ds = some ps → DpAll K H vs ps
  | [], _, _, r, h => by simp only [RepL] at r; subst r; cases h; exact .nil
  | d :: ds, _, _, r, h => by
    simp only [RepL] at r
    obtain ⟨v, w, rfl, h1, h2⟩ := r
    simp only [pyAll] at h
    split at h
    · rename_i p q e1 e2
      cases h
      exact .cons (dp_of so h1 e1) (dpAll_of so h2 e2)
    · cases h
end
theorem dp_top (so : SOk ⟨K, mg⟩ B S ρ H) {d : D} {v : V} {p : PyData} (r : Rep ⟨K, mg⟩ B ρ H d v) (h : pyTop S d = some p) : Dp K H v p := by
  unfold pyTop at h
  split at h
  · rename_i n
    split at h
    · rename_i ds e
      simp only [Option.map_eq_some_iff] at h
      obtain ⟨q, h, rfl⟩ := h
      obtain ⟨a, vs, rfl, h1, h2⟩ := lstOf_ok (S := S) (ds := ds) so (d := .ref n) r (by simp only [lstOf, e])
      exact .lst h1 (dpAll_of so h2 h)
    · cases h
  · exact dp_of so r h
end
/-- equality of plain data, as Python's -/
def sEqD (S : Sto) (x y : D) : Option Bool := match pyTop S x, pyTop S y with
  | some p, some q => if SeqAt.shaped p && SeqAt.shaped q then some (PyData.eqv p q) else none
  | _, _ => none
def sEqB (S : Sto) (x y : D) : Option Bool := match x, y with
  | .int i, .int j => some (decide (i = j))
  | .str a, .str b => some (decide (a = b))
  | _, _ => sEqD S x y
def sEq (S : Sto) (x y : D) : Option D := (sEqB S x y).map .bl
def sNe (S : Sto) (x y : D) : Option D := (sEqB S x y).map fun b => .bl !b
theorem sEqD_ok {S : Sto} {x y : D} {b : Bool} (h : sEqD S x y = some b) : ∃ p q, pyTop S x = some p ∧ pyTop S y = some q ∧ SeqAt.shaped p = true ∧ SeqAt.shaped q = true ∧ b = PyData.eqv p q := by
  unfold sEqD at h
  split at h
  · rename_i p q e1 e2
    split at h
    · rename_i hz
      cases h
      simp only [Bool.and_eq_true] at hz
      exact ⟨p, q, e1, e2, hz.1, hz.2, rfl⟩
    · cases h
  · cases h
theorem op_sEq (hu : X.A.units + 64 < cLine) : VOp X (compareOp .Eq) sEq := by
  intro pins s σ H x y v u Q I rx ry ⟨B, S, ρ, dx, dy, so, hx, hy, d, he, k⟩
  unfold sEq at he
  simp only [Option.map_eq_some_iff] at he
  obtain ⟨b, he, rfl⟩ := he
  unfold sEqB at he
  split at he
  · cases he
    simp only [Rep] at hx hy
    subst hx hy
    exact op_eq pins s σ H _ _ v u Q I rx ry ⟨rfl, by simpa using k ρ H _ Ext.refl so (by simp only [Rep])⟩
  · cases he
    simp only [Rep] at hx hy
    subst hx hy
    exact op_eq pins s σ H _ _ v u Q I rx ry ⟨rfl, by simpa using k ρ H _ Ext.refl so (by simp only [Rep])⟩
  · obtain ⟨p, q, e1, e2, h1, h2, rfl⟩ := sEqD_ok he
    exact op_eqD hu pins s σ H _ _ v u Q I rx ry ⟨p, q, dp_top so hx e1, dp_top so hy e2, h1, h2, k ρ H _ Ext.refl so (by simp only [Rep])⟩
theorem op_sNe (hu : X.A.units + 64 < cLine) : VOp X (compareOp .NotEq) sNe := by
  intro pins s σ H x y v u Q I rx ry ⟨B, S, ρ, dx, dy, so, hx, hy, d, he, k⟩
  unfold sNe at he
  simp only [Option.map_eq_some_iff] at he
  obtain ⟨b, he, rfl⟩ := he
  unfold sEqB at he
  split at he
  · cases he
    simp only [Rep] at hx hy
    subst hx hy
    exact op_ne pins s σ H _ _ v u Q I rx ry ⟨rfl, by simpa using k ρ H _ Ext.refl so (by simp only [Rep])⟩
  · cases he
    simp only [Rep] at hx hy
    subst hx hy
    exact op_ne pins s σ H _ _ v u Q I rx ry ⟨rfl, by simpa using k ρ H _ Ext.refl so (by simp only [Rep])⟩
  · obtain ⟨p, q, e1, e2, h1, h2, rfl⟩ := sEqD_ok he
    exact op_neD hu pins s σ H _ _ v u Q I rx ry ⟨p, q, dp_top so hx e1, dp_top so hy e2, h1, h2, k ρ H _ Ext.refl so (by simp only [Rep])⟩
/-- order of ints, of texts -/
def sLt (_ : Sto) (x y : D) : Option D := match x, y with
  | .int i, .int j => some (.bl (decide (i < j)))
  | .str a, .str b => some (.bl (decide (a.cps.toList < b.cps.toList)))
  | _, _ => none
def sGt (S : Sto) (x y : D) : Option D := sLt S y x
def sLe (_ : Sto) (x y : D) : Option D := match x, y with
  | .int i, .int j => some (.bl (decide (i ≤ j)))
  | .str a, .str b => some (.bl (!decide (b.cps.toList < a.cps.toList)))
  | _, _ => none
def sGe (S : Sto) (x y : D) : Option D := sLe S y x
theorem op_sLt : VOp X (compareOp .Lt) sLt := by
  intro pins s σ H x y v u Q I rx ry ⟨B, S, ρ, dx, dy, so, hx, hy, d, he, k⟩
  unfold sLt at he
  split at he
  · cases he
    simp only [Rep] at hx hy
    subst hx hy
    exact op_lt pins s σ H _ _ v u Q I rx ry ⟨_, _, rfl, rfl, k ρ H _ Ext.refl so (by simp only [Rep])⟩
  · cases he
    simp only [Rep] at hx hy
    subst hx hy
    exact op_lt_str pins s σ H _ _ v u Q I rx ry ⟨_, _, rfl, rfl, k ρ H _ Ext.refl so (by simp only [Rep])⟩
  · cases he
theorem op_sGt : VOp X (compareOp .Gt) sGt := by
  intro pins s σ H x y v u Q I rx ry ⟨B, S, ρ, dx, dy, so, hx, hy, d, he, k⟩
  unfold sGt sLt at he
  split at he
  · cases he
    simp only [Rep] at hx hy
    subst hx hy
    exact op_gt pins s σ H _ _ v u Q I rx ry ⟨_, _, rfl, rfl, k ρ H _ Ext.refl so (by simp only [Rep])⟩
  · cases he
    simp only [Rep] at hx hy
    subst hx hy
    exact op_gt_str pins s σ H _ _ v u Q I rx ry ⟨_, _, rfl, rfl, k ρ H _ Ext.refl so (by simp only [Rep])⟩
  · cases he
theorem op_sLe : VOp X (compareOp .LtE) sLe := by
  intro pins s σ H x y v u Q I rx ry ⟨B, S, ρ, dx, dy, so, hx, hy, d, he, k⟩
  unfold sLe at he
  split at he
  · cases he
    simp only [Rep] at hx hy
    subst hx hy
    exact op_le pins s σ H _ _ v u Q I rx ry ⟨_, _, rfl, rfl, k ρ H _ Ext.refl so (by simp only [Rep])⟩
  · cases he
    simp only [Rep] at hx hy
    subst hx hy
    exact op_le_str pins s σ H _ _ v u Q I rx ry ⟨_, _, rfl, rfl, k ρ H _ Ext.refl so (by simp only [Rep])⟩
  · cases he
theorem op_sGe : VOp X (compareOp .GtE) sGe := by
  intro pins s σ H x y v u Q I rx ry ⟨B, S, ρ, dx, dy, so, hx, hy, d, he, k⟩
  unfold sGe sLe at he
  split at he
  · cases he
    simp only [Rep] at hx hy
    subst hx hy
    exact op_ge pins s σ H _ _ v u Q I rx ry ⟨_, _, rfl, rfl, k ρ H _ Ext.refl so (by simp only [Rep])⟩
  · cases he
    simp only [Rep] at hx hy
    subst hx hy
    exact op_ge_str pins s σ H _ _ v u Q I rx ry ⟨_, _, rfl, rfl, k ρ H _ Ext.refl so (by simp only [Rep])⟩
  · cases he
/-- is, is not: None or a truth value on the right -/
def sIs (_ : Sto) (x y : D) : Option D := match x, y with
  | .bl a, .bl b => some (.bl (a == b))
  | .non, .non => some (.bl true)
  | .bl _, .non => some (.bl false) | .int _, .non => some (.bl false) | .str _, .non => some (.bl false) | .tup _, .non => some (.bl false) | .lst _, .non => some (.bl false) | .obj _ _ _, .non => some (.bl false) | .ref _, .non => some (.bl false)
  | _, _ => none
def sIsNot (S : Sto) (x y : D) : Option D := match sIs S x y with | some (.bl b) => some (.bl !b) | _ => none
theorem rep_nn {G : GC} {B : Addr → Prop} {ρ : List Addr} {H : Hp} {d : D} {v : V} (r : Rep G B ρ H d v) (h : sIs [] d .non = some (.bl false)) : v ≠ .non := by
  unfold sIs at h
  split at h <;> (try cases h) <;> simp only [Rep] at r
  · rename_i q; cases q
  · subst r; exact nofun
  · subst r; exact nofun
  · subst r; exact nofun
  · obtain ⟨_, _, e, _⟩ := r; subst e; exact nofun
  · obtain ⟨_, _, e, _⟩ := r; subst e; exact nofun
  · obtain ⟨_, _, _, _, e, _⟩ := r; subst e; exact nofun
  · obtain ⟨_, e, _⟩ := r; subst e; exact nofun
theorem op_sIs : VOp X (compareOp .Is) sIs := by
  intro pins s σ H x y v u Q I rx ry ⟨B, S, ρ, dx, dy, so, hx, hy, d, he, k⟩
  have hN : ∀ b, dy = .non → sIs S dx .non = some (.bl b) → decide (x = .non) = b := fun b e q => by
    cases b with
    | false => exact decide_eq_false (rep_nn hx (by unfold sIs at q ⊢; exact q))
    | true =>
      unfold sIs at q
      split at q <;> (try cases q)
      · rename_i z; cases z
      · simp only [Rep] at hx; subst hx; rfl
  by_cases hd : dy = .non
  · subst hd
    have : ∃ b, d = .bl b := by
      unfold sIs at he
      split at he <;> cases he <;> exact ⟨_, rfl⟩
    obtain ⟨b, rfl⟩ := this
    have e := hN b rfl he
    simp only [Rep] at hy
    subst hy
    exact op_isN pins s σ H _ _ v u Q I rx ry ⟨rfl, by rw [e]; exact k ρ H _ Ext.refl so (by simp only [Rep])⟩
  · unfold sIs at he
    split at he <;> (try exact absurd rfl hd) <;> cases he
    simp only [Rep] at hx hy
    subst hx hy
    rename_i a b
    exact op_isBl pins s σ H _ _ v u Q I rx ry ⟨a, b, rfl, rfl, by
      have : decide (a = b) = (a == b) := by cases a <;> cases b <;> rfl
      rw [this]
      exact k ρ H _ Ext.refl so (by simp only [Rep])⟩
theorem op_sIsNot : VOp X (compareOp .IsNot) sIsNot := by
  intro pins s σ H x y v u Q I rx ry ⟨B, S, ρ, dx, dy, so, hx, hy, d, he, k⟩
  unfold sIsNot at he
  split at he
  · rename_i b he'
    cases he
    have hN : dy = .non → decide (x = .non) = b := fun e => by
      subst e
      cases b with
      | false => exact decide_eq_false (rep_nn hx (by unfold sIs at he' ⊢; exact he'))
      | true =>
        unfold sIs at he'
        split at he' <;> (try cases he')
        · rename_i z; cases z
        · simp only [Rep] at hx; subst hx; rfl
    by_cases hd : dy = .non
    · have e := hN hd
      subst hd
      simp only [Rep] at hy
      subst hy
      exact op_notN pins s σ H _ _ v u Q I rx ry ⟨rfl, by rw [e]; exact k ρ H _ Ext.refl so (by simp only [Rep])⟩
    · unfold sIs at he'
      split at he' <;> (try exact absurd rfl hd) <;> cases he'
      simp only [Rep] at hx hy
      subst hx hy
      rename_i a b
      exact op_notBl pins s σ H _ _ v u Q I rx ry ⟨a, b, rfl, rfl, by
        have : decide (a = b) = (a == b) := by cases a <;> cases b <;> rfl
        rw [this]
        exact k ρ H _ Ext.refl so (by simp only [Rep])⟩
  · cases he
end
end Ev

/-! Ev, part 3: tests, displays, subscripts, built-ins, what loops walk, list comprehensions. -/
namespace Ev
open PySem L2
section
variable {X : Cx} {W : WX}

/-! ### tests -/
/-- a value that is a truth value -/
def mBs (m : M) : MT := fun env S => (m env S).bind fun d S1 => match d with | .bl b => .ok b S1 | _ => .err
theorem tE_bs {G : GC} {m : M} {σ : L2.St} {H : Hp} {Q : Bool → Hp → Prop} (h : tT G W (mBs m) σ H Q) : tE G W m σ H fun x H' => ∃ k, x = .bl k ∧ Q k H' := by
  obtain ⟨B, env, S, ρ, eo, so, P⟩ := h
  refine ⟨B, env, S, ρ, eo, so, Post.mono P.bind (fun d S1 ρ1 H1 e1 s1 P1 v r => ?_) (fun _ _ _ z => z)⟩
  split at P1
  · rename_i b
    simp only [Rep] at r
    exact ⟨b, r, P1 ρ1 H1 Ext.refl s1⟩
  · exact P1.elim
theorem st_cmp {op : CmpOp} {sem : Sto → D → D → Option D} {a b : Expr} {ma mb : M} {pos : Pos} (ho : VOp X (compareOp op) sem) (ha : SE X W a ma) (hb : SE X W b mb) (hm : behindInMarks op b = false := by first | exact nomark _ | rfl) : ST X W (.Compare a [op] [b] pos) (mBs (mOp sem ma mb)) :=
  PT.imp (pt_cmpR ho ha hb hm) fun σ H Q h => tE_op _ _ _ (tE_bs h)
theorem se_cmp {op : CmpOp} {sem : Sto → D → D → Option D} {a b : Expr} {ma mb : M} {pos : Pos} (ho : VOp X (compareOp op) sem) (ha : SE X W a ma) (hb : SE X W b mb) (hm : behindInMarks op b = false := by first | exact nomark _ | rfl) : SE X W (.Compare a [op] [b] pos) (mOp sem ma mb) :=
  PE.imp (pe_cmpR ho ha hb hm) tE_op
/-- a < b < c -/
def mChain (sem sem' : Sto → D → D → Option D) (a b c : M) : M := fun env S => (a env S).bind fun x S1 => (b env S1).bind fun y S2 => match sem S2 x y with
  | some (.bl true) => (c env S2).bind fun z S3 => Rs.of (sem' S3 y z) S3
  | some (.bl false) => .ok (.bl false) S2
  | _ => .err
theorem tE_chain {G : GC} {sem sem' : Sto → D → D → Option D} {a b c : M} : ∀ σ H Q, tE G W (mChain sem sem' a b c) σ H Q → tChain (rOf G sem) (rOf G sem') (tE G W a) (tE G W b) (tE G W c) σ H Q := fun σ H Q h => by
  obtain ⟨B, env, S, ρ, eo, so, P⟩ := h
  refine ⟨B, env, S, ρ, eo, so, Post.mono P.bind (fun dx S1 ρ1 H1 e1 s1 P1 vx rx => ⟨B, env, S1, ρ1, eo.mono e1, s1, Post.mono P1.bind (fun dy S2 ρ2 H2 e2 s2 P2 vy ry => ?_) (fun _ _ _ z => z)⟩) (fun _ _ _ z => z)⟩
  split at P2
  · rename_i q
    refine ⟨B, S2, ρ2, dx, dy, s2, rx.mono e2, ry, _, q, fun ρ3 H3 v e3 s3 r3 => ?_⟩
    simp only [Rep] at r3
    refine ⟨true, r3, ?_⟩
    rw [if_pos rfl]
    refine ⟨B, env, S2, ρ3, ((eo.mono e1).mono e2).mono e3, s3, Post.mono (Post.mono (Post.bind (ρ := ρ2) (H := H2) P2) (fun _ _ _ _ _ _ z => z) (fun _ _ _ z => z) |> fun z => (?_ : Post G B ρ3 H3 (c env S2) (fun dz S4 ρ4 H4 => Post G B ρ4 H4 (Rs.of (sem' S4 dy dz) S4) (fun d _ ρ' H' => ∀ v, Rep G B ρ' H' d v → Q v H') fun C d H' => W (.ref C) d σ H') fun C d H' => W (.ref C) d σ H')) (fun dz S4 ρ4 H4 e4 s4 P4 vz rz => ?_) (fun _ _ _ z => z)⟩
    · cases q4 : c env S2 with
      | ok dz S4 => rw [q4] at z; exact fun ρ4 H4 e4 s4 => z ρ4 H4 (e3.trans e4) s4
      | exc c p S4 => rw [q4] at z; exact fun ρ4 H4 C d e4 s4 w => z ρ4 H4 C d (e3.trans e4) s4 w
      | err => rw [q4] at z; exact z
    · cases q5 : sem' S4 dy dz with
      | none => rw [q5] at P4; exact P4.elim
      | some d =>
        rw [q5] at P4
        exact ⟨B, S4, ρ4, dy, dz, s4, (ry.mono e3).mono e4, rz, d, q5, fun ρ' H' v e s r => P4 ρ' H' e s v r⟩
  · rename_i q
    refine ⟨B, S2, ρ2, dx, dy, s2, rx.mono e2, ry, _, q, fun ρ3 H3 v e3 s3 r3 => ?_⟩
    simp only [Rep] at r3
    refine ⟨false, r3, ?_⟩
    rw [if_neg Bool.false_ne_true]
    exact P2 ρ3 H3 e3 s3 _ (by simp only [Rep])
  · exact P2.elim
theorem se_chain {op op' : CmpOp} {sem sem' : Sto → D → D → Option D} {a b c : Expr} {ma mb mc : M} {pos : Pos} (ho : VOp X (compareOp op) sem) (ho' : VOp X (compareOp op') sem') (ha : SE X W a ma) (hb : SE X W b mb) (hc : SE X W c mc) (hm : lastMarks [op, op'] [b, c] = false := by with_unfolding_all rfl) : SE X W (.Compare a [op, op'] [b, c] pos) (mChain sem sem' ma mb mc) :=
  PE.imp (pe_chain ho ho' ha hb hc hm) tE_chain
theorem st_chain {op op' : CmpOp} {sem sem' : Sto → D → D → Option D} {a b c : Expr} {ma mb mc : M} {pos : Pos} (ho : VOp X (compareOp op) sem) (ho' : VOp X (compareOp op') sem') (ha : SE X W a ma) (hb : SE X W b mb) (hc : SE X W c mc) (hm : lastMarks [op, op'] [b, c] = false := by with_unfolding_all rfl) : ST X W (.Compare a [op, op'] [b, c] pos) (mBs (mChain sem sem' ma mb mc)) :=
  PT.imp (pt_chain ho ho' ha hb hc hm) fun σ H Q h => tE_chain _ _ _ (tE_bs h)
/-- a value's truth -/
def truB (S : Sto) : D → Option Bool
  | .non => some false
  | .bl b => some b
  | .int i => some (i != 0)
  | .str y => if room y.length then some ((y.length : Int) != 0) else none
  | .tup ds => some !ds.isEmpty
  | .lst ds => some !ds.isEmpty
  | .rol ds => some !ds.isEmpty
  | .ref n => match S[n]? with | some (.lst ds) => some !ds.isEmpty | _ => none
  | _ => none
theorem RepL.isEmpty {G : GC} {B : Addr → Prop} {ρ : List Addr} {H : Hp} {ds : List D} {vs : List V} (r : RepL G B ρ H ds vs) : ds.isEmpty = vs.isEmpty := by
  have e := r.length
  cases ds <;> cases vs <;> first | rfl | (simp at e)
theorem truB_ok {K : PySem.W.Frag} {mg : Str → Option Value} {B : Addr → Prop} {ρ : List Addr} {H : Hp} {S : Sto} {d : D} {v : V} {b : Bool} (so : SOk ⟨K, mg⟩ B S ρ H) (r : Rep ⟨K, mg⟩ B ρ H d v) (h : truB S d = some b) : TruV K v H b := by
  have L : ∀ ds, lstOf S d = some ds → (!ds.isEmpty) = b → TruV K v H b := fun ds e eb => by
    obtain ⟨a, vs, rfl, h1, h2⟩ := lstOf_ok so r e
    exact .inl ⟨vs, h1, by rw [← eb, h2.isEmpty]⟩
  unfold truB at h
  split at h
  · cases h; simp only [Rep] at r; subst r; exact rfl
  · cases h; simp only [Rep] at r; subst r; exact rfl
  · cases h; simp only [Rep] at r; subst r; exact rfl
  · split at h
    · rename_i hz
      cases h; simp only [Rep] at r; subst r; exact ⟨room_le hz, rfl⟩
    · cases h
  · cases h
    obtain ⟨a, vs, rfl, h1, h2⟩ := tup_ok r
    exact .inr (.inl ⟨vs, h1, by rw [h2.isEmpty]⟩)
  · exact L _ rfl (Option.some.inj h)
  · exact L _ rfl (Option.some.inj h)
  · split at h
    · rename_i ds q
      exact L ds (by simp only [lstOf, q]) (Option.some.inj h)
    · cases h
  · cases h
def mTru (m : M) : MT := fun env S => (m env S).bind fun d S1 => Rs.of (truB S1 d) S1
theorem st_truth {a : Expr} {ma : M} (ha : SE X W a ma) (he : ∀ whole, isTrue a X.env whole = (do let v ← whole; standAt a.pos; holding [v] (truthy v)) := by intro _; rfl) : ST X W a (mTru ma) :=
  PT.imp (pt_truth ha he) fun σ H Q h => by
    obtain ⟨B, env, S, ρ, eo, so, P⟩ := h
    refine ⟨B, env, S, ρ, eo, so, Post.mono P.bind (fun d S1 ρ1 H1 e1 s1 P1 v r => ?_) (fun _ _ _ z => z)⟩
    cases q : truB S1 d with
    | none => rw [q] at P1; exact P1.elim
    | some b =>
      rw [q] at P1
      exact ⟨b, truB_ok s1 r q, P1 ρ1 H1 Ext.refl s1⟩
abbrev SW (X : Cx) (W : WX) (x : Expr) (m : MT) : Prop := PW X x (tT ⟨X.K, X.mg⟩ W m)
def mAndT (a b : MT) : MT := fun env S => (a env S).bind fun c S1 => if c then b env S1 else .ok false S1
def mOrT (a b : MT) : MT := fun env S => (a env S).bind fun c S1 => if c then .ok true S1 else b env S1
def mNotT (a : MT) : MT := fun env S => (a env S).bind fun c S1 => .ok (!c) S1
theorem sw_one_and {a : Expr} {ma : MT} {pos : Pos} (ha : ST X W a ma) : SW X W (.BoolOp .And [a] pos) ma := pw_and1 ha
theorem sw_one_or {a : Expr} {ma : MT} {pos : Pos} (ha : ST X W a ma) : SW X W (.BoolOp .Or [a] pos) ma := pw_or1 ha
theorem sw_and {a b : Expr} {rest : List Expr} {ma mb : MT} {pos : Pos} (ha : ST X W a ma) (hb : SW X W (.BoolOp .And (b :: rest) pos) mb) : SW X W (.BoolOp .And (a :: b :: rest) pos) (mAndT ma mb) :=
  PW.imp (pw_and ha hb) fun σ H Q h => by
    obtain ⟨B, env, S, ρ, eo, so, P⟩ := h
    refine ⟨B, env, S, ρ, eo, so, Post.mono P.bind (fun c S1 ρ1 H1 e1 s1 P1 => ?_) (fun _ _ _ z => z)⟩
    cases c with
    | true => rw [if_pos rfl] at P1 ⊢; exact ⟨B, env, S1, ρ1, eo.mono e1, s1, P1⟩
    | false => rw [if_neg Bool.false_ne_true] at P1 ⊢; exact P1 ρ1 H1 Ext.refl s1
theorem sw_or {a b : Expr} {rest : List Expr} {ma mb : MT} {pos : Pos} (ha : ST X W a ma) (hb : SW X W (.BoolOp .Or (b :: rest) pos) mb) : SW X W (.BoolOp .Or (a :: b :: rest) pos) (mOrT ma mb) :=
  PW.imp (pw_or ha hb) fun σ H Q h => by
    obtain ⟨B, env, S, ρ, eo, so, P⟩ := h
    refine ⟨B, env, S, ρ, eo, so, Post.mono P.bind (fun c S1 ρ1 H1 e1 s1 P1 => ?_) (fun _ _ _ z => z)⟩
    cases c with
    | true => rw [if_pos rfl] at P1 ⊢; exact P1 ρ1 H1 Ext.refl s1
    | false => rw [if_neg Bool.false_ne_true] at P1 ⊢; exact ⟨B, env, S1, ρ1, eo.mono e1, s1, P1⟩
theorem st_not {a : Expr} {ma : MT} {pos : Pos} (ha : ST X W a ma) : ST X W (.UnaryOp .Not a pos) (mNotT ma) :=
  PT.imp (pt_not ha) fun σ H Q h => by
    obtain ⟨B, env, S, ρ, eo, so, P⟩ := h
    exact ⟨B, env, S, ρ, eo, so, Post.mono P.bind (fun c S1 ρ1 H1 e1 s1 P1 => P1 ρ1 H1 Ext.refl s1) (fun _ _ _ z => z)⟩
/-- .. as values: all but the last are truth values -/
def mAndV (a b : M) : M := fun env S => (a env S).bind fun d S1 => match d with | .bl true => b env S1 | .bl false => .ok (.bl false) S1 | _ => .err
def mOrV (a b : M) : M := fun env S => (a env S).bind fun d S1 => match d with | .bl true => .ok (.bl true) S1 | .bl false => b env S1 | _ => .err
def mNotV (a : M) : M := fun env S => (a env S).bind fun d S1 => Rs.of ((truB S1 d).map fun b => .bl !b) S1
theorem se_one {op : BoolOp} {a : Expr} {ma : M} {pos : Pos} (ha : SE X W a ma) : SE X W (.BoolOp op [a] pos) ma := pe_one ha
theorem se_and {a b : Expr} {rest : List Expr} {ma mb : M} {pos : Pos} (ha : SE X W a ma) (hb : SE X W (.BoolOp .And (b :: rest) pos) mb) : SE X W (.BoolOp .And (a :: b :: rest) pos) (mAndV ma mb) :=
  PE.imp (pe_and ha hb) fun σ H Q h => by
    obtain ⟨B, env, S, ρ, eo, so, P⟩ := h
    refine ⟨B, env, S, ρ, eo, so, Post.mono P.bind (fun d S1 ρ1 H1 e1 s1 P1 v r => ?_) (fun _ _ _ z => z)⟩
    split at P1
    · simp only [Rep] at r
      exact ⟨true, r, by rw [if_pos rfl]; exact ⟨B, env, S1, ρ1, eo.mono e1, s1, P1⟩⟩
    · simp only [Rep] at r
      exact ⟨false, r, by rw [if_neg Bool.false_ne_true]; exact P1 ρ1 H1 Ext.refl s1 _ (by simp only [Rep])⟩
    · exact P1.elim
theorem se_or {a b : Expr} {rest : List Expr} {ma mb : M} {pos : Pos} (ha : SE X W a ma) (hb : SE X W (.BoolOp .Or (b :: rest) pos) mb) : SE X W (.BoolOp .Or (a :: b :: rest) pos) (mOrV ma mb) :=
  PE.imp (pe_or ha hb) fun σ H Q h => by
    obtain ⟨B, env, S, ρ, eo, so, P⟩ := h
    refine ⟨B, env, S, ρ, eo, so, Post.mono P.bind (fun d S1 ρ1 H1 e1 s1 P1 v r => ?_) (fun _ _ _ z => z)⟩
    split at P1
    · simp only [Rep] at r
      exact ⟨true, r, by rw [if_pos rfl]; exact P1 ρ1 H1 Ext.refl s1 _ (by simp only [Rep])⟩
    · simp only [Rep] at r
      exact ⟨false, r, by rw [if_neg Bool.false_ne_true]; exact ⟨B, env, S1, ρ1, eo.mono e1, s1, P1⟩⟩
    · exact P1.elim
theorem se_not {a : Expr} {ma : M} {pos : Pos} (ha : SE X W a ma) : SE X W (.UnaryOp .Not a pos) (mNotV ma) :=
  PE.imp (pe_notT ha) fun σ H Q h => by
    obtain ⟨B, env, S, ρ, eo, so, P⟩ := h
    refine ⟨B, env, S, ρ, eo, so, Post.mono P.bind (fun d S1 ρ1 H1 e1 s1 P1 v r => ?_) (fun _ _ _ z => z)⟩
    cases q : truB S1 d with
    | none => rw [q] at P1; exact P1.elim
    | some b =>
      rw [q] at P1
      exact ⟨b, truB_ok s1 r q, P1 ρ1 H1 Ext.refl s1 _ (by simp only [Rep])⟩
/-- a if c else b -/
def mIf (c : MT) (a b : M) : M := fun env S => (c env S).bind fun k S1 => if k then a env S1 else b env S1
theorem se_ifExp {c a b : Expr} {mc : MT} {ma mb : M} {pos : Pos} (hc : ST X W c mc) (ha : SE X W a ma) (hb : SE X W b mb) : SE X W (.IfExp c a b pos) (mIf mc ma mb) :=
  PE.imp (pe_ifExp hc ha hb) fun σ H Q h => by
    obtain ⟨B, env, S, ρ, eo, so, P⟩ := h
    refine ⟨B, env, S, ρ, eo, so, Post.mono P.bind (fun c S1 ρ1 H1 e1 s1 P1 => ?_) (fun _ _ _ z => z)⟩
    cases c with
    | true => rw [if_pos rfl] at P1 ⊢; exact ⟨B, env, S1, ρ1, eo.mono e1, s1, P1⟩
    | false => rw [if_neg Bool.false_ne_true] at P1 ⊢; exact ⟨B, env, S1, ρ1, eo.mono e1, s1, P1⟩

/-! ### arguments, displays -/
def mNil : ML := fun _ S => .ok [] S
def mCons (a : M) (r : ML) : ML := fun env S => (a env S).bind fun d S1 => (r env S1).bind fun ds S2 => .ok (d :: ds) S2
theorem sa_nil : SA X W [] mNil := PA.imp pa_nil fun σ H Q h => by
  obtain ⟨B, env, S, ρ, eo, so, P⟩ := h
  exact P ρ H Ext.refl so [] (by simp only [RepL])
theorem sa_cons {e : Expr} {es : List Expr} {ma : M} {mr : ML} (ha : SE X W e ma) (hr : SA X W es mr) (hs : starEach (e :: es) X.env = (false, eval e X.env) :: starEach es X.env := by rfl) : SA X W (e :: es) (mCons ma mr) :=
  PA.imp (pa_cons ha hr hs) fun σ H Q h => by
    obtain ⟨B, env, S, ρ, eo, so, P⟩ := h
    refine ⟨B, env, S, ρ, eo, so, Post.mono P.bind (fun d S1 ρ1 H1 e1 s1 P1 v r => ⟨B, env, S1, ρ1, eo.mono e1, s1, Post.mono P1.bind (fun ds S2 ρ2 H2 e2 s2 P2 vs rs => ?_) (fun _ _ _ z => z)⟩) (fun _ _ _ z => z)⟩
    exact P2 ρ2 H2 Ext.refl s2 (v :: vs) (by simp only [RepL]; exact ⟨v, vs, rfl, r.mono e2, rs⟩)
def mTup (m : ML) : M := fun env S => (m env S).bind fun ds S1 => if room ds.length then .ok (.tup ds) S1 else .err
theorem se_tup {es : List Expr} {m : ML} {k : Nat} {pos : Pos} (h : SA X W es m) : SE X W (.Tuple es k pos) (mTup m) :=
  PE.imp (pe_tup h) fun σ H Q h => by
    obtain ⟨B, env, S, ρ, eo, so, P⟩ := h
    refine ⟨B, env, S, ρ, eo, so, Post.mono P.bind (fun ds S1 ρ1 H1 e1 s1 P1 vs r => ?_) (fun _ _ _ z => z)⟩
    split at P1
    · rename_i hz
      exact ⟨by rw [← r.length]; exact room_le hz, fun p hp => P1 ρ1 _ (Ext.laid hp) (s1.laid hp) _ (new_tup s1 r hp)⟩
    · exact P1.elim
def mLst (m : ML) : M := fun env S => (m env S).bind fun ds S1 => if room ds.length then .ok (.lst ds) S1 else .err
theorem se_lst {es : List Expr} {m : ML} {pos : Pos} (h : SA X W es m) : SE X W (.List es pos) (mLst m) :=
  PE.imp (pe_lst h) fun σ H Q h => by
    obtain ⟨B, env, S, ρ, eo, so, P⟩ := h
    refine ⟨B, env, S, ρ, eo, so, Post.mono P.bind (fun ds S1 ρ1 H1 e1 s1 P1 vs r => ?_) (fun _ _ _ z => z)⟩
    split at P1
    · rename_i hz
      exact ⟨by rw [← r.length]; exact room_le hz, fun p hp => P1 ρ1 _ (Ext.laid hp) (s1.laid hp) _ (new_lst s1 r hp)⟩
    · exact P1.elim
/-- a list display that will be written: it goes into the store -/
def mNew (m : ML) : M := fun env S => (m env S).bind fun ds S1 => if room ds.length then .ok (.ref S1.length) (S1 ++ [.lst ds]) else .err
theorem se_new {es : List Expr} {m : ML} {pos : Pos} (h : SA X W es m) : SE X W (.List es pos) (mNew m) :=
  PE.imp (pe_lst h) fun σ H Q h => by
    obtain ⟨B, env, S, ρ, eo, so, P⟩ := h
    refine ⟨B, env, S, ρ, eo, so, Post.mono P.bind (fun ds S1 ρ1 H1 e1 s1 P1 vs r => ?_) (fun _ _ _ z => z)⟩
    split at P1
    · rename_i hz
      refine ⟨by rw [← r.length]; exact room_le hz, fun p hp => P1 (ρ1 ++ [p]) _ (Ext.push hp) (s1.push hp ⟨vs, upd_same, r.mono (Ext.push hp)⟩) _ ?_⟩
      simp only [Rep]
      exact ⟨p, rfl, by rw [← s1.len]; simp⟩
    · exact P1.elim

/-! ### subscripts, slices -/
def sIx (S : Sto) (x y : D) : Option D := match x, y with
  | .tup ds, .int i => atI ds i
  | .str z, .int i => if room z.length then (atI z.cps.toList i).map fun c => .str ⟨#[c]⟩ else none
  | x, .int i => match lstOf S x with | some ds => atI ds i | none => none
  | _, _ => none
theorem RepL.atI {G : GC} {B : Addr → Prop} {ρ : List Addr} {H : Hp} {ds : List D} {vs : List V} (r : RepL G B ρ H ds vs) {i : Int} {d : D} (h : L2.atI ds i = some d) : ∃ v, L2.atI vs i = some v ∧ Rep G B ρ H d v := by
  unfold L2.atI at h ⊢
  rw [← r.length]
  cases q : ixN ds.length i with
  | none => rw [q] at h; cases h
  | some j => rw [q] at h; exact r.get h
theorem ix_sIx : IxR X (rOf ⟨X.K, X.mg⟩ sIx) := by
  intro value slice pins s σ H x y v u Q I rx ry ⟨B, S, ρ, dx, dy, so, hx, hy, d, he, k⟩ hs
  unfold sIx at he
  split at he
  · simp only [Rep] at hy
    subst hy
    obtain ⟨a, vs, rfl, h1, h2⟩ := tup_ok hx
    obtain ⟨w, h3, h4⟩ := h2.atI he
    exact ix_tup value slice pins s σ H _ _ v u Q I rx ry ⟨a, vs, _, w, rfl, rfl, h1, h3, k ρ H _ Ext.refl so h4⟩ hs
  · split at he
    · rename_i hz
      simp only [Option.map_eq_some_iff] at he
      obtain ⟨c, he, rfl⟩ := he
      simp only [Rep] at hx hy
      subst hx hy
      exact ix_str value slice pins s σ H _ _ v u Q I rx ry ⟨_, _, c, rfl, rfl, room_le hz, he, k ρ H _ Ext.refl so (by simp only [Rep])⟩ hs
    · cases he
  · simp only [Rep] at hy
    subst hy
    split at he
    · rename_i ds q
      obtain ⟨a, vs, rfl, h1, h2⟩ := lstOf_ok so hx q
      obtain ⟨w, h3, h4⟩ := h2.atI he
      exact ix_list value slice pins s σ H _ _ v u Q I rx ry ⟨a, vs, _, w, rfl, rfl, h1, h3, k ρ H _ Ext.refl so h4⟩ hs
    · cases he
  · cases he
theorem se_ix {a b : Expr} {ma mb : M} {pos : Pos} (ha : SE X W a ma) (hb : SE X W b mb) (hs : PlainIx b := by intro _ _; rfl) : SE X W (.Subscript a b pos) (mOp sIx ma mb) := PE.imp (pe_ix ix_sIx ha hb hs) tE_op
/-- a[lo:hi] -/
abbrev MO := En → Sto → Rs (Option Int)
def tO (G : GC) (W : WX) (m : MO) : TO := fun σ H Q => ∃ B env S ρ, EnvOk G B ρ H env σ ∧ SOk G B S ρ H ∧
  Post G B ρ H (m env S) (fun o _ _ H' => Q o H') fun C d H' => W (.ref C) d σ H'
abbrev SO (X : Cx) (W : WX) (e : Option Expr) (m : MO) : Prop := ∀ (pins : List (Addr × Obj)) (s : Shared) (σ : L2.St) (H : Hp) (Q : Option Int → Hp → Prop), Inv X pins σ H s → tO ⟨X.K, X.mg⟩ W m σ H Q →
    wpAny (model X.prog X.w) X.A (evalPart e X.env) (fun u s' => ∃ o H', Inv X pins σ H' s' ∧ IsPart u o ∧ Q o H') X.xe s
def mONone : MO := fun _ S => .ok none S
def mOSome (m : M) : MO := fun env S => (m env S).bind fun d S1 => match d with | .int i => .ok (some i) S1 | _ => .err
theorem so_none : PO X none (tO ⟨X.K, X.mg⟩ W mONone) := ⟨fun pins s σ H Q I h => by
  obtain ⟨B, env, S, ρ, eo, so, P⟩ := h
  exact po_none.run pins s σ H Q I (P ρ H Ext.refl so)⟩
theorem so_some {e : Expr} {m : M} (h : SE X W e m) : PO X (some e) (tO ⟨X.K, X.mg⟩ W (mOSome m)) := ⟨fun pins s σ H Q I hw => by
  refine (po_some h).run pins s σ H Q I ?_
  obtain ⟨B, env, S, ρ, eo, so, P⟩ := hw
  refine ⟨B, env, S, ρ, eo, so, Post.mono P.bind (fun d S1 ρ1 H1 e1 s1 P1 v r => ?_) (fun _ _ _ z => z)⟩
  split at P1
  · simp only [Rep] at r
    exact ⟨_, r, P1 ρ1 H1 Ext.refl s1⟩
  · exact P1.elim⟩
def cutD {α : Type} (xs : List α) (lo hi : Option Int) : List α := (xs.drop (HT.sIx xs.length 0 lo)).take (HT.sIx xs.length xs.length hi - HT.sIx xs.length 0 lo)
def sSl (S : Sto) (x : D) (lo hi : Option Int) : Option D := match x with
  | .tup ds => some (.tup (cutD ds lo hi))
  | .str z => if room z.length then some (.str (cutS z lo hi)) else none
  | x => (lstOf S x).map fun ds => .lst (cutD ds lo hi)
theorem RepL.cut {G : GC} {B : Addr → Prop} {ρ : List Addr} {H : Hp} {ds : List D} {vs : List V} (r : RepL G B ρ H ds vs) (lo hi : Option Int) : RepL G B ρ H (cutD ds lo hi) (cutV vs lo hi) := by
  unfold cutD cutV
  rw [r.length]
  exact (r.drop _).take _
def rSlOf (G : GC) : V → Option Int → Option Int → Hp → VK → Prop := fun x lo hi H Q => ∃ B S ρ dx, SOk G B S ρ H ∧ Rep G B ρ H dx x ∧ ∃ d, sSl S dx lo hi = some d ∧
  ∀ ρ' H' v, Ext ρ H ρ' H' → SOk G B S ρ' H' → Rep G B ρ' H' d v → Q v H'
theorem sl_sSl : SlR X (rSlOf ⟨X.K, X.mg⟩) := by
  intro pins s σ H x v vl vu lo hi sl Q I rx hs pl pu ⟨B, S, ρ, dx, so, hx, d, he, k⟩
  unfold sSl at he
  split at he
  · rename_i ds
    cases he
    have hx0 := hx
    obtain ⟨a, vs, rfl, h1, h2⟩ := tup_ok hx
    refine sl_tupA pins s σ H _ v vl vu lo hi sl Q I rx hs pl pu ⟨a, vs, rfl, h1, fun hw => ?_, fun hw p hp => ?_⟩
    · have : cutD ds lo hi = ds := by
        unfold cutD
        rw [h2.length, hw.1, hw.2, List.drop_zero, Nat.sub_zero, List.take_of_length_le (Nat.le_of_eq h2.length)]
      exact k ρ H _ Ext.refl so (by rw [this]; exact hx0)
    · exact k ρ _ _ (Ext.laid hp) (so.laid hp) (new_tup so (h2.cut lo hi) hp)
  · split at he
    · rename_i hz
      cases he
      simp only [Rep] at hx
      subst hx
      exact sl_str pins s σ H _ v vl vu lo hi sl Q I rx hs pl pu ⟨_, rfl, room_le hz, k ρ H _ Ext.refl so (by simp only [Rep])⟩
    · cases he
  · simp only [Option.map_eq_some_iff] at he
    obtain ⟨ds, he, rfl⟩ := he
    obtain ⟨a, vs, rfl, h1, h2⟩ := lstOf_ok so hx he
    exact sl_list pins s σ H _ v vl vu lo hi sl Q I rx hs pl pu ⟨a, vs, rfl, h1, fun p hp => k ρ _ _ (Ext.laid hp) (so.laid hp) (new_lst so (h2.cut lo hi) hp)⟩
def mSl (a : M) (l h : MO) : M := fun env S => (a env S).bind fun x S1 => (l env S1).bind fun lo S2 => (h env S2).bind fun hi S3 => Rs.of (sSl S3 x lo hi) S3
theorem se_slice {e : Expr} {lo hi : Option Expr} {ma : M} {ml mh : MO} {p2 pos : Pos} (ha : SE X W e ma) (hl : PO X lo (tO ⟨X.K, X.mg⟩ W ml)) (hh : PO X hi (tO ⟨X.K, X.mg⟩ W mh)) : SE X W (.Subscript e (.Slice lo hi none p2) pos) (mSl ma ml mh) :=
  PE.imp (pe_slice sl_sSl ha hl hh) fun σ H Q h => by
    obtain ⟨B, env, S, ρ, eo, so, P⟩ := h
    refine ⟨B, env, S, ρ, eo, so, Post.mono P.bind (fun d S1 ρ1 H1 e1 s1 P1 v r => ⟨B, env, S1, ρ1, eo.mono e1, s1, Post.mono P1.bind (fun lo S2 ρ2 H2 e2 s2 P2 => ⟨B, env, S2, ρ2, (eo.mono e1).mono e2, s2, Post.mono P2.bind (fun hi S3 ρ3 H3 e3 s3 P3 => ?_) (fun _ _ _ z => z)⟩) (fun _ _ _ z => z)⟩) (fun _ _ _ z => z)⟩
    cases q : sSl S3 d lo hi with
    | none => rw [q] at P3; exact P3.elim
    | some w =>
      rw [q] at P3
      exact ⟨B, S3, ρ3, d, s3, (r.mono e2).mono e3, w, q, fun ρ' H' v e s r => P3 ρ' H' e s v r⟩
end
end Ev

/-! Ev, part 4: built-ins, what loops walk, list comprehensions. -/
namespace Ev
open PySem L2
section
variable {X : Cx} {W : WX}

/-! ### built-ins by values -/
def rOfN (G : GC) (sem : Sto → List D → Option D) : List V → Hp → VK → Prop := fun xs H Q => ∃ B S ρ ds, SOk G B S ρ H ∧ RepL G B ρ H ds xs ∧ ∃ d, sem S ds = some d ∧
  ∀ ρ' H' v, Ext ρ H ρ' H' → SOk G B S ρ' H' → Rep G B ρ' H' d v → Q v H'
abbrev VCall (X : Cx) (f : Value) (sem : Sto → List D → Option D) : Prop := CallR X f (rOfN ⟨X.K, X.mg⟩ sem)
def mCB (sem : Sto → List D → Option D) (m : ML) : M := fun env S => (m env S).bind fun ds S1 => Rs.of (sem S1 ds) S1
theorem tE_cb {G : GC} {sem : Sto → List D → Option D} {m : ML} : ∀ σ H Q, tE G W (mCB sem m) σ H Q → tCB (rOfN G sem) (tA G W m) σ H Q := fun σ H Q h => by
  obtain ⟨B, env, S, ρ, eo, so, P⟩ := h
  refine ⟨B, env, S, ρ, eo, so, Post.mono P.bind (fun ds S1 ρ1 H1 e1 s1 P1 vs rs => ?_) (fun _ _ _ z => z)⟩
  cases q : sem S1 ds with
  | none => rw [q] at P1; exact P1.elim
  | some d =>
    rw [q] at P1
    exact ⟨B, S1, ρ1, ds, s1, rs, d, q, fun ρ' H' v e s r => P1 ρ' H' e s v r⟩
theorem se_callB {sem : Sto → List D → Option D} {id : String} {x : Str} {p pos : Pos} {e : Expr} {es : List Expr} {m : ML} (hc : VCall X (.builtin id) sem) (hm : X.mg x = none) (hv : bootBuiltins x = some (.builtin id)) (ha : SA X W (e :: es) m) (hg : Gl X x := by rfl)
    (hn : x ≠ "__name__" := by decide) (hdb : (x == ("__debug__" : Str)) = false := by decide)
    (he : starEach (e :: es) X.env = (false, eval e X.env) :: starEach es X.env := by rfl) (hpl : (backTo pos (starEach es X.env)).any (·.1) = false := by rfl) : SE X W (.Call (.Name x p) (e :: es) [] pos) (mCB sem m) :=
  PE.imp (pe_callB hc hg hm hv ha hn hdb he hpl) tE_cb
theorem se_callTy {sem : Sto → List D → Option D} {T : String} {x : Str} {p pos : Pos} {e : Expr} {es : List Expr} {m : ML} (hc : VCall X (.type T) sem) (hm : X.mg x = none) (hv : bootBuiltins x = some (.type T)) (ha : SA X W (e :: es) m) (hg : Gl X x := by rfl)
    (hn : x ≠ "__name__" := by decide) (hdb : (x == ("__debug__" : Str)) = false := by decide)
    (he : starEach (e :: es) X.env = (false, eval e X.env) :: starEach es X.env := by rfl) (hpl : (backTo pos (starEach es X.env)).any (·.1) = false := by rfl) : SE X W (.Call (.Name x p) (e :: es) [] pos) (mCB sem m) :=
  PE.imp (pe_callTy hc hg hm hv ha hn hdb he hpl) tE_cb
section
variable {G : GC} {B : Addr → Prop} {ρ : List Addr} {H : Hp}
theorem repL1 {d : D} {xs : List V} (r : RepL G B ρ H [d] xs) : ∃ v, xs = [v] ∧ Rep G B ρ H d v := by
  simp only [RepL] at r
  obtain ⟨v, w, rfl, h, rfl⟩ := r
  exact ⟨v, rfl, h⟩
theorem repL2 {d e : D} {xs : List V} (r : RepL G B ρ H [d, e] xs) : ∃ v w, xs = [v, w] ∧ Rep G B ρ H d v ∧ Rep G B ρ H e w := by
  simp only [RepL] at r
  obtain ⟨v, w, rfl, h, v2, w2, rfl, h2, rfl⟩ := r
  exact ⟨v, v2, rfl, h, h2⟩
end
/-- the type of plain data -/
def tyD (S : Sto) : D → Option String
  | .non => some "NoneType"
  | .bl _ => some "bool"
  | .int _ => some "int"
  | .str _ => some "str"
  | .tup _ => some "tuple"
  | .lst _ => some "list"
  | .rol _ => some "list"
  | .ref n => match S[n]? with | some (.lst _) => some "list" | _ => none
  | _ => none
theorem tyD_ok {K : PySem.W.Frag} {mg : Str → Option Value} {B : Addr → Prop} {ρ : List Addr} {H : Hp} {S : Sto} {d : D} {v : V} {t : String} (so : SOk ⟨K, mg⟩ B S ρ H) (r : Rep ⟨K, mg⟩ B ρ H d v) (h : tyD S d = some t) : TyX K H v (.type t) := by
  unfold tyD at h
  split at h
  · cases h; simp only [Rep] at r; subst r; exact .base .non
  · cases h; simp only [Rep] at r; subst r; exact .base (.bl _)
  · cases h; simp only [Rep] at r; subst r; exact .base (.int _)
  · cases h; simp only [Rep] at r; subst r; exact .base (.str _)
  · cases h; simp only [Rep] at r
    obtain ⟨a, vs, rfl, h1 | ⟨o, its, n, h1, h2, _⟩, _⟩ := r
    · exact .base (.tup h1.1)
    · exact .kTuple h1 h2
  · cases h; simp only [Rep] at r
    obtain ⟨a, vs, rfl, h1, _⟩ := r
    exact .base (.lst h1)
  · cases h; simp only [Rep] at r
    obtain ⟨a, vs, rfl, ⟨h1 | ⟨o, h1⟩, _⟩ | ⟨o, its, n, h1, h2, _⟩, _⟩ := r
    · exact .base (.lst h1)
    · exact .base (.frz h1)
    · exact .kList h1 h2
  · split at h
    · rename_i q
      cases h; simp only [Rep] at r
      obtain ⟨a, rfl, h1⟩ := r
      obtain ⟨vs, h2, _⟩ := so.ob _ _ _ q h1
      exact .base (.lst h2)
    · cases h
  · cases h
/-- isinstance(x, T), T a built-in class named by a global -/
def isB (T : String) (S : Sto) (d : D) : Option Bool := match tyD S d with | some t => L2.kitB t T | none => none
def sIsi (S : Sto) : List D → Option D
  | [d, .glo x] => match bootBuiltins x with | some (.type T) => (isB T S d).map .bl | _ => none
  | _ => none
/-- no module's name hides these built-in classes -/
def Unhid (mg : Str → Option Value) : Prop := mg "int" = none ∧ mg "bool" = none ∧ mg "str" = none ∧ mg "tuple" = none ∧ mg "list" = none
def tyNames : List Str := ["int", "bool", "str", "tuple", "list"]
def sIsiT (S : Sto) : List D → Option D
  | [d, .glo x] => if tyNames.contains x then match bootBuiltins x with | some (.type T) => (isB T S d).map .bl | _ => none else none
  | _ => none
theorem call_sIsi (u : ∀ x ∈ tyNames, X.mg x = none) : VCall X (.builtin "isinstance") sIsiT := by
  intro pins s σ H xs us Q I r ⟨B, S, ρ, ds, so, rs, d, he, k⟩
  unfold sIsiT at he
  split at he
  · rename_i d0 x
    split at he
    · rename_i hx
      split at he
      · rename_i T hT
        simp only [Option.map_eq_some_iff] at he
        obtain ⟨b, he, rfl⟩ := he
        obtain ⟨v, w, rfl, r1, r2⟩ := repL2 rs
        unfold isB at he
        split at he
        · rename_i t ht
          have ty := tyD_ok so r1 ht
          simp only [Rep] at r2
          obtain ⟨uu, h1, h2⟩ := r2
          have hmem : x ∈ tyNames := List.elem_iff.mp hx
          have hn := u x hmem
          rcases h1 with h1 | ⟨_, h1⟩
          · exact absurd (hn.symm.trans h1) nofun
          · rw [hT] at h1; cases h1
            have hw : w = .ty T := by
              cases w with
              | ty n => cases (show Value.type T = Value.type n from h2); rfl
              | non => exact nomatch h2
              | bl _ => exact nomatch h2
              | int _ => obtain ⟨_, z⟩ := h2; exact nomatch z
              | str _ => obtain ⟨_, z⟩ := h2; exact nomatch z
              | byt _ => obtain ⟨_, z⟩ := h2; exact nomatch z
              | flt _ => obtain ⟨_, z⟩ := h2; exact nomatch z
              | ref _ => exact nomatch h2
            subst hw
            exact call_isi pins s σ H _ us Q I r ⟨v, .ty T, .type t, .type T, b, rfl, .ty T, ty, kit_ty he, k ρ H _ Ext.refl so (by simp only [Rep])⟩
        · cases he
      · cases he
    · cases he
  · cases he
def sLen (S : Sto) : List D → Option D
  | [.tup ds] => some (.int (ds.length : Int))
  | [.str z] => if room z.length then some (.int (z.length : Int)) else none
  | [d] => (lstOf S d).map fun ds => .int (ds.length : Int)
  | _ => none
theorem call_sLen : VCall X (.builtin "len") sLen := by
  intro pins s σ H xs us Q I r ⟨B, S, ρ, ds, so, rs, d, he, k⟩
  unfold sLen at he
  split at he
  · cases he
    obtain ⟨v, rfl, r1⟩ := repL1 rs
    obtain ⟨a, vs, rfl, h1, h2⟩ := tup_ok r1
    exact call_len_seq pins s σ H _ us Q I r ⟨a, vs, rfl, .inr h1, by rw [← h2.length]; exact k ρ H _ Ext.refl so (by simp only [Rep])⟩
  · split at he
    · rename_i hz
      cases he
      obtain ⟨v, rfl, r1⟩ := repL1 rs
      simp only [Rep] at r1
      subst r1
      exact call_len_str pins s σ H _ us Q I r ⟨_, rfl, room_le hz, k ρ H _ Ext.refl so (by simp only [Rep])⟩
    · cases he
  · simp only [Option.map_eq_some_iff] at he
    obtain ⟨es, he, rfl⟩ := he
    obtain ⟨v, rfl, r1⟩ := repL1 rs
    obtain ⟨a, vs, rfl, h1, h2⟩ := lstOf_ok so r1 he
    exact call_len_seq pins s σ H _ us Q I r ⟨a, vs, rfl, .inl h1, by rw [← h2.length]; exact k ρ H _ Ext.refl so (by simp only [Rep])⟩
  · cases he
def sAbs (_ : Sto) : List D → Option D | [.int i] => some (.int (if i < 0 then -i else i)) | _ => none
theorem call_sAbs : VCall X (.builtin "abs") sAbs := by
  intro pins s σ H xs us Q I r ⟨B, S, ρ, ds, so, rs, d, he, k⟩
  unfold sAbs at he
  split at he
  · cases he
    obtain ⟨v, rfl, r1⟩ := repL1 rs
    simp only [Rep] at r1
    subst r1
    exact call_abs pins s σ H _ us Q I r ⟨_, rfl, k ρ H _ Ext.refl so (by simp only [Rep])⟩
  · cases he
def sMax (_ : Sto) : List D → Option D | [.int i, .int j] => some (.int (if j > i then j else i)) | _ => none
theorem call_sMax (hc : X.calm = true) : VCall X (.builtin "max") sMax := by
  intro pins s σ H xs us Q I r ⟨B, S, ρ, ds, so, rs, d, he, k⟩
  unfold sMax at he
  split at he
  · cases he
    obtain ⟨v, w, rfl, r1, r2⟩ := repL2 rs
    simp only [Rep] at r1 r2
    subst r1 r2
    exact call_max2 hc pins s σ H _ us Q I r ⟨_, _, rfl, k ρ H _ Ext.refl so (by simp only [Rep])⟩
  · cases he
def sMin (_ : Sto) : List D → Option D | [.int i, .int j] => some (.int (if j < i then j else i)) | _ => none
theorem call_sMin (hc : X.calm = true) : VCall X (.builtin "min") sMin := by
  intro pins s σ H xs us Q I r ⟨B, S, ρ, ds, so, rs, d, he, k⟩
  unfold sMin at he
  split at he
  · cases he
    obtain ⟨v, w, rfl, r1, r2⟩ := repL2 rs
    simp only [Rep] at r1 r2
    subst r1 r2
    exact call_min2 hc pins s σ H _ us Q I r ⟨_, _, rfl, k ρ H _ Ext.refl so (by simp only [Rep])⟩
  · cases he
def sInt (_ : Sto) : List D → Option D | [.int i] => some (.int i) | [.bl k] => some (.int (if k then 1 else 0)) | [.str a] => if Nat.ble a.length 640 then (PySem.intText? a).map .int else none | _ => none
theorem call_sInt : VCall X (.type "int") sInt := by
  intro pins s σ H xs us Q I r ⟨B, S, ρ, ds, so, rs, d, he, k⟩
  unfold sInt at he
  split at he
  · cases he
    obtain ⟨v, rfl, r1⟩ := repL1 rs
    simp only [Rep] at r1
    subst r1
    exact call_int1 pins s σ H _ us Q I r (.inl ⟨_, rfl, k ρ H _ Ext.refl so (by simp only [Rep])⟩)
  · cases he
    obtain ⟨v, rfl, r1⟩ := repL1 rs
    simp only [Rep] at r1
    subst r1
    exact call_int1 pins s σ H _ us Q I r (.inr ⟨_, rfl, k ρ H _ Ext.refl so (by simp only [Rep])⟩)
  · split at he
    · rename_i hz
      simp only [Option.map_eq_some_iff] at he
      obtain ⟨n, he, rfl⟩ := he
      obtain ⟨v, rfl, r1⟩ := repL1 rs
      simp only [Rep] at r1
      subst r1
      exact call_int_str pins s σ H _ us Q I r ⟨_, n, rfl, he, Nat.le_of_ble_eq_true hz, k ρ H _ Ext.refl so (by simp only [Rep])⟩
    · cases he
  · cases he
def sDivmod (_ : Sto) : List D → Option D
  | [.int i, .int j] => if decide (0 < j) && Nat.blt j.natAbs.log2 9000 then some (.tup [.int (i / j), .int (i % j)]) else none
  | _ => none
theorem call_sDivmod : VCall X (.builtin "divmod") sDivmod := by
  intro pins s σ H xs us Q I r ⟨B, S, ρ, ds, so, rs, d, he, k⟩
  unfold sDivmod at he
  split at he
  · split at he
    · rename_i i j hz
      cases he
      simp only [Bool.and_eq_true, decide_eq_true_eq] at hz
      obtain ⟨v, w, rfl, r1, r2⟩ := repL2 rs
      simp only [Rep] at r1 r2
      subst r1 r2
      refine call_divmodW pins s σ H _ us Q I r ⟨i, j, rfl, ⟨hz.1, PyProof.noPylong_of_log2 (Nat.le_of_ble_eq_true hz.2)⟩, fun p hp => ?_⟩
      exact k ρ _ _ (Ext.laid hp) (so.laid hp) (new_tup so (by simp only [RepL, Rep]; exact ⟨_, _, rfl, rfl, _, _, rfl, rfl, rfl⟩) hp)
    · cases he
  · cases he
/-- truth values alone -/
def blsOf : List D → Option (List Bool)
  | [] => some []
  | .bl b :: r => (blsOf r).map (b :: ·)
  | _ :: _ => none
theorem blsOf_ok {G : GC} {B : Addr → Prop} {ρ : List Addr} {H : Hp} : ∀ {ds : List D} {bs : List Bool} {vs : List V}, blsOf ds = some bs → RepL G B ρ H ds vs → vs = bs.map V.bl
  | [], bs, vs, h, r => by cases h; simp only [RepL] at r; exact r
  | d :: ds, bs, vs, h, r => by
    cases d with
    | bl b =>
      simp only [blsOf, Option.map_eq_some_iff] at h
      obtain ⟨cs, h, rfl⟩ := h
      simp only [RepL, Rep] at r
      obtain ⟨v, w, rfl, rfl, r⟩ := r
      rw [blsOf_ok h r]
      rfl
    | _ => simp [blsOf] at h
def sAll (S : Sto) : List D → Option D
  | [d] => (match lstOf S d with | some ds => (blsOf ds).map fun bs => .bl (bs.all id) | none => none)
  | _ => none
def sAny (S : Sto) : List D → Option D
  | [d] => (match lstOf S d with | some ds => (blsOf ds).map fun bs => .bl (bs.any id) | none => none)
  | _ => none
theorem call_sAll (hc : X.calm = true) : VCall X (.builtin "all") sAll := by
  intro pins s σ H xs us Q I r ⟨B, S, ρ, ds, so, rs, d, he, k⟩
  unfold sAll at he
  split at he
  · split at he
    · rename_i q
      simp only [Option.map_eq_some_iff] at he
      obtain ⟨bs, he, rfl⟩ := he
      obtain ⟨v, rfl, r1⟩ := repL1 rs
      obtain ⟨a, vs, rfl, h1, h2⟩ := lstOf_ok so r1 q
      exact cr_all hc pins s σ H _ us Q I r ⟨a, bs, rfl, by rw [← blsOf_ok he h2]; exact h1, k ρ H _ Ext.refl so (by simp only [Rep])⟩
    · cases he
  · cases he
theorem call_sAny (hc : X.calm = true) : VCall X (.builtin "any") sAny := by
  intro pins s σ H xs us Q I r ⟨B, S, ρ, ds, so, rs, d, he, k⟩
  unfold sAny at he
  split at he
  · split at he
    · rename_i q
      simp only [Option.map_eq_some_iff] at he
      obtain ⟨bs, he, rfl⟩ := he
      obtain ⟨v, rfl, r1⟩ := repL1 rs
      obtain ⟨a, vs, rfl, h1, h2⟩ := lstOf_ok so r1 q
      exact cr_any hc pins s σ H _ us Q I r ⟨a, bs, rfl, by rw [← blsOf_ok he h2]; exact h1, k ρ H _ Ext.refl so (by simp only [Rep])⟩
    · cases he
  · cases he

/-! ### what loops walk -/
structure Src (G : GC) (B : Addr → Prop) (J : It) (ds : List D) (ρ : List Addr) (H : Hp) : Prop where
  go : ∀ ρ' H' S, Ext ρ H ρ' H' → SOk G B S ρ' H' → ∀ i, i < ds.length → J.go i H'
  stop : ∀ ρ' H' S, Ext ρ H ρ' H' → SOk G B S ρ' H' → J.stop ds.length H'
  yld : ∀ ρ' H' S i x H2 d, Ext ρ H ρ' H' → SOk G B S ρ' H' → ds[i]? = some d → J.yld i H' x H2 → Same H' H2 ∧ Rep G B ρ' H2 d x
def tI (G : GC) (W : WX) (m : ML) : TI := fun σ H R => ∃ B env S ρ, EnvOk G B ρ H env σ ∧ SOk G B S ρ H ∧
  Post G B ρ H (m env S) (fun ds _ ρ' H' => ∀ J, (∀ B', (∀ a, B a → B' a) → (∀ a, B' a → ¬ B a → H' a = none) → ∀ ρ2 H2, Ext ρ' H' ρ2 H2 → Src G B' J ds ρ2 H2) → R J H') fun C d H' => W (.ref C) d σ H'
abbrev SI (X : Cx) (W : WX) (tg x : Expr) (m : ML) : Prop := PI X tg x (tI ⟨X.K, X.mg⟩ W m)
theorem PI.imp {tg x : Expr} {t u : TI} (h : PI X tg x t) (hi : ∀ σ H R, u σ H R → t σ H R) : PI X tg x u := ⟨fun pins s σ H R I q => h.run pins s σ H R I (hi σ H R q)⟩
/-- the protected set made larger by what is not tracked yet -/
theorem Rep.wide {G : GC} {B B' : Addr → Prop} {ρ : List Addr} {H : Hp} {d : D} {v : V} (hB : ∀ a, B' a → ¬ B a → H a = none) (r : Rep G B ρ H d v) : Rep G B' ρ H d v :=
  r.move (fun _ _ h => h) fun a o x q => ⟨q, x.1, fun b => by rw [hB a b x.2] at q; cases q⟩
theorem RepL.wide {G : GC} {B B' : Addr → Prop} {ρ : List Addr} {H : Hp} {d : List D} {v : List V} (hB : ∀ a, B' a → ¬ B a → H a = none) (r : RepL G B ρ H d v) : RepL G B' ρ H d v :=
  r.move (fun _ _ h => h) fun a o x q => ⟨q, x.1, fun b => by rw [hB a b x.2] at q; cases q⟩
theorem src_seq {K : PySem.W.Frag} {mg : Str → Option Value} {B : Addr → Prop} {ρ : List Addr} {H : Hp} {a : Addr} {ds : List D} {vs : List V} (hq : ∀ ρ' H', Ext ρ H ρ' H' → SqL K H' a vs) (r : RepL ⟨K, mg⟩ B ρ H ds vs) : Src ⟨K, mg⟩ B (Itl K a) ds ρ H where
  go := fun ρ' H' S e s i hi => ⟨vs, vs[i]'(by rw [← r.length]; exact hi), hq ρ' H' e, by simp⟩
  stop := fun ρ' H' S e s => ⟨vs, hq ρ' H' e, by rw [r.length]; exact Nat.le_refl _⟩
  yld := fun ρ' H' S i x H2 d e s hd y => by
    obtain ⟨e1, h1⟩ := y
    subst e1
    obtain ⟨v, h2, h3⟩ := (r.mono e).get hd
    rw [h1 vs (hq ρ' H2 e)] at h2
    cases h2
    exact ⟨Same.refl _, h3⟩
theorem src_tup {K : PySem.W.Frag} {mg : Str → Option Value} {B : Addr → Prop} {ρ : List Addr} {H : Hp} {a : Addr} {ds : List D} {vs : List V} (hq : ∀ ρ' H', Ext ρ H ρ' H' → SqT K H' a vs) (r : RepL ⟨K, mg⟩ B ρ H ds vs) : Src ⟨K, mg⟩ B (Itt K a) ds ρ H where
  go := fun ρ' H' S e s i hi => ⟨vs, vs[i]'(by rw [← r.length]; exact hi), hq ρ' H' e, by simp⟩
  stop := fun ρ' H' S e s => ⟨vs, hq ρ' H' e, by rw [r.length]; exact Nat.le_refl _⟩
  yld := fun ρ' H' S i x H2 d e s hd y => by
    obtain ⟨e1, h1⟩ := y
    subst e1
    obtain ⟨v, h2, h3⟩ := (r.mono e).get hd
    rw [h1 vs (hq ρ' H2 e)] at h2
    cases h2
    exact ⟨Same.refl _, h3⟩
/-- a list that does not change -/
def fixL : D → Option (List D) | .lst ds => some ds | .rol ds => some ds | _ => none
theorem fixL_ok {K : PySem.W.Frag} {mg : Str → Option Value} {B : Addr → Prop} {ρ : List Addr} {H : Hp} {d : D} {v : V} {ds : List D} (r : Rep ⟨K, mg⟩ B ρ H d v) (h : fixL d = some ds) : ∃ a vs, v = .ref a ∧ (∀ ρ' H', Ext ρ H ρ' H' → SqL K H' a vs) ∧ RepL ⟨K, mg⟩ B ρ H ds vs := by
  unfold fixL at h
  split at h
  · cases h
    simp only [Rep] at r
    obtain ⟨a, vs, e, h1, h2, h3⟩ := r
    exact ⟨a, vs, e, fun ρ' H' x => SqL.of (x.keep a _ h1 h2.1), h3⟩
  · cases h
    simp only [Rep] at r
    obtain ⟨a, vs, e, ⟨h1 | ⟨o, h1⟩, h2⟩ | h1, h3⟩ := r
    · exact ⟨a, vs, e, fun ρ' H' x => SqL.of (x.keep a _ h1 h2.1), h3⟩
    · exact ⟨a, vs, e, fun ρ' H' x => .inl (.inr ⟨o, x.keep a _ h1 h2.1⟩), h3⟩
    · exact ⟨a, vs, e, fun ρ' H' x => .inr h1, h3⟩
  · cases h
theorem tup_fix {K : PySem.W.Frag} {mg : Str → Option Value} {B : Addr → Prop} {ρ : List Addr} {H : Hp} {v : V} {ds : List D} (r : Rep ⟨K, mg⟩ B ρ H (.tup ds) v) : ∃ a vs, v = .ref a ∧ (∀ ρ' H', Ext ρ H ρ' H' → SqT K H' a vs) ∧ RepL ⟨K, mg⟩ B ρ H ds vs := by
  simp only [Rep] at r
  obtain ⟨a, vs, e, h1 | h1, h3⟩ := r
  · exact ⟨a, vs, e, fun ρ' H' x => SqT.of (x.keep a _ h1.1 h1.2.1), h3⟩
  · exact ⟨a, vs, e, fun ρ' H' x => .inr h1, h3⟩
def mItL (m : M) : ML := fun env S => (m env S).bind fun d S1 => Rs.of (fixL d) S1
def mItT (m : M) : ML := fun env S => (m env S).bind fun d S1 => match d with | .tup ds => .ok ds S1 | _ => .err
theorem si_list {l tg : Expr} {m : M} (hl : SE X W l m) : SI X W tg l (mItL m) :=
  PI.imp (pi_list hl) fun σ H R h => by
    obtain ⟨B, env, S, ρ, eo, so, P⟩ := h
    refine ⟨B, env, S, ρ, eo, so, Post.mono P.bind (fun d S1 ρ1 H1 e1 s1 P1 v r => ?_) (fun _ _ _ z => z)⟩
    cases q : fixL d with
    | none => rw [q] at P1; exact P1.elim
    | some ds =>
      rw [q] at P1
      obtain ⟨a, vs, rfl, h1, h2⟩ := fixL_ok r q
      refine ⟨a, rfl, ⟨vs, h1 ρ1 H1 Ext.refl⟩, P1 ρ1 H1 Ext.refl s1 _ fun B' hB1 hB ρ2 H2 e2 => ?_⟩
      exact src_seq (fun ρ' H' x => h1 ρ' H' (e2.trans x)) ((RepL.wide hB h2).mono e2)
theorem si_tup {l tg : Expr} {m : M} (hl : SE X W l m) : SI X W tg l (mItT m) :=
  PI.imp (pi_tup hl) fun σ H R h => by
    obtain ⟨B, env, S, ρ, eo, so, P⟩ := h
    refine ⟨B, env, S, ρ, eo, so, Post.mono P.bind (fun d S1 ρ1 H1 e1 s1 P1 v r => ?_) (fun _ _ _ z => z)⟩
    split at P1
    · obtain ⟨a, vs, rfl, h1, h2⟩ := tup_fix r
      refine ⟨a, rfl, ⟨vs, h1 ρ1 H1 Ext.refl⟩, P1 ρ1 H1 Ext.refl s1 _ fun B' hB1 hB ρ2 H2 e2 => ?_⟩
      exact src_tup (fun ρ' H' x => h1 ρ' H' (e2.trans x)) ((RepL.wide hB h2).mono e2)
    · exact P1.elim
def rngD (lo : Int) (n : Nat) : List D := (List.range n).map fun (i : Nat) => D.int (lo + (i : Int))
theorem src_rng {G : GC} {B : Addr → Prop} {ρ : List Addr} {H : Hp} {lo : Int} {n : Nat} : Src G B (Itr lo n) (rngD lo n) ρ H where
  go := fun ρ' H' S e s i hi => by
    unfold rngD at hi
    have h : i < n := by simpa using hi
    exact h
  stop := fun ρ' H' S e s => by show n ≤ _; unfold rngD; simp
  yld := fun ρ' H' S i x H2 d e s hd y => by
    obtain ⟨rfl, rfl⟩ := y
    unfold rngD at hd
    simp only [List.getElem?_map, Option.map_eq_some_iff] at hd
    obtain ⟨j, h1, rfl⟩ := hd
    have := List.getElem?_eq_some_iff.mp h1
    obtain ⟨h2, h3⟩ := this
    simp at h3
    subst h3
    exact ⟨Same.refl _, by simp only [Rep]⟩
def rngOk (i : Int) : Bool := Nat.blt i.natAbs 4000000000000000000
def mRng1 (m : ML) : ML := fun env S => (m env S).bind fun ds S1 => match ds with | [.int j] => if rngOk j then .ok (rngD 0 j.toNat) S1 else .err | _ => .err
def mRng2 (m : ML) : ML := fun env S => (m env S).bind fun ds S1 => match ds with | [.int i, .int j] => if rngOk i && rngOk j then .ok (rngD i (j - i).toNat) S1 else .err | _ => .err
theorem rngOk_ok {i : Int} (h : rngOk i = true) : -(2 ^ 62) ≤ i ∧ i < 2 ^ 62 := by
  have := Nat.le_of_ble_eq_true h
  omega
theorem si_range1 {a tg : Expr} {m : ML} {p pos : Pos} (hm : X.mg "range" = none) (ha : SA X W [a] m) (hg : Gl X "range" := by rfl) (hs : starEach [a] X.env = [(false, eval a X.env)] := by rfl) : SI X W tg (.Call (.Name "range" p) [a] [] pos) (mRng1 m) :=
  PI.imp (pi_range1 hg hm ha hs) fun σ H R h => by
    obtain ⟨B, env, S, ρ, eo, so, P⟩ := h
    refine ⟨B, env, S, ρ, eo, so, Post.mono P.bind (fun ds S1 ρ1 H1 e1 s1 P1 vs rs => ?_) (fun _ _ _ z => z)⟩
    split at P1
    · split at P1
      · rename_i j hz
        obtain ⟨v, rfl, r1⟩ := repL1 rs
        simp only [Rep] at r1
        subst r1
        obtain ⟨h1, h2⟩ := rngOk_ok hz
        exact ⟨j, rfl, h1, h2, P1 ρ1 H1 Ext.refl s1 _ fun B' hB1 hB ρ2 H2 e2 => src_rng⟩
      · exact P1.elim
    · exact P1.elim
theorem si_range2 {a b tg : Expr} {m : ML} {p pos : Pos} (hm : X.mg "range" = none) (ha : SA X W [a, b] m) (hg : Gl X "range" := by rfl) (hs : starEach [a, b] X.env = [(false, eval a X.env), (false, eval b X.env)] := by rfl) (hs2 : starEach [b] X.env = [(false, eval b X.env)] := by rfl) : SI X W tg (.Call (.Name "range" p) [a, b] [] pos) (mRng2 m) :=
  PI.imp (pi_range2 hg hm ha hs hs2) fun σ H R h => by
    obtain ⟨B, env, S, ρ, eo, so, P⟩ := h
    refine ⟨B, env, S, ρ, eo, so, Post.mono P.bind (fun ds S1 ρ1 H1 e1 s1 P1 vs rs => ?_) (fun _ _ _ z => z)⟩
    split at P1
    · split at P1
      · rename_i i j hz
        simp only [Bool.and_eq_true] at hz
        obtain ⟨v, w, rfl, r1, r2⟩ := repL2 rs
        simp only [Rep] at r1 r2
        subst r1 r2
        obtain ⟨h1, h2⟩ := rngOk_ok hz.1
        obtain ⟨h3, h4⟩ := rngOk_ok hz.2
        exact ⟨i, j, rfl, ⟨h1, h2, h3, h4⟩, P1 ρ1 H1 Ext.refl s1 _ fun B' hB1 hB ρ2 H2 e2 => src_rng⟩
      · exact P1.elim
    · exact P1.elim
end
end Ev

/-! Ev, part 5: targets, list comprehensions, statements. -/
namespace Ev
open PySem L2
section
variable {X : Cx} {W : WX}

/-! ### targets -/
abbrev MG := D → En → Sto → Option (En × Sto)
abbrev MGs := List D → En → Sto → Option (En × Sto)
/-- slots but ts are as they were -/
def Kept (ts : List Nat) (σ σ' : L2.St) : Prop := σ'.length = σ.length ∧ ∀ i, i ∉ ts → σ'[i]? = σ[i]?
def PostG (G : GC) (B : Addr → Prop) (ρ : List Addr) (H : Hp) (ts : List Nat) (σ : L2.St) (r : Option (En × Sto)) (Q : L2.St → Hp → Prop) : Prop :=
  match r with
  | some (e', S') => ∀ σ' ρ' H', Ext ρ H ρ' H' → SOk G B S' ρ' H' → EnvOk G B ρ' H' e' σ' → Kept ts σ σ' → Q σ' H'
  | none => False
def tG (G : GC) (g : MG) (ts : List Nat) : TG := fun v σ H Q => ∃ B env S ρ d, EnvOk G B ρ H env σ ∧ SOk G B S ρ H ∧ Rep G B ρ H d v ∧ PostG G B ρ H ts σ (g d env S) Q
def tGs (G : GC) (g : MGs) (ts : List Nat) : TGs := fun vs σ H Q => ∃ B env S ρ ds, EnvOk G B ρ H env σ ∧ SOk G B S ρ H ∧ RepL G B ρ H ds vs ∧ PostG G B ρ H ts σ (g ds env S) Q
abbrev SG (X : Cx) (tg : Expr) (g : MG) (ts : List Nat) : Prop := PG X tg (tG ⟨X.K, X.mg⟩ g ts)
abbrev SGs (X : Cx) (tg : List Expr) (g : MGs) (ts : List Nat) : Prop := PGs X tg (tGs ⟨X.K, X.mg⟩ g ts)
theorem PG.imp {x : Expr} {t u : TG} (h : PG X x t) (hi : ∀ v σ H Q, u v σ H Q → t v σ H Q) : PG X x u := ⟨fun pins s σ H v w Q I r q => h.run pins s σ H v w Q I r (hi v σ H Q q)⟩
theorem PGs.imp {x : List Expr} {t u : TGs} (h : PGs X x t) (hi : ∀ v σ H Q, u v σ H Q → t v σ H Q) : PGs X x u := ⟨fun pins s σ H v w Q I r q => h.run pins s σ H v w Q I r (hi v σ H Q q)⟩
def gNm (i : Nat) : MG := fun d env S => some (env.set i (some d), S)
theorem kept_set {σ : L2.St} {i : Nat} {v : Option V} : Kept [i] σ (σ.set i v) := ⟨List.length_set, fun j hj => List.getElem?_set_ne (fun e => hj (by simp [e]))⟩
theorem sg_name (i : Nat) {x : Str} {pos : Pos} (hN : X.N.Nodup) (hi : X.N[i]? = some x := by rfl) (hx : Loc X.env.scope x := by first | exact Or.inl rfl | exact Or.inr rfl) (hf : X.fn x = true ∨ X.env.scope.names.lookup x = some .local := by first | exact .inl rfl | exact .inr rfl | assumption) : SG X (.Name x pos) (gNm i) [i] :=
  PG.imp (pg_name hN hi hx hf) fun v σ H Q h => by
    obtain ⟨B, env, S, ρ, d, eo, so, r, P⟩ := h
    exact P _ ρ H Ext.refl so (eo.set r i) kept_set
def gsNil : MGs := fun ds env S => match ds with | [] => some (env, S) | _ => none
def gsCons (g : MG) (r : MGs) : MGs := fun ds env S => match ds with | d :: ds => (g d env S).bind fun p => r ds p.1 p.2 | _ => none
theorem sgs_nil : SGs X [] gsNil [] := PGs.imp pgs_nil fun vs σ H Q h => by
  obtain ⟨B, env, S, ρ, ds, eo, so, r, P⟩ := h
  unfold gsNil at P
  split at P
  · simp only [RepL] at r
    exact ⟨r, P σ ρ H Ext.refl so eo ⟨rfl, fun _ _ => rfl⟩⟩
  · exact P.elim
theorem sgs_cons {e : Expr} {es : List Expr} {g : MG} {gs : MGs} {ts us : List Nat} (h1 : SG X e g ts) (h2 : SGs X es gs us) (hs : (assignEach (e :: es) X.env).map (·.2) = assign e X.env :: (assignEach es X.env).map (·.2) := by rfl) : SGs X (e :: es) (gsCons g gs) (ts ++ us) :=
  PGs.imp (pgs_cons h1 h2 hs) fun vs σ H Q h => by
    obtain ⟨B, env, S, ρ, ds, eo, so, r, P⟩ := h
    unfold gsCons at P
    split at P
    · rename_i d ds
      simp only [RepL] at r
      obtain ⟨v, w, rfl, r1, r2⟩ := r
      refine ⟨v, w, rfl, B, env, S, ρ, d, eo, so, r1, ?_⟩
      cases q : g d env S with
      | none => rw [q] at P; exact P.elim
      | some p =>
        obtain ⟨e', S'⟩ := p
        rw [q] at P
        refine fun σ' ρ' H' x s' eo' k => ⟨B, e', S', ρ', ds, eo', s', r2.mono x, ?_⟩
        have P : PostG ⟨X.K, X.mg⟩ B ρ H (ts ++ us) σ (gs ds e' S') Q := P
        unfold PostG at P ⊢
        split at P
        · rename_i q2
          exact fun σ2 ρ2 H2 x2 s2 eo2 k2 => P σ2 ρ2 H2 (x.trans x2) s2 eo2 ⟨k2.1.trans k.1, fun i hi => by
            rw [k2.2 i (fun z => hi (List.mem_append_right _ z)), k.2 i (fun z => hi (List.mem_append_left _ z))]⟩
        · exact P.elim
    · exact P.elim
def gTp (n : Nat) (g : MGs) : MG := fun d env S => match d with | .tup ds => if ds.length = n then g ds env S else none | _ => none
theorem sg_tup {es : List Expr} {k : Nat} {g : MGs} {n : Nat} {ts : List Nat} {pos : Pos} (hc : X.calm = true) (h : SGs X es g ts) (hn : (assignEach es X.env).length = n := by rfl) (hst : (assignEach es X.env).findIdx? (·.1) = none := by rfl) : SG X (.Tuple es k pos) (gTp n g) ts :=
  PG.imp (pg_tup hc h hn hst) fun v σ H Q h => by
    obtain ⟨B, env, S, ρ, d, eo, so, r, P⟩ := h
    unfold gTp at P
    split at P
    · split at P
      · rename_i ds hl
        obtain ⟨a, vs, rfl, h1, h2⟩ := tup_ok r
        exact ⟨a, vs, rfl, h1, by rw [← h2.length]; exact hl, B, env, S, ρ, ds, eo, so, h2, P⟩
      · exact P.elim
    · exact P.elim
/-- o[i] = .. -/
def gSb (o i : M) : MG := fun d env S => match o env S with
  | .ok (.ref n) S1 => match i env S1 with
    | .ok (.int k) S2 => match S2[n]? with
      | some (.lst ds) => match ixN ds.length k with
        | some j => some (env, S2.set n (.lst (ds.set j d)))
        | none => none
      | _ => none
    | _ => none
  | _ => none
theorem sg_sub {o i : Expr} {mo mi : M} {pos : Pos} (ho : SE X W o mo) (hi : SE X W i mi)
    (ha : ∀ v, assign (.Subscript o i pos) X.env v = (do
      let ov ← holding [v] (eval o X.env)
      let iv ← holding [v, ov] (eval i X.env)
      standAt pos
      holding [v, ov, iv] (setItem ov iv v)
      release [v, ov, iv] []) := by intro _; rfl) : SG X (.Subscript o i pos) (gSb mo mi) [] :=
  PG.imp (pg_sub ho hi set_list ha) fun v σ H Q h => by
    obtain ⟨B, env, S, ρ, d, eo, so, r, P⟩ := h
    unfold gSb at P
    split at P
    · rename_i n S1 q1
      split at P
      · rename_i k S2 q2
        split at P
        · rename_i ds q3
          split at P
          · rename_i j q4
            refine ⟨B, env, S, ρ, eo, so, ?_⟩
            rw [q1]
            refine fun ρ1 H1 e1 s1 vo ro => ⟨B, env, S1, ρ1, eo.mono e1, s1, ?_⟩
            rw [q2]
            refine fun ρ2 H2 e2 s2 vi ri => ?_
            have ro := ro.mono e2
            simp only [Rep] at ro ri
            obtain ⟨a, rfl, hn⟩ := ro
            subst ri
            obtain ⟨vs, h1, h2⟩ := s2.ob _ _ _ q3 hn
            have hm : a ∈ ρ2 := List.mem_iff_getElem?.mpr ⟨n, hn⟩
            have r2 : Rep ⟨X.K, X.mg⟩ B ρ2 (upd H2 a (.lst (vs.set j v))) d v := ((r.mono e1).mono e2).mono (Ext.write hm)
            refine ⟨a, vs, k, j, rfl, rfl, h1, by rw [← h2.length]; exact q4, ?_⟩
            exact P σ ρ2 _ ((e1.trans e2).trans (Ext.write hm)) (s2.write hn ⟨_, upd_same, RepL.set j (h2.mono (Ext.write hm)) r2⟩) (((eo.mono e1).mono e2).mono (Ext.write hm)) ⟨rfl, fun _ _ => rfl⟩
          · exact P.elim
        · exact P.elim
      · exact P.elim
    · exact P.elim

/-! ### list comprehensions -/
def wipeE (env : En) : List Nat → En
  | [] => env
  | v :: vs => (wipeE env vs).set v none
theorem wipe_kept {ts vs : List Nat} (h : ∀ i ∈ ts, i ∈ vs) {σ σ' : L2.St} (k : Kept ts σ σ') : wipe σ' vs = wipe σ vs := by
  have key : ∀ (vs : List Nat) (σ : L2.St) (i : Nat), (wipe σ vs)[i]? = if i ∈ vs then (if i < σ.length then some none else none) else σ[i]? := by
    intro vs
    induction vs with
    | nil => intro σ i; simp [wipe]
    | cons v vs ih =>
      intro σ i
      unfold wipe
      by_cases hv : v = i
      · subst hv
        rw [List.getElem?_set_self']
        rw [ih]
        by_cases hl : v < σ.length
        · by_cases hm : v ∈ vs <;> simp [hm, hl]
        · by_cases hm : v ∈ vs <;> simp [hm, hl]
      · rw [List.getElem?_set_ne hv, ih]
        have hv' : ¬ i = v := fun e => hv e.symm
        simp [hv']
  apply List.ext_getElem?
  intro i
  rw [key, key, k.1]
  by_cases hi : i ∈ vs
  · rw [if_pos hi, if_pos hi]
  · rw [if_neg hi, if_neg hi, k.2 i (fun z => hi (h i z))]
theorem EnvOk.wipe {G : GC} {B : Addr → Prop} {ρ : List Addr} {H : Hp} {env : En} {σ : L2.St} (x : EnvOk G B ρ H env σ) : ∀ vs : List Nat, EnvOk G B ρ H (wipeE env vs) (L2.wipe σ vs)
  | [] => x
  | v :: vs => by
    have y := EnvOk.wipe x vs
    refine ⟨by unfold wipeE L2.wipe; rw [List.length_set, List.length_set]; exact y.len, fun i d h => ?_⟩
    unfold wipeE at h
    unfold L2.wipe
    by_cases hv : v = i
    · subst hv
      rw [List.getElem?_set_self'] at h
      cases q : (wipeE env vs)[v]? with
      | none => rw [q] at h; simp at h
      | some u => rw [q] at h; simp at h
    · rw [List.getElem?_set_ne hv] at h
      rw [List.getElem?_set_ne hv]
      exact y.at_ i d h
theorem wipe_wipe (σ : L2.St) (vs : List Nat) : wipe (wipe σ vs) vs = wipe σ vs := wipe_kept (ts := vs) (fun _ h => h) (by
  have : ∀ vs : List Nat, Kept vs σ (wipe σ vs) := fun vs => by
    induction vs with
    | nil => exact ⟨rfl, fun _ _ => rfl⟩
    | cons v vs ih =>
      unfold wipe
      refine ⟨by rw [List.length_set]; exact ih.1, fun i hi => ?_⟩
      rw [List.getElem?_set_ne (fun e => hi (by simp [e])), ih.2 i (fun z => hi (List.mem_cons_of_mem _ z))]
  exact this vs)
abbrev mYes : MT := fun _ S => .ok true S
/-- the turns: n items are there -/
def lcGo (g : MG) (mt : MT) (me : M) (env : En) : Nat → List D → Sto → Rs (List D)
  | _, [], S => .ok [] S
  | n, d :: ds, S => match g d env S with
    | none => .err
    | some (e', S1) => match mt e' S1 with
      | .ok true S2 => match me e' S2 with
        | .ok y S3 => if room n then match lcGo g mt me env (n + 1) ds S3 with
          | .ok ys S4 => .ok (y :: ys) S4
          | _ => .err else .err
        | _ => .err
      | .ok false S2 => lcGo g mt me env n ds S2
      | _ => .err
def mLC (mi : ML) (g : MG) (mt : MT) (me : M) (vs : List Nat) : M := fun env S => (mi env S).bind fun ds S1 => match lcGo g mt me (wipeE env vs) 0 ds S1 with
  | .ok ys S2 => .ok (.lst ys) S2
  | _ => .err
/-- no exception leaves a block -/
abbrev W0 : WX := fun _ _ _ _ => False
theorem Post.noX {α : Type} {G : GC} {B : Addr → Prop} {ρ : List Addr} {H : Hp} {a : α} {S' : Sto} {r : Rs α} {k : α → Sto → List Addr → Hp → Prop} {x : Addr → Option Addr → Hp → Prop} (e : r = .ok a S') (h : ∀ ρ' H', Ext ρ H ρ' H' → SOk G B S' ρ' H' → k a S' ρ' H') : Post G B ρ H r k x := by
  subst e; exact h
/-- the new list grows: what does not lean on it stays -/
theorem grow_rep {G : GC} {B : Addr → Prop} {ρ : List Addr} {H : Hp} {D0 : Addr} {o : HO} {d : D} {v : V} (hB : B D0) (r : Rep G B ρ H d v) : Rep G B ρ (upd H D0 o) d v :=
  r.move (fun _ _ h => h) fun a u x q => ⟨by rw [upd_ne (fun z : a = D0 => x.2 (z ▸ hB))]; exact q, x⟩
theorem grow_repL {G : GC} {B : Addr → Prop} {ρ : List Addr} {H : Hp} {D0 : Addr} {o : HO} {d : List D} {v : List V} (hB : B D0) (r : RepL G B ρ H d v) : RepL G B ρ (upd H D0 o) d v :=
  r.move (fun _ _ h => h) fun a u x q => ⟨by rw [upd_ne (fun z : a = D0 => x.2 (z ▸ hB))]; exact q, x⟩
theorem grow_sok {G : GC} {B : Addr → Prop} {S : Sto} {ρ : List Addr} {H : Hp} {D0 : Addr} {o : HO} (hB : B D0) (hρ : D0 ∉ ρ) (s : SOk G B S ρ H) : SOk G B S ρ (upd H D0 o) := by
  refine ⟨s.len, s.nd, fun a b => ?_, s.dis, fun n u a h1 h2 => ?_⟩
  · by_cases e : a = D0
    · exact ⟨o, by rw [e, upd_same]⟩
    · obtain ⟨w, q⟩ := s.b a b
      exact ⟨w, by rw [upd_ne e]; exact q⟩
  · have hne : a ≠ D0 := fun z => hρ (z ▸ List.mem_iff_getElem?.mpr ⟨n, h2⟩)
    have q := s.ob n u a h1 h2
    cases u with
    | lst ds => obtain ⟨vs, h, r⟩ := q; exact ⟨vs, by rw [upd_ne hne]; exact h, grow_repL hB r⟩
    | ins c ns ds => obtain ⟨C, dx, fs, h, g, f, r⟩ := q; exact ⟨C, dx, fs, by rw [upd_ne hne]; exact h, g, f, grow_repL hB r⟩
theorem grow_env {G : GC} {B : Addr → Prop} {ρ : List Addr} {H : Hp} {D0 : Addr} {o : HO} {env : En} {σ : L2.St} (hB : B D0) (x : EnvOk G B ρ H env σ) : EnvOk G B ρ (upd H D0 o) env σ :=
  ⟨x.len, fun i d h => let ⟨v, h1, h2⟩ := x.at_ i d h; ⟨v, h1, grow_rep hB h2⟩⟩
theorem SOk.wide {G : GC} {B B' : Addr → Prop} {S : Sto} {ρ : List Addr} {H H' : Hp} (s : SOk G B S ρ H) (hB : ∀ a, B' a → ¬ B a → H a = none) (hT : ∀ a, B' a → ∃ o, H' a = some o) (k : Same H H') : SOk G B' S ρ H' := by
  refine ⟨s.len, s.nd, hT, fun a m b => ?_, fun n u a h1 h2 => ?_⟩
  · obtain ⟨o, q⟩ := s.there m
    rw [hB a b (s.dis a m)] at q; cases q
  have q := s.ob n u a h1 h2
  cases u with
  | lst ds => obtain ⟨vs, h, r⟩ := q; exact ⟨vs, k a _ h, (RepL.wide hB r).mono (Ext.of_same k)⟩
  | ins c ns ds => obtain ⟨C, dx, fs, h, g, f, r⟩ := q; exact ⟨C, dx, fs, k a _ h, g, f, (RepL.wide hB r).mono (Ext.of_same k)⟩
theorem EnvOk.wide {G : GC} {B B' : Addr → Prop} {ρ : List Addr} {H : Hp} {env : En} {σ : L2.St} (x : EnvOk G B ρ H env σ) (hB : ∀ a, B' a → ¬ B a → H a = none) : EnvOk G B' ρ H env σ :=
  ⟨x.len, fun i d h => let ⟨v, h1, h2⟩ := x.at_ i d h; ⟨v, h1, Rep.wide hB h2⟩⟩
theorem Rep.narrow {G : GC} {B B' : Addr → Prop} {ρ : List Addr} {H : Hp} {d : D} {v : V} (hB : ∀ a, B a → B' a) (r : Rep G B' ρ H d v) : Rep G B ρ H d v := r.move (fun _ _ h => h) fun a o x q => ⟨q, x.1, fun b => x.2 (hB a b)⟩
theorem RepL.narrow {G : GC} {B B' : Addr → Prop} {ρ : List Addr} {H : Hp} {d : List D} {v : List V} (hB : ∀ a, B a → B' a) (r : RepL G B' ρ H d v) : RepL G B ρ H d v := r.move (fun _ _ h => h) fun a o x q => ⟨q, x.1, fun b => x.2 (hB a b)⟩
theorem SOk.narrow {G : GC} {B B' : Addr → Prop} {S : Sto} {ρ : List Addr} {H : Hp} (hB : ∀ a, B a → B' a) (s : SOk G B' S ρ H) : SOk G B S ρ H := by
  refine ⟨s.len, s.nd, fun a b => s.b a (hB a b), fun a m b => s.dis a m (hB a b), fun n u a h1 h2 => ?_⟩
  have q := s.ob n u a h1 h2
  cases u with
  | lst ds => obtain ⟨vs, h, r⟩ := q; exact ⟨vs, h, r.narrow hB⟩
  | ins c ns ds => obtain ⟨C, dx, fs, h, g, f, r⟩ := q; exact ⟨C, dx, fs, h, g, f, r.narrow hB⟩

/-- the reading of a comprehension -/
theorem tE_lc {G : GC} {mi : ML} {g : MG} {mt : MT} {me : M} {ts vs : List Nat} (hts : ∀ i ∈ ts, i ∈ vs) : ∀ σ H Q, tE G W (mLC mi g mt me vs) σ H Q → tLc (tI G W mi) (tG G g ts) (tT G W0 mt) (tE G W0 me) vs σ H Q := fun σ H Q h => by
  obtain ⟨B, env, S, ρ, eo, so, P⟩ := h
  refine ⟨B, env, S, ρ, eo, so, Post.mono P.bind (fun ds S1 ρ1 H1 e1 s1 P1 J hJ D0 hD => ?_) (fun _ _ _ z => z)⟩
  cases qr : lcGo g mt me (wipeE env vs) 0 ds S1 with
  | exc c p S2 => rw [qr] at P1; exact P1.elim
  | err => rw [qr] at P1; exact P1.elim
  | ok ys S9 =>
  rw [qr] at P1
  have fr := s1.fresh hD
  let B' : Addr → Prop := fun a => B a ∨ a = D0
  have hB1 : ∀ a, B a → B' a := fun a b => .inl b
  have hB2 : ∀ a, B' a → ¬ B a → H1 a = none := fun a b n => by
    rcases b with b | b
    · exact absurd b n
    · rw [b]; exact hD
  have hBD : B' D0 := .inr rfl
  have sameD : Same H1 (upd H1 D0 (.lst [])) := same_laid hD
  have s2 : SOk G B' S1 ρ1 (upd H1 D0 (.lst [])) := s1.wide hB2 (fun a b => by
    rcases b with b | b
    · obtain ⟨o, q⟩ := s1.b a b; exact ⟨o, sameD a o q⟩
    · exact ⟨_, by rw [b, upd_same]⟩) sameD
  have eo2 : EnvOk G B' ρ1 (upd H1 D0 (.lst [])) env σ := ((eo.mono e1).wide hB2).mono (Ext.of_same sameD)
  -- the invariant: by the turn and the heap
  let Pv : Nat → Hp → Prop := fun i H' => ∃ (ρ' : List Addr) (S' : Sto) (acc : List D) (avs : List V) (rest : List D), i ≤ ds.length ∧ (∀ (n : Nat) (a : Addr), ρ1[n]? = some a → ρ'[n]? = some a) ∧ (∀ a o, H1 a = some o → a ∉ ρ1 → H' a = some o) ∧ (∀ a, a ∈ ρ' → a ∉ ρ1 → H1 a = none) ∧ D0 ∉ ρ' ∧
    SOk G B' S' ρ' H' ∧ EnvOk G B' ρ' H' env σ ∧ H' D0 = some (.lst avs) ∧ RepL G B' ρ' H' acc avs ∧ lcGo g mt me (wipeE env vs) acc.length (ds.drop i) S' = .ok rest S9 ∧ acc ++ rest = ys
  have h0 : Pv 0 (upd H1 D0 (.lst [])) := ⟨ρ1, S1, [], [], ys, Nat.zero_le _, fun _ _ h => h, fun a o q _ => sameD a o q, fun _ h n => absurd h n, fr.1, s2, eo2, upd_same, by simp only [RepL], by simpa using qr, rfl⟩
  refine ⟨fun i m H' => m = ds.length - i ∧ Pv i H', ⟨_, rfl, h0⟩, ?_⟩
  rintro i m H' ⟨rfl, ρ', S', acc, avs, rest, hi, p1, p2, p3, p4, p5, p6, p7, p8, p9, p10⟩
  -- the source, under the wider protected set
  have hsrc : Src G B' J ds ρ' H' := by
    have ex1 : Ext ρ1 H1 ρ' H' := ⟨p1, p2, p3⟩
    exact hJ B' hB1 hB2 ρ' H' ex1
  by_cases hlt : i < ds.length
  · refine .inr ⟨hsrc.go ρ' H' S' Ext.refl p5 i hlt, fun H2 => Pv (i + 1) H2, fun H2 pv => ⟨ds.length - (i + 1), by omega, rfl, pv⟩, fun x H2 y => ?_⟩
    have hd : ds[i]? = some ds[i] := by simp [hlt]
    obtain ⟨k1, r1⟩ := hsrc.yld ρ' H' S' i x H2 ds[i] Ext.refl p5 hd y
    have hdrop : ds.drop i = ds[i] :: ds.drop (i + 1) := (List.drop_eq_getElem_cons hlt)
    rw [hdrop] at p9
    simp only [lcGo] at p9
    have ek := Ext.of_same (ρ := ρ') k1
    have s3 := p5.same k1
    have eo3 := p6.mono ek
    refine ⟨B', wipeE env vs, S', ρ', ds[i], eo3.wipe vs, s3, r1, ?_⟩
    split at p9
    · cases p9
    · rename_i e' S1' qg
      rw [qg]
      refine fun σ2 ρ2 H3 x2 s4 eo4 kp => ⟨(wipe_kept hts kp).trans (wipe_wipe σ vs), B', e', S1', ρ2, eo4, s4, ?_⟩
      split at p9
      · -- kept
        rename_i S2' qt
        refine Post.noX qt fun ρ3 H4 x3 s5 => ?_
        refine iteT ?_
        split at p9
        · rename_i yv S3' qe
          split at p9
          · rename_i hroom
            split at p9
            · rename_i ys' S4' qrest
              cases p9
              refine ⟨B', e', S2', ρ3, eo4.mono x3, s5, Post.noX qe fun ρ4 H5 x4 s6 w rw' => ?_⟩
              have X : Ext ρ' H' ρ4 H5 := ((ek.trans x2).trans x3).trans x4
              have hD5 : H5 D0 = some (.lst avs) := X.keep D0 _ p7 p4
              have hDρ : D0 ∉ ρ4 := X.out p7 p4
              refine ⟨avs, hD5, by rw [← (p8.length)]; exact Nat.lt_of_le_of_lt (Nat.le_of_ble_eq_true hroom) (by rw [sizeLine_eq]; decide), ρ4, S3', acc ++ [yv], avs ++ [w], ys', hlt, ?_, ?_, ?_, hDρ, grow_sok hBD hDρ s6, grow_env hBD (p6.mono X), upd_same, grow_repL hBD (RepL.append (p8.mono X) (by simp only [RepL]; exact ⟨w, [], rfl, rw', rfl⟩)), ?_, ?_⟩
              · exact fun n a q => X.pre n a (p1 n a q)
              · exact fun a o q n => by
                  have hne : a ≠ D0 := fun z => by rw [z, hD] at q; cases q
                  rw [upd_ne hne]
                  have q2 := p2 a o q n
                  exact X.keep a o q2 (fun z => by rw [p3 a z n] at q; cases q)
              · exact fun a m n => by
                  by_cases hm : a ∈ ρ'
                  · exact p3 a hm n
                  · have z := X.new a m hm
                    cases q : H1 a with
                    | none => rfl
                    | some o => rw [p2 a o q n] at z; cases z
              · simpa using qrest
              · rw [List.append_assoc]; exact p10
            · cases p9
          · cases p9
        · cases p9
      · -- left out
        rename_i S2' qt
        refine Post.noX qt fun ρ3 H4 x3 s5 => ?_
        refine iteF ?_
        have X : Ext ρ' H' ρ3 H4 := (ek.trans x2).trans x3
        have hD5 : H4 D0 = some (.lst avs) := X.keep D0 _ p7 p4
        have hDρ : D0 ∉ ρ3 := X.out p7 p4
        refine ⟨ρ3, S2', acc, avs, rest, hlt, fun n a q => X.pre n a (p1 n a q), fun a o q n => ?_, fun a m n => ?_, hDρ, s5, p6.mono X, hD5, p8.mono X, p9, p10⟩
        · have q2 := p2 a o q n
          exact X.keep a o q2 (fun z => by rw [p3 a z n] at q; cases q)
        · by_cases hm : a ∈ ρ'
          · exact p3 a hm n
          · have z := X.new a m hm
            cases q : H1 a with
            | none => rfl
            | some o => rw [p2 a o q n] at z; cases z
      · cases p9
  · have e : i = ds.length := by omega
    subst e
    refine .inl ⟨hsrc.stop ρ' H' S' Ext.refl p5, ?_⟩
    rw [List.drop_length] at p9
    simp only [lcGo] at p9
    cases p9
    rw [List.append_nil] at p10
    subst p10
    exact P1 ρ' H' ⟨p1, p2, p3⟩ (p5.narrow hB1) _ (by
      simp only [Rep]
      exact ⟨D0, avs, rfl, p7, ⟨p4, fr.2⟩, p8.narrow hB1⟩)
end
end Ev

/-! Ev, part 6: comprehensions as expressions, statements, calls of defs, what a def promises. -/
namespace Ev
open PySem L2
section
variable {X : Cx} {W : WX}
theorem se_lc {elt tg iter : Expr} {ifs : List Expr} {scope : Scope} {own : List (Str × Nat)} {pos : Pos} {mi : ML} {g : MG} {mt : MT} {me : M} {ts : List Nat} (hc : X.calm = true) (hN : X.N.Nodup) (hi : SI X W tg iter mi) (ok : BlkOk X.N X.env.scope scope own)
    (hg : ∀ (s : Shared) (H : Hp) (C : Addr) (cl : List (Str × Addr)) (fp : List Addr), SG (X.blk s H scope (compEnvC scope cl C X.env) fp) tg g ts) (ht : ∀ (s : Shared) (H : Hp) (C : Addr) (cl : List (Str × Addr)) (fp : List Addr), PTs (X.blk s H scope (compEnvC scope cl C X.env) fp) ifs (tT ⟨X.K, X.mg⟩ W0 mt))
    (he : ∀ (s : Shared) (H : Hp) (C : Addr) (cl : List (Str × Addr)) (fp : List Addr), SE (X.blk s H scope (compEnvC scope cl C X.env) fp) W0 elt me) (hts : ∀ i ∈ ts, i ∈ own.map (·.2) := by decide) (hs : ∀ x, foldedSetIterable iter X.env x = pure x := by intro _; rfl) :
    SE X W (.ListComp elt [⟨tg, iter, ifs, 0⟩] scope pos) (mLC mi g mt me (own.map (·.2))) :=
  PE.imp (pe_lc hc hN hi ok hg ht he hs) (tE_lc hts)
theorem sts_nil {X : Cx} {W : WX} : PTs X [] (tT ⟨X.K, X.mg⟩ W mYes) := ⟨fun pins s σ H Q I h => by
  obtain ⟨B, env, S, ρ, eo, so, P⟩ := h
  exact pts_nil.run pins s σ H Q I (P ρ H Ext.refl so)⟩
theorem sts_one {c : Expr} {m : MT} (h : ST X W c m) : PTs X [c] (tT ⟨X.K, X.mg⟩ W m) := pts_one h

theorem Post.ext1 {α : Type} {G : GC} {B : Addr → Prop} {ρ ρ1 : List Addr} {H H1 : Hp} {r : Rs α} {k : α → Sto → List Addr → Hp → Prop} {x : Addr → Option Addr → Hp → Prop} (h : Post G B ρ H r k x) (e : Ext ρ H ρ1 H1) : Post G B ρ1 H1 r k x := by
  cases r with
  | ok a S => exact fun ρ' H' e2 => h ρ' H' (e.trans e2)
  | exc c p S => exact fun ρ' H' C d e2 => h ρ' H' C d (e.trans e2)
  | err => exact h

/-! ### statements -/
def lft {α : Type} (r : Rs α) (env : En) (k : α → Sto → Option (Fl × Sto)) : Option (Fl × Sto) :=
  match r with
  | .ok a S => k a S
  | .exc c p S => some (.xc env c p, S)
  | .err => none
@[simp] theorem lft_ok {α : Type} (a : α) (S : Sto) (env : En) (k : α → Sto → Option (Fl × Sto)) : lft (.ok a S) env k = k a S := rfl
@[simp] theorem lft_exc {α : Type} (c : Str) (p : Option (List Str × List D)) (S : Sto) (env : En) (k : α → Sto → Option (Fl × Sto)) : lft (.exc c p S : Rs α) env k = some (.xc env c p, S) := rfl
@[simp] theorem lft_err {α : Type} (env : En) (k : α → Sto → Option (Fl × Sto)) : lft (.err : Rs α) env k = none := rfl
theorem PostS.lft {α : Type} {G : GC} {W : WX} {B : Addr → Prop} {ρ : List Addr} {H : Hp} {r : Rs α} {env : En} {σ : L2.St} {k : α → Sto → Option (Fl × Sto)} {D : Ends} (h : PostS G W B ρ H (Ev.lft r env k) D) (eo : EnvOk G B ρ H env σ) :
    Post G B ρ H r (fun a S' ρ' H' => PostS G W B ρ' H' (k a S') D) fun C d H' => W (.ref C) d σ H' := by
  cases r with
  | ok a S => exact fun ρ' H' e s => PostS.ext h e
  | exc c p S => exact fun ρ' H' C d e s q => h σ ρ' H' C d e s (eo.mono e) q
  | err => exact h
def mSkip : MS := fun env S => some (.nx env, S)
def mSeq (a b : MS) : MS := fun env S => match a env S with
  | some (.nx e', S') => b e' S'
  | r => r
theorem sss_nil : SSs X W [] mSkip := PSs.imp pss_nil fun D σ H h => by
  obtain ⟨B, env, S, ρ, eo, so, P⟩ := h
  exact P σ ρ H Ext.refl so eo
theorem sss_cons {st : Stmt} {rest : List Stmt} {ma mb : MS} (ha : SS X W st ma) (hb : SSs X W rest mb) : SSs X W (st :: rest) (mSeq ma mb) := PSs.imp (pss_cons ha hb) fun D σ H h => by
  obtain ⟨B, env, S, ρ, eo, so, P⟩ := h
  refine ⟨B, env, S, ρ, eo, so, ?_⟩
  have P : PostS ⟨X.K, X.mg⟩ W B ρ H (mSeq ma mb env S) D := P
  unfold mSeq at P
  cases q : ma env S with
  | none => rw [q] at P; exact P
  | some r =>
    obtain ⟨f, S'⟩ := r
    rw [q] at P
    cases f with
    | nx e' => exact fun σ' ρ' H' e s eo' => ⟨B, e', S', ρ', eo', s, PostS.ext P e⟩
    | rt d => exact P
    | bk e' => exact P
    | ct e' => exact P
    | xc e' c p => exact P
theorem sss_one {st : Stmt} {ma : MS} (ha : SS X W st ma) : SSs X W [st] ma := pss_one ha
def mIfS (c : MT) (a b : MS) : MS := fun env S => lft (c env S) env fun k S1 => if k then a env S1 else b env S1
theorem ss_if {c : Expr} {a b : List Stmt} {mc : MT} {ma mb : MS} {pos : Pos} (hc : ST X W c mc) (ha : SSs X W a ma) (hb : SSs X W b mb) : SS X W (.If c a b pos) (mIfS mc ma mb) := PS.imp (ps_if hc ha hb) fun D σ H h => by
  obtain ⟨B, env, S, ρ, eo, so, P⟩ := h
  refine ⟨B, env, S, ρ, eo, so, Post.mono (PostS.lft P eo) (fun k S1 ρ1 H1 e1 s1 P1 => ?_) (fun _ _ _ z => z)⟩
  cases k with
  | true => exact iteT ⟨B, env, S1, ρ1, eo.mono e1, s1, by simpa using P1⟩
  | false => exact iteF ⟨B, env, S1, ρ1, eo.mono e1, s1, by simpa using P1⟩
def mRet (m : M) : MS := fun env S => lft (m env S) env fun d S1 => some (.rt d, S1)
theorem ss_ret {e : Expr} {m : M} {pos : Pos} (he : SE X W e m) : SS X W (.Return (some e) pos) (mRet m) := PS.imp (ps_ret he) fun D σ H h => by
  obtain ⟨B, env, S, ρ, eo, so, P⟩ := h
  exact ⟨B, env, S, ρ, eo, so, Post.mono (PostS.lft P eo) (fun d S1 ρ1 H1 e1 s1 P1 v r => P1 ρ1 H1 v Ext.refl s1 r) (fun _ _ _ z => z)⟩
def mRetN : MS := fun _ S => some (.rt .non, S)
theorem ss_retN {pos : Pos} : SS X W (.Return none pos) mRetN := PS.imp ps_retN fun D σ H h => by
  obtain ⟨B, env, S, ρ, eo, so, P⟩ := h
  exact P ρ H _ Ext.refl so (by simp only [Rep])
def mDrop (m : M) : MS := fun env S => lft (m env S) env fun _ S1 => some (.nx env, S1)
theorem ss_expr {e : Expr} {m : M} {pos : Pos} (he : SE X W e m) (hs : swapsWith e none pos.line X.env = pure false := by rfl) : SS X W (.Expr e pos) (mDrop m) := PS.imp (ps_expr he hs) fun D σ H h => by
  obtain ⟨B, env, S, ρ, eo, so, P⟩ := h
  exact ⟨B, env, S, ρ, eo, so, Post.mono (PostS.lft P eo) (fun d S1 ρ1 H1 e1 s1 P1 v r => P1 σ ρ1 H1 Ext.refl s1 (eo.mono e1)) (fun _ _ _ z => z)⟩
theorem ss_pass {pos : Pos} : SS X W (.Pass pos) mSkip := PS.imp ps_pass fun D σ H h => by
  obtain ⟨B, env, S, ρ, eo, so, P⟩ := h
  exact P σ ρ H Ext.refl so eo
def mBrk : MS := fun env S => some (.bk env, S)
def mCnt : MS := fun env S => some (.ct env, S)
theorem ss_break {pos : Pos} : SS X W (.Break pos) mBrk := PS.imp ps_break fun D σ H h => by
  obtain ⟨B, env, S, ρ, eo, so, P⟩ := h
  exact P σ ρ H Ext.refl so eo
theorem ss_continue {pos : Pos} : SS X W (.Continue pos) mCnt := PS.imp ps_continue fun D σ H h => by
  obtain ⟨B, env, S, ρ, eo, so, P⟩ := h
  exact P σ ρ H Ext.refl so eo
/-- a statement, a block that is never come to -/
def mNever : MS := fun _ _ => none
theorem ss_never {st : Stmt} : SS X W st mNever := PS.imp ps_never fun D σ H h => by
  obtain ⟨B, env, S, ρ, eo, so, P⟩ := h
  exact P.elim
def mAsg (m : M) (g : MG) : MS := fun env S => lft (m env S) env fun d S1 => match g d env S1 with | some (e', S') => some (.nx e', S') | none => none
theorem tS_asg {m : M} {g : MG} {ts : List Nat} {G : GC} : ∀ D σ H, tS G W (mAsg m g) D σ H → tAsg (tE G W m) (tG G g ts) D σ H := fun D σ H h => by
  obtain ⟨B, env, S, ρ, eo, so, P⟩ := h
  refine ⟨B, env, S, ρ, eo, so, Post.mono (PostS.lft P eo) (fun d S1 ρ1 H1 e1 s1 P1 v r => ⟨B, env, S1, ρ1, d, eo.mono e1, s1, r, ?_⟩) (fun _ _ _ z => z)⟩
  unfold PostG
  cases q : g d env S1 with
  | none => rw [q] at P1; exact P1
  | some p =>
    obtain ⟨e', S'⟩ := p
    rw [q] at P1
    exact fun σ' ρ' H' e s eo' _ => P1 σ' ρ' H' e s eo'
theorem ss_asg {tg e : Expr} {m : M} {g : MG} {ts : List Nat} {pos : Pos} (he : SE X W e m) (hg : SG X tg g ts) (hs : swapsWithSole [tg] e pos.line X.env = pure false := by rfl) (hw : swappedStores [tg] e X.env = pure none := by rfl)
    (h1 : (assignEach [tg] X.env).map (·.2) = [assign tg X.env] := by rfl) : SS X W (.Assign [tg] e pos) (mAsg m g) := PS.imp (ps_asg he hg hs hw h1) tS_asg
theorem ss_set (i : Nat) {x : Str} {e : Expr} {m : M} {pos pos' : Pos} (hN : X.N.Nodup) (he : SE X W e m) (hi : X.N[i]? = some x := by rfl) (hx : Loc X.env.scope x := by first | exact Or.inl rfl | exact Or.inr rfl) (hs : swapsWith e (some (.Name x pos')) pos.line X.env = pure false := by rfl)
    (hf : X.fn x = true ∨ X.env.scope.names.lookup x = some .local := by first | exact .inl rfl | exact .inr rfl | assumption) : SS X W (.Assign [.Name x pos'] e pos) (mAsg m (gNm i)) := PS.imp (ps_set hN hi hx he hs hf) fun D σ H h => by
  have h := tS_asg (ts := [i]) D σ H h
  obtain ⟨B, env, S, ρ, eo, so, P⟩ := h
  refine ⟨B, env, S, ρ, eo, so, Post.mono P (fun d S1 ρ1 H1 e1 s1 P1 v r => ?_) (fun _ _ _ z => z)⟩
  obtain ⟨B2, env2, S2, ρ2, d2, eo2, so2, r2, P2⟩ := P1 v r
  exact P2 _ ρ2 H1 Ext.refl so2 (eo2.set r2 i) kept_set
theorem ss_setLc (i : Nat) {y : Str} {py : Pos} {elt tg iter : Expr} {ifs : List Expr} {scope : Scope} {own : List (Str × Nat)} {pos spos : Pos} {mi : ML} {g : MG} {mt : MT} {me : M} {ts : List Nat} (hc : X.calm = true) (hN : X.N.Nodup)
    (hi : SI X W tg iter mi) (ok : BlkOk X.N X.env.scope scope own)
    (hg : ∀ (s : Shared) (H : Hp) (C : Addr) (cl : List (Str × Addr)) (fp : List Addr), SG (X.blk s H scope (compEnvC scope cl C X.env) fp) tg g ts) (ht : ∀ (s : Shared) (H : Hp) (C : Addr) (cl : List (Str × Addr)) (fp : List Addr), PTs (X.blk s H scope (compEnvC scope cl C X.env) fp) ifs (tT ⟨X.K, X.mg⟩ W0 mt))
    (he : ∀ (s : Shared) (H : Hp) (C : Addr) (cl : List (Str × Addr)) (fp : List Addr), SE (X.blk s H scope (compEnvC scope cl C X.env) fp) W0 elt me)
    (hy : X.N[i]? = some y := by rfl) (hyl : X.env.scope.names.lookup y = some .local := by rfl)
    (hsw : swapsWith (.ListComp elt [⟨tg, iter, ifs, 0⟩] scope pos) (some (.Name y py)) spos.line X.env = pure true := by rfl) (hts : ∀ i ∈ ts, i ∈ own.map (·.2) := by decide) (hs : ∀ x, foldedSetIterable iter X.env x = pure x := by intro _; rfl) :
    SS X W (.Assign [.Name y py] (.ListComp elt [⟨tg, iter, ifs, 0⟩] scope pos) spos) (mAsg (mLC mi g mt me (own.map (·.2))) (gNm i)) := PS.imp (ps_setLc hc hN hy hyl hsw hi ok hg ht he hs) fun D σ H h => by
  have h := tS_asg (ts := [i]) D σ H h
  refine tE_lc (mi := mi) (g := g) (mt := mt) (me := me) hts σ H _ ?_
  obtain ⟨B, env, S, ρ, eo, so, P⟩ := h
  refine ⟨B, env, S, ρ, eo, so, Post.mono P (fun d S1 ρ1 H1 e1 s1 P1 v r => ?_) (fun _ _ _ z => z)⟩
  obtain ⟨B2, env2, S2, ρ2, d2, eo2, so2, r2, P2⟩ := P1 v r
  exact P2 _ ρ2 H1 Ext.refl so2 (eo2.set r2 i) kept_set
def mPar (i j : Nat) (m : ML) : MS := fun env S => lft (m env S) env fun ds S1 => match ds with | [a, b] => some (.nx ((env.set i (some a)).set j (some b)), S1) | _ => none
theorem ss_par (i j : Nat) {x y : Str} {a b : Expr} {m : ML} {px py pt pos : Pos} {kt k2 : Nat} {pt2 : Pos} (hc : X.calm = true) (hN : X.N.Nodup) (ha : SA X W [a, b] m) (hi : X.N[i]? = some x := by rfl) (hj : X.N[j]? = some y := by rfl) (hij : i ≠ j := by decide)
    (hx : X.env.scope.names.lookup x = some .local := by rfl) (hy : X.env.scope.names.lookup y = some .local := by rfl)
    (hw : swappedStores [.Tuple [.Name x px, .Name y py] kt pt] (.Tuple [a, b] k2 pt2) X.env = pure (some [x, y]) := by rfl)
    (hs : swapsWithSole [.Tuple [.Name x px, .Name y py] kt pt] (.Tuple [a, b] k2 pt2) pos.line X.env = pure false := by rfl) :
    SS X W (.Assign [.Tuple [.Name x px, .Name y py] kt pt] (.Tuple [a, b] k2 pt2) pos) (mPar i j m) := PS.imp (ps_par hc hN hi hj hij hx hy ha hw hs) fun D σ H h => by
  obtain ⟨B, env, S, ρ, eo, so, P⟩ := h
  refine ⟨B, env, S, ρ, eo, so, Post.mono (PostS.lft P eo) (fun ds S1 ρ1 H1 e1 s1 P1 vs r => ?_) (fun _ _ _ z => z)⟩
  split at P1
  · obtain ⟨v, w, rfl, r1, r2⟩ := repL2 r
    exact ⟨v, w, rfl, P1 _ ρ1 H1 Ext.refl s1 (((eo.mono e1).set r1 i).set r2 j)⟩
  · exact P1.elim
def mPar3 (i j l : Nat) (m : ML) : MS := fun env S => lft (m env S) env fun ds S1 => match ds with | [a, b, c] => some (.nx (((env.set i (some a)).set j (some b)).set l (some c)), S1) | _ => none
theorem ss_par3 (i j l : Nat) {x y z : Str} {a b c : Expr} {m : ML} {px py pz pt pos : Pos} {kt k2 : Nat} {pt2 : Pos} (hc : X.calm = true) (hN : X.N.Nodup) (ha : SA X W [a, b, c] m) (hi : X.N[i]? = some x := by rfl) (hj : X.N[j]? = some y := by rfl) (hl : X.N[l]? = some z := by rfl) (hij : i ≠ j := by decide) (hil : i ≠ l := by decide) (hjl : j ≠ l := by decide)
    (hx : X.env.scope.names.lookup x = some .local := by rfl) (hy : X.env.scope.names.lookup y = some .local := by rfl) (hz : X.env.scope.names.lookup z = some .local := by rfl)
    (hw : swappedStores [.Tuple [.Name x px, .Name y py, .Name z pz] kt pt] (.Tuple [a, b, c] k2 pt2) X.env = pure (some [x, y, z]) := by rfl)
    (hs : swapsWithSole [.Tuple [.Name x px, .Name y py, .Name z pz] kt pt] (.Tuple [a, b, c] k2 pt2) pos.line X.env = pure false := by rfl) :
    SS X W (.Assign [.Tuple [.Name x px, .Name y py, .Name z pz] kt pt] (.Tuple [a, b, c] k2 pt2) pos) (mPar3 i j l m) := PS.imp (ps_par3 hc hN hi hj hl hij hil hjl hx hy hz ha hw hs) fun D σ H h => by
  obtain ⟨B, env, S, ρ, eo, so, P⟩ := h
  refine ⟨B, env, S, ρ, eo, so, Post.mono (PostS.lft P eo) (fun ds S1 ρ1 H1 e1 s1 P1 vs r => ?_) (fun _ _ _ z => z)⟩
  split at P1
  · simp only [RepL] at r
    obtain ⟨v, _, rfl, r1, w, _, rfl, r2, u, _, rfl, r3, rfl⟩ := r
    exact ⟨v, w, u, rfl, P1 _ ρ1 H1 Ext.refl s1 ((((eo.mono e1).set r1 i).set r2 j).set r3 l)⟩
  · exact P1.elim
/-- while: at most n turns -/
def mWhile (c : MT) (b : MS) : Nat → MS
  | 0 => fun _ _ => none
  | n + 1 => fun env S => lft (c env S) env fun k S1 => if k then (match b env S1 with
    | some (.nx e', S2) => mWhile c b n e' S2
    | some (.ct e', S2) => mWhile c b n e' S2
    | some (.bk e', S2) => some (.nx e', S2)
    | r => r) else some (.nx env, S1)
theorem ss_while (n : Nat) {c : Expr} {body : List Stmt} {mc : MT} {mb : MS} {pos : Pos} (hp : PassesOwn (model X.prog X.w) X.A X.env X.xe) (hc : ST X W c mc) (hb : SSs X W body mb) : SS X W (.While c body [] pos) (mWhile mc mb n) := PS.imp (ps_while hp hc hb) fun D σ H h => by
  obtain ⟨B, env, S, ρ, eo, so, P⟩ := h
  refine ⟨fun m σ H => ∃ env S ρ, EnvOk ⟨X.K, X.mg⟩ B ρ H env σ ∧ SOk ⟨X.K, X.mg⟩ B S ρ H ∧ PostS ⟨X.K, X.mg⟩ W B ρ H (mWhile mc mb m env S) D, ⟨n, env, S, ρ, eo, so, P⟩, ?_⟩
  rintro m σ H ⟨env, S, ρ, eo, so, P⟩
  cases m with
  | zero => exact P.elim
  | succ m =>
    have P : PostS ⟨X.K, X.mg⟩ W B ρ H (lft (mc env S) env fun k S1 => if k then (match mb env S1 with
      | some (.nx e', S2) => mWhile mc mb m e' S2
      | some (.ct e', S2) => mWhile mc mb m e' S2
      | some (.bk e', S2) => some (.nx e', S2)
      | r => r) else some (.nx env, S1)) D := P
    refine ⟨B, env, S, ρ, eo, so, Post.mono (PostS.lft P eo) (fun k S1 ρ1 H1 e1 s1 P1 => ?_) (fun _ _ _ z => z)⟩
    cases k with
    | false => exact iteF (P1 σ ρ1 H1 Ext.refl s1 (eo.mono e1))
    | true =>
      refine iteT ⟨fun σ' H' => ∃ env S ρ, EnvOk ⟨X.K, X.mg⟩ B ρ H' env σ' ∧ SOk ⟨X.K, X.mg⟩ B S ρ H' ∧ PostS ⟨X.K, X.mg⟩ W B ρ H' (mWhile mc mb m env S) D, fun σ' H' w => ⟨m, Nat.lt_succ_self m, w⟩, B, env, S1, ρ1, eo.mono e1, s1, ?_⟩
      rw [if_pos rfl] at P1
      cases q : mb env S1 with
      | none => rw [q] at P1; exact P1
      | some r =>
        obtain ⟨f, S2⟩ := r
        rw [q] at P1
        cases f with
        | nx e' => exact fun σ' ρ' H' e s eo' => ⟨e', S2, ρ', eo', s, PostS.ext P1 e⟩
        | ct e' => exact fun σ' ρ' H' e s eo' => ⟨e', S2, ρ', eo', s, PostS.ext P1 e⟩
        | bk e' => exact P1
        | rt d => exact P1
        | xc e' c p => exact P1
def forGo (g : MG) (b : MS) : List D → MS
  | [] => fun env S => some (.nx env, S)
  | d :: ds => fun env S => match g d env S with
    | none => none
    | some (e', S1) => match b e' S1 with
      | some (.nx e2, S2) => forGo g b ds e2 S2
      | some (.ct e2, S2) => forGo g b ds e2 S2
      | some (.bk e2, S2) => some (.nx e2, S2)
      | r => r
def mFor (mi : ML) (g : MG) (b : MS) : MS := fun env S => lft (mi env S) env fun ds S1 => forGo g b ds env S1
theorem ss_for {tg iter : Expr} {body : List Stmt} {mi : ML} {g : MG} {mb : MS} {ts : List Nat} {pos : Pos} (hp : PassesOwn (model X.prog X.w) X.A X.env X.xe) (hc : X.calm = true) (hi : SI X W tg iter mi) (hg : SG X tg g ts) (hb : SSs X W body mb)
    (hs : ∀ x, foldedSetIterable iter X.env x = pure x := by intro _; rfl) : SS X W (.For tg iter body [] pos) (mFor mi g mb) := PS.imp (ps_for hp hc hi hg hb hs) fun D σ H h => by
  obtain ⟨B, env, S, ρ, eo, so, P⟩ := h
  refine ⟨B, env, S, ρ, eo, so, Post.mono (PostS.lft P eo) (fun ds S1 ρ1 H1 e1 s1 P1 J hJ => ?_) (fun _ _ _ z => z)⟩
  have hsrc : ∀ ρ2 H2, Ext ρ1 H1 ρ2 H2 → Src ⟨X.K, X.mg⟩ B J ds ρ2 H2 := hJ B (fun _ b => b) (fun a b n => absurd b n)
  refine ⟨fun i m σ H => m = ds.length - i ∧ i ≤ ds.length ∧ ∃ env S ρ, Ext ρ1 H1 ρ H ∧ EnvOk ⟨X.K, X.mg⟩ B ρ H env σ ∧ SOk ⟨X.K, X.mg⟩ B S ρ H ∧ PostS ⟨X.K, X.mg⟩ W B ρ H (forGo g mb (ds.drop i) env S) D,
    ⟨_, rfl, Nat.zero_le _, env, S1, ρ1, Ext.refl, eo.mono e1, s1, by simpa using P1⟩, ?_⟩
  rintro i m σ H ⟨rfl, hi, env, S, ρ, ex, eo, so, P⟩
  have sr := hsrc ρ H ex
  by_cases hlt : i < ds.length
  · refine .inr ⟨sr.go ρ H S Ext.refl so i hlt, fun σ' H' => ∃ env S ρ, Ext ρ1 H1 ρ H' ∧ EnvOk ⟨X.K, X.mg⟩ B ρ H' env σ' ∧ SOk ⟨X.K, X.mg⟩ B S ρ H' ∧ PostS ⟨X.K, X.mg⟩ W B ρ H' (forGo g mb (ds.drop (i + 1)) env S) D, fun σ' H' w => ⟨ds.length - (i + 1), by omega, rfl, hlt, w⟩, fun x H2 y => ?_⟩
    have hd : ds[i]? = some ds[i] := by simp [hlt]
    obtain ⟨k1, r1⟩ := sr.yld ρ H S i x H2 ds[i] Ext.refl so hd y
    have ek := Ext.of_same (ρ := ρ) k1
    rw [List.drop_eq_getElem_cons hlt] at P
    have P : PostS ⟨X.K, X.mg⟩ W B ρ H (match g ds[i] env S with
      | none => none
      | some (e', S1) => match mb e' S1 with
        | some (.nx e2, S2) => forGo g mb (ds.drop (i + 1)) e2 S2
        | some (.ct e2, S2) => forGo g mb (ds.drop (i + 1)) e2 S2
        | some (.bk e2, S2) => some (.nx e2, S2)
        | r => r) D := P
    refine ⟨B, env, S, ρ, ds[i], eo.mono ek, so.same k1, r1, ?_⟩
    unfold PostG
    cases qg : g ds[i] env S with
    | none => rw [qg] at P; exact P
    | some p =>
      obtain ⟨e', S'⟩ := p
      rw [qg] at P
      refine fun σ2 ρ2 H3 x2 s2 eo2 _ => ⟨B, e', S', ρ2, eo2, s2, ?_⟩
      have X2 : Ext ρ H ρ2 H3 := ek.trans x2
      have P := PostS.ext P X2
      cases q : mb e' S' with
      | none => simp only [q] at P; exact P
      | some r =>
        obtain ⟨f, S2⟩ := r
        simp only [q] at P
        cases f with
        | nx e2 => exact fun σ' ρ' H' e s eo' => ⟨e2, S2, ρ', (ex.trans X2).trans e, eo', s, PostS.ext P e⟩
        | ct e2 => exact fun σ' ρ' H' e s eo' => ⟨e2, S2, ρ', (ex.trans X2).trans e, eo', s, PostS.ext P e⟩
        | bk e2 => exact P
        | rt d => exact P
        | xc e2 c p => exact P
  · have e : i = ds.length := by omega
    subst e
    rw [List.drop_length] at P
    exact .inl ⟨sr.stop ρ H S Ext.refl so, P σ ρ H Ext.refl so eo⟩
/-- xs.append(e), xs a list of the store -/
def mApp (o : M) (e : M) : M := fun env S => match o env S with
  | .ok (.ref n) S1 => match S1[n]? with
    | some (.lst _) => (e env S1).bind fun d S2 => match S2[n]? with
      | some (.lst ds) => if room ds.length then .ok .non (S2.set n (.lst (ds ++ [d]))) else .err
      | _ => .err
    | _ => .err
  | _ => .err
theorem se_app {o e : Expr} {mo me : M} {apos cpos : Pos} (ho : SE X W o mo) (he : SE X W e me) (H1 : PE X (.Call (.Attribute o "append" apos) [e] [] cpos) (tBM X.K "list" rAppend (tE ⟨X.K, X.mg⟩ W mo) (tCons (tE ⟨X.K, X.mg⟩ W me) tNil))) : SE X W (.Call (.Attribute o "append" apos) [e] [] cpos) (mApp mo me) :=
  PE.imp H1 fun σ H Q h => by
    obtain ⟨B, env, S, ρ, eo, so, P⟩ := h
    unfold mApp at P
    split at P
    · rename_i n S1 q
      split at P
      · rename_i ds0 q0
        refine ⟨B, env, S, ρ, eo, so, ?_⟩
        rw [q]
        refine fun ρ1 H1 e1 s1 vo ro => ?_
        have ro' := ro
        simp only [Rep] at ro'
        obtain ⟨a, rfl, hn⟩ := ro'
        obtain ⟨vs0, h0, _⟩ := s1.ob _ _ _ q0 hn
        refine ⟨.inl ⟨rfl, _, SqL.of h0⟩, B, env, S1, ρ1, eo.mono e1, s1, Post.mono (Post.bind (Post.ext1 P e1)) (fun d S2 ρ2 H2 e2 s2 P2 v r => ?_) (fun _ _ _ z => z)⟩
        split at P2
        · rename_i ds q2
          split at P2
          · rename_i hz
            have hn2 := e2.pre n a hn
            obtain ⟨vs, h1, h2⟩ := s2.ob _ _ _ q2 hn2
            have hm : a ∈ ρ2 := List.mem_iff_getElem?.mpr ⟨n, hn2⟩
            refine ⟨a, vs, v, rfl, rfl, h1, by rw [← h2.length]; exact Nat.lt_of_le_of_lt (Nat.le_of_ble_eq_true hz) (by rw [sizeLine_eq]; decide), ?_⟩
            exact P2 ρ2 _ (Ext.write hm) (s2.write hn2 ⟨_, upd_same, RepL.append (h2.mono (Ext.write hm)) (by simp only [RepL]; exact ⟨v, [], rfl, r.mono (Ext.write hm), rfl⟩)⟩) _ (by simp only [Rep])
          · exact P2.elim
        · exact P2.elim
      · exact P.elim
    · exact P.elim

/-! ### what a def promises -/
/-! no object of the store in it -/
mutual
def noRef : D → Bool
  | .tup ds => noRefs ds
  | .lst ds => noRefs ds
  | .rol ds => noRefs ds
  | .ref _ => false
  | .obj _ _ ds => noRefs ds
  | _ => true
def noRefs : List D → Bool
  | [] => true
  | d :: ds => noRef d && noRefs ds
end
section
variable {G : GC} {B B' : Addr → Prop} {ρ ρ' : List Addr} {H H' : Hp}
mutual
theorem Rep.free (k : ∀ a o, Out B ρ a → H a = some o → H' a = some o ∧ Out B' ρ' a) : ∀ {d : D} {v : V}, noRef d = true → Rep G B ρ H d v → Rep G B' ρ' H' d v
  | .non, _, _, h => by simpa only [Rep] using h
  | .bl _, _, _, h => by simpa only [Rep] using h
  | .int _, _, _, h => by simpa only [Rep] using h
  | .str _, _, _, h => by simpa only [Rep] using h
  | .tup ds, v, n, h => by
    simp only [Rep] at h ⊢
    simp only [noRef] at n
    obtain ⟨a, vs, ev, ha, hl⟩ := h
    refine ⟨a, vs, ev, ?_, RepL.free k n hl⟩
    rcases ha with ⟨h1, h2⟩ | h1
    · obtain ⟨z1, z2⟩ := k a _ h2 h1
      exact .inl ⟨z1, z2⟩
    · exact .inr h1
  | .lst ds, v, n, h => by
    simp only [Rep] at h ⊢
    simp only [noRef] at n
    obtain ⟨a, vs, ev, h1, h2, hl⟩ := h
    obtain ⟨z1, z2⟩ := k a _ h2 h1
    exact ⟨a, vs, ev, z1, z2, RepL.free k n hl⟩
  | .rol ds, v, n, h => by
    simp only [Rep] at h ⊢
    simp only [noRef] at n
    obtain ⟨a, vs, ev, ha, hl⟩ := h
    refine ⟨a, vs, ev, ?_, RepL.free k n hl⟩
    rcases ha with ⟨h1 | ⟨o, h1⟩, h2⟩ | h1
    · obtain ⟨z1, z2⟩ := k a _ h2 h1
      exact .inl ⟨.inl z1, z2⟩
    · obtain ⟨z1, z2⟩ := k a _ h2 h1
      exact .inl ⟨.inr ⟨o, z1⟩, z2⟩
    · exact .inr h1
  | .ref n, v, q, h => by cases q
  | .glo _, _, _, h => by simpa only [Rep] using h
  | .obj c ns ds, v, n, h => by
    simp only [Rep] at h ⊢
    simp only [noRef] at n
    obtain ⟨a, C, dx, fs, ev, h1, h2, h3, h4, hl⟩ := h
    obtain ⟨z1, z2⟩ := k a _ h2 h1
    exact ⟨a, C, dx, fs, ev, z1, z2, h3, h4, RepL.free k n hl⟩
theorem RepL.free (k : ∀ a o, Out B ρ a → H a = some o → H' a = some o ∧ Out B' ρ' a) : ∀ {ds : List D} {vs : List V}, noRefs ds = true → RepL G B ρ H ds vs → RepL G B' ρ' H' ds vs
  | [], _, _, h => by simpa only [RepL] using h
  | d :: ds, vs, n, h => by
    simp only [RepL] at h ⊢
    simp only [noRefs, Bool.and_eq_true] at n
    obtain ⟨v, r, ev, h1, h2⟩ := h
    exact ⟨v, r, ev, Rep.free k n.1 h1, RepL.free k n.2 h2⟩
end
end
/-! what is handed out is no longer written -/
mutual
def frz (S : Sto) : D → Option D
  | .tup ds => (frzL S ds).map .tup
  | .ref n => match S[n]? with
    | some (.lst ds) => if noRefs ds then some (.lst ds) else none
    | some (.ins c ns ds) => if noRefs ds then some (.obj c ns ds) else none
    | none => none
  | .lst ds => if noRefs ds then some (.lst ds) else none
  | .rol ds => if noRefs ds then some (.rol ds) else none
  | .obj c ns ds => if noRefs ds then some (.obj c ns ds) else none
  | d => some d
def frzL (S : Sto) : List D → Option (List D)
  | [] => some []
  | d :: ds => match frz S d, frzL S ds with
    | some x, some xs => some (x :: xs)
    | _, _ => none
end
section
variable {G : GC} {B : Addr → Prop} {ρ : List Addr} {H : Hp} {S : Sto}
theorem out_nil {a : Addr} (h : Out B ρ a) : Out B [] a := ⟨by simp, h.2⟩
mutual
theorem frz_ok (so : SOk G B S ρ H) : ∀ {d d' : D} {v : V}, frz S d = some d' → Rep G B ρ H d v → Rep G B [] H d' v
  | .non, _, _, e, h => by cases e; simpa only [Rep] using h
  | .bl _, _, _, e, h => by cases e; simpa only [Rep] using h
  | .int _, _, _, e, h => by cases e; simpa only [Rep] using h
  | .str _, _, _, e, h => by cases e; simpa only [Rep] using h
  | .glo _, _, _, e, h => by cases e; simpa only [Rep] using h
  | .tup ds, _, _, e, h => by
    simp only [frz, Option.map_eq_some_iff] at e
    obtain ⟨es, e, rfl⟩ := e
    simp only [Rep] at h ⊢
    obtain ⟨a, vs, ev, h1, h2⟩ := h
    refine ⟨a, vs, ev, ?_, frzL_ok so e h2⟩
    rcases h1 with h1 | h1
    · exact .inl ⟨h1.1, out_nil h1.2⟩
    · exact .inr h1
  | .lst ds, _, _, e, h => by
    simp only [frz] at e
    split at e
    · rename_i hz
      cases e
      exact Rep.free (fun a o x q => ⟨q, out_nil x⟩) (by simp only [noRef]; exact hz) h
    · cases e
  | .rol ds, _, _, e, h => by
    simp only [frz] at e
    split at e
    · rename_i hz
      cases e
      exact Rep.free (fun a o x q => ⟨q, out_nil x⟩) (by simp only [noRef]; exact hz) h
    · cases e
  | .obj c ns ds, _, _, e, h => by
    simp only [frz] at e
    split at e
    · rename_i hz
      cases e
      exact Rep.free (fun a o x q => ⟨q, out_nil x⟩) (by simp only [noRef]; exact hz) h
    · cases e
  | .ref n, _, _, e, h => by
    simp only [frz] at e
    simp only [Rep] at h
    obtain ⟨a, rfl, hn⟩ := h
    have ha : a ∈ ρ := List.mem_iff_getElem?.mpr ⟨n, hn⟩
    have ho : Out B [] a := ⟨by simp, so.dis a ha⟩
    split at e
    · rename_i ds q
      split at e
      · rename_i hz
        cases e
        obtain ⟨vs, h1, h2⟩ := so.ob _ _ _ q hn
        simp only [Rep]
        exact ⟨a, vs, rfl, h1, ho, RepL.free (fun a o x q => ⟨q, out_nil x⟩) hz h2⟩
      · cases e
    · rename_i c ns ds q
      split at e
      · rename_i hz
        cases e
        obtain ⟨C, dx, fs, h1, h3, h4, h2⟩ := so.ob _ _ _ q hn
        simp only [Rep]
        exact ⟨a, C, dx, fs, rfl, h1, ho, h3, h4, RepL.free (fun a o x q => ⟨q, out_nil x⟩) hz h2⟩
      · cases e
    · cases e
theorem frzL_ok (so : SOk G B S ρ H) : ∀ {ds es : List D} {vs : List V}, frzL S ds = some es → RepL G B ρ H ds vs → RepL G B [] H es vs
  | [], _, _, e, h => by cases e; simpa only [RepL] using h
  | d :: ds, _, _, e, h => by
    simp only [frzL] at e
    split at e
    · rename_i x xs e1 e2
      cases e
      simp only [RepL] at h ⊢
      obtain ⟨v, r, ev, h1, h2⟩ := h
      exact ⟨v, r, ev, frz_ok so e1 h1, frzL_ok so e2 h2⟩
    · cases e
end
end
/-- what a pure def hands back -/
inductive Pr where
  | ok (d : D) | exc (c : Str) (p : Option (List Str × List D)) | err
  deriving Inhabited
/-- THE PROMISE of a def that takes and gives plain data -/
def spP (G : GC) (n : Nat) (g : List D → Pr) : Sp := fun vs H Q E => ∃ B ds, (∀ a, B a → ∃ o, H a = some o) ∧ RepL G B [] H ds vs ∧ ds.length = n ∧ match g ds with
  | .ok d => ∀ H' v, Same H H' → Rep G B [] H' d v → Q v H'
  | .exc c p => ∀ H' C d, Same H H' → ExcA G B [] H' c p C d → E (.ref C) d H'
  | .err => False
/-- .. of one that writes into objects handed in -/
def spI (G : GC) (n : Nat) (g : List D → Sto → Rs D) : Sp := fun vs H Q E => ∃ B S ρ ds, SOk G B S ρ H ∧ RepL G B ρ H ds vs ∧ ds.length = n ∧
  Post G B ρ H (g ds S) (fun d _ ρ' H' => ∀ v, Rep G B ρ' H' d v → Q v H') fun C d H' => E (.ref C) d H'
/-- a body run on plain data -/
def startE (N : Nat) (ds : List D) : En := ds.map some ++ List.replicate (N - ds.length) none
def frzX (S : Sto) : Option (List Str × List D) → Option (Option (List Str × List D))
  | none => some none
  | some (ns, ds) => (frzL S ds).map fun es => some (ns, es)
def runP (N : Nat) (b : MS) (ds : List D) : Pr := match b (startE N ds) [] with
  | some (.rt d, S) => (match frz S d with | some d' => .ok d' | none => .err)
  | some (.nx _, _) => .ok .non
  | some (.xc _ c p, S) => (match frzX S p with | some p' => .exc c p' | none => .err)
  | _ => .err
def runI (N : Nat) (b : MS) (ds : List D) (S : Sto) : Rs D := match b (startE N ds) S with
  | some (.rt d, S') => .ok d S'
  | some (.nx _, S') => .ok .non S'
  | some (.xc _ c p, S') => .exc c p S'
  | _ => .err
theorem start_ok {G : GC} {B : Addr → Prop} {ρ : List Addr} {H : Hp} {N : List Str} {ds : List D} {vs : List V} (r : RepL G B ρ H ds vs) : EnvOk G B ρ H (startE N.length ds) (L2.start N vs) := by
  have e := r.length
  unfold startE L2.start
  refine ⟨by simp [e], fun i d h => ?_⟩
  by_cases hi : i < ds.length
  · rw [List.getElem?_append_left (by simpa using hi), List.getElem?_map] at h
    have h' : ds[i]? = some d := by
      cases q : ds[i]? with
      | none => rw [q] at h; cases h
      | some x => rw [q] at h; simpa using h
    obtain ⟨v, h1, h2⟩ := r.get h'
    exact ⟨v, by rw [List.getElem?_append_left (by simp; omega), List.getElem?_map, h1]; rfl, h2⟩
  · rw [List.getElem?_append_right (by simpa using Nat.le_of_not_lt hi)] at h
    rw [List.getElem?_replicate] at h
    split at h <;> cases h
theorem ExcA.of_frz {G : GC} {B : Addr → Prop} {ρ : List Addr} {H : Hp} {S : Sto} {c : Str} {p p' : Option (List Str × List D)} {C : Addr} {d : Option Addr} (so : SOk G B S ρ H) (e : frzX S p = some p') (h : ExcA G B ρ H c p C d) : ExcA G B [] H c p' C d := by
  obtain ⟨h1, h2⟩ := h
  cases p with
  | none => cases e; exact ⟨h1, h2⟩
  | some q =>
    obtain ⟨ns, ds⟩ := q
    simp only [frzX, Option.map_eq_some_iff] at e
    obtain ⟨es, e, rfl⟩ := e
    obtain ⟨dx, fs, h3, h4, h5, h6⟩ := h2
    exact ⟨h1, dx, fs, h3, h4, h5, frzL_ok so e h6⟩
/-- a def's body keeps the promise -/
theorem body_P {G : GC} {N : List Str} {n : Nat} {b : MS} {vs : List V} {H : Hp} {Q : VK} {E : XK} (h : spP G n (runP N.length b) vs H Q E) :
    tS G (fun cls d _ H => E cls d H) b { nx := fun _ H' => Q .non H', rt := Q } (L2.start N vs) H := by
  obtain ⟨B, ds, hB, r, hn, P⟩ := h
  have so : SOk G B [] [] H := ⟨rfl, List.nodup_nil, hB, fun a m => absurd m (by simp), fun n o a h => by simp at h⟩
  refine ⟨B, startE N.length ds, [], [], start_ok r, so, ?_⟩
  unfold runP at P
  split at P
  · rename_i d S q
    split at q
    · rename_i d0 S' qb
      split at q
      · rename_i d' qf
        cases q
        rw [qb]
        exact fun ρ' H' v e s r' => P H' v e.same (frz_ok s qf r')
      · cases q
    · rename_i qb
      cases q
      rw [qb]
      exact fun σ' ρ' H' e s _ => P H' _ e.same (by simp only [Rep])
    · split at q <;> cases q
    · cases q
  · rename_i c p q
    split at q
    · split at q <;> cases q
    · cases q
    · rename_i e0 c0 p0 S' qb
      split at q
      · rename_i p' qf
        cases q
        rw [qb]
        exact fun σ' ρ' H' C d e s _ x => P H' C d e.same (x.of_frz s qf)
      · cases q
    · cases q
  · exact P.elim
theorem body_I {G : GC} {N : List Str} {n : Nat} {b : MS} {vs : List V} {H : Hp} {Q : VK} {E : XK} (h : spI G n (runI N.length b) vs H Q E) :
    tS G (fun cls d _ H => E cls d H) b { nx := fun _ H' => Q .non H', rt := Q } (L2.start N vs) H := by
  obtain ⟨B, S, ρ, ds, so, r, hn, P⟩ := h
  refine ⟨B, startE N.length ds, S, ρ, start_ok r, so, ?_⟩
  unfold runI at P
  split at P
  · rename_i qb
    rw [qb]
    exact fun ρ' H' v e s r' => P ρ' H' e s v r'
  · rename_i qb
    rw [qb]
    exact fun σ' ρ' H' e s _ => P ρ' H' e s _ (by simp only [Rep])
  · rename_i qb
    rw [qb]
    exact fun σ' ρ' H' C d e s _ x => P ρ' H' C d e s x
  · exact P.elim
end
end Ev

/-! Ev, part 7: defs where no repr is under way: their promise, their calls; repr; the law's end. -/
namespace Ev
open PySem L2

/-- the room of a call, no repr under way -/
structure RoomG (k : Nat) (A : Around) : Prop where
  r : Room k A
  g : A.guards = some []
theorem RoomG.mono {j k : Nat} {A : Around} (x : RoomG k A) (h : j ≤ k) : RoomG j A := ⟨x.r.mono h, x.g⟩
/-- the def at f keeps sp at level k, where no repr is under way -/
structure FnG (P : Program) (w : World) (K : PySem.W.Frag) (mg : Str → Option Value) (base : Heap) (k : Nat) (f : Addr) (fd : FuncData) (ps : List Str) (sp : Sp) : Prop where
  len : ∀ vs H Q E, sp vs H Q E → vs.length = ps.length
  go : ∀ (A : Around) (outer : List Env) (s : Shared) (H : Hp) (as : Args) (us : List Value) (vs : List V) (Q : VK) (E : XK), RoomG k A → Env0 P w K mg base A outer s H → BindsTo s fd as (ps.zip us) → Vals vs us → sp vs H Q E →
    codeAny (model P w) A (.call (.ref f) as) (CR (L2.CX P w) outer P w H s Q E) s
theorem FnG.mono {P : Program} {w : World} {K : PySem.W.Frag} {mg : Str → Option Value} {base : Heap} {j k : Nat} {f : Addr} {fd : FuncData} {ps : List Str} {sp : Sp} (F : FnG P w K mg base j f fd ps sp) (h : j ≤ k) : FnG P w K mg base k f fd ps sp :=
  ⟨F.len, fun A outer s H as us vs Q E hr => F.go A outer s H as us vs Q E (hr.mono h)⟩
theorem FnG.weak {P : Program} {w : World} {K : PySem.W.Frag} {mg : Str → Option Value} {base : Heap} {k : Nat} {f : Addr} {fd : FuncData} {ps : List Str} {sp sp' : Sp} (F : FnG P w K mg base k f fd ps sp) (h : ∀ vs H Q E, sp' vs H Q E → sp vs H Q E) : FnG P w K mg base k f fd ps sp' :=
  ⟨fun vs H Q E q => F.len vs H Q E (h _ _ _ _ q), fun A outer s H as us vs Q E hr he hb hv hs => F.go A outer s H as us vs Q E hr he hb hv (h _ _ _ _ hs)⟩
section
variable {P : Program} {w : World} {K : PySem.W.Frag} {mg : Str → Option Value} {base : Heap} {k : Nat} {f : Addr} {fd : FuncData} {sp : Sp}
/-- the rule for a def of the text: its body, run in a frame of its own -/
theorem FnG.of {x qual : Str} {prm : Arguments} {body : List Stmt} {scope : Scope} {dvs : List V} {kws : List (Str × V)} {N ps : List Str} (F : FunD K x qual prm body scope dvs kws f fd) (sc : FnScope N ps scope) (len : ∀ vs H Q E, sp vs H Q E → vs.length = ps.length)
    (hb : ∀ (cdv : Value) (A : Around) (outer : List Env) (s : Shared) (H : Hp) (vs : List V) (Q : VK) (E : XK), RoomG k (A.deeper (PyProof.Rows.envOfC qual scope s.heap.objs.size f cdv)) → sp vs H Q E →
      ∃ t, PSs (cxOf (L2.CX P w) P w K mg base N qual scope f cdv A outer s H E) body t ∧ t { nx := fun _ H' => Q .non H', rt := Q } (L2.start N vs) H) : FnG P w K mg base (k + 1) f fd ps sp := by
  obtain ⟨oc, od, dV, kV, doc, pm, an, cdv, ct, osl, rfl, lk, hcd, _, _⟩ := F.ex
  refine ⟨len, fun A outer s H as us vs Q E room e0 bnd rv hsp => ?_⟩
  have inK : K.In s.heap := e0.mod.kin.keeps fun b o e => (e0.bs b o e).1
  have noL : s.heap.NoLimit := e0.mod.nolimit.keeps fun b o e => (e0.bs b o e).1
  have par : ∀ y ∈ ps.zip us, scope.names.lookup y.1 = some .local ∨ (scope.names.lookup y.1 = some .cell ∧ ((cellsFrom (s.heap.objs.size + 1) scope.names []).lookup y.1).isSome = true) := by
    rintro ⟨y, u⟩ hy
    rcases sc.par y (List.of_mem_zip hy).1 with q | q
    · exact Or.inl q
    · exact Or.inr ⟨q, PySem.W.cellsFrom_some _ _ _ (Or.inl q)⟩
  apply codeAny_call_function room.r.depth (inK _ _ lk) rfl sc.co sc.gen rfl (PySem.W.codeRec_of inK hcd)
  apply bnd
  apply wpAny_newFunctionEnv_cells sc.kind par
  rintro env rfl s1 x
  refine ⟨noL.keeps x.toInCall.keep, ?_⟩
  apply codeAny_func
  obtain ⟨t, ht, hq⟩ := hb cdv A outer s H vs Q E ⟨room.r.deeper _, room.g⟩ hsp
  have J := inv_start (CX := L2.CX P w) (E := E) (cd := cdv) (f := f) (qual := qual) sc room.r.hd e0 (len _ _ _ _ hsp) rv x
  refine wpAny_mono (ht.run [] s1 _ H _ J hq) ?_ (fun e s' z => z)
  rintro fl s' z
  cases fl with
  | ret u =>
    obtain ⟨v, σ', H', J', r', q⟩ := z
    exact ⟨v, H', J'.os, J'.bare, J'.base, J'.hok, r', q⟩
  | next =>
    obtain ⟨σ', H', J', q⟩ := z
    exact ⟨.non, H', J'.os, J'.bare, J'.base, J'.hok, rfl, q⟩
  | brk =>
    obtain ⟨_, _, _, q⟩ := z
    exact q.elim
  | cont =>
    obtain ⟨_, _, _, q⟩ := z
    exact q.elim
end
section
variable {X : Cx} {W : WX} {k : Nat} {f : Addr} {fd : FuncData} {ps : List Str} {sp : Sp}
/-- the callee runs -/
theorem FnG.run {pins : List (Addr × Obj)} {σ : L2.St} {H : Hp} {s : Shared} {Q : VK} {us : List Value} {vs : List V} {as : Args} (F : FnG X.prog X.w X.K X.mg X.base k f fd ps sp) (hr : RoomG k X.A) (tk : L2.Takes X W)
    (I : L2.Inv X pins σ H s) (bnd : BindsTo s fd as (ps.zip us)) (r : Vals vs us) (h : sp vs H Q (L2.WE W σ)) : codeAny (model X.prog X.w) X.A (.call (.ref f) as) (fun r s' => match r with
      | .ok (.ret u) => EP X pins σ Q u s'
      | .ok _ => False
      | .error e => X.xe e s') s := by
  refine codeAny_mono (F.go X.A X.stack s H as us vs Q _ hr I.env0 bnd r h) ?_
  rintro r s' z
  cases r with
  | error e => exact passAt tk σ pins H s e s' I z
  | ok fl =>
    cases fl with
    | ret u => exact I.after z
    | next => exact z.elim
    | brk => exact z.elim
    | cont => exact z.elim
theorem call_back {pins : List (Addr × Obj)} {σ : L2.St} {Q : VK} {s : Shared} {us : List Value} {kw : List (Str × Value)} (h : codeAny (model X.prog X.w) X.A (.call (.ref f) ⟨us, kw⟩) (fun r s' => match r with
      | .ok (.ret u) => EP X pins σ Q u s'
      | .ok _ => False
      | .error e => X.xe e s') s) : wpAny (model X.prog X.w) X.A (call (.ref f) us kw) (EP X pins σ Q) X.xe s := by
  refine wpAny_call (codeAny_mono h ?_)
  rintro r s' z
  cases r with
  | error e => exact z
  | ok fl =>
    cases fl with
    | ret u => exact z
    | next => exact z.elim
    | brk => exact z.elim
    | cont => exact z.elim

/-! ### f(..) by places, by names -/
def tCl (sp : Sp) (W : WX) (t : TA) : TE := fun σ H Q => t σ H fun vs H1 => sp vs H1 Q (L2.WE W σ)
theorem pe_cl {x : Str} {p pos : Pos} {e : Expr} {es : List Expr} {t : TA} (F : FnG X.prog X.w X.K X.mg X.base k f fd ps sp) (hr : RoomG k X.A) (tk : L2.Takes X W) (hm : X.mg x = some (.ref f)) (hk : PySem.W.keepIn X.K (.ref f) = true) (hb : Binds X.K fd ps []) (ha : PA X (e :: es) t) (hg : Gl X x := by rfl)
    (hdb : (x == ("__debug__" : Str)) = false := by decide) (he : starEach (e :: es) X.env = (false, eval e X.env) :: starEach es X.env := by rfl) (hpl : (backTo pos (starEach es X.env)).any (·.1) = false := by rfl) : PE X (.Call (.Name x p) (e :: es) [] pos) (tCl sp W t) := by
  constructor
  intro pins s σ H Q I h
  apply wpAny_Call_Name_kw
  apply ld_glob I hg hm _ hdb
  apply PySem.W.callWith_K (h₀ := X.base) I.ok.mod.kin hk _ he hpl
  refine thn (ha.run pos pins s σ H _ I h) ?_
  rintro us s1 ⟨vs, H1, I1, r, q⟩
  refine ⟨I1.kIn, call_back ?_⟩
  have hl : (us ++ []).length = ps.length := by rw [List.append_nil, ← r.length]; exact F.len _ _ _ _ q
  have bnd := hb s1 us I1.kIn hl
  rw [List.append_nil] at bnd
  exact F.run hr tk I1 bnd r q
theorem pe_cl0 {x : Str} {p pos : Pos} (F : FnG X.prog X.w X.K X.mg X.base k f fd ps sp) (hr : RoomG k X.A) (tk : L2.Takes X W) (hm : X.mg x = some (.ref f)) (hk : PySem.W.keepIn X.K (.ref f) = true) (hb : Binds X.K fd ps []) (hg : Gl X x := by rfl)
    (hdb : (x == ("__debug__" : Str)) = false := by decide) : PE X (.Call (.Name x p) [] [] pos) (tCl sp W tNil) := by
  constructor
  intro pins s σ H Q I h
  apply wpAny_Call_Name_kw
  apply ld_glob I hg hm _ hdb
  apply PySem.W.callWith_K0 I.kIn hk
  have q : sp [] H Q (L2.WE W σ) := h
  have bnd := hb s [] I.kIn (by rw [List.append_nil]; exact F.len _ _ _ _ q)
  rw [List.append_nil] at bnd
  exact call_back (F.run hr tk I bnd .nil q)
/-- places of a list, put in an order -/
def perm {α : Type} (ix : List Nat) (xs : List α) : List α := ix.filterMap fun i => xs[i]?
theorem perm_vals {vs : List V} {us : List Value} (r : Vals vs us) : ∀ ix : List Nat, Vals (perm ix vs) (perm ix us)
  | [] => .nil
  | i :: ix => by
    have ih := perm_vals r ix
    unfold perm at ih ⊢
    cases q : vs[i]? with
    | none =>
      rw [List.filterMap_cons_none q, List.filterMap_cons_none (r.none_of q)]
      exact ih
    | some v =>
      obtain ⟨u, h1, h2⟩ := r.get q
      rw [List.filterMap_cons_some q, List.filterMap_cons_some h1]
      exact .cons h2 ih
theorem perm_rep {G : GC} {B : Addr → Prop} {ρ : List Addr} {H : Hp} {ds : List D} {vs : List V} (r : RepL G B ρ H ds vs) : ∀ ix : List Nat, RepL G B ρ H (perm ix ds) (perm ix vs)
  | [] => by unfold perm; simp only [List.filterMap_nil, RepL]
  | i :: ix => by
    have ih := perm_rep r ix
    unfold perm at ih ⊢
    cases q : ds[i]? with
    | none =>
      have q2 : vs[i]? = none := by
        rw [List.getElem?_eq_none_iff] at q ⊢
        rw [← r.length]; exact q
      rw [List.filterMap_cons_none q, List.filterMap_cons_none q2]
      exact ih
    | some d =>
      obtain ⟨v, h1, h2⟩ := r.get q
      rw [List.filterMap_cons_some q, List.filterMap_cons_some h1]
      simp only [RepL]
      exact ⟨v, _, rfl, h2, ih⟩
/-- n values by place, the others by the names ks; ix: the parameters' order -/
def BindsK (K : PySem.W.Frag) (fd : FuncData) (ps : List Str) (n : Nat) (ks : List Str) (ix : List Nat) : Prop :=
  ∀ (s : Shared) (us ws : List Value), K.In s.heap → us.length = n → ws.length = ks.length → BindsTo s fd ⟨us, ks.zip ws⟩ (ps.zip (perm ix (us ++ ws)))
def tClK (n m : Nat) (ix : List Nat) (sp : Sp) (W : WX) (t tk : TA) : TE := fun σ H Q => t σ H fun vs H1 => tk σ H1 fun zs H2 => vs.length = n ∧ zs.length = m ∧ sp (perm ix (vs ++ zs)) H2 Q (L2.WE W σ)
theorem pe_clK {x : Str} {p pos : Pos} {e : Expr} {es : List Expr} {kws : List Keyword} {ks : List Str} {n : Nat} {ix : List Nat} {t tkw : TA} (F : FnG X.prog X.w X.K X.mg X.base k f fd ps sp) (hr : RoomG k X.A) (tk : L2.Takes X W) (hm : X.mg x = some (.ref f)) (hk : PySem.W.keepIn X.K (.ref f) = true) (hb : BindsK X.K fd ps n ks ix) (ha : PA X (e :: es) t) (hkw : PK X kws tkw) (hg : Gl X x := by rfl)
    (hall : (backToKw pos (keywordEach kws X.env)).all (·.1.isSome) = true := by rfl) (hks : (backToKw pos (keywordEach kws X.env)).filterMap (·.1) = ks := by rfl)
    (hdb : (x == ("__debug__" : Str)) = false := by decide) (he : starEach (e :: es) X.env = (false, eval e X.env) :: starEach es X.env := by rfl)
    (hpl : ((backTo pos (starEach (e :: es) X.env)).any (·.1) || (backToKw pos (keywordEach kws X.env)).any (·.1.isNone)) = false := by rfl) : PE X (.Call (.Name x p) (e :: es) kws pos) (tClK n ks.length ix sp W t tkw) := by
  constructor
  intro pins s σ H Q I h
  apply wpAny_Call_Name_kw
  apply ld_glob I hg hm _ hdb
  apply PySem.W.callWith_KW (h₀ := X.base) I.ok.mod.kin hk hall _ hpl he
  refine thn (ha.run pos pins s σ H _ I h) ?_
  rintro us s1 ⟨vs, H1, I1, r1, q1⟩
  refine thn (hkw.run pos pins s1 σ H1 _ I1 q1) ?_
  rintro ws s2 ⟨zs, H2, I2, r2, l1, l2, q2⟩
  refine ⟨I2.kIn, ?_⟩
  rw [hks]
  exact call_back (F.run hr tk I2 (hb s2 us ws I2.kIn (r1.length.symm.trans l1) (r2.length.symm.trans l2)) (perm_vals (r1.append r2) ix) q2)
theorem pe_clK0 {x : Str} {p pos : Pos} {kws : List Keyword} {ks : List Str} {ix : List Nat} {tkw : TA} (F : FnG X.prog X.w X.K X.mg X.base k f fd ps sp) (hr : RoomG k X.A) (tk : L2.Takes X W) (hm : X.mg x = some (.ref f)) (hk : PySem.W.keepIn X.K (.ref f) = true) (hb : BindsK X.K fd ps 0 ks ix) (hkw : PK X kws tkw) (hg : Gl X x := by rfl)
    (hall : (backToKw pos (keywordEach kws X.env)).all (·.1.isSome) = true := by rfl) (hks : (backToKw pos (keywordEach kws X.env)).filterMap (·.1) = ks := by rfl)
    (hdb : (x == ("__debug__" : Str)) = false := by decide)
    (hpl : ((backTo pos (starEach [] X.env)).any (·.1) || (backToKw pos (keywordEach kws X.env)).any (·.1.isNone)) = false := by rfl) : PE X (.Call (.Name x p) [] kws pos) (tClK 0 ks.length ix sp W tNil tkw) := by
  constructor
  intro pins s σ H Q I h
  apply wpAny_Call_Name_kw
  apply ld_glob I hg hm _ hdb
  apply PySem.W.callWith_KW0 (h₀ := X.base) I.ok.mod.kin hk hall _ hpl
  refine thn (hkw.run pos pins s σ H _ I h) ?_
  rintro ws s2 ⟨zs, H2, I2, r2, l1, l2, q2⟩
  refine ⟨I2.kIn, ?_⟩
  rw [hks]
  exact call_back (F.run hr tk I2 (hb s2 [] ws I2.kIn rfl (r2.length.symm.trans l2)) (perm_vals (Vals.append .nil r2) ix) q2)
abbrev SK (X : Cx) (W : WX) (kws : List Keyword) (m : ML) : Prop := PK X kws (tA ⟨X.K, X.mg⟩ W m)
theorem PK.imp {xs : List Keyword} {t u : TA} (h : PK X xs t) (hi : ∀ σ H Q, u σ H Q → t σ H Q) : PK X xs u := ⟨fun pos pins s σ H Q I q => h.run pos pins s σ H Q I (hi σ H Q q)⟩
theorem sk_nil : SK X W [] mNil := PK.imp pk_nil fun σ H Q h => by
  obtain ⟨B, env, S, ρ, eo, so, P⟩ := h
  exact P ρ H Ext.refl so [] (by simp only [RepL])
theorem sk_cons {nm : Option Str} {e : Expr} {kpos : Pos} {kws : List Keyword} {ma : M} {mr : ML} (ha : SE X W e ma) (hr : SK X W kws mr) : SK X W (⟨nm, e, kpos⟩ :: kws) (mCons ma mr) :=
  PK.imp (pk_cons ha hr) fun σ H Q h => by
    obtain ⟨B, env, S, ρ, eo, so, P⟩ := h
    refine ⟨B, env, S, ρ, eo, so, Post.mono P.bind (fun d S1 ρ1 H1 e1 s1 P1 v r => ⟨B, env, S1, ρ1, eo.mono e1, s1, Post.mono P1.bind (fun ds S2 ρ2 H2 e2 s2 P2 vs rs => ?_) (fun _ _ _ z => z)⟩) (fun _ _ _ z => z)⟩
    exact P2 ρ2 H2 Ext.refl s2 (v :: vs) (by simp only [RepL]; exact ⟨v, vs, rfl, r.mono e2, rs⟩)

/-! ### calls of pure defs, of others -/
def prR (p : Pr) (S : Sto) : Rs D := match p with | .ok d => .ok d S | .exc c q => .exc c q S | .err => .err
def clP (n : Nat) (g : List D → Pr) (ds : List D) (S : Sto) : Rs D := if noRefs ds && Nat.beq ds.length n then prR (g ds) S else .err
def mCallP (n : Nat) (g : List D → Pr) (m : ML) : M := fun env S => (m env S).bind fun ds S1 => clP n g ds S1
def mCallI (n : Nat) (g : List D → Sto → Rs D) (m : ML) : M := fun env S => (m env S).bind fun ds S1 => if Nat.beq ds.length n then g ds S1 else .err
theorem spP_of {G : GC} {B : Addr → Prop} {S1 : Sto} {ρ1 : List Addr} {H1 : Hp} {n : Nat} {g : List D → Pr} {ds : List D} {vs : List V} {Q : VK} {E : XK} (s1 : SOk G B S1 ρ1 H1) (rs : RepL G B ρ1 H1 ds vs)
    (P : Post G B ρ1 H1 (clP n g ds S1) (fun d _ ρ' H' => ∀ v, Rep G B ρ' H' d v → Q v H') fun C d H' => E (.ref C) d H') : spP G n g vs H1 Q E := by
  unfold clP at P
  split at P
  · rename_i hz
    simp only [Bool.and_eq_true] at hz
    have hn := Nat.eq_of_beq_eq_true hz.2
    let B' : Addr → Prop := fun a => B a ∨ a ∈ ρ1
    have o1 : ∀ {a : Addr}, Out B ρ1 a → Out B' [] a := fun x => ⟨by simp, fun b => b.elim x.2 x.1⟩
    have o2 : ∀ {a : Addr}, Out B' [] a → Out B ρ1 a := fun x => ⟨fun m => x.2 (.inr m), fun b => x.2 (.inl b)⟩
    refine ⟨B', ds, fun a b => ?_, RepL.free (fun a o x q => ⟨q, o1 x⟩) hz.1 rs, hn, ?_⟩
    · rcases b with b | b
      · exact s1.b a b
      · exact s1.there b
    · cases q : g ds with
      | ok d =>
        rw [q] at P
        exact fun H' v k r => P ρ1 H' (Ext.of_same k) (s1.same k) v (r.move (fun n a h => by simp at h) fun a o x q => ⟨q, o2 x⟩)
      | exc c p =>
        rw [q] at P
        refine fun H' C d k x => P ρ1 H' C d (Ext.of_same k) (s1.same k) ?_
        obtain ⟨h1, h2⟩ := x
        cases p with
        | none => exact ⟨h1, h2⟩
        | some pq =>
          obtain ⟨ns, es⟩ := pq
          obtain ⟨dx, fs, h3, h4, h5, h6⟩ := h2
          exact ⟨h1, dx, fs, h3, h4, h5, h6.move (fun n a h => by simp at h) fun a o x q => ⟨q, o2 x⟩⟩
      | err => rw [q] at P; exact P
  · exact P.elim
theorem spI_of {G : GC} {B : Addr → Prop} {S1 : Sto} {ρ1 : List Addr} {H1 : Hp} {n : Nat} {g : List D → Sto → Rs D} {ds : List D} {vs : List V} {Q : VK} {E : XK} (s1 : SOk G B S1 ρ1 H1) (rs : RepL G B ρ1 H1 ds vs)
    (P : Post G B ρ1 H1 (if Nat.beq ds.length n then g ds S1 else .err) (fun d _ ρ' H' => ∀ v, Rep G B ρ' H' d v → Q v H') fun C d H' => E (.ref C) d H') : spI G n g vs H1 Q E := by
  split at P
  · rename_i hz
    exact ⟨B, S1, ρ1, ds, s1, rs, Nat.eq_of_beq_eq_true hz, P⟩
  · exact P.elim
theorem len_P {G : GC} {n : Nat} {g : List D → Pr} : ∀ vs H Q E, spP G n g vs H Q E → vs.length = n := fun vs H Q E ⟨B, ds, _, r, hn, _⟩ => by rw [← r.length]; exact hn
theorem len_I {G : GC} {n : Nat} {g : List D → Sto → Rs D} : ∀ vs H Q E, spI G n g vs H Q E → vs.length = n := fun vs H Q E ⟨B, S, ρ, ds, _, r, hn, _⟩ => by rw [← r.length]; exact hn
end
end Ev

/-! Ev, part 8: while without a bound told, defs by name and their calls, repr, the law's end. -/
namespace Ev
open PySem L2
/-! ### while -/
theorem mWhile_le {c : MT} {b : MS} : ∀ {n m : Nat} {env : En} {S : Sto} {r : Fl × Sto}, n ≤ m → mWhile c b n env S = some r → mWhile c b m env S = some r
  | 0, _, _, _, _, _, h => by cases h
  | n + 1, 0, _, _, _, hm, _ => by omega
  | n + 1, m + 1, env, S, r, hm, h => by
    have ih := fun e T r => @mWhile_le c b n m e T r (Nat.le_of_succ_le_succ hm)
    simp only [mWhile] at h ⊢
    cases q : c env S with
    | err => rw [q] at h; cases h
    | exc x p S1 => rw [q] at h; exact h
    | ok k S1 =>
      rw [q] at h
      simp only [lft_ok] at h ⊢
      cases k with
      | false => exact h
      | true =>
        simp only [if_true] at h ⊢
        cases q2 : b env S1 with
        | none => rw [q2] at h; cases h
        | some f =>
          obtain ⟨f, S2⟩ := f
          rw [q2] at h
          cases f with
          | nx e' => exact ih _ _ _ h
          | ct e' => exact ih _ _ _ h
          | bk e' => exact h
          | rt d => exact h
          | xc e' x p => exact h
open Classical in
/-- while, for as many turns as it takes -/
noncomputable def mWh (c : MT) (b : MS) : MS := fun env S => if h : ∃ n r, mWhile c b n env S = some r then mWhile c b h.choose env S else none
theorem mWh_of {c : MT} {b : MS} {n : Nat} {env : En} {S : Sto} {r : Fl × Sto} (h : mWhile c b n env S = some r) : mWh c b env S = some r := by
  have hx : ∃ n r, mWhile c b n env S = some r := ⟨n, r, h⟩
  unfold mWh
  rw [dif_pos hx]
  obtain ⟨r', h'⟩ := hx.choose_spec
  rcases Nat.le_total n hx.choose with q | q
  · exact mWhile_le q h
  · have := mWhile_le q h'
    rw [h] at this
    cases this
    exact h'
theorem mWh_some {c : MT} {b : MS} {env : En} {S : Sto} {r : Fl × Sto} (h : mWh c b env S = some r) : ∃ n, mWhile c b n env S = some r := by
  unfold mWh at h
  split at h
  · exact ⟨_, h⟩
  · cases h
/-- one turn of it -/
theorem mWh_eq (c : MT) (b : MS) (env : En) (S : Sto) : mWh c b env S = lft (c env S) env fun k S1 => if k then (match b env S1 with
    | some (.nx e', S2) => mWh c b e' S2
    | some (.ct e', S2) => mWh c b e' S2
    | some (.bk e', S2) => some (.nx e', S2)
    | r => r) else some (.nx env, S1) := by
  cases q : c env S with
  | err =>
    simp only [lft_err]
    cases z : mWh c b env S with
    | none => rfl
    | some r =>
      obtain ⟨n, hn⟩ := mWh_some z
      cases n with
      | zero => cases hn
      | succ n => simp only [mWhile, q, lft_err] at hn; cases hn
  | exc x p S1 => exact mWh_of (n := 1) (by simp only [mWhile, q, lft_exc])
  | ok k S1 =>
    simp only [lft_ok]
    cases k with
    | false => exact mWh_of (n := 1) (by simp only [mWhile, q, lft_ok]; rfl)
    | true =>
      simp only [if_true]
      have go : ∀ e' S2, (∀ n, mWhile c b (n + 1) env S = mWhile c b n e' S2) → mWh c b env S = mWh c b e' S2 := fun e' S2 hq => by
        cases z : mWh c b e' S2 with
        | some r =>
          obtain ⟨n, hn⟩ := mWh_some z
          exact mWh_of (n := n + 1) ((hq n).trans hn)
        | none =>
          cases z2 : mWh c b env S with
          | none => rfl
          | some r =>
            obtain ⟨n, hn⟩ := mWh_some z2
            cases n with
            | zero => cases hn
            | succ n =>
              rw [hq n] at hn
              rw [mWh_of hn] at z
              cases z
      cases q2 : b env S1 with
      | none =>
        cases z2 : mWh c b env S with
        | none => rfl
        | some r =>
          obtain ⟨n, hn⟩ := mWh_some z2
          cases n with
          | zero => cases hn
          | succ n => simp only [mWhile, q, lft_ok, if_true, q2] at hn; cases hn
      | some f =>
        obtain ⟨f, S2⟩ := f
        cases f with
        | nx e' => exact go _ _ fun n => by simp only [mWhile, q, lft_ok, if_true, q2]
        | ct e' => exact go _ _ fun n => by simp only [mWhile, q, lft_ok, if_true, q2]
        | bk e' => exact mWh_of (n := 1) (by simp only [mWhile, q, lft_ok, if_true, q2])
        | rt d => exact mWh_of (n := 1) (by simp only [mWhile, q, lft_ok, if_true, q2])
        | xc e' x p => exact mWh_of (n := 1) (by simp only [mWhile, q, lft_ok, if_true, q2])
section
variable {X : Cx} {W : WX}
theorem ss_wh {c : Expr} {body : List Stmt} {mc : MT} {mb : MS} {pos : Pos} (hp : PassesOwn (model X.prog X.w) X.A X.env X.xe) (hc : ST X W c mc) (hb : SSs X W body mb) : SS X W (.While c body [] pos) (mWh mc mb) := ⟨fun pins s σ H D I h => by
  obtain ⟨B, env, S, ρ, eo, so, P⟩ := h
  cases q : mWh mc mb env S with
  | none => rw [q] at P; exact P.elim
  | some r =>
    obtain ⟨n, hn⟩ := mWh_some q
    exact (ss_while n hp hc hb).run pins s σ H D I ⟨B, env, S, ρ, eo, so, by rw [hn]; rw [q] at P; exact P⟩⟩
end

/-! ### defs by name -/
abbrev Shape := Nat × List Str × List Nat
structure DefP (P : Program) (w : World) (K : PySem.W.Frag) (mg : Str → Option Value) (base : Heap) (k : Nat) (x : Str) (ps : List Str) (g : List D → Pr) (kws : List Shape) : Prop where
  ex : ∃ f fd, FnG P w K mg base k f fd ps (spP ⟨K, mg⟩ ps.length g) ∧ mg x = some (.ref f) ∧ PySem.W.keepIn K (.ref f) = true ∧ Binds K fd ps [] ∧ ∀ q ∈ kws, BindsK K fd ps q.1 q.2.1 q.2.2
structure DefI (P : Program) (w : World) (K : PySem.W.Frag) (mg : Str → Option Value) (base : Heap) (k : Nat) (x : Str) (ps : List Str) (g : List D → Sto → Rs D) (kws : List Shape) : Prop where
  ex : ∃ f fd, FnG P w K mg base k f fd ps (spI ⟨K, mg⟩ ps.length g) ∧ mg x = some (.ref f) ∧ PySem.W.keepIn K (.ref f) = true ∧ Binds K fd ps [] ∧ ∀ q ∈ kws, BindsK K fd ps q.1 q.2.1 q.2.2
section
variable {X : Cx} {W : WX} {j k : Nat} {x : Str} {ps : List Str} {kws : List Shape} {p pos : Pos} {e : Expr} {es : List Expr} {m mk : ML}
theorem tE_clP {g : List D → Pr} {n : Nat} : ∀ σ H Q, tE ⟨X.K, X.mg⟩ W (mCallP n g m) σ H Q → tCl (spP ⟨X.K, X.mg⟩ n g) W (tA ⟨X.K, X.mg⟩ W m) σ H Q := fun σ H Q h => by
  obtain ⟨B, env, S, ρ, eo, so, P⟩ := h
  exact ⟨B, env, S, ρ, eo, so, Post.mono P.bind (fun ds S1 ρ1 H1 e1 s1 P1 vs rs => spP_of s1 rs P1) (fun _ _ _ z => z)⟩
theorem tE_clI {g : List D → Sto → Rs D} {n : Nat} : ∀ σ H Q, tE ⟨X.K, X.mg⟩ W (mCallI n g m) σ H Q → tCl (spI ⟨X.K, X.mg⟩ n g) W (tA ⟨X.K, X.mg⟩ W m) σ H Q := fun σ H Q h => by
  obtain ⟨B, env, S, ρ, eo, so, P⟩ := h
  exact ⟨B, env, S, ρ, eo, so, Post.mono P.bind (fun ds S1 ρ1 H1 e1 s1 P1 vs rs => spI_of s1 rs P1) (fun _ _ _ z => z)⟩
/-- first the values by place, then those by name -/
def mKw (n j : Nat) (ix : List Nat) (m mk : ML) : ML := fun env S => (m env S).bind fun ds S1 => (mk env S1).bind fun es S2 => if Nat.beq ds.length n && Nat.beq es.length j then .ok (perm ix (ds ++ es)) S2 else .err
theorem tE_clPK {g : List D → Pr} {n n2 j : Nat} {ix : List Nat} : ∀ σ H Q, tE ⟨X.K, X.mg⟩ W (mCallP n g (mKw n2 j ix m mk)) σ H Q → tClK n2 j ix (spP ⟨X.K, X.mg⟩ n g) W (tA ⟨X.K, X.mg⟩ W m) (tA ⟨X.K, X.mg⟩ W mk) σ H Q := fun σ H Q h => by
  obtain ⟨B, env, S, ρ, eo, so, P⟩ := h
  refine ⟨B, env, S, ρ, eo, so, Post.mono P.bind.bind (fun ds S1 ρ1 H1 e1 s1 P1 vs rs => ⟨B, env, S1, ρ1, eo.mono e1, s1, Post.mono P1.bind (fun es S2 ρ2 H2 e2 s2 P2 zs r2 => ?_) (fun _ _ _ z => z)⟩) (fun _ _ _ z => z)⟩
  split at P2
  · rename_i hz
    simp only [Bool.and_eq_true] at hz
    exact ⟨rs.length.symm.trans (Nat.eq_of_beq_eq_true hz.1), r2.length.symm.trans (Nat.eq_of_beq_eq_true hz.2), spP_of s2 (perm_rep ((rs.mono e2).append r2) ix) (P2 ρ2 H2 Ext.refl s2)⟩
  · exact P2.elim
theorem tE_clIK {g : List D → Sto → Rs D} {n n2 j : Nat} {ix : List Nat} : ∀ σ H Q, tE ⟨X.K, X.mg⟩ W (mCallI n g (mKw n2 j ix m mk)) σ H Q → tClK n2 j ix (spI ⟨X.K, X.mg⟩ n g) W (tA ⟨X.K, X.mg⟩ W m) (tA ⟨X.K, X.mg⟩ W mk) σ H Q := fun σ H Q h => by
  obtain ⟨B, env, S, ρ, eo, so, P⟩ := h
  refine ⟨B, env, S, ρ, eo, so, Post.mono P.bind.bind (fun ds S1 ρ1 H1 e1 s1 P1 vs rs => ⟨B, env, S1, ρ1, eo.mono e1, s1, Post.mono P1.bind (fun es S2 ρ2 H2 e2 s2 P2 zs r2 => ?_) (fun _ _ _ z => z)⟩) (fun _ _ _ z => z)⟩
  split at P2
  · rename_i hz
    simp only [Bool.and_eq_true] at hz
    exact ⟨rs.length.symm.trans (Nat.eq_of_beq_eq_true hz.1), r2.length.symm.trans (Nat.eq_of_beq_eq_true hz.2), spI_of s2 (perm_rep ((rs.mono e2).append r2) ix) (P2 ρ2 H2 Ext.refl s2)⟩
  · exact P2.elim
theorem se_callP {nn : Nat} {g : List D → Pr} (F : DefP X.prog X.w X.K X.mg X.base j x ps g kws) (hr : RoomG k X.A) (hj : j ≤ k) (tk : L2.Takes X W) (ha : SA X W (e :: es) m) (hg : Gl X x := by rfl) (hnn : ps.length = nn := by rfl)
    (hdb : (x == ("__debug__" : Str)) = false := by decide) (he : starEach (e :: es) X.env = (false, eval e X.env) :: starEach es X.env := by rfl) (hpl : (backTo pos (starEach es X.env)).any (·.1) = false := by rfl) :
    SE X W (.Call (.Name x p) (e :: es) [] pos) (mCallP nn g m) := by
  subst hnn
  obtain ⟨f, fd, F1, hm, hk, hb, _⟩ := F.ex
  exact PE.imp (pe_cl F1 (hr.mono hj) tk hm hk hb ha hg hdb he hpl) tE_clP
theorem se_callI {nn : Nat} {g : List D → Sto → Rs D} (F : DefI X.prog X.w X.K X.mg X.base j x ps g kws) (hr : RoomG k X.A) (hj : j ≤ k) (tk : L2.Takes X W) (ha : SA X W (e :: es) m) (hg : Gl X x := by rfl) (hnn : ps.length = nn := by rfl)
    (hdb : (x == ("__debug__" : Str)) = false := by decide) (he : starEach (e :: es) X.env = (false, eval e X.env) :: starEach es X.env := by rfl) (hpl : (backTo pos (starEach es X.env)).any (·.1) = false := by rfl) :
    SE X W (.Call (.Name x p) (e :: es) [] pos) (mCallI nn g m) := by
  subst hnn
  obtain ⟨f, fd, F1, hm, hk, hb, _⟩ := F.ex
  exact PE.imp (pe_cl F1 (hr.mono hj) tk hm hk hb ha hg hdb he hpl) tE_clI
theorem se_callP0 {nn : Nat} {g : List D → Pr} (F : DefP X.prog X.w X.K X.mg X.base j x ps g kws) (hr : RoomG k X.A) (hj : j ≤ k) (tk : L2.Takes X W) (hg : Gl X x := by rfl) (hnn : ps.length = nn := by rfl) (hdb : (x == ("__debug__" : Str)) = false := by decide) :
    SE X W (.Call (.Name x p) [] [] pos) (mCallP nn g mNil) := by
  subst hnn
  obtain ⟨f, fd, F1, hm, hk, hb, _⟩ := F.ex
  refine PE.imp (pe_cl0 F1 (hr.mono hj) tk hm hk hb hg hdb) fun σ H Q h => ?_
  obtain ⟨B, env, S, ρ, eo, so, P⟩ := h
  exact spP_of so (by simp only [RepL]) P
theorem se_callI0 {nn : Nat} {g : List D → Sto → Rs D} (F : DefI X.prog X.w X.K X.mg X.base j x ps g kws) (hr : RoomG k X.A) (hj : j ≤ k) (tk : L2.Takes X W) (hg : Gl X x := by rfl) (hnn : ps.length = nn := by rfl) (hdb : (x == ("__debug__" : Str)) = false := by decide) :
    SE X W (.Call (.Name x p) [] [] pos) (mCallI nn g mNil) := by
  subst hnn
  obtain ⟨f, fd, F1, hm, hk, hb, _⟩ := F.ex
  refine PE.imp (pe_cl0 F1 (hr.mono hj) tk hm hk hb hg hdb) fun σ H Q h => ?_
  obtain ⟨B, env, S, ρ, eo, so, P⟩ := h
  exact spI_of so (by simp only [RepL]) P
theorem se_callPK {nn : Nat} {g : List D → Pr} {kwl : List Keyword} {n : Nat} {ks : List Str} {ix : List Nat} (F : DefP X.prog X.w X.K X.mg X.base j x ps g kws) (hq : (n, ks, ix) ∈ kws) (hr : RoomG k X.A) (hj : j ≤ k) (tk : L2.Takes X W) (ha : SA X W (e :: es) m) (hkw : SK X W kwl mk) (hg : Gl X x := by rfl) (hnn : ps.length = nn := by rfl)
    (hall : (backToKw pos (keywordEach kwl X.env)).all (·.1.isSome) = true := by rfl) (hks : (backToKw pos (keywordEach kwl X.env)).filterMap (·.1) = ks := by rfl)
    (hdb : (x == ("__debug__" : Str)) = false := by decide) (he : starEach (e :: es) X.env = (false, eval e X.env) :: starEach es X.env := by rfl)
    (hpl : ((backTo pos (starEach (e :: es) X.env)).any (·.1) || (backToKw pos (keywordEach kwl X.env)).any (·.1.isNone)) = false := by rfl) :
    SE X W (.Call (.Name x p) (e :: es) kwl pos) (mCallP nn g (mKw n ks.length ix m mk)) := by
  subst hnn
  obtain ⟨f, fd, F1, hm, hk, _, hb⟩ := F.ex
  exact PE.imp (pe_clK F1 (hr.mono hj) tk hm hk (hb _ hq) ha hkw hg hall hks hdb he hpl) tE_clPK
theorem se_callPK0 {nn : Nat} {g : List D → Pr} {kwl : List Keyword} {ks : List Str} {ix : List Nat} (F : DefP X.prog X.w X.K X.mg X.base j x ps g kws) (hq : (0, ks, ix) ∈ kws) (hr : RoomG k X.A) (hj : j ≤ k) (tk : L2.Takes X W) (hkw : SK X W kwl mk) (hg : Gl X x := by rfl) (hnn : ps.length = nn := by rfl)
    (hall : (backToKw pos (keywordEach kwl X.env)).all (·.1.isSome) = true := by rfl) (hks : (backToKw pos (keywordEach kwl X.env)).filterMap (·.1) = ks := by rfl)
    (hdb : (x == ("__debug__" : Str)) = false := by decide)
    (hpl : ((backTo pos (starEach [] X.env)).any (·.1) || (backToKw pos (keywordEach kwl X.env)).any (·.1.isNone)) = false := by rfl) :
    SE X W (.Call (.Name x p) [] kwl pos) (mCallP nn g (mKw 0 ks.length ix mNil mk)) := by
  subst hnn
  obtain ⟨f, fd, F1, hm, hk, _, hb⟩ := F.ex
  refine PE.imp (pe_clK0 F1 (hr.mono hj) tk hm hk (hb _ hq) hkw hg hall hks hdb hpl) fun σ H Q h => ?_
  obtain ⟨t0, z⟩ : ∃ t : Unit, True := ⟨(), trivial⟩
  have q := tE_clPK σ H Q h
  obtain ⟨B, env, S, ρ, eo, so, P⟩ := q
  exact P ρ H Ext.refl so [] (by simp only [RepL])
theorem se_callIK {nn : Nat} {g : List D → Sto → Rs D} {kwl : List Keyword} {n : Nat} {ks : List Str} {ix : List Nat} (F : DefI X.prog X.w X.K X.mg X.base j x ps g kws) (hq : (n, ks, ix) ∈ kws) (hr : RoomG k X.A) (hj : j ≤ k) (tk : L2.Takes X W) (ha : SA X W (e :: es) m) (hkw : SK X W kwl mk) (hg : Gl X x := by rfl) (hnn : ps.length = nn := by rfl)
    (hall : (backToKw pos (keywordEach kwl X.env)).all (·.1.isSome) = true := by rfl) (hks : (backToKw pos (keywordEach kwl X.env)).filterMap (·.1) = ks := by rfl)
    (hdb : (x == ("__debug__" : Str)) = false := by decide) (he : starEach (e :: es) X.env = (false, eval e X.env) :: starEach es X.env := by rfl)
    (hpl : ((backTo pos (starEach (e :: es) X.env)).any (·.1) || (backToKw pos (keywordEach kwl X.env)).any (·.1.isNone)) = false := by rfl) :
    SE X W (.Call (.Name x p) (e :: es) kwl pos) (mCallI nn g (mKw n ks.length ix m mk)) := by
  subst hnn
  obtain ⟨f, fd, F1, hm, hk, _, hb⟩ := F.ex
  exact PE.imp (pe_clK F1 (hr.mono hj) tk hm hk (hb _ hq) ha hkw hg hall hks hdb he hpl) tE_clIK
theorem se_callIK0 {nn : Nat} {g : List D → Sto → Rs D} {kwl : List Keyword} {ks : List Str} {ix : List Nat} (F : DefI X.prog X.w X.K X.mg X.base j x ps g kws) (hq : (0, ks, ix) ∈ kws) (hr : RoomG k X.A) (hj : j ≤ k) (tk : L2.Takes X W) (hkw : SK X W kwl mk) (hg : Gl X x := by rfl) (hnn : ps.length = nn := by rfl)
    (hall : (backToKw pos (keywordEach kwl X.env)).all (·.1.isSome) = true := by rfl) (hks : (backToKw pos (keywordEach kwl X.env)).filterMap (·.1) = ks := by rfl)
    (hdb : (x == ("__debug__" : Str)) = false := by decide)
    (hpl : ((backTo pos (starEach [] X.env)).any (·.1) || (backToKw pos (keywordEach kwl X.env)).any (·.1.isNone)) = false := by rfl) :
    SE X W (.Call (.Name x p) [] kwl pos) (mCallI nn g (mKw 0 ks.length ix mNil mk)) := by
  subst hnn
  obtain ⟨f, fd, F1, hm, hk, _, hb⟩ := F.ex
  refine PE.imp (pe_clK0 F1 (hr.mono hj) tk hm hk (hb _ hq) hkw hg hall hks hdb hpl) fun σ H Q h => ?_
  have q := tE_clIK σ H Q h
  obtain ⟨B, env, S, ρ, eo, so, P⟩ := q
  exact P ρ H Ext.refl so [] (by simp only [RepL])
end

/-! ### how a def is shown to keep its promise -/
section
variable {P : Program} {w : World} {K : PySem.W.Frag} {mg : Str → Option Value} {base : Heap} {k : Nat} {f : Addr} {fd : FuncData} {x : Str} {prm : Arguments} {body : List Stmt} {scope : Scope} {N ps : List Str}
/-- the wish of a def's own body -/
abbrev WD (E : XK) : WX := fun cls d _ H => E cls d H
theorem DefP.of {m : MS} {kws : List Shape} (F : FunD K x x prm body scope [] [] f fd) (hm : mg x = some (.ref f)) (sc : FnScope N ps scope) (hb : Binds K fd ps []) (hk : ∀ q ∈ kws, BindsK K fd ps q.1 q.2.1 q.2.2)
    (go : ∀ (cdv : Value) (A : Around) (outer : List Env) (s : Shared) (H : Hp) (E : XK), RoomG k (A.deeper (PyProof.Rows.envOfC x scope s.heap.objs.size f cdv)) → SSs (cxOf (L2.CX P w) P w K mg base N x scope f cdv A outer s H E) (WD E) body m) :
    DefP P w K mg base (k + 1) x ps (runP N.length m) kws :=
  ⟨f, fd, FnG.of F sc len_P fun cdv A outer s H vs Q E hr h => ⟨_, go cdv A outer s H E hr, body_P h⟩, hm, F.kp, hb, hk⟩
theorem DefI.of {m : MS} {kws : List Shape} (F : FunD K x x prm body scope [] [] f fd) (hm : mg x = some (.ref f)) (sc : FnScope N ps scope) (hb : Binds K fd ps []) (hk : ∀ q ∈ kws, BindsK K fd ps q.1 q.2.1 q.2.2)
    (go : ∀ (cdv : Value) (A : Around) (outer : List Env) (s : Shared) (H : Hp) (E : XK), RoomG k (A.deeper (PyProof.Rows.envOfC x scope s.heap.objs.size f cdv)) → SSs (cxOf (L2.CX P w) P w K mg base N x scope f cdv A outer s H E) (WD E) body m) :
    DefI P w K mg base (k + 1) x ps (runI N.length m) kws :=
  ⟨f, fd, FnG.of F sc len_I fun cdv A outer s H vs Q E hr h => ⟨_, go cdv A outer s H E hr, body_I h⟩, hm, F.kp, hb, hk⟩
theorem kws_nil {K : PySem.W.Frag} {fd : FuncData} {ps : List Str} : ∀ q ∈ ([] : List Shape), BindsK K fd ps q.1 q.2.1 q.2.2 := fun _ h => nomatch h
theorem kws_cons {K : PySem.W.Frag} {fd : FuncData} {ps : List Str} {n : Nat} {ks : List Str} {ix : List Nat} {kws : List Shape} (h : BindsK K fd ps n ks ix) (r : ∀ q ∈ kws, BindsK K fd ps q.1 q.2.1 q.2.2) : ∀ q ∈ (n, ks, ix) :: kws, BindsK K fd ps q.1 q.2.1 q.2.2 := fun q m => by
  rcases List.mem_cons.mp m with e | m
  · subst e; exact h
  · exact r q m
theorem FunD.bindsK {ps : List Str} {n : Nat} {ks : List Str} {ix : List Nat} (F : FunD K x x prm body scope [] [] f fd)
    (h : ∀ (kV doc pm : Value) (an : Option Addr) (cdv ct : Value) (us ws : List Value), us.length = n → ws.length = ks.length → bindArgs (PySem.W.fnOf x x prm body scope .none kV doc pm an cdv ct) ⟨us, ks.zip ws⟩ = pure (ps.zip (perm ix (us ++ ws)))) : BindsK K fd ps n ks ix := by
  obtain ⟨oc, od, dV, kV, doc, pm, an, cdv, ct, osl, rfl, lk, hcd, hD, hK⟩ := F.ex
  rcases hD with ⟨_, rfl⟩ | ⟨e, _⟩
  · exact fun s us ws _ h1 h2 => .of_eq (h kV doc pm an cdv ct us ws h1 h2)
  · exact absurd rfl e
end
end Ev

/-! Ev, part 9: repr, the law's end. -/
namespace Ev
open PySem L2

/-! ### repr -/
/-! how long it gets at most -/
mutual
def szp : PyData → Nat
  | .none => 4
  | .bool _ => 5
  | .int _ => 2000
  | .str x => 10 * x.length + 2
  | .list xs => szpAll xs + 3
  | .tuple xs => szpAll xs + 3
  | .dict _ => 0
def szpAll : List PyData → Nat
  | [] => 0
  | x :: xs => szp x + 2 + szpAll xs
end
theorem textFrom_le : ∀ (ts : List Str) (k : Nat) (acc : Str), (textFrom k acc ts).length ≤ acc.length + (ts.map fun t => t.length + 2).sum
  | [], _, acc => by simp [textFrom]
  | t :: ts, k, acc => by
    unfold textFrom
    refine Nat.le_trans (textFrom_le ts (k + 1) _) ?_
    have e2 : ((if k > 0 then ", " else "" : String) : Str).length ≤ 2 := by split <;> decide
    rw [strLen_append, strLen_append, List.map_cons, List.sum_cons]
    omega
theorem join_le : ∀ ts : List Str, (Str.join ", " ts).length ≤ (ts.map fun t => t.length + 2).sum
  | [] => by show (Str.empty).length ≤ _; decide
  | [x] => by show x.length ≤ _; simp
  | x :: y :: r => by
    have ih := join_le (y :: r)
    show (x ++ ", " ++ Str.join ", " (y :: r)).length ≤ _
    have e2 : ((", " : String) : Str).length = 2 := rfl
    rw [strLen_append, strLen_append, e2, List.map_cons, List.sum_cons]; omega
mutual
theorem shown_le : ∀ p : PyData, p.canLay0 = true → p.showable = true → p.shown.length ≤ szp p
  | .none, _, _ => by simp only [PyData.shown, szp]; decide
  | .bool b, _, _ => by simp only [PyData.shown, szp]; cases b <;> decide
  | .int i, _, h => by
    simp only [PyData.showable, decide_eq_true_eq] at h
    simp only [PyData.shown, szp]
    have := int_text_length_le (by decide) h
    refine Nat.le_trans (Nat.le_of_eq (ofString_length _)) (Nat.le_trans this (by decide))
  | .str x, h, _ => by
    simp only [PyData.canLay0] at h
    simp only [PyData.shown, szp]
    refine StrLaws.reprText_len x fun c hc => ?_
    unfold PyData.strOk at h
    have h' := (Array.all_eq_true_iff_forall_mem.mp h) c (by simpa using hc)
    have h2 : c < 0x110000 := by simpa using h'
    exact Nat.lt_trans h2 (by decide)
  | .list xs, h, h2 => by
    simp only [PyData.canLay0] at h
    simp only [PyData.showable] at h2
    have ih := shownAll_le xs h h2
    simp only [PyData.shown, szp, listText]
    rw [strLen_append]
    have := textFrom_le (PyData.shownAll xs) 0 "["
    have e1 : (("[" : String) : Str).length = 1 := rfl
    have e2 : (("]" : String) : Str).length = 1 := rfl
    omega
  | .tuple xs, h, h2 => by
    simp only [PyData.canLay0] at h
    simp only [PyData.showable] at h2
    have ih := shownAll_le xs h h2
    simp only [PyData.shown, szp, tupleText]
    rw [strLen_append, strLen_append]
    have := join_le (PyData.shownAll xs)
    have e1 : (("(" : String) : Str).length = 1 := rfl
    have e2 : ((if (PyData.shownAll xs).length == 1 then ",)" else ")" : String) : Str).length ≤ 2 := by split <;> decide
    omega
  | .dict _, h, _ => by simp [PyData.canLay0] at h
theorem shownAll_le : ∀ ps : List PyData, PyData.canLayAll0 ps = true → PyData.showableAll ps = true → ((PyData.shownAll ps).map fun t => t.length + 2).sum ≤ szpAll ps
  | [], _, _ => by simp [PyData.shownAll, szpAll]
  | p :: ps, h, h2 => by
    simp only [PyData.canLayAll0, Bool.and_eq_true] at h
    simp only [PyData.showableAll, Bool.and_eq_true] at h2
    have h3 := shown_le p h.1 h2.1
    have h4 := shownAll_le ps h.2 h2.2
    simp only [PyData.shownAll, szpAll, List.map_cons, List.sum_cons]
    omega
end
def rprOk (p : PyData) : Bool := p.canLay0 && p.showable && Nat.ble p.depth 60 && Nat.ble (szp p) 16000000
def sRepr (S : Sto) : List D → Option D
  | [d] => match pyTop S d with | some p => if rprOk p then some (.str p.shown) else none | none => none
  | _ => none
theorem room_units {k : Nat} {X : Cx} (hr : RoomG k X.A) {n : Nat} (h : n ≤ 60) : X.A.units + (n + 1) < cLine := by have := hr.r.un; omega
theorem call_sRepr {X : Cx} {k : Nat} (hr : RoomG k X.A) : VCall X (.builtin "repr") sRepr := by
  intro pins s σ H xs us Q I r ⟨B, S, ρ, ds, so, rs, d, he, kk⟩
  unfold sRepr at he
  split at he
  · rename_i d0
    split at he
    · rename_i p hp
      split at he
      · rename_i hz
        cases he
        simp only [rprOk, Bool.and_eq_true] at hz
        obtain ⟨⟨⟨h1, h2⟩, h3⟩, h4⟩ := hz
        have h3 := Nat.le_of_ble_eq_true h3
        have h4 := Nat.le_of_ble_eq_true h4
        obtain ⟨v, rfl, r1⟩ := repL1 rs
        have dp := dp_top so r1 hp
        cases r with
        | cons ru rn =>
          cases rn
          rename_i u
          have hsz : p.shown.length ≤ sizeLine := Nat.le_trans (shown_le p h1 h2) (Nat.le_trans h4 (by rw [sizeLine_eq]; decide))
          have fin : ∀ (h' : Heap) (t : Tok) (tk : Tok), (∀ b o, s.heap.get? b = some o → h'.get? b = some o) → EP X pins σ Q (.str p.shown t) { s with heap := h', toks := tk } := fun h' t tk hk => ⟨.str p.shown, H, I.kept hk, ⟨t, rfl⟩, kk ρ H _ Ext.refl so (by simp only [Rep])⟩
          obtain ⟨as, rd⟩ := Dp.reads I p v u dp ru
          cases p with
          | none =>
            cases dp
            cases ru
            exact P.repr_of_none (fin _ _ _ fun _ _ e => e)
          | bool b =>
            cases dp
            cases ru
            exact P.repr_of_bool (fin _ _ _ fun _ _ e => e)
          | int i =>
            cases dp
            obtain ⟨t, rfl⟩ := ru
            simp only [PyData.showable, decide_eq_true_eq] at h2
            exact P.repr_of_int h2 (fin _ _ _ fun _ _ e => e)
          | str x =>
            cases dp
            obtain ⟨t, rfl⟩ := ru
            exact P.repr_of_str (fin _ _ _ fun _ _ e => e) hsz
          | list xs =>
            cases dp
            cases ru
            exact repr_of_reads' rd h2 (PyData.noDict_hsm (PyData.hasDict_of_canLay _ h1)) hr.g (room_units hr h3) (fun _ _ e => e) (fun h' t tk hk => fin h' t tk hk) hsz
          | tuple xs =>
            cases dp
            cases ru
            exact repr_of_reads' rd h2 (PyData.noDict_hsm (PyData.hasDict_of_canLay _ h1)) hr.g (room_units hr h3) (fun _ _ e => e) (fun h' t tk hk => fin h' t tk hk) hsz
          | dict kvs => simp [PyData.canLay0] at h1
      · cases he
    · cases he
  · cases he

/-! ### the law's end -/
/-- the law's def promises True of every script -/
theorem walkG {l : PySem.W.OpenLaw} {n k : Nat} {q : Program} {loose : List Str} {XP : (Str → Option Value) → Heap → Prop} {YP : World → Heap → Prop} {d : DefRec} {ps : List Str} {g : List D → Pr}
    (hn : l.most = some n) (hn2 : n ≤ sizeLine) (hdf : d.params.defaults = []) (hr : RoomG k callerA) (hp : ps.length = 1)
    (F : ∀ (w : World) (mg : Str → Option Value) (h : Heap), YP w h → h.Ns mainGlobals mg → ∃ K : PySem.W.Frag, K.In h ∧ ∀ base : Heap, K.In base → base.Ns mainGlobals mg → DefP l.prog w K mg base k d.name ps g [])
    (hg : ∀ ns : List Int, ns.length ≤ n → g [.rol (ns.map .int)] = .ok (.bl true)) : PySem.W.WalkO q loose XP YP l.row.toRowW d [] (fun f vs => PySem.call f vs) := by
  refine Att.attach_call hn hdf fun w s₀ s₁ mg mb fa o pm cd doc a vs ns G Y ho hd hcd hmg hobj hints hlen hgens => ?_
  obtain ⟨K, KX, hF⟩ := F w mg _ Y G.T.g
  obtain ⟨x, rfl⟩ : ∃ x, ps = [x] := by
    match ps, hp with
    | [x], _ => exact ⟨x, rfl⟩
  have rv := vals_ints hints
  have hl : ns.length ≤ sizeLine := Nat.le_trans hlen hn2
  -- where a stands, nothing else does
  have key : ∀ H : Hp, (∀ b, H b ≠ none → b = a) → (H a ≠ none → K.lookup a = none) → (∀ b, H b = none ∨ ∃ o xs, H b = some (.frz o (.lst xs))) → HOk l.prog w H s₁.heap → SqL K H a (ns.map V.int) →
      codeAny (model l.prog w) callerA (.call (.ref fa) ⟨[.ref a], []⟩) (fun r s' => r = .ok (.ret (.bool true)) ∧ OldK s₁.heap s'.heap ∧ s'.os = s₁.os ∧ PyProof.Rows.AllBare s'.gens) s₁ := by
    intro H only kl hO hok hS
    have free : ∀ b o, s₁.heap.get? b = some o → (∃ u, K.lookup b = some u) ∨ (∃ es ep, o.data = Data.dict es ep) → H b = none := fun b o e z => by
      cases q : H b with
      | none => rfl
      | some u =>
        have hb := only b (by rw [q]; simp)
        subst hb
        rcases z with ⟨u', z⟩ | ⟨es, ep, z⟩
        · rw [kl (by rw [q]; simp)] at z; cases z
        · rw [hobj] at e
          cases e
          have z' : Data.seq vs.toArray _ = Data.dict es ep := z
          cases z'
    have KB : K.In (hidT s₁.heap H) := fun b o e => hidT_get (KX b o e) (free b o (KX b o e) (.inl ⟨o, e⟩))
    have nsB : ∀ {b : Addr} {m : Str → Option Value}, s₁.heap.Ns b m → (hidT s₁.heap H).Ns b m := fun {b m} ⟨o, es, ep, e, dd, r⟩ => ⟨o, es, ep, hidT_get e (free b o e (.inr ⟨es, ep, dd⟩)), dd, r⟩
    have hM : Mod K mg (hidT s₁.heap H) := ⟨KB, nsB G.T.g, ⟨mb, nsB G.T.b, G.T.builtins⟩, (let ⟨mc, h1, h2⟩ := G.T.nolimit; ⟨mc, nsB h1, h2⟩)⟩
    have e0 : Env0 l.prog w K mg (hidT s₁.heap H) callerA [] s₁ H := ⟨rfl, hM, fun b o e => of_hidT e, Nat.le_of_eq (hidT_size _ _), trivial, fun b hb => absurd (show b ∈ ([] : List Addr) from hb) (by simp), hok, .of_eq hgens⟩
    obtain ⟨f, fd, FG, hm, hk, hb, _⟩ := (hF _ KB (nsB G.T.g)).ex
    have ef := hmg.symm.trans hm
    cases ef
    have bnd := hb s₁ [.ref a] KX rfl
    refine codeAny_mono (FG.go callerA [] s₁ H ⟨[.ref a], []⟩ [.ref a] [.ref a] (fun v _ => v = .bl true) (fun _ _ _ => False) hr e0 bnd (.cons rfl .nil) ?_) fun r s' h => ?_
    · refine ⟨fun _ => False, [.rol (ns.map .int)], fun a b => b.elim, ?_, rfl, ?_⟩
      · simp only [RepL]
        refine ⟨_, _, rfl, ?_, rfl⟩
        simp only [Rep]
        refine ⟨a, ns.map V.int, rfl, ?_, ?_⟩
        · rcases hS with z | z
          · exact .inl ⟨z, by simp, by simp⟩
          · exact .inr z
        · clear hS hints hlen hl rv
          induction ns with
          | nil => simp only [List.map_nil, RepL]
          | cons i is ih =>
            simp only [List.map_cons, RepL]
            exact ⟨_, _, rfl, by simp only [Rep], ih⟩
      · rw [hg ns hlen]
        intro H' v _ r
        simpa only [Rep] using r
    · cases r with
      | error e =>
        obtain ⟨_, _, _, _, _, _, _, _, _, _, _, _, _, z⟩ := h
      | ok fl =>
        cases fl with
        | next => exact h.elim
        | brk => exact h.elim
        | cont => exact h.elim
        | ret u =>
          obtain ⟨v, H', os, bare, un, hok', r', q⟩ := h
          have q' : v = .bl true := q
          subst q'
          obtain rfl : u = Value.bool true := r'
          refine ⟨rfl, OldK.of_keep fun b o e => ?_, os, bare⟩
          rcases hO b with q | ⟨ob, xs, q⟩
          · exact un.keep b o e q (by intro z; exact absurd (show b ∈ ([] : List Addr) from z) (by simp)) (by simp)
          · obtain ⟨e1, _⟩ := hok b _ q
            obtain ⟨e2, _⟩ := hok' b _ (un.frzs b ob _ q)
            rw [e] at e1
            cases e1
            exact e2
  cases hk : K.lookup a with
  | some o =>
    have e := KX a o hk
    rw [hobj] at e
    cases e
    exact key (fun _ => none) (fun b z => absurd rfl z) (fun z => absurd rfl z) (fun _ => .inl rfl) (fun b u z => by cases (show (none : Option HO) = some u from z)) (.inr ⟨_, vs.toArray, _, hk, rfl, rfl, rfl, by rw [List.size_toArray, hints.length]; exact hl, by simpa using rv⟩)
  | none =>
    let H : Hp := fun b => if b = a then some (.frz { cls := .type "list", data := .seq vs.toArray } (.lst (ns.map V.int))) else none
    have at_a : H a = some (.frz { cls := .type "list", data := .seq vs.toArray } (.lst (ns.map V.int))) := if_pos rfl
    have off : ∀ b, b ≠ a → H b = none := fun b h => if_neg h
    refine key H (fun b z => Classical.byContradiction fun n => z (off b n)) (fun _ => hk) (fun b => ?_) (fun b u z => ?_) (.inl (.inr ⟨_, at_a⟩))
    · by_cases hb : b = a
      · exact .inr ⟨_, _, hb ▸ at_a⟩
      · exact .inl (off b hb)
    · by_cases hb : b = a
      · subst hb
        rw [at_a] at z
        cases z
        exact ⟨hobj, by rw [List.length_map]; exact hl, vs, _, rv, hobj⟩
      · rw [off b hb] at z
        cases z
end Ev

/-! Ev, part 10: small things for the printed walks. -/
namespace Ev
open PySem L2
def nkB (o : Option NameKind) (k : NameKind) : Bool := match o with | some j => decide (j = k) | none => false
theorem nkB_ok {o : Option NameKind} {k : NameKind} (h : nkB o k = true) : o = some k := by
  cases o with
  | none => cases h
  | some j => rw [of_decide_eq_true h]
def blkB (N : List Str) (names : List (Str × NameKind)) (scope : Scope) (own : List (Str × Nat)) : Bool :=
  (match scope.kind with | .function => true | _ => false) && scope.names.all (fun y => nkB (scope.names.lookup y.1) y.2) && own.all (fun p => match N[p.2]? with | some x => x == p.1 | none => false) &&
    scope.names.all (fun y => match y.2 with | .free => nkB (names.lookup y.1) .cell || nkB (names.lookup y.1) .free | _ => true) &&
    scope.names.all (fun y => match y.2 with | .local => (own.map (·.1)).any (· == y.1) || !(N.any (· == y.1)) | .cell => (own.map (·.1)).any (· == y.1) || !(N.any (· == y.1)) | _ => true)
theorem BlkOk.of {N : List Str} {sc scope : Scope} {own : List (Str × Nat)} (h : blkB N sc.names scope own = true) : BlkOk N sc scope own := by
  simp only [blkB, Bool.and_eq_true, List.all_eq_true] at h
  obtain ⟨⟨⟨⟨h1, h2⟩, h3⟩, h4⟩, h5⟩ := h
  have anyS : ∀ (l : List Str) (x : Str), (l.any (· == x)) = true ↔ x ∈ l := fun l x => by simp
  have last : ∀ y : Str × NameKind, ((own.map (·.1)).any (· == y.1) || !(N.any (· == y.1))) = true → y.1 ∈ own.map (·.1) ∨ y.1 ∉ N := fun y q => by
    rw [Bool.or_eq_true] at q
    rcases q with q | q
    · exact .inl ((anyS _ _).mp q)
    · refine .inr fun m => ?_
      rw [(anyS N y.1).mpr m] at q
      cases q
  refine ⟨?_, fun y hy => nkB_ok (h2 y hy), fun p hp => ?_, fun y hy e => ?_, fun y hy e => ?_⟩
  · split at h1
    · assumption
    · cases h1
  · have := h3 p hp
    split at this
    · rename_i x q; rw [q, eq_of_beq this]
    · cases this
  · have := h4 y hy
    rw [e] at this
    simp only [Bool.or_eq_true] at this
    exact this.imp nkB_ok nkB_ok
  · have := h5 y hy
    rcases e with e | e <;> (rw [e] at this; exact last y this)
theorem KD.ofInt {K : PySem.W.Frag} {mg : Str → Option Value} {x : Str} {i : Int} (h : ∃ t, mg x = some (.int i t)) : KD K mg x (.int i) := let ⟨t, e⟩ := h; ⟨_, .int i, e, ⟨t, rfl⟩, fun _ _ _ => by simp only [Rep]⟩
theorem KD.ofStr {K : PySem.W.Frag} {mg : Str → Option Value} {x z : Str} (h : ∃ t, mg x = some (.str z t)) : KD K mg x (.str z) := let ⟨t, e⟩ := h; ⟨_, .str z, e, ⟨t, rfl⟩, fun _ _ _ => by simp only [Rep]⟩
section
variable {X : Cx} {W : WX}
/-- one or the other way to read -/
theorem SI.or {tg x : Expr} {m1 m2 : ML} (h1 : SI X W tg x m1) (h2 : SI X W tg x m2) : SI X W tg x (fun env S => match m1 env S with | .err => m2 env S | r => r) := ⟨fun pins s σ H R I h => by
  obtain ⟨B, env, S, ρ, eo, so, P⟩ := h
  cases q : m1 env S with
  | err => exact h2.run pins s σ H R I ⟨B, env, S, ρ, eo, so, by simpa only [q] using P⟩
  | ok a S1 => exact h1.run pins s σ H R I ⟨B, env, S, ρ, eo, so, by rw [q]; simpa only [q] using P⟩
  | exc c p S1 => exact h1.run pins s σ H R I ⟨B, env, S, ρ, eo, so, by rw [q]; simpa only [q] using P⟩⟩
/-- what stays as it is and can be walked: a tuple, a list that is not written -/
def fixS : D → Option (List D) | .lst ds => some ds | .rol ds => some ds | .tup ds => some ds | _ => none
def mItS (m : M) : ML := fun env S => (m env S).bind fun d S1 => Rs.of (fixS d) S1
theorem si_seq {l tg : Expr} {m : M} (hl : SE X W l m) : SI X W tg l (mItS m) := PI.imp (SI.or (si_list hl) (si_tup hl)) fun σ H R h => by
  obtain ⟨B, env, S, ρ, eo, so, P⟩ := h
  refine ⟨B, env, S, ρ, eo, so, ?_⟩
  have e : (match mItL m env S with | .err => mItT m env S | r => r) = mItS m env S := by
    unfold mItL mItT mItS
    cases q : m env S with
    | err => rfl
    | exc c p S1 => rfl
    | ok d S1 => cases d <;> rfl
  simp only [e]
  exact P
end
end Ev

/-! Ev, part 11: what is to be shown of plain functions, by going back from what is wanted. -/
namespace Ev
open PySem L2
abbrev XQ := Str → Option (List Str × List D) → Sto → Prop
def Rs.po {α : Type} (r : Rs α) (Q : α → Sto → Prop) (X : XQ) : Prop := match r with | .ok a S => Q a S | .exc c p S => X c p S | .err => False
def opo {α : Type} (o : Option α) (Q : α → Prop) : Prop := match o with | some a => Q a | none => False
def fpo (r : Option (Fl × Sto)) (Q : Fl → Sto → Prop) : Prop := match r with | some (f, S) => Q f S | none => False
def gpo (r : Option (En × Sto)) (Q : En → Sto → Prop) : Prop := match r with | some (e, S) => Q e S | none => False
def Pr.po (r : Pr) (Q : D → Prop) (X : Str → Option (List Str × List D) → Prop) : Prop := match r with | .ok d => Q d | .exc c p => X c p | .err => False
def blE (d : D) (A B : Prop) : Prop := match d with | .bl true => A | .bl false => B | _ => False
@[simp] theorem blE_bl {b : Bool} {A B : Prop} : blE (.bl b) A B = if b = true then A else B := by cases b <;> rfl
def clI (n : Nat) (g : List D → Sto → Rs D) (ds : List D) (S : Sto) : Rs D := if Nat.beq ds.length n then g ds S else .err
section
variable {α β : Type} {Q : α → Sto → Prop} {X : XQ} {env : En} {S : Sto}
@[simp] theorem po_ok {a : α} : (Rs.ok a S).po Q X = Q a S := rfl
@[simp] theorem po_exc {c : Str} {p : Option (List Str × List D)} : (Rs.exc c p S : Rs α).po Q X = X c p S := rfl
@[simp] theorem po_err : (Rs.err : Rs α).po Q X = False := rfl
@[simp] theorem po_bind {r : Rs β} {f : β → Sto → Rs α} : (r.bind f).po Q X = r.po (fun a S => (f a S).po Q X) X := by cases r <;> rfl
@[simp] theorem po_of {o : Option α} : (Rs.of o S).po Q X = opo o (fun a => Q a S) := by cases o <;> rfl
@[simp] theorem po_ite {c : Prop} [Decidable c] {a b : Rs α} : (if c then a else b).po Q X = if c then a.po Q X else b.po Q X := by split <;> rfl
@[simp] theorem opo_some {a : α} {Q : α → Prop} : opo (some a) Q = Q a := rfl
@[simp] theorem opo_none {Q : α → Prop} : opo none Q = False := rfl
@[simp] theorem opo_map {f : α → β} {o : Option α} {Q : β → Prop} : opo (o.map f) Q = opo o (fun a => Q (f a)) := by cases o <;> rfl
@[simp] theorem opo_ite {c : Prop} [Decidable c] {a : α} {Q : α → Prop} : opo (if c then some a else none) Q = (c ∧ Q a) := by
  split <;> simp [*]
@[simp] theorem gpo_some {e : En} {Q : En → Sto → Prop} : gpo (some (e, S)) Q = Q e S := rfl
@[simp] theorem gpo_none {Q : En → Sto → Prop} : gpo none Q = False := rfl
@[simp] theorem fpo_some {f : Fl} {Q : Fl → Sto → Prop} : fpo (some (f, S)) Q = Q f S := rfl
@[simp] theorem fpo_none {Q : Fl → Sto → Prop} : fpo none Q = False := rfl
@[simp] theorem prpo_ok {d : D} {Q : D → Prop} {X} : (Pr.ok d).po Q X = Q d := rfl
@[simp] theorem prpo_exc {c p} {Q : D → Prop} {X} : (Pr.exc c p).po Q X = X c p := rfl
@[simp] theorem prpo_err {Q : D → Prop} {X} : Pr.err.po Q X = False := rfl
theorem Rs.po.mono {r : Rs α} {Q Q' : α → Sto → Prop} {X X' : XQ} (h : r.po Q X) (hq : ∀ a S, Q a S → Q' a S) (hx : ∀ c p S, X c p S → X' c p S) : r.po Q' X' := by
  cases r with
  | ok a S => exact hq _ _ h
  | exc c p S => exact hx _ _ _ h
  | err => exact h
theorem fpo.mono {r : Option (Fl × Sto)} {Q Q' : Fl → Sto → Prop} (h : fpo r Q) (hq : ∀ f S, Q f S → Q' f S) : fpo r Q' := by
  cases r with
  | none => exact h
  | some p => exact hq _ _ h
theorem Pr.po.mono {r : Pr} {Q Q' : D → Prop} {X X'} (h : r.po Q X) (hq : ∀ a, Q a → Q' a) (hx : ∀ c p, X c p → X' c p) : r.po Q' X' := by
  cases r with
  | ok a => exact hq _ h
  | exc c p => exact hx _ _ h
  | err => exact h
theorem Pr.eq {r : Pr} {v : D} (h : r.po (fun d => d = v) fun _ _ => False) : r = .ok v := by
  cases r with
  | ok a => rw [show a = v from h]
  | exc c p => exact h.elim
  | err => exact h.elim
theorem Pr.eqx {r : Pr} {c : Str} {p : Option (List Str × List D)} (h : r.po (fun d => False) fun c' p' => c' = c ∧ p' = p) : r = .exc c p := by
  cases r with
  | ok a => exact h.elim
  | exc c p => obtain ⟨rfl, rfl⟩ := h; rfl
  | err => exact h.elim
end
section
variable {Q : D → Sto → Prop} {X : XQ} {env : En} {S : Sto} {P : D → Prop}
@[simp] theorem mVar_po {i : Nat} : (mVar i env S).po Q X = (match env[i]? with | some (some d) => Q d S | _ => False) := by
  unfold mVar
  generalize env[i]? = o
  cases o with
  | none => rfl
  | some o => cases o <;> rfl
@[simp] theorem mC_po {d : D} : (mC d env S).po Q X = Q d S := rfl
@[simp] theorem mOp_po {sem : Sto → D → D → Option D} {a b : M} : (mOp sem a b env S).po Q X = (a env S).po (fun x S1 => (b env S1).po (fun y S2 => opo (sem S2 x y) fun d => Q d S2) X) X := by simp [mOp]
@[simp] theorem sUn_po {sem : Sto → D → Option D} {a : M} : (sUn sem a env S).po Q X = (a env S).po (fun x S1 => opo (sem S1 x) fun d => Q d S1) X := by simp [sUn]
@[simp] theorem mIf_po {c : MT} {a b : M} : (mIf c a b env S).po Q X = (c env S).po (fun k S1 => if k = true then (a env S1).po Q X else (b env S1).po Q X) X := by simp [mIf]
@[simp] theorem mAndV_po {a b : M} : (mAndV a b env S).po Q X = (a env S).po (fun d S1 => blE d ((b env S1).po Q X) (Q (.bl false) S1)) X := by
  simp only [mAndV, po_bind]; congr; funext d S1
  cases d with
  | bl b => cases b <;> rfl
  | _ => rfl
@[simp] theorem mOrV_po {a b : M} : (mOrV a b env S).po Q X = (a env S).po (fun d S1 => blE d (Q (.bl true) S1) ((b env S1).po Q X)) X := by
  simp only [mOrV, po_bind]; congr; funext d S1
  cases d with
  | bl b => cases b <;> rfl
  | _ => rfl
@[simp] theorem mNotV_po {a : M} : (mNotV a env S).po Q X = (a env S).po (fun d S1 => opo (truB S1 d) fun b => Q (.bl !b) S1) X := by simp [mNotV]
@[simp] theorem mChain_po {sem sem' : Sto → D → D → Option D} {a b c : M} : (mChain sem sem' a b c env S).po Q X = (a env S).po (fun x S1 => (b env S1).po (fun y S2 => opo (sem S2 x y) fun d => blE d ((c env S2).po (fun z S3 => opo (sem' S3 y z) fun d => Q d S3) X) (Q (.bl false) S2)) X) X := by
  simp only [mChain, po_bind]; congr; funext x S1; congr; funext y S2
  cases sem S2 x y with
  | none => rfl
  | some d => cases d with
    | bl b => cases b <;> simp [blE]
    | _ => rfl
@[simp] theorem mTup_po {m : ML} : (mTup m env S).po Q X = (m env S).po (fun ds S1 => room ds.length = true ∧ Q (.tup ds) S1) X := by
  simp only [mTup, po_bind]; congr; funext ds S1; cases room ds.length <;> simp
@[simp] theorem mLst_po {m : ML} : (mLst m env S).po Q X = (m env S).po (fun ds S1 => room ds.length = true ∧ Q (.lst ds) S1) X := by
  simp only [mLst, po_bind]; congr; funext ds S1; cases room ds.length <;> simp
@[simp] theorem mNew_po {m : ML} : (mNew m env S).po Q X = (m env S).po (fun ds S1 => room ds.length = true ∧ Q (.ref S1.length) (S1 ++ [.lst ds])) X := by
  simp only [mNew, po_bind]; congr; funext ds S1; cases room ds.length <;> simp
@[simp] theorem mCB_po {sem : Sto → List D → Option D} {m : ML} : (mCB sem m env S).po Q X = (m env S).po (fun ds S1 => opo (sem S1 ds) fun d => Q d S1) X := by simp [mCB]
@[simp] theorem mCallP_po {n : Nat} {g : List D → Pr} {m : ML} : (mCallP n g m env S).po Q X = (m env S).po (fun ds S1 => (clP n g ds S1).po Q X) X := by simp [mCallP]
@[simp] theorem mCallI_po {n : Nat} {g : List D → Sto → Rs D} {m : ML} : (mCallI n g m env S).po Q X = (m env S).po (fun ds S1 => (clI n g ds S1).po Q X) X := by simp only [mCallI, clI, po_bind]
theorem clP_po {n : Nat} {g : List D → Pr} {ds : List D} : (clP n g ds S).po Q X = ((noRefs ds = true ∧ ds.length = n) ∧ (g ds).po (fun d => Q d S) fun c p => X c p S) := by
  unfold clP
  by_cases h : noRefs ds = true
  · by_cases h2 : ds.length = n
    · have : Nat.beq ds.length n = true := Nat.beq_eq.mpr h2
      simp only [h, h2, this, Bool.and_self, if_true, true_and]
      subst h2
      cases g ds <;> simp [prR]
    · have : Nat.beq ds.length n = false := by
        cases q : Nat.beq ds.length n
        · rfl
        · exact absurd (Nat.beq_eq.mp q) h2
      simp [h2, this]
  · simp [h]
theorem clP_eq {n : Nat} {g : List D → Pr} {ds : List D} {v : D} (h : g ds = .ok v) (h1 : noRefs ds = true := by rfl) (h2 : ds.length = n := by rfl) : clP n g ds S = .ok v S := by
  subst h2
  unfold clP
  rw [h1, h, if_pos (by simp)]
  rfl
theorem clI_po {n : Nat} {g : List D → Sto → Rs D} {ds : List D} (h : ds.length = n) : (clI n g ds S).po Q X = (g ds S).po Q X := by
  unfold clI
  rw [if_pos (Nat.beq_eq.mpr h)]
end
section
variable {Q : List D → Sto → Prop} {X : XQ} {env : En} {S : Sto}
@[simp] theorem mNil_po : (mNil env S).po Q X = Q [] S := rfl
@[simp] theorem mCons_po {a : M} {r : ML} : (mCons a r env S).po Q X = (a env S).po (fun d S1 => (r env S1).po (fun ds S2 => Q (d :: ds) S2) X) X := by simp [mCons]
@[simp] theorem mKw_po {n j : Nat} {ix : List Nat} {m mk : ML} : (mKw n j ix m mk env S).po Q X = (m env S).po (fun ds S1 => (mk env S1).po (fun es S2 => (ds.length = n ∧ es.length = j) ∧ Q (perm ix (ds ++ es)) S2) X) X := by
  simp only [mKw, po_bind]; congr; funext ds S1; congr; funext es S2
  by_cases h1 : ds.length = n
  · by_cases h2 : es.length = j
    · have e1 : Nat.beq ds.length n = true := Nat.beq_eq.mpr h1
      have e2 : Nat.beq es.length j = true := Nat.beq_eq.mpr h2
      simp [h1, h2]
    · have e2 : Nat.beq es.length j = false := by
        cases q : Nat.beq es.length j
        · rfl
        · exact absurd (Nat.beq_eq.mp q) h2
      simp [h2, e2]
  · have e1 : Nat.beq ds.length n = false := by
      cases q : Nat.beq ds.length n
      · rfl
      · exact absurd (Nat.beq_eq.mp q) h1
    simp [h1, e1]
@[simp] theorem mRng1_po {m : ML} : (mRng1 m env S).po Q X = (m env S).po (fun ds S1 => match ds with | [.int j] => rngOk j = true ∧ Q (rngD 0 j.toNat) S1 | _ => False) X := by
  simp only [mRng1, po_bind]; congr; funext ds S1
  rcases ds with _ | ⟨d, _ | ⟨e, ds⟩⟩
  · rfl
  · cases d with
    | int j => simp only [po_ite, po_ok, po_err]; split <;> simp [*]
    | _ => rfl
  · cases d <;> rfl
@[simp] theorem mRng2_po {m : ML} : (mRng2 m env S).po Q X = (m env S).po (fun ds S1 => match ds with | [.int i, .int j] => (rngOk i && rngOk j) = true ∧ Q (rngD i (j - i).toNat) S1 | _ => False) X := by
  simp only [mRng2, po_bind]; congr; funext ds S1
  rcases ds with _ | ⟨d, _ | ⟨e, _ | ⟨f, ds⟩⟩⟩
  · rfl
  · cases d <;> rfl
  · cases d with
    | int i => cases e with
      | int j => simp only [po_ite, po_ok, po_err]; split <;> simp_all
      | _ => rfl
    | _ => rfl
  · cases d with
    | int i => cases e <;> rfl
    | _ => rfl
@[simp] theorem mItS_po {m : M} : (mItS m env S).po Q X = (m env S).po (fun d S1 => opo (fixS d) fun ds => Q ds S1) X := by simp [mItS]
end
section
variable {Q : Bool → Sto → Prop} {X : XQ} {env : En} {S : Sto}
@[simp] theorem mBs_po {m : M} : (mBs m env S).po Q X = (m env S).po (fun d S1 => match d with | .bl b => Q b S1 | _ => False) X := by
  simp only [mBs, po_bind]; congr; funext d S1; cases d <;> rfl
@[simp] theorem mTru_po {m : M} : (mTru m env S).po Q X = (m env S).po (fun d S1 => opo (truB S1 d) fun b => Q b S1) X := by simp [mTru]
@[simp] theorem mAndT_po {a b : MT} : (mAndT a b env S).po Q X = (a env S).po (fun c S1 => if c = true then (b env S1).po Q X else Q false S1) X := by simp [mAndT]
@[simp] theorem mOrT_po {a b : MT} : (mOrT a b env S).po Q X = (a env S).po (fun c S1 => if c = true then Q true S1 else (b env S1).po Q X) X := by simp [mOrT]
@[simp] theorem mNotT_po {a : MT} : (mNotT a env S).po Q X = (a env S).po (fun c S1 => Q (!c) S1) X := by simp [mNotT]
@[simp] theorem mYes_po : (mYes env S).po Q X = Q true S := rfl
end
section
variable {Q : Option Int → Sto → Prop} {X : XQ} {env : En} {S : Sto}
@[simp] theorem mONone_po : (mONone env S).po Q X = Q none S := rfl
@[simp] theorem mOSome_po {m : M} : (mOSome m env S).po Q X = (m env S).po (fun d S1 => match d with | .int i => Q (some i) S1 | _ => False) X := by
  simp only [mOSome, po_bind]; congr; funext d S1; cases d <;> rfl
@[simp] theorem mSl_po {Q : D → Sto → Prop} {a : M} {l h : MO} : (mSl a l h env S).po Q X = (a env S).po (fun x S1 => (l env S1).po (fun lo S2 => (h env S2).po (fun hi S3 => opo (sSl S3 x lo hi) fun d => Q d S3) X) X) X := by simp [mSl]
end
@[simp] theorem room_eq (n : Nat) : room n = decide (n ≤ 16000000) := by
  unfold room
  rw [Bool.eq_iff_iff, Nat.ble_eq]; simp
/-! ### by kinds -/
section
variable {S : Sto} {P : D → Prop} {i j : Int} {a b : Str} {xs ys : List D}
@[simp] theorem sAdd_ii : sAdd S (.int i) (.int j) = some (.int (i + j)) := rfl
@[simp] theorem sAdd_ss : sAdd S (.str a) (.str b) = if room (a.length + b.length) = true then some (.str (a ++ b)) else none := rfl
@[simp] theorem sAdd_tt : sAdd S (.tup xs) (.tup ys) = if room (xs.length + ys.length) = true then some (.tup (xs ++ ys)) else none := rfl
@[simp] theorem sAdd_ll : sAdd S (.lst xs) (.lst ys) = if room (xs.length + ys.length) = true then some (.lst (xs ++ ys)) else none := rfl
@[simp] theorem sSub_ii : sSub S (.int i) (.int j) = some (.int (i - j)) := rfl
@[simp] theorem sMul_ii : sMul S (.int i) (.int j) = if cMul i j = true then some (.int (i * j)) else none := rfl
@[simp] theorem sFdiv_ii : sFdiv S (.int i) (.int j) = if cDivG i j = true then some (.int (i.fdiv j)) else none := rfl
@[simp] theorem sMod_ii : sMod S (.int i) (.int j) = if cNz i j = true then some (.int (i.fmod j)) else none := rfl
@[simp] theorem sPow_ii : sPow S (.int i) (.int j) = if cPow i j = true then some (.int (i ^ j.toNat)) else none := rfl
@[simp] theorem sNeg_i : sNeg S (.int i) = some (.int (-i)) := rfl
@[simp] theorem sEq_ii : sEq S (.int i) (.int j) = some (.bl (decide (i = j))) := rfl
@[simp] theorem sEq_ss : sEq S (.str a) (.str b) = some (.bl (decide (a = b))) := rfl
@[simp] theorem sNe_ii : sNe S (.int i) (.int j) = some (.bl !(decide (i = j))) := rfl
@[simp] theorem sNe_ss : sNe S (.str a) (.str b) = some (.bl !(decide (a = b))) := rfl
@[simp] theorem sLt_ii : sLt S (.int i) (.int j) = some (.bl (decide (i < j))) := rfl
@[simp] theorem sGt_ii : sGt S (.int i) (.int j) = some (.bl (decide (j < i))) := rfl
@[simp] theorem sLe_ii : sLe S (.int i) (.int j) = some (.bl (decide (i ≤ j))) := rfl
@[simp] theorem sGe_ii : sGe S (.int i) (.int j) = some (.bl (decide (j ≤ i))) := rfl
@[simp] theorem sIx_ti : sIx S (.tup xs) (.int i) = atI xs i := rfl
@[simp] theorem sIx_li : sIx S (.lst xs) (.int i) = atI xs i := rfl
@[simp] theorem sIx_ri : sIx S (.rol xs) (.int i) = atI xs i := rfl
theorem sIx_ref {n : Nat} (h : S[n]? = some (.lst xs)) : sIx S (.ref n) (.int i) = atI xs i := by simp [sIx, lstOf, h]
@[simp] theorem sLen_t : sLen S [.tup xs] = some (.int (xs.length : Int)) := rfl
@[simp] theorem sLen_l : sLen S [.lst xs] = some (.int (xs.length : Int)) := rfl
@[simp] theorem sLen_r : sLen S [.rol xs] = some (.int (xs.length : Int)) := rfl
theorem sLen_ref {n : Nat} (h : S[n]? = some (.lst xs)) : sLen S [.ref n] = some (.int (xs.length : Int)) := by simp [sLen, lstOf, h]
@[simp] theorem sAbs_i : sAbs S [.int i] = some (.int (if i < 0 then -i else i)) := rfl
@[simp] theorem sMax_i : sMax S [.int i, .int j] = some (.int (if j > i then j else i)) := rfl
@[simp] theorem sMin_i : sMin S [.int i, .int j] = some (.int (if j < i then j else i)) := rfl
@[simp] theorem sInt_i : sInt S [.int i] = some (.int i) := rfl
@[simp] theorem sDivmod_i : sDivmod S [.int i, .int j] = if (decide (0 < j) && Nat.blt j.natAbs.log2 9000) = true then some (.tup [.int (i / j), .int (i % j)]) else none := rfl
@[simp] theorem truB_bl {b : Bool} : truB S (.bl b) = some b := rfl
@[simp] theorem truB_int : truB S (.int i) = some (i != 0) := rfl
@[simp] theorem truB_non : truB S .non = some false := rfl
@[simp] theorem truB_tup : truB S (.tup xs) = some !xs.isEmpty := rfl
@[simp] theorem truB_lst : truB S (.lst xs) = some !xs.isEmpty := rfl
@[simp] theorem truB_rol : truB S (.rol xs) = some !xs.isEmpty := rfl
@[simp] theorem fixS_l : fixS (.lst xs) = some xs := rfl
@[simp] theorem fixS_r : fixS (.rol xs) = some xs := rfl
@[simp] theorem fixS_t : fixS (.tup xs) = some xs := rfl
@[simp] theorem frz_int : frz S (.int i) = some (.int i) := rfl
@[simp] theorem frz_bl {b : Bool} : frz S (.bl b) = some (.bl b) := rfl
@[simp] theorem frz_non : frz S .non = some .non := rfl
@[simp] theorem frz_str {x : Str} : frz S (.str x) = some (.str x) := rfl
@[simp] theorem frz_tup : frz S (.tup xs) = (frzL S xs).map .tup := by simp [frz]
@[simp] theorem frzL_nil : frzL S [] = some [] := rfl
theorem frzL_cons {d : D} {ds : List D} {e : D} {es : List D} (h1 : frz S d = some e) (h2 : frzL S ds = some es) : frzL S (d :: ds) = some (e :: es) := by simp only [frzL, h1, h2]
@[simp] theorem frzL_int : frzL S (.int i :: xs) = (frzL S xs).map (.int i :: ·) := by simp only [frzL, frz]; cases frzL S xs <;> rfl
@[simp] theorem frzL_bl {b : Bool} : frzL S (.bl b :: xs) = (frzL S xs).map (.bl b :: ·) := by simp only [frzL, frz]; cases frzL S xs <;> rfl
@[simp] theorem frzL_str {x : Str} : frzL S (.str x :: xs) = (frzL S xs).map (.str x :: ·) := by simp only [frzL, frz]; cases frzL S xs <;> rfl
theorem isiT_int {d : D} : sIsiT S [d, .glo "int"] = (isB "int" S d).map .bl := by kernel_rfl
theorem isiT_bool {d : D} : sIsiT S [d, .glo "bool"] = (isB "bool" S d).map .bl := by kernel_rfl
theorem isiT_str {d : D} : sIsiT S [d, .glo "str"] = (isB "str" S d).map .bl := by kernel_rfl
theorem isiT_tuple {d : D} : sIsiT S [d, .glo "tuple"] = (isB "tuple" S d).map .bl := by kernel_rfl
theorem isiT_list {d : D} : sIsiT S [d, .glo "list"] = (isB "list" S d).map .bl := by kernel_rfl
@[simp] theorem isi_non_int : sIsiT S [.non, .glo "int"] = some (.bl false) := by rw [isiT_int]; kernel_rfl
@[simp] theorem isi_non_bool : sIsiT S [.non, .glo "bool"] = some (.bl false) := by rw [isiT_bool]; kernel_rfl
@[simp] theorem isi_non_str : sIsiT S [.non, .glo "str"] = some (.bl false) := by rw [isiT_str]; kernel_rfl
@[simp] theorem isi_non_tuple : sIsiT S [.non, .glo "tuple"] = some (.bl false) := by rw [isiT_tuple]; kernel_rfl
@[simp] theorem isi_non_list : sIsiT S [.non, .glo "list"] = some (.bl false) := by rw [isiT_list]; kernel_rfl
@[simp] theorem isi_bl_int {b0 : Bool} : sIsiT S [(.bl b0), .glo "int"] = some (.bl true) := by rw [isiT_int]; kernel_rfl
@[simp] theorem isi_bl_bool {b0 : Bool} : sIsiT S [(.bl b0), .glo "bool"] = some (.bl true) := by rw [isiT_bool]; kernel_rfl
@[simp] theorem isi_bl_str {b0 : Bool} : sIsiT S [(.bl b0), .glo "str"] = some (.bl false) := by rw [isiT_str]; kernel_rfl
@[simp] theorem isi_bl_tuple {b0 : Bool} : sIsiT S [(.bl b0), .glo "tuple"] = some (.bl false) := by rw [isiT_tuple]; kernel_rfl
@[simp] theorem isi_bl_list {b0 : Bool} : sIsiT S [(.bl b0), .glo "list"] = some (.bl false) := by rw [isiT_list]; kernel_rfl
@[simp] theorem isi_int_int : sIsiT S [(.int i), .glo "int"] = some (.bl true) := by rw [isiT_int]; kernel_rfl
@[simp] theorem isi_int_bool : sIsiT S [(.int i), .glo "bool"] = some (.bl false) := by rw [isiT_bool]; kernel_rfl
@[simp] theorem isi_int_str : sIsiT S [(.int i), .glo "str"] = some (.bl false) := by rw [isiT_str]; kernel_rfl
@[simp] theorem isi_int_tuple : sIsiT S [(.int i), .glo "tuple"] = some (.bl false) := by rw [isiT_tuple]; kernel_rfl
@[simp] theorem isi_int_list : sIsiT S [(.int i), .glo "list"] = some (.bl false) := by rw [isiT_list]; kernel_rfl
@[simp] theorem isi_str_int : sIsiT S [(.str a), .glo "int"] = some (.bl false) := by rw [isiT_int]; kernel_rfl
@[simp] theorem isi_str_bool : sIsiT S [(.str a), .glo "bool"] = some (.bl false) := by rw [isiT_bool]; kernel_rfl
@[simp] theorem isi_str_str : sIsiT S [(.str a), .glo "str"] = some (.bl true) := by rw [isiT_str]; kernel_rfl
@[simp] theorem isi_str_tuple : sIsiT S [(.str a), .glo "tuple"] = some (.bl false) := by rw [isiT_tuple]; kernel_rfl
@[simp] theorem isi_str_list : sIsiT S [(.str a), .glo "list"] = some (.bl false) := by rw [isiT_list]; kernel_rfl
@[simp] theorem isi_tup_int : sIsiT S [(.tup xs), .glo "int"] = some (.bl false) := by rw [isiT_int]; kernel_rfl
@[simp] theorem isi_tup_bool : sIsiT S [(.tup xs), .glo "bool"] = some (.bl false) := by rw [isiT_bool]; kernel_rfl
@[simp] theorem isi_tup_str : sIsiT S [(.tup xs), .glo "str"] = some (.bl false) := by rw [isiT_str]; kernel_rfl
@[simp] theorem isi_tup_tuple : sIsiT S [(.tup xs), .glo "tuple"] = some (.bl true) := by rw [isiT_tuple]; kernel_rfl
@[simp] theorem isi_tup_list : sIsiT S [(.tup xs), .glo "list"] = some (.bl false) := by rw [isiT_list]; kernel_rfl
@[simp] theorem isi_lst_int : sIsiT S [(.lst xs), .glo "int"] = some (.bl false) := by rw [isiT_int]; kernel_rfl
@[simp] theorem isi_lst_bool : sIsiT S [(.lst xs), .glo "bool"] = some (.bl false) := by rw [isiT_bool]; kernel_rfl
@[simp] theorem isi_lst_str : sIsiT S [(.lst xs), .glo "str"] = some (.bl false) := by rw [isiT_str]; kernel_rfl
@[simp] theorem isi_lst_tuple : sIsiT S [(.lst xs), .glo "tuple"] = some (.bl false) := by rw [isiT_tuple]; kernel_rfl
@[simp] theorem isi_lst_list : sIsiT S [(.lst xs), .glo "list"] = some (.bl true) := by rw [isiT_list]; kernel_rfl
@[simp] theorem isi_rol_int : sIsiT S [(.rol xs), .glo "int"] = some (.bl false) := by rw [isiT_int]; kernel_rfl
@[simp] theorem isi_rol_bool : sIsiT S [(.rol xs), .glo "bool"] = some (.bl false) := by rw [isiT_bool]; kernel_rfl
@[simp] theorem isi_rol_str : sIsiT S [(.rol xs), .glo "str"] = some (.bl false) := by rw [isiT_str]; kernel_rfl
@[simp] theorem isi_rol_tuple : sIsiT S [(.rol xs), .glo "tuple"] = some (.bl false) := by rw [isiT_tuple]; kernel_rfl
@[simp] theorem isi_rol_list : sIsiT S [(.rol xs), .glo "list"] = some (.bl true) := by rw [isiT_list]; kernel_rfl
@[simp] theorem sAll_l : sAll S [.lst xs] = (blsOf xs).map fun bs => .bl (bs.all id) := rfl
@[simp] theorem sAny_l : sAny S [.lst xs] = (blsOf xs).map fun bs => .bl (bs.any id) := rfl
@[simp] theorem blsOf_nil : blsOf [] = some [] := rfl
@[simp] theorem blsOf_bl {b : Bool} : blsOf (.bl b :: xs) = (blsOf xs).map (b :: ·) := rfl
@[simp] theorem sSl_t {lo hi : Option Int} : sSl S (.tup xs) lo hi = some (.tup (cutD xs lo hi)) := rfl
@[simp] theorem sSl_l {lo hi : Option Int} : sSl S (.lst xs) lo hi = some (.lst (cutD xs lo hi)) := rfl
@[simp] theorem sSl_r {lo hi : Option Int} : sSl S (.rol xs) lo hi = some (.lst (cutD xs lo hi)) := rfl
theorem cutD_map {α β : Type} (f : α → β) (zs : List α) (lo hi : Option Int) : cutD (zs.map f) lo hi = (cutD zs lo hi).map f := by
  simp only [cutD, List.length_map, List.map_take, List.map_drop]
theorem cutD_len {α : Type} (zs : List α) (lo hi : Option Int) : (cutD zs lo hi).length ≤ zs.length := by
  simp only [cutD, List.length_take, List.length_drop]; omega
/-! bounds -/
theorem lt_two {i : Int} {n k : Nat} (h : i.natAbs < n) (hn : n ≤ 2 ^ k) (hk : 0 < k) : i.natAbs.log2 < k := by
  by_cases z : i.natAbs = 0
  · rw [z]; simpa using hk
  · exact (Nat.log2_lt z).mpr (by omega)
theorem cMul_s (h : j.natAbs < 18446744073709551616) : cMul i j = true := by
  have : Nat.blt j.natAbs 18446744073709551616 = true := by rw [Nat.blt_eq]; exact h
  simp only [cMul, this, Bool.or_true, Bool.true_or]
theorem cMul_l (h : i.natAbs < 18446744073709551616) : cMul i j = true := by
  have : Nat.blt i.natAbs 18446744073709551616 = true := by rw [Nat.blt_eq]; exact h
  simp only [cMul, this, Bool.true_or]
theorem cMul_b (hi : i.natAbs < 2 ^ 4000) (hj : j.natAbs < 2 ^ 4000) : cMul i j = true := by
  have : Nat.blt (i.natAbs.log2 + j.natAbs.log2) 1000000 = true := by
    rw [Nat.blt_eq]
    have h1 := lt_two hi (Nat.le_refl _) (by decide)
    have h2 := lt_two hj (Nat.le_refl _) (by decide)
    omega
  simp only [cMul, this, Bool.or_true]
theorem cDivG_b (h0 : j ≠ 0) (h : j.natAbs < 2 ^ 8000) : cDivG i j = true := by
  have h1 : Nat.beq j.natAbs 0 = false := by
    cases q : Nat.beq j.natAbs 0
    · rfl
    · have := Nat.beq_eq.mp q; omega
  have h2 : Nat.blt j.natAbs.log2 9000 = true := by
    rw [Nat.blt_eq]
    have := lt_two h (Nat.le_refl _) (by decide)
    omega
  simp only [cDivG, h1, h2, Bool.not_false, Bool.and_self]
theorem cNz_b (h0 : j ≠ 0) : cNz i j = true := by
  have h1 : Nat.beq j.natAbs 0 = false := by
    cases q : Nat.beq j.natAbs 0
    · rfl
    · have := Nat.beq_eq.mp q; omega
  simp only [cNz, h1, Bool.not_false]
end
/-! ### statements -/
section
variable {Q : Fl → Sto → Prop} {env : En} {S : Sto}
theorem lft_fpo {α : Type} {r : Rs α} {k : α → Sto → Option (Fl × Sto)} : fpo (lft r env k) Q = r.po (fun a S => fpo (k a S) Q) fun c p S => Q (.xc env c p) S := by cases r <;> rfl
@[simp] theorem mSkip_fpo : fpo (mSkip env S) Q = Q (.nx env) S := rfl
@[simp] theorem mSeq_fpo {a b : MS} : fpo (mSeq a b env S) Q = fpo (a env S) fun f S' => match f with | .nx e' => fpo (b e' S') Q | f => Q f S' := by
  unfold mSeq
  cases q : a env S with
  | none => rfl
  | some r =>
    obtain ⟨f, S'⟩ := r
    cases f <;> rfl
@[simp] theorem mIfS_fpo {c : MT} {a b : MS} : fpo (mIfS c a b env S) Q = (c env S).po (fun k S1 => if k = true then fpo (a env S1) Q else fpo (b env S1) Q) fun c p S => Q (.xc env c p) S := by
  simp only [mIfS, lft_fpo]; congr; funext k S1; split <;> rfl
@[simp] theorem mRet_fpo {m : M} : fpo (mRet m env S) Q = (m env S).po (fun d S1 => Q (.rt d) S1) fun c p S => Q (.xc env c p) S := by simp only [mRet, lft_fpo, fpo_some]
@[simp] theorem mRetN_fpo : fpo (mRetN env S) Q = Q (.rt .non) S := rfl
@[simp] theorem mDrop_fpo {m : M} : fpo (mDrop m env S) Q = (m env S).po (fun d S1 => Q (.nx env) S1) fun c p S => Q (.xc env c p) S := by simp only [mDrop, lft_fpo, fpo_some]
@[simp] theorem mBrk_fpo : fpo (mBrk env S) Q = Q (.bk env) S := rfl
@[simp] theorem mCnt_fpo : fpo (mCnt env S) Q = Q (.ct env) S := rfl
@[simp] theorem mNever_fpo : fpo (mNever env S) Q = False := rfl
@[simp] theorem mAsg_fpo {m : M} {g : MG} : fpo (mAsg m g env S) Q = (m env S).po (fun d S1 => gpo (g d env S1) fun e' S' => Q (.nx e') S') fun c p S => Q (.xc env c p) S := by
  simp only [mAsg, lft_fpo]; congr; funext d S1
  cases g d env S1 with
  | none => rfl
  | some p => rfl
@[simp] theorem mPar_fpo {i j : Nat} {m : ML} : fpo (mPar i j m env S) Q = (m env S).po (fun ds S1 => match ds with | [a, b] => Q (.nx ((env.set i (some a)).set j (some b))) S1 | _ => False) fun c p S => Q (.xc env c p) S := by
  simp only [mPar, lft_fpo]; congr; funext ds S1
  rcases ds with _ | ⟨a, _ | ⟨b, _ | ⟨c, ds⟩⟩⟩ <;> rfl
@[simp] theorem mPar3_fpo {i j l : Nat} {m : ML} : fpo (mPar3 i j l m env S) Q = (m env S).po (fun ds S1 => match ds with | [a, b, c] => Q (.nx (((env.set i (some a)).set j (some b)).set l (some c))) S1 | _ => False) fun c p S => Q (.xc env c p) S := by
  simp only [mPar3, lft_fpo]; congr; funext ds S1
  rcases ds with _ | ⟨a, _ | ⟨b, _ | ⟨c, _ | ⟨d, ds⟩⟩⟩⟩ <;> rfl
@[simp] theorem mFor_fpo {mi : ML} {g : MG} {b : MS} : fpo (mFor mi g b env S) Q = (mi env S).po (fun ds S1 => fpo (forGo g b ds env S1) Q) fun c p S => Q (.xc env c p) S := by simp only [mFor, lft_fpo]
@[simp] theorem gNm_gpo {i : Nat} {d : D} {Q : En → Sto → Prop} : gpo (gNm i d env S) Q = Q (env.set i (some d)) S := rfl
@[simp] theorem gTp_gpo {n : Nat} {g : MGs} {ds : List D} {Q : En → Sto → Prop} : gpo (gTp n g (.tup ds) env S) Q = (ds.length = n ∧ gpo (g ds env S) Q) := by
  unfold gTp; simp only
  split <;> simp [*]
@[simp] theorem gsNil_gpo {Q : En → Sto → Prop} : gpo (gsNil [] env S) Q = Q env S := rfl
@[simp] theorem gsCons_gpo {g : MG} {r : MGs} {d : D} {ds : List D} {Q : En → Sto → Prop} : gpo (gsCons g r (d :: ds) env S) Q = gpo (g d env S) fun e' S' => gpo (r ds e' S') Q := by
  unfold gsCons
  cases q : g d env S with
  | none => simp only [q]; rfl
  | some p => simp only [q]; rfl
/-- what a subscript's store asks: the readings of both parts as they are -/
theorem gSb_gpo {o i : M} {d : D} {Q : En → Sto → Prop} (h : (o env S).po (fun x S1 => (i env S1).po (fun y S2 => match x, y with
    | .ref n, .int k => opo S2[n]? fun ob => match ob with | .lst ds => opo (ixN ds.length k) fun j => Q env (S2.set n (.lst (ds.set j d))) | _ => False
    | _, _ => False) fun _ _ _ => False) fun _ _ _ => False) : gpo (gSb o i d env S) Q := by
  unfold gSb
  cases q : o env S with
  | err => rw [q] at h; exact h.elim
  | exc c p S1 => rw [q] at h; exact h.elim
  | ok x S1 =>
    rw [q] at h
    simp only [po_ok] at h
    cases q2 : i env S1 with
    | err => rw [q2] at h; exact h.elim
    | exc c p S1 => rw [q2] at h; exact h.elim
    | ok y S2 =>
      rw [q2] at h
      simp only [po_ok] at h
      split at h
      · rename_i n k
        simp only [q2]
        cases q3 : S2[n]? with
        | none => rw [q3] at h; exact h.elim
        | some ob =>
          rw [q3] at h
          cases ob with
          | ins c ns ds => exact h.elim
          | lst ds =>
            simp only [opo_some] at h
            simp only
            cases q4 : ixN ds.length k with
            | none => rw [q4] at h; exact h.elim
            | some j => rw [q4] at h; exact h
      · exact h.elim
theorem runI_po {N : Nat} {b : MS} {ds : List D} {Q : D → Sto → Prop} {X : XQ} : (runI N b ds S).po Q X = fpo (b (startE N ds) S) fun f S' => match f with | .rt d => Q d S' | .nx _ => Q .non S' | .xc _ c p => X c p S' | _ => False := by
  unfold runI
  cases q : b (startE N ds) S with
  | none => rfl
  | some r =>
    obtain ⟨f, S'⟩ := r
    cases f <;> rfl
theorem runP_po {N : Nat} {b : MS} {ds : List D} {Q : D → Prop} {X} : (runP N b ds).po Q X = fpo (b (startE N ds) []) fun f S' => match f with | .rt d => opo (frz S' d) Q | .nx _ => Q .non | .xc _ c p => opo (frzX S' p) (fun p => X c p) | _ => False := by
  unfold runP
  cases q : b (startE N ds) [] with
  | none => rfl
  | some r =>
    obtain ⟨f, S'⟩ := r
    cases f with
    | rt d => simp only [fpo_some]; cases frz S' d <;> rfl
    | xc e c p => simp only [fpo_some]; cases frzX S' p <;> rfl
    | _ => rfl
/-! loops -/
theorem fpo_mWh {c : MT} {b : MS} (Inv : Nat → En → Sto → Prop)
    (step : ∀ n env S, Inv n env S → (c env S).po (fun k S1 => if k = true then fpo (b env S1) (fun f S2 => match f with | .nx e' => ∃ m, m < n ∧ Inv m e' S2 | .ct e' => ∃ m, m < n ∧ Inv m e' S2 | .bk e' => Q (.nx e') S2 | f => Q f S2) else Q (.nx env) S1) fun c p S1 => Q (.xc env c p) S1) :
    ∀ (n : Nat) (env : En) (S : Sto), Inv n env S → fpo (mWh c b env S) Q := by
  intro n
  induction n using Nat.strongRecOn with
  | _ n ih =>
    intro env S h
    have st := step n env S h
    rw [mWh_eq, lft_fpo]
    refine Rs.po.mono st (fun k S1 z => ?_) (fun _ _ _ z => z)
    cases k with
    | false => simpa using z
    | true =>
      simp only [if_true] at z ⊢
      cases q : b env S1 with
      | none => rw [q] at z; exact z
      | some r =>
        obtain ⟨f, S2⟩ := r
        rw [q] at z
        cases f with
        | nx e' => obtain ⟨m, hm, hi⟩ := z; exact ih m hm e' S2 hi
        | ct e' => obtain ⟨m, hm, hi⟩ := z; exact ih m hm e' S2 hi
        | bk e' => exact z
        | rt d => exact z
        | xc e' c p => exact z
theorem fpo_for {g : MG} {b : MS} (Inv : Nat → En → Sto → Prop) : ∀ (ds : List D) (i0 : Nat)
    (step : ∀ i d env S, ds[i]? = some d → Inv (i0 + i) env S → gpo (g d env S) fun e1 S1 => fpo (b e1 S1) fun f S2 => match f with | .nx e' => Inv (i0 + i + 1) e' S2 | .ct e' => Inv (i0 + i + 1) e' S2 | .bk e' => Q (.nx e') S2 | f => Q f S2)
    (fin : ∀ env S, Inv (i0 + ds.length) env S → Q (.nx env) S) (env : En) (S : Sto), Inv i0 env S → fpo (forGo g b ds env S) Q
  | [], i0, step, fin, env, S, h => fin env S h
  | d :: ds, i0, step, fin, env, S, h => by
    have st := step 0 d env S rfl h
    unfold forGo
    cases q : g d env S with
    | none => rw [q] at st; exact st
    | some r =>
      obtain ⟨e1, S1⟩ := r
      rw [q] at st
      simp only [gpo_some] at st
      simp only
      cases q2 : b e1 S1 with
      | none => rw [q2] at st; exact st.elim
      | some r =>
        obtain ⟨f, S2⟩ := r
        rw [q2] at st
        have ih := fpo_for Inv ds (i0 + 1) (fun i d' env' S' hd hi => by
          have := step (i + 1) d' env' S' hd (by rwa [Nat.add_right_comm, Nat.add_assoc] at hi)
          rwa [← Nat.add_assoc, Nat.add_right_comm i0 i 1] at this) (fun env' S' hi => fin env' S' (by
            rw [List.length_cons]
            rwa [Nat.add_right_comm, Nat.add_assoc] at hi))
        cases f with
        | nx e' => exact ih e' S2 st
        | ct e' => exact ih e' S2 st
        | bk e' => exact st
        | rt d => exact st
        | xc e' c p => exact st
end
/-- a comprehension by an invariant of the store and what is made -/
theorem po_lc {mi : ML} {g : MG} {mt : MT} {me : M} {vs : List Nat} {env : En} {S : Sto} {Q : D → Sto → Prop} {X : XQ} (Inv : Nat → List D → Sto → Prop)
    (h : (mi env S).po (fun ds S1 => ds.length ≤ 16000000 ∧ Inv 0 [] S1 ∧
      (∀ i d ys S, ds[i]? = some d → Inv i ys S → gpo (g d (wipeE env vs) S) fun e1 S1 => (mt e1 S1).po (fun k S2 => if k = true then (me e1 S2).po (fun y S3 => Inv (i + 1) (ys ++ [y]) S3) (fun _ _ _ => False) else Inv (i + 1) ys S2) fun _ _ _ => False) ∧
      ∀ ys S, Inv ds.length ys S → Q (.lst ys) S) X) : (mLC mi g mt me vs env S).po Q X := by
  simp only [mLC, po_bind]
  refine Rs.po.mono h (fun ds S1 z => ?_) (fun _ _ _ z => z)
  obtain ⟨hl, h0, st, fin⟩ := z
  have key : ∀ (es : List D) (n i : Nat) (ys : List D) (S : Sto), n ≤ i → i + es.length ≤ 16000000 → es = ds.drop i → i + es.length = ds.length → Inv i ys S → ∃ zs S', lcGo g mt me (wipeE env vs) n es S = .ok zs S' ∧ Inv ds.length (ys ++ zs) S' := by
    intro es
    induction es with
    | nil => exact fun n i ys S _ _ _ hd hi => ⟨[], S, rfl, by rw [List.append_nil, ← hd]; simpa using hi⟩
    | cons d es ih =>
      intro n i ys S hn hb he hd hi
      have e0 : ds[i]? = some d := by
        have : (ds.drop i)[0]? = some d := by rw [← he]; rfl
        rwa [List.getElem?_drop, Nat.add_zero] at this
      have e1 : es = ds.drop (i + 1) := by
        have : (ds.drop i).drop 1 = es := by rw [← he]; rfl
        rw [← this, List.drop_drop]
      rw [List.length_cons] at hb hd
      have s1 := st i d ys S e0 hi
      unfold lcGo
      cases q : g d (wipeE env vs) S with
      | none => rw [q] at s1; exact s1.elim
      | some r =>
        obtain ⟨e', S1⟩ := r
        rw [q] at s1
        simp only [gpo_some] at s1
        simp only
        cases q2 : mt e' S1 with
        | err => rw [q2] at s1; exact s1.elim
        | exc c p S2 => rw [q2] at s1; exact s1.elim
        | ok k S2 =>
          rw [q2] at s1
          simp only [po_ok] at s1
          cases k with
          | false =>
            simp only [Bool.false_eq_true, if_false] at s1
            simp only
            exact ih n (i + 1) ys S2 (by omega) (by omega) e1 (by omega) s1
          | true =>
            simp only [if_true] at s1
            simp only
            cases q3 : me e' S2 with
            | err => rw [q3] at s1; exact s1.elim
            | exc c p S3 => rw [q3] at s1; exact s1.elim
            | ok y S3 =>
              rw [q3] at s1
              have s1 : Inv (i + 1) (ys ++ [y]) S3 := s1
              obtain ⟨zs, S', h1, h2⟩ := ih (n + 1) (i + 1) (ys ++ [y]) S3 (by omega) (by omega) e1 (by omega) s1
              have hr : room n = true := by unfold room; exact Nat.ble_eq.mpr (by omega)
              refine ⟨y :: zs, S', ?_, by simpa using h2⟩
              simp only [hr, if_true, h1]
  obtain ⟨zs, S', h1, h2⟩ := key ds 0 0 [] S1 (Nat.le_refl _) (by omega) rfl (by omega) h0
  rw [h1]
  exact fin zs S' (by simpa using h2)
/-! comprehensions over told lists -/
def lcpo (r : Rs (List D)) (Q : List D → Sto → Prop) : Prop := match r with | .ok a S => Q a S | _ => False
theorem mLC_po {mi : ML} {g : MG} {mt : MT} {me : M} {vs : List Nat} {env : En} {S : Sto} {Q : D → Sto → Prop} {X : XQ} : (mLC mi g mt me vs env S).po Q X = (mi env S).po (fun ds S1 => lcpo (lcGo g mt me (wipeE env vs) 0 ds S1) fun ys S2 => Q (.lst ys) S2) X := by
  simp only [mLC, po_bind]; congr; funext ds S1
  cases lcGo g mt me (wipeE env vs) 0 ds S1 <;> rfl
section
variable {g : MG} {mt : MT} {me : M} {env : En} {S : Sto} {n : Nat} {d : D} {ds : List D} {Q : List D → Sto → Prop}
theorem lcGo_nil : lcpo (lcGo g mt me env n [] S) Q = Q [] S := rfl
theorem lcGo_cons : lcpo (lcGo g mt me env n (d :: ds) S) Q = gpo (g d env S) fun e' S1 => (mt e' S1).po (fun k S2 => if k = true then (me e' S2).po (fun y S3 => n ≤ 16000000 ∧ lcpo (lcGo g mt me env (n + 1) ds S3) fun ys S4 => Q (y :: ys) S4) (fun _ _ _ => False) else lcpo (lcGo g mt me env n ds S2) Q) fun _ _ _ => False := by
  conv => lhs; rw [lcGo]
  cases q : g d env S with
  | none => rfl
  | some r =>
    obtain ⟨e', S1⟩ := r
    simp only [gpo_some]
    cases q2 : mt e' S1 with
    | err => rfl
    | exc c p S2 => rfl
    | ok k S2 =>
      cases k with
      | false => simp
      | true =>
        simp only [po_ok, if_true]
        cases q3 : me e' S2 with
        | err => rfl
        | exc c p S3 => rfl
        | ok y S3 =>
          simp only [po_ok]
          by_cases hr : n ≤ 16000000
          · have hr' : room n = true := by simp [hr]
            simp only [hr', if_true, hr, true_and]
            cases lcGo g mt me env (n + 1) ds S3 <;> rfl
          · have hr' : room n = false := by simp [hr]
            simp only [hr', hr, false_and]
            rfl
end
section
variable {α : Type} {a b c d e f g h k : α} {xs : List α}
@[simp] theorem atI_0 : atI (a :: xs) 0 = some a := by simp [atI, ixN]
@[simp] theorem atI_1 : atI (a :: b :: xs) 1 = some b := by
  have h : (1 : Int) < ((a :: b :: xs).length : Nat) := by simp only [List.length_cons]; omega
  unfold atI ixN
  rw [if_pos (by decide), if_pos h]
  rfl
@[simp] theorem atI_2 : atI (a :: b :: c :: xs) 2 = some c := by
  have h : (2 : Int) < ((a :: b :: c :: xs).length : Nat) := by simp only [List.length_cons]; omega
  unfold atI ixN
  rw [if_pos (by decide), if_pos h]
  rfl
@[simp] theorem atI_3 : atI (a :: b :: c :: d :: xs) 3 = some d := by
  have h : (3 : Int) < ((a :: b :: c :: d :: xs).length : Nat) := by simp only [List.length_cons]; omega
  unfold atI ixN
  rw [if_pos (by decide), if_pos h]
  rfl
@[simp] theorem atI_4 : atI (a :: b :: c :: d :: e :: xs) 4 = some e := by
  have h : (4 : Int) < ((a :: b :: c :: d :: e :: xs).length : Nat) := by simp only [List.length_cons]; omega
  unfold atI ixN
  rw [if_pos (by decide), if_pos h]
  rfl
theorem atI_of {i : Nat} (h : i < xs.length) : atI xs (i : Int) = some xs[i] := by
  simp [atI, ixN, h]
end
theorem sEq_same {S : Sto} {xs : List D} {ps : List PyData} (h : pyAll S xs = some ps) (hs : SeqAt.shaped (.tuple ps) = true) : sEq S (.tup xs) (.tup xs) = some (.bl true) := by
  have e : pyTop S (.tup xs) = some (.tuple ps) := by simp [pyTop, pyOf, h]
  simp only [sEq, sEqB, sEqD, e, hs, Bool.and_self, if_true, Option.map_some]
  rw [SeqAt.eqv_refl _ (by simp only [SeqAt.shaped, Bool.and_eq_true] at hs; exact hs.1)]
theorem sRepr_of {S : Sto} {d : D} {p : PyData} (h : pyTop S d = some p) (hr : rprOk p = true) : sRepr S [d] = some (.str p.shown) := by
  simp only [sRepr, h, hr, if_true]
section
variable {g : MG} {b : MS} {d : D} {ds : List D} {env : En} {S : Sto} {Q : Fl → Sto → Prop}
theorem forGo_nil : fpo (forGo g b [] env S) Q = Q (.nx env) S := rfl
theorem forGo_cons : fpo (forGo g b (d :: ds) env S) Q = gpo (g d env S) fun e1 S1 => fpo (b e1 S1) fun f S2 => match f with | .nx e' => fpo (forGo g b ds e' S2) Q | .ct e' => fpo (forGo g b ds e' S2) Q | .bk e' => Q (.nx e') S2 | f => Q f S2 := by
  conv => lhs; rw [forGo]
  simp only
  cases q : g d env S with
  | none => simp only [gpo_none, fpo_none]
  | some r =>
    obtain ⟨e1, S1⟩ := r
    simp only [gpo_some]
    cases q2 : b e1 S1 with
    | none => simp only [fpo_none]
    | some r =>
      obtain ⟨f, S2⟩ := r
      cases f <;> simp only [fpo_some]
end
def lsE (o : Ob) (f : List D → Prop) : Prop := match o with | .lst ds => f ds | _ => False
@[simp] theorem lsE_lst {ds : List D} {f : List D → Prop} : lsE (.lst ds) f = f ds := rfl
section
variable {env : En} {S : Sto} {d : D} {Q : En → Sto → Prop}
@[simp] theorem gSb_vc {i : Nat} {k : Int} : gpo (gSb (mVar i) (mC (.int k)) d env S) Q = (match env[i]? with | some (some (.ref n)) => opo S[n]? fun o => lsE o fun ds => opo (ixN ds.length k) fun j => Q env (S.set n (.lst (ds.set j d))) | _ => False) := by
  unfold gSb mVar mC
  generalize env[i]? = o
  cases o with
  | none => rfl
  | some o =>
    cases o with
    | none => rfl
    | some v =>
      cases v with
      | ref n =>
        simp only
        cases S[n]? with
        | none => rfl
        | some ob =>
          cases ob with
          | ins c ns ds => rfl
          | lst ds => simp only [opo_some, lsE_lst]; cases ixN ds.length k <;> rfl
      | _ => rfl
@[simp] theorem ixN_30 : ixN 3 0 = some 0 := rfl
@[simp] theorem ixN_31 : ixN 3 1 = some 1 := rfl
@[simp] theorem ixN_32 : ixN 3 2 = some 2 := rfl
end
end Ev

/-! Ma, part 1: whole numbers: bits, square roots, floors of p + q√r over n, common divisors. Plain Lean, no program in sight. -/
namespace Ma
/-- fewer than k bits -/
def Bt (k : Nat) (i : Int) : Prop := i.natAbs < 2 ^ k
instance (k : Nat) (i : Int) : Decidable (Bt k i) := by unfold Bt; infer_instance
theorem Bt.mono {k l : Nat} {i : Int} (h : Bt k i) (hl : k ≤ l) : Bt l i := Nat.lt_of_lt_of_le h (Nat.pow_le_pow_right (by decide) hl)
theorem Bt.le {k : Nat} {i j : Int} (h : Bt k i) (hl : j.natAbs ≤ i.natAbs) : Bt k j := Nat.lt_of_le_of_lt hl h
theorem Bt.neg {k : Nat} {i : Int} (h : Bt k i) : Bt k (-i) := by unfold Bt at *; omega
theorem Bt.add {k l : Nat} {i j : Int} (h : Bt k i) (h' : Bt l j) : Bt (max k l + 1) (i + j) := by
  have a := h.mono (Nat.le_max_left k l)
  have b := h'.mono (Nat.le_max_right k l)
  unfold Bt at *
  rw [Nat.pow_succ]; omega
theorem Bt.sub {k l : Nat} {i j : Int} (h : Bt k i) (h' : Bt l j) : Bt (max k l + 1) (i - j) := by
  rw [Int.sub_eq_add_neg]; exact h.add h'.neg
theorem Bt.mul {k l : Nat} {i j : Int} (h : Bt k i) (h' : Bt l j) : Bt (k + l) (i * j) := by
  unfold Bt at *
  rw [Int.natAbs_mul, Nat.pow_add]
  exact Nat.mul_lt_mul'' h h'
theorem Bt.of_lt {k : Nat} {i : Int} (h1 : -(2 ^ k : Int) < i) (h2 : i < 2 ^ k) : Bt k i := by
  unfold Bt
  have : ((2 ^ k : Nat) : Int) = 2 ^ k := by simp
  omega
theorem Bt.bd {k : Nat} {i : Int} (h : Bt k i) : -(2 ^ k : Int) < i ∧ i < 2 ^ k := by
  unfold Bt at h
  have : ((2 ^ k : Nat) : Int) = 2 ^ k := by simp
  omega
theorem Bt.ediv {k : Nat} {i : Int} (h : Bt k i) (j : Int) : Bt k (i / j) := by
  unfold Bt at *
  refine Nat.lt_of_le_of_lt ?_ h
  rw [Int.natAbs_ediv]
  by_cases hj : 0 ≤ i ∨ j = 0 ∨ j ∣ i
  · simp only [hj, if_true, Nat.add_zero]
    exact Nat.div_le_self _ _
  · simp only [hj, if_false]
    have h0 : j ≠ 0 := fun z => hj (.inr (.inl z))
    have hi : i < 0 := Int.not_le.mp fun z => hj (.inl z)
    by_cases h1 : j.natAbs = 1
    · exfalso
      refine hj (.inr (.inr ?_))
      rcases Int.natAbs_eq j with e | e <;> rw [h1] at e
      · rw [e]; exact ⟨i, by simp⟩
      · rw [e]; exact ⟨-i, by simp⟩
    · have h2 : 2 ≤ j.natAbs := by omega
      have : i.natAbs / j.natAbs ≤ i.natAbs / 2 := Nat.div_le_div_left h2 (by decide)
      omega
/-! ### square roots -/
def isqN : Nat → Nat
  | 0 => 0
  | n + 1 => if (isqN n + 1) * (isqN n + 1) ≤ n + 1 then isqN n + 1 else isqN n
theorem isqN_spec : ∀ n : Nat, isqN n * isqN n ≤ n ∧ n < (isqN n + 1) * (isqN n + 1)
  | 0 => by simp [isqN]
  | n + 1 => by
    obtain ⟨h1, h2⟩ := isqN_spec n
    unfold isqN
    split
    · rename_i h
      refine ⟨h, ?_⟩
      generalize isqN n = r at *
      have : (r + 1 + 1) * (r + 1 + 1) = (r + 1) * (r + 1) + 2 * r + 3 := by
        rw [Nat.add_mul, Nat.mul_add]; omega
      omega
    · omega
/-- the whole part of the root -/
def isq (n : Int) : Int := (isqN n.toNat : Int)
def IsSq (n r : Int) : Prop := 0 ≤ r ∧ r * r ≤ n ∧ n < (r + 1) * (r + 1)
theorem isq_spec {n : Int} (h : 0 ≤ n) : IsSq n (isq n) := by
  obtain ⟨h1, h2⟩ := isqN_spec n.toNat
  have e : ((n.toNat : Nat) : Int) = n := Int.toNat_of_nonneg h
  refine ⟨Int.natCast_nonneg _, ?_, ?_⟩
  · have : ((isqN n.toNat * isqN n.toNat : Nat) : Int) ≤ (n.toNat : Int) := by exact_mod_cast h1
    rw [e] at this
    simpa [isq] using this
  · have : (n.toNat : Int) < (((isqN n.toNat + 1) * (isqN n.toNat + 1) : Nat) : Int) := by exact_mod_cast h2
    rw [e] at this
    simpa [isq] using this
theorem sq_lt {a b : Int} (ha : 0 ≤ a) (hb : 0 ≤ b) (h : a * a < b * b) : a < b := by
  refine Int.not_le.mp fun z => ?_
  have := Int.mul_self_le_mul_self hb z
  omega
theorem sq_le {a b : Int} (ha : 0 ≤ a) (h : a ≤ b) : a * a ≤ b * b := Int.mul_self_le_mul_self ha h
theorem IsSq.uniq {n r s : Int} (h : IsSq n r) (h' : IsSq n s) : r = s := by
  obtain ⟨a1, a2, a3⟩ := h
  obtain ⟨b1, b2, b3⟩ := h'
  have h1 : r < s + 1 := sq_lt a1 (by omega) (by omega)
  have h2 : s < r + 1 := sq_lt b1 (by omega) (by omega)
  omega
theorem IsSq.eq {n r : Int} (h : IsSq n r) : r = isq n := h.uniq (isq_spec (by have := h.2.1; have := Int.mul_nonneg h.1 h.1; omega))
theorem self_le_sq {a : Int} (h : 0 ≤ a) : a ≤ a * a := by
  by_cases z : a = 0
  · subst z; decide
  · have : 1 * a ≤ a * a := Int.mul_le_mul_of_nonneg_right (by omega) h
    omega
theorem isq_le {n : Int} (h : 0 ≤ n) : isq n ≤ n := by
  obtain ⟨a1, a2, a3⟩ := isq_spec h
  have := self_le_sq a1
  omega
theorem isq_nonneg (n : Int) : 0 ≤ isq n := Int.natCast_nonneg _
/-- m above the root -/
theorem isq_lt_iff {n m : Int} (h : 0 ≤ n) (hm : 0 ≤ m) : isq n < m ↔ n < m * m := by
  obtain ⟨a1, a2, a3⟩ := isq_spec h
  constructor
  · intro q
    have := sq_le (show 0 ≤ isq n + 1 by omega) (show isq n + 1 ≤ m by omega)
    omega
  · intro q
    exact sq_lt a1 hm (by omega)
/-! ### no square -/
def NoSq (r : Int) : Prop := ∀ k : Int, k * k ≠ r
theorem noSq_of {r s : Int} (h : IsSq r s) (hn : s * s ≠ r) : NoSq r := by
  obtain ⟨a1, a2, a3⟩ := h
  intro k hk
  have e : (k.natAbs : Int) * (k.natAbs : Int) = r := by rw [← hk]; exact Int.natAbs_mul_self
  have h1 : (k.natAbs : Int) < s + 1 := sq_lt (by omega) (by omega) (by omega)
  have h2 : s < (k.natAbs : Int) + 1 := by
    refine sq_lt a1 (by omega) ?_
    have : (k.natAbs : Int) * (k.natAbs : Int) < ((k.natAbs : Int) + 1) * ((k.natAbs : Int) + 1) := by
      rw [Int.add_mul, Int.mul_add]; omega
    omega
  have : (k.natAbs : Int) = s := by omega
  rw [this] at e
  exact hn e
theorem NoSq.ne {r : Int} (h : NoSq r) {p q : Int} (hq : q ≠ 0) : p * p ≠ q * q * r := fun e => by
  have hd : q ^ 2 ∣ p ^ 2 := ⟨r, by rw [Int.pow_succ, Int.pow_succ, Int.pow_zero, Int.one_mul, Int.pow_succ, Int.pow_succ, Int.pow_zero, Int.one_mul]; exact e⟩
  obtain ⟨k, rfl⟩ := (Int.pow_dvd_pow_iff (by decide)).mp hd
  have e2 : q * q * (k * k) = q * q * r := by
    rw [← e, Int.mul_assoc q k (q * k), ← Int.mul_assoc k q k, Int.mul_comm k q, Int.mul_assoc, Int.mul_assoc]
  have hqq : q * q ≠ 0 := Int.mul_ne_zero hq hq
  exact h k (Int.eq_of_mul_eq_mul_left hqq e2)
/-- the floor of q√r -/
def fl (q r : Int) : Int := if q < 0 then -(isq (q * q * r)) - 1 else isq (q * q * r)
/-- p + q√r < 0, as the laws ask it -/
def under (p q r : Int) : Prop := ¬ (0 ≤ p ∧ 0 ≤ q) ∧ ((p < 0 ∧ q ≤ 0) ∨ if p < 0 then q * q * r < p * p else p * p < q * q * r)
instance (p q r : Int) : Decidable (under p q r) := by unfold under; infer_instance
theorem sqn (a : Int) : 0 ≤ a * a := by
  rw [← Int.natAbs_mul_self]; exact Int.natCast_nonneg _
theorem under_iff {p q r : Int} (hr : 0 < r) (hs : NoSq r) : under p q r ↔ p + fl q r < 0 := by
  have hN : 0 ≤ q * q * r := Int.mul_nonneg (sqn q) (Int.le_of_lt hr)
  have hi := isq_nonneg (q * q * r)
  unfold under fl
  by_cases hq : q < 0
  · simp only [hq, if_true]
    by_cases hp : p < 0
    · simp only [hp, if_true]
      constructor
      · intro _; omega
      · intro _; exact ⟨by omega, .inl ⟨trivial, by omega⟩⟩
    · simp only [hp, if_false]
      have ne := hs.ne (p := p) (show q ≠ 0 by omega)
      have h1 := isq_lt_iff (n := q * q * r) (m := p) hN (by omega)
      constructor
      · rintro ⟨_, h | h⟩
        · exact absurd h.1 (by simp)
        · have : ¬ isq (q * q * r) < p := fun z => by have := h1.mp z; omega
          omega
      · intro h
        refine ⟨by omega, .inr ?_⟩
        have : ¬ (q * q * r < p * p) := fun z => by have := h1.mpr z; omega
        omega
  · simp only [hq, if_false]
    by_cases hp : p < 0
    · simp only [hp, if_true]
      have h1 := isq_lt_iff (n := q * q * r) (m := -p) hN (by omega)
      rw [Int.neg_mul_neg] at h1
      constructor
      · rintro ⟨_, h | h⟩
        · have q0 : q = 0 := by omega
          subst q0
          have : isq (0 * 0 * r) < -p := by
            refine (isq_lt_iff hN (by omega)).mpr ?_
            have : (-p) * (-p) ≥ -p := self_le_sq (by omega)
            simp only [Int.zero_mul]; omega
          omega
        · have := h1.mpr h
          omega
      · intro h
        exact ⟨by omega, .inr (h1.mp (by omega))⟩
    · simp only [hp, if_false]
      constructor
      · rintro ⟨h, _⟩; omega
      · intro h; omega
theorem fl_two {q r : Int} : fl q r + fl (-q) r ≥ -1 := by
  unfold fl
  rw [Int.neg_mul_neg]
  have hi := isq_nonneg (q * q * r)
  split <;> split <;> omega
/-! ### common divisors -/
def g3 (p q n : Int) : Nat := Nat.gcd (Nat.gcd p.natAbs q.natAbs) n.natAbs
theorem g3_pos {p q n : Int} (h : n ≠ 0) : 0 < g3 p q n := Nat.gcd_pos_of_pos_right _ (by omega)
theorem g3_dvd {p q n : Int} : g3 p q n ∣ p.natAbs ∧ g3 p q n ∣ q.natAbs ∧ g3 p q n ∣ n.natAbs :=
  ⟨Nat.dvd_trans (Nat.gcd_dvd_left _ _) (Nat.gcd_dvd_left _ _), Nat.dvd_trans (Nat.gcd_dvd_left _ _) (Nat.gcd_dvd_right _ _), Nat.gcd_dvd_right _ _⟩
/-- what stands under the fraction's bar in the lowest form -/
def cof (p q n : Int) : Int := if 0 < n then (g3 p q n : Int) else -(g3 p q n : Int)
theorem cof_ne {p q n : Int} (h : n ≠ 0) : cof p q n ≠ 0 := by
  have := g3_pos (p := p) (q := q) h
  unfold cof; split <;> omega
theorem cof_abs {p q n : Int} : (cof p q n).natAbs = g3 p q n := by unfold cof; split <;> omega
theorem cof_dvd {p q n : Int} : cof p q n ∣ p ∧ cof p q n ∣ q ∧ cof p q n ∣ n := by
  obtain ⟨a, b, c⟩ := g3_dvd (p := p) (q := q) (n := n)
  refine ⟨Int.natAbs_dvd_natAbs.mp ?_, Int.natAbs_dvd_natAbs.mp ?_, Int.natAbs_dvd_natAbs.mp ?_⟩ <;> rw [cof_abs] <;> assumption
theorem fdiv_dvd {a b : Int} (h : b ∣ a) : a.fdiv b = a / b := by
  obtain ⟨k, rfl⟩ := h
  by_cases z : b = 0
  · subst z; simp
  · rw [Int.mul_fdiv_cancel_left _ z, Int.mul_ediv_cancel_left _ z]
structure Low (p q n : Int) : Prop where
  pos : 0 < n
  one : g3 p q n = 1
theorem low_of {p q n : Int} (h : n ≠ 0) : Low (p / cof p q n) (q / cof p q n) (n / cof p q n) := by
  obtain ⟨a, b, c⟩ := cof_dvd (p := p) (q := q) (n := n)
  have g0 := g3_pos (p := p) (q := q) h
  obtain ⟨d1, d2, d3⟩ := g3_dvd (p := p) (q := q) (n := n)
  have nd : ∀ {x : Int}, cof p q n ∣ x → (x / cof p q n).natAbs = x.natAbs / g3 p q n := fun {x} hx => by
    rw [Int.natAbs_ediv, if_pos (.inr (.inr hx)), Nat.add_zero, cof_abs]
  constructor
  · obtain ⟨k, hk⟩ := c
    have e : n / cof p q n = k := by rw [hk, ← hk]; exact Int.ediv_eq_of_eq_mul_right (cof_ne h) hk
    rw [e]
    unfold cof at hk
    by_cases hn : 0 < n
    · rw [if_pos hn] at hk
      by_cases hk0 : 0 < k
      · exact hk0
      · have : (g3 p q n : Int) * k ≤ 0 := Int.mul_nonpos_of_nonneg_of_nonpos (by omega) (by omega)
        omega
    · rw [if_neg hn] at hk
      by_cases hk0 : 0 < k
      · exact hk0
      · have : (g3 p q n : Int) * k ≤ 0 := Int.mul_nonpos_of_nonneg_of_nonpos (by omega) (by omega)
        rw [Int.neg_mul] at hk
        omega
  · show Nat.gcd (Nat.gcd _ _) _ = 1
    rw [nd a, nd b, nd c, Nat.gcd_div d1 d2, Nat.gcd_div (Nat.dvd_gcd d1 d2) d3]
    exact Nat.div_self g0
theorem Low.cof {p q n : Int} (h : Low p q n) : cof p q n = 1 := by
  unfold Ma.cof; rw [if_pos h.pos, h.one]; rfl
theorem abs_ediv_le (a b : Int) (h : b ∣ a) : (a / b).natAbs ≤ a.natAbs := by
  rw [Int.natAbs_ediv, if_pos (.inr (.inr h)), Nat.add_zero]
  exact Nat.div_le_self _ _
theorem ediv_of {v n l : Int} (hn : 0 < n) (h1 : n * l ≤ v) (h2 : v < n * l + n) : l = v / n := by
  have a : l ≤ v / n := Int.le_ediv_of_mul_le hn (by rw [Int.mul_comm]; exact h1)
  have b : v / n < l + 1 := Int.ediv_lt_of_lt_mul hn (by rw [Int.add_mul, Int.one_mul, Int.mul_comm]; exact h2)
  omega
end Ma

/-! the walk, printed by gen.py -/
namespace K02
open PySem PySem.Spec L2 Ev
/-! the row's top -/
noncomputable section
abbrev top (i : Nat) : Stmt := PySem.Challenge.pw_stoprows_k02_whole_numbers_with_roots.main.body.getD i (.Pass ⟨0, 0, 0, 0⟩)
end
abbrev k_MOST_ROOT : D := (.int 30)
abbrev k_MOST_PART : D := (.int 1000000000000000000000000000000)
theorem bt_abs : bootBuiltins "abs" = some (.builtin "abs") := by kernel_rfl
theorem bt_all : bootBuiltins "all" = some (.builtin "all") := by kernel_rfl
theorem bt_bool : bootBuiltins "bool" = some (.type "bool") := by kernel_rfl
theorem bt_divmod : bootBuiltins "divmod" = some (.builtin "divmod") := by kernel_rfl
theorem bt_int : bootBuiltins "int" = some (.type "int") := by kernel_rfl
theorem bt_isinstance : bootBuiltins "isinstance" = some (.builtin "isinstance") := by kernel_rfl
theorem bt_len : bootBuiltins "len" = some (.builtin "len") := by kernel_rfl
theorem bt_list : bootBuiltins "list" = some (.type "list") := by kernel_rfl
theorem bt_max : bootBuiltins "max" = some (.builtin "max") := by kernel_rfl
theorem bt_min : bootBuiltins "min" = some (.builtin "min") := by kernel_rfl
theorem bt_repr : bootBuiltins "repr" = some (.builtin "repr") := by kernel_rfl
theorem bt_str : bootBuiltins "str" = some (.type "str") := by kernel_rfl
theorem bt_tuple : bootBuiltins "tuple" = some (.type "tuple") := by kernel_rfl
structure Fx (K : PySem.W.Frag) (mg : PySem.Str → Option Value) : Prop where
  z : True
  f_abs : mg "abs" = none
  f_all : mg "all" = none
  f_bool : mg "bool" = none
  f_divmod : mg "divmod" = none
  f_int : mg "int" = none
  f_isinstance : mg "isinstance" = none
  f_len : mg "len" = none
  f_list : mg "list" = none
  f_max : mg "max" = none
  f_min : mg "min" = none
  f_range : mg "range" = none
  f_repr : mg "repr" = none
  f_str : mg "str" = none
  f_tuple : mg "tuple" = none
  k_MOST_ROOT : KD K mg "MOST_ROOT" k_MOST_ROOT
  k_MOST_PART : KD K mg "MOST_PART" k_MOST_PART
theorem Fx.ty {K : PySem.W.Frag} {mg : PySem.Str → Option Value} (fx : Fx K mg) : ∀ x ∈ tyNames, mg x = none := fun x hx => by
  simp only [tyNames, List.mem_cons, List.not_mem_nil, or_false] at hx
  rcases hx with rfl | rfl | rfl | rfl | rfl
  · exact fx.f_int
  · exact fx.f_bool
  · exact fx.f_str
  · exact fx.f_tuple
  · exact fx.f_list

noncomputable def b_is_integer : MS := (mRet (mAndV (mCB sIsiT (mCons (mVar 0) (mCons (mC (.glo "int")) mNil))) (mNotV (mCB sIsiT (mCons (mVar 0) (mCons (mC (.glo "bool")) mNil))))))
noncomputable def m_is_integer : List D → Pr := runP 1 b_is_integer
abbrev N_is_integer : List PySem.Str := ["value"]
abbrev P_is_integer : List PySem.Str := ["value"]
abbrev S_is_integer : List Ev.Shape := []
theorem sc_is_integer : FnScope N_is_integer P_is_integer (defScope (top 5)) := ⟨rfl, rfl, rfl, by decide +kernel, rfl, by decide +kernel, by decide +kernel⟩
theorem d_is_integer {P : Program} {w : World} {K : PySem.W.Frag} {mg : PySem.Str → Option Value} {base : Heap} {f : Addr} {fd : FuncData} (fx : Fx K mg) (F : FunD K "is_integer" "is_integer" (defArgs (top 5)) (defBody (top 5)) (defScope (top 5)) [] [] f fd) (hm : mg "is_integer" = some (.ref f))  : DefP P w K mg base 5 "is_integer" P_is_integer m_is_integer S_is_integer := by
  refine DefP.of F hm sc_is_integer (F.bindsN fun _ _ _ _ _ _ us hl => match us, hl with | [_], _ => rfl) kws_nil fun cdv A outer s H E hr => ?_
  have tk : L2.Takes (cxOf (L2.CX P w) P w K mg base N_is_integer "is_integer" (defScope (top 5)) f cdv A outer s H E) (WD E) := takes_of rfl rfl rfl rfl
  have hp : PassesOwn (model P w) (A.deeper (PyProof.Rows.envOfC "is_integer" (defScope (top 5)) s.heap.objs.size f cdv)) (PyProof.Rows.envOfC "is_integer" (defScope (top 5)) s.heap.objs.size f cdv) (cxOf (L2.CX P w) P w K mg base N_is_integer "is_integer" (defScope (top 5)) f cdv A outer s H E).xe := passes_of rfl
  have hN : N_is_integer.Nodup := sc_is_integer.nd
  have hc : (cxOf (L2.CX P w) P w K mg base N_is_integer "is_integer" (defScope (top 5)) f cdv A outer s H E).calm = true := rfl
  have hu := hr.r.units
  exact (sss_one (ss_ret (se_and (se_callB (call_sIsi fx.ty) fx.f_isinstance bt_isinstance (sa_cons (se_var 0) (sa_cons (se_blt (v := .ty "int") fx.f_int bt_int rfl) sa_nil))) (se_one (se_not (se_callB (call_sIsi fx.ty) fx.f_isinstance bt_isinstance (sa_cons (se_var 0) (sa_cons (se_blt (v := .ty "bool") fx.f_bool bt_bool rfl) sa_nil))))))))

noncomputable def b_is_between : MS := (mRet (mAndV (mCallP 1 m_is_integer (mCons (mVar 0) mNil)) (mChain sLe sLe (mVar 1) (mVar 0) (mVar 2))))
noncomputable def m_is_between : List D → Pr := runP 3 b_is_between
abbrev N_is_between : List PySem.Str := ["value", "low", "high"]
abbrev P_is_between : List PySem.Str := ["value", "low", "high"]
abbrev S_is_between : List Ev.Shape := []
theorem sc_is_between : FnScope N_is_between P_is_between (defScope (top 6)) := ⟨rfl, rfl, rfl, by decide +kernel, rfl, by decide +kernel, by decide +kernel⟩
theorem d_is_between {P : Program} {w : World} {K : PySem.W.Frag} {mg : PySem.Str → Option Value} {base : Heap} {f : Addr} {fd : FuncData} (fx : Fx K mg) (F : FunD K "is_between" "is_between" (defArgs (top 6)) (defBody (top 6)) (defScope (top 6)) [] [] f fd) (hm : mg "is_between" = some (.ref f)) (h_is_integer : DefP P w K mg base 5 "is_integer" P_is_integer m_is_integer S_is_integer) : DefP P w K mg base 6 "is_between" P_is_between m_is_between S_is_between := by
  refine DefP.of F hm sc_is_between (F.bindsN fun _ _ _ _ _ _ us hl => match us, hl with | [_, _, _], _ => rfl) kws_nil fun cdv A outer s H E hr => ?_
  have tk : L2.Takes (cxOf (L2.CX P w) P w K mg base N_is_between "is_between" (defScope (top 6)) f cdv A outer s H E) (WD E) := takes_of rfl rfl rfl rfl
  have hp : PassesOwn (model P w) (A.deeper (PyProof.Rows.envOfC "is_between" (defScope (top 6)) s.heap.objs.size f cdv)) (PyProof.Rows.envOfC "is_between" (defScope (top 6)) s.heap.objs.size f cdv) (cxOf (L2.CX P w) P w K mg base N_is_between "is_between" (defScope (top 6)) f cdv A outer s H E).xe := passes_of rfl
  have hN : N_is_between.Nodup := sc_is_between.nd
  have hc : (cxOf (L2.CX P w) P w K mg base N_is_between "is_between" (defScope (top 6)) f cdv A outer s H E).calm = true := rfl
  have hu := hr.r.units
  exact (sss_one (ss_ret (se_and (se_callP h_is_integer hr (by decide) tk (sa_cons (se_var 0) sa_nil)) (se_one (se_chain op_sLe op_sLe (se_var 1) (se_var 0) (se_var 2))))))

noncomputable def wt_common_divisor_1 : MT := (mBs (mOp sNe (mVar 1) (mC (.int 0))))
noncomputable def wb_common_divisor_1 : MS := (mPar 0 1 (mCons (mVar 1) (mCons (mOp sMod (mVar 0) (mVar 1)) mNil)))
noncomputable def q_common_divisor_3 : MS := (mRet (mVar 0))
noncomputable def b_common_divisor : MS := (mSeq (mWh wt_common_divisor_1 wb_common_divisor_1) q_common_divisor_3)
noncomputable def m_common_divisor : List D → Pr := runP 2 b_common_divisor
abbrev N_common_divisor : List PySem.Str := ["one", "other"]
abbrev P_common_divisor : List PySem.Str := ["one", "other"]
abbrev S_common_divisor : List Ev.Shape := []
theorem sc_common_divisor : FnScope N_common_divisor P_common_divisor (defScope (top 7)) := ⟨rfl, rfl, rfl, by decide +kernel, rfl, by decide +kernel, by decide +kernel⟩
theorem d_common_divisor {P : Program} {w : World} {K : PySem.W.Frag} {mg : PySem.Str → Option Value} {base : Heap} {f : Addr} {fd : FuncData} (fx : Fx K mg) (F : FunD K "common_divisor" "common_divisor" (defArgs (top 7)) (defBody (top 7)) (defScope (top 7)) [] [] f fd) (hm : mg "common_divisor" = some (.ref f))  : DefP P w K mg base 5 "common_divisor" P_common_divisor m_common_divisor S_common_divisor := by
  refine DefP.of F hm sc_common_divisor (F.bindsN fun _ _ _ _ _ _ us hl => match us, hl with | [_, _], _ => rfl) kws_nil fun cdv A outer s H E hr => ?_
  have tk : L2.Takes (cxOf (L2.CX P w) P w K mg base N_common_divisor "common_divisor" (defScope (top 7)) f cdv A outer s H E) (WD E) := takes_of rfl rfl rfl rfl
  have hp : PassesOwn (model P w) (A.deeper (PyProof.Rows.envOfC "common_divisor" (defScope (top 7)) s.heap.objs.size f cdv)) (PyProof.Rows.envOfC "common_divisor" (defScope (top 7)) s.heap.objs.size f cdv) (cxOf (L2.CX P w) P w K mg base N_common_divisor "common_divisor" (defScope (top 7)) f cdv A outer s H E).xe := passes_of rfl
  have hN : N_common_divisor.Nodup := sc_common_divisor.nd
  have hc : (cxOf (L2.CX P w) P w K mg base N_common_divisor "common_divisor" (defScope (top 7)) f cdv A outer s H E).calm = true := rfl
  have hu := hr.r.units
  exact (sss_cons (ss_wh hp (st_cmp (op_sNe hu) (se_var 1) se_int) (sss_one (ss_par 0 1 hc hN (sa_cons (se_var 1) (sa_cons (se_op op_sMod (se_var 0) (se_var 1)) sa_nil))))) (sss_one (ss_ret (se_var 0))))

noncomputable def wt_square_root_2 : MT := (mBs (mOp sLe (mOp sMul (mVar 2) (mVar 2)) (mVar 0)))
noncomputable def wb_square_root_2 : MS := (mAsg (mOp sMul (mC (.int 2)) (mVar 2)) (gNm 2))
noncomputable def q_square_root_6 : MS := (mIfS (mBs (mOp sLe (mOp sMul (mVar 3) (mVar 3)) (mVar 0))) (mAsg (mVar 3) (gNm 1)) (mAsg (mVar 3) (gNm 2)))
noncomputable def wt_square_root_4 : MT := (mBs (mOp sGt (mOp sSub (mVar 2) (mVar 1)) (mC (.int 1))))
noncomputable def wb_square_root_4 : MS := (mSeq (mAsg (mOp sFdiv (mOp sAdd (mVar 1) (mVar 2)) (mC (.int 2))) (gNm 3)) q_square_root_6)
noncomputable def q_square_root_10 : MS := (mRet (mVar 1))
noncomputable def q_square_root_4 : MS := (mSeq (mWh wt_square_root_4 wb_square_root_4) q_square_root_10)
noncomputable def q_square_root_2 : MS := (mSeq (mWh wt_square_root_2 wb_square_root_2) q_square_root_4)
noncomputable def b_square_root : MS := (mSeq (mAsg (mTup (mCons (mC (.int 0)) (mCons (mC (.int 1)) mNil))) (gTp 2 (gsCons (gNm 1) (gsCons (gNm 2) gsNil)))) q_square_root_2)
noncomputable def m_square_root : List D → Pr := runP 4 b_square_root
abbrev N_square_root : List PySem.Str := ["value", "low", "high", "middle"]
abbrev P_square_root : List PySem.Str := ["value"]
abbrev S_square_root : List Ev.Shape := []
theorem sc_square_root : FnScope N_square_root P_square_root (defScope (top 8)) := ⟨rfl, rfl, rfl, by decide +kernel, rfl, by decide +kernel, by decide +kernel⟩
theorem d_square_root {P : Program} {w : World} {K : PySem.W.Frag} {mg : PySem.Str → Option Value} {base : Heap} {f : Addr} {fd : FuncData} (fx : Fx K mg) (F : FunD K "square_root" "square_root" (defArgs (top 8)) (defBody (top 8)) (defScope (top 8)) [] [] f fd) (hm : mg "square_root" = some (.ref f))  : DefP P w K mg base 5 "square_root" P_square_root m_square_root S_square_root := by
  refine DefP.of F hm sc_square_root (F.bindsN fun _ _ _ _ _ _ us hl => match us, hl with | [_], _ => rfl) kws_nil fun cdv A outer s H E hr => ?_
  have tk : L2.Takes (cxOf (L2.CX P w) P w K mg base N_square_root "square_root" (defScope (top 8)) f cdv A outer s H E) (WD E) := takes_of rfl rfl rfl rfl
  have hp : PassesOwn (model P w) (A.deeper (PyProof.Rows.envOfC "square_root" (defScope (top 8)) s.heap.objs.size f cdv)) (PyProof.Rows.envOfC "square_root" (defScope (top 8)) s.heap.objs.size f cdv) (cxOf (L2.CX P w) P w K mg base N_square_root "square_root" (defScope (top 8)) f cdv A outer s H E).xe := passes_of rfl
  have hN : N_square_root.Nodup := sc_square_root.nd
  have hc : (cxOf (L2.CX P w) P w K mg base N_square_root "square_root" (defScope (top 8)) f cdv A outer s H E).calm = true := rfl
  have hu := hr.r.units
  exact (sss_cons (ss_asg (se_tup (sa_cons se_int (sa_cons se_int sa_nil))) (sg_tup hc (sgs_cons (sg_name 1 hN) (sgs_cons (sg_name 2 hN) sgs_nil)))) (sss_cons (ss_wh hp (st_cmp op_sLe (se_op op_sMul (se_var 2) (se_var 2)) (se_var 0)) (sss_one (ss_asg (se_op op_sMul se_int (se_var 2)) (sg_name 2 hN)))) (sss_cons (ss_wh hp (st_cmp op_sGt (se_op op_sSub (se_var 2) (se_var 1)) se_int) (sss_cons (ss_asg (se_op op_sFdiv (se_op op_sAdd (se_var 1) (se_var 2)) se_int) (sg_name 3 hN)) (sss_one (ss_if (st_cmp op_sLe (se_op op_sMul (se_var 3) (se_var 3)) (se_var 0)) (sss_one (ss_asg (se_var 3) (sg_name 1 hN))) (sss_one (ss_asg (se_var 3) (sg_name 2 hN))))))) (sss_one (ss_ret (se_var 1))))))

noncomputable def b_is_root : MS := (mRet (mAndV (mCallP 3 m_is_between (mCons (mVar 0) (mCons (mC (.int 2)) (mCons (mC k_MOST_ROOT) mNil)))) (mOp sNe (mOp sMul (mCallP 1 m_square_root (mCons (mVar 0) mNil)) (mCallP 1 m_square_root (mCons (mVar 0) mNil))) (mVar 0))))
noncomputable def m_is_root : List D → Pr := runP 1 b_is_root
abbrev N_is_root : List PySem.Str := ["value"]
abbrev P_is_root : List PySem.Str := ["value"]
abbrev S_is_root : List Ev.Shape := []
theorem sc_is_root : FnScope N_is_root P_is_root (defScope (top 12)) := ⟨rfl, rfl, rfl, by decide +kernel, rfl, by decide +kernel, by decide +kernel⟩
theorem d_is_root {P : Program} {w : World} {K : PySem.W.Frag} {mg : PySem.Str → Option Value} {base : Heap} {f : Addr} {fd : FuncData} (fx : Fx K mg) (F : FunD K "is_root" "is_root" (defArgs (top 12)) (defBody (top 12)) (defScope (top 12)) [] [] f fd) (hm : mg "is_root" = some (.ref f)) (h_is_between : DefP P w K mg base 6 "is_between" P_is_between m_is_between S_is_between) (h_square_root : DefP P w K mg base 5 "square_root" P_square_root m_square_root S_square_root) : DefP P w K mg base 7 "is_root" P_is_root m_is_root S_is_root := by
  refine DefP.of F hm sc_is_root (F.bindsN fun _ _ _ _ _ _ us hl => match us, hl with | [_], _ => rfl) kws_nil fun cdv A outer s H E hr => ?_
  have tk : L2.Takes (cxOf (L2.CX P w) P w K mg base N_is_root "is_root" (defScope (top 12)) f cdv A outer s H E) (WD E) := takes_of rfl rfl rfl rfl
  have hp : PassesOwn (model P w) (A.deeper (PyProof.Rows.envOfC "is_root" (defScope (top 12)) s.heap.objs.size f cdv)) (PyProof.Rows.envOfC "is_root" (defScope (top 12)) s.heap.objs.size f cdv) (cxOf (L2.CX P w) P w K mg base N_is_root "is_root" (defScope (top 12)) f cdv A outer s H E).xe := passes_of rfl
  have hN : N_is_root.Nodup := sc_is_root.nd
  have hc : (cxOf (L2.CX P w) P w K mg base N_is_root "is_root" (defScope (top 12)) f cdv A outer s H E).calm = true := rfl
  have hu := hr.r.units
  exact (sss_one (ss_ret (se_and (se_callP h_is_between hr (by decide) tk (sa_cons (se_var 0) (sa_cons se_int (sa_cons (se_glob fx.k_MOST_ROOT) sa_nil)))) (se_one (se_cmp (op_sNe hu) (se_op op_sMul (se_callP h_square_root hr (by decide) tk (sa_cons (se_var 0) sa_nil)) (se_callP h_square_root hr (by decide) tk (sa_cons (se_var 0) sa_nil))) (se_var 0))))))

noncomputable def b_check_root : MS := (mIfS (mNotT (mTru (mCallP 1 m_is_root (mCons (mVar 0) mNil)))) mNever mSkip)
noncomputable def m_check_root : List D → Pr := runP 1 b_check_root
abbrev N_check_root : List PySem.Str := ["value"]
abbrev P_check_root : List PySem.Str := ["value"]
abbrev S_check_root : List Ev.Shape := []
theorem sc_check_root : FnScope N_check_root P_check_root (defScope (top 13)) := ⟨rfl, rfl, rfl, by decide +kernel, rfl, by decide +kernel, by decide +kernel⟩
theorem d_check_root {P : Program} {w : World} {K : PySem.W.Frag} {mg : PySem.Str → Option Value} {base : Heap} {f : Addr} {fd : FuncData} (fx : Fx K mg) (F : FunD K "check_root" "check_root" (defArgs (top 13)) (defBody (top 13)) (defScope (top 13)) [] [] f fd) (hm : mg "check_root" = some (.ref f)) (h_is_root : DefP P w K mg base 7 "is_root" P_is_root m_is_root S_is_root) : DefP P w K mg base 8 "check_root" P_check_root m_check_root S_check_root := by
  refine DefP.of F hm sc_check_root (F.bindsN fun _ _ _ _ _ _ us hl => match us, hl with | [_], _ => rfl) kws_nil fun cdv A outer s H E hr => ?_
  have tk : L2.Takes (cxOf (L2.CX P w) P w K mg base N_check_root "check_root" (defScope (top 13)) f cdv A outer s H E) (WD E) := takes_of rfl rfl rfl rfl
  have hp : PassesOwn (model P w) (A.deeper (PyProof.Rows.envOfC "check_root" (defScope (top 13)) s.heap.objs.size f cdv)) (PyProof.Rows.envOfC "check_root" (defScope (top 13)) s.heap.objs.size f cdv) (cxOf (L2.CX P w) P w K mg base N_check_root "check_root" (defScope (top 13)) f cdv A outer s H E).xe := passes_of rfl
  have hN : N_check_root.Nodup := sc_check_root.nd
  have hc : (cxOf (L2.CX P w) P w K mg base N_check_root "check_root" (defScope (top 13)) f cdv A outer s H E).calm = true := rfl
  have hu := hr.r.units
  exact (sss_one (ss_if (st_not (st_truth (se_callP h_is_root hr (by decide) tk (sa_cons (se_var 0) sa_nil)))) (sss_one ss_never) sss_nil))

noncomputable def q_lowest_of_3 : MS := (mRet (mTup (mCons (mOp sFdiv (mVar 0) (mVar 3)) (mCons (mOp sFdiv (mVar 1) (mVar 3)) (mCons (mOp sFdiv (mVar 2) (mVar 3)) mNil)))))
noncomputable def q_lowest_of_2 : MS := (mSeq (mAsg (mIf (mBs (mOp sGt (mVar 2) (mC (.int 0)))) (mVar 3) (sUn sNeg (mVar 3))) (gNm 3)) q_lowest_of_3)
noncomputable def b_lowest_of : MS := (mSeq (mAsg (mCallP 2 m_common_divisor (mCons (mCallP 2 m_common_divisor (mCons (mCB sAbs (mCons (mVar 0) mNil)) (mCons (mCB sAbs (mCons (mVar 1) mNil)) mNil))) (mCons (mCB sAbs (mCons (mVar 2) mNil)) mNil))) (gNm 3)) q_lowest_of_2)
noncomputable def m_lowest_of : List D → Pr := runP 4 b_lowest_of
abbrev N_lowest_of : List PySem.Str := ["p", "q", "n", "common"]
abbrev P_lowest_of : List PySem.Str := ["p", "q", "n"]
abbrev S_lowest_of : List Ev.Shape := []
theorem sc_lowest_of : FnScope N_lowest_of P_lowest_of (defScope (top 14)) := ⟨rfl, rfl, rfl, by decide +kernel, rfl, by decide +kernel, by decide +kernel⟩
theorem d_lowest_of {P : Program} {w : World} {K : PySem.W.Frag} {mg : PySem.Str → Option Value} {base : Heap} {f : Addr} {fd : FuncData} (fx : Fx K mg) (F : FunD K "lowest_of" "lowest_of" (defArgs (top 14)) (defBody (top 14)) (defScope (top 14)) [] [] f fd) (hm : mg "lowest_of" = some (.ref f)) (h_common_divisor : DefP P w K mg base 5 "common_divisor" P_common_divisor m_common_divisor S_common_divisor) : DefP P w K mg base 6 "lowest_of" P_lowest_of m_lowest_of S_lowest_of := by
  refine DefP.of F hm sc_lowest_of (F.bindsN fun _ _ _ _ _ _ us hl => match us, hl with | [_, _, _], _ => rfl) kws_nil fun cdv A outer s H E hr => ?_
  have tk : L2.Takes (cxOf (L2.CX P w) P w K mg base N_lowest_of "lowest_of" (defScope (top 14)) f cdv A outer s H E) (WD E) := takes_of rfl rfl rfl rfl
  have hp : PassesOwn (model P w) (A.deeper (PyProof.Rows.envOfC "lowest_of" (defScope (top 14)) s.heap.objs.size f cdv)) (PyProof.Rows.envOfC "lowest_of" (defScope (top 14)) s.heap.objs.size f cdv) (cxOf (L2.CX P w) P w K mg base N_lowest_of "lowest_of" (defScope (top 14)) f cdv A outer s H E).xe := passes_of rfl
  have hN : N_lowest_of.Nodup := sc_lowest_of.nd
  have hc : (cxOf (L2.CX P w) P w K mg base N_lowest_of "lowest_of" (defScope (top 14)) f cdv A outer s H E).calm = true := rfl
  have hu := hr.r.units
  exact (sss_cons (ss_asg (se_callP h_common_divisor hr (by decide) tk (sa_cons (se_callP h_common_divisor hr (by decide) tk (sa_cons (se_callB call_sAbs fx.f_abs bt_abs (sa_cons (se_var 0) sa_nil)) (sa_cons (se_callB call_sAbs fx.f_abs bt_abs (sa_cons (se_var 1) sa_nil)) sa_nil))) (sa_cons (se_callB call_sAbs fx.f_abs bt_abs (sa_cons (se_var 2) sa_nil)) sa_nil))) (sg_name 3 hN)) (sss_cons (ss_asg (se_ifExp (st_cmp op_sGt (se_var 2) se_int) (se_var 3) (se_neg (se_var 3))) (sg_name 3 hN)) (sss_one (ss_ret (se_tup (sa_cons (se_op op_sFdiv (se_var 0) (se_var 3)) (sa_cons (se_op op_sFdiv (se_var 1) (se_var 3)) (sa_cons (se_op op_sFdiv (se_var 2) (se_var 3)) sa_nil))))))))

abbrev ow_is_number_0 : List (PySem.Str × Nat) := [("part", 1)]
noncomputable def q_is_number_5 : MS := (mRet (mOp sEq (mCallP 3 m_lowest_of (mCons (mOp sIx (mVar 0) (mC (.int 0))) (mCons (mOp sIx (mVar 0) (mC (.int 1))) (mCons (mOp sIx (mVar 0) (mC (.int 2))) mNil)))) (mVar 0)))
noncomputable def q_is_number_3 : MS := (mSeq (mIfS (mNotT (mTru (mCB sAll (mCons (mLC (mItS (mVar 0)) (gNm 1) mYes (mCallP 3 m_is_between (mCons (mVar 1) (mCons (sUn sNeg (mC k_MOST_PART)) (mCons (mC k_MOST_PART) mNil)))) (ow_is_number_0.map (·.2))) mNil)))) (mRet (mC (.bl false))) mSkip) q_is_number_5)
noncomputable def b_is_number : MS := (mSeq (mIfS (mOrT (mNotT (mTru (mCB sIsiT (mCons (mVar 0) (mCons (mC (.glo "tuple")) mNil))))) (mOrT (mBs (mOp sNe (mCB sLen (mCons (mVar 0) mNil)) (mC (.int 3)))) (mNotT (mTru (mCallP 3 m_is_between (mCons (mOp sIx (mVar 0) (mC (.int 2))) (mCons (mC (.int 1)) (mCons (mC k_MOST_PART) mNil)))))))) (mRet (mC (.bl false))) mSkip) q_is_number_3)
noncomputable def m_is_number : List D → Pr := runP 2 b_is_number
abbrev N_is_number : List PySem.Str := ["value", "part"]
abbrev P_is_number : List PySem.Str := ["value"]
abbrev S_is_number : List Ev.Shape := []
theorem sc_is_number : FnScope N_is_number P_is_number (defScope (top 15)) := ⟨rfl, rfl, rfl, by decide +kernel, rfl, by decide +kernel, by decide +kernel⟩
theorem d_is_number {P : Program} {w : World} {K : PySem.W.Frag} {mg : PySem.Str → Option Value} {base : Heap} {f : Addr} {fd : FuncData} (fx : Fx K mg) (F : FunD K "is_number" "is_number" (defArgs (top 15)) (defBody (top 15)) (defScope (top 15)) [] [] f fd) (hm : mg "is_number" = some (.ref f)) (h_is_between : DefP P w K mg base 6 "is_between" P_is_between m_is_between S_is_between) (h_lowest_of : DefP P w K mg base 6 "lowest_of" P_lowest_of m_lowest_of S_lowest_of) : DefP P w K mg base 7 "is_number" P_is_number m_is_number S_is_number := by
  refine DefP.of F hm sc_is_number (F.bindsN fun _ _ _ _ _ _ us hl => match us, hl with | [_], _ => rfl) kws_nil fun cdv A outer s H E hr => ?_
  have tk : L2.Takes (cxOf (L2.CX P w) P w K mg base N_is_number "is_number" (defScope (top 15)) f cdv A outer s H E) (WD E) := takes_of rfl rfl rfl rfl
  have hp : PassesOwn (model P w) (A.deeper (PyProof.Rows.envOfC "is_number" (defScope (top 15)) s.heap.objs.size f cdv)) (PyProof.Rows.envOfC "is_number" (defScope (top 15)) s.heap.objs.size f cdv) (cxOf (L2.CX P w) P w K mg base N_is_number "is_number" (defScope (top 15)) f cdv A outer s H E).xe := passes_of rfl
  have hN : N_is_number.Nodup := sc_is_number.nd
  have hc : (cxOf (L2.CX P w) P w K mg base N_is_number "is_number" (defScope (top 15)) f cdv A outer s H E).calm = true := rfl
  have hu := hr.r.units
  exact (sss_cons (ss_if ((sw_or (st_not (st_truth (se_callB (call_sIsi fx.ty) fx.f_isinstance bt_isinstance (sa_cons (se_var 0) (sa_cons (se_blt (v := .ty "tuple") fx.f_tuple bt_tuple rfl) sa_nil))))) (sw_or (st_cmp (op_sNe hu) (se_callB call_sLen fx.f_len bt_len (sa_cons (se_var 0) sa_nil)) se_int) (sw_one_or (st_not (st_truth (se_callP h_is_between hr (by decide) tk (sa_cons (se_ix (se_var 0) se_int) (sa_cons se_int (sa_cons (se_glob fx.k_MOST_PART) sa_nil)))))))))).pt (sss_one (ss_ret se_bl)) sss_nil) (sss_cons (ss_if (st_not (st_truth (se_callB (call_sAll hc) fx.f_all bt_all (sa_cons (se_lc hc hN (si_seq (se_var 0)) (own := ow_is_number_0) (BlkOk.of (by rfl)) (fun _ _ _ _ _ => (sg_name 1 hN)) (fun _ _ _ _ _ => sts_nil) (fun _ _ _ _ _ => (se_callP h_is_between hr (by decide) takes0 (sa_cons (se_var 1) (sa_cons (se_neg (se_glob fx.k_MOST_PART)) (sa_cons (se_glob fx.k_MOST_PART) sa_nil)))))) sa_nil)))) (sss_one (ss_ret se_bl)) sss_nil) (sss_one (ss_ret (se_cmp (op_sEq hu) (se_callP h_lowest_of hr (by decide) tk (sa_cons (se_ix (se_var 0) se_int) (sa_cons (se_ix (se_var 0) se_int) (sa_cons (se_ix (se_var 0) se_int) sa_nil)))) (se_var 0))))))

noncomputable def b_check_number : MS := (mIfS (mNotT (mTru (mCallP 1 m_is_number (mCons (mVar 0) mNil)))) mNever mSkip)
noncomputable def m_check_number : List D → Pr := runP 1 b_check_number
abbrev N_check_number : List PySem.Str := ["value"]
abbrev P_check_number : List PySem.Str := ["value"]
abbrev S_check_number : List Ev.Shape := []
theorem sc_check_number : FnScope N_check_number P_check_number (defScope (top 16)) := ⟨rfl, rfl, rfl, by decide +kernel, rfl, by decide +kernel, by decide +kernel⟩
theorem d_check_number {P : Program} {w : World} {K : PySem.W.Frag} {mg : PySem.Str → Option Value} {base : Heap} {f : Addr} {fd : FuncData} (fx : Fx K mg) (F : FunD K "check_number" "check_number" (defArgs (top 16)) (defBody (top 16)) (defScope (top 16)) [] [] f fd) (hm : mg "check_number" = some (.ref f)) (h_is_number : DefP P w K mg base 7 "is_number" P_is_number m_is_number S_is_number) : DefP P w K mg base 8 "check_number" P_check_number m_check_number S_check_number := by
  refine DefP.of F hm sc_check_number (F.bindsN fun _ _ _ _ _ _ us hl => match us, hl with | [_], _ => rfl) kws_nil fun cdv A outer s H E hr => ?_
  have tk : L2.Takes (cxOf (L2.CX P w) P w K mg base N_check_number "check_number" (defScope (top 16)) f cdv A outer s H E) (WD E) := takes_of rfl rfl rfl rfl
  have hp : PassesOwn (model P w) (A.deeper (PyProof.Rows.envOfC "check_number" (defScope (top 16)) s.heap.objs.size f cdv)) (PyProof.Rows.envOfC "check_number" (defScope (top 16)) s.heap.objs.size f cdv) (cxOf (L2.CX P w) P w K mg base N_check_number "check_number" (defScope (top 16)) f cdv A outer s H E).xe := passes_of rfl
  have hN : N_check_number.Nodup := sc_check_number.nd
  have hc : (cxOf (L2.CX P w) P w K mg base N_check_number "check_number" (defScope (top 16)) f cdv A outer s H E).calm = true := rfl
  have hu := hr.r.units
  exact (sss_one (ss_if (st_not (st_truth (se_callP h_is_number hr (by decide) tk (sa_cons (se_var 0) sa_nil)))) (sss_one ss_never) sss_nil))

noncomputable def q_floor_of_4 : MS := (mRet (mOp sFdiv (mOp sAdd (mVar 1) (mVar 4)) (mVar 3)))
noncomputable def q_floor_of_2 : MS := (mSeq (mIfS (mBs (mOp sLt (mVar 2) (mC (.int 0)))) (mAsg (mOp sSub (sUn sNeg (mVar 4)) (mC (.int 1))) (gNm 4)) mSkip) q_floor_of_4)
noncomputable def b_floor_of : MS := (mSeq (mAsg (mCallP 1 m_square_root (mCons (mOp sMul (mOp sMul (mVar 2) (mVar 2)) (mVar 0)) mNil)) (gNm 4)) q_floor_of_2)
noncomputable def m_floor_of : List D → Pr := runP 5 b_floor_of
abbrev N_floor_of : List PySem.Str := ["root", "p", "q", "n", "size"]
abbrev P_floor_of : List PySem.Str := ["root", "p", "q", "n"]
abbrev S_floor_of : List Ev.Shape := []
theorem sc_floor_of : FnScope N_floor_of P_floor_of (defScope (top 17)) := ⟨rfl, rfl, rfl, by decide +kernel, rfl, by decide +kernel, by decide +kernel⟩
theorem d_floor_of {P : Program} {w : World} {K : PySem.W.Frag} {mg : PySem.Str → Option Value} {base : Heap} {f : Addr} {fd : FuncData} (fx : Fx K mg) (F : FunD K "floor_of" "floor_of" (defArgs (top 17)) (defBody (top 17)) (defScope (top 17)) [] [] f fd) (hm : mg "floor_of" = some (.ref f)) (h_square_root : DefP P w K mg base 5 "square_root" P_square_root m_square_root S_square_root) : DefP P w K mg base 6 "floor_of" P_floor_of m_floor_of S_floor_of := by
  refine DefP.of F hm sc_floor_of (F.bindsN fun _ _ _ _ _ _ us hl => match us, hl with | [_, _, _, _], _ => rfl) kws_nil fun cdv A outer s H E hr => ?_
  have tk : L2.Takes (cxOf (L2.CX P w) P w K mg base N_floor_of "floor_of" (defScope (top 17)) f cdv A outer s H E) (WD E) := takes_of rfl rfl rfl rfl
  have hp : PassesOwn (model P w) (A.deeper (PyProof.Rows.envOfC "floor_of" (defScope (top 17)) s.heap.objs.size f cdv)) (PyProof.Rows.envOfC "floor_of" (defScope (top 17)) s.heap.objs.size f cdv) (cxOf (L2.CX P w) P w K mg base N_floor_of "floor_of" (defScope (top 17)) f cdv A outer s H E).xe := passes_of rfl
  have hN : N_floor_of.Nodup := sc_floor_of.nd
  have hc : (cxOf (L2.CX P w) P w K mg base N_floor_of "floor_of" (defScope (top 17)) f cdv A outer s H E).calm = true := rfl
  have hu := hr.r.units
  exact (sss_cons (ss_asg (se_callP h_square_root hr (by decide) tk (sa_cons (se_op op_sMul (se_op op_sMul (se_var 2) (se_var 2)) (se_var 0)) sa_nil)) (sg_name 4 hN)) (sss_cons (ss_if (st_cmp op_sLt (se_var 2) se_int) (sss_one (ss_asg (se_op op_sSub (se_neg (se_var 4)) se_int) (sg_name 4 hN))) sss_nil) (sss_one (ss_ret (se_op op_sFdiv (se_op op_sAdd (se_var 1) (se_var 4)) (se_var 3))))))

noncomputable def q_is_below_3 : MS := (mRet (mOp sLt (mCallP 4 m_floor_of (mCons (mVar 0) (mCons (mVar 3) (mCons (mVar 4) (mCons (mC (.int 1)) mNil))))) (mC (.int 0))))
noncomputable def q_is_below_2 : MS := (mSeq (mAsg (mOp sSub (mOp sMul (mOp sIx (mVar 1) (mC (.int 1))) (mOp sIx (mVar 2) (mC (.int 2)))) (mOp sMul (mOp sIx (mVar 2) (mC (.int 1))) (mOp sIx (mVar 1) (mC (.int 2))))) (gNm 4)) q_is_below_3)
noncomputable def b_is_below : MS := (mSeq (mAsg (mOp sSub (mOp sMul (mOp sIx (mVar 1) (mC (.int 0))) (mOp sIx (mVar 2) (mC (.int 2)))) (mOp sMul (mOp sIx (mVar 2) (mC (.int 0))) (mOp sIx (mVar 1) (mC (.int 2))))) (gNm 3)) q_is_below_2)
noncomputable def m_is_below : List D → Pr := runP 5 b_is_below
abbrev N_is_below : List PySem.Str := ["root", "one", "other", "p", "q"]
abbrev P_is_below : List PySem.Str := ["root", "one", "other"]
abbrev S_is_below : List Ev.Shape := []
theorem sc_is_below : FnScope N_is_below P_is_below (defScope (top 18)) := ⟨rfl, rfl, rfl, by decide +kernel, rfl, by decide +kernel, by decide +kernel⟩
theorem d_is_below {P : Program} {w : World} {K : PySem.W.Frag} {mg : PySem.Str → Option Value} {base : Heap} {f : Addr} {fd : FuncData} (fx : Fx K mg) (F : FunD K "is_below" "is_below" (defArgs (top 18)) (defBody (top 18)) (defScope (top 18)) [] [] f fd) (hm : mg "is_below" = some (.ref f)) (h_floor_of : DefP P w K mg base 6 "floor_of" P_floor_of m_floor_of S_floor_of) : DefP P w K mg base 7 "is_below" P_is_below m_is_below S_is_below := by
  refine DefP.of F hm sc_is_below (F.bindsN fun _ _ _ _ _ _ us hl => match us, hl with | [_, _, _], _ => rfl) kws_nil fun cdv A outer s H E hr => ?_
  have tk : L2.Takes (cxOf (L2.CX P w) P w K mg base N_is_below "is_below" (defScope (top 18)) f cdv A outer s H E) (WD E) := takes_of rfl rfl rfl rfl
  have hp : PassesOwn (model P w) (A.deeper (PyProof.Rows.envOfC "is_below" (defScope (top 18)) s.heap.objs.size f cdv)) (PyProof.Rows.envOfC "is_below" (defScope (top 18)) s.heap.objs.size f cdv) (cxOf (L2.CX P w) P w K mg base N_is_below "is_below" (defScope (top 18)) f cdv A outer s H E).xe := passes_of rfl
  have hN : N_is_below.Nodup := sc_is_below.nd
  have hc : (cxOf (L2.CX P w) P w K mg base N_is_below "is_below" (defScope (top 18)) f cdv A outer s H E).calm = true := rfl
  have hu := hr.r.units
  exact (sss_cons (ss_asg (se_op op_sSub (se_op op_sMul (se_ix (se_var 1) se_int) (se_ix (se_var 2) se_int)) (se_op op_sMul (se_ix (se_var 2) se_int) (se_ix (se_var 1) se_int))) (sg_name 3 hN)) (sss_cons (ss_asg (se_op op_sSub (se_op op_sMul (se_ix (se_var 1) se_int) (se_ix (se_var 2) se_int)) (se_op op_sMul (se_ix (se_var 2) se_int) (se_ix (se_var 1) se_int))) (sg_name 4 hN)) (sss_one (ss_ret (se_cmp op_sLt (se_callP h_floor_of hr (by decide) tk (sa_cons (se_var 0) (sa_cons (se_var 3) (sa_cons (se_var 4) (sa_cons se_int sa_nil))))) se_int)))))

noncomputable def q_whole_part_3 : MS := (mRet (mCallP 4 m_floor_of (mCons (mVar 0) (mCons (mOp sIx (mVar 1) (mC (.int 0))) (mCons (mOp sIx (mVar 1) (mC (.int 1))) (mCons (mOp sIx (mVar 1) (mC (.int 2))) mNil))))))
noncomputable def q_whole_part_2 : MS := (mSeq (mDrop (mCallP 1 m_check_number (mCons (mVar 1) mNil))) q_whole_part_3)
noncomputable def b_whole_part : MS := (mSeq (mDrop (mCallP 1 m_check_root (mCons (mVar 0) mNil))) q_whole_part_2)
noncomputable def m_whole_part : List D → Pr := runP 2 b_whole_part
abbrev N_whole_part : List PySem.Str := ["root", "number"]
abbrev P_whole_part : List PySem.Str := ["root", "number"]
abbrev S_whole_part : List Ev.Shape := [(0, ["number", "root"], [1, 0])]
theorem sc_whole_part : FnScope N_whole_part P_whole_part (defScope (top 19)) := ⟨rfl, rfl, rfl, by decide +kernel, rfl, by decide +kernel, by decide +kernel⟩
theorem d_whole_part {P : Program} {w : World} {K : PySem.W.Frag} {mg : PySem.Str → Option Value} {base : Heap} {f : Addr} {fd : FuncData} (fx : Fx K mg) (F : FunD K "whole_part" "whole_part" (defArgs (top 19)) (defBody (top 19)) (defScope (top 19)) [] [] f fd) (hm : mg "whole_part" = some (.ref f)) (h_check_number : DefP P w K mg base 8 "check_number" P_check_number m_check_number S_check_number) (h_check_root : DefP P w K mg base 8 "check_root" P_check_root m_check_root S_check_root) (h_floor_of : DefP P w K mg base 6 "floor_of" P_floor_of m_floor_of S_floor_of) : DefP P w K mg base 9 "whole_part" P_whole_part m_whole_part S_whole_part := by
  refine DefP.of F hm sc_whole_part (F.bindsN fun _ _ _ _ _ _ us hl => match us, hl with | [_, _], _ => rfl) (kws_cons (Ev.FunD.bindsK F fun _ _ _ _ _ _ us ws h1 h2 => match us, ws, h1, h2 with | [], [_, _], _, _ => rfl) kws_nil) fun cdv A outer s H E hr => ?_
  have tk : L2.Takes (cxOf (L2.CX P w) P w K mg base N_whole_part "whole_part" (defScope (top 19)) f cdv A outer s H E) (WD E) := takes_of rfl rfl rfl rfl
  have hp : PassesOwn (model P w) (A.deeper (PyProof.Rows.envOfC "whole_part" (defScope (top 19)) s.heap.objs.size f cdv)) (PyProof.Rows.envOfC "whole_part" (defScope (top 19)) s.heap.objs.size f cdv) (cxOf (L2.CX P w) P w K mg base N_whole_part "whole_part" (defScope (top 19)) f cdv A outer s H E).xe := passes_of rfl
  have hN : N_whole_part.Nodup := sc_whole_part.nd
  have hc : (cxOf (L2.CX P w) P w K mg base N_whole_part "whole_part" (defScope (top 19)) f cdv A outer s H E).calm = true := rfl
  have hu := hr.r.units
  exact (sss_cons (ss_expr (se_callP h_check_root hr (by decide) tk (sa_cons (se_var 0) sa_nil))) (sss_cons (ss_expr (se_callP h_check_number hr (by decide) tk (sa_cons (se_var 1) sa_nil))) (sss_one (ss_ret (se_callP h_floor_of hr (by decide) tk (sa_cons (se_var 0) (sa_cons (se_ix (se_var 1) se_int) (sa_cons (se_ix (se_var 1) se_int) (sa_cons (se_ix (se_var 1) se_int) sa_nil)))))))))

noncomputable def q_is_less_4 : MS := (mRet (mCallP 3 m_is_below (mCons (mVar 0) (mCons (mVar 1) (mCons (mVar 2) mNil)))))
noncomputable def q_is_less_3 : MS := (mSeq (mDrop (mCallP 1 m_check_number (mCons (mVar 2) mNil))) q_is_less_4)
noncomputable def q_is_less_2 : MS := (mSeq (mDrop (mCallP 1 m_check_number (mCons (mVar 1) mNil))) q_is_less_3)
noncomputable def b_is_less : MS := (mSeq (mDrop (mCallP 1 m_check_root (mCons (mVar 0) mNil))) q_is_less_2)
noncomputable def m_is_less : List D → Pr := runP 3 b_is_less
abbrev N_is_less : List PySem.Str := ["root", "number", "other"]
abbrev P_is_less : List PySem.Str := ["root", "number", "other"]
abbrev S_is_less : List Ev.Shape := [(0, ["other", "number", "root"], [2, 1, 0])]
theorem sc_is_less : FnScope N_is_less P_is_less (defScope (top 20)) := ⟨rfl, rfl, rfl, by decide +kernel, rfl, by decide +kernel, by decide +kernel⟩
theorem d_is_less {P : Program} {w : World} {K : PySem.W.Frag} {mg : PySem.Str → Option Value} {base : Heap} {f : Addr} {fd : FuncData} (fx : Fx K mg) (F : FunD K "is_less" "is_less" (defArgs (top 20)) (defBody (top 20)) (defScope (top 20)) [] [] f fd) (hm : mg "is_less" = some (.ref f)) (h_check_number : DefP P w K mg base 8 "check_number" P_check_number m_check_number S_check_number) (h_check_root : DefP P w K mg base 8 "check_root" P_check_root m_check_root S_check_root) (h_is_below : DefP P w K mg base 7 "is_below" P_is_below m_is_below S_is_below) : DefP P w K mg base 9 "is_less" P_is_less m_is_less S_is_less := by
  refine DefP.of F hm sc_is_less (F.bindsN fun _ _ _ _ _ _ us hl => match us, hl with | [_, _, _], _ => rfl) (kws_cons (Ev.FunD.bindsK F fun _ _ _ _ _ _ us ws h1 h2 => match us, ws, h1, h2 with | [], [_, _, _], _, _ => rfl) kws_nil) fun cdv A outer s H E hr => ?_
  have tk : L2.Takes (cxOf (L2.CX P w) P w K mg base N_is_less "is_less" (defScope (top 20)) f cdv A outer s H E) (WD E) := takes_of rfl rfl rfl rfl
  have hp : PassesOwn (model P w) (A.deeper (PyProof.Rows.envOfC "is_less" (defScope (top 20)) s.heap.objs.size f cdv)) (PyProof.Rows.envOfC "is_less" (defScope (top 20)) s.heap.objs.size f cdv) (cxOf (L2.CX P w) P w K mg base N_is_less "is_less" (defScope (top 20)) f cdv A outer s H E).xe := passes_of rfl
  have hN : N_is_less.Nodup := sc_is_less.nd
  have hc : (cxOf (L2.CX P w) P w K mg base N_is_less "is_less" (defScope (top 20)) f cdv A outer s H E).calm = true := rfl
  have hu := hr.r.units
  exact (sss_cons (ss_expr (se_callP h_check_root hr (by decide) tk (sa_cons (se_var 0) sa_nil))) (sss_cons (ss_expr (se_callP h_check_number hr (by decide) tk (sa_cons (se_var 1) sa_nil))) (sss_cons (ss_expr (se_callP h_check_number hr (by decide) tk (sa_cons (se_var 2) sa_nil))) (sss_one (ss_ret (se_callP h_is_below hr (by decide) tk (sa_cons (se_var 0) (sa_cons (se_var 1) (sa_cons (se_var 2) sa_nil)))))))))

noncomputable def fb_lowest_1 : MS := (mIfS (mNotT (mTru (mCallP 3 m_is_between (mCons (mVar 3) (mCons (sUn sNeg (mC k_MOST_PART)) (mCons (mC k_MOST_PART) mNil)))))) mNever mSkip)
noncomputable def q_lowest_6 : MS := (mRet (mCallP 3 m_lowest_of (mCons (mVar 0) (mCons (mVar 1) (mCons (mVar 2) mNil)))))
noncomputable def q_lowest_4 : MS := (mSeq (mIfS (mBs (mOp sEq (mVar 2) (mC (.int 0)))) mNever mSkip) q_lowest_6)
noncomputable def b_lowest : MS := (mSeq (mFor (mItS (mTup (mCons (mVar 0) (mCons (mVar 1) (mCons (mVar 2) mNil))))) (gNm 3) fb_lowest_1) q_lowest_4)
noncomputable def m_lowest : List D → Pr := runP 4 b_lowest
abbrev N_lowest : List PySem.Str := ["p", "q", "n", "part"]
abbrev P_lowest : List PySem.Str := ["p", "q", "n"]
abbrev S_lowest : List Ev.Shape := [(0, ["n", "q", "p"], [2, 1, 0])]
theorem sc_lowest : FnScope N_lowest P_lowest (defScope (top 21)) := ⟨rfl, rfl, rfl, by decide +kernel, rfl, by decide +kernel, by decide +kernel⟩
theorem d_lowest {P : Program} {w : World} {K : PySem.W.Frag} {mg : PySem.Str → Option Value} {base : Heap} {f : Addr} {fd : FuncData} (fx : Fx K mg) (F : FunD K "lowest" "lowest" (defArgs (top 21)) (defBody (top 21)) (defScope (top 21)) [] [] f fd) (hm : mg "lowest" = some (.ref f)) (h_is_between : DefP P w K mg base 6 "is_between" P_is_between m_is_between S_is_between) (h_lowest_of : DefP P w K mg base 6 "lowest_of" P_lowest_of m_lowest_of S_lowest_of) : DefP P w K mg base 7 "lowest" P_lowest m_lowest S_lowest := by
  refine DefP.of F hm sc_lowest (F.bindsN fun _ _ _ _ _ _ us hl => match us, hl with | [_, _, _], _ => rfl) (kws_cons (Ev.FunD.bindsK F fun _ _ _ _ _ _ us ws h1 h2 => match us, ws, h1, h2 with | [], [_, _, _], _, _ => rfl) kws_nil) fun cdv A outer s H E hr => ?_
  have tk : L2.Takes (cxOf (L2.CX P w) P w K mg base N_lowest "lowest" (defScope (top 21)) f cdv A outer s H E) (WD E) := takes_of rfl rfl rfl rfl
  have hp : PassesOwn (model P w) (A.deeper (PyProof.Rows.envOfC "lowest" (defScope (top 21)) s.heap.objs.size f cdv)) (PyProof.Rows.envOfC "lowest" (defScope (top 21)) s.heap.objs.size f cdv) (cxOf (L2.CX P w) P w K mg base N_lowest "lowest" (defScope (top 21)) f cdv A outer s H E).xe := passes_of rfl
  have hN : N_lowest.Nodup := sc_lowest.nd
  have hc : (cxOf (L2.CX P w) P w K mg base N_lowest "lowest" (defScope (top 21)) f cdv A outer s H E).calm = true := rfl
  have hu := hr.r.units
  exact (sss_cons (ss_for hp hc (si_seq (se_tup (sa_cons (se_var 0) (sa_cons (se_var 1) (sa_cons (se_var 2) sa_nil))))) (sg_name 3 hN) (sss_one (ss_if (st_not (st_truth (se_callP h_is_between hr (by decide) tk (sa_cons (se_var 3) (sa_cons (se_neg (se_glob fx.k_MOST_PART)) (sa_cons (se_glob fx.k_MOST_PART) sa_nil)))))) (sss_one ss_never) sss_nil))) (sss_cons (ss_if (st_cmp (op_sEq hu) (se_var 2) se_int) (sss_one ss_never) sss_nil) (sss_one (ss_ret (se_callP h_lowest_of hr (by decide) tk (sa_cons (se_var 0) (sa_cons (se_var 1) (sa_cons (se_var 2) sa_nil))))))))

noncomputable def q__law_dip_4 : MS := (mRet (mVar 2))
noncomputable def q__law_dip_6 : MS := (mRet (mOp sMod (mCB sInt (mCons (mOp sFdiv (mOp sIx (mVar 0) (mC (.int 1))) (mC (.int 512))) mNil)) (mVar 1)))
noncomputable def q__law_dip_5 : MS := (mSeq (mAsg (mOp sMod (mCB sInt (mCons (mOp sAdd (mOp sMul (mOp sIx (mVar 0) (mC (.int 1))) (mC (.int 48271))) (mOp sMul (mC (.int 50021)) (mOp sIx (mVar 0) (mC (.int 2))))) mNil)) (mC (.int 2147483399))) (gSb (mVar 0) (mC (.int 1)))) q__law_dip_6)
noncomputable def q__law_dip_2 : MS := (mSeq (mIfS (mBs (mOp sGt (mOp sIx (mVar 0) (mC (.int 0))) (mC (.int 0)))) (mSeq (mAsg (mCB sDivmod (mCons (mOp sIx (mVar 0) (mC (.int 0))) (mCons (mVar 1) mNil))) (gTp 2 (gsCons (gSb (mVar 0) (mC (.int 0))) (gsCons (gNm 2) gsNil)))) q__law_dip_4) mSkip) q__law_dip_5)
noncomputable def b__law_dip : MS := (mSeq (mAsg (mOp sAdd (mOp sIx (mVar 0) (mC (.int 2))) (mC (.int 1))) (gSb (mVar 0) (mC (.int 2)))) q__law_dip_2)
noncomputable def m__law_dip : List D → Sto → Rs D := runI 3 b__law_dip
abbrev N__law_dip : List PySem.Str := ["_law_jar_here", "_law_top", "_law_digit"]
abbrev P__law_dip : List PySem.Str := ["_law_jar_here", "_law_top"]
abbrev S__law_dip : List Ev.Shape := []
theorem sc__law_dip : FnScope N__law_dip P__law_dip (defScope (top 23)) := ⟨rfl, rfl, rfl, by decide +kernel, rfl, by decide +kernel, by decide +kernel⟩
theorem d__law_dip {P : Program} {w : World} {K : PySem.W.Frag} {mg : PySem.Str → Option Value} {base : Heap} {f : Addr} {fd : FuncData} (fx : Fx K mg) (F : FunD K "_law_dip" "_law_dip" (defArgs (top 23)) (defBody (top 23)) (defScope (top 23)) [] [] f fd) (hm : mg "_law_dip" = some (.ref f))  : DefI P w K mg base 5 "_law_dip" P__law_dip m__law_dip S__law_dip := by
  refine DefI.of F hm sc__law_dip (F.bindsN fun _ _ _ _ _ _ us hl => match us, hl with | [_, _], _ => rfl) kws_nil fun cdv A outer s H E hr => ?_
  have tk : L2.Takes (cxOf (L2.CX P w) P w K mg base N__law_dip "_law_dip" (defScope (top 23)) f cdv A outer s H E) (WD E) := takes_of rfl rfl rfl rfl
  have hp : PassesOwn (model P w) (A.deeper (PyProof.Rows.envOfC "_law_dip" (defScope (top 23)) s.heap.objs.size f cdv)) (PyProof.Rows.envOfC "_law_dip" (defScope (top 23)) s.heap.objs.size f cdv) (cxOf (L2.CX P w) P w K mg base N__law_dip "_law_dip" (defScope (top 23)) f cdv A outer s H E).xe := passes_of rfl
  have hN : N__law_dip.Nodup := sc__law_dip.nd
  have hc : (cxOf (L2.CX P w) P w K mg base N__law_dip "_law_dip" (defScope (top 23)) f cdv A outer s H E).calm = true := rfl
  have hu := hr.r.units
  exact (sss_cons (ss_asg (se_op op_sAdd (se_ix (se_var 0) se_int) se_int) (sg_sub (W := (WD E)) (se_var 0) se_int)) (sss_cons (ss_if (st_cmp op_sGt (se_ix (se_var 0) se_int) se_int) (sss_cons (ss_asg (se_callB call_sDivmod fx.f_divmod bt_divmod (sa_cons (se_ix (se_var 0) se_int) (sa_cons (se_var 1) sa_nil))) (sg_tup hc (sgs_cons (sg_sub (W := (WD E)) (se_var 0) se_int) (sgs_cons (sg_name 2 hN) sgs_nil)))) (sss_one (ss_ret (se_var 2)))) sss_nil) (sss_cons (ss_asg (se_op op_sMod (se_callTy call_sInt fx.f_int bt_int (sa_cons (se_op op_sAdd (se_op op_sMul (se_ix (se_var 0) se_int) se_int) (se_op op_sMul se_int (se_ix (se_var 0) se_int))) sa_nil)) se_int) (sg_sub (W := (WD E)) (se_var 0) se_int)) (sss_one (ss_ret (se_op op_sMod (se_callTy call_sInt fx.f_int bt_int (sa_cons (se_op op_sFdiv (se_ix (se_var 0) se_int) se_int) sa_nil)) (se_var 1)))))))

noncomputable def b__law_one_of : MS := (mRet (mOp sIx (mVar 1) (mCallI 2 m__law_dip (mCons (mVar 0) (mCons (mCB sLen (mCons (mVar 1) mNil)) mNil)))))
noncomputable def m__law_one_of : List D → Sto → Rs D := runI 2 b__law_one_of
abbrev N__law_one_of : List PySem.Str := ["_law_jar_here", "_law_some"]
abbrev P__law_one_of : List PySem.Str := ["_law_jar_here", "_law_some"]
abbrev S__law_one_of : List Ev.Shape := []
theorem sc__law_one_of : FnScope N__law_one_of P__law_one_of (defScope (top 24)) := ⟨rfl, rfl, rfl, by decide +kernel, rfl, by decide +kernel, by decide +kernel⟩
theorem d__law_one_of {P : Program} {w : World} {K : PySem.W.Frag} {mg : PySem.Str → Option Value} {base : Heap} {f : Addr} {fd : FuncData} (fx : Fx K mg) (F : FunD K "_law_one_of" "_law_one_of" (defArgs (top 24)) (defBody (top 24)) (defScope (top 24)) [] [] f fd) (hm : mg "_law_one_of" = some (.ref f)) (h__law_dip : DefI P w K mg base 5 "_law_dip" P__law_dip m__law_dip S__law_dip) : DefI P w K mg base 6 "_law_one_of" P__law_one_of m__law_one_of S__law_one_of := by
  refine DefI.of F hm sc__law_one_of (F.bindsN fun _ _ _ _ _ _ us hl => match us, hl with | [_, _], _ => rfl) kws_nil fun cdv A outer s H E hr => ?_
  have tk : L2.Takes (cxOf (L2.CX P w) P w K mg base N__law_one_of "_law_one_of" (defScope (top 24)) f cdv A outer s H E) (WD E) := takes_of rfl rfl rfl rfl
  have hp : PassesOwn (model P w) (A.deeper (PyProof.Rows.envOfC "_law_one_of" (defScope (top 24)) s.heap.objs.size f cdv)) (PyProof.Rows.envOfC "_law_one_of" (defScope (top 24)) s.heap.objs.size f cdv) (cxOf (L2.CX P w) P w K mg base N__law_one_of "_law_one_of" (defScope (top 24)) f cdv A outer s H E).xe := passes_of rfl
  have hN : N__law_one_of.Nodup := sc__law_one_of.nd
  have hc : (cxOf (L2.CX P w) P w K mg base N__law_one_of "_law_one_of" (defScope (top 24)) f cdv A outer s H E).calm = true := rfl
  have hu := hr.r.units
  exact (sss_one (ss_ret (se_ix (se_var 1) (se_callI h__law_dip hr (by decide) tk (sa_cons (se_var 0) (sa_cons (se_callB call_sLen fx.f_len bt_len (sa_cons (se_var 1) sa_nil)) sa_nil))))))

noncomputable def q__law_under_5 : MS := (mRet (mIf (mBs (mOp sLt (mVar 0) (mC (.int 0)))) (mOp sGt (mOp sMul (mVar 0) (mVar 0)) (mOp sMul (mOp sMul (mVar 1) (mVar 1)) (mVar 2))) (mOp sLt (mOp sMul (mVar 0) (mVar 0)) (mOp sMul (mOp sMul (mVar 1) (mVar 1)) (mVar 2)))))
noncomputable def q__law_under_3 : MS := (mSeq (mIfS (mAndT (mBs (mOp sLt (mVar 0) (mC (.int 0)))) (mBs (mOp sLe (mVar 1) (mC (.int 0))))) (mRet (mC (.bl true))) mSkip) q__law_under_5)
noncomputable def b__law_under : MS := (mSeq (mIfS (mAndT (mBs (mOp sGe (mVar 0) (mC (.int 0)))) (mBs (mOp sGe (mVar 1) (mC (.int 0))))) (mRet (mC (.bl false))) mSkip) q__law_under_3)
noncomputable def m__law_under : List D → Pr := runP 3 b__law_under
abbrev N__law_under : List PySem.Str := ["_law_p", "_law_q", "_law_root"]
abbrev P__law_under : List PySem.Str := ["_law_p", "_law_q", "_law_root"]
abbrev S__law_under : List Ev.Shape := []
theorem sc__law_under : FnScope N__law_under P__law_under (defScope (top 25)) := ⟨rfl, rfl, rfl, by decide +kernel, rfl, by decide +kernel, by decide +kernel⟩
theorem d__law_under {P : Program} {w : World} {K : PySem.W.Frag} {mg : PySem.Str → Option Value} {base : Heap} {f : Addr} {fd : FuncData} (fx : Fx K mg) (F : FunD K "_law_under" "_law_under" (defArgs (top 25)) (defBody (top 25)) (defScope (top 25)) [] [] f fd) (hm : mg "_law_under" = some (.ref f))  : DefP P w K mg base 5 "_law_under" P__law_under m__law_under S__law_under := by
  refine DefP.of F hm sc__law_under (F.bindsN fun _ _ _ _ _ _ us hl => match us, hl with | [_, _, _], _ => rfl) kws_nil fun cdv A outer s H E hr => ?_
  have tk : L2.Takes (cxOf (L2.CX P w) P w K mg base N__law_under "_law_under" (defScope (top 25)) f cdv A outer s H E) (WD E) := takes_of rfl rfl rfl rfl
  have hp : PassesOwn (model P w) (A.deeper (PyProof.Rows.envOfC "_law_under" (defScope (top 25)) s.heap.objs.size f cdv)) (PyProof.Rows.envOfC "_law_under" (defScope (top 25)) s.heap.objs.size f cdv) (cxOf (L2.CX P w) P w K mg base N__law_under "_law_under" (defScope (top 25)) f cdv A outer s H E).xe := passes_of rfl
  have hN : N__law_under.Nodup := sc__law_under.nd
  have hc : (cxOf (L2.CX P w) P w K mg base N__law_under "_law_under" (defScope (top 25)) f cdv A outer s H E).calm = true := rfl
  have hu := hr.r.units
  exact (sss_cons (ss_if ((sw_and (st_cmp op_sGe (se_var 0) se_int) (sw_one_and (st_cmp op_sGe (se_var 1) se_int)))).pt (sss_one (ss_ret se_bl)) sss_nil) (sss_cons (ss_if ((sw_and (st_cmp op_sLt (se_var 0) se_int) (sw_one_and (st_cmp op_sLe (se_var 1) se_int)))).pt (sss_one (ss_ret se_bl)) sss_nil) (sss_one (ss_ret (se_ifExp (st_cmp op_sLt (se_var 0) se_int) (se_cmp op_sGt (se_op op_sMul (se_var 0) (se_var 0)) (se_op op_sMul (se_op op_sMul (se_var 1) (se_var 1)) (se_var 2))) (se_cmp op_sLt (se_op op_sMul (se_var 0) (se_var 0)) (se_op op_sMul (se_op op_sMul (se_var 1) (se_var 1)) (se_var 2))))))))

noncomputable def wt__law_floor_2 : MT := (mNotT (mTru (mCallP 3 m__law_under (mCons (mOp sSub (mVar 1) (mOp sMul (mVar 3) (mVar 5))) (mCons (mVar 2) (mCons (mVar 0) mNil))))))
noncomputable def wb__law_floor_2 : MS := (mAsg (mOp sMul (mC (.int 2)) (mVar 5)) (gNm 5))
noncomputable def wt__law_floor_4 : MT := (mTru (mCallP 3 m__law_under (mCons (mOp sSub (mVar 1) (mOp sMul (mVar 3) (mVar 4))) (mCons (mVar 2) (mCons (mVar 0) mNil)))))
noncomputable def wb__law_floor_4 : MS := (mAsg (mOp sMul (mC (.int 2)) (mVar 4)) (gNm 4))
noncomputable def q__law_floor_8 : MS := (mIfS (mTru (mCallP 3 m__law_under (mCons (mOp sSub (mVar 1) (mOp sMul (mVar 3) (mVar 6))) (mCons (mVar 2) (mCons (mVar 0) mNil))))) (mAsg (mVar 6) (gNm 5)) (mAsg (mVar 6) (gNm 4)))
noncomputable def wt__law_floor_6 : MT := (mBs (mOp sGt (mOp sSub (mVar 5) (mVar 4)) (mC (.int 1))))
noncomputable def wb__law_floor_6 : MS := (mSeq (mAsg (mOp sFdiv (mOp sAdd (mVar 4) (mVar 5)) (mC (.int 2))) (gNm 6)) q__law_floor_8)
noncomputable def q__law_floor_12 : MS := (mRet (mVar 4))
noncomputable def q__law_floor_6 : MS := (mSeq (mWh wt__law_floor_6 wb__law_floor_6) q__law_floor_12)
noncomputable def q__law_floor_4 : MS := (mSeq (mWh wt__law_floor_4 wb__law_floor_4) q__law_floor_6)
noncomputable def q__law_floor_2 : MS := (mSeq (mWh wt__law_floor_2 wb__law_floor_2) q__law_floor_4)
noncomputable def b__law_floor : MS := (mSeq (mAsg (mTup (mCons (sUn sNeg (mC (.int 1))) (mCons (mC (.int 1)) mNil))) (gTp 2 (gsCons (gNm 4) (gsCons (gNm 5) gsNil)))) q__law_floor_2)
noncomputable def m__law_floor : List D → Pr := runP 7 b__law_floor
abbrev N__law_floor : List PySem.Str := ["_law_root", "_law_p", "_law_q", "_law_n", "_law_low", "_law_high", "_law_middle"]
abbrev P__law_floor : List PySem.Str := ["_law_root", "_law_p", "_law_q", "_law_n"]
abbrev S__law_floor : List Ev.Shape := []
theorem sc__law_floor : FnScope N__law_floor P__law_floor (defScope (top 26)) := ⟨rfl, rfl, rfl, by decide +kernel, rfl, by decide +kernel, by decide +kernel⟩
theorem d__law_floor {P : Program} {w : World} {K : PySem.W.Frag} {mg : PySem.Str → Option Value} {base : Heap} {f : Addr} {fd : FuncData} (fx : Fx K mg) (F : FunD K "_law_floor" "_law_floor" (defArgs (top 26)) (defBody (top 26)) (defScope (top 26)) [] [] f fd) (hm : mg "_law_floor" = some (.ref f)) (h__law_under : DefP P w K mg base 5 "_law_under" P__law_under m__law_under S__law_under) : DefP P w K mg base 6 "_law_floor" P__law_floor m__law_floor S__law_floor := by
  refine DefP.of F hm sc__law_floor (F.bindsN fun _ _ _ _ _ _ us hl => match us, hl with | [_, _, _, _], _ => rfl) kws_nil fun cdv A outer s H E hr => ?_
  have tk : L2.Takes (cxOf (L2.CX P w) P w K mg base N__law_floor "_law_floor" (defScope (top 26)) f cdv A outer s H E) (WD E) := takes_of rfl rfl rfl rfl
  have hp : PassesOwn (model P w) (A.deeper (PyProof.Rows.envOfC "_law_floor" (defScope (top 26)) s.heap.objs.size f cdv)) (PyProof.Rows.envOfC "_law_floor" (defScope (top 26)) s.heap.objs.size f cdv) (cxOf (L2.CX P w) P w K mg base N__law_floor "_law_floor" (defScope (top 26)) f cdv A outer s H E).xe := passes_of rfl
  have hN : N__law_floor.Nodup := sc__law_floor.nd
  have hc : (cxOf (L2.CX P w) P w K mg base N__law_floor "_law_floor" (defScope (top 26)) f cdv A outer s H E).calm = true := rfl
  have hu := hr.r.units
  exact (sss_cons (ss_asg (se_tup (sa_cons (se_neg se_int) (sa_cons se_int sa_nil))) (sg_tup hc (sgs_cons (sg_name 4 hN) (sgs_cons (sg_name 5 hN) sgs_nil)))) (sss_cons (ss_wh hp (st_not (st_truth (se_callP h__law_under hr (by decide) tk (sa_cons (se_op op_sSub (se_var 1) (se_op op_sMul (se_var 3) (se_var 5))) (sa_cons (se_var 2) (sa_cons (se_var 0) sa_nil)))))) (sss_one (ss_asg (se_op op_sMul se_int (se_var 5)) (sg_name 5 hN)))) (sss_cons (ss_wh hp (st_truth (se_callP h__law_under hr (by decide) tk (sa_cons (se_op op_sSub (se_var 1) (se_op op_sMul (se_var 3) (se_var 4))) (sa_cons (se_var 2) (sa_cons (se_var 0) sa_nil))))) (sss_one (ss_asg (se_op op_sMul se_int (se_var 4)) (sg_name 4 hN)))) (sss_cons (ss_wh hp (st_cmp op_sGt (se_op op_sSub (se_var 5) (se_var 4)) se_int) (sss_cons (ss_asg (se_op op_sFdiv (se_op op_sAdd (se_var 4) (se_var 5)) se_int) (sg_name 6 hN)) (sss_one (ss_if (st_truth (se_callP h__law_under hr (by decide) tk (sa_cons (se_op op_sSub (se_var 1) (se_op op_sMul (se_var 3) (se_var 6))) (sa_cons (se_var 2) (sa_cons (se_var 0) sa_nil))))) (sss_one (ss_asg (se_var 6) (sg_name 5 hN))) (sss_one (ss_asg (se_var 6) (sg_name 4 hN))))))) (sss_one (ss_ret (se_var 4)))))))

noncomputable def fb__law_jar_3 : MS := (mAsg (mOp sMod (mCB sInt (mCons (mOp sAdd (mOp sMul (mVar 3) (mC (.int 23011))) (mVar 4)) mNil)) (mC (.int 2147482577))) (gNm 3))
noncomputable def q__law_jar_5 : MS := (mRet (mNew (mCons (mIf (mOrT (mBs (mOp sLt (mVar 2) (mC (.int 0)))) (mBs (mOp sGe (mVar 2) (mOp sPow (mC (.int 10)) (mC (.int 18)))))) (mCB sAbs (mCons (mVar 2) mNil)) (mC (.int 0))) (mCons (mVar 3) (mCons (mC (.int 0)) mNil)))))
noncomputable def q__law_jar_3 : MS := (mSeq (mFor (mItS (mOp sAdd (mSl (mVar 0) mONone (mOSome (mC (.int 5)))) (mLst (mCons (mVar 2) mNil)))) (gNm 4) fb__law_jar_3) q__law_jar_5)
noncomputable def q__law_jar_2 : MS := (mSeq (mAsg (mOp sAdd (mC (.int 80021)) (mOp sMul (mC (.int 6007)) (mVar 1))) (gNm 3)) q__law_jar_3)
noncomputable def b__law_jar : MS := (mSeq (mAsg (mIf (mBs (mOp sLt (mVar 1) (mCB sLen (mCons (mVar 0) mNil)))) (mOp sIx (mVar 0) (mVar 1)) (mOp sAdd (mOp sMul (mC (.int 43)) (mVar 1)) (mC (.int 9)))) (gNm 2)) q__law_jar_2)
noncomputable def m__law_jar : List D → Sto → Rs D := runI 5 b__law_jar
abbrev N__law_jar : List PySem.Str := ["_law_cells", "_law_turn", "_law_cell", "_law_mixed", "_law_each"]
abbrev P__law_jar : List PySem.Str := ["_law_cells", "_law_turn"]
abbrev S__law_jar : List Ev.Shape := []
theorem sc__law_jar : FnScope N__law_jar P__law_jar (defScope (top 27)) := ⟨rfl, rfl, rfl, by decide +kernel, rfl, by decide +kernel, by decide +kernel⟩
theorem d__law_jar {P : Program} {w : World} {K : PySem.W.Frag} {mg : PySem.Str → Option Value} {base : Heap} {f : Addr} {fd : FuncData} (fx : Fx K mg) (F : FunD K "_law_jar" "_law_jar" (defArgs (top 27)) (defBody (top 27)) (defScope (top 27)) [] [] f fd) (hm : mg "_law_jar" = some (.ref f))  : DefI P w K mg base 5 "_law_jar" P__law_jar m__law_jar S__law_jar := by
  refine DefI.of F hm sc__law_jar (F.bindsN fun _ _ _ _ _ _ us hl => match us, hl with | [_, _], _ => rfl) kws_nil fun cdv A outer s H E hr => ?_
  have tk : L2.Takes (cxOf (L2.CX P w) P w K mg base N__law_jar "_law_jar" (defScope (top 27)) f cdv A outer s H E) (WD E) := takes_of rfl rfl rfl rfl
  have hp : PassesOwn (model P w) (A.deeper (PyProof.Rows.envOfC "_law_jar" (defScope (top 27)) s.heap.objs.size f cdv)) (PyProof.Rows.envOfC "_law_jar" (defScope (top 27)) s.heap.objs.size f cdv) (cxOf (L2.CX P w) P w K mg base N__law_jar "_law_jar" (defScope (top 27)) f cdv A outer s H E).xe := passes_of rfl
  have hN : N__law_jar.Nodup := sc__law_jar.nd
  have hc : (cxOf (L2.CX P w) P w K mg base N__law_jar "_law_jar" (defScope (top 27)) f cdv A outer s H E).calm = true := rfl
  have hu := hr.r.units
  exact (sss_cons (ss_asg (se_ifExp (st_cmp op_sLt (se_var 1) (se_callB call_sLen fx.f_len bt_len (sa_cons (se_var 0) sa_nil))) (se_ix (se_var 0) (se_var 1)) (se_op op_sAdd (se_op op_sMul se_int (se_var 1)) se_int)) (sg_name 2 hN)) (sss_cons (ss_asg (se_op op_sAdd se_int (se_op op_sMul se_int (se_var 1))) (sg_name 3 hN)) (sss_cons (ss_for hp hc (si_seq (se_op op_sAdd (se_slice (se_var 0) so_none (so_some se_int)) (se_lst (sa_cons (se_var 2) sa_nil)))) (sg_name 4 hN) (sss_one (ss_asg (se_op op_sMod (se_callTy call_sInt fx.f_int bt_int (sa_cons (se_op op_sAdd (se_op op_sMul (se_var 3) se_int) (se_var 4)) sa_nil)) se_int) (sg_name 3 hN)))) (sss_one (ss_ret (se_new (sa_cons (se_ifExp ((sw_or (st_cmp op_sLt (se_var 2) se_int) (sw_one_or (st_cmp op_sGe (se_var 2) (se_op op_sPow se_int se_int))))).pt (se_callB call_sAbs fx.f_abs bt_abs (sa_cons (se_var 2) sa_nil)) se_int) (sa_cons (se_var 3) (sa_cons se_int sa_nil)))))))))

noncomputable def wt__law_gcd_2 : MT := (mBs (mOp sGt (mVar 1) (mC (.int 0))))
noncomputable def wb__law_gcd_2 : MS := (mPar 0 1 (mCons (mVar 1) (mCons (mOp sMod (mCB sInt (mCons (mVar 0) mNil)) (mVar 1)) mNil)))
noncomputable def q__law_gcd_4 : MS := (mRet (mVar 0))
noncomputable def q__law_gcd_2 : MS := (mSeq (mWh wt__law_gcd_2 wb__law_gcd_2) q__law_gcd_4)
noncomputable def b__law_gcd : MS := (mSeq (mPar 0 1 (mCons (mCB sAbs (mCons (mVar 0) mNil)) (mCons (mCB sAbs (mCons (mVar 1) mNil)) mNil))) q__law_gcd_2)
noncomputable def m__law_gcd : List D → Pr := runP 2 b__law_gcd
abbrev N__law_gcd : List PySem.Str := ["_law_one", "_law_two"]
abbrev P__law_gcd : List PySem.Str := ["_law_one", "_law_two"]
abbrev S__law_gcd : List Ev.Shape := []
theorem sc__law_gcd : FnScope N__law_gcd P__law_gcd (defScope (top 28)) := ⟨rfl, rfl, rfl, by decide +kernel, rfl, by decide +kernel, by decide +kernel⟩
theorem d__law_gcd {P : Program} {w : World} {K : PySem.W.Frag} {mg : PySem.Str → Option Value} {base : Heap} {f : Addr} {fd : FuncData} (fx : Fx K mg) (F : FunD K "_law_gcd" "_law_gcd" (defArgs (top 28)) (defBody (top 28)) (defScope (top 28)) [] [] f fd) (hm : mg "_law_gcd" = some (.ref f))  : DefP P w K mg base 5 "_law_gcd" P__law_gcd m__law_gcd S__law_gcd := by
  refine DefP.of F hm sc__law_gcd (F.bindsN fun _ _ _ _ _ _ us hl => match us, hl with | [_, _], _ => rfl) kws_nil fun cdv A outer s H E hr => ?_
  have tk : L2.Takes (cxOf (L2.CX P w) P w K mg base N__law_gcd "_law_gcd" (defScope (top 28)) f cdv A outer s H E) (WD E) := takes_of rfl rfl rfl rfl
  have hp : PassesOwn (model P w) (A.deeper (PyProof.Rows.envOfC "_law_gcd" (defScope (top 28)) s.heap.objs.size f cdv)) (PyProof.Rows.envOfC "_law_gcd" (defScope (top 28)) s.heap.objs.size f cdv) (cxOf (L2.CX P w) P w K mg base N__law_gcd "_law_gcd" (defScope (top 28)) f cdv A outer s H E).xe := passes_of rfl
  have hN : N__law_gcd.Nodup := sc__law_gcd.nd
  have hc : (cxOf (L2.CX P w) P w K mg base N__law_gcd "_law_gcd" (defScope (top 28)) f cdv A outer s H E).calm = true := rfl
  have hu := hr.r.units
  exact (sss_cons (ss_par 0 1 hc hN (sa_cons (se_callB call_sAbs fx.f_abs bt_abs (sa_cons (se_var 0) sa_nil)) (sa_cons (se_callB call_sAbs fx.f_abs bt_abs (sa_cons (se_var 1) sa_nil)) sa_nil))) (sss_cons (ss_wh hp (st_cmp op_sGt (se_var 1) se_int) (sss_one (ss_par 0 1 hc hN (sa_cons (se_var 1) (sa_cons (se_op op_sMod (se_callTy call_sInt fx.f_int bt_int (sa_cons (se_var 0) sa_nil)) (se_var 1)) sa_nil))))) (sss_one (ss_ret (se_var 0)))))

noncomputable def q__law_part_2 : MS := (mRet (mCallI 2 m__law_one_of (mCons (mVar 0) (mCons (mLst (mCons (mC (.int 0)) (mCons (mC (.int 1)) (mCons (sUn sNeg (mC (.int 1))) (mCons (mOp sSub (mCallI 2 m__law_dip (mCons (mVar 0) (mCons (mC (.int 41)) mNil))) (mC (.int 20))) (mCons (mVar 1) (mCons (sUn sNeg (mVar 1)) (mCons (mOp sPow (mC (.int 10)) (mC (.int 30))) (mCons (sUn sNeg (mOp sPow (mC (.int 10)) (mC (.int 30)))) mNil))))))))) mNil))))
noncomputable def b__law_part : MS := (mSeq (mAsg (mOp sAdd (mOp sMul (mCallI 2 m__law_dip (mCons (mVar 0) (mCons (mOp sPow (mC (.int 10)) (mC (.int 9))) mNil))) (mOp sPow (mC (.int 10)) (mC (.int 20)))) (mCallI 2 m__law_dip (mCons (mVar 0) (mCons (mOp sPow (mC (.int 10)) (mC (.int 9))) mNil)))) (gNm 1)) q__law_part_2)
noncomputable def m__law_part : List D → Sto → Rs D := runI 2 b__law_part
abbrev N__law_part : List PySem.Str := ["_law_jar_here", "_law_found"]
abbrev P__law_part : List PySem.Str := ["_law_jar_here"]
abbrev S__law_part : List Ev.Shape := []
theorem sc__law_part : FnScope N__law_part P__law_part (defScope (top 29)) := ⟨rfl, rfl, rfl, by decide +kernel, rfl, by decide +kernel, by decide +kernel⟩
theorem d__law_part {P : Program} {w : World} {K : PySem.W.Frag} {mg : PySem.Str → Option Value} {base : Heap} {f : Addr} {fd : FuncData} (fx : Fx K mg) (F : FunD K "_law_part" "_law_part" (defArgs (top 29)) (defBody (top 29)) (defScope (top 29)) [] [] f fd) (hm : mg "_law_part" = some (.ref f)) (h__law_dip : DefI P w K mg base 5 "_law_dip" P__law_dip m__law_dip S__law_dip) (h__law_one_of : DefI P w K mg base 6 "_law_one_of" P__law_one_of m__law_one_of S__law_one_of) : DefI P w K mg base 7 "_law_part" P__law_part m__law_part S__law_part := by
  refine DefI.of F hm sc__law_part (F.bindsN fun _ _ _ _ _ _ us hl => match us, hl with | [_], _ => rfl) kws_nil fun cdv A outer s H E hr => ?_
  have tk : L2.Takes (cxOf (L2.CX P w) P w K mg base N__law_part "_law_part" (defScope (top 29)) f cdv A outer s H E) (WD E) := takes_of rfl rfl rfl rfl
  have hp : PassesOwn (model P w) (A.deeper (PyProof.Rows.envOfC "_law_part" (defScope (top 29)) s.heap.objs.size f cdv)) (PyProof.Rows.envOfC "_law_part" (defScope (top 29)) s.heap.objs.size f cdv) (cxOf (L2.CX P w) P w K mg base N__law_part "_law_part" (defScope (top 29)) f cdv A outer s H E).xe := passes_of rfl
  have hN : N__law_part.Nodup := sc__law_part.nd
  have hc : (cxOf (L2.CX P w) P w K mg base N__law_part "_law_part" (defScope (top 29)) f cdv A outer s H E).calm = true := rfl
  have hu := hr.r.units
  exact (sss_cons (ss_asg (se_op op_sAdd (se_op op_sMul (se_callI h__law_dip hr (by decide) tk (sa_cons (se_var 0) (sa_cons (se_op op_sPow se_int se_int) sa_nil))) (se_op op_sPow se_int se_int)) (se_callI h__law_dip hr (by decide) tk (sa_cons (se_var 0) (sa_cons (se_op op_sPow se_int se_int) sa_nil)))) (sg_name 1 hN)) (sss_one (ss_ret (se_callI h__law_one_of hr (by decide) tk (sa_cons (se_var 0) (sa_cons (se_lst (sa_cons se_int (sa_cons se_int (sa_cons (se_neg se_int) (sa_cons (se_op op_sSub (se_callI h__law_dip hr (by decide) tk (sa_cons (se_var 0) (sa_cons se_int sa_nil))) se_int) (sa_cons (se_var 1) (sa_cons (se_neg (se_var 1)) (sa_cons (se_op op_sPow se_int se_int) (sa_cons (se_neg (se_op op_sPow se_int se_int)) sa_nil))))))))) sa_nil))))))

noncomputable def q__law_right_18 : MS := (mIfS (mOrT (mTru (mCallP 3 m_is_less (mCons (mVar 2) (mCons (mVar 5) (mCons (mVar 5) mNil))))) (mAndT (mTru (mCallP 3 m_is_less (mCons (mVar 2) (mCons (mVar 5) (mCons (mVar 7) mNil))))) (mTru (mCallP 3 m_is_less (mCons (mVar 2) (mCons (mVar 7) (mCons (mVar 5) mNil))))))) (mRet (mC (.bl false))) mSkip)
noncomputable def q__law_right_16 : MS := (mSeq (mIfS (mBs (mOp sNe (mCB sRepr (mCons (mLst (mCons (mCallP 3 m_is_less (mCons (mVar 2) (mCons (mVar 5) (mCons (mVar 7) mNil)))) (mCons (mCallP 3 m_is_less (mKw 0 3 [2, 1, 0] mNil (mCons (mVar 7) (mCons (mVar 5) (mCons (mVar 2) mNil))))) mNil))) mNil)) (mCB sRepr (mCons (mLst (mCons (mVar 8) (mCons (mVar 8) mNil))) mNil)))) (mRet (mC (.bl false))) mSkip) q__law_right_18)
noncomputable def q__law_right_15 : MS := (mSeq (mAsg (mCallP 3 m__law_under (mCons (mOp sSub (mOp sMul (mOp sIx (mVar 5) (mC (.int 0))) (mOp sIx (mVar 7) (mC (.int 2)))) (mOp sMul (mOp sIx (mVar 7) (mC (.int 0))) (mOp sIx (mVar 5) (mC (.int 2))))) (mCons (mOp sSub (mOp sMul (mOp sIx (mVar 5) (mC (.int 1))) (mOp sIx (mVar 7) (mC (.int 2)))) (mOp sMul (mOp sIx (mVar 7) (mC (.int 1))) (mOp sIx (mVar 5) (mC (.int 2))))) (mCons (mVar 2) mNil)))) (gNm 8)) q__law_right_16)
noncomputable def q__law_right_13 : MS := (mSeq (mIfS (mBs (mOp sEq (mCallI 2 m__law_dip (mCons (mVar 0) (mCons (mC (.int 4)) mNil))) (mC (.int 0)))) (mAsg (mCallI 2 m__law_one_of (mCons (mVar 0) (mCons (mLst (mCons (mVar 5) (mCons (mCallP 3 m_lowest (mCons (mOp sFdiv (mOp sIx (mVar 5) (mC (.int 0))) (mC (.int 2))) (mCons (mOp sFdiv (mOp sIx (mVar 5) (mC (.int 1))) (mC (.int 2))) (mCons (mOp sAdd (mC (.int 1)) (mOp sFdiv (mOp sIx (mVar 5) (mC (.int 2))) (mC (.int 2)))) mNil)))) mNil))) mNil))) (gNm 7)) mSkip) q__law_right_15)
noncomputable def q__law_right_12 : MS := (mSeq (mAsg (mCallP 3 m_lowest (mCons (mCallI 1 m__law_part (mCons (mVar 0) mNil)) (mCons (mCallI 1 m__law_part (mCons (mVar 0) mNil)) (mCons (mOp sAdd (mC (.int 1)) (mOp sFdiv (mCB sAbs (mCons (mCallI 1 m__law_part (mCons (mVar 0) mNil)) mNil)) (mC (.int 2)))) mNil)))) (gNm 7)) q__law_right_13)
noncomputable def q__law_right_10 : MS := (mSeq (mIfS (mBs (mOp sNe (mCB sRepr (mCons (mLst (mCons (mCallP 2 m_whole_part (mCons (mVar 2) (mCons (mVar 5) mNil))) (mCons (mCallP 2 m_whole_part (mKw 0 2 [1, 0] mNil (mCons (mVar 5) (mCons (mVar 2) mNil)))) mNil))) mNil)) (mCB sRepr (mCons (mLst (mCons (mVar 6) (mCons (mVar 6) mNil))) mNil)))) (mRet (mC (.bl false))) mSkip) q__law_right_12)
noncomputable def q__law_right_9 : MS := (mSeq (mAsg (mCallP 4 m__law_floor (mCons (mVar 2) (mCons (mOp sIx (mVar 5) (mC (.int 0))) (mCons (mOp sIx (mVar 5) (mC (.int 1))) (mCons (mOp sIx (mVar 5) (mC (.int 2))) mNil))))) (gNm 6)) q__law_right_10)
noncomputable def q__law_right_7 : MS := (mSeq (mIfS (mBs (mOp sNe (mCB sRepr (mCons (mLst (mCons (mCallP 3 m_lowest (mCons (mVar 9) (mCons (mVar 10) (mCons (mVar 3) mNil)))) (mCons (mCallP 3 m_lowest (mKw 0 3 [2, 1, 0] mNil (mCons (mVar 3) (mCons (mVar 10) (mCons (mVar 9) mNil))))) mNil))) mNil)) (mCB sRepr (mCons (mLst (mCons (mVar 5) (mCons (mVar 5) mNil))) mNil)))) (mRet (mC (.bl false))) mSkip) q__law_right_9)
noncomputable def q__law_right_6 : MS := (mSeq (mAsg (mTup (mCons (mOp sFdiv (mVar 9) (mVar 4)) (mCons (mOp sFdiv (mVar 10) (mVar 4)) (mCons (mOp sFdiv (mVar 3) (mVar 4)) mNil)))) (gNm 5)) q__law_right_7)
noncomputable def q__law_right_5 : MS := (mSeq (mAsg (mOp sMul (mCallP 2 m__law_gcd (mCons (mCallP 2 m__law_gcd (mCons (mVar 9) (mCons (mVar 10) mNil))) (mCons (mVar 3) mNil))) (mIf (mBs (mOp sGt (mVar 3) (mC (.int 0)))) (mC (.int 1)) (sUn sNeg (mC (.int 1))))) (gNm 4)) q__law_right_6)
noncomputable def q__law_right_4 : MS := (mSeq (mAsg (mIf (mBs (mOp sNe (mVar 3) (mC (.int 0)))) (mVar 3) (mC (.int 12))) (gNm 3)) q__law_right_5)
noncomputable def q__law_right_3 : MS := (mSeq (mPar3 9 10 3 (mCons (mCallI 1 m__law_part (mCons (mVar 0) mNil)) (mCons (mCallI 1 m__law_part (mCons (mVar 0) mNil)) (mCons (mCallI 1 m__law_part (mCons (mVar 0) mNil)) mNil)))) q__law_right_4)
noncomputable def fb__law_right_1 : MS := (mSeq (mAsg (mCallI 2 m__law_one_of (mCons (mVar 0) (mCons (mLst (mCons (mC (.int 2)) (mCons (mC (.int 3)) (mCons (mC (.int 5)) (mCons (mC (.int 6)) (mCons (mC (.int 7)) (mCons (mC (.int 8)) (mCons (mC (.int 10)) (mCons (mC (.int 13)) (mCons (mC (.int 17)) (mCons (mC (.int 24)) (mCons (mC (.int 26)) (mCons (mC (.int 30)) mNil))))))))))))) mNil))) (gNm 2)) q__law_right_3)
noncomputable def q__law_right_20 : MS := (mRet (mC (.bl true)))
noncomputable def b__law_right : MS := (mSeq (mFor (mRng1 (mCons (mC (.int 12)) mNil)) (gNm 1) fb__law_right_1) q__law_right_20)
noncomputable def m__law_right : List D → Sto → Rs D := runI 11 b__law_right
abbrev N__law_right : List PySem.Str := ["_law_jar_here", "_law_turn", "_law_root", "_law_n", "_law_common", "_law_due", "_law_whole", "_law_other", "_law_below", "_law_p", "_law_q"]
abbrev P__law_right : List PySem.Str := ["_law_jar_here"]
abbrev S__law_right : List Ev.Shape := []
theorem sc__law_right : FnScope N__law_right P__law_right (defScope (top 30)) := ⟨rfl, rfl, rfl, by decide +kernel, rfl, by decide +kernel, by decide +kernel⟩
theorem d__law_right {P : Program} {w : World} {K : PySem.W.Frag} {mg : PySem.Str → Option Value} {base : Heap} {f : Addr} {fd : FuncData} (fx : Fx K mg) (F : FunD K "_law_right" "_law_right" (defArgs (top 30)) (defBody (top 30)) (defScope (top 30)) [] [] f fd) (hm : mg "_law_right" = some (.ref f)) (h__law_dip : DefI P w K mg base 5 "_law_dip" P__law_dip m__law_dip S__law_dip) (h__law_floor : DefP P w K mg base 6 "_law_floor" P__law_floor m__law_floor S__law_floor) (h__law_gcd : DefP P w K mg base 5 "_law_gcd" P__law_gcd m__law_gcd S__law_gcd) (h__law_one_of : DefI P w K mg base 6 "_law_one_of" P__law_one_of m__law_one_of S__law_one_of) (h__law_part : DefI P w K mg base 7 "_law_part" P__law_part m__law_part S__law_part) (h__law_under : DefP P w K mg base 5 "_law_under" P__law_under m__law_under S__law_under) (h_is_less : DefP P w K mg base 9 "is_less" P_is_less m_is_less S_is_less) (h_lowest : DefP P w K mg base 7 "lowest" P_lowest m_lowest S_lowest) (h_whole_part : DefP P w K mg base 9 "whole_part" P_whole_part m_whole_part S_whole_part) : DefI P w K mg base 10 "_law_right" P__law_right m__law_right S__law_right := by
  refine DefI.of F hm sc__law_right (F.bindsN fun _ _ _ _ _ _ us hl => match us, hl with | [_], _ => rfl) kws_nil fun cdv A outer s H E hr => ?_
  have tk : L2.Takes (cxOf (L2.CX P w) P w K mg base N__law_right "_law_right" (defScope (top 30)) f cdv A outer s H E) (WD E) := takes_of rfl rfl rfl rfl
  have hp : PassesOwn (model P w) (A.deeper (PyProof.Rows.envOfC "_law_right" (defScope (top 30)) s.heap.objs.size f cdv)) (PyProof.Rows.envOfC "_law_right" (defScope (top 30)) s.heap.objs.size f cdv) (cxOf (L2.CX P w) P w K mg base N__law_right "_law_right" (defScope (top 30)) f cdv A outer s H E).xe := passes_of rfl
  have hN : N__law_right.Nodup := sc__law_right.nd
  have hc : (cxOf (L2.CX P w) P w K mg base N__law_right "_law_right" (defScope (top 30)) f cdv A outer s H E).calm = true := rfl
  have hu := hr.r.units
  exact (sss_cons (ss_for hp hc (si_range1 fx.f_range (sa_cons se_int sa_nil)) (sg_name 1 hN) (sss_cons (ss_asg (se_callI h__law_one_of hr (by decide) tk (sa_cons (se_var 0) (sa_cons (se_lst (sa_cons se_int (sa_cons se_int (sa_cons se_int (sa_cons se_int (sa_cons se_int (sa_cons se_int (sa_cons se_int (sa_cons se_int (sa_cons se_int (sa_cons se_int (sa_cons se_int (sa_cons se_int sa_nil))))))))))))) sa_nil))) (sg_name 2 hN)) (sss_cons (ss_par3 9 10 3 hc hN (sa_cons (se_callI h__law_part hr (by decide) tk (sa_cons (se_var 0) sa_nil)) (sa_cons (se_callI h__law_part hr (by decide) tk (sa_cons (se_var 0) sa_nil)) (sa_cons (se_callI h__law_part hr (by decide) tk (sa_cons (se_var 0) sa_nil)) sa_nil)))) (sss_cons (ss_asg (se_ifExp (st_cmp (op_sNe hu) (se_var 3) se_int) (se_var 3) se_int) (sg_name 3 hN)) (sss_cons (ss_asg (se_op op_sMul (se_callP h__law_gcd hr (by decide) tk (sa_cons (se_callP h__law_gcd hr (by decide) tk (sa_cons (se_var 9) (sa_cons (se_var 10) sa_nil))) (sa_cons (se_var 3) sa_nil))) (se_ifExp (st_cmp op_sGt (se_var 3) se_int) se_int (se_neg se_int))) (sg_name 4 hN)) (sss_cons (ss_asg (se_tup (sa_cons (se_op op_sFdiv (se_var 9) (se_var 4)) (sa_cons (se_op op_sFdiv (se_var 10) (se_var 4)) (sa_cons (se_op op_sFdiv (se_var 3) (se_var 4)) sa_nil)))) (sg_name 5 hN)) (sss_cons (ss_if (st_cmp (op_sNe hu) (se_callB (call_sRepr hr) fx.f_repr bt_repr (sa_cons (se_lst (sa_cons (se_callP h_lowest hr (by decide) tk (sa_cons (se_var 9) (sa_cons (se_var 10) (sa_cons (se_var 3) sa_nil)))) (sa_cons (se_callPK0 h_lowest (.head _) hr (by decide) tk (sk_cons (se_var 3) (sk_cons (se_var 10) (sk_cons (se_var 9) sk_nil)))) sa_nil))) sa_nil)) (se_callB (call_sRepr hr) fx.f_repr bt_repr (sa_cons (se_lst (sa_cons (se_var 5) (sa_cons (se_var 5) sa_nil))) sa_nil))) (sss_one (ss_ret se_bl)) sss_nil) (sss_cons (ss_asg (se_callP h__law_floor hr (by decide) tk (sa_cons (se_var 2) (sa_cons (se_ix (se_var 5) se_int) (sa_cons (se_ix (se_var 5) se_int) (sa_cons (se_ix (se_var 5) se_int) sa_nil))))) (sg_name 6 hN)) (sss_cons (ss_if (st_cmp (op_sNe hu) (se_callB (call_sRepr hr) fx.f_repr bt_repr (sa_cons (se_lst (sa_cons (se_callP h_whole_part hr (by decide) tk (sa_cons (se_var 2) (sa_cons (se_var 5) sa_nil))) (sa_cons (se_callPK0 h_whole_part (.head _) hr (by decide) tk (sk_cons (se_var 5) (sk_cons (se_var 2) sk_nil))) sa_nil))) sa_nil)) (se_callB (call_sRepr hr) fx.f_repr bt_repr (sa_cons (se_lst (sa_cons (se_var 6) (sa_cons (se_var 6) sa_nil))) sa_nil))) (sss_one (ss_ret se_bl)) sss_nil) (sss_cons (ss_asg (se_callP h_lowest hr (by decide) tk (sa_cons (se_callI h__law_part hr (by decide) tk (sa_cons (se_var 0) sa_nil)) (sa_cons (se_callI h__law_part hr (by decide) tk (sa_cons (se_var 0) sa_nil)) (sa_cons (se_op op_sAdd se_int (se_op op_sFdiv (se_callB call_sAbs fx.f_abs bt_abs (sa_cons (se_callI h__law_part hr (by decide) tk (sa_cons (se_var 0) sa_nil)) sa_nil)) se_int)) sa_nil)))) (sg_name 7 hN)) (sss_cons (ss_if (st_cmp (op_sEq hu) (se_callI h__law_dip hr (by decide) tk (sa_cons (se_var 0) (sa_cons se_int sa_nil))) se_int) (sss_one (ss_asg (se_callI h__law_one_of hr (by decide) tk (sa_cons (se_var 0) (sa_cons (se_lst (sa_cons (se_var 5) (sa_cons (se_callP h_lowest hr (by decide) tk (sa_cons (se_op op_sFdiv (se_ix (se_var 5) se_int) se_int) (sa_cons (se_op op_sFdiv (se_ix (se_var 5) se_int) se_int) (sa_cons (se_op op_sAdd se_int (se_op op_sFdiv (se_ix (se_var 5) se_int) se_int)) sa_nil)))) sa_nil))) sa_nil))) (sg_name 7 hN))) sss_nil) (sss_cons (ss_asg (se_callP h__law_under hr (by decide) tk (sa_cons (se_op op_sSub (se_op op_sMul (se_ix (se_var 5) se_int) (se_ix (se_var 7) se_int)) (se_op op_sMul (se_ix (se_var 7) se_int) (se_ix (se_var 5) se_int))) (sa_cons (se_op op_sSub (se_op op_sMul (se_ix (se_var 5) se_int) (se_ix (se_var 7) se_int)) (se_op op_sMul (se_ix (se_var 7) se_int) (se_ix (se_var 5) se_int))) (sa_cons (se_var 2) sa_nil)))) (sg_name 8 hN)) (sss_cons (ss_if (st_cmp (op_sNe hu) (se_callB (call_sRepr hr) fx.f_repr bt_repr (sa_cons (se_lst (sa_cons (se_callP h_is_less hr (by decide) tk (sa_cons (se_var 2) (sa_cons (se_var 5) (sa_cons (se_var 7) sa_nil)))) (sa_cons (se_callPK0 h_is_less (.head _) hr (by decide) tk (sk_cons (se_var 7) (sk_cons (se_var 5) (sk_cons (se_var 2) sk_nil)))) sa_nil))) sa_nil)) (se_callB (call_sRepr hr) fx.f_repr bt_repr (sa_cons (se_lst (sa_cons (se_var 8) (sa_cons (se_var 8) sa_nil))) sa_nil))) (sss_one (ss_ret se_bl)) sss_nil) (sss_one (ss_if ((sw_or (st_truth (se_callP h_is_less hr (by decide) tk (sa_cons (se_var 2) (sa_cons (se_var 5) (sa_cons (se_var 5) sa_nil))))) (sw_one_or ((sw_and (st_truth (se_callP h_is_less hr (by decide) tk (sa_cons (se_var 2) (sa_cons (se_var 5) (sa_cons (se_var 7) sa_nil))))) (sw_one_and (st_truth (se_callP h_is_less hr (by decide) tk (sa_cons (se_var 2) (sa_cons (se_var 7) (sa_cons (se_var 5) sa_nil)))))))).pt))).pt (sss_one (ss_ret se_bl)) sss_nil))))))))))))))) (sss_one (ss_ret se_bl)))

abbrev ow_law_0 : List (PySem.Str × Nat) := [("_law_turn", 1)]
noncomputable def b_law : MS := (mRet (mCB sAll (mCons (mLC (mRng1 (mCons (mCB sMax (mCons (mC (.int 2)) (mCons (mCB sMin (mCons (mCB sLen (mCons (mVar 0) mNil)) (mCons (mC (.int 6)) mNil))) mNil))) mNil)) (gNm 1) mYes (mCallI 1 m__law_right (mCons (mCallI 2 m__law_jar (mCons (mVar 0) (mCons (mVar 1) mNil))) mNil)) (ow_law_0.map (·.2))) mNil)))
noncomputable def m_law : List D → Pr := runP 2 b_law
abbrev N_law : List PySem.Str := ["_law_cells", "_law_turn"]
abbrev P_law : List PySem.Str := ["_law_cells"]
abbrev S_law : List Ev.Shape := []
theorem sc_law : FnScope N_law P_law (defScope (top 31)) := ⟨rfl, rfl, rfl, by decide +kernel, rfl, by decide +kernel, by decide +kernel⟩
theorem d_law {P : Program} {w : World} {K : PySem.W.Frag} {mg : PySem.Str → Option Value} {base : Heap} {f : Addr} {fd : FuncData} (fx : Fx K mg) (F : FunD K "law" "law" (defArgs (top 31)) (defBody (top 31)) (defScope (top 31)) [] [] f fd) (hm : mg "law" = some (.ref f)) (h__law_jar : DefI P w K mg base 5 "_law_jar" P__law_jar m__law_jar S__law_jar) (h__law_right : DefI P w K mg base 10 "_law_right" P__law_right m__law_right S__law_right) : DefP P w K mg base 11 "law" P_law m_law S_law := by
  refine DefP.of F hm sc_law (F.bindsN fun _ _ _ _ _ _ us hl => match us, hl with | [_], _ => rfl) kws_nil fun cdv A outer s H E hr => ?_
  have tk : L2.Takes (cxOf (L2.CX P w) P w K mg base N_law "law" (defScope (top 31)) f cdv A outer s H E) (WD E) := takes_of rfl rfl rfl rfl
  have hp : PassesOwn (model P w) (A.deeper (PyProof.Rows.envOfC "law" (defScope (top 31)) s.heap.objs.size f cdv)) (PyProof.Rows.envOfC "law" (defScope (top 31)) s.heap.objs.size f cdv) (cxOf (L2.CX P w) P w K mg base N_law "law" (defScope (top 31)) f cdv A outer s H E).xe := passes_of rfl
  have hN : N_law.Nodup := sc_law.nd
  have hc : (cxOf (L2.CX P w) P w K mg base N_law "law" (defScope (top 31)) f cdv A outer s H E).calm = true := rfl
  have hu := hr.r.units
  exact (sss_one (ss_ret (se_callB (call_sAll hc) fx.f_all bt_all (sa_cons (se_lc hc hN (si_range1 fx.f_range (sa_cons (se_callB (call_sMax hc) fx.f_max bt_max (sa_cons se_int (sa_cons (se_callB (call_sMin hc) fx.f_min bt_min (sa_cons (se_callB call_sLen fx.f_len bt_len (sa_cons (se_var 0) sa_nil)) (sa_cons se_int sa_nil))) sa_nil))) sa_nil)) (own := ow_law_0) (BlkOk.of (by rfl)) (fun _ _ _ _ _ => (sg_name 1 hN)) (fun _ _ _ _ _ => sts_nil) (fun _ _ _ _ _ => (se_callI h__law_right hr (by decide) takes0 (sa_cons (se_callI h__law_jar hr (by decide) takes0 (sa_cons (se_var 0) (sa_cons (se_var 1) sa_nil))) sa_nil)))) sa_nil))))
end K02

namespace K02
open PySem PySem.Spec L2 Ev
def names0 : List PySem.Str := ["WrongValue", "InvalidNumber", "InvalidRoot", "is_integer", "is_between", "common_divisor", "square_root", "MOST_ROOT", "MOST_PART", "is_root", "check_root", "lowest_of", "is_number", "check_number", "floor_of", "is_below"]
def names1 : List PySem.Str := ["whole_part", "is_less", "lowest", "_law_dip", "_law_one_of", "_law_under", "_law_floor", "_law_jar", "_law_gcd", "_law_part", "_law_right"]
def names : List PySem.Str := names0 ++ names1
def df_is_integer : He.DefD := ⟨("is_integer", none), "is_integer", "is_integer", defArgs (top 5), defBody (top 5), defScope (top 5), [], []⟩
def df_is_between : He.DefD := ⟨("is_between", none), "is_between", "is_between", defArgs (top 6), defBody (top 6), defScope (top 6), [], []⟩
def df_common_divisor : He.DefD := ⟨("common_divisor", none), "common_divisor", "common_divisor", defArgs (top 7), defBody (top 7), defScope (top 7), [], []⟩
def df_square_root : He.DefD := ⟨("square_root", none), "square_root", "square_root", defArgs (top 8), defBody (top 8), defScope (top 8), [], []⟩
def df_is_root : He.DefD := ⟨("is_root", none), "is_root", "is_root", defArgs (top 12), defBody (top 12), defScope (top 12), [], []⟩
def df_check_root : He.DefD := ⟨("check_root", none), "check_root", "check_root", defArgs (top 13), defBody (top 13), defScope (top 13), [], []⟩
def df_lowest_of : He.DefD := ⟨("lowest_of", none), "lowest_of", "lowest_of", defArgs (top 14), defBody (top 14), defScope (top 14), [], []⟩
def df_is_number : He.DefD := ⟨("is_number", none), "is_number", "is_number", defArgs (top 15), defBody (top 15), defScope (top 15), [], []⟩
def df_check_number : He.DefD := ⟨("check_number", none), "check_number", "check_number", defArgs (top 16), defBody (top 16), defScope (top 16), [], []⟩
def df_floor_of : He.DefD := ⟨("floor_of", none), "floor_of", "floor_of", defArgs (top 17), defBody (top 17), defScope (top 17), [], []⟩
def df_is_below : He.DefD := ⟨("is_below", none), "is_below", "is_below", defArgs (top 18), defBody (top 18), defScope (top 18), [], []⟩
def df_whole_part : He.DefD := ⟨("whole_part", none), "whole_part", "whole_part", defArgs (top 19), defBody (top 19), defScope (top 19), [], []⟩
def df_is_less : He.DefD := ⟨("is_less", none), "is_less", "is_less", defArgs (top 20), defBody (top 20), defScope (top 20), [], []⟩
def df_lowest : He.DefD := ⟨("lowest", none), "lowest", "lowest", defArgs (top 21), defBody (top 21), defScope (top 21), [], []⟩
def df__law_dip : He.DefD := ⟨("_law_dip", none), "_law_dip", "_law_dip", defArgs (top 23), defBody (top 23), defScope (top 23), [], []⟩
def df__law_one_of : He.DefD := ⟨("_law_one_of", none), "_law_one_of", "_law_one_of", defArgs (top 24), defBody (top 24), defScope (top 24), [], []⟩
def df__law_under : He.DefD := ⟨("_law_under", none), "_law_under", "_law_under", defArgs (top 25), defBody (top 25), defScope (top 25), [], []⟩
def df__law_floor : He.DefD := ⟨("_law_floor", none), "_law_floor", "_law_floor", defArgs (top 26), defBody (top 26), defScope (top 26), [], []⟩
def df__law_jar : He.DefD := ⟨("_law_jar", none), "_law_jar", "_law_jar", defArgs (top 27), defBody (top 27), defScope (top 27), [], []⟩
def df__law_gcd : He.DefD := ⟨("_law_gcd", none), "_law_gcd", "_law_gcd", defArgs (top 28), defBody (top 28), defScope (top 28), [], []⟩
def df__law_part : He.DefD := ⟨("_law_part", none), "_law_part", "_law_part", defArgs (top 29), defBody (top 29), defScope (top 29), [], []⟩
def df__law_right : He.DefD := ⟨("_law_right", none), "_law_right", "_law_right", defArgs (top 30), defBody (top 30), defScope (top 30), [], []⟩
def df_law : He.DefD := ⟨("law", none), "law", "law", defArgs (top 31), defBody (top 31), defScope (top 31), [], []⟩
def fn : List He.DefD := [df_is_integer, df_is_between, df_common_divisor, df_square_root, df_is_root, df_check_root, df_lowest_of, df_is_number, df_check_number, df_floor_of, df_is_below, df_whole_part, df_is_less, df_lowest, df__law_dip, df__law_one_of, df__law_under, df__law_floor, df__law_jar, df__law_gcd, df__law_part, df__law_right, df_law]
def fa : List He.Fa := [.glo "is_integer", .glo "is_between", .glo "common_divisor", .glo "square_root", .glo "is_root", .glo "check_root", .glo "lowest_of", .glo "is_number", .glo "check_number", .glo "floor_of", .glo "is_below", .glo "whole_part", .glo "is_less", .glo "lowest", .glo "_law_dip", .glo "_law_one_of", .glo "_law_under", .glo "_law_floor", .glo "_law_jar", .glo "_law_gcd", .glo "_law_part", .glo "_law_right", .glo "law", .free "abs", .free "all", .free "bool", .free "divmod", .free "int", .free "isinstance", .free "len", .free "list", .free "max", .free "min", .free "range", .free "repr", .free "str", .free "tuple", .int "MOST_ROOT" (30), .int "MOST_PART" (1000000000000000000000000000000)]
abbrev R : PySem.W.OpenRow := PySem.W.OpenLaw.row PySem.Challenge.rw_stoprows_k02_whole_numbers_with_roots
abbrev hk : PySem.W.Hook := He.hookD 4 fa fn
def ob (s : PySem.W.SharedT) : He.AlD := He.obsDG 4 fa fn (HandSHeadRun.getT s)
theorem ob_eq (s : PySem.W.SharedT) : ob s = hk.obs s.abs := He.obsDG_eq (HandSHeadRun.getT_eq s)
theorem run (w : World) : HandSHeadRun.RunEq R (PySem.W.view R.prog [31]) hk ob 4000 names w := by
  intro os
  kernel_rfl
theorem facts {P : Program} {w : World} {K : PySem.W.Frag} {h : Heap} {mg : PySem.Str → Option Value} (X : K.In h) (G : h.Ns mainGlobals mg) (c : He.SaysD fa fn K) (base : Heap) : DefP P w K mg base 11 "law" P_law m_law S_law := by
  have fx : Fx K mg := {
    z := trivial
    f_abs := He.free_ok X G (c.fact 23 (f := .free "abs") rfl)
    f_all := He.free_ok X G (c.fact 24 (f := .free "all") rfl)
    f_bool := He.free_ok X G (c.fact 25 (f := .free "bool") rfl)
    f_divmod := He.free_ok X G (c.fact 26 (f := .free "divmod") rfl)
    f_int := He.free_ok X G (c.fact 27 (f := .free "int") rfl)
    f_isinstance := He.free_ok X G (c.fact 28 (f := .free "isinstance") rfl)
    f_len := He.free_ok X G (c.fact 29 (f := .free "len") rfl)
    f_list := He.free_ok X G (c.fact 30 (f := .free "list") rfl)
    f_max := He.free_ok X G (c.fact 31 (f := .free "max") rfl)
    f_min := He.free_ok X G (c.fact 32 (f := .free "min") rfl)
    f_range := He.free_ok X G (c.fact 33 (f := .free "range") rfl)
    f_repr := He.free_ok X G (c.fact 34 (f := .free "repr") rfl)
    f_str := He.free_ok X G (c.fact 35 (f := .free "str") rfl)
    f_tuple := He.free_ok X G (c.fact 36 (f := .free "tuple") rfl)
    k_MOST_ROOT := KD.ofInt (He.int_ok X G (c.fact 37 (f := .int "MOST_ROOT" (30)) rfl))
    k_MOST_PART := KD.ofInt (He.int_ok X G (c.fact 38 (f := .int "MOST_PART" (1000000000000000000000000000000)) rfl))
  }
  obtain ⟨_, F_is_integer⟩ := c.def_ 0 (d := df_is_integer) rfl
  have h_is_integer := d_is_integer (P := P) (w := w) (base := base) fx F_is_integer (He.glo_ok X G (c.fact 0 (f := .glo "is_integer") rfl)) 
  obtain ⟨_, F_is_between⟩ := c.def_ 1 (d := df_is_between) rfl
  have h_is_between := d_is_between (P := P) (w := w) (base := base) fx F_is_between (He.glo_ok X G (c.fact 1 (f := .glo "is_between") rfl)) h_is_integer
  obtain ⟨_, F_common_divisor⟩ := c.def_ 2 (d := df_common_divisor) rfl
  have h_common_divisor := d_common_divisor (P := P) (w := w) (base := base) fx F_common_divisor (He.glo_ok X G (c.fact 2 (f := .glo "common_divisor") rfl)) 
  obtain ⟨_, F_square_root⟩ := c.def_ 3 (d := df_square_root) rfl
  have h_square_root := d_square_root (P := P) (w := w) (base := base) fx F_square_root (He.glo_ok X G (c.fact 3 (f := .glo "square_root") rfl)) 
  obtain ⟨_, F_is_root⟩ := c.def_ 4 (d := df_is_root) rfl
  have h_is_root := d_is_root (P := P) (w := w) (base := base) fx F_is_root (He.glo_ok X G (c.fact 4 (f := .glo "is_root") rfl)) h_is_between h_square_root
  obtain ⟨_, F_check_root⟩ := c.def_ 5 (d := df_check_root) rfl
  have h_check_root := d_check_root (P := P) (w := w) (base := base) fx F_check_root (He.glo_ok X G (c.fact 5 (f := .glo "check_root") rfl)) h_is_root
  obtain ⟨_, F_lowest_of⟩ := c.def_ 6 (d := df_lowest_of) rfl
  have h_lowest_of := d_lowest_of (P := P) (w := w) (base := base) fx F_lowest_of (He.glo_ok X G (c.fact 6 (f := .glo "lowest_of") rfl)) h_common_divisor
  obtain ⟨_, F_is_number⟩ := c.def_ 7 (d := df_is_number) rfl
  have h_is_number := d_is_number (P := P) (w := w) (base := base) fx F_is_number (He.glo_ok X G (c.fact 7 (f := .glo "is_number") rfl)) h_is_between h_lowest_of
  obtain ⟨_, F_check_number⟩ := c.def_ 8 (d := df_check_number) rfl
  have h_check_number := d_check_number (P := P) (w := w) (base := base) fx F_check_number (He.glo_ok X G (c.fact 8 (f := .glo "check_number") rfl)) h_is_number
  obtain ⟨_, F_floor_of⟩ := c.def_ 9 (d := df_floor_of) rfl
  have h_floor_of := d_floor_of (P := P) (w := w) (base := base) fx F_floor_of (He.glo_ok X G (c.fact 9 (f := .glo "floor_of") rfl)) h_square_root
  obtain ⟨_, F_is_below⟩ := c.def_ 10 (d := df_is_below) rfl
  have h_is_below := d_is_below (P := P) (w := w) (base := base) fx F_is_below (He.glo_ok X G (c.fact 10 (f := .glo "is_below") rfl)) h_floor_of
  obtain ⟨_, F_whole_part⟩ := c.def_ 11 (d := df_whole_part) rfl
  have h_whole_part := d_whole_part (P := P) (w := w) (base := base) fx F_whole_part (He.glo_ok X G (c.fact 11 (f := .glo "whole_part") rfl)) h_check_number h_check_root h_floor_of
  obtain ⟨_, F_is_less⟩ := c.def_ 12 (d := df_is_less) rfl
  have h_is_less := d_is_less (P := P) (w := w) (base := base) fx F_is_less (He.glo_ok X G (c.fact 12 (f := .glo "is_less") rfl)) h_check_number h_check_root h_is_below
  obtain ⟨_, F_lowest⟩ := c.def_ 13 (d := df_lowest) rfl
  have h_lowest := d_lowest (P := P) (w := w) (base := base) fx F_lowest (He.glo_ok X G (c.fact 13 (f := .glo "lowest") rfl)) h_is_between h_lowest_of
  obtain ⟨_, F__law_dip⟩ := c.def_ 14 (d := df__law_dip) rfl
  have h__law_dip := d__law_dip (P := P) (w := w) (base := base) fx F__law_dip (He.glo_ok X G (c.fact 14 (f := .glo "_law_dip") rfl)) 
  obtain ⟨_, F__law_one_of⟩ := c.def_ 15 (d := df__law_one_of) rfl
  have h__law_one_of := d__law_one_of (P := P) (w := w) (base := base) fx F__law_one_of (He.glo_ok X G (c.fact 15 (f := .glo "_law_one_of") rfl)) h__law_dip
  obtain ⟨_, F__law_under⟩ := c.def_ 16 (d := df__law_under) rfl
  have h__law_under := d__law_under (P := P) (w := w) (base := base) fx F__law_under (He.glo_ok X G (c.fact 16 (f := .glo "_law_under") rfl)) 
  obtain ⟨_, F__law_floor⟩ := c.def_ 17 (d := df__law_floor) rfl
  have h__law_floor := d__law_floor (P := P) (w := w) (base := base) fx F__law_floor (He.glo_ok X G (c.fact 17 (f := .glo "_law_floor") rfl)) h__law_under
  obtain ⟨_, F__law_jar⟩ := c.def_ 18 (d := df__law_jar) rfl
  have h__law_jar := d__law_jar (P := P) (w := w) (base := base) fx F__law_jar (He.glo_ok X G (c.fact 18 (f := .glo "_law_jar") rfl)) 
  obtain ⟨_, F__law_gcd⟩ := c.def_ 19 (d := df__law_gcd) rfl
  have h__law_gcd := d__law_gcd (P := P) (w := w) (base := base) fx F__law_gcd (He.glo_ok X G (c.fact 19 (f := .glo "_law_gcd") rfl)) 
  obtain ⟨_, F__law_part⟩ := c.def_ 20 (d := df__law_part) rfl
  have h__law_part := d__law_part (P := P) (w := w) (base := base) fx F__law_part (He.glo_ok X G (c.fact 20 (f := .glo "_law_part") rfl)) h__law_dip h__law_one_of
  obtain ⟨_, F__law_right⟩ := c.def_ 21 (d := df__law_right) rfl
  have h__law_right := d__law_right (P := P) (w := w) (base := base) fx F__law_right (He.glo_ok X G (c.fact 21 (f := .glo "_law_right") rfl)) h__law_dip h__law_floor h__law_gcd h__law_one_of h__law_part h__law_under h_is_less h_lowest h_whole_part
  obtain ⟨_, F_law⟩ := c.def_ 22 (d := df_law) rfl
  have h_law := d_law (P := P) (w := w) (base := base) fx F_law (He.glo_ok X G (c.fact 22 (f := .glo "law") rfl)) h__law_jar h__law_right
  exact h_law
theorem holds (hg : ∀ ns : List Int, ns.length ≤ 63 → m_law [.rol (ns.map .int)] = .ok (.bl true)) : PySem.Challenge.rw_stoprows_k02_whole_numbers_with_roots.Holds := by
  w_on; o_law
  refine HandSHeadRun.head_any (r := PySem.W.OpenLaw.row PySem.Challenge.rw_stoprows_k02_whole_numbers_with_roots) (q := PySem.W.view (PySem.W.OpenLaw.row PySem.Challenge.rw_stoprows_k02_whole_numbers_with_roots).prog [31]) (H := hk) (ob := ob) (M := 4000) (loose := names) (d := HandSHeadRun.topDef (PySem.W.OpenLaw.row PySem.Challenge.rw_stoprows_k02_whole_numbers_with_roots).prog 31) (kwd := []) ob_eq
    (by kernel_rfl) (fun s => by kernel_rfl) run (by kernel_rfl) (by kernel_rfl) (by kernel_rfl) (by rfl) (by first | assumption | decide +kernel) (by decide +kernel) ⟨rfl, rfl, rfl, rfl, rfl, by decide +kernel⟩ ?hw ?hc
  case hw => w_witness2
  case hc =>
    have en : (HandSHeadRun.topDef (PySem.W.OpenLaw.row PySem.Challenge.rw_stoprows_k02_whole_numbers_with_roots).prog 31).name = ("law" : PySem.Str) := by kernel_rfl
    refine walkG (l := PySem.Challenge.rw_stoprows_k02_whole_numbers_with_roots) (n := 63) (k := 11) (ps := P_law) (g := m_law) rfl (by decide) (by kernel_rfl) ⟨⟨rfl, by decide, by decide⟩, rfl⟩ rfl ?F hg
    intro w mg h Y G
    obtain ⟨K, KX, c⟩ := Y
    exact ⟨K, KX, fun base _ _ => en ▸ facts (P := (PySem.Challenge.rw_stoprows_k02_whole_numbers_with_roots).prog) (w := w) KX G c base⟩
end K02

namespace K02
open PySem L2 Ev Ma
section
variable {S : Sto}
theorem is_integer_i (v : Int) : m_is_integer [.int v] = .ok (.bl true) := by
  apply Pr.eq
  rw [m_is_integer, runP_po]
  simp [b_is_integer, startE]
@[simp] theorem c_is_integer_i (v : Int) : clP 1 m_is_integer [.int v] S = .ok (.bl true) S := clP_eq (is_integer_i v)
theorem is_between_i (v lo hi : Int) : m_is_between [.int v, .int lo, .int hi] = .ok (.bl (decide (lo ≤ v) && decide (v ≤ hi))) := by
  apply Pr.eq
  rw [m_is_between, runP_po]
  simp [b_is_between, startE]
  split <;> omega
@[simp] theorem c_is_between_i (v lo hi : Int) : clP 3 m_is_between [.int v, .int lo, .int hi] S = .ok (.bl (decide (lo ≤ v) && decide (v ≤ hi))) S := clP_eq (is_between_i v lo hi)
/-! common_divisor -/
theorem common_divisor_i {a b : Int} (ha : 0 ≤ a) (hb : 0 ≤ b) : m_common_divisor [.int a, .int b] = .ok (.int (Nat.gcd a.natAbs b.natAbs : Nat)) := by
  apply Pr.eq
  rw [m_common_divisor, runP_po]
  simp only [b_common_divisor, startE, mSeq_fpo]
  refine fpo_mWh (fun n env S => S = [] ∧ ∃ x y : Int, 0 ≤ x ∧ 0 ≤ y ∧ Nat.gcd x.natAbs y.natAbs = Nat.gcd a.natAbs b.natAbs ∧ n = y.natAbs ∧ env = [some (.int x), some (.int y)]) ?_ b.natAbs _ _ ⟨rfl, a, b, ha, hb, rfl, rfl, rfl⟩
  rintro n env S ⟨rfl, x, y, hx, hy, hg, rfl, rfl⟩
  simp [wt_common_divisor_1, wb_common_divisor_1, q_common_divisor_3]
  split
  · rename_i h
    subst h
    simp at hg
    omega
  · rename_i h
    have hm : x.fmod y = x % y := Int.fmod_eq_emod_of_nonneg _ hy
    have h0 := Int.emod_nonneg x h
    have h1 := Int.emod_lt_of_pos x (show 0 < y by omega)
    refine ⟨cNz_b h, (x.fmod y).natAbs, by omega, y, hy, x.fmod y, by omega, ?_, rfl, rfl, rfl⟩
    rw [hm, ← hg, Int.natAbs_emod_of_nonneg hx, Nat.gcd_comm x.natAbs, Nat.gcd_rec y.natAbs x.natAbs, Nat.gcd_comm]
@[simp] theorem c_common_divisor_i {a b : Int} (ha : 0 ≤ a) (hb : 0 ≤ b) : clP 2 m_common_divisor [.int a, .int b] S = .ok (.int (Nat.gcd a.natAbs b.natAbs : Nat)) S := clP_eq (common_divisor_i ha hb)
theorem abs_i (p : Int) : (if p < 0 then -p else p) = (p.natAbs : Int) := by split <;> omega
/-! lowest_of -/
def lowT (p q n : Int) : D := .tup [.int (p / cof p q n), .int (q / cof p q n), .int (n / cof p q n)]
theorem lowest_of_i {p q n : Int} (hn : n ≠ 0) (hb : Bt 8000 n) : m_lowest_of [.int p, .int q, .int n] = .ok (lowT p q n) := by
  apply Pr.eq
  rw [m_lowest_of, runP_po]
  simp [b_lowest_of, q_lowest_of_2, q_lowest_of_3, startE, abs_i]
  have e0 : ((p.natAbs.gcd q.natAbs).gcd n.natAbs : Nat) = g3 p q n := rfl
  rw [e0]
  have c0 := cof_ne (p := p) (q := q) hn
  obtain ⟨d1, d2, d3⟩ := cof_dvd (p := p) (q := q) (n := n)
  have hB : (cof p q n).natAbs < 2 ^ 8000 := by
    rw [cof_abs]
    exact Nat.lt_of_le_of_lt (Nat.le_of_dvd (by omega) g3_dvd.2.2) hb
  unfold lowT
  rw [← fdiv_dvd d1, ← fdiv_dvd d2, ← fdiv_dvd d3]
  split
  · rename_i h
    have e : cof p q n = (g3 p q n : Int) := if_pos h
    rw [e] at c0 hB ⊢
    exact ⟨cDivG_b c0 hB, cDivG_b c0 hB, cDivG_b c0 hB, rfl⟩
  · rename_i h
    have e : cof p q n = -(g3 p q n : Int) := if_neg h
    rw [e] at c0 hB ⊢
    exact ⟨cDivG_b c0 hB, cDivG_b c0 hB, cDivG_b c0 hB, rfl⟩
theorem c_lowest_of_i {p q n : Int} (hn : n ≠ 0) (hb : Bt 8000 n) : clP 3 m_lowest_of [.int p, .int q, .int n] S = .ok (lowT p q n) S := clP_eq (lowest_of_i hn hb)
/-! square_root -/
theorem square_root_i {n : Int} (hn : 0 ≤ n) (hb : Bt 1500 n) : m_square_root [.int n] = .ok (.int (isq n)) := by
  apply Pr.eq
  rw [m_square_root, runP_po]
  simp only [b_square_root, startE, mSeq_fpo]
  simp [q_square_root_2]
  have nb := hb.bd
  refine fpo_mWh (fun k env S => S = [] ∧ ∃ h : Int, 1 ≤ h ∧ h ≤ 2 * n + 1 ∧ k = (n + 1 - h).toNat ∧ env = [some (.int n), some (.int 0), some (.int h), none]) ?_ _ _ _ ⟨rfl, 1, by omega, by omega, rfl, rfl⟩
  rintro k env S ⟨rfl, h, h1, h2, rfl, rfl⟩
  have bh : Bt 1502 h := Bt.of_lt (by omega) (by omega)
  simp [wt_square_root_2, wb_square_root_2, q_square_root_4]
  refine ⟨cMul_b (bh.mono (by decide)) (bh.mono (by decide)), ?_⟩
  split
  · rename_i hc
    have := self_le_sq (show 0 ≤ h by omega)
    refine ⟨cMul_l (by decide), _, ?_, 2 * h, ?_, ?_, rfl, rfl⟩ <;> omega
  · rename_i hc
    refine fpo_mWh (fun k env S => S = [] ∧ ∃ (lo hi : Int) (m : Option D), 0 ≤ lo ∧ lo < hi ∧ hi ≤ h ∧ lo * lo ≤ n ∧ n < hi * hi ∧ k = (hi - lo).toNat ∧ env = [some (.int n), some (.int lo), some (.int hi), m]) ?_ _ _ _ ⟨rfl, 0, h, none, by omega, by omega, by omega, by omega, by omega, rfl, rfl⟩
    rintro k env S ⟨rfl, lo, hi, m, a1, a2, a3, a4, a5, rfl, rfl⟩
    simp [wt_square_root_4, wb_square_root_4, q_square_root_6, q_square_root_10]
    split
    · rename_i hd
      have hm : (lo + hi).fdiv 2 = (lo + hi) / 2 := Int.fdiv_eq_ediv_of_nonneg _ (by decide)
      rw [hm]
      have bm : Bt 1502 ((lo + hi) / 2) := Bt.of_lt (by have := bh.bd; omega) (by have := bh.bd; omega)
      refine ⟨cDivG_b (by decide) (by decide), cMul_b (bm.mono (by decide)) (bm.mono (by decide)), ?_⟩
      split
      · rename_i he
        exact ⟨(hi - (lo + hi) / 2).toNat, by omega, (lo + hi) / 2, by omega, hi, by omega, a3, he, a5, rfl, rfl, rfl⟩
      · rename_i he
        exact ⟨((lo + hi) / 2 - lo).toNat, by omega, lo, a1, (lo + hi) / 2, by omega, by omega, a4, by omega, rfl, rfl, rfl⟩
    · rename_i hd
      have : hi = lo + 1 := by omega
      subst this
      exact IsSq.eq ⟨a1, a4, a5⟩
theorem c_square_root_i {n : Int} (hn : 0 ≤ n) (hb : Bt 1500 n) : clP 1 m_square_root [.int n] S = .ok (.int (isq n)) S := clP_eq (square_root_i hn hb)
/-! roots, numbers -/
theorem is_root_i {v : Int} : m_is_root [.int v] = .ok (.bl (decide (2 ≤ v ∧ v ≤ 30 ∧ isq v * isq v ≠ v))) := by
  apply Pr.eq
  rw [m_is_root, runP_po]
  by_cases h1 : 2 ≤ v ∧ v ≤ 30
  · have b : Bt 10 v := Bt.of_lt (by omega) (by omega)
    have hi := isq_le (show 0 ≤ v by omega)
    have hi0 := isq_nonneg v
    have bi : (isq v).natAbs < 18446744073709551616 := by omega
    simp [b_is_root, startE, h1, c_square_root_i (show 0 ≤ v by omega) (b.mono (by decide)), cMul_l bi]
  · have : ¬ (2 ≤ v ∧ v ≤ 30 ∧ isq v * isq v ≠ v) := fun z => h1 ⟨z.1, z.2.1⟩
    simp [b_is_root, startE, this, h1]
@[simp] theorem c_is_root_i {v : Int} : clP 1 m_is_root [.int v] S = .ok (.bl (decide (2 ≤ v ∧ v ≤ 30 ∧ isq v * isq v ≠ v))) S := clP_eq is_root_i
def Root (r : Int) : Prop := 2 ≤ r ∧ r ≤ 30 ∧ isq r * isq r ≠ r
theorem check_root_i {v : Int} (h : Root v) : m_check_root [.int v] = .ok .non := by
  apply Pr.eq
  rw [m_check_root, runP_po]
  have h' : 2 ≤ v ∧ v ≤ 30 ∧ isq v * isq v ≠ v := h
  simp [b_check_root, startE, h']
theorem c_check_root_i {v : Int} (h : Root v) : clP 1 m_check_root [.int v] S = .ok .non S := clP_eq (check_root_i h)
theorem Root.nosq {r : Int} (h : Root r) : NoSq r := noSq_of (isq_spec (by have := h.1; omega)) h.2.2
structure Num (p q n : Int) : Prop where
  p1 : -1000000000000000000000000000000 ≤ p
  p2 : p ≤ 1000000000000000000000000000000
  q1 : -1000000000000000000000000000000 ≤ q
  q2 : q ≤ 1000000000000000000000000000000
  n1 : 1 ≤ n
  n2 : n ≤ 1000000000000000000000000000000
  one : g3 p q n = 1
theorem Num.low {p q n : Int} (h : Num p q n) : Low p q n := ⟨by have := h.n1; omega, h.one⟩
theorem Num.lowT {p q n : Int} (h : Num p q n) : lowT p q n = .tup [.int p, .int q, .int n] := by
  unfold K02.lowT; rw [h.low.cof]; simp
@[simp] theorem eq_self3 (p q n : Int) : sEq S (.tup [.int p, .int q, .int n]) (.tup [.int p, .int q, .int n]) = some (.bl true) :=
  sEq_same (ps := [.int p, .int q, .int n]) (by simp [pyAll, pyOf]) (by simp [SeqAt.shaped, PyData.canLay0, PyData.canLayAll0, PyData.depth, PyData.depthAll])
theorem Num.bt {p q n : Int} (h : Num p q n) : Bt 100 p ∧ Bt 100 q ∧ Bt 100 n := by
  obtain ⟨a, b, c, d, e, f, _⟩ := h
  exact ⟨Bt.of_lt (by omega) (by omega), Bt.of_lt (by omega) (by omega), Bt.of_lt (by omega) (by omega)⟩
theorem is_number_i {p q n : Int} (h : Num p q n) : m_is_number [.tup [.int p, .int q, .int n]] = .ok (.bl true) := by
  apply Pr.eq
  rw [m_is_number, runP_po]
  have hn : n ≠ 0 := by have := h.n1; omega
  have hl := c_lowest_of_i (S := []) (p := p) (q := q) hn (h.bt.2.2.mono (by decide))
  rw [h.lowT] at hl
  have := h.p1; have := h.p2; have := h.q1; have := h.q2; have := h.n1; have := h.n2
  have n3 : -1000000000000000000000000000000 ≤ n := by omega
  simp [b_is_number, startE, q_is_number_3, q_is_number_5, k_MOST_PART, *, mLC_po, lcGo_cons, lcGo_nil, wipeE]
theorem check_number_i {p q n : Int} (h : Num p q n) : m_check_number [.tup [.int p, .int q, .int n]] = .ok .non := by
  apply Pr.eq
  rw [m_check_number, runP_po]
  have : clP 1 m_is_number [.tup [.int p, .int q, .int n]] [] = .ok (.bl true) [] := clP_eq (is_number_i h)
  simp [b_check_number, startE, this]
theorem c_check_number_i {p q n : Int} (h : Num p q n) : clP 1 m_check_number [.tup [.int p, .int q, .int n]] S = .ok .non S := clP_eq (check_number_i h)
/-! floors -/
theorem fl_b {q r : Int} {k : Nat} (hr : 0 ≤ r) (h : Bt k (q * q * r)) : Bt (k + 1) (fl q r) := by
  have h0 := isq_nonneg (q * q * r)
  have h1 := isq_le (n := q * q * r) (Int.mul_nonneg (sqn q) hr)
  have e : ((2 ^ (k + 1) : Nat) : Int) = 2 * (2 ^ k : Nat) := by rw [Nat.pow_succ]; omega
  unfold Bt at *
  unfold fl
  split <;> omega
theorem floor_of_i {r p q n : Int} (hr : Root r) (hq : Bt 600 q) (hn : 0 < n) (bn : Bt 600 n) : m_floor_of [.int r, .int p, .int q, .int n] = .ok (.int ((p + fl q r) / n)) := by
  apply Pr.eq
  rw [m_floor_of, runP_po]
  have br : Bt 5 r := Bt.of_lt (by have := hr.1; omega) (by have := hr.2.1; omega)
  have hN : 0 ≤ q * q * r := Int.mul_nonneg (sqn q) (by have := hr.1; omega)
  have bN : Bt 1500 (q * q * r) := ((hq.mul hq).mul br).mono (by decide)
  have e : ∀ x : Int, x.fdiv n = x / n := fun x => Int.fdiv_eq_ediv_of_nonneg _ (by omega)
  have c1 : cMul q q = true := cMul_b (hq.mono (by decide)) (hq.mono (by decide))
  have c2 : cMul (q * q) r = true := cMul_b ((hq.mul hq).mono (by decide)) (br.mono (by decide))
  have c3 : ∀ x, cDivG x n = true := fun x => cDivG_b (by omega) (bn.mono (by decide))
  simp [b_floor_of, startE, q_floor_of_2, q_floor_of_4, c_square_root_i hN bN, c1, c2, c3, e]
  unfold fl
  split <;> rfl
theorem c_floor_of_i {r p q n : Int} (hr : Root r) (hq : Bt 600 q) (hn : 0 < n) (bn : Bt 600 n) : clP 4 m_floor_of [.int r, .int p, .int q, .int n] S = .ok (.int ((p + fl q r) / n)) S := clP_eq (floor_of_i hr hq hn bn)
abbrev nT (p q n : Int) : D := .tup [.int p, .int q, .int n]
theorem is_below_i {r a b c d e f : Int} (hr : Root r) (h1 : Num a b c) (h2 : Num d e f) : m_is_below [.int r, nT a b c, nT d e f] = .ok (.bl (decide (a * f - d * c + fl (b * f - e * c) r < 0))) := by
  apply Pr.eq
  rw [m_is_below, runP_po]
  obtain ⟨ba, bb, bc⟩ := h1.bt
  obtain ⟨bd, be, bf⟩ := h2.bt
  have cc : ∀ {x y : Int}, Bt 100 x → Bt 100 y → cMul x y = true := fun hx hy => cMul_b (hx.mono (by decide)) (hy.mono (by decide))
  have bq : Bt 600 (b * f - e * c) := ((bb.mul bf).sub (be.mul bc)).mono (by decide)
  simp [b_is_below, startE, q_is_below_2, q_is_below_3, nT, cc ba bf, cc bd bc, cc bb bf, cc be bc, c_floor_of_i hr bq (show (0 : Int) < 1 by decide) ((show Bt 5 1 from by decide).mono (by decide))]
theorem c_is_below_i {r a b c d e f : Int} (hr : Root r) (h1 : Num a b c) (h2 : Num d e f) : clP 3 m_is_below [.int r, nT a b c, nT d e f] S = .ok (.bl (decide (a * f - d * c + fl (b * f - e * c) r < 0))) S := clP_eq (is_below_i hr h1 h2)
theorem whole_part_i {r p q n : Int} (hr : Root r) (h : Num p q n) : m_whole_part [.int r, nT p q n] = .ok (.int ((p + fl q r) / n)) := by
  apply Pr.eq
  rw [m_whole_part, runP_po]
  obtain ⟨bp, bq, bn⟩ := h.bt
  simp [b_whole_part, startE, q_whole_part_2, q_whole_part_3, nT, c_check_root_i hr, c_check_number_i h, c_floor_of_i hr (bq.mono (by decide)) (show 0 < n by have := h.n1; omega) (bn.mono (by decide))]
theorem c_whole_part_i {r p q n : Int} (hr : Root r) (h : Num p q n) : clP 2 m_whole_part [.int r, nT p q n] S = .ok (.int ((p + fl q r) / n)) S := clP_eq (whole_part_i hr h)
theorem is_less_i {r a b c d e f : Int} (hr : Root r) (h1 : Num a b c) (h2 : Num d e f) : m_is_less [.int r, nT a b c, nT d e f] = .ok (.bl (decide (a * f - d * c + fl (b * f - e * c) r < 0))) := by
  apply Pr.eq
  rw [m_is_less, runP_po]
  have := c_is_below_i (S := []) hr h1 h2
  simp [nT] at this
  simp [b_is_less, startE, q_is_less_2, q_is_less_3, q_is_less_4, nT, c_check_root_i hr, c_check_number_i h1, c_check_number_i h2, this]
theorem c_is_less_i {r a b c d e f : Int} (hr : Root r) (h1 : Num a b c) (h2 : Num d e f) : clP 3 m_is_less [.int r, nT a b c, nT d e f] S = .ok (.bl (decide (a * f - d * c + fl (b * f - e * c) r < 0))) S := clP_eq (is_less_i hr h1 h2)
structure In30 (p : Int) : Prop where
  lo : -1000000000000000000000000000000 ≤ p
  hi : p ≤ 1000000000000000000000000000000
theorem lowest_i {p q n : Int} (hp : In30 p) (hq : In30 q) (hn : In30 n) (h0 : n ≠ 0) : m_lowest [.int p, .int q, .int n] = .ok (lowT p q n) := by
  apply Pr.eq
  rw [m_lowest, runP_po]
  obtain ⟨p1, p2⟩ := hp
  obtain ⟨q1, q2⟩ := hq
  obtain ⟨n1, n2⟩ := hn
  have bn : Bt 100 n := Bt.of_lt (by omega) (by omega)
  simp [b_lowest, startE, forGo_cons, forGo_nil, fb_lowest_1, q_lowest_4, q_lowest_6, k_MOST_PART, *, c_lowest_of_i h0 (bn.mono (by decide)), lowT]
theorem c_lowest_i {p q n : Int} (hp : In30 p) (hq : In30 q) (hn : In30 n) (h0 : n ≠ 0) : clP 3 m_lowest [.int p, .int q, .int n] S = .ok (lowT p q n) S := clP_eq (lowest_i hp hq hn h0)
theorem num_low {p q n : Int} (hp : In30 p) (hq : In30 q) (hn : In30 n) (h0 : n ≠ 0) : Num (p / cof p q n) (q / cof p q n) (n / cof p q n) := by
  obtain ⟨d1, d2, d3⟩ := cof_dvd (p := p) (q := q) (n := n)
  have l := low_of (p := p) (q := q) h0
  have a := abs_ediv_le _ _ d1
  have b := abs_ediv_le _ _ d2
  have c := abs_ediv_le _ _ d3
  obtain ⟨p1, p2⟩ := hp
  obtain ⟨q1, q2⟩ := hq
  obtain ⟨n1, n2⟩ := hn
  have := l.pos
  exact ⟨by omega, by omega, by omega, by omega, by omega, by omega, l.one⟩
/-! the law's own defs -/
theorem under_i {p q r : Int} (hp : Bt 1500 p) (hq : Bt 1500 q) (hr : Root r) : m__law_under [.int p, .int q, .int r] = .ok (.bl (decide (p + fl q r < 0))) := by
  apply Pr.eq
  rw [m__law_under, runP_po]
  have br : Bt 5 r := Bt.of_lt (by have := hr.1; omega) (by have := hr.2.1; omega)
  have c1 : cMul p p = true := cMul_b (hp.mono (by decide)) (hp.mono (by decide))
  have c2 : cMul q q = true := cMul_b (hq.mono (by decide)) (hq.mono (by decide))
  have c3 : cMul (q * q) r = true := cMul_b ((hq.mul hq).mono (by decide)) (br.mono (by decide))
  have u := under_iff (p := p) (q := q) (show 0 < r by have := hr.1; omega) hr.nosq
  simp [b__law_under, startE, q__law_under_3, q__law_under_5, c1, c2, c3]
  have u1 : 0 ≤ p + fl q r ↔ ¬ under p q r := by rw [u]; omega
  rw [← u, u1]
  unfold under
  have e1 : 0 ≤ p ↔ ¬ p < 0 := by omega
  have e2 : 0 ≤ q ↔ ¬ q < 0 := by omega
  simp only [e1, e2]
  by_cases h1 : p < 0 <;> by_cases h2 : q < 0 <;> by_cases h3 : q ≤ 0 <;> simp [h1, h2, h3] <;> omega
theorem c_under_i {p q r : Int} (hp : Bt 1500 p) (hq : Bt 1500 q) (hr : Root r) : clP 3 m__law_under [.int p, .int q, .int r] S = .ok (.bl (decide (p + fl q r < 0))) S := clP_eq (under_i hp hq hr)
theorem law_gcd_i {a b : Int} : m__law_gcd [.int a, .int b] = .ok (.int (Nat.gcd a.natAbs b.natAbs : Nat)) := by
  apply Pr.eq
  rw [m__law_gcd, runP_po]
  simp [b__law_gcd, startE, q__law_gcd_2, abs_i]
  refine fpo_mWh (fun n env S => S = [] ∧ ∃ x y : Int, 0 ≤ x ∧ 0 ≤ y ∧ Nat.gcd x.natAbs y.natAbs = Nat.gcd a.natAbs b.natAbs ∧ n = y.natAbs ∧ env = [some (.int x), some (.int y)]) ?_ b.natAbs _ _ ⟨rfl, a.natAbs, b.natAbs, by omega, by omega, by simp, by simp, rfl⟩
  rintro n env S ⟨rfl, x, y, hx, hy, hg, rfl, rfl⟩
  simp [wt__law_gcd_2, wb__law_gcd_2, q__law_gcd_4]
  split
  · rename_i h
    have h : y ≠ 0 := by omega
    have hm : x.fmod y = x % y := Int.fmod_eq_emod_of_nonneg _ hy
    have h0 := Int.emod_nonneg x h
    have h1 := Int.emod_lt_of_pos x (show 0 < y by omega)
    refine ⟨cNz_b h, (x.fmod y).natAbs, by omega, y, hy, x.fmod y, by omega, ?_, rfl, rfl, rfl⟩
    rw [hm, ← hg, Int.natAbs_emod_of_nonneg hx, Nat.gcd_comm x.natAbs, Nat.gcd_rec y.natAbs x.natAbs, Nat.gcd_comm]
  · rename_i h
    have : y = 0 := by omega
    subst this
    simp at hg
    omega
@[simp] theorem c_law_gcd_i {a b : Int} : clP 2 m__law_gcd [.int a, .int b] S = .ok (.int (Nat.gcd a.natAbs b.natAbs : Nat)) S := clP_eq law_gcd_i
theorem law_floor_i {r p q n : Int} (hr : Root r) (hp : Bt 300 p) (hq : Bt 300 q) (hn : 0 < n) (bn : Bt 300 n) : m__law_floor [.int r, .int p, .int q, .int n] = .ok (.int ((p + fl q r) / n)) := by
  apply Pr.eq
  rw [m__law_floor, runP_po]
  have br : Bt 5 r := Bt.of_lt (by have := hr.1; omega) (by have := hr.2.1; omega)
  have bf : Bt 607 (fl q r) := (fl_b (by have := hr.1; omega) ((hq.mul hq).mul br)).mono (by decide)
  have bv : Bt 608 (p + fl q r) := (hp.add bf).mono (by decide)
  have vb := bv.bd
  generalize hv : p + fl q r = v at *
  -- one test
  have ut : ∀ {m : Int} {S : Sto}, Bt 610 m → clP 3 m__law_under [.int (p - n * m), .int q, .int r] S = .ok (.bl (decide (v - n * m < 0))) S := fun {m S} bm => by
    have := c_under_i (S := S) (p := p - n * m) (q := q) (r := r) ((hp.sub (bn.mul bm)).mono (by decide)) (hq.mono (by decide)) hr
    rw [show p - n * m + fl q r = v - n * m by omega] at this
    exact this
  have cn : ∀ {m : Int}, Bt 610 m → cMul n m = true := fun bm => cMul_b (bn.mono (by decide)) (bm.mono (by decide))
  have big : ∀ {m : Int}, 0 ≤ m → m ≤ n * m := fun {m} h => by
    have : 1 * m ≤ n * m := Int.mul_le_mul_of_nonneg_right (by omega) h
    omega
  have big2 : ∀ {m : Int}, m ≤ 0 → n * m ≤ m := fun {m} h => by
    have : n * m ≤ 1 * m := Int.mul_le_mul_of_nonpos_right (by omega) h
    omega
  simp [b__law_floor, startE, q__law_floor_2]
  -- up
  refine fpo_mWh (fun k env S => S = [] ∧ ∃ h : Int, 1 ≤ h ∧ h ≤ 2 * 2 ^ 608 ∧ k = (2 ^ 608 - h).toNat ∧ env = [some (.int r), some (.int p), some (.int q), some (.int n), some (.int (-1)), some (.int h), none]) ?_ _ _ _ ⟨rfl, 1, by omega, by omega, rfl, rfl⟩
  rintro k env S ⟨rfl, h, h1, h2, rfl, rfl⟩
  have bh : Bt 610 h := Bt.of_lt (by omega) (by omega)
  simp [wt__law_floor_2, wb__law_floor_2, q__law_floor_4, ut bh, cn bh]
  have g1 := big (show 0 ≤ h by omega)
  split
  · rename_i hc
    have hv1 : v - n * h < 0 := by omega
    -- down
    refine fpo_mWh (fun k env S => S = [] ∧ ∃ l : Int, l ≤ -1 ∧ -(2 * 2 ^ 608) ≤ l ∧ k = (2 ^ 608 + l).toNat ∧ env = [some (.int r), some (.int p), some (.int q), some (.int n), some (.int l), some (.int h), none]) ?_ _ _ _ ⟨rfl, -1, by omega, by omega, rfl, rfl⟩
    rintro k env S ⟨rfl, l, l1, l2, rfl, rfl⟩
    have bl : Bt 610 l := Bt.of_lt (by omega) (by omega)
    simp [wt__law_floor_4, wb__law_floor_4, q__law_floor_6, ut bl, cn bl]
    have g2 := big2 (show l ≤ 0 by omega)
    split
    · rename_i hc
      exact ⟨cMul_l (by decide), (2 ^ 608 + 2 * l).toNat, by omega, 2 * l, by omega, by omega, rfl, rfl⟩
    · rename_i hc2
      refine fpo_mWh (fun k env S => S = [] ∧ ∃ (lo hi : Int) (m : Option D), l ≤ lo ∧ lo < hi ∧ hi ≤ h ∧ 0 ≤ v - n * lo ∧ v - n * hi < 0 ∧ k = (hi - lo).toNat ∧ env = [some (.int r), some (.int p), some (.int q), some (.int n), some (.int lo), some (.int hi), m]) ?_ _ _ _ ⟨rfl, l, h, none, by omega, by omega, by omega, by omega, by omega, rfl, rfl⟩
      rintro k env S ⟨rfl, lo, hi, m, a1, a2, a3, a4, a5, rfl, rfl⟩
      have hm : (lo + hi).fdiv 2 = (lo + hi) / 2 := Int.fdiv_eq_ediv_of_nonneg _ (by decide)
      have bm : Bt 610 ((lo + hi) / 2) := Bt.of_lt (by omega) (by omega)
      simp [wt__law_floor_6, wb__law_floor_6, q__law_floor_8, q__law_floor_12, hm, ut bm, cn bm]
      split
      · rename_i hd
        refine ⟨cDivG_b (by decide) (by decide), ?_⟩
        split
        · rename_i he
          exact ⟨((lo + hi) / 2 - lo).toNat, by omega, lo, a1, (lo + hi) / 2, by omega, by omega, by omega, by omega, rfl, rfl, rfl⟩
        · rename_i he
          exact ⟨(hi - (lo + hi) / 2).toNat, by omega, (lo + hi) / 2, by omega, hi, by omega, by omega, by omega, by omega, rfl, rfl, rfl⟩
      · rename_i hd
        have : hi = lo + 1 := by omega
        subst this
        rw [Int.mul_add] at a5
        exact ediv_of hn (by omega) (by omega)
  · rename_i hc
    exact ⟨cMul_l (by decide), (2 ^ 608 - 2 * h).toNat, by omega, 2 * h, by omega, by omega, rfl, rfl⟩
theorem c_law_floor_i {r p q n : Int} (hr : Root r) (hp : Bt 300 p) (hq : Bt 300 q) (hn : 0 < n) (bn : Bt 300 n) : clP 4 m__law_floor [.int r, .int p, .int q, .int n] S = .ok (.int ((p + fl q r) / n)) S := clP_eq (law_floor_i hr hp hq hn bn)
end
end K02

namespace K02
open PySem L2 Ev Ma
section
variable {S : Sto}
/-! drawing -/
def Jar (n : Nat) (S : Sto) : Prop := ∃ a b c : Int, S[n]? = some (.lst [.int a, .int b, .int c])
structure Step (n : Nat) (S S' : Sto) : Prop where
  jar : Jar n S'
  len : S'.length = S.length
theorem Jar.set {n : Nat} {S : Sto} {o : Ob} (h : S[n]? = some o) {o' : Ob} : (S.set n o')[n]? = some o' := by
  have := (List.getElem?_eq_some_iff.mp h).1
  exact List.getElem?_set_self this
theorem dip_po {n : Nat} {S : Sto} {top : Int} {Q : D → Sto → Prop} {X : XQ} (hj : Jar n S) (ht : 0 < top) (hb : Bt 8000 top) (h : ∀ d S', 0 ≤ d → d < top → Step n S S' → Q (.int d) S') : (clI 2 m__law_dip [.ref n, .int top] S).po Q X := by
  obtain ⟨a, b, c, e⟩ := hj
  rw [clI_po (n := 2) rfl, m__law_dip, runI_po]
  have s1 : ∀ {o' : Ob}, (S.set n o')[n]? = some o' := Jar.set e
  have ft : ∀ x : Int, x.fmod top = x % top := fun x => Int.fmod_eq_emod_of_nonneg _ (by omega)
  simp [b__law_dip, startE, sIx_ref, e, s1, q__law_dip_2, q__law_dip_4, q__law_dip_5, q__law_dip_6]
  split
  · refine ⟨⟨ht, lt_two hb (Nat.pow_le_pow_right (by decide) (by decide)) (by decide)⟩, h _ _ (Int.emod_nonneg _ (by omega)) (Int.emod_lt_of_pos _ ht) ⟨⟨_, _, _, s1⟩, by simp⟩⟩
  · refine ⟨cMul_s (by decide), cMul_l (by decide), cNz_b (by decide), cDivG_b (by decide) (by decide), cNz_b (by omega), ?_⟩
    rw [ft]
    exact h _ _ (Int.emod_nonneg _ (by omega)) (Int.emod_lt_of_pos _ ht) ⟨⟨_, _, _, s1⟩, by simp⟩
/-- one of told things -/
theorem one_of_po {n : Nat} {S : Sto} {ds : List D} {Q : D → Sto → Prop} {X : XQ} (hj : Jar n S) (h0 : ds ≠ []) (hl : ds.length < 1000) (h : ∀ d S', d ∈ ds → Step n S S' → Q d S') : (clI 2 m__law_one_of [.ref n, .lst ds] S).po Q X := by
  rw [clI_po (n := 2) rfl, m__law_one_of, runI_po]
  have hp : 0 < ds.length := List.length_pos_iff.mpr h0
  simp [b__law_one_of, startE]
  refine dip_po hj (by omega) ((Bt.of_lt (k := 10) (by omega) (by omega)).mono (by decide)) fun d S' d0 d1 st => ?_
  have e : atI ds d = some (ds[d.toNat]'(by omega)) := by
    have := atI_of (xs := ds) (i := d.toNat) (by omega)
    rwa [Int.toNat_of_nonneg d0] at this
  simp [e]
  exact h _ _ (List.getElem_mem _) st
/-- drawn parts -/
theorem part_po {n : Nat} {S : Sto} {Q : D → Sto → Prop} {X : XQ} (hj : Jar n S) (h : ∀ d S', In30 d → Step n S S' → Q (.int d) S') : (clI 1 m__law_part [.ref n] S).po Q X := by
  rw [clI_po (n := 1) rfl, m__law_part, runI_po]
  have p9 : cPow 10 9 = true := by decide
  have p20 : cPow 10 20 = true := by decide
  have p30 : cPow 10 30 = true := by decide
  simp [b__law_part, startE, p9, p20, p30, q__law_part_2]
  refine dip_po hj (by decide) (by decide) fun d S1 d0 d1 st1 => ?_
  simp
  refine ⟨cMul_b (Bt.mono (k := 100) (Bt.of_lt (by omega) (by omega)) (by decide)) (by decide), ?_⟩
  refine dip_po st1.jar (by decide) (by decide) fun d2 S2 d20 d21 st2 => ?_
  simp
  refine dip_po st2.jar (by decide) (by decide) fun d3 S3 d30 d31 st3 => ?_
  simp
  refine one_of_po st3.jar (by simp) (by simp) fun x S4 hx st4 => ?_
  have st : Step n S S4 := ⟨st4.jar, by rw [st4.len, st3.len, st2.len, st1.len]⟩
  simp at hx
  rcases hx with rfl | rfl | rfl | rfl | rfl | rfl | rfl | rfl <;> exact h _ _ ⟨by omega, by omega⟩ st
end
end K02

namespace K02
open PySem L2 Ev Ma
theorem Step.trans {n : Nat} {S S1 S2 : Sto} (a : Step n S S1) (b : Step n S1 S2) : Step n S S2 := ⟨b.jar, by rw [b.len, a.len]⟩
def Fin (n : Nat) (S : Sto) (f : Fl) (S' : Sto) : Prop := Step n S S' ∧ ∃ x1 x2 x3 x4 x5 x6 x7 x8 x9 x10 : Option D, f = .nx [some (.ref n), x1, x2, x3, x4, x5, x6, x7, x8, x9, x10]
theorem rprT {S : Sto} {p q n : Int} (h : Num p q n) : sRepr S [.lst [nT p q n, nT p q n]] = some (.str (PyData.list [.tuple [.int p, .int q, .int n], .tuple [.int p, .int q, .int n]]).shown) := by
  refine sRepr_of (by simp [pyTop, pyOf, pyAll, nT]) ?_
  have b := h.bt
  have lp := lt_two b.1 (Nat.le_refl _) (by decide)
  have lq := lt_two b.2.1 (Nat.le_refl _) (by decide)
  have ln := lt_two b.2.2 (Nat.le_refl _) (by decide)
  simp [rprOk, PyData.canLay0, PyData.canLayAll0, PyData.showable, PyData.showableAll, PyData.depth, PyData.depthAll, szp, szpAll]
  omega
theorem rprI {S : Sto} {w : Int} (h : Bt 1900 w) : sRepr S [.lst [.int w, .int w]] = some (.str (PyData.list [.int w, .int w]).shown) := by
  refine sRepr_of (by simp [pyTop, pyOf, pyAll]) ?_
  have lp := lt_two h (Nat.le_refl _) (by decide)
  simp [rprOk, PyData.canLay0, PyData.canLayAll0, PyData.showable, PyData.showableAll, PyData.depth, PyData.depthAll, szp, szpAll]
  omega
theorem rprB {S : Sto} {b : Bool} : sRepr S [.lst [.bl b, .bl b]] = some (.str (PyData.list [.bool b, .bool b]).shown) := by
  refine sRepr_of (by simp [pyTop, pyOf, pyAll]) ?_
  simp [rprOk, PyData.canLay0, PyData.canLayAll0, PyData.showable, PyData.showableAll, PyData.depth, PyData.depthAll, szp, szpAll]
def roots : List Int := [2, 3, 5, 6, 7, 8, 10, 13, 17, 24, 26, 30]
theorem root_of {r : Int} (h : r ∈ roots) : Root r := by
  have : ∀ r ∈ roots, Root r := by unfold Root; decide
  exact this r h
/-- the end of a turn: a, b, c: the number; d, e, f: the other -/
theorem st15_po {n : Nat} {S : Sto} {r a b c d e f : Int} {x1 x3 x4 x6 x8 x9 x10 : Option D} (hj : Jar n S) (hr : Root r) (N : Num a b c) (N' : Num d e f) : fpo (q__law_right_15 [some (.ref n), x1, some (.int r), x3, x4, some (nT a b c), x6, some (nT d e f), x8, x9, x10] S) (Fin n S) := by
  obtain ⟨ba, bb, bc⟩ := N.bt
  obtain ⟨bd, be, bf⟩ := N'.bt
  have cc : ∀ {x y : Int}, Bt 100 x → Bt 100 y → cMul x y = true := fun hx hy => cMul_b (hx.mono (by decide)) (hy.mono (by decide))
  have u := c_under_i (S := S) (p := a * f - d * c) (q := b * f - e * c) (r := r) (((ba.mul bf).sub (bd.mul bc)).mono (by decide)) (((bb.mul bf).sub (be.mul bc)).mono (by decide)) hr
  have l1 := c_is_less_i (S := S) hr N N'
  have l2 := c_is_less_i (S := S) hr N' N
  have l3 := c_is_less_i (S := S) hr N N
  have z : fl 0 r = 0 := by simp [fl, isq, isqN]
  have no3 : ¬ (a * c - a * c + fl (b * c - b * c) r < 0) := by
    rw [Int.sub_self, Int.sub_self, z]; omega
  have no2 : ¬ (a * f - d * c + fl (b * f - e * c) r < 0 ∧ d * c - a * f + fl (e * c - b * f) r < 0) := fun h => by
    have t := fl_two (q := b * f - e * c) (r := r)
    rw [show -(b * f - e * c) = e * c - b * f by omega] at t
    omega
  simp only [nT] at l1 l2 l3
  simp [q__law_right_15, nT, cc ba bf, cc bd bc, cc bb bf, cc be bc, u, q__law_right_16, l1, perm, rprB, q__law_right_18, l2, l3, no3]
  have st : Step n S S := ⟨hj, rfl⟩
  rw [z]
  split
  · rename_i q; exact absurd q (by decide)
  · split
    · split
      · rename_i q1 q2; exact absurd ⟨q1, q2⟩ no2
      · exact ⟨st, _, _, _, _, _, _, _, _, _, _, rfl⟩
    · exact ⟨st, _, _, _, _, _, _, _, _, _, _, rfl⟩
/-- the other number -/
theorem st13_po {n : Nat} {S : Sto} {r a b c d e f : Int} {x1 x3 x4 x6 x8 x9 x10 : Option D} (hj : Jar n S) (hr : Root r) (N : Num a b c) (N' : Num d e f) : fpo (q__law_right_13 [some (.ref n), x1, some (.int r), x3, x4, some (nT a b c), x6, some (nT d e f), x8, x9, x10] S) (Fin n S) := by
  simp [q__law_right_13, nT]
  refine dip_po hj (by decide) (by decide) fun x S1 _ _ st1 => ?_
  simp
  split
  · refine ⟨cDivG_b (by decide) (by decide), cDivG_b (by decide) (by decide), cDivG_b (by decide) (by decide), ?_⟩
    have f2 : ∀ x : Int, x.fdiv 2 = x / 2 := fun x => Int.fdiv_eq_ediv_of_nonneg _ (by decide)
    rw [f2, f2, f2]
    have h1 : In30 (a / 2) := ⟨by have := N.p1; omega, by have := N.p2; omega⟩
    have h2 : In30 (b / 2) := ⟨by have := N.q1; omega, by have := N.q2; omega⟩
    have h3 : In30 (1 + c / 2) := ⟨by have := N.n1; omega, by have := N.n2; have := N.n1; omega⟩
    have h0 : 1 + c / 2 ≠ 0 := by have := N.n1; omega
    rw [c_lowest_i h1 h2 h3 h0]
    have N2 := num_low h1 h2 h3 h0
    simp
    refine one_of_po st1.jar (by simp) (by simp) fun y S2 hy st2 => ?_
    have fin : ∀ {d e f : Int}, Num d e f → fpo (q__law_right_15 [some (.ref n), x1, some (.int r), x3, x4, some (.tup [.int a, .int b, .int c]), x6, some (.tup [.int d, .int e, .int f]), x8, x9, x10] S2) (Fin n S) := fun N' => fpo.mono (st15_po st2.jar hr N N') fun f S' h => ⟨(st1.trans st2).trans h.1, h.2⟩
    simp at hy
    rcases hy with rfl | rfl
    · exact fin N
    · exact fin N2
  · exact fpo.mono (st15_po st1.jar hr N N') fun f S' h => ⟨st1.trans h.1, h.2⟩
theorem st4_po {n : Nat} {S : Sto} {r p q m : Int} {x1 x4 x5 x6 x7 x8 : Option D} (hj : Jar n S) (hr : Root r) (hp : In30 p) (hq : In30 q) (hm : In30 m) : fpo (q__law_right_4 [some (.ref n), x1, some (.int r), some (.int m), x4, x5, x6, x7, x8, some (.int p), some (.int q)] S) (Fin n S) := by
  obtain ⟨k, hk, h0, hK⟩ : ∃ k, (if m = 0 then 12 else m) = k ∧ k ≠ 0 ∧ In30 k := by
    by_cases z : m = 0
    · exact ⟨12, by simp [z], by decide, ⟨by decide, by decide⟩⟩
    · exact ⟨m, by simp [z], z, hm⟩
  have e4 : ∀ Q, fpo (q__law_right_4 [some (.ref n), x1, some (.int r), some (.int m), x4, x5, x6, x7, x8, some (.int p), some (.int q)] S) Q = fpo (q__law_right_5 [some (.ref n), x1, some (.int r), some (.int k), x4, x5, x6, x7, x8, some (.int p), some (.int q)] S) Q := fun Q => by
    subst hk
    by_cases z : m = 0 <;> simp [q__law_right_4, z]
  rw [e4]
  have c0 := cof_ne (p := p) (q := q) h0
  have hB : (cof p q k).natAbs < 2 ^ 8000 := by
    rw [cof_abs]
    have b : Bt 100 k := Bt.of_lt (by have := hK.1; omega) (by have := hK.2; omega)
    exact Nat.lt_of_le_of_lt (Nat.le_of_dvd (by omega) g3_dvd.2.2) (b.mono (by decide))
  have cd : ∀ x, cDivG x (cof p q k) = true := fun x => cDivG_b c0 hB
  obtain ⟨d1, d2, d3⟩ := cof_dvd (p := p) (q := q) (n := k)
  have ec : ((p.natAbs.gcd q.natAbs).gcd k.natAbs : Nat) = g3 p q k := rfl
  have cm : ∀ x, cMul x 1 = true := fun x => cMul_s (by decide)
  have cm2 : ∀ x, cMul x (-1) = true := fun x => cMul_s (by decide)
  have e5 : ∀ Q, fpo (q__law_right_5 [some (.ref n), x1, some (.int r), some (.int k), x4, x5, x6, x7, x8, some (.int p), some (.int q)] S) Q = fpo (q__law_right_7 [some (.ref n), x1, some (.int r), some (.int k), some (.int (cof p q k)), some (nT (p / cof p q k) (q / cof p q k) (k / cof p q k)), x6, x7, x8, some (.int p), some (.int q)] S) Q := fun Q => by
    rw [← fdiv_dvd d1, ← fdiv_dvd d2, ← fdiv_dvd d3]
    have cd' := cd
    unfold cof at cd' ⊢
    split
    · rename_i hc
      rw [if_pos hc] at cd'
      simp [q__law_right_5, q__law_right_6, hc, ec, cm, cd']
    · rename_i hc
      rw [if_neg hc] at cd'
      simp [q__law_right_5, q__law_right_6, hc, ec, cm2, cd']
  rw [e5]
  have N := num_low hp hq hK h0
  have el := c_lowest_i (S := S) hp hq hK h0
  have lT : lowT p q k = nT (p / cof p q k) (q / cof p q k) (k / cof p q k) := rfl
  rw [lT] at el
  generalize p / cof p q k = a at *
  generalize q / cof p q k = b at *
  generalize k / cof p q k = c at *
  simp [q__law_right_7, el, perm, rprT N]
  obtain ⟨ba, bb, bc⟩ := N.bt
  have hc : 0 < c := by have := N.n1; omega
  have ef := c_law_floor_i (S := S) hr (ba.mono (by decide)) (bb.mono (by decide)) hc (bc.mono (by decide))
  have ew := c_whole_part_i (S := S) hr N
  have bw : Bt 1900 ((a + fl b r) / c) := Bt.ediv ((ba.add (fl_b (k := 205) (by have := hr.1; omega) ((bb.mul bb).mul (Bt.of_lt (k := 5) (by have := hr.1; omega) (by have := hr.2.1; omega))))).mono (by decide)) c
  simp only [nT] at ew
  simp [q__law_right_9, nT, ef, q__law_right_10, ew, perm, rprI bw, q__law_right_12]
  refine part_po hj fun d S1 hd st1 => part_po st1.jar fun e S2 he st2 => part_po st2.jar fun f S3 hf st3 => ?_
  have st := (st1.trans st2).trans st3
  have f2 : ∀ x : Int, x.fdiv 2 = x / 2 := fun x => Int.fdiv_eq_ediv_of_nonneg _ (by decide)
  have h3 : In30 (1 + (f.natAbs : Int) / 2) := ⟨by omega, by have := hf.1; have := hf.2; omega⟩
  have h0 : 1 + (f.natAbs : Int) / 2 ≠ 0 := by omega
  simp [abs_i, f2]
  refine ⟨cDivG_b (by decide) (by decide), ?_⟩
  rw [c_lowest_i hd he h3 h0]
  exact fpo.mono (st13_po st3.jar hr N (num_low hd he h3 h0)) fun f S' h => ⟨st.trans h.1, h.2⟩
/-- behind the root -/
theorem st3_po {n : Nat} {S : Sto} {r : Int} {x1 x3 x4 x5 x6 x7 x8 x9 x10 : Option D} (hj : Jar n S) (hr : Root r) : fpo (q__law_right_3 [some (.ref n), x1, some (.int r), x3, x4, x5, x6, x7, x8, x9, x10] S) (Fin n S) := by
  simp [q__law_right_3]
  refine part_po hj fun p S1 hp st1 => part_po st1.jar fun q S2 hq st2 => part_po st2.jar fun m S3 hm st3 => ?_
  have st : Step n S S3 := (st1.trans st2).trans st3
  refine fpo.mono (st4_po st3.jar hr hp hq hm) fun f S' h => ⟨st.trans h.1, h.2⟩
theorem turn_po {n : Nat} {S : Sto} {x1 x2 x3 x4 x5 x6 x7 x8 x9 x10 : Option D} (hj : Jar n S) : fpo (fb__law_right_1 [some (.ref n), x1, x2, x3, x4, x5, x6, x7, x8, x9, x10] S) (Fin n S) := by
  simp [fb__law_right_1]
  refine one_of_po hj (by simp) (by simp) fun y S2 hy st2 => ?_
  obtain ⟨r, hr, rfl⟩ : ∃ r, r ∈ roots ∧ y = .int r := by
    simp at hy
    rcases hy with rfl | rfl | rfl | rfl | rfl | rfl | rfl | rfl | rfl | rfl | rfl | rfl <;> exact ⟨_, by decide, rfl⟩
  exact fpo.mono (st3_po st2.jar (root_of hr)) fun f S' h => ⟨st2.trans h.1, h.2⟩
theorem right_po {n : Nat} {S : Sto} {Q : D → Sto → Prop} {X : XQ} (hj : Jar n S) (h : ∀ S', Step n S S' → Q (.bl true) S') : (clI 1 m__law_right [.ref n] S).po Q X := by
  rw [clI_po (n := 1) rfl, m__law_right, runI_po]
  simp [b__law_right, startE]
  refine ⟨by decide, ?_⟩
  refine fpo_for (fun _ env S' => Step n S S' ∧ ∃ x1 x2 x3 x4 x5 x6 x7 x8 x9 x10 : Option D, env = [some (.ref n), x1, x2, x3, x4, x5, x6, x7, x8, x9, x10]) _ 0 ?_ ?_ _ _ ⟨⟨hj, rfl⟩, _, _, _, _, _, _, _, _, _, _, rfl⟩
  · rintro i d env S1 - ⟨st, x1, x2, x3, x4, x5, x6, x7, x8, x9, x10, rfl⟩
    refine fpo.mono (turn_po st.jar) ?_
    rintro f S2 ⟨st2, y1, y2, y3, y4, y5, y6, y7, y8, y9, y10, rfl⟩
    exact ⟨st.trans st2, _, _, _, _, _, _, _, _, _, _, rfl⟩
  · rintro env S1 ⟨st, x1, x2, x3, x4, x5, x6, x7, x8, x9, x10, rfl⟩
    simp [q__law_right_20]
    exact h _ st
/-- a jar is made -/
theorem jar_po {S : Sto} {ns : List Int} {t : Int} {Q : D → Sto → Prop} {X : XQ} (h0 : 0 ≤ t) (ht : t < 1000) (hl : ns.length ≤ 63) (h : ∀ S', Jar S.length S' → S'.length = S.length + 1 → Q (.ref S.length) S') : (clI 2 m__law_jar [.rol (ns.map .int), .int t] S).po Q X := by
  rw [clI_po (n := 2) rfl, m__law_jar, runI_po]
  have p18 : cPow 10 18 = true := by decide
  obtain ⟨c, hc⟩ : ∃ c : Int, ∀ Q : Fl → Sto → Prop, fpo (b__law_jar [some (.rol (ns.map .int)), some (.int t), none, none, none] S) Q = fpo (q__law_jar_2 [some (.rol (ns.map .int)), some (.int t), some (.int c), none, none] S) Q := by
    by_cases hlt : t < (ns.length : Int)
    · have e : atI (ns.map D.int) t = some (.int (ns[t.toNat]'(by omega))) := by
        have := atI_of (xs := ns.map D.int) (i := t.toNat) (by simp; omega)
        rw [Int.toNat_of_nonneg h0] at this
        simpa using this
      exact ⟨ns[t.toNat]'(by omega), fun Q => by simp [b__law_jar, hlt, e]⟩
    · exact ⟨43 * t + 9, fun Q => by simp [b__law_jar, hlt, cMul_l (show (43 : Int).natAbs < 18446744073709551616 by decide)]⟩
  simp only [startE]
  simp
  rw [hc]
  simp [q__law_jar_2, cMul_l (show (6007 : Int).natAbs < 18446744073709551616 by decide), q__law_jar_3]
  have hz : (cutD (ns.map D.int) none (some 5)).length ≤ 63 := Nat.le_trans (cutD_len _ _ _) (by simpa using hl)
  refine ⟨by omega, ?_⟩
  refine fpo_for (fun _ env S' => S' = S ∧ ∃ (m : Int) (x : Option D), env = [some (.rol (ns.map .int)), some (.int t), some (.int c), some (.int m), x]) _ 0 ?_ ?_ _ _ ⟨rfl, _, _, rfl⟩
  · rintro i d env S1 hd ⟨rfl, m, x, rfl⟩
    obtain ⟨k, rfl⟩ : ∃ k : Int, d = .int k := by
      have hm := List.mem_of_getElem? hd
      rw [cutD_map] at hm
      simp only [List.mem_append, List.mem_map, List.mem_singleton] at hm
      rcases hm with ⟨k, _, rfl⟩ | rfl
      · exact ⟨_, rfl⟩
      · exact ⟨_, rfl⟩
    simp [fb__law_jar_3]
    exact ⟨cMul_s (by decide), cNz_b (by decide)⟩
  · rintro env S1 ⟨rfl, m, x, rfl⟩
    simp [q__law_jar_5, p18]
    split
    · exact h _ ⟨_, _, _, List.getElem?_concat_length⟩ (by simp)
    · split
      · exact h _ ⟨_, _, _, List.getElem?_concat_length⟩ (by simp)
      · exact h _ ⟨_, _, _, List.getElem?_concat_length⟩ (by simp)
theorem bls_true : ∀ n : Nat, blsOf (List.replicate n (.bl true)) = some (List.replicate n true)
  | 0 => rfl
  | n + 1 => by rw [List.replicate_succ, blsOf_bl, bls_true n]; rfl
theorem law_ok (ns : List Int) (hl : ns.length ≤ 63) : m_law [.rol (ns.map .int)] = .ok (.bl true) := by
  apply Pr.eq
  rw [m_law, runP_po]
  simp [b_law, startE]
  refine po_lc (fun i ys S => ys = List.replicate i (.bl true)) ?_
  simp
  obtain ⟨k, hk, k0, k1⟩ : ∃ k : Int, (if 2 < if 6 < (ns.length : Int) then 6 else (ns.length : Int) then if 6 < (ns.length : Int) then 6 else (ns.length : Int) else 2) = k ∧ 0 ≤ k ∧ k ≤ 6 := ⟨_, rfl, by split <;> (try split) <;> omega, by split <;> (try split) <;> omega⟩
  rw [hk]
  refine ⟨by unfold rngOk; rw [Nat.blt_eq]; omega, ?_, ?_, ?_⟩
  · simp [rngD]; omega
  · intro i d ys S hd hy
    subst hy
    obtain ⟨t, rfl, t0, t1⟩ : ∃ t : Int, d = .int t ∧ 0 ≤ t ∧ t < 1000 := by
      have hm := List.mem_of_getElem? hd
      simp [rngD] at hm
      obtain ⟨a, ha, rfl⟩ := hm
      exact ⟨a, rfl, by omega, by omega⟩
    simp [wipeE]
    refine jar_po t0 t1 hl fun S1 hj hlen => ?_
    refine right_po hj fun S2 st => ?_
    rw [List.replicate_succ']
  · simp [bls_true]
end K02

theorem PySem.Challenge.cw_stoprows_k02_whole_numbers_with_roots_holds : PySem.Challenge.rw_stoprows_k02_whole_numbers_with_roots.Holds := by
  exact K02.holds K02.law_ok
