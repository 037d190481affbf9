import PyProof.Rows.All
import Wide.All
import OpenK.AllK
import Wide.FinOn
import HandS.ForMost
import HandS.ForExc
import HandS.Wide
import HandS.TupAny
import HandS.Style
import HandS.IsInst
import HandS.Flow
import HandS.Walk
import HandS.Zip
import HandS.Lambda
import HandS.Defaults
import HandS.EndBits
import HandS.HeadEnd
import HandS.Head0
import HandS.Head1
import HandS.Head2
import HandS.HeadHook1
import HandS.HeadHook2
import HandS.HeadHook4
import PySem.Challenge.RW_voicefold_k01_whole_numbers_and_names
import HandS.Words
import HandS.More
set_option Elab.async false
set_option linter.all false
set_option autoImplicit false
set_option maxRecDepth 100000
set_option maxHeartbeats 0
namespace VF
open PySem PySem.Spec PyProof.Rows L2
abbrev St := L2.St

/-- the module: its written part, its names -/
structure Md where
  P : Program
  w : World
  base : Heap
  K : PySem.W.Frag
  mg : Str → Option Value
  cls : List Str

/-- data by value -/
inductive D where
  | non
  | bl (b : Bool)
  | int (i : Int)
  | str (x : Str)
  | tup (xs : List D)
  | lst (xs : List D)
  | dck (ks : List Key) (ds : List D)
  | dct (ks : List (List Key)) (ds : List D)
  | ins (c : Str) (fs : List Str) (ds : List D)

/-- a list of the module -/
def KLst (K : PySem.W.Frag) (a : Addr) (vs : List V) : Prop := ∃ (o : Obj) (its : Array Value) (n : Nat), K.lookup a = some o ∧ o.cls = .type "list" ∧ o.dict = none ∧ o.data = .seq its n ∧ its.size ≤ sizeLine ∧ Vals vs its.toList
mutual
/-- d stands at v; F: the addresses that are never written any more -/
def Rep (M : Md) (F : Addr → Prop) (H : Hp) : D → V → Prop
  | .non, v => v = .non
  | .bl b, v => v = .bl b
  | .int i, v => v = .int i
  | .str x, v => v = .str x
  | .tup ds, v => ∃ a vs, v = .ref a ∧ SqT M.K H a vs ∧ RepL M F H ds vs
  | .lst ds, v => ∃ a vs, v = .ref a ∧ ((F a ∧ Rd H a (.lst vs)) ∨ KLst M.K a vs) ∧ RepL M F H ds vs
  | .dck ks ds, v => ∃ a vs, v = .ref a ∧ F a ∧ Rd H a (.dK vs) ∧ vs.map (·.1) = ks ∧ RepL M F H ds (vs.map (·.2))
  | .dct ks ds, v => ∃ a vs, v = .ref a ∧ F a ∧ Rd H a (.dT vs) ∧ vs.map (·.1) = ks ∧ RepL M F H ds (vs.map (·.2))
  | .ins c fs ds, v => ∃ a C dx vs, v = .ref a ∧ F a ∧ (c ∈ M.cls ∧ M.mg c = some (.ref C)) ∧ H a = some (.ins C dx vs) ∧ vs.map (·.1) = fs ∧ RepL M F H ds (vs.map (·.2))
def RepL (M : Md) (F : Addr → Prop) (H : Hp) : List D → List V → Prop
  | [], vs => vs = []
  | d :: ds, vs => ∃ v r, vs = v :: r ∧ Rep M F H d v ∧ RepL M F H ds r
end

/-- what stands on: the frozen ones and the tuples are as they were -/
structure Ext (F : Addr → Prop) (H : Hp) (F' : Addr → Prop) (H' : Hp) : Prop where
  fro : ∀ a, F a → F' a
  rd : ∀ a u, F a → Rd H a u → Rd H' a u
  ins : ∀ a C dx fs, F a → H a = some (.ins C dx fs) → H' a = some (.ins C dx fs)
  tup : ∀ a vs, Rd H a (.tup vs) → Rd H' a (.tup vs)
theorem Ext.refl (F : Addr → Prop) (H : Hp) : Ext F H F H := ⟨fun _ h => h, fun _ _ _ h => h, fun _ _ _ _ _ h => h, fun _ _ h => h⟩
theorem Ext.trans {F F1 F2 : Addr → Prop} {H H1 H2 : Hp} (a : Ext F H F1 H1) (b : Ext F1 H1 F2 H2) : Ext F H F2 H2 :=
  ⟨fun x h => b.fro x (a.fro x h), fun x u h r => b.rd x u (a.fro x h) (a.rd x u h r), fun x C dx fs h r => b.ins x C dx fs (a.fro x h) (a.ins x C dx fs h r), fun x vs r => b.tup x vs (a.tup x vs r)⟩
theorem Ext.sqT {F F' : Addr → Prop} {H H' : Hp} (x : Ext F H F' H') {K : PySem.W.Frag} {a : Addr} {vs : List V} (h : SqT K H a vs) : SqT K H' a vs :=
  h.elim (fun r => .inl (x.tup a vs r)) .inr

mutual
theorem Rep.mono {M : Md} {F F' : Addr → Prop} {H H' : Hp} (x : Ext F H F' H') : ∀ (d : D) {v : V}, Rep M F H d v → Rep M F' H' d v
  | .non, _, h => by unfold Rep at h ⊢; exact h
  | .bl _, _, h => by unfold Rep at h ⊢; exact h
  | .int _, _, h => by unfold Rep at h ⊢; exact h
  | .str _, _, h => by unfold Rep at h ⊢; exact h
  | .tup ds, _, h => by
    unfold Rep at h ⊢
    obtain ⟨a, vs, e, q, r⟩ := h
    exact ⟨a, vs, e, x.sqT q, RepL.mono x ds r⟩
  | .lst ds, _, h => by
    unfold Rep at h ⊢
    obtain ⟨a, vs, e, q, r⟩ := h
    exact ⟨a, vs, e, q.imp (fun q => ⟨x.fro a q.1, x.rd a _ q.1 q.2⟩) id, RepL.mono x ds r⟩
  | .dck ks ds, _, h => by
    unfold Rep at h ⊢
    obtain ⟨a, vs, e, f, q, k, r⟩ := h
    exact ⟨a, vs, e, x.fro a f, x.rd a _ f q, k, RepL.mono x ds r⟩
  | .dct ks ds, _, h => by
    unfold Rep at h ⊢
    obtain ⟨a, vs, e, f, q, k, r⟩ := h
    exact ⟨a, vs, e, x.fro a f, x.rd a _ f q, k, RepL.mono x ds r⟩
  | .ins c fs ds, _, h => by
    unfold Rep at h ⊢
    obtain ⟨a, C, dx, vs, e, f, m, q, k, r⟩ := h
    exact ⟨a, C, dx, vs, e, x.fro a f, m, x.ins a _ _ _ f q, k, RepL.mono x ds r⟩
theorem RepL.mono {M : Md} {F F' : Addr → Prop} {H H' : Hp} (x : Ext F H F' H') : ∀ (ds : List D) {vs : List V}, RepL M F H ds vs → RepL M F' H' ds vs
  | [], _, h => by unfold RepL at h ⊢; exact h
  | d :: ds, _, h => by
    unfold RepL at h ⊢
    obtain ⟨v, r, e, p, q⟩ := h
    exact ⟨v, r, e, Rep.mono x d p, RepL.mono x ds q⟩
end

/-- what stands at an address, by what is known of the object there -/
def Cont (M : Md) (F : Addr → Prop) (H : Hp) (P : HO → Prop) : D → Prop
  | .lst ds => ∃ vs, P (.lst vs) ∧ RepL M F H ds vs
  | .dck ks ds => ∃ vs, P (.dK vs) ∧ vs.map (·.1) = ks ∧ RepL M F H ds (vs.map (·.2))
  | .dct ks ds => ∃ vs, P (.dT vs) ∧ vs.map (·.1) = ks ∧ RepL M F H ds (vs.map (·.2))
  | .ins c fs ds => ∃ C dx vs, (c ∈ M.cls ∧ M.mg c = some (.ref C)) ∧ P (.ins C dx vs) ∧ vs.map (·.1) = fs ∧ RepL M F H ds (vs.map (·.2))
  | _ => False
theorem Cont.mono {M : Md} {F F' : Addr → Prop} {H H' : Hp} {P P' : HO → Prop} (x : Ext F H F' H') (hp : ∀ u, P u → P' u) : ∀ {d : D}, Cont M F H P d → Cont M F' H' P' d
  | .lst ds, ⟨vs, p, r⟩ => ⟨vs, hp _ p, RepL.mono x ds r⟩
  | .dck ks ds, ⟨vs, p, k, r⟩ => ⟨vs, hp _ p, k, RepL.mono x ds r⟩
  | .dct ks ds, ⟨vs, p, k, r⟩ => ⟨vs, hp _ p, k, RepL.mono x ds r⟩
  | .ins c fs ds, ⟨C, dx, vs, m, p, k, r⟩ => ⟨C, dx, vs, m, hp _ p, k, RepL.mono x ds r⟩
theorem Cont.some_of {M : Md} {F : Addr → Prop} {H : Hp} {P : HO → Prop} : ∀ {d : D}, Cont M F H P d → ∃ u, P u ∧ Mut (some u)
  | .lst ds, ⟨vs, p, r⟩ => ⟨_, p, trivial⟩
  | .dck ks ds, ⟨vs, p, k, r⟩ => ⟨_, p, trivial⟩
  | .dct ks ds, ⟨vs, p, k, r⟩ => ⟨_, p, trivial⟩
  | .ins c fs ds, ⟨C, dx, vs, m, p, k, r⟩ => ⟨_, p, trivial⟩
/-- frozen -/
theorem Cont.rep {M : Md} {F : Addr → Prop} {H : Hp} {a : Addr} (f : F a) : ∀ {d : D}, Cont M F H (fun u => H a = some u) d → Rep M F H d (.ref a)
  | .lst ds, ⟨vs, p, r⟩ => by unfold Rep; exact ⟨a, vs, rfl, .inl ⟨f, .inl p⟩, r⟩
  | .dck ks ds, ⟨vs, p, k, r⟩ => by unfold Rep; exact ⟨a, vs, rfl, f, .inl p, k, r⟩
  | .dct ks ds, ⟨vs, p, k, r⟩ => by unfold Rep; exact ⟨a, vs, rfl, f, .inl p, k, r⟩
  | .ins c fs ds, ⟨C, dx, vs, m, p, k, r⟩ => by unfold Rep; exact ⟨a, C, dx, vs, rfl, f, m, p, k, r⟩

def noIns : HO → Bool
  | .ins _ _ _ => false
  | _ => true
/-- read, perhaps locked (no instance is) -/
def Rdx (H : Hp) (a : Addr) (u : HO) : Prop := H a = some u ∨ ∃ o, H a = some (.frz o u) ∧ noIns u = true
theorem Rdx.rd {H : Hp} {a : Addr} {u : HO} (h : Rdx H a u) : Rd H a u := h.elim .inl fun ⟨o, e, _⟩ => .inr ⟨o, e⟩
theorem Rdx.ins {H : Hp} {a C dx : Addr} {fs : List (Str × V)} (h : Rdx H a (.ins C dx fs)) : H a = some (.ins C dx fs) := h.elim id fun ⟨o, _, e⟩ => by cases e
/-- a slot: a value; an object of one's own; a caller's object; one that is read alone -/
inductive Sl where
  | val (d : D)
  | own (d : D)
  | ref (d : D)
  | rd (d : D)
def Sl.d : Sl → D
  | .val d => d
  | .own d => d
  | .ref d => d
  | .rd d => d
abbrev En := List (Option Sl)
def gt (ρ : En) (i : Nat) : Option Sl := (ρ[i]?).join
def gv (σ : St) (i : Nat) : Option V := (σ[i]?).join
def SlR (M : Md) (F : Addr → Prop) (H : Hp) : Sl → V → Prop
  | .val d, v => Rep M F H d v
  | .own d, v => ∃ a, v = .ref a ∧ ¬ F a ∧ Cont M F H (fun u => H a = some u) d
  | .ref d, v => ∃ a, v = .ref a ∧ ¬ F a ∧ Cont M F H (fun u => H a = some u) d
  | .rd d, v => ∃ a, v = .ref a ∧ ¬ F a ∧ Cont M F H (Rdx H a) d
def Sl.top : Sl → Bool
  | .val _ => false
  | _ => true
/-- the addresses of own objects, of a caller's -/
def OwnAt (σ : St) (ρ : En) (a : Addr) : Prop := ∃ i d, gt ρ i = some (.own d) ∧ gv σ i = some (.ref a)
def RefAt (σ : St) (ρ : En) (a : Addr) : Prop := ∃ i d, gt ρ i = some (.ref d) ∧ gv σ i = some (.ref a)

/-- the slots tell the state -/
structure SR (M : Md) (F : Addr → Prop) (H : Hp) (σ : St) (ρ : En) : Prop where
  len : σ.length = ρ.length
  dom : ∀ a, F a → H a ≠ none
  slot : ∀ i s, gt ρ i = some s → ∃ v, gv σ i = some v ∧ SlR M F H s v
  dist : ∀ i j s t a, gt ρ i = some s → gt ρ j = some t → s.top = true → t.top = true → gv σ i = some (.ref a) → gv σ j = some (.ref a) → i = j

/-- a step of the heap -/
structure Stp (F : Addr → Prop) (H : Hp) (O R : Addr → Prop) (F' : Addr → Prop) (H' : Hp) (O' R' : Addr → Prop) : Prop where
  fro : ∀ a, F a → F' a
  keep : ∀ a o, H a = some o → ¬ O a → ¬ R a → H' a = some o
  dom : ∀ a, H' a = none → H a = none
  new : ∀ a, F' a → F a ∨ H a = none ∨ O a
  own : ∀ a, O' a → O a ∨ H a = none
  ref : ∀ a, R' a → R a
theorem Stp.refl (F : Addr → Prop) (H : Hp) (O R : Addr → Prop) : Stp F H O R F H O R := ⟨fun _ h => h, fun _ _ h _ _ => h, fun _ h => h, fun _ h => .inl h, fun _ h => .inl h, fun _ h => h⟩
theorem Stp.trans {F F1 F2 O R O1 R1 O2 R2 : Addr → Prop} {H H1 H2 : Hp} (x : Stp F H O R F1 H1 O1 R1) (y : Stp F1 H1 O1 R1 F2 H2 O2 R2) : Stp F H O R F2 H2 O2 R2 := by
  refine ⟨fun a h => y.fro a (x.fro a h), fun a o h1 h2 h3 => y.keep a o (x.keep a o h1 h2 h3) (fun z => ?_) fun z => h3 (x.ref a z), fun a h => x.dom a (y.dom a h), fun a h => ?_, fun a h => ?_, fun a h => x.ref a (y.ref a h)⟩
  · rcases x.own a z with q | q
    · exact h2 q
    · rw [h1] at q; cases q
  · rcases y.new a h with q | q | q
    · exact x.new a q
    · exact .inr (.inl (x.dom a q))
    · rcases x.own a q with z | z
      · exact .inr (.inr z)
      · exact .inr (.inl z)
  · rcases y.own a h with q | q
    · exact x.own a q
    · exact .inr (x.dom a q)

section
variable {M : Md} {F F' : Addr → Prop} {H H' : Hp} {σ σ' : St} {ρ ρ' : En}
theorem SR.own_at (s : SR M F H σ ρ) {a : Addr} (h : OwnAt σ ρ a) : ¬ F a ∧ ∃ u, H a = some u ∧ Mut (some u) := by
  obtain ⟨i, d, h1, h2⟩ := h
  obtain ⟨v, h3, b, e, nf, c⟩ := s.slot i _ h1
  rw [h2] at h3
  cases h3
  cases e
  exact ⟨nf, c.some_of⟩
theorem SR.ref_at (s : SR M F H σ ρ) {a : Addr} (h : RefAt σ ρ a) : ¬ F a ∧ ∃ u, H a = some u ∧ Mut (some u) := by
  obtain ⟨i, d, h1, h2⟩ := h
  obtain ⟨v, h3, b, e, nf, c⟩ := s.slot i _ h1
  rw [h2] at h3
  cases h3
  cases e
  exact ⟨nf, c.some_of⟩
theorem SR.no_tup (s : SR M F H σ ρ) {a : Addr} {vs : List V} (h : Rd H a (.tup vs)) : ¬ OwnAt σ ρ a ∧ ¬ RefAt σ ρ a := by
  have key : ∀ u, H a = some u → Mut (some u) → False := fun u e m => by
    rcases h with h | ⟨o, h⟩
    · rw [h] at e; cases e; exact m
    · rw [h] at e; cases e; exact m
  exact ⟨fun z => by obtain ⟨_, u, e, m⟩ := s.own_at z; exact key u e m, fun z => by obtain ⟨_, u, e, m⟩ := s.ref_at z; exact key u e m⟩
theorem SR.ext (s : SR M F H σ ρ) {O' R' : Addr → Prop} (x : Stp F H (OwnAt σ ρ) (RefAt σ ρ) F' H' O' R') : Ext F H F' H' := by
  have k : ∀ a o, F a → H a = some o → H' a = some o := fun a o f e => x.keep a o e (fun z => (s.own_at z).1 f) fun z => (s.ref_at z).1 f
  refine ⟨x.fro, fun a u f r => ?_, fun a C dx fs f e => k a _ f e, fun a vs r => ?_⟩
  · rcases r with r | ⟨o, r⟩
    · exact .inl (k a _ f r)
    · exact .inr ⟨o, k a _ f r⟩
  · obtain ⟨n1, n2⟩ := s.no_tup r
    rcases r with r | ⟨o, r⟩
    · exact .inl (x.keep a _ r n1 n2)
    · exact .inr ⟨o, x.keep a _ r n1 n2⟩
end

/-- how a slot may change within an expression -/
def KpS : Option Sl → Option Sl → Prop
  | none, none => True
  | some (.val d), some (.val d') => d = d'
  | some (.own _), some (.own _) => True
  | some (.own _), some (.val _) => True
  | some (.ref _), some (.ref _) => True
  | some (.rd d), some (.rd d') => d = d'
  | _, _ => False
def Kp (ρ ρ' : En) : Prop := ρ.length = ρ'.length ∧ ∀ i, KpS (gt ρ i) (gt ρ' i)
theorem KpS.refl : ∀ s : Option Sl, KpS s s
  | none => trivial
  | some (.val _) => rfl
  | some (.own _) => trivial
  | some (.ref _) => trivial
  | some (.rd _) => rfl
theorem KpS.trans : ∀ {s t u : Option Sl}, KpS s t → KpS t u → KpS s u
  | none, none, none, _, _ => trivial
  | some (.val _), some (.val _), some (.val _), a, b => Eq.trans a b
  | some (.own _), some (.own _), some (.own _), _, _ => trivial
  | some (.own _), some (.own _), some (.val _), _, _ => trivial
  | some (.own _), some (.val _), some (.val _), _, _ => trivial
  | some (.ref _), some (.ref _), some (.ref _), _, _ => trivial
  | some (.rd _), some (.rd _), some (.rd _), a, b => Eq.trans a b
theorem Kp.refl (ρ : En) : Kp ρ ρ := ⟨rfl, fun _ => .refl _⟩
theorem Kp.trans {ρ ρ1 ρ2 : En} (a : Kp ρ ρ1) (b : Kp ρ1 ρ2) : Kp ρ ρ2 := ⟨a.1.trans b.1, fun i => (a.2 i).trans (b.2 i)⟩
theorem Kp.own {ρ ρ' : En} (k : Kp ρ ρ') {σ : St} {a : Addr} (h : OwnAt σ ρ' a) : OwnAt σ ρ a := by
  obtain ⟨i, d, h1, h2⟩ := h
  have z := k.2 i
  rw [h1] at z
  cases e : gt ρ i with
  | none => rw [e] at z; exact z.elim
  | some s =>
    rw [e] at z
    cases s with
    | own d' => exact ⟨i, d', e, h2⟩
    | _ => exact z.elim
theorem Kp.ref {ρ ρ' : En} (k : Kp ρ ρ') {σ : St} {a : Addr} (h : RefAt σ ρ' a) : RefAt σ ρ a := by
  obtain ⟨i, d, h1, h2⟩ := h
  have z := k.2 i
  rw [h1] at z
  cases e : gt ρ i with
  | none => rw [e] at z; exact z.elim
  | some s =>
    rw [e] at z
    cases s with
    | ref d' => exact ⟨i, d', e, h2⟩
    | _ => exact z.elim
theorem Kp.ref_to {ρ ρ' : En} (k : Kp ρ ρ') {σ : St} {a : Addr} (h : RefAt σ ρ a) : RefAt σ ρ' a := by
  obtain ⟨i, d, h1, h2⟩ := h
  have z := k.2 i
  rw [h1] at z
  cases e : gt ρ' i with
  | none => rw [e] at z; exact z.elim
  | some s =>
    rw [e] at z
    cases s with
    | ref d' => exact ⟨i, d', e, h2⟩
    | _ => exact z.elim

/-- behind an expression -/
structure Po (M : Md) (F : Addr → Prop) (H : Hp) (σ : St) (ρ : En) (F' : Addr → Prop) (H' : Hp) (ρ' : En) : Prop where
  stp : Stp F H (OwnAt σ ρ) (RefAt σ ρ) F' H' (OwnAt σ ρ') (RefAt σ ρ')
  sr : SR M F' H' σ ρ'
  kp : Kp ρ ρ'
section
variable {M : Md} {F F1 F2 : Addr → Prop} {H H1 H2 : Hp} {σ : St} {ρ ρ1 ρ2 : En}
theorem Po.refl (s : SR M F H σ ρ) : Po M F H σ ρ F H ρ := ⟨.refl _ _ _ _, s, .refl _⟩
theorem Po.trans (a : Po M F H σ ρ F1 H1 ρ1) (b : Po M F1 H1 σ ρ1 F2 H2 ρ2) : Po M F H σ ρ F2 H2 ρ2 :=
  ⟨a.stp.trans b.stp, b.sr, a.kp.trans b.kp⟩
theorem Po.ext (s : SR M F H σ ρ) (a : Po M F H σ ρ F1 H1 ρ1) : Ext F H F1 H1 := s.ext a.stp
end

/-- an exception: its class's name, its fields -/
structure Ex where
  cls : Str
  fs : List Str
  ds : List D
def ExR (M : Md) (F : Addr → Prop) (H : Hp) (x : Ex) (cls : Value) (d : Option Addr) : Prop :=
  ∃ C dx vs, M.mg x.cls = some (.ref C) ∧ cls = .ref C ∧ d = some dx ∧ H dx = some (.xd vs) ∧ vs.map (·.1) = x.fs ∧ RepL M F H x.ds (vs.map (·.2))

/-- what an expression comes to: a value, an object just made -/
inductive Rv where
  | val (d : D)
  | own (d : D)
def Rv.d : Rv → D
  | .val d => d
  | .own d => d
def RvR (M : Md) (H0 : Hp) (F : Addr → Prop) (H : Hp) : Rv → V → Prop
  | .val d, v => Rep M F H d v
  | .own d, v => ∃ a, v = .ref a ∧ ¬ F a ∧ H0 a = none ∧ Cont M F H (fun u => H a = some u) d

inductive Out (α : Type) where
  | ok (a : α) (ρ : En)
  | exc (x : Ex) (ρ : En)
  | bad
def Out.bind {α β : Type} (o : Out α) (f : α → En → Out β) : Out β := match o with
  | .ok a ρ => f a ρ
  | .exc x ρ => .exc x ρ
  | .bad => .bad
abbrev ES := En → Out Rv

/-- what is wanted of an outcome -/
def Want {α : Type} (M : Md) (W : WX) (F : Addr → Prop) (H : Hp) (σ : St) (ρ : En) (o : Out α) (Q : α → (Addr → Prop) → Hp → En → Prop) : Prop := match o with
  | .ok a ρ' => ∀ F' H', Po M F H σ ρ F' H' ρ' → Q a F' H' ρ'
  | .exc x ρ' => ∀ F' H' cls d, Po M F H σ ρ F' H' ρ' → ExR M F' H' x cls d → W cls d σ H'
  | .bad => False
/-- the reading of an expression -/
def tE (M : Md) (W : WX) (φ : ES) : TE := fun σ H Q => ∃ F ρ, SR M F H σ ρ ∧ Want M W F H σ ρ (φ ρ) fun r F' H' _ => ∀ v, RvR M H F' H' r v → Q v H'
end VF

namespace VF
open PySem PySem.Spec PyProof.Rows L2

theorem PE_imp {X : Cx} {e : Expr} {t t' : TE} (h : PE X e t) (f : ∀ σ H Q, t' σ H Q → t σ H Q) : PE X e t' := ⟨fun pins s σ H Q I q => h.run pins s σ H Q I (f σ H Q q)⟩
theorem PT_imp {X : Cx} {e : Expr} {t t' : TT} (h : PT X e t) (f : ∀ σ H Q, t' σ H Q → t σ H Q) : PT X e t' := ⟨fun pins s σ H Q I q => h.run pins s σ H Q I (f σ H Q q)⟩
theorem PW_imp {X : Cx} {e : Expr} {t t' : TT} (h : PW X e t) (f : ∀ σ H Q, t' σ H Q → t σ H Q) : PW X e t' := ⟨fun whole pins s σ H Q I q => h.run whole pins s σ H Q I (f σ H Q q)⟩
theorem PA_imp {X : Cx} {e : List Expr} {t t' : TA} (h : PA X e t) (f : ∀ σ H Q, t' σ H Q → t σ H Q) : PA X e t' := ⟨fun pos pins s σ H Q I q => h.run pos pins s σ H Q I (f σ H Q q)⟩
theorem PS_imp {X : Cx} {e : Stmt} {t t' : TS} (h : PS X e t) (f : ∀ D σ H, t' D σ H → t D σ H) : PS X e t' := ⟨fun pins s σ H D I q => h.run pins s σ H D I (f D σ H q)⟩
theorem PSs_imp {X : Cx} {e : List Stmt} {t t' : TS} (h : PSs X e t) (f : ∀ D σ H, t' D σ H → t D σ H) : PSs X e t' := ⟨fun pins s σ H D I q => h.run pins s σ H D I (f D σ H q)⟩

theorem gt_set_self {ρ : En} {i : Nat} {s : Option Sl} (h : i < ρ.length) : gt (ρ.set i s) i = s := by
  unfold gt
  rw [List.getElem?_set_self h]
  rfl
theorem gt_set_ne {ρ : En} {i j : Nat} {s : Option Sl} (h : i ≠ j) : gt (ρ.set i s) j = gt ρ j := by
  unfold gt
  rw [List.getElem?_set_ne h]
theorem gv_set_self {σ : St} {i : Nat} {s : Option V} (h : i < σ.length) : gv (σ.set i s) i = s := by
  unfold gv
  rw [List.getElem?_set_self h]
  rfl
theorem gv_set_ne {σ : St} {i j : Nat} {s : Option V} (h : i ≠ j) : gv (σ.set i s) j = gv σ j := by
  unfold gv
  rw [List.getElem?_set_ne h]
theorem gt_lt {ρ : En} {i : Nat} {s : Sl} (h : gt ρ i = some s) : i < ρ.length := by
  unfold gt at h
  cases e : ρ[i]? with
  | none => rw [e] at h; cases h
  | some x => exact (List.getElem?_eq_some_iff.mp e).1
theorem gv_some {σ : St} {i : Nat} {v : V} (h : gv σ i = some v) : σ[i]? = some (some v) := by
  unfold gv at h
  cases e : σ[i]? with
  | none => rw [e] at h; cases h
  | some x => rw [e] at h; cases x with
    | none => cases h
    | some y => rw [show y = v from Option.some.inj h]
theorem gv_of {σ : St} {i : Nat} {v : V} (h : σ[i]? = some (some v)) : gv σ i = some v := by
  unfold gv
  rw [h]
  rfl

section
variable {M : Md} {F F' : Addr → Prop} {H H' : Hp} {σ : St} {ρ ρ' : En}
/-- a top slot's address stands in the heap -/
theorem SR.top_at (s : SR M F H σ ρ) {i : Nat} {t : Sl} (h : gt ρ i = some t) (ht : t.top = true) : ∃ a u, gv σ i = some (.ref a) ∧ ¬ F a ∧ H a = some u := by
  obtain ⟨v, e, r⟩ := s.slot i t h
  cases t with
  | val d => cases ht
  | own d =>
    obtain ⟨a, rfl, nf, c⟩ := r
    obtain ⟨u, q, _⟩ := c.some_of
    exact ⟨a, u, e, nf, q⟩
  | ref d =>
    obtain ⟨a, rfl, nf, c⟩ := r
    obtain ⟨u, q, _⟩ := c.some_of
    exact ⟨a, u, e, nf, q⟩
  | rd d =>
    obtain ⟨a, rfl, nf, c⟩ := r
    obtain ⟨u, q, _⟩ := c.some_of
    rcases q with q | ⟨o, q, _⟩
    · exact ⟨a, _, e, nf, q⟩
    · exact ⟨a, _, e, nf, q⟩
theorem Kp.top_of (k : Kp ρ ρ') {i : Nat} {t : Sl} (h : gt ρ' i = some t) (ht : t.top = true) : ∃ t', gt ρ i = some t' ∧ t'.top = true := by
  have z := k.2 i
  rw [h] at z
  cases e : gt ρ i with
  | none => rw [e] at z; exact z.elim
  | some s =>
    rw [e] at z
    refine ⟨s, rfl, ?_⟩
    cases s with
    | val d => cases t with
      | val d' => cases ht
      | _ => exact z.elim
    | _ => rfl
/-- more is frozen, all tops apart -/
theorem SR.fro (s : SR M F H σ ρ) (x : Ext F H F' H') (hk : ∀ i t a o, gt ρ i = some t → t.top = true → gv σ i = some (.ref a) → H a = some o → ¬ F' a ∧ H' a = some o) (hd : ∀ a, F' a → H' a ≠ none) : SR M F' H' σ ρ := by
  refine ⟨s.len, hd, fun i t h => ?_, s.dist⟩
  obtain ⟨v, e, r⟩ := s.slot i t h
  refine ⟨v, e, ?_⟩
  cases t with
  | val d => exact Rep.mono x d r
  | own d =>
    obtain ⟨a, rfl, nf, c⟩ := r
    obtain ⟨u, q, _⟩ := c.some_of
    obtain ⟨k1, k2⟩ := hk i _ a _ h rfl e q
    exact ⟨a, rfl, k1, c.mono x fun w (hw : H a = some w) => by rw [q] at hw; cases hw; exact k2⟩
  | ref d =>
    obtain ⟨a, rfl, nf, c⟩ := r
    obtain ⟨u, q, _⟩ := c.some_of
    obtain ⟨k1, k2⟩ := hk i _ a _ h rfl e q
    exact ⟨a, rfl, k1, c.mono x fun w (hw : H a = some w) => by rw [q] at hw; cases hw; exact k2⟩
  | rd d =>
    obtain ⟨a, rfl, nf, c⟩ := r
    refine ⟨a, rfl, ?_, c.mono x fun w hw => ?_⟩
    · obtain ⟨b, u, e2, _, q⟩ := s.top_at h rfl
      rw [e] at e2; cases e2
      exact (hk i _ a _ h rfl e q).1
    · rcases hw with q | ⟨o, q, z⟩
      · exact .inl (hk i _ a _ h rfl e q).2
      · exact .inr ⟨o, (hk i _ a _ h rfl e q).2, z⟩

/-- what a primitive may do: it makes new objects -/
structure New (F : Addr → Prop) (H : Hp) (F' : Addr → Prop) (H' : Hp) : Prop where
  keep : ∀ a o, H a = some o → H' a = some o
  fro : ∀ a, F a → F' a
  new : ∀ a, F' a → F a ∨ H a = none
  dom : ∀ a, F' a → H' a ≠ none
theorem New.refl (hd : ∀ a, F a → H a ≠ none) : New F H F H := ⟨fun _ _ h => h, fun _ h => h, fun _ h => .inl h, hd⟩
theorem New.ext (n : New F H F' H') : Ext F H F' H' := ⟨n.fro, fun a u _ r => by
  rcases r with r | ⟨o, r⟩
  · exact .inl (n.keep a _ r)
  · exact .inr ⟨o, n.keep a _ r⟩, fun a _ _ _ _ e => n.keep a _ e, fun a vs r => by
  rcases r with r | ⟨o, r⟩
  · exact .inl (n.keep a _ r)
  · exact .inr ⟨o, n.keep a _ r⟩⟩
theorem New.po (s : SR M F H σ ρ) (n : New F H F' H') : Po M F H σ ρ F' H' ρ := by
  refine ⟨⟨n.fro, fun a o e _ _ => n.keep a o e, fun a h => ?_, fun a h => ?_, fun _ h => .inl h, fun _ h => h⟩, s.fro n.ext (fun i t a o h ht e q => ⟨fun z => ?_, n.keep a o q⟩) n.dom, .refl _⟩
  · cases q : H a with
    | none => rfl
    | some o => rw [n.keep a o q] at h; cases h
  · rcases n.new a h with z | z
    · exact .inl z
    · exact .inr (.inl z)
  · rcases n.new a z with y | y
    · obtain ⟨b, u, e2, nf, _⟩ := s.top_at h ht
      rw [e] at e2; cases e2
      exact nf y
    · rw [q] at y; cases y
/-- a new object, to be owned; to be frozen -/
theorem New.laid (hd : ∀ a, F a → H a ≠ none) {p : Addr} {o : HO} (hp : H p = none) : New F H F (upd H p o) :=
  ⟨fun a u e => by rw [upd_ne (ne_of_none e hp)]; exact e, fun _ h => h, fun _ h => .inl h, fun a h e => by
    have := hd a h
    cases q : H a with
    | none => exact this q
    | some u => rw [upd_ne (ne_of_none q hp), q] at e; cases e⟩

theorem freeze {H0 : Hp} {F0 : Addr → Prop} {ρ0 : En} (s : SR M F0 H0 σ ρ0) (po : Po M F0 H0 σ ρ0 F H ρ) {r : Rv} {v : V} (rv : RvR M H0 F H r v) :
    ∃ F', Po M F0 H0 σ ρ0 F' H ρ ∧ Rep M F' H r.d v ∧ Ext F H F' H := by
  cases r with
  | val d => exact ⟨F, po, rv, .refl _ _⟩
  | own d =>
    obtain ⟨a, rfl, nf, h0, c⟩ := rv
    have x : Ext F H (fun b => F b ∨ b = a) H := ⟨fun _ h => .inl h, fun _ _ _ h => h, fun _ _ _ _ _ h => h, fun _ _ h => h⟩
    refine ⟨fun b => F b ∨ b = a, ⟨⟨fun b h => .inl (po.stp.fro b h), po.stp.keep, po.stp.dom, fun b h => ?_, po.stp.own, po.stp.ref⟩, po.sr.fro x (fun i t b o h ht e q => ⟨fun z => ?_, q⟩) fun b h => ?_, po.kp⟩, (c.mono x fun _ h => h).rep (.inr rfl), x⟩
    · rcases h with h | rfl
      · exact po.stp.new b h
      · exact .inr (.inl h0)
    · obtain ⟨t', h', ht'⟩ := po.kp.top_of h ht
      obtain ⟨b', u, e', _, q'⟩ := s.top_at h' ht'
      rw [e] at e'; cases e'
      rcases z with z | rfl
      · obtain ⟨b', u', e', nf', _⟩ := po.sr.top_at h ht
        rw [e] at e'; cases e'
        exact nf' z
      · rw [h0] at q'; cases q'
    · rcases h with h | rfl
      · exact po.sr.dom b h
      · obtain ⟨u, q, _⟩ := c.some_of
        intro z
        have q' : H b = some u := q
        rw [z] at q'; cases q'
end

/-- an operand: an expression, or a name whose object may be one's own -/
inductive Opd where
  | ex (φ : ES)
  | sl (i : Nat)
inductive Ov where
  | val (d : D)
  | at (i : Nat)
def Opd.ev : Opd → En → Out Ov
  | .ex φ, ρ => (φ ρ).bind fun r ρ' => .ok (.val r.d) ρ'
  | .sl i, ρ => match gt ρ i with
    | some _ => .ok (.at i) ρ
    | none => .bad
def evs : List Opd → En → Out (List Ov)
  | [], ρ => .ok [] ρ
  | o :: os, ρ => (o.ev ρ).bind fun x ρ1 => (evs os ρ1).bind fun xs ρ2 => .ok (x :: xs) ρ2
def Ov.dat (ρ : En) : Ov → Option D
  | .val d => some d
  | .at i => (gt ρ i).map Sl.d
def dats (ρ : En) : List Ov → Option (List D)
  | [] => some []
  | x :: xs => match x.dat ρ, dats ρ xs with
    | some d, some ds => some (d :: ds)
    | _, _ => none
def tO (M : Md) (W : WX) : Opd → TE
  | .ex φ => tE M W φ
  | .sl i => tVar i
def tOs (M : Md) (W : WX) : List Opd → TA
  | [] => tNil
  | o :: os => tCons (tO M W o) (tOs M W os)
def OvR (M : Md) (F : Addr → Prop) (H : Hp) (σ : St) : Ov → V → Prop
  | .val d, v => Rep M F H d v
  | .at i, v => gv σ i = some v
def OvRs (M : Md) (F : Addr → Prop) (H : Hp) (σ : St) : List Ov → List V → Prop
  | [], vs => vs = []
  | x :: xs, vs => ∃ v r, vs = v :: r ∧ OvR M F H σ x v ∧ OvRs M F H σ xs r
theorem OvR.mono {M : Md} {F F' : Addr → Prop} {H H' : Hp} {σ : St} (x : Ext F H F' H') : ∀ {o : Ov} {v : V}, OvR M F H σ o v → OvR M F' H' σ o v
  | .val d, _, h => Rep.mono x d h
  | .at _, _, h => h
theorem OvRs.mono {M : Md} {F F' : Addr → Prop} {H H' : Hp} {σ : St} (x : Ext F H F' H') : ∀ {o : List Ov} {v : List V}, OvRs M F H σ o v → OvRs M F' H' σ o v
  | [], _, h => h
  | _ :: _, _, ⟨v, r, e, p, q⟩ => ⟨v, r, e, p.mono x, q.mono x⟩

section
variable {M : Md} {W : WX} {F : Addr → Prop} {H : Hp} {σ : St} {ρ : En}
theorem tE_of (s : SR M F H σ ρ) {φ : ES} {Q : VK} (h : Want M W F H σ ρ (φ ρ) fun r F' H' _ => ∀ v, RvR M H F' H' r v → Q v H') : tE M W φ σ H Q := ⟨F, ρ, s, h⟩
theorem op_run (s : SR M F H σ ρ) {o : Opd} {Q : VK} (h : Want M W F H σ ρ (o.ev ρ) fun x F' H' _ => ∀ v, OvR M F' H' σ x v → Q v H') : tO M W o σ H Q := by
  cases o with
  | sl i =>
    cases e : gt ρ i with
    | none => simp only [Opd.ev, e] at h; exact h.elim
    | some t =>
      simp only [Opd.ev, e] at h
      obtain ⟨v, hv, _⟩ := s.slot i t e
      exact ⟨v, gv_some hv, h F H (.refl s) v hv⟩
  | ex φ =>
    refine tE_of s ?_
    cases e : φ ρ with
    | bad => simp only [Opd.ev, e] at h; exact h
    | exc x ρ' => simp only [Opd.ev, e] at h; exact h
    | ok r ρ' =>
      simp only [Opd.ev, e] at h
      intro F' H' po v rv
      obtain ⟨F2, po2, rp, _⟩ := freeze s po rv
      exact h F2 H' po2 v rp
theorem ops_run : ∀ (os : List Opd) {F : Addr → Prop} {H : Hp} {ρ : En} (_ : SR M F H σ ρ) {Q : List V → Hp → Prop} (_ : Want M W F H σ ρ (evs os ρ) fun xs F' H' _ => ∀ vs, OvRs M F' H' σ xs vs → Q vs H'), tOs M W os σ H Q
  | [], F, H, ρ, s, Q, h => h F H (.refl s) [] rfl
  | o :: os, F, H, ρ, s, Q, h => by
    show tO M W o σ H fun x H1 => tOs M W os σ H1 fun xs H2 => Q (x :: xs) H2
    refine op_run s ?_
    unfold evs at h
    cases e : o.ev ρ with
    | bad => rw [e] at h; exact h
    | exc x ρ' => rw [e] at h; exact h
    | ok x ρ1 =>
      rw [e] at h
      intro F1 H1 po1 v rv
      refine ops_run os po1.sr ?_
      have h : Want M W F H σ ρ ((evs os ρ1).bind fun xs ρ2 => .ok (x :: xs) ρ2) fun xs F' H' _ => ∀ vs, OvRs M F' H' σ xs vs → Q vs H' := h
      cases e2 : evs os ρ1 with
      | bad => rw [e2] at h; exact h
      | exc y ρ2 =>
        rw [e2] at h
        exact fun F2 H2 cls d po2 xr => h F2 H2 cls d (po1.trans po2) xr
      | ok xs ρ2 =>
        rw [e2] at h
        exact fun F2 H2 po2 vs rs => h F2 H2 (po1.trans po2) (v :: vs) ⟨v, vs, rfl, rv.mono (po2.ext po1.sr), rs⟩
end

/-- an operand as it is read -/
def OdR (M : Md) (F : Addr → Prop) (H : Hp) (d : D) (v : V) : Prop := Rep M F H d v ∨ ∃ a, v = .ref a ∧ ¬ F a ∧ Cont M F H (Rdx H a) d
def OdRs (M : Md) (F : Addr → Prop) (H : Hp) : List D → List V → Prop
  | [], vs => vs = []
  | d :: ds, vs => ∃ v r, vs = v :: r ∧ OdR M F H d v ∧ OdRs M F H ds r
section
variable {M : Md} {F : Addr → Prop} {H : Hp} {σ : St} {ρ : En}
theorem SlR.od : ∀ {s : Sl} {v : V}, SlR M F H s v → OdR M F H s.d v
  | .val d, _, h => .inl h
  | .own d, _, ⟨a, e, nf, c⟩ => .inr ⟨a, e, nf, c.mono (.refl _ _) fun _ h => .inl h⟩
  | .ref d, _, ⟨a, e, nf, c⟩ => .inr ⟨a, e, nf, c.mono (.refl _ _) fun _ h => .inl h⟩
  | .rd d, _, ⟨a, e, nf, c⟩ => .inr ⟨a, e, nf, c⟩
theorem OvR.od (s : SR M F H σ ρ) {x : Ov} {v : V} {d : D} (h : OvR M F H σ x v) (e : x.dat ρ = some d) : OdR M F H d v := by
  cases x with
  | val d' =>
    cases e
    exact .inl h
  | «at» i =>
    cases q : gt ρ i with
    | none => simp only [Ov.dat, q] at e; cases e
    | some t =>
      simp only [Ov.dat, q] at e
      cases e
      obtain ⟨v', hv, r⟩ := s.slot i t q
      have hv2 : gv σ i = some v := h
      rw [hv] at hv2
      cases hv2
      exact r.od
theorem OvRs.od (s : SR M F H σ ρ) : ∀ {xs : List Ov} {vs : List V} {ds : List D}, OvRs M F H σ xs vs → dats ρ xs = some ds → OdRs M F H ds vs
  | [], _, _, h, e => by cases e; exact h
  | x :: xs, _, ds, ⟨v, r, e1, p, q⟩, e => by
    unfold dats at e
    cases e2 : x.dat ρ with
    | none => rw [e2] at e; cases e
    | some d =>
      cases e3 : dats ρ xs with
      | none => rw [e2, e3] at e; cases e
      | some ds' =>
        rw [e2, e3] at e
        cases e
        exact ⟨v, r, e1, p.od s e2, OvRs.od s q e3⟩
end

/-- a primitive of operands -/
def app (f : List D → Option Rv) (os : List Opd) : ES := fun ρ => (evs os ρ).bind fun xs ρ' => match dats ρ' xs with
  | some ds => (match f ds with
    | some r => .ok r ρ'
    | none => .bad)
  | none => .bad
def PrimOK (M : Md) (r : List V → Hp → VK → Prop) (f : List D → Option Rv) : Prop :=
  ∀ (F : Addr → Prop) (H : Hp) (ds : List D) (vs : List V) (rv : Rv) (Q : VK), (∀ a, F a → H a ≠ none) → OdRs M F H ds vs → f ds = some rv → (∀ F' H' v, New F H F' H' → RvR M H F' H' rv v → Q v H') → r vs H Q
theorem RvR.from {M : Md} {H0 H1 H : Hp} {F : Addr → Prop} {r : Rv} {v : V} (h : RvR M H1 F H r v) (k : ∀ a, H1 a = none → H0 a = none) : RvR M H0 F H r v := by
  cases r with
  | val d => exact h
  | own d =>
    obtain ⟨a, e, nf, z, c⟩ := h
    exact ⟨a, e, nf, k a z, c⟩
section
variable {M : Md} {W : WX} {F : Addr → Prop} {H : Hp} {σ : St} {ρ : En}
theorem app_run {r : List V → Hp → VK → Prop} {f : List D → Option Rv} (pk : PrimOK M r f) {os : List Opd} {Q : VK} (h : tE M W (app f os) σ H Q) : tOs M W os σ H fun vs H1 => r vs H1 Q := by
  obtain ⟨F, ρ, s, h⟩ := h
  refine ops_run os s ?_
  cases e : evs os ρ with
  | bad => simp only [app, e] at h; exact h
  | exc x ρ' => simp only [app, e] at h; exact h
  | ok xs ρ1 =>
    simp only [app, e, Out.bind] at h
    intro F1 H1 po1 vs rs
    cases e2 : dats ρ1 xs with
    | none => simp only [e2] at h; exact h.elim
    | some ds =>
      cases e3 : f ds with
      | none => simp only [e2, e3] at h; exact h.elim
      | some rv =>
        simp only [e2, e3] at h
        refine pk F1 H1 ds vs rv Q po1.sr.dom (rs.od po1.sr e2) e3 fun F2 H2 v n rr => ?_
        exact h F2 H2 (po1.trans (n.po po1.sr)) v (rr.from fun a z => po1.stp.dom a z)
end
end VF

namespace VF
open PySem PySem.Spec PyProof.Rows L2

mutual
/-- == as Python has it -/
def D.eq : D → D → Bool
  | .non, .non => true
  | .bl a, .bl b => a == b
  | .bl a, .int j => (if a then 1 else 0) == j
  | .int i, .bl b => i == (if b then 1 else 0)
  | .int i, .int j => i == j
  | .str x, .str y => x == y
  | .lst xs, .lst ys => D.eqs xs ys
  | .tup xs, .tup ys => D.eqs xs ys
  | _, _ => false
def D.eqs : List D → List D → Bool
  | [], [] => true
  | x :: xs, y :: ys => D.eq x y && D.eqs xs ys
  | _, _ => false
end
/-- plain data, of a depth below n -/
def pl : Nat → D → Bool
  | 0, _ => false
  | _ + 1, .non => true
  | _ + 1, .bl _ => true
  | _ + 1, .int _ => true
  | _ + 1, .str _ => true
  | n + 1, .tup ds => ds.all (pl n)
  | n + 1, .lst ds => ds.all (pl n)
  | _ + 1, _ => false
theorem str_beq_self (x : Str) : (x == x) = true := by simp
mutual
theorem D.eq_refl : ∀ (d : D) (n : Nat), pl n d = true → D.eq d d = true
  | .non, _, _ => by simp [D.eq]
  | .bl _, _, _ => by simp [D.eq]
  | .int _, _, _ => by simp [D.eq]
  | .str x, _, _ => by simp [D.eq]
  | .tup ds, 0, h => by cases h
  | .lst ds, 0, h => by cases h
  | .tup ds, n + 1, h => by
    unfold D.eq
    exact D.eqs_refl ds n (by simpa [pl] using h)
  | .lst ds, n + 1, h => by
    unfold D.eq
    exact D.eqs_refl ds n (by simpa [pl] using h)
  | .dck _ _, 0, h => by cases h
  | .dck _ _, _ + 1, h => by simp [pl] at h
  | .dct _ _, 0, h => by cases h
  | .dct _ _, _ + 1, h => by simp [pl] at h
  | .ins _ _ _, 0, h => by cases h
  | .ins _ _ _, _ + 1, h => by simp [pl] at h
theorem D.eqs_refl : ∀ (ds : List D) (n : Nat), (∀ d ∈ ds, pl n d = true) → D.eqs ds ds = true
  | [], _, _ => by simp [D.eqs]
  | d :: ds, n, h => by
    unfold D.eqs
    rw [D.eq_refl d n (h d List.mem_cons_self), D.eqs_refl ds n fun x hx => h x (List.mem_cons_of_mem _ hx)]
    rfl
end
def pairD (xs ys : List D) (j : Nat) : Bool := match xs[j]?, ys[j]? with
  | some x, some y => D.eq x y
  | _, _ => true
theorem eqs_range : ∀ xs ys : List D, ((List.range (min xs.length ys.length)).all (pairD xs ys) && xs.length == ys.length) = D.eqs xs ys
  | [], [] => by simp [D.eqs]
  | [], _ :: _ => by simp [D.eqs]
  | _ :: _, [] => by simp [D.eqs]
  | x :: xs, y :: ys => by
    have ih := eqs_range xs ys
    unfold D.eqs
    rw [← ih]
    have e : min (x :: xs).length (y :: ys).length = min xs.length ys.length + 1 := by simp only [List.length_cons]; omega
    rw [e, List.range_succ_eq_map, List.all_cons, List.all_map]
    have e2 : (pairD (x :: xs) (y :: ys) ∘ Nat.succ) = pairD xs ys := by
      funext j
      simp [pairD, Function.comp]
    rw [e2]
    have e3 : pairD (x :: xs) (y :: ys) 0 = D.eq x y := by simp [pairD]
    rw [e3, Bool.and_assoc]
    simp
theorem eqs_len {xs ys : List D} (h : xs.length = ys.length) : (List.range xs.length).all (pairD xs ys) = D.eqs xs ys := by
  rw [← eqs_range xs ys, h, Nat.min_self]
  simp
theorem eqs_ne {xs ys : List D} (h : xs.length ≠ ys.length) : D.eqs xs ys = false := by
  rw [← eqs_range xs ys]
  simp [h]

theorem RepL.length {M : Md} {F : Addr → Prop} {H : Hp} : ∀ {ds : List D} {vs : List V}, RepL M F H ds vs → ds.length = vs.length
  | [], _, h => by unfold RepL at h; subst h; rfl
  | d :: ds, _, h => by
    unfold RepL at h
    obtain ⟨v, r, rfl, _, q⟩ := h
    simp [RepL.length q]
theorem RepL.get {M : Md} {F : Addr → Prop} {H : Hp} : ∀ {ds : List D} {vs : List V} {j : Nat} {d : D}, RepL M F H ds vs → ds[j]? = some d → ∃ v, vs[j]? = some v ∧ Rep M F H d v
  | [], _, _, _, _, e => by simp at e
  | d :: ds, _, j, d', h, e => by
    unfold RepL at h
    obtain ⟨v, r, rfl, p, q⟩ := h
    cases j with
    | zero =>
      simp at e
      subst e
      exact ⟨v, rfl, p⟩
    | succ j =>
      obtain ⟨w, h1, h2⟩ := RepL.get (j := j) (d := d') q (by simpa using e)
      exact ⟨w, by simpa using h1, h2⟩
theorem RepL.getV {M : Md} {F : Addr → Prop} {H : Hp} : ∀ {ds : List D} {vs : List V} {j : Nat} {v : V}, RepL M F H ds vs → vs[j]? = some v → ∃ d, ds[j]? = some d ∧ Rep M F H d v
  | [], _, _, _, h, e => by unfold RepL at h; subst h; simp at e
  | d :: ds, _, j, v', h, e => by
    unfold RepL at h
    obtain ⟨v, r, rfl, p, q⟩ := h
    cases j with
    | zero =>
      simp at e
      subst e
      exact ⟨d, rfl, p⟩
    | succ j =>
      obtain ⟨w, h1, h2⟩ := RepL.getV (j := j) (v := v') q (by simpa using e)
      exact ⟨w, by simpa using h1, h2⟩

section
variable {M : Md} {F : Addr → Prop} {H : Hp}
theorem OdR.non {v : V} (h : OdR M F H .non v) : v = .non := by
  rcases h with h | ⟨_, _, _, c⟩
  · unfold Rep at h; exact h
  · exact c.elim
theorem OdR.bl {b : Bool} {v : V} (h : OdR M F H (.bl b) v) : v = .bl b := by
  rcases h with h | ⟨_, _, _, c⟩
  · unfold Rep at h; exact h
  · exact c.elim
theorem OdR.int {b : Int} {v : V} (h : OdR M F H (.int b) v) : v = .int b := by
  rcases h with h | ⟨_, _, _, c⟩
  · unfold Rep at h; exact h
  · exact c.elim
theorem OdR.str {b : Str} {v : V} (h : OdR M F H (.str b) v) : v = .str b := by
  rcases h with h | ⟨_, _, _, c⟩
  · unfold Rep at h; exact h
  · exact c.elim
theorem OdR.tup {ds : List D} {v : V} (h : OdR M F H (.tup ds) v) : ∃ a vs, v = .ref a ∧ SqT M.K H a vs ∧ RepL M F H ds vs := by
  rcases h with h | ⟨_, _, _, c⟩
  · unfold Rep at h; exact h
  · exact c.elim
theorem OdR.lst {ds : List D} {v : V} (h : OdR M F H (.lst ds) v) : ∃ a vs, v = .ref a ∧ SqL M.K H a vs ∧ RepL M F H ds vs := by
  rcases h with h | ⟨a, e, _, vs, p, r⟩
  · unfold Rep at h
    obtain ⟨a, vs, e, p, r⟩ := h
    exact ⟨a, vs, e, p.imp (·.2) id, r⟩
  · exact ⟨a, vs, e, .inl p.rd, r⟩
theorem OdR.dck {ks : List Key} {ds : List D} {v : V} (h : OdR M F H (.dck ks ds) v) : ∃ a vs, v = .ref a ∧ Rd H a (.dK vs) ∧ vs.map (·.1) = ks ∧ RepL M F H ds (vs.map (·.2)) := by
  rcases h with h | ⟨a, e, _, vs, p, k, r⟩
  · unfold Rep at h
    obtain ⟨a, vs, e, _, p, k, r⟩ := h
    exact ⟨a, vs, e, p, k, r⟩
  · exact ⟨a, vs, e, p.rd, k, r⟩
theorem OdR.dct {ks : List (List Key)} {ds : List D} {v : V} (h : OdR M F H (.dct ks ds) v) : ∃ a vs, v = .ref a ∧ Rd H a (.dT vs) ∧ vs.map (·.1) = ks ∧ RepL M F H ds (vs.map (·.2)) := by
  rcases h with h | ⟨a, e, _, vs, p, k, r⟩
  · unfold Rep at h
    obtain ⟨a, vs, e, _, p, k, r⟩ := h
    exact ⟨a, vs, e, p, k, r⟩
  · exact ⟨a, vs, e, p.rd, k, r⟩
theorem OdR.ins {c : Str} {fs : List Str} {ds : List D} {v : V} (h : OdR M F H (.ins c fs ds) v) : ∃ a C dx vs, v = .ref a ∧ (c ∈ M.cls ∧ M.mg c = some (.ref C)) ∧ H a = some (.ins C dx vs) ∧ vs.map (·.1) = fs ∧ RepL M F H ds (vs.map (·.2)) := by
  rcases h with h | ⟨a, e, _, C, dx, vs, m, p, k, r⟩
  · unfold Rep at h
    obtain ⟨a, C, dx, vs, e, _, m, p, k, r⟩ := h
    exact ⟨a, C, dx, vs, e, m, p, k, r⟩
  · exact ⟨a, C, dx, vs, e, m, p.ins, k, r⟩
theorem OdRs.nil {vs : List V} (h : OdRs M F H [] vs) : vs = [] := h
theorem OdRs.one {d : D} {vs : List V} (h : OdRs M F H [d] vs) : ∃ v, vs = [v] ∧ OdR M F H d v := by
  obtain ⟨v, r, rfl, p, q⟩ := h
  rw [show r = [] from q]
  exact ⟨v, rfl, p⟩
theorem OdRs.two {d e : D} {vs : List V} (h : OdRs M F H [d, e] vs) : ∃ v w, vs = [v, w] ∧ OdR M F H d v ∧ OdR M F H e w := by
  obtain ⟨v, r, rfl, p, q⟩ := h
  obtain ⟨w, rfl, p2⟩ := OdRs.one q
  exact ⟨v, w, rfl, p, p2⟩
theorem OdRs.three {d e f : D} {vs : List V} (h : OdRs M F H [d, e, f] vs) : ∃ v w x, vs = [v, w, x] ∧ OdR M F H d v ∧ OdR M F H e w ∧ OdR M F H f x := by
  obtain ⟨v, r, rfl, p, q⟩ := h
  obtain ⟨w, x, rfl, p2, p3⟩ := OdRs.two q
  exact ⟨v, w, x, rfl, p, p2, p3⟩
theorem Rd.inj {a : Addr} {xs ys : List V} (h : Rd H a (.lst xs)) (h' : Rd H a (.lst ys)) : xs = ys := by
  rcases h with h | ⟨o, h⟩ <;> rcases h' with h' | ⟨o', h'⟩ <;> rw [h] at h' <;> cases h' <;> rfl
end

section
variable {M : Md} {X : Cx} {pins : List (Addr × Obj)} {F : Addr → Prop} {σ : St} {H : Hp} {s : Shared}
mutual
theorem rep_inj (I : Inv X pins σ H s) (hK : X.K = M.K) : ∀ (d : D) (n : Nat) (e : D) (v : V), pl n d = true → pl n e = true → Rep M F H d v → Rep M F H e v → d = e
  | d, 0, _, _, h, _, _, _ => by cases d <;> cases h
  | .non, n + 1, e, v, _, h2, r1, r2 => by
    unfold Rep at r1
    subst r1
    cases e <;> first | (exact rfl) | (simp [Rep] at r2) | (simp [pl] at h2)
  | .bl b, n + 1, e, v, _, h2, r1, r2 => by
    unfold Rep at r1
    subst r1
    cases e <;> first | (simp [Rep] at r2; done) | (simp [pl] at h2; done) | (simp [Rep] at r2; rw [r2])
  | .int b, n + 1, e, v, _, h2, r1, r2 => by
    unfold Rep at r1
    subst r1
    cases e <;> first | (simp [Rep] at r2; done) | (simp [pl] at h2; done) | (simp [Rep] at r2; rw [r2])
  | .str b, n + 1, e, v, _, h2, r1, r2 => by
    unfold Rep at r1
    subst r1
    cases e <;> first | (simp [Rep] at r2; done) | (simp [pl] at h2; done) | (simp [Rep] at r2; rw [r2])
  | .tup ds, n + 1, e, v, h1, h2, r1, r2 => by
    unfold Rep at r1
    obtain ⟨a, vs, rfl, q1, l1⟩ := r1
    cases e with
    | tup es =>
      unfold Rep at r2
      obtain ⟨b, ws, e, q2, l2⟩ := r2
      cases e
      rw [← hK] at q1 q2
      have e := I.tuple_inj q1 q2
      subst e
      rw [reps_inj I hK ds n es vs (by simpa [pl] using h1) (by simpa [pl] using h2) l1 l2]
    | lst es =>
      unfold Rep at r2
      obtain ⟨b, ws, e, q2, l2⟩ := r2
      cases e
      obtain ⟨_, _, ⟨o, ho, hc, _⟩, _⟩ := I.tuple (show SqT X.K H a vs by rw [hK]; exact q1)
      obtain ⟨_, _, ⟨o', _, ho', hc', _⟩, _⟩ := I.list (show SqL X.K H a ws by rw [hK]; exact q2.imp (·.2) id)
      rw [ho] at ho'
      cases ho'
      rw [hc] at hc'
      exact absurd hc' (by simp)
    | _ => first | (simp [Rep] at r2; done) | (simp [pl] at h2; done)
  | .lst ds, n + 1, e, v, h1, h2, r1, r2 => by
    unfold Rep at r1
    obtain ⟨a, vs, rfl, q1, l1⟩ := r1
    cases e with
    | lst es =>
      unfold Rep at r2
      obtain ⟨b, ws, e, q2, l2⟩ := r2
      cases e
      have e := I.list_inj (show SqL X.K H a vs by rw [hK]; exact q1.imp (·.2) id) (show SqL X.K H a ws by rw [hK]; exact q2.imp (·.2) id)
      subst e
      rw [reps_inj I hK ds n es vs (by simpa [pl] using h1) (by simpa [pl] using h2) l1 l2]
    | tup es =>
      unfold Rep at r2
      obtain ⟨b, ws, e, q2, l2⟩ := r2
      cases e
      obtain ⟨_, _, ⟨o, ho, hc, _⟩, _⟩ := I.tuple (show SqT X.K H a ws by rw [hK]; exact q2)
      obtain ⟨_, _, ⟨o', _, ho', hc', _⟩, _⟩ := I.list (show SqL X.K H a vs by rw [hK]; exact q1.imp (·.2) id)
      rw [ho] at ho'
      cases ho'
      rw [hc] at hc'
      exact absurd hc' (by simp)
    | _ => first | (simp [Rep] at r2; done) | (simp [pl] at h2; done)
  | .dck _ _, _ + 1, _, _, h, _, _, _ => by simp [pl] at h
  | .dct _ _, _ + 1, _, _, h, _, _, _ => by simp [pl] at h
  | .ins _ _ _, _ + 1, _, _, h, _, _, _ => by simp [pl] at h
theorem reps_inj (I : Inv X pins σ H s) (hK : X.K = M.K) : ∀ (ds : List D) (n : Nat) (es : List D) (vs : List V), (∀ d ∈ ds, pl n d = true) → (∀ d ∈ es, pl n d = true) → RepL M F H ds vs → RepL M F H es vs → ds = es
  | [], n, es, vs, _, _, r1, r2 => by
    have l1 := RepL.length r1
    have l2 := RepL.length r2
    cases es with
    | nil => rfl
    | cons e es => simp at l1 l2; omega
  | d :: ds, n, es, vs, h1, h2, r1, r2 => by
    cases es with
    | nil =>
      have l1 := RepL.length r1
      have l2 := RepL.length r2
      simp at l1 l2; omega
    | cons e es =>
      unfold RepL at r1 r2
      obtain ⟨v, r, rfl, p1, q1⟩ := r1
      obtain ⟨v', r', e', p2, q2⟩ := r2
      cases e'
      rw [rep_inj I hK d n e v (h1 d List.mem_cons_self) (h2 e List.mem_cons_self) p1 p2, reps_inj I hK ds n es r (fun x hx => h1 x (List.mem_cons_of_mem _ hx)) (fun x hx => h2 x (List.mem_cons_of_mem _ hx)) q1 q2]
end
end
end VF

namespace VF
open PySem PySem.Spec PyProof.Rows L2
open PySem.SeqAt (EqAt RcAt RcNeAt)

section
variable {M : Md} {X : Cx} {pins : List (Addr × Obj)} {F : Addr → Prop} {σ : St} {H : Hp} {s : Shared}
/-- a list or tuple operand, down to the machine -/
theorem od_list (I : Inv X pins σ H s) (hK : X.K = M.K) {ds : List D} {v : V} {u : Value} (h : OdR M F H (.lst ds) v) (r : RelV v u) : ∃ a vs its, v = .ref a ∧ u = .ref a ∧ SqL X.K H a vs ∧ RepL M F H ds vs ∧ Vals vs its ∧ s.heap.IsList a its.toArray := by
  obtain ⟨a, vs, rfl, q, l⟩ := h.lst
  rw [← hK] at q
  cases r
  obtain ⟨its, rv, p, _⟩ := I.list q
  exact ⟨a, vs, its, rfl, rfl, q, l, rv, p.isList⟩
theorem od_tup (I : Inv X pins σ H s) (hK : X.K = M.K) {ds : List D} {v : V} {u : Value} (h : OdR M F H (.tup ds) v) (r : RelV v u) : ∃ a vs its, v = .ref a ∧ u = .ref a ∧ SqT X.K H a vs ∧ RepL M F H ds vs ∧ Vals vs its ∧ s.heap.IsTuple a its.toArray := by
  obtain ⟨a, vs, rfl, q, l⟩ := h.tup
  rw [← hK] at q
  cases r
  obtain ⟨its, rv, p, _⟩ := I.tuple q
  exact ⟨a, vs, its, rfl, rfl, q, l, rv, p⟩
theorem vals_at : ∀ {vs : List V} {its : List Value} {j : Nat} (h : j < its.length), Vals vs its → ∃ v, vs[j]? = some v ∧ RelV v its[j]
  | _, _, _, h, .nil => absurd h (Nat.not_lt_zero _)
  | _, _, 0, _, .cons r _ => ⟨_, rfl, r⟩
  | _, _, j + 1, h, .cons _ t => by
    obtain ⟨v, e, r⟩ := vals_at (j := j) (Nat.lt_of_succ_lt_succ h) t
    exact ⟨v, by simpa using e, r⟩
theorem od_inj (I : Inv X pins σ H s) (hK : X.K = M.K) {n : Nat} {d e : D} {v : V} (h1 : pl n d = true) (h2 : pl n e = true) (r1 : OdR M F H d v) (r2 : OdR M F H e v) : d = e := by
  rcases r1 with r1 | ⟨a, rfl, nf, c1⟩
  · rcases r2 with r2 | ⟨b, rfl, nf, c2⟩
    · exact rep_inj I hK d n e v h1 h2 r1 r2
    · cases e with
      | lst es =>
        obtain ⟨ws, q2, l2⟩ := c2
        cases d with
        | lst ds =>
          unfold Rep at r1
          obtain ⟨a, vs, e, q1, l1⟩ := r1
          cases e
          have z := I.list_inj (show SqL X.K H b vs by rw [hK]; exact q1.imp (·.2) id) (show SqL X.K H b ws from .inl q2.rd)
          subst z
          cases n with
          | zero => cases h1
          | succ n => rw [reps_inj I hK ds n es vs (by simpa [pl] using h1) (by simpa [pl] using h2) l1 l2]
        | tup ds =>
          unfold Rep at r1
          obtain ⟨a, vs, e, q1, l1⟩ := r1
          cases e
          obtain ⟨_, _, ⟨o, ho, hc, _⟩, _⟩ := I.tuple (show SqT X.K H b vs by rw [hK]; exact q1)
          obtain ⟨_, _, ⟨o', _, ho', hc', _⟩, _⟩ := I.list (show SqL X.K H b ws from .inl q2.rd)
          rw [ho] at ho'
          cases ho'
          rw [hc] at hc'
          exact absurd hc' (by simp)
        | _ => cases n <;> first | (simp [Rep] at r1; done) | (simp [pl] at h1; done)
      | _ => first | exact c2.elim | (cases n <;> simp [pl] at h2)
  · cases d with
    | lst ds =>
      obtain ⟨vs, q1, l1⟩ := c1
      cases e with
      | lst es =>
        obtain ⟨b, ws, eb, q2, l2⟩ := r2.lst
        cases eb
        have z := I.list_inj (show SqL X.K H a vs from .inl q1.rd) (show SqL X.K H a ws by rw [hK]; exact q2)
        subst z
        cases n with
        | zero => cases h1
        | succ n => rw [reps_inj I hK ds n es vs (by simpa [pl] using h1) (by simpa [pl] using h2) l1 l2]
      | tup es =>
        obtain ⟨b, ws, eb, q2, l2⟩ := r2.tup
        cases eb
        obtain ⟨_, _, ⟨o, ho, hc, _⟩, _⟩ := I.tuple (show SqT X.K H a ws by rw [hK]; exact q2)
        obtain ⟨_, _, ⟨o', _, ho', hc', _⟩, _⟩ := I.list (show SqL X.K H a vs from .inl q1.rd)
        rw [ho] at ho'
        cases ho'
        rw [hc] at hc'
        exact absurd hc' (by simp)
      | non => have z := r2.non; cases z
      | bl b => have z := r2.bl; cases z
      | int b => have z := r2.int; cases z
      | str b => have z := r2.str; cases z
      | _ => cases n <;> simp [pl] at h2
    | _ => first | exact c1.elim | (cases n <;> simp [pl] at h1)

structure Eq3 (A : Around) (s : Shared) (u w : Value) (b : Bool) : Prop where
  e : EqAt A s u w b
  r : RcAt A s u w b
  n : RcNeAt A s u w (!b)
theorem eqD (I : Inv X pins σ H s) (hK : X.K = M.K) : ∀ (n : Nat) (d e : D) (v w : V) (u u' : Value) (A : Around), OdR M F H d v → OdR M F H e w → RelV v u → RelV w u' → pl n d = true → pl n e = true → A.units + n < cLine → Eq3 A s u u' (D.eq d e) := by
  intro n
  induction n with
  | zero => intro d e v w u u' A _ _ _ _ h _ _; cases d <;> cases h
  | succ n ih =>
    intro d e v w u u' A rd re rv rw' hd he hu
    have hu0 : A.units < cLine := by omega
    have hin : A.in1.units + n < cLine := by
      have : A.in1.units = A.units + 1 := rfl
      omega
    -- items
    have items : ∀ (ds es : List D) (vs ws : List V) (its its2 : List Value), RepL M F H ds vs → RepL M F H es ws → Vals vs its → Vals ws its2 → (∀ d ∈ ds, pl n d = true) → (∀ d ∈ es, pl n d = true) →
        ∀ j (h1 : j < its.toArray.size) (h2 : j < its2.toArray.size), EqAt A.in1 s its.toArray[j] its2.toArray[j] (pairD ds es j) := fun ds es vs ws its its2 l1 l2 r1 r2 p1 p2 j h1 h2 => by
      have h1' : j < its.length := by simpa using h1
      have h2' : j < its2.length := by simpa using h2
      obtain ⟨v, e1, q1⟩ := vals_at h1' r1
      obtain ⟨w, e2, q2⟩ := vals_at h2' r2
      obtain ⟨d, f1, g1⟩ := RepL.getV l1 e1
      obtain ⟨e, f2, g2⟩ := RepL.getV l2 e2
      have z := ih d e v w its[j] its2[j] A.in1 (.inl g1) (.inl g2) q1 q2 (p1 d (List.mem_of_getElem? f1)) (p2 e (List.mem_of_getElem? f2)) hin
      have zz : pairD ds es j = D.eq d e := by unfold pairD; rw [f1, f2]
      rw [zz]
      simpa using z.e
    have same : ∀ a, v = .ref a → w = .ref a → u = u' → EqAt A s u u' (D.eq d e) := fun a e1 e2 e3 => by
      subst e1
      subst e2
      have z := od_inj I hK hd he rd re
      subst z
      rw [D.eq_refl d (n + 1) hd, e3]
      exact EqAt.same _
    cases d with
    | non =>
      cases rd.non
      cases rv
      cases e with
      | non => cases re.non; cases rw'; simp only [D.eq]; exact ⟨.same _, .none_none, .none_none⟩
      | bl b => cases re.bl; cases rw'; simp only [D.eq]; exact ⟨.none_bool b, .none_bool b, .none_bool b⟩
      | int b => cases re.int; obtain ⟨t, rfl⟩ := rw'; simp only [D.eq]; exact ⟨.none_int b t, .none_int b t, .none_int b t⟩
      | str b => cases re.str; obtain ⟨t, rfl⟩ := rw'; simp only [D.eq]; exact ⟨.none_str b t, .none_str b t, .none_str b t⟩
      | lst es => obtain ⟨a, vs, its, rfl, rfl, q, l, r, p⟩ := od_list I hK re rw'; simp only [D.eq]; exact ⟨.none_list p hu0, .none_list p hu0, .none_list p hu0⟩
      | tup es => obtain ⟨a, vs, its, rfl, rfl, q, l, r, p⟩ := od_tup I hK re rw'; simp only [D.eq]; exact ⟨.none_tuple p hu0, .none_tuple p hu0, .none_tuple p hu0⟩
      | _ => simp [pl] at he
    | bl x =>
      cases rd.bl
      cases rv
      cases e with
      | non => cases re.non; cases rw'; simp only [D.eq]; exact ⟨.bool_none x, .bool_none x, .bool_none x⟩
      | bl b => cases re.bl; cases rw'; simp only [D.eq]; exact ⟨.bool_bool x b, .bool_bool x b, .bool_bool x b⟩
      | int b => cases re.int; obtain ⟨t, rfl⟩ := rw'; simp only [D.eq]; exact ⟨.bool_int x b t, .bool_int x b t, .bool_int x b t⟩
      | str b => cases re.str; obtain ⟨t, rfl⟩ := rw'; simp only [D.eq]; exact ⟨.bool_str x b t, .bool_str x b t, .bool_str x b t⟩
      | lst es => obtain ⟨a, vs, its, rfl, rfl, q, l, r, p⟩ := od_list I hK re rw'; simp only [D.eq]; exact ⟨.bool_list x p hu0, .bool_list x p hu0, .bool_list x p hu0⟩
      | tup es => obtain ⟨a, vs, its, rfl, rfl, q, l, r, p⟩ := od_tup I hK re rw'; simp only [D.eq]; exact ⟨.bool_tuple x p hu0, .bool_tuple x p hu0, .bool_tuple x p hu0⟩
      | _ => simp [pl] at he
    | int x =>
      cases rd.int
      obtain ⟨t', rfl⟩ := rv
      cases e with
      | non => cases re.non; cases rw'; simp only [D.eq]; exact ⟨.int_none x t', .int_none x t', .int_none x t'⟩
      | bl b => cases re.bl; cases rw'; simp only [D.eq]; exact ⟨.int_bool x t' b, .int_bool x t' b, .int_bool x t' b⟩
      | int b => cases re.int; obtain ⟨t, rfl⟩ := rw'; simp only [D.eq]; exact ⟨.int_int x t' b t, .int_int x t' b t, .int_int x t' b t⟩
      | str b => cases re.str; obtain ⟨t, rfl⟩ := rw'; simp only [D.eq]; exact ⟨.int_str x t' b t, .int_str x t' b t, .int_str x t' b t⟩
      | lst es => obtain ⟨a, vs, its, rfl, rfl, q, l, r, p⟩ := od_list I hK re rw'; simp only [D.eq]; exact ⟨.int_list x t' p hu0, .int_list x t' p hu0, .int_list x t' p hu0⟩
      | tup es => obtain ⟨a, vs, its, rfl, rfl, q, l, r, p⟩ := od_tup I hK re rw'; simp only [D.eq]; exact ⟨.int_tuple x t' p hu0, .int_tuple x t' p hu0, .int_tuple x t' p hu0⟩
      | _ => simp [pl] at he
    | str x =>
      cases rd.str
      obtain ⟨t', rfl⟩ := rv
      cases e with
      | non => cases re.non; cases rw'; simp only [D.eq]; exact ⟨.str_none x t', .str_none x t', .str_none x t'⟩
      | bl b => cases re.bl; cases rw'; simp only [D.eq]; exact ⟨.str_bool x t' b, .str_bool x t' b, .str_bool x t' b⟩
      | int b => cases re.int; obtain ⟨t, rfl⟩ := rw'; simp only [D.eq]; exact ⟨.str_int x t' b t, .str_int x t' b t, .str_int x t' b t⟩
      | str b => cases re.str; obtain ⟨t, rfl⟩ := rw'; simp only [D.eq]; exact ⟨.str_str x t' b t, .str_str x t' b t, .str_str x t' b t⟩
      | lst es => obtain ⟨a, vs, its, rfl, rfl, q, l, r, p⟩ := od_list I hK re rw'; simp only [D.eq]; exact ⟨.str_list x t' p hu0, .str_list x t' p hu0, .str_list x t' p hu0⟩
      | tup es => obtain ⟨a, vs, its, rfl, rfl, q, l, r, p⟩ := od_tup I hK re rw'; simp only [D.eq]; exact ⟨.str_tuple x t' p hu0, .str_tuple x t' p hu0, .str_tuple x t' p hu0⟩
      | _ => simp [pl] at he
    | lst ds =>
      obtain ⟨a, vs, its, rfl, rfl, q, l, r, p⟩ := od_list I hK rd rv
      cases e with
      | non => cases re.non; cases rw'; simp only [D.eq]; exact ⟨.list_none p hu0, .list_none p hu0, .list_none p hu0⟩
      | bl b => cases re.bl; cases rw'; simp only [D.eq]; exact ⟨.list_bool b p hu0, .list_bool b p hu0, .list_bool b p hu0⟩
      | int b => cases re.int; obtain ⟨t, rfl⟩ := rw'; simp only [D.eq]; exact ⟨.list_int b t p hu0, .list_int b t p hu0, .list_int b t p hu0⟩
      | str b => cases re.str; obtain ⟨t, rfl⟩ := rw'; simp only [D.eq]; exact ⟨.list_str b t p hu0, .list_str b t p hu0, .list_str b t p hu0⟩
      | tup es => obtain ⟨a', vs', its', rfl, rfl, q', l', r', p'⟩ := od_tup I hK re rw'; simp only [D.eq]; exact ⟨.list_tuple p p' hu0, .list_tuple p p' hu0, .list_tuple p p' hu0⟩
      | lst es =>
        obtain ⟨a', vs', its', rfl, rfl, q', l', r', p'⟩ := od_list I hK re rw'
        have it := items ds es vs vs' its its' l l' r r' (by simpa [pl] using hd) (by simpa [pl] using he)
        have n1 : its.toArray.size = ds.length := by rw [List.size_toArray, l.length]; exact r.length.symm
        have n2 : its'.toArray.size = es.length := by rw [List.size_toArray, l'.length]; exact r'.length.symm
        have rr : RcAt A s (.ref a) (.ref a') (D.eq (.lst ds) (.lst es)) ∧ RcNeAt A s (.ref a) (.ref a') (!D.eq (.lst ds) (.lst es)) := by
          simp only [D.eq]
          by_cases hsz : its.toArray.size = its'.toArray.size
          · have z := eqs_len (show ds.length = es.length by omega)
            rw [← z, ← n1]
            exact ⟨.lists p p' hsz hu0 it, .lists p p' hsz hu0 it⟩
          · rw [eqs_ne (show ds.length ≠ es.length by omega)]
            exact ⟨.lists_lengths p p' (by simpa using hsz) hu0, .lists_lengths p p' (by simpa using hsz) hu0⟩
        refine ⟨?_, rr.1, rr.2⟩
        by_cases ha : a = a'
        · subst ha
          exact same a rfl rfl rfl
        · exact .of_refs ha rr.1
      | _ => simp [pl] at he
    | tup ds =>
      obtain ⟨a, vs, its, rfl, rfl, q, l, r, p⟩ := od_tup I hK rd rv
      cases e with
      | non => cases re.non; cases rw'; simp only [D.eq]; exact ⟨.tuple_none p hu0, .tuple_none p hu0, .tuple_none p hu0⟩
      | bl b => cases re.bl; cases rw'; simp only [D.eq]; exact ⟨.tuple_bool b p hu0, .tuple_bool b p hu0, .tuple_bool b p hu0⟩
      | int b => cases re.int; obtain ⟨t, rfl⟩ := rw'; simp only [D.eq]; exact ⟨.tuple_int b t p hu0, .tuple_int b t p hu0, .tuple_int b t p hu0⟩
      | str b => cases re.str; obtain ⟨t, rfl⟩ := rw'; simp only [D.eq]; exact ⟨.tuple_str b t p hu0, .tuple_str b t p hu0, .tuple_str b t p hu0⟩
      | lst es => obtain ⟨a', vs', its', rfl, rfl, q', l', r', p'⟩ := od_list I hK re rw'; simp only [D.eq]; exact ⟨.tuple_list p p' hu0, .tuple_list p p' hu0, .tuple_list p p' hu0⟩
      | tup es =>
        obtain ⟨a', vs', its', rfl, rfl, q', l', r', p'⟩ := od_tup I hK re rw'
        have it := items ds es vs vs' its its' l l' r r' (by simpa [pl] using hd) (by simpa [pl] using he)
        have n1 : its.toArray.size = ds.length := by rw [List.size_toArray, l.length]; exact r.length.symm
        have n2 : its'.toArray.size = es.length := by rw [List.size_toArray, l'.length]; exact r'.length.symm
        have rr : RcAt A s (.ref a) (.ref a') (D.eq (.tup ds) (.tup es)) ∧ RcNeAt A s (.ref a) (.ref a') (!D.eq (.tup ds) (.tup es)) := by
          simp only [D.eq]
          rw [← eqs_range ds es, ← n1, ← n2]
          exact ⟨.tuples p p' hu0 it, .tuples p p' hu0 it⟩
        refine ⟨?_, rr.1, rr.2⟩
        by_cases ha : a = a'
        · subst ha
          exact same a rfl rfl rfl
        · exact .of_refs ha rr.1
      | _ => simp [pl] at he
    | _ => simp [pl] at hd

/-- x in xs, by machine -/
theorem any_eqD (I : Inv X pins σ H s) (hK : X.K = M.K) {n : Nat} {A : Around} {e : D} {w : V} {u' : Value} (re : OdR M F H e w) (rw' : RelV w u') (he : pl n e = true) (hu : A.in1.units + n < cLine) :
    ∀ {ds : List D} {vs : List V} {its : List Value}, RepL M F H ds vs → Vals vs its → (∀ d ∈ ds, pl n d = true) → ∃ f : Value → Bool, (∀ y ∈ its, EqAt A.in1 s y u' (f y)) ∧ its.any f = ds.any fun d => D.eq d e := by
  intro ds vs its l r hp
  -- the answer by a value: by the data that stands there
  have key : ∀ y ∈ its, ∃ b, EqAt A.in1 s y u' b ∧ ∀ (j : Nat) d, its[j]? = some y → ds[j]? = some d → D.eq d e = b := fun y hy => by
    obtain ⟨j, hj, ej⟩ := List.mem_iff_getElem.mp hy
    obtain ⟨v, e1, q1⟩ := vals_at hj r
    obtain ⟨d, f1, g1⟩ := RepL.getV l e1
    rw [ej] at q1
    refine ⟨D.eq d e, (eqD I hK n d e v w y u' A.in1 (.inl g1) re q1 rw' (hp d (List.mem_of_getElem? f1)) he hu).e, fun k d2 h1 h2 => ?_⟩
    obtain ⟨v2, e2, g2⟩ := RepL.get l h2
    obtain ⟨hk, ek⟩ := List.getElem?_eq_some_iff.mp h1
    obtain ⟨v3, e3, q3⟩ := vals_at hk r
    rw [e2] at e3
    cases e3
    rw [ek] at q3
    have z := q3.inj q1
    subst z
    rw [rep_inj I hK d2 n d _ (hp d2 (List.mem_of_getElem? h2)) (hp d (List.mem_of_getElem? f1)) g2 g1]
  refine ⟨fun y => if h : y ∈ its then Classical.choose (key y h) else false, fun y hy => ?_, ?_⟩
  · simp only [hy, dif_pos]
    exact (Classical.choose_spec (key y hy)).1
  · have hl : its.length = ds.length := by rw [l.length]; exact r.length.symm
    have e : its.map (fun y => if h : y ∈ its then Classical.choose (key y h) else false) = ds.map fun d => D.eq d e := by
      apply List.ext_getElem
      · simp [hl]
      · intro j h1 h2
        simp only [List.getElem_map]
        have hj : j < its.length := by simpa using h1
        have hm : its[j] ∈ its := List.getElem_mem hj
        simp only [hm, dif_pos]
        exact ((Classical.choose_spec (key its[j] hm)).2 j (ds[j]'(by omega)) (List.getElem?_eq_getElem hj) (List.getElem?_eq_getElem (by omega))).symm
    have e2 := congrArg (fun l : List Bool => l.any id) e
    simpa [List.any_map, Function.comp] using e2
end
end VF

namespace VF
open PySem PySem.Spec PyProof.Rows L2
open PySem.SeqAt (EqAt RcAt RcNeAt)

/-- the reading of a primitive, by data -/
def rDs (M : Md) (f : List D → Option Rv) : List V → Hp → VK → Prop := fun vs H Q => ∃ F ds rv, (∀ a, F a → H a ≠ none) ∧ OdRs M F H ds vs ∧ f ds = some rv ∧ ∀ F' H' v, New F H F' H' → RvR M H F' H' rv v → Q v H'
def r1D (M : Md) (f : List D → Option Rv) : V → Hp → VK → Prop := fun x H Q => rDs M f [x] H Q
def r2D (M : Md) (f : List D → Option Rv) : R2 := fun x y H Q => rDs M f [x, y] H Q
theorem prim_ok (M : Md) (f : List D → Option Rv) : PrimOK M (rDs M f) f := fun F H ds vs rv Q hd od e q => ⟨F, ds, rv, hd, od, e, q⟩
section
variable {M : Md} {F : Addr → Prop} {H : Hp}
theorem rv_same (hd : ∀ a, F a → H a ≠ none) {rv : Rv} {v : V} {Q : VK} (q : ∀ F' H' v, New F H F' H' → RvR M H F' H' rv v → Q v H') (r : RvR M H F H rv v) : Q v H := q F H v (.refl hd) r
theorem rep_int (i : Int) : RvR M H F H (.val (.int i)) (.int i) := by show Rep M F H (.int i) (.int i); unfold Rep; rfl
theorem rep_bl (i : Bool) : RvR M H F H (.val (.bl i)) (.bl i) := by show Rep M F H (.bl i) (.bl i); unfold Rep; rfl
theorem rep_str (i : Str) : RvR M H F H (.val (.str i)) (.str i) := by show Rep M F H (.str i) (.str i); unfold Rep; rfl
theorem rep_non : RvR M H F H (.val .non) .non := by show Rep M F H .non .non; unfold Rep; rfl
theorem rv_list (hd : ∀ a, F a → H a ≠ none) {p : Addr} {ds : List D} {vs : List V} (hp : H p = none) (l : RepL M F H ds vs) : RvR M H F (upd H p (.lst vs)) (.own (.lst ds)) (.ref p) :=
  ⟨p, rfl, fun z => hd p z hp, hp, vs, upd_same, RepL.mono (New.laid hd hp).ext ds l⟩
theorem rv_tup (hd : ∀ a, F a → H a ≠ none) {p : Addr} {ds : List D} {vs : List V} (hp : H p = none) (l : RepL M F H ds vs) : RvR M H F (upd H p (.tup vs)) (.val (.tup ds)) (.ref p) := by
  show Rep M F _ (.tup ds) (.ref p)
  unfold Rep
  exact ⟨p, vs, rfl, .of upd_same, RepL.mono (New.laid hd hp).ext ds l⟩
theorem RepL.append : ∀ {ds es : List D} {vs ws : List V}, RepL M F H ds vs → RepL M F H es ws → RepL M F H (ds ++ es) (vs ++ ws)
  | [], _, _, _, h, g => by unfold RepL at h; subst h; exact g
  | d :: ds, es, _, ws, h, g => by
    unfold RepL at h
    obtain ⟨v, r, rfl, p, q⟩ := h
    show RepL M F H (d :: (ds ++ es)) (v :: (r ++ ws))
    unfold RepL
    exact ⟨v, r ++ ws, rfl, p, RepL.append q g⟩
theorem RepL.drop : ∀ (n : Nat) {ds : List D} {vs : List V}, RepL M F H ds vs → RepL M F H (ds.drop n) (vs.drop n)
  | 0, _, _, h => h
  | _ + 1, [], _, h => by unfold RepL at h; subst h; simp [RepL]
  | n + 1, d :: ds, _, h => by
    unfold RepL at h
    obtain ⟨v, r, rfl, p, q⟩ := h
    exact RepL.drop n q
theorem RepL.take : ∀ (n : Nat) {ds : List D} {vs : List V}, RepL M F H ds vs → RepL M F H (ds.take n) (vs.take n)
  | 0, _, _, h => by simp [RepL]
  | _ + 1, [], _, h => by unfold RepL at h; subst h; simp [RepL]
  | n + 1, d :: ds, _, h => by
    unfold RepL at h
    obtain ⟨v, r, rfl, p, q⟩ := h
    show RepL M F H (d :: ds.take n) (v :: r.take n)
    unfold RepL
    exact ⟨v, r.take n, rfl, p, RepL.take n q⟩
theorem RepL.cons {d : D} {v : V} {ds : List D} {vs : List V} (p : Rep M F H d v) (q : RepL M F H ds vs) : RepL M F H (d :: ds) (v :: vs) := by
  unfold RepL
  exact ⟨v, vs, rfl, p, q⟩
theorem RepL.nil : RepL M F H [] [] := by unfold RepL; rfl
theorem RepL.ints : ∀ {ns : List Int} {vs : List V}, RepL M F H (ns.map D.int) vs → vs = ns.map V.int
  | [], _, h => by unfold RepL at h; exact h
  | n :: ns, _, h => by
    rw [List.map_cons] at h
    unfold RepL at h
    obtain ⟨v, r, rfl, p, q⟩ := h
    unfold Rep at p
    rw [p, RepL.ints q]
    rfl
theorem RepL.strs : ∀ {ns : List Str} {vs : List V}, RepL M F H (ns.map D.str) vs → vs = ns.map V.str
  | [], _, h => by unfold RepL at h; exact h
  | n :: ns, _, h => by
    rw [List.map_cons] at h
    unfold RepL at h
    obtain ⟨v, r, rfl, p, q⟩ := h
    unfold Rep at p
    rw [p, RepL.strs q]
    rfl
theorem RepL.bls : ∀ {ns : List Bool} {vs : List V}, RepL M F H (ns.map D.bl) vs → vs = ns.map V.bl
  | [], _, h => by unfold RepL at h; exact h
  | n :: ns, _, h => by
    rw [List.map_cons] at h
    unfold RepL at h
    obtain ⟨v, r, rfl, p, q⟩ := h
    unfold Rep at p
    rw [p, RepL.bls q]
    rfl
end

/-! ### lists of one kind, read off -/
def D.int? : D → Option Int
  | .int i => some i
  | _ => none
def D.str? : D → Option Str
  | .str i => some i
  | _ => none
def D.bl? : D → Option Bool
  | .bl i => some i
  | _ => none
def allOf {α : Type} (g : D → Option α) : List D → Option (List α)
  | [] => some []
  | d :: ds => match g d, allOf g ds with
    | some a, some r => some (a :: r)
    | _, _ => none
theorem allOf_map {α : Type} {g : D → Option α} {c : α → D} (hg : ∀ a, g (c a) = some a) : ∀ xs : List α, allOf g (xs.map c) = some xs
  | [] => rfl
  | x :: xs => by
    simp only [List.map_cons, allOf, hg x, allOf_map hg xs]
theorem allOf_eq {α : Type} {g : D → Option α} {c : α → D} (hg : ∀ d a, g d = some a → d = c a) : ∀ {ds : List D} {xs : List α}, allOf g ds = some xs → ds = xs.map c
  | [], xs, h => by cases h; rfl
  | d :: ds, xs, h => by
    cases e1 : g d with
    | none => simp only [allOf, e1] at h; cases h
    | some a =>
      cases e2 : allOf g ds with
      | none => simp only [allOf, e1, e2] at h; cases h
      | some r =>
        simp only [allOf, e1, e2] at h
        cases h
        rw [hg d a e1, allOf_eq hg e2]
        rfl
theorem ints_map (xs : List Int) : allOf D.int? (xs.map D.int) = some xs := by first | exact allOf_map (c := D.int) (fun _ => rfl) xs | exact allOf_map (c := D.str) (fun _ => rfl) xs | exact allOf_map (c := D.bl) (fun _ => rfl) xs
theorem strs_map (xs : List Str) : allOf D.str? (xs.map D.str) = some xs := by first | exact allOf_map (c := D.int) (fun _ => rfl) xs | exact allOf_map (c := D.str) (fun _ => rfl) xs | exact allOf_map (c := D.bl) (fun _ => rfl) xs
theorem bls_map (xs : List Bool) : allOf D.bl? (xs.map D.bl) = some xs := by first | exact allOf_map (c := D.int) (fun _ => rfl) xs | exact allOf_map (c := D.str) (fun _ => rfl) xs | exact allOf_map (c := D.bl) (fun _ => rfl) xs
theorem ints_eq {ds : List D} {xs : List Int} (h : allOf D.int? ds = some xs) : ds = xs.map D.int := allOf_eq (fun d a e => by cases d <;> simp [D.int?] at e; rw [e]) h
theorem strs_eq {ds : List D} {xs : List Str} (h : allOf D.str? ds = some xs) : ds = xs.map D.str := allOf_eq (fun d a e => by cases d <;> simp [D.str?] at e; rw [e]) h
theorem bls_eq {ds : List D} {xs : List Bool} (h : allOf D.bl? ds = some xs) : ds = xs.map D.bl := allOf_eq (fun d a e => by cases d <;> simp [D.bl?] at e; rw [e]) h

/-! ### operators -/
def fAdd : List D → Option Rv
  | [.int i, .int j] => some (.val (.int (i + j)))
  | [.str x, .str y] => if x.length + y.length ≤ sizeLine then some (.val (.str (x ++ y))) else none
  | [.lst xs, .lst ys] => if xs.length + ys.length ≤ sizeLine then some (.own (.lst (xs ++ ys))) else none
  | [.tup xs, .tup ys] => if xs.length + ys.length ≤ sizeLine then some (.val (.tup (xs ++ ys))) else none
  | _ => none
def fSub : List D → Option Rv
  | [.int i, .int j] => some (.val (.int (i - j)))
  | _ => none
def fMul : List D → Option Rv
  | [.int i, .int j] => if i.natAbs.log2 + j.natAbs.log2 < 1000000 then some (.val (.int (i * j))) else none
  | _ => none
def fFdiv : List D → Option Rv
  | [.int i, .int j] => if j ≠ 0 ∧ j.natAbs.log2 < 9000 then some (.val (.int (i.fdiv j))) else none
  | _ => none
def fMod : List D → Option Rv
  | [.int i, .int j] => if j ≠ 0 then some (.val (.int (i.fmod j))) else none
  | _ => none
def fPow : List D → Option Rv
  | [.int i, .int j] => if 0 ≤ j ∧ j ≤ 1000000 ∧ i.natAbs < 2 ^ 64 then some (.val (.int (i ^ j.toNat))) else none
  | _ => none
def fNeg : List D → Option Rv
  | [.int i] => some (.val (.int (-i)))
  | _ => none
def fLt : List D → Option Rv
  | [.int i, .int j] => some (.val (.bl (decide (i < j))))
  | [.str i, .str j] => some (.val (.bl (decide (i.cps.toList < j.cps.toList))))
  | _ => none
def fLe : List D → Option Rv
  | [.int i, .int j] => some (.val (.bl (decide (i ≤ j))))
  | [.str i, .str j] => some (.val (.bl (!decide (j.cps.toList < i.cps.toList))))
  | _ => none
def fGt : List D → Option Rv
  | [.int i, .int j] => some (.val (.bl (decide (j < i))))
  | [.str i, .str j] => some (.val (.bl (decide (j.cps.toList < i.cps.toList))))
  | _ => none
def fGe : List D → Option Rv
  | [.int i, .int j] => some (.val (.bl (decide (j ≤ i))))
  | [.str i, .str j] => some (.val (.bl (!decide (i.cps.toList < j.cps.toList))))
  | _ => none
def fEq : List D → Option Rv
  | [d, e] => if pl 60 d = true ∧ pl 60 e = true then some (.val (.bl (D.eq d e))) else none
  | _ => none
def fNe : List D → Option Rv
  | [d, e] => if pl 60 d = true ∧ pl 60 e = true then some (.val (.bl (!D.eq d e))) else none
  | _ => none
def D.isNon : D → Bool
  | .non => true
  | _ => false
def fIs : List D → Option Rv
  | [.bl a, .bl b] => some (.val (.bl (decide (a = b))))
  | [d, .non] => some (.val (.bl d.isNon))
  | _ => none
def fIsNot : List D → Option Rv
  | [.bl a, .bl b] => some (.val (.bl (!decide (a = b))))
  | [d, .non] => some (.val (.bl (!d.isNon)))
  | _ => none
def fIn : List D → Option Rv
  | [.str x, .str y] => some (.val (.bl (!(Builtin.Str.occurrences y x 0 y.length 1).isEmpty)))
  | [d, .lst ds] => if pl 60 d = true ∧ ds.all (pl 60) = true then some (.val (.bl (ds.any fun e => D.eq e d))) else none
  | [d, .tup ds] => if pl 60 d = true ∧ ds.all (pl 60) = true then some (.val (.bl (ds.any fun e => D.eq e d))) else none
  | _ => none
def fNotIn : List D → Option Rv
  | [.str x, .str y] => some (.val (.bl (!(!(Builtin.Str.occurrences y x 0 y.length 1).isEmpty))))
  | [d, .lst ds] => if pl 60 d = true ∧ ds.all (pl 60) = true then some (.val (.bl (!ds.any fun e => D.eq e d))) else none
  | [d, .tup ds] => if pl 60 d = true ∧ ds.all (pl 60) = true then some (.val (.bl (!ds.any fun e => D.eq e d))) else none
  | _ => none

section
variable {M : Md} {X : Cx}
theorem OpR_or {f : Value → Value → Sem Value} {r r' : R2} (a : OpR X f r) (b : OpR X f r') : OpR X f (fun x y H Q => r x y H Q ∨ r' x y H Q) :=
  fun pins s σ H x y v u Q I rx ry h => h.elim (a pins s σ H x y v u Q I rx ry) (b pins s σ H x y v u Q I rx ry)
theorem OpR_imp {f : Value → Value → Sem Value} {r r' : R2} (a : OpR X f r) (h : ∀ x y H Q, r' x y H Q → r x y H Q) : OpR X f r' :=
  fun pins s σ H x y v u Q I rx ry q => a pins s σ H x y v u Q I rx ry (h x y H Q q)
theorem CallR_or {f : Value} {r r' : List V → Hp → VK → Prop} (a : CallR X f r) (b : CallR X f r') : CallR X f (fun xs H Q => r xs H Q ∨ r' xs H Q) :=
  fun pins s σ H xs us Q I rx h => h.elim (a pins s σ H xs us Q I rx) (b pins s σ H xs us Q I rx)
theorem CallR_imp {f : Value} {r r' : List V → Hp → VK → Prop} (a : CallR X f r) (h : ∀ xs H Q, r' xs H Q → r xs H Q) : CallR X f r' :=
  fun pins s σ H xs us Q I rx q => a pins s σ H xs us Q I rx (h xs H Q q)
theorem MtR_imp {id : String} {r r' : V → List V → Hp → VK → Prop} (a : MtR X id r) (h : ∀ x xs H Q, r' x xs H Q → r x xs H Q) : MtR X id r' :=
  fun pins s σ H x xs v us Q I rx rs q => a pins s σ H x xs v us Q I rx rs (h x xs H Q q)

theorem op_catS : OpR X (binaryOp .Add) (fun x y H Q => ∃ l b xs zs, x = .ref l ∧ y = .ref b ∧ SqL X.K H l xs ∧ SqL X.K H b zs ∧ xs.length + zs.length ≤ sizeLine ∧ ∀ p, H p = none → Q (.ref p) (upd H p (.lst (xs ++ zs)))) := by
  intro pins s σ H x y v u Q I rx ry h
  obtain ⟨l, b, xs, zs, rfl, rfl, hH, hB, hz, q⟩ := h
  cases rx
  cases ry
  obtain ⟨its, r, p1, _⟩ := I.list hH
  obtain ⟨its2, r2, p2, _⟩ := I.list hB
  have hl := r.length
  have hl2 := r2.length
  obtain ⟨⟨cls, dd, data, sl⟩, ho, hc, n, hd⟩ := p1.isList
  obtain ⟨⟨cls2, dd2, data2, sl2⟩, ho2, hc2, n2, hd2⟩ := p2.isList
  simp only at hc hd hc2 hd2
  subst hc hd hc2 hd2
  have e : its.toArray ++ its2.toArray = (its ++ its2).toArray := by simp
  refine concat_meets ⟨_, ho, rfl⟩ ⟨_, ho2, rfl⟩ noFill_list_add seq_list_add PySem.F.slot_list_add PySem.F.entry_list_add (PySem.F.args_list_add_2 _ _) (list_addW l b its.toArray its2.toArray n n2 dd dd2 sl sl2 (by simp; omega)) ⟨ho, ho2, ?_⟩
  rw [e]
  exact ⟨.ref _, _, I.lnew (t' := s.toks) (r.append r2) (by rw [List.length_append]; omega), rfl, q _ I.fresh⟩

theorem o_add (hK : X.K = M.K) : OpR X (binaryOp .Add) (r2D M fAdd) := by
  refine OpR_imp (OpR_or op_add (OpR_or op_add_str (OpR_or op_catS op_catA))) fun x y H Q h => ?_
  obtain ⟨F, ds, rv, hd, od, ef, q⟩ := h
  unfold fAdd at ef
  split at ef
  · obtain ⟨v, w, e, r1, r2⟩ := od.two
    cases e
    cases r1.int
    cases r2.int
    cases ef
    exact .inl ⟨_, _, rfl, rfl, rv_same hd q (rep_int _)⟩
  · obtain ⟨v, w, e, r1, r2⟩ := od.two
    cases e
    cases r1.str
    cases r2.str
    split at ef
    · rename_i hz
      cases ef
      exact .inr (.inl ⟨_, _, rfl, rfl, hz, rv_same hd q (rep_str _)⟩)
    · cases ef
  · obtain ⟨v, w, e, r1, r2⟩ := od.two
    cases e
    obtain ⟨a, vs, rfl, p1, l1⟩ := r1.lst
    obtain ⟨b, ws, rfl, p2, l2⟩ := r2.lst
    split at ef
    · rename_i hz
      cases ef
      refine .inr (.inr (.inl ⟨a, b, vs, ws, rfl, rfl, by rw [hK]; exact p1, by rw [hK]; exact p2, by rw [← l1.length, ← l2.length]; exact hz, fun p hp => ?_⟩))
      exact q F _ _ (New.laid hd hp) (rv_list hd hp (l1.append l2))
    · cases ef
  · obtain ⟨v, w, e, r1, r2⟩ := od.two
    cases e
    obtain ⟨a, vs, rfl, p1, l1⟩ := r1.tup
    obtain ⟨b, ws, rfl, p2, l2⟩ := r2.tup
    split at ef
    · rename_i hz
      cases ef
      refine .inr (.inr (.inr ⟨a, b, vs, ws, rfl, rfl, by rw [hK]; exact p1, by rw [hK]; exact p2, by rw [← l1.length, ← l2.length]; exact hz, fun e => ?_, fun _ e => ?_, fun _ _ p hp => ?_⟩))
      · subst e
        refine rv_same hd q ?_
        show Rep M F H _ _
        unfold Rep
        exact ⟨b, _, rfl, p2, l1.append l2⟩
      · subst e
        refine rv_same hd q ?_
        show Rep M F H _ _
        unfold Rep
        have z := l1.append l2
        rw [List.append_nil] at z
        exact ⟨a, _, rfl, p1, z⟩
      · exact q F _ _ (New.laid hd hp) (rv_tup hd hp (l1.append l2))
    · cases ef
  · cases ef
/-- two ints -/
theorem r2_ints {f : List D → Option Rv} {x y : V} {H : Hp} {Q : VK} {C : Int → Int → Prop} {g : Int → Int → D} {gv : Int → Int → V} (hf : ∀ ds rv, f ds = some rv → ∃ i j, ds = [.int i, .int j] ∧ C i j ∧ rv = .val (g i j)) (hg : ∀ F i j, RvR M H F H (.val (g i j)) (gv i j))
    (h : r2D M f x y H Q) : rI C gv x y H Q := by
  obtain ⟨F, ds, rv, hd, od, ef, q⟩ := h
  obtain ⟨i, j, rfl, c, rfl⟩ := hf ds rv ef
  obtain ⟨v, w, e, r1, r2⟩ := od.two
  cases e
  cases r1.int
  cases r2.int
  exact ⟨i, j, rfl, rfl, c, rv_same hd q (hg F i j)⟩
theorem o_sub : OpR X (binaryOp .Sub) (r2D M fSub) := by
  refine OpR_imp op_sub fun x y H Q h => ?_
  obtain ⟨i, j, e1, e2, _, q⟩ := r2_ints (C := fun _ _ => True) (g := fun i j => .int (i - j)) (gv := fun i j => .int (i - j)) (fun ds rv e => by
    unfold fSub at e
    split at e
    · cases e; exact ⟨_, _, rfl, trivial, rfl⟩
    · cases e) (fun F i j => rep_int _) h
  exact ⟨i, j, e1, e2, q⟩
theorem o_mul : OpR X (binaryOp .Mult) (r2D M fMul) := OpR_imp op_mulW fun x y H Q h => r2_ints (C := CMulW) (g := fun i j => .int (i * j)) (gv := fun i j => .int (i * j)) (fun ds rv e => by
    unfold fMul at e
    split at e
    · split at e
      · rename_i hz
        cases e; exact ⟨_, _, rfl, hz, rfl⟩
      · cases e
    · cases e) (fun F i j => rep_int _) h
theorem op_fdivX : OpR X (binaryOp .FloorDiv) (rI (fun _ j => j ≠ 0 ∧ j.natAbs.log2 < 9000) fun i j => .int (i.fdiv j)) := opI fun i j _ _ _ _ _ hc q => floordiv_int hc.1 q (.inl (PyProof.noPylong_of_log2 hc.2))
theorem o_fdiv : OpR X (binaryOp .FloorDiv) (r2D M fFdiv) := OpR_imp op_fdivX fun x y H Q h => r2_ints (C := fun _ j => j ≠ 0 ∧ j.natAbs.log2 < 9000) (g := fun i j => .int (i.fdiv j)) (gv := fun i j => .int (i.fdiv j)) (fun ds rv e => by
    unfold fFdiv at e
    split at e
    · split at e
      · rename_i hz
        cases e; exact ⟨_, _, rfl, hz, rfl⟩
      · cases e
    · cases e) (fun F i j => rep_int _) h
theorem o_mod : OpR X (binaryOp .Mod) (r2D M fMod) := OpR_imp op_modN fun x y H Q h => r2_ints (C := fun _ j => j ≠ 0) (g := fun i j => .int (i.fmod j)) (gv := fun i j => .int (i.fmod j)) (fun ds rv e => by
    unfold fMod at e
    split at e
    · split at e
      · rename_i hz
        cases e; exact ⟨_, _, rfl, hz, rfl⟩
      · cases e
    · cases e) (fun F i j => rep_int _) h
theorem o_pow : OpR X (binaryOp .Pow) (r2D M fPow) := OpR_imp op_pow fun x y H Q h => r2_ints (C := CPow) (g := fun i j => .int (i ^ j.toNat)) (gv := fun i j => .int (i ^ j.toNat)) (fun ds rv e => by
    unfold fPow at e
    split at e
    · split at e
      · rename_i hz
        cases e; exact ⟨_, _, rfl, hz, rfl⟩
      · cases e
    · cases e) (fun F i j => rep_int _) h
theorem o_neg : UnR X (unaryOp .USub) (r1D M fNeg) := fun pins s σ H x v Q I rx h => by
  obtain ⟨F, ds, rv, hd, od, ef, q⟩ := h
  unfold fNeg at ef
  split at ef
  · obtain ⟨w, e, r1⟩ := od.one
    cases e
    cases r1.int
    cases ef
    exact un_neg pins s σ H _ v Q I rx ⟨_, rfl, rv_same hd q (rep_int _)⟩
  · cases ef
/-- comparisons of ints and of texts -/
theorem r2_cmp {f : List D → Option Rv} {p : Int → Int → Bool} {ps : Str → Str → Bool} (hf : ∀ ds rv, f ds = some rv → (∃ i j, ds = [.int i, .int j] ∧ rv = .val (.bl (p i j))) ∨ ∃ i j, ds = [.str i, .str j] ∧ rv = .val (.bl (ps i j))) {x y : V} {H : Hp} {Q : VK} (h : r2D M f x y H Q) :
    rI0 (fun i j => .bl (p i j)) x y H Q ∨ ∃ i j, x = .str i ∧ y = .str j ∧ Q (.bl (ps i j)) H := by
  obtain ⟨F, ds, rv, hd, od, ef, q⟩ := h
  rcases hf ds rv ef with ⟨i, j, rfl, rfl⟩ | ⟨i, j, rfl, rfl⟩
  · obtain ⟨v, w, e, r1, r2⟩ := od.two
    cases e
    cases r1.int
    cases r2.int
    exact .inl ⟨i, j, rfl, rfl, rv_same hd q (rep_bl _)⟩
  · obtain ⟨v, w, e, r1, r2⟩ := od.two
    cases e
    cases r1.str
    cases r2.str
    exact .inr ⟨i, j, rfl, rfl, rv_same hd q (rep_bl _)⟩
theorem o_lt : OpR X (compareOp .Lt) (r2D M fLt) := OpR_imp (OpR_or op_lt op_lt_str) fun x y H Q h => r2_cmp (p := fun i j => decide (i < j)) (ps := fun i j => decide (i.cps.toList < j.cps.toList)) (fun ds rv e => by
  unfold fLt at e
  split at e
  · cases e; exact .inl ⟨_, _, rfl, rfl⟩
  · cases e; exact .inr ⟨_, _, rfl, rfl⟩
  · cases e) h
theorem o_le : OpR X (compareOp .LtE) (r2D M fLe) := OpR_imp (OpR_or op_le op_le_str) fun x y H Q h => r2_cmp (p := fun i j => decide (i ≤ j)) (ps := fun i j => !decide (j.cps.toList < i.cps.toList)) (fun ds rv e => by
  unfold fLe at e
  split at e
  · cases e; exact .inl ⟨_, _, rfl, rfl⟩
  · cases e; exact .inr ⟨_, _, rfl, rfl⟩
  · cases e) h
theorem o_gt : OpR X (compareOp .Gt) (r2D M fGt) := OpR_imp (OpR_or op_gt op_gt_str) fun x y H Q h => r2_cmp (p := fun i j => decide (j < i)) (ps := fun i j => decide (j.cps.toList < i.cps.toList)) (fun ds rv e => by
  unfold fGt at e
  split at e
  · cases e; exact .inl ⟨_, _, rfl, rfl⟩
  · cases e; exact .inr ⟨_, _, rfl, rfl⟩
  · cases e) h
theorem o_ge : OpR X (compareOp .GtE) (r2D M fGe) := OpR_imp (OpR_or op_ge op_ge_str) fun x y H Q h => r2_cmp (p := fun i j => decide (j ≤ i)) (ps := fun i j => !decide (i.cps.toList < j.cps.toList)) (fun ds rv e => by
  unfold fGe at e
  split at e
  · cases e; exact .inl ⟨_, _, rfl, rfl⟩
  · cases e; exact .inr ⟨_, _, rfl, rfl⟩
  · cases e) h
theorem o_eq (hK : X.K = M.K) (hu : X.A.units + 64 < cLine) : OpR X (compareOp .Eq) (r2D M fEq) := by
  intro pins s σ H x y v u Q I rx ry h
  obtain ⟨F, ds, rv, hd, od, ef, q⟩ := h
  unfold fEq at ef
  split at ef
  · obtain ⟨v, w, e, r1, r2⟩ := od.two
    cases e
    split at ef
    · rename_i hp
      cases ef
      exact (eqD I hK 60 _ _ _ _ _ _ X.A r1 r2 rx ry hp.1 hp.2 (by omega)).r _ _ _ _ ⟨.bl _, H, I, rfl, rv_same hd q (rep_bl _)⟩
    · cases ef
  · cases ef
theorem o_ne (hK : X.K = M.K) (hu : X.A.units + 64 < cLine) : OpR X (compareOp .NotEq) (r2D M fNe) := by
  intro pins s σ H x y v u Q I rx ry h
  obtain ⟨F, ds, rv, hd, od, ef, q⟩ := h
  unfold fNe at ef
  split at ef
  · obtain ⟨v, w, e, r1, r2⟩ := od.two
    cases e
    split at ef
    · rename_i hp
      cases ef
      exact (eqD I hK 60 _ _ _ _ _ _ X.A r1 r2 rx ry hp.1 hp.2 (by omega)).n _ _ _ _ ⟨.bl _, H, I, rfl, rv_same hd q (rep_bl _)⟩
    · cases ef
  · cases ef
theorem od_isnon {F : Addr → Prop} {H : Hp} {d : D} {v : V} (h : OdR M F H d v) : decide (v = .non) = d.isNon := by
  cases d with
  | non => rw [h.non]; simp [D.isNon]
  | bl b => rw [h.bl]; simp [D.isNon]
  | int b => rw [h.int]; simp [D.isNon]
  | str b => rw [h.str]; simp [D.isNon]
  | tup ds => obtain ⟨a, vs, rfl, _⟩ := h.tup; simp [D.isNon]
  | lst ds => obtain ⟨a, vs, rfl, _⟩ := h.lst; simp [D.isNon]
  | dck ks ds => obtain ⟨a, vs, rfl, _⟩ := h.dck; simp [D.isNon]
  | dct ks ds => obtain ⟨a, vs, rfl, _⟩ := h.dct; simp [D.isNon]
  | ins c fs ds => obtain ⟨a, C, dx, vs, rfl, _⟩ := h.ins; simp [D.isNon]
theorem o_is : OpR X (compareOp .Is) (r2D M fIs) := by
  refine OpR_imp (OpR_or op_isBl op_isN) fun x y H Q h => ?_
  obtain ⟨F, ds, rv, hd, od, ef, q⟩ := h
  unfold fIs at ef
  split at ef
  · obtain ⟨v, w, e, r1, r2⟩ := od.two
    cases e
    cases r1.bl
    cases r2.bl
    cases ef
    exact .inl ⟨_, _, rfl, rfl, rv_same hd q (rep_bl _)⟩
  · obtain ⟨v, w, e, r1, r2⟩ := od.two
    cases e
    cases r2.non
    cases ef
    refine .inr ⟨rfl, ?_⟩
    rw [od_isnon r1]
    exact rv_same hd q (rep_bl _)
  · cases ef
theorem o_isnot : OpR X (compareOp .IsNot) (r2D M fIsNot) := by
  refine OpR_imp (OpR_or op_notBl op_notN) fun x y H Q h => ?_
  obtain ⟨F, ds, rv, hd, od, ef, q⟩ := h
  unfold fIsNot at ef
  split at ef
  · obtain ⟨v, w, e, r1, r2⟩ := od.two
    cases e
    cases r1.bl
    cases r2.bl
    cases ef
    exact .inl ⟨_, _, rfl, rfl, rv_same hd q (rep_bl _)⟩
  · obtain ⟨v, w, e, r1, r2⟩ := od.two
    cases e
    cases r2.non
    cases ef
    refine .inr ⟨rfl, ?_⟩
    rw [od_isnon r1]
    exact rv_same hd q (rep_bl _)
  · cases ef
theorem o_in (hK : X.K = M.K) (hu : X.A.units + 64 < cLine) : OpR X (compareOp .In) (r2D M fIn) := by
  intro pins s σ H x y v u Q I rx ry h
  obtain ⟨F, ds, rv, hd, od, ef, q⟩ := h
  have hin : X.A.in1.units + 60 < cLine := by
    have : X.A.in1.units = X.A.units + 1 := rfl
    omega
  unfold fIn at ef
  split at ef
  · obtain ⟨v, w, e, r1, r2⟩ := od.two
    cases e
    cases r1.str
    cases r2.str
    cases ef
    exact op_in_str pins s σ H _ _ _ _ Q I rx ry ⟨_, _, rfl, rfl, rv_same hd q (rep_bl _)⟩
  · obtain ⟨v, w, e, r1, r2⟩ := od.two
    cases e
    split at ef
    · rename_i hp
      cases ef
      obtain ⟨a, vs, its, rfl, rfl, _, l, r, p⟩ := od_list I hK r2 ry
      obtain ⟨f, h1, h2⟩ := any_eqD (A := X.A) I hK r1 rx hp.1 hin l r (by simpa using hp.2)
      refine PySem.SeqAt.in_listAt f p (fun w hw => h1 w (by simpa using hw)) ⟨.bl _, H, I, rfl, ?_⟩
      rw [show its.toArray.any f = its.any f by simp, h2]
      exact rv_same hd q (rep_bl _)
    · cases ef
  · obtain ⟨v, w, e, r1, r2⟩ := od.two
    cases e
    split at ef
    · rename_i hp
      cases ef
      obtain ⟨a, vs, its, rfl, rfl, _, l, r, p⟩ := od_tup I hK r2 ry
      obtain ⟨f, h1, h2⟩ := any_eqD (A := X.A) I hK r1 rx hp.1 hin l r (by simpa using hp.2)
      refine PySem.SeqAt.in_tupleAt f p (fun w hw => h1 w (by simpa using hw)) ⟨.bl _, H, I, rfl, ?_⟩
      rw [show its.toArray.any f = its.any f by simp, h2]
      exact rv_same hd q (rep_bl _)
    · cases ef
  · cases ef
theorem o_notin (hK : X.K = M.K) (hu : X.A.units + 64 < cLine) : OpR X (compareOp .NotIn) (r2D M fNotIn) := by
  intro pins s σ H x y v u Q I rx ry h
  obtain ⟨F, ds, rv, hd, od, ef, q⟩ := h
  have hin : X.A.in1.units + 60 < cLine := by
    have : X.A.in1.units = X.A.units + 1 := rfl
    omega
  unfold fNotIn at ef
  split at ef
  · obtain ⟨v, w, e, r1, r2⟩ := od.two
    cases e
    cases r1.str
    cases r2.str
    cases ef
    exact op_notIn_str pins s σ H _ _ _ _ Q I rx ry ⟨_, _, rfl, rfl, rv_same hd q (rep_bl _)⟩
  · obtain ⟨v, w, e, r1, r2⟩ := od.two
    cases e
    split at ef
    · rename_i hp
      cases ef
      obtain ⟨a, vs, its, rfl, rfl, _, l, r, p⟩ := od_list I hK r2 ry
      obtain ⟨f, h1, h2⟩ := any_eqD (A := X.A) I hK r1 rx hp.1 hin l r (by simpa using hp.2)
      refine PySem.SeqAt.notIn_listAt f p (fun w hw => h1 w (by simpa using hw)) ⟨.bl _, H, I, rfl, ?_⟩
      rw [show its.toArray.any f = its.any f by simp, h2]
      exact rv_same hd q (rep_bl _)
    · cases ef
  · obtain ⟨v, w, e, r1, r2⟩ := od.two
    cases e
    split at ef
    · rename_i hp
      cases ef
      obtain ⟨a, vs, its, rfl, rfl, _, l, r, p⟩ := od_tup I hK r2 ry
      obtain ⟨f, h1, h2⟩ := any_eqD (A := X.A) I hK r1 rx hp.1 hin l r (by simpa using hp.2)
      refine PySem.SeqAt.notIn_tupleAt f p (fun w hw => h1 w (by simpa using hw)) ⟨.bl _, H, I, rfl, ?_⟩
      rw [show its.toArray.any f = its.any f by simp, h2]
      exact rv_same hd q (rep_bl _)
    · cases ef
  · cases ef
end
end VF

namespace VF
open PySem PySem.Spec PyProof.Rows L2

/-! ### dicts by value -/
def kget {κ : Type} [DecidableEq κ] : List κ → List D → κ → Option D
  | k :: ks, d :: ds, x => if k = x then some d else kget ks ds x
  | _, _, _ => none
def D.key? : D → Option Key
  | .int i => some (.inl i)
  | .str x => some (.inr x)
  | _ => none
def D.keys? : D → Option (List Key)
  | .tup ds => allOf D.key? ds
  | _ => none
section
variable {M : Md} {F : Addr → Prop} {H : Hp}
theorem kget_val {κ : Type} [DecidableEq κ] {x : κ} : ∀ {kvs : List (κ × V)} {ds : List D}, RepL M F H ds (kvs.map (·.2)) →
    (kget (kvs.map (·.1)) ds x = none ∧ valV kvs x = none) ∨ ∃ d v, kget (kvs.map (·.1)) ds x = some d ∧ valV kvs x = some v ∧ Rep M F H d v
  | [], ds, h => by
    cases ds with
    | nil => exact .inl ⟨rfl, rfl⟩
    | cons d ds => unfold RepL at h; obtain ⟨v, r, e, _⟩ := h; cases e
  | (k, w) :: kvs, ds, h => by
    cases ds with
    | nil => unfold RepL at h; cases h
    | cons d ds =>
      unfold RepL at h
      obtain ⟨v, r, e, p, q⟩ := h
      cases e
      simp only [List.map_cons, kget]
      by_cases hk : k = x
      · rw [if_pos hk, valV_pos (p := (k, w)) hk]
        exact .inr ⟨d, w, rfl, rfl, p⟩
      · rw [if_neg hk, valV_neg (p := (k, w)) hk]
        exact kget_val q
theorem key_rep {d : D} {k : Key} {v : V} (e : d.key? = some k) (h : OdR M F H d v) : v = kV k := by
  cases d <;> simp [D.key?] at e
  · rw [h.int, ← e]; rfl
  · rw [h.str, ← e]; rfl
theorem keys_rep : ∀ {ds : List D} {ks : List Key} {vs : List V}, allOf D.key? ds = some ks → RepL M F H ds vs → vs = ks.map kV
  | [], ks, vs, e, h => by cases e; unfold RepL at h; exact h
  | d :: ds, ks, vs, e, h => by
    cases e1 : d.key? with
    | none => simp only [allOf, e1] at e; cases e
    | some k =>
      cases e2 : allOf D.key? ds with
      | none => simp only [allOf, e1, e2] at e; cases e
      | some r =>
        simp only [allOf, e1, e2] at e
        cases e
        unfold RepL at h
        obtain ⟨v, w, rfl, p, q⟩ := h
        rw [key_rep e1 (.inl p), keys_rep e2 q]
        rfl
end

def atD (ds : List D) (i : Int) : Option D := atI ds i
def fItem : List D → Option Rv
  | [.lst ds, .int i] => (atI ds i).map .val
  | [.tup ds, .int i] => (atI ds i).map .val
  | [.str z, .int i] => if z.length ≤ sizeLine then (atI z.cps.toList i).map fun c => .val (.str ⟨#[c]⟩) else none
  | [.dck ks ds, e] => match e.key? with
    | some k => (kget ks ds k).map .val
    | none => none
  | _ => none
theorem at_rep {M : Md} {F : Addr → Prop} {H : Hp} {ds : List D} {vs : List V} {i : Int} {d : D} (l : RepL M F H ds vs) (e : atI ds i = some d) : ∃ v, atI vs i = some v ∧ Rep M F H d v := by
  unfold atI at e ⊢
  rw [← l.length]
  cases q : ixN ds.length i with
  | none => rw [q] at e; cases e
  | some j =>
    rw [q] at e
    obtain ⟨v, h1, h2⟩ := RepL.get l (show ds[j]? = some d from e)
    exact ⟨v, h1, h2⟩
section
variable {M : Md} {X : Cx}
theorem ix_dict (hu : X.A.units + 1 < cLine) : IxR X (fun x y H Q => ∃ a v, x = .ref a ∧ DGet H a y (some v) ∧ Q v H) := by
  intro value slice pins s σ H x y v u Q I rx ry h hs
  obtain ⟨a, w, rfl, g, q⟩ := h
  cases rx
  exact tail_any (dict_typeIs I g) PySem.F.slot_dict_getitem.lookup (d_getItem hu I g ry fun w' s' I' rw' => ⟨w, H, I', rw', q⟩) hs
theorem IxR_imp {r r' : R2} (a : IxR X r) (h : ∀ x y H Q, r' x y H Q → r x y H Q) : IxR X r' :=
  fun value slice pins s σ H x y v u Q I rx ry q hs => a value slice pins s σ H x y v u Q I rx ry (h x y H Q q) hs
theorem i_item (hK : X.K = M.K) (hu : X.A.units + 1 < cLine) : IxR X (r2D M fItem) := by
  refine IxR_imp (ix_list.or (ix_tup.or (ix_str.or (ix_dict hu)))) fun x y H Q h => ?_
  obtain ⟨F, ds, rv, hd, od, ef, q⟩ := h
  unfold fItem at ef
  split at ef
  · obtain ⟨v, w, e, r1, r2⟩ := od.two
    cases e
    cases r2.int
    obtain ⟨a, vs, rfl, p1, l1⟩ := r1.lst
    obtain ⟨d, e1, rfl⟩ := Option.map_eq_some_iff.mp ef
    obtain ⟨z, h1, h2⟩ := at_rep l1 e1
    exact .inl ⟨a, vs, _, z, rfl, rfl, by rw [hK]; exact p1, h1, rv_same hd q h2⟩
  · obtain ⟨v, w, e, r1, r2⟩ := od.two
    cases e
    cases r2.int
    obtain ⟨a, vs, rfl, p1, l1⟩ := r1.tup
    obtain ⟨d, e1, rfl⟩ := Option.map_eq_some_iff.mp ef
    obtain ⟨z, h1, h2⟩ := at_rep l1 e1
    exact .inr (.inl ⟨a, vs, _, z, rfl, rfl, by rw [hK]; exact p1, h1, rv_same hd q h2⟩)
  · obtain ⟨v, w, e, r1, r2⟩ := od.two
    cases e
    cases r2.int
    cases r1.str
    split at ef
    · rename_i hz
      obtain ⟨c, e1, rfl⟩ := Option.map_eq_some_iff.mp ef
      exact .inr (.inr (.inl ⟨_, _, c, rfl, rfl, hz, e1, rv_same hd q (rep_str _)⟩))
    · cases ef
  · obtain ⟨v, w, e, r1, r2⟩ := od.two
    cases e
    obtain ⟨a, vs, rfl, p1, k1, l1⟩ := r1.dck
    split at ef
    · rename_i k ek
      obtain ⟨d, e1, rfl⟩ := Option.map_eq_some_iff.mp ef
      subst k1
      rcases kget_val (x := k) l1 with ⟨z, _⟩ | ⟨d', v', z1, z2, z3⟩
      · rw [z] at e1; cases e1
      · rw [z1] at e1
        cases e1
        exact .inr (.inr (.inr ⟨a, v', rfl, .inl ⟨vs, k, p1, key_rep ek r2, z2.symm⟩, rv_same hd q z3⟩))
    · cases ef
  · cases ef
end

/-! ### slices -/
def cutD (ds : List D) (lo hi : Option Int) : List D := (ds.drop (HT.sIx ds.length 0 lo)).take (HT.sIx ds.length ds.length hi - HT.sIx ds.length 0 lo)
def fSl : D → Option Int → Option Int → Option Rv
  | .lst ds, lo, hi => some (.own (.lst (cutD ds lo hi)))
  | .tup ds, lo, hi => some (.val (.tup (cutD ds lo hi)))
  | .str z, lo, hi => if z.length ≤ sizeLine then some (.val (.str (cutS z lo hi))) else none
  | _, _, _ => none
def rSlD (M : Md) : V → Option Int → Option Int → Hp → VK → Prop := fun x lo hi H Q => ∃ F d rv, (∀ a, F a → H a ≠ none) ∧ OdR M F H d x ∧ fSl d lo hi = some rv ∧ ∀ F' H' v, New F H F' H' → RvR M H F' H' rv v → Q v H'
theorem cut_rep {M : Md} {F : Addr → Prop} {H : Hp} {ds : List D} {vs : List V} (lo hi : Option Int) (l : RepL M F H ds vs) : RepL M F H (cutD ds lo hi) (cutV vs lo hi) := by
  unfold cutD cutV
  rw [l.length]
  exact (l.drop _).take _
theorem SlR_imp {X : Cx} {r r' : V → Option Int → Option Int → Hp → VK → Prop} (a : L2.SlR X r) (h : ∀ x lo hi H Q, r' x lo hi H Q → r x lo hi H Q) : L2.SlR X r' :=
  fun pins s σ H x v vl vu lo hi sl Q I rx hs pl pu q => a pins s σ H x v vl vu lo hi sl Q I rx hs pl pu (h x lo hi H Q q)
theorem s_slice {M : Md} {X : Cx} (hK : X.K = M.K) : L2.SlR X (rSlD M) := by
  refine SlR_imp (sl_list.or (sl_tupA.or sl_str)) fun x lo hi H Q h => ?_
  obtain ⟨F, d, rv, hd, od, ef, q⟩ := h
  cases d <;> simp only [fSl] at ef
  case lst ds =>
    cases ef
    obtain ⟨a, vs, rfl, p1, l1⟩ := od.lst
    exact .inl ⟨a, vs, rfl, by rw [hK]; exact p1, fun p hp => q F _ _ (New.laid hd hp) (rv_list hd hp (cut_rep lo hi l1))⟩
  case tup ds =>
    cases ef
    obtain ⟨a, vs, rfl, p1, l1⟩ := od.tup
    refine .inr (.inl ⟨a, vs, rfl, by rw [hK]; exact p1, fun hw => ?_, fun _ p hp => q F _ _ (New.laid hd hp) (rv_tup hd hp (cut_rep lo hi l1))⟩)
    refine rv_same hd q ?_
    show Rep M F H _ _
    unfold Rep
    have z := cut_rep lo hi l1
    have e : cutV vs lo hi = vs := by
      unfold cutV
      rw [hw.1, hw.2]
      simp
    rw [e] at z
    exact ⟨a, vs, rfl, p1, z⟩
  case str z =>
    split at ef
    · rename_i hz
      cases ef
      cases od.str
      exact .inr (.inr ⟨z, rfl, hz, rv_same hd q (rep_str _)⟩)
    · cases ef
  all_goals cases ef

/-! ### built-in calls -/
def fLen : List D → Option Rv
  | [.lst ds] => some (.val (.int ds.length))
  | [.tup ds] => some (.val (.int ds.length))
  | [.str z] => if z.length ≤ sizeLine then some (.val (.int z.length)) else none
  | _ => none
def fInt : List D → Option Rv
  | [.int i] => some (.val (.int i))
  | [.bl k] => some (.val (.int (if k then 1 else 0)))
  | _ => none
def fStr : List D → Option Rv
  | [.int i] => if i.natAbs.log2 < 1920 then some (.val (.str (toString i))) else none
  | _ => none
def fAbs : List D → Option Rv
  | [.int i] => some (.val (.int (if i < 0 then -i else i)))
  | _ => none
def fMax2 : List D → Option Rv
  | [.int i, .int j] => some (.val (.int (if j > i then j else i)))
  | _ => none
def fMin2 : List D → Option Rv
  | [.int i, .int j] => some (.val (.int (if j < i then j else i)))
  | _ => none
def fList : List D → Option Rv
  | [.lst ds] => some (.own (.lst ds))
  | [.tup ds] => some (.own (.lst ds))
  | _ => none
def fTuple : List D → Option Rv
  | [.lst ds] => some (.val (.tup ds))
  | [.tup ds] => some (.val (.tup ds))
  | _ => none
def fAll : List D → Option Rv
  | [.lst ds] => match allOf D.bl? ds with
    | some bs => some (.val (.bl (bs.all id)))
    | none => none
  | _ => none
def fAny : List D → Option Rv
  | [.lst ds] => match allOf D.bl? ds with
    | some bs => some (.val (.bl (bs.any id)))
    | none => none
  | _ => none
def fSum : List D → Option Rv
  | [.lst ds] => match allOf D.int? ds with
    | some ns => some (.val (.int ns.sum))
    | none => none
  | _ => none
/-- the greatest, the least of ints -/
def imax : List Int → Int
  | [] => 0
  | [x] => x
  | x :: xs => max x (imax xs)
def imin : List Int → Int
  | [] => 0
  | [x] => x
  | x :: xs => min x (imin xs)
theorem imax_spec : ∀ (xs : List Int), xs ≠ [] → imax xs ∈ xs ∧ ∀ y ∈ xs, y ≤ imax xs
  | [], h => absurd rfl h
  | [x], _ => by simp [imax]
  | x :: y :: r, _ => by
    obtain ⟨h1, h2⟩ := imax_spec (y :: r) (by simp)
    have e : imax (x :: y :: r) = max x (imax (y :: r)) := rfl
    rw [e]
    constructor
    · rcases Int.le_total x (imax (y :: r)) with h | h
      · rw [Int.max_eq_right h]; exact List.mem_cons_of_mem _ h1
      · rw [Int.max_eq_left h]; exact List.mem_cons_self
    · intro z hz
      rcases List.mem_cons.mp hz with rfl | hz
      · exact Int.le_max_left _ _
      · exact Int.le_trans (h2 z hz) (Int.le_max_right _ _)
theorem imin_spec : ∀ (xs : List Int), xs ≠ [] → imin xs ∈ xs ∧ ∀ y ∈ xs, imin xs ≤ y
  | [], h => absurd rfl h
  | [x], _ => by simp [imin]
  | x :: y :: r, _ => by
    obtain ⟨h1, h2⟩ := imin_spec (y :: r) (by simp)
    have e : imin (x :: y :: r) = min x (imin (y :: r)) := rfl
    rw [e]
    constructor
    · rcases Int.le_total x (imin (y :: r)) with h | h
      · rw [Int.min_eq_left h]; exact List.mem_cons_self
      · rw [Int.min_eq_right h]; exact List.mem_cons_of_mem _ h1
    · intro z hz
      rcases List.mem_cons.mp hz with rfl | hz
      · exact Int.min_le_left _ _
      · exact Int.le_trans (Int.min_le_right _ _) (h2 z hz)
def fMax : List D → Option Rv
  | [.lst ds] => match allOf D.int? ds with
    | some (n :: ns) => some (.val (.int (imax (n :: ns))))
    | _ => none
  | _ => none
def fMin : List D → Option Rv
  | [.lst ds] => match allOf D.int? ds with
    | some (n :: ns) => some (.val (.int (imin (n :: ns))))
    | _ => none
  | _ => none
section
variable {M : Md} {X : Cx}
theorem c_len (hK : X.K = M.K) : CallR X (.builtin "len") (rDs M fLen) := by
  refine CallR_imp (CallR_or call_len_seq call_len_str) fun xs H Q h => ?_
  obtain ⟨F, ds, rv, hd, od, ef, q⟩ := h
  unfold fLen at ef
  split at ef
  · obtain ⟨v, rfl, r1⟩ := od.one
    obtain ⟨a, vs, rfl, p1, l1⟩ := r1.lst
    cases ef
    refine .inl ⟨a, vs, rfl, .inl (by rw [hK]; exact p1), ?_⟩
    rw [← l1.length]
    exact rv_same hd q (rep_int _)
  · obtain ⟨v, rfl, r1⟩ := od.one
    obtain ⟨a, vs, rfl, p1, l1⟩ := r1.tup
    cases ef
    refine .inl ⟨a, vs, rfl, .inr (by rw [hK]; exact p1), ?_⟩
    rw [← l1.length]
    exact rv_same hd q (rep_int _)
  · obtain ⟨v, rfl, r1⟩ := od.one
    cases r1.str
    split at ef
    · rename_i hz
      cases ef
      exact .inr ⟨_, rfl, hz, rv_same hd q (rep_int _)⟩
    · cases ef
  · cases ef
theorem c_int : CallR X (.type "int") (rDs M fInt) := by
  refine CallR_imp call_int1 fun xs H Q h => ?_
  obtain ⟨F, ds, rv, hd, od, ef, q⟩ := h
  unfold fInt at ef
  split at ef
  · obtain ⟨v, rfl, r1⟩ := od.one
    cases r1.int
    cases ef
    exact .inl ⟨_, rfl, rv_same hd q (rep_int _)⟩
  · obtain ⟨v, rfl, r1⟩ := od.one
    cases r1.bl
    cases ef
    exact .inr ⟨_, rfl, rv_same hd q (rep_int _)⟩
  · cases ef
theorem c_str : CallR X (.type "str") (rDs M fStr) := by
  refine CallR_imp call_str_int fun xs H Q h => ?_
  obtain ⟨F, ds, rv, hd, od, ef, q⟩ := h
  unfold fStr at ef
  split at ef
  · obtain ⟨v, rfl, r1⟩ := od.one
    cases r1.int
    split at ef
    · rename_i hz
      cases ef
      exact ⟨_, rfl, hz, rv_same hd q (rep_str _)⟩
    · cases ef
  · cases ef
theorem c_abs : CallR X (.builtin "abs") (rDs M fAbs) := by
  refine CallR_imp call_abs fun xs H Q h => ?_
  obtain ⟨F, ds, rv, hd, od, ef, q⟩ := h
  unfold fAbs at ef
  split at ef
  · obtain ⟨v, rfl, r1⟩ := od.one
    cases r1.int
    cases ef
    exact ⟨_, rfl, rv_same hd q (rep_int _)⟩
  · cases ef
theorem c_list (hK : X.K = M.K) : CallR X (.type "list") (rDs M fList) := by
  refine CallR_imp call_list_of fun xs H Q h => ?_
  obtain ⟨F, ds, rv, hd, od, ef, q⟩ := h
  unfold fList at ef
  split at ef
  · obtain ⟨v, rfl, r1⟩ := od.one
    obtain ⟨a, vs, rfl, p1, l1⟩ := r1.lst
    cases ef
    exact ⟨a, vs, rfl, .inl (by rw [hK]; exact p1), fun p hp => q F _ _ (New.laid hd hp) (rv_list hd hp l1)⟩
  · obtain ⟨v, rfl, r1⟩ := od.one
    obtain ⟨a, vs, rfl, p1, l1⟩ := r1.tup
    cases ef
    exact ⟨a, vs, rfl, .inr (by rw [hK]; exact p1), fun p hp => q F _ _ (New.laid hd hp) (rv_list hd hp l1)⟩
  · cases ef
theorem c_tuple (hK : X.K = M.K) : CallR X (.type "tuple") (rDs M fTuple) := by
  refine CallR_imp call_tuple_of fun xs H Q h => ?_
  obtain ⟨F, ds, rv, hd, od, ef, q⟩ := h
  unfold fTuple at ef
  split at ef
  · obtain ⟨v, rfl, r1⟩ := od.one
    obtain ⟨a, vs, rfl, p1, l1⟩ := r1.lst
    cases ef
    exact ⟨a, vs, rfl, .inl ⟨by rw [hK]; exact p1, fun p hp => q F _ _ (New.laid hd hp) (rv_tup hd hp l1)⟩⟩
  · obtain ⟨v, rfl, r1⟩ := od.one
    obtain ⟨a, vs, rfl, p1, l1⟩ := r1.tup
    cases ef
    refine ⟨a, vs, rfl, .inr ⟨by rw [hK]; exact p1, rv_same hd q ?_⟩⟩
    show Rep M F H _ _
    unfold Rep
    exact ⟨a, vs, rfl, p1, l1⟩
  · cases ef
theorem c_all (hK : X.K = M.K) (hc : X.calm = true) : CallR X (.builtin "all") (rDs M fAll) := by
  refine CallR_imp (cr_all hc) fun xs H Q h => ?_
  obtain ⟨F, ds, rv, hd, od, ef, q⟩ := h
  unfold fAll at ef
  split at ef
  · obtain ⟨v, rfl, r1⟩ := od.one
    obtain ⟨a, vs, rfl, p1, l1⟩ := r1.lst
    split at ef
    · rename_i bs e
      cases ef
      rw [bls_eq e] at l1
      rw [l1.bls] at p1
      exact ⟨a, bs, rfl, by rw [hK]; exact p1, rv_same hd q (rep_bl _)⟩
    · cases ef
  · cases ef
theorem c_any (hK : X.K = M.K) (hc : X.calm = true) : CallR X (.builtin "any") (rDs M fAny) := by
  refine CallR_imp (cr_any hc) fun xs H Q h => ?_
  obtain ⟨F, ds, rv, hd, od, ef, q⟩ := h
  unfold fAny at ef
  split at ef
  · obtain ⟨v, rfl, r1⟩ := od.one
    obtain ⟨a, vs, rfl, p1, l1⟩ := r1.lst
    split at ef
    · rename_i bs e
      cases ef
      rw [bls_eq e] at l1
      rw [l1.bls] at p1
      exact ⟨a, bs, rfl, by rw [hK]; exact p1, rv_same hd q (rep_bl _)⟩
    · cases ef
  · cases ef
theorem c_sum (hK : X.K = M.K) (hc : X.calm = true) : CallR X (.builtin "sum") (rDs M fSum) := by
  refine CallR_imp (cr_sum hc) fun xs H Q h => ?_
  obtain ⟨F, ds, rv, hd, od, ef, q⟩ := h
  unfold fSum at ef
  split at ef
  · obtain ⟨v, rfl, r1⟩ := od.one
    obtain ⟨a, vs, rfl, p1, l1⟩ := r1.lst
    split at ef
    · rename_i bs e
      cases ef
      rw [ints_eq e] at l1
      rw [l1.ints] at p1
      exact ⟨a, bs, rfl, by rw [hK]; exact p1, rv_same hd q (rep_int _)⟩
    · cases ef
  · cases ef
theorem c_max (hK : X.K = M.K) (hc : X.calm = true) : CallR X (.builtin "max") (rDs M fMax) := by
  refine CallR_imp (cr_max hc) fun xs H Q h => ?_
  obtain ⟨F, ds, rv, hd, od, ef, q⟩ := h
  unfold fMax at ef
  split at ef
  · obtain ⟨v, rfl, r1⟩ := od.one
    obtain ⟨a, vs, rfl, p1, l1⟩ := r1.lst
    split at ef
    · rename_i n ns e
      cases ef
      rw [ints_eq e] at l1
      rw [l1.ints] at p1
      refine ⟨a, n :: ns, rfl, by rw [hK]; exact p1, by simp, fun m hm hall => ?_⟩
      obtain ⟨h1, h2⟩ := imax_spec (n :: ns) (by simp)
      rw [show m = imax (n :: ns) from Int.le_antisymm (h2 m hm) (hall _ h1)]
      exact rv_same hd q (rep_int _)
    · cases ef
  · cases ef
theorem c_min (hK : X.K = M.K) (hc : X.calm = true) : CallR X (.builtin "min") (rDs M fMin) := by
  refine CallR_imp (cr_min hc) fun xs H Q h => ?_
  obtain ⟨F, ds, rv, hd, od, ef, q⟩ := h
  unfold fMin at ef
  split at ef
  · obtain ⟨v, rfl, r1⟩ := od.one
    obtain ⟨a, vs, rfl, p1, l1⟩ := r1.lst
    split at ef
    · rename_i n ns e
      cases ef
      rw [ints_eq e] at l1
      rw [l1.ints] at p1
      refine ⟨a, n :: ns, rfl, by rw [hK]; exact p1, by simp, fun m hm hall => ?_⟩
      obtain ⟨h1, h2⟩ := imin_spec (n :: ns) (by simp)
      rw [show m = imin (n :: ns) from Int.le_antisymm (hall _ h1) (h2 m hm)]
      exact rv_same hd q (rep_int _)
    · cases ef
  · cases ef
theorem c_max2 (hc : X.calm = true) : CallR X (.builtin "max") (rDs M fMax2) := by
  refine CallR_imp (call_max2 hc) fun xs H Q h => ?_
  obtain ⟨F, ds, rv, hd, od, ef, q⟩ := h
  unfold fMax2 at ef
  split at ef
  · obtain ⟨v, w, rfl, r1, r2⟩ := od.two
    cases r1.int
    cases r2.int
    cases ef
    exact ⟨_, _, rfl, rv_same hd q (rep_int _)⟩
  · cases ef
theorem c_min2 (hc : X.calm = true) : CallR X (.builtin "min") (rDs M fMin2) := by
  refine CallR_imp (call_min2 hc) fun xs H Q h => ?_
  obtain ⟨F, ds, rv, hd, od, ef, q⟩ := h
  unfold fMin2 at ef
  split at ef
  · obtain ⟨v, w, rfl, r1, r2⟩ := od.two
    cases r1.int
    cases r2.int
    cases ef
    exact ⟨_, _, rfl, rv_same hd q (rep_int _)⟩
  · cases ef
end

/-! ### texts -/
def fJoin : List D → Option Rv
  | [.str a, .lst ds] => match allOf D.str? ds with
    | some ys => if (ys.map (·.length)).sum + ys.length * a.length ≤ 16777216 then some (.val (.str (Txt.join a ys))) else none
    | none => none
  | _ => none
/-- a method's reading by data -/
def rMD (M : Md) (f : List D → Option Rv) : V → List V → Hp → VK → Prop := fun x xs H Q => rDs M f (x :: xs) H Q
theorem m_join {M : Md} {X : Cx} (hK : X.K = M.K) : MtR X "str.join" (rMD M fJoin) := by
  refine MtR_imp mt_join fun x xs H Q h => ?_
  obtain ⟨F, ds, rv, hd, od, ef, q⟩ := h
  unfold fJoin at ef
  split at ef
  · obtain ⟨v, w, e, r1, r2⟩ := od.two
    cases e
    cases r1.str
    obtain ⟨a, vs, rfl, p1, l1⟩ := r2.lst
    split at ef
    · rename_i ys e
      split at ef
      · rename_i hz
        cases ef
        rw [strs_eq e] at l1
        rw [l1.strs] at p1
        exact ⟨_, a, ys, rfl, rfl, .inl (by rw [hK]; exact p1), hz, rv_same hd q (rep_str _)⟩
      · cases ef
    · cases ef
  · cases ef
end VF

namespace VF
open PySem PySem.Spec PyProof.Rows L2

/-! ### small combinators -/
def cst (d : D) : ES := fun ρ => .ok (.val d) ρ
/-- a name as a value: an own object is frozen -/
def nm (i : Nat) : ES := fun ρ => match gt ρ i with
  | some (.val d) => .ok (.val d) ρ
  | some (.own d) => .ok (.val d) (ρ.set i (some (.val d)))
  | _ => .bad
def evI : Option Opd → En → Out (Option Int)
  | none, ρ => .ok none ρ
  | some o, ρ => (o.ev ρ).bind fun x ρ' => match x.dat ρ' with
    | some (.int i) => .ok (some i) ρ'
    | _ => .bad
def slc (o : Opd) (lo hi : Option Opd) : ES := fun ρ => (o.ev ρ).bind fun x ρ1 => (evI lo ρ1).bind fun l ρ2 => (evI hi ρ2).bind fun u ρ3 => match x.dat ρ3 with
  | some d => (match fSl d l u with
    | some r => .ok r ρ3
    | none => .bad)
  | none => .bad
def chn (f g : List D → Option Rv) (a b c : Opd) : ES := fun ρ => (a.ev ρ).bind fun x ρ0 => (b.ev ρ0).bind fun y ρ1 => match x.dat ρ1, y.dat ρ1 with
  | some d, some e => (match f [d, e] with
    | some (.val (.bl true)) => (c.ev ρ1).bind fun z ρ2 => (match y.dat ρ2, z.dat ρ2 with
      | some e', some k => (match g [e', k] with
        | some r => .ok r ρ2
        | none => .bad)
      | _, _ => .bad)
    | some (.val (.bl false)) => .ok (.val (.bl false)) ρ1
    | _ => .bad)
  | _, _ => .bad
def vals : List Ov → Option (List D)
  | [] => some []
  | .val d :: xs => (vals xs).map (d :: ·)
  | .at _ :: _ => none
def disp (mk : List D → Rv) (φs : List ES) : ES := fun ρ => (evs (φs.map .ex) ρ).bind fun xs ρ' => match vals xs with
  | some ds => .ok (mk ds) ρ'
  | none => .bad
def D.truth : D → Option Bool
  | .non => some false
  | .bl b => some b
  | .int i => some (i != 0)
  | .str y => if y.length ≤ sizeLine then some ((y.length : Int) != 0) else none
  | .tup ds => some (!ds.isEmpty)
  | .lst ds => some (!ds.isEmpty)
  | _ => none
abbrev BS := En → Out Bool
def tru (o : Opd) : BS := fun ρ => (o.ev ρ).bind fun x ρ' => match x.dat ρ' with
  | some d => (match d.truth with
    | some k => .ok k ρ'
    | none => .bad)
  | none => .bad
def bnot (t : BS) : BS := fun ρ => (t ρ).bind fun b ρ' => .ok (!b) ρ'
def band (t u : BS) : BS := fun ρ => (t ρ).bind fun b ρ' => if b then u ρ' else .ok false ρ'
def bor (t u : BS) : BS := fun ρ => (t ρ).bind fun b ρ' => if b then .ok true ρ' else u ρ'
def iff (t : BS) (a b : ES) : ES := fun ρ => (t ρ).bind fun c ρ' => if c then a ρ' else b ρ'
def andE (a b : ES) : ES := fun ρ => (a ρ).bind fun r ρ' => match r.d.truth with
  | some true => b ρ'
  | some false => .ok r ρ'
  | none => .bad
def orE (a b : ES) : ES := fun ρ => (a ρ).bind fun r ρ' => match r.d.truth with
  | some false => b ρ'
  | some true => .ok r ρ'
  | none => .bad
def notE (o : Opd) : ES := fun ρ => (tru o ρ).bind fun b ρ' => .ok (.val (.bl (!b))) ρ'
/-- the reading of a test -/
def tT (M : Md) (W : WX) (φ : BS) : TT := fun σ H Q => ∃ F ρ, SR M F H σ ρ ∧ Want M W F H σ ρ (φ ρ) fun b _ H' _ => Q b H'

section
variable {M : Md} {W : WX} {F : Addr → Prop} {H : Hp} {σ : St} {ρ : En}
/-- one step behind another -/
theorem Want.bind {α β : Type} {o : Out α} {f : α → En → Out β} {Q : β → (Addr → Prop) → Hp → En → Prop} (h : Want M W F H σ ρ (o.bind f) Q) :
    Want M W F H σ ρ o fun a F1 H1 ρ1 => Po M F H σ ρ F1 H1 ρ1 → Want M W F1 H1 σ ρ1 (f a ρ1) fun b F2 H2 ρ2 => Po M F H σ ρ F2 H2 ρ2 → Q b F2 H2 ρ2 := by
  cases o with
  | bad => exact h
  | exc x ρ' => exact h
  | ok a ρ1 =>
    intro F1 H1 po1 _
    have h : Want M W F H σ ρ (f a ρ1) Q := h
    cases e : f a ρ1 with
    | bad => rw [e] at h; exact h
    | exc x ρ2 => rw [e] at h; exact fun F2 H2 cls d po2 xr => h F2 H2 cls d (po1.trans po2) xr
    | ok b ρ2 => rw [e] at h; exact fun F2 H2 po2 _ => h F2 H2 (po1.trans po2)
theorem Want.mono {α : Type} {o : Out α} {Q Q' : α → (Addr → Prop) → Hp → En → Prop} (h : Want M W F H σ ρ o Q) (k : ∀ a F' H' ρ', Po M F H σ ρ F' H' ρ' → Q a F' H' ρ' → Q' a F' H' ρ') : Want M W F H σ ρ o Q' := by
  cases o with
  | bad => exact h
  | exc x ρ' => exact h
  | ok a ρ' => exact fun F' H' po => k a F' H' ρ' po (h F' H' po)
theorem Want.ok {α : Type} {a : α} {ρ' : En} {Q : α → (Addr → Prop) → Hp → En → Prop} (h : Want M W F H σ ρ (.ok a ρ') Q) {F' : Addr → Prop} {H' : Hp} (po : Po M F H σ ρ F' H' ρ') : Q a F' H' ρ' := h F' H' po
/-- an own object is frozen where it stands -/
theorem freeze_slot (s : SR M F H σ ρ) {i : Nat} {d : D} (e : gt ρ i = some (.own d)) : ∃ F' v, gv σ i = some v ∧ Po M F H σ ρ F' H (ρ.set i (some (.val d))) ∧ Rep M F' H d v := by
  obtain ⟨v, hv, a, rfl, nf, c⟩ := s.slot i _ e
  have hi := gt_lt e
  have x : Ext F H (fun b => F b ∨ b = a) H := ⟨fun _ h => .inl h, fun _ _ _ h => h, fun _ _ _ _ _ h => h, fun _ _ h => h⟩
  obtain ⟨u, hu, _⟩ := c.some_of
  have ne : ∀ j t, j ≠ i → gt ρ j = some t → t.top = true → gv σ j ≠ some (.ref a) := fun j t hj ht htop z => hj (s.dist j i t _ a ht e htop rfl z hv)
  refine ⟨fun b => F b ∨ b = a, .ref a, hv, ⟨⟨fun b h => .inl h, fun b o h _ _ => h, fun b h => h, fun b h => ?_, fun b h => ?_, fun b h => ?_⟩, ⟨by rw [List.length_set]; exact s.len, fun b h => ?_, fun j t h => ?_, fun j k t t' b h1 h2 h3 h4 h5 h6 => ?_⟩, ⟨by rw [List.length_set], fun j => ?_⟩⟩, (c.mono x fun _ h => h).rep (.inr rfl)⟩
  · rcases h with h | rfl
    · exact .inl h
    · exact .inr (.inr ⟨i, d, e, hv⟩)
  · obtain ⟨j, d', h1, h2⟩ := h
    by_cases hj : i = j
    · subst hj
      rw [gt_set_self hi] at h1
      cases h1
    · rw [gt_set_ne hj] at h1
      exact .inl ⟨j, d', h1, h2⟩
  · obtain ⟨j, d', h1, h2⟩ := h
    by_cases hj : i = j
    · subst hj
      rw [gt_set_self hi] at h1
      cases h1
    · rw [gt_set_ne hj] at h1
      exact ⟨j, d', h1, h2⟩
  · rcases h with h | rfl
    · exact s.dom b h
    · intro z
      have hu : H b = some u := hu
      rw [z] at hu
      cases hu
  · by_cases hj : i = j
    · subst hj
      rw [gt_set_self hi] at h
      cases h
      exact ⟨.ref a, hv, (c.mono x fun _ h => h).rep (.inr rfl)⟩
    · rw [gt_set_ne hj] at h
      obtain ⟨w, hw, r⟩ := s.slot j t h
      refine ⟨w, hw, ?_⟩
      cases t with
      | val d' => exact Rep.mono x d' r
      | own d' =>
        obtain ⟨b, rfl, nf', c'⟩ := r
        exact ⟨b, rfl, fun z => z.elim nf' fun z => ne j _ (Ne.symm hj) h rfl (by rw [hw, z]), c'.mono x fun _ h => h⟩
      | ref d' =>
        obtain ⟨b, rfl, nf', c'⟩ := r
        exact ⟨b, rfl, fun z => z.elim nf' fun z => ne j _ (Ne.symm hj) h rfl (by rw [hw, z]), c'.mono x fun _ h => h⟩
      | rd d' =>
        obtain ⟨b, rfl, nf', c'⟩ := r
        exact ⟨b, rfl, fun z => z.elim nf' fun z => ne j _ (Ne.symm hj) h rfl (by rw [hw, z]), c'.mono x fun _ h => h⟩
  · by_cases hj : i = j
    · subst hj
      rw [gt_set_self hi] at h1
      cases h1
      cases h3
    · by_cases hk : i = k
      · subst hk
        rw [gt_set_self hi] at h2
        cases h2
        cases h4
      · rw [gt_set_ne hj] at h1
        rw [gt_set_ne hk] at h2
        exact s.dist j k t t' b h1 h2 h3 h4 h5 h6
  · by_cases hj : i = j
    · subst hj
      rw [gt_set_self hi, e]
      trivial
    · rw [gt_set_ne hj]
      exact .refl _
theorem nm_run {i : Nat} {Q : VK} (h : tE M W (nm i) σ H Q) : tVar i σ H Q := by
  obtain ⟨F, ρ, s, h⟩ := h
  cases e : gt ρ i with
  | none => simp only [nm, e] at h; exact h.elim
  | some t =>
    cases t with
    | val d =>
      simp only [nm, e] at h
      obtain ⟨v, hv, r⟩ := s.slot i _ e
      exact ⟨v, gv_some hv, h F H (.refl s) v r⟩
    | own d =>
      simp only [nm, e] at h
      obtain ⟨F', v, hv, po, r⟩ := freeze_slot s e
      exact ⟨v, gv_some hv, h F' H po v r⟩
    | ref d => simp only [nm, e] at h; exact h.elim
    | rd d => simp only [nm, e] at h; exact h.elim
theorem cst_run {d : D} {v : V} {Q : VK} (r : ∀ F H, Rep M F H d v) (h : tE M W (cst d) σ H Q) : Q v H := by
  obtain ⟨F, ρ, s, h⟩ := h
  exact h F H (.refl s) v (r F H)
/-- an operand, then more -/
theorem op_bind (s : SR M F H σ ρ) {o : Opd} {β : Type} {f : Ov → En → Out β} {Q : β → (Addr → Prop) → Hp → En → Prop} {Q' : VK} (h : Want M W F H σ ρ ((o.ev ρ).bind f) Q)
    (k : ∀ x F1 H1 ρ1 v, Po M F H σ ρ F1 H1 ρ1 → OvR M F1 H1 σ x v → Want M W F1 H1 σ ρ1 (f x ρ1) (fun b F2 H2 ρ2 => Po M F H σ ρ F2 H2 ρ2 → Q b F2 H2 ρ2) → Q' v H1) : tO M W o σ H Q' :=
  op_run s ((Want.bind h).mono fun x F1 H1 ρ1 po q v rv => k x F1 H1 ρ1 v po rv (q po))
theorem tE_of' (s : SR M F H σ ρ) {φ : ES} {β : Type} {f : Rv → En → Out β} {Q : β → (Addr → Prop) → Hp → En → Prop} {Q' : VK} (h : Want M W F H σ ρ ((φ ρ).bind f) Q)
    (k : ∀ r F1 H1 ρ1 v, Po M F H σ ρ F1 H1 ρ1 → RvR M H F1 H1 r v → Want M W F1 H1 σ ρ1 (f r ρ1) (fun b F2 H2 ρ2 => Po M F H σ ρ F2 H2 ρ2 → Q b F2 H2 ρ2) → Q' v H1) : tE M W φ σ H Q' :=
  tE_of s ((Want.bind h).mono fun x F1 H1 ρ1 po q v rv => k x F1 H1 ρ1 v po rv (q po))
theorem tT_of (s : SR M F H σ ρ) {φ : BS} {β : Type} {f : Bool → En → Out β} {Q : β → (Addr → Prop) → Hp → En → Prop} {Q' : Bool → Hp → Prop} (h : Want M W F H σ ρ ((φ ρ).bind f) Q)
    (k : ∀ b F1 H1 ρ1, Po M F H σ ρ F1 H1 ρ1 → Want M W F1 H1 σ ρ1 (f b ρ1) (fun c F2 H2 ρ2 => Po M F H σ ρ F2 H2 ρ2 → Q c F2 H2 ρ2) → Q' b H1) : tT M W φ σ H Q' :=
  ⟨F, ρ, s, (Want.bind h).mono fun b F1 H1 ρ1 po q => k b F1 H1 ρ1 po (q po)⟩
theorem od_truth {d : D} {v : V} {k : Bool} (h : OdR M F H d v) (e : d.truth = some k) : TruV M.K v H k := by
  cases d with
  | non => cases h.non; cases e; rfl
  | bl b => cases h.bl; cases e; rfl
  | int b => cases h.int; cases e; rfl
  | str b =>
    cases h.str
    simp only [D.truth] at e
    split at e
    · rename_i hz
      cases e
      exact ⟨hz, rfl⟩
    · cases e
  | tup ds =>
    obtain ⟨a, vs, rfl, q, l⟩ := h.tup
    cases e
    refine .inr (.inl ⟨vs, q, ?_⟩)
    have := l.length
    cases ds <;> cases vs <;> simp at this ⊢
  | lst ds =>
    obtain ⟨a, vs, rfl, q, l⟩ := h.lst
    cases e
    refine .inl ⟨vs, q, ?_⟩
    have := l.length
    cases ds <;> cases vs <;> simp at this ⊢
  | dck ks ds => cases e
  | dct ks ds => cases e
  | ins c fs ds => cases e
end

/-! ### the context of a derivation -/
/-- what is written of a def's (or block's) names: by slot, their scope, whose cells are its own -/
structure Cs where
  N : List Str
  sc : Scope
  fb : Str → Bool
structure G (M : Md) (cs : Cs) (W : WX) (k : Nat) (X : Cx) : Prop where
  hP : X.prog = M.P
  hw : X.w = M.w
  hb : X.base = M.base
  hK : X.K = M.K
  hmg : X.mg = M.mg
  hN : X.N = cs.N
  nd : cs.N.Nodup
  hsc : X.env.scope = cs.sc
  hfn : X.fn = cs.fb
  calm : X.calm = true
  tk : Takes X W
  room : Room k X.A
  pass : PassesOwn (model X.prog X.w) X.A X.env X.xe
section
variable {M : Md} {cs : Cs} {W : WX} {k : Nat} {X : Cx}
theorem G.hu (g : G M cs W k X) : X.A.units + 64 < cLine := by have := g.room.un; omega
theorem G.hu1 (g : G M cs W k X) : X.A.units + 1 < cLine := by have := g.room.un; omega
theorem G.vis (g : G M cs W k X) {x : Str} (h : Vis cs.sc x) : Vis X.env.scope x := by rw [g.hsc]; exact h
theorem G.gl (g : G M cs W k X) {x : Str} (h : cs.sc.names.lookup x = some .globalImplicit) : Gl X x := by
  show X.env.scope.names.lookup x = _
  rw [g.hsc]
  exact h

/-! ### rules -/
theorem e_sl (g : G M cs W k X) {i : Nat} {x : Str} {pos : Pos} (hi : cs.N[i]? = some x) (hv : Vis cs.sc x) (hd : (x == ("__debug__" : Str)) = false) (hcd : (x == ("__classdict__" : Str)) = false) : PE X (.Name x pos) (tO M W (.sl i)) :=
  pe_var (by rw [g.hN]; exact hi) (g.vis hv) hd hcd
theorem e_nm (g : G M cs W k X) {i : Nat} {x : Str} {pos : Pos} (hi : cs.N[i]? = some x) (hv : Vis cs.sc x) (hd : (x == ("__debug__" : Str)) = false) (hcd : (x == ("__classdict__" : Str)) = false) : PE X (.Name x pos) (tE M W (nm i)) :=
  PE_imp (pe_var (by rw [g.hN]; exact hi) (g.vis hv) hd hcd) fun σ H Q h => nm_run h
theorem e_int {i : Int} {j : Nat} {pos : Pos} : PE X (.Constant (.int i) j pos) (tE M W (cst (.int i))) := PE_imp pe_int fun σ H Q h => cst_run (fun F H => by unfold Rep; rfl) h
theorem e_bl {i : Bool} {j : Nat} {pos : Pos} : PE X (.Constant (.bool i) j pos) (tE M W (cst (.bl i))) := PE_imp pe_bl fun σ H Q h => cst_run (fun F H => by unfold Rep; rfl) h
theorem e_str {i : Str} {j : Nat} {pos : Pos} : PE X (.Constant (.str i) j pos) (tE M W (cst (.str i))) := PE_imp pe_str fun σ H Q h => cst_run (fun F H => by unfold Rep; rfl) h
theorem e_non {j : Nat} {pos : Pos} : PE X (.Constant .none j pos) (tE M W (cst .non)) := PE_imp pe_non fun σ H Q h => cst_run (fun F H => by unfold Rep; rfl) h
/-- a constant of the module -/
def GlobOk (M : Md) (x : Str) (d : D) : Prop := ∃ u v, M.mg x = some u ∧ RelV v u ∧ ∀ F H, Rep M F H d v
theorem e_glob (g : G M cs W k X) {x : Str} {d : D} {pos : Pos} (h : GlobOk M x d) (hg : cs.sc.names.lookup x = some .globalImplicit) (hd : (x == ("__debug__" : Str)) = false) : PE X (.Name x pos) (tE M W (cst d)) := by
  obtain ⟨u, v, h1, h2, h3⟩ := h
  exact PE_imp (pe_glob (g.gl hg) (by rw [g.hmg]; exact h1) h2 hd) fun σ H Q h => cst_run h3 h
/-- operands -/
theorem o_ex {e : Expr} {φ : ES} (h : PE X e (tE M W φ)) : PE X e (tO M W (.ex φ)) := h
theorem a_nil : PA X [] (tOs M W []) := pa_nil
theorem a_cons {e : Expr} {es : List Expr} {o : Opd} {os : List Opd} (h : PE X e (tO M W o)) (hr : PA X es (tOs M W os)) (hs : starEach (e :: es) X.env = (false, eval e X.env) :: starEach es X.env) : PA X (e :: es) (tOs M W (o :: os)) := pa_cons h hr hs
theorem e_bin {a b : Expr} {op : Operator} {pos : Pos} {f : List D → Option Rv} {oa ob : Opd} (ho : OpR X (binaryOp op) (r2D M f)) (ha : PE X a (tO M W oa)) (hb : PE X b (tO M W ob)) : PE X (.BinOp a op b pos) (tE M W (app f [oa, ob])) :=
  PE_imp (pe_op ho ha hb) fun σ H Q h => app_run (prim_ok M f) h
theorem e_un {a : Expr} {op : UnaryOp} {pos : Pos} {f : List D → Option Rv} {oa : Opd} (ho : UnR X (unaryOp op) (r1D M f)) (ha : PE X a (tO M W oa)) : PE X (.UnaryOp op a pos) (tE M W (app f [oa])) :=
  PE_imp (pe_un ho ha) fun σ H Q h => app_run (prim_ok M f) h
theorem e_cmp {a b : Expr} {op : CmpOp} {pos : Pos} {f : List D → Option Rv} {oa ob : Opd} (ho : OpR X (compareOp op) (r2D M f)) (ha : PE X a (tO M W oa)) (hb : PE X b (tO M W ob)) (hm : behindInMarks op b = false) : PE X (.Compare a [op] [b] pos) (tE M W (app f [oa, ob])) :=
  PE_imp (pe_cmpR ho ha hb hm) fun σ H Q h => app_run (prim_ok M f) h
theorem e_ix {a b : Expr} {pos : Pos} {oa ob : Opd} (g : G M cs W k X) (ha : PE X a (tO M W oa)) (hb : PE X b (tO M W ob)) (hs : PlainIx b) : PE X (.Subscript a b pos) (tE M W (app fItem [oa, ob])) :=
  PE_imp (pe_ix (i_item g.hK g.hu1) ha hb hs) fun σ H Q h => app_run (prim_ok M fItem) h
theorem e_callB (g : G M cs W k X) {x : Str} {p pos : Pos} {e : Expr} {es : List Expr} {id : String} {f : List D → Option Rv} {os : List Opd} (hc : CallR X (.builtin id) (rDs M f)) (hg : cs.sc.names.lookup x = some .globalImplicit) (hm : M.mg x = none) (hv : bootBuiltins x = some (.builtin id)) (ha : PA X (e :: es) (tOs M W os))
    (hn : x ≠ "__name__") (hdb : (x == ("__debug__" : Str)) = false) (he : starEach (e :: es) X.env = (false, eval e X.env) :: starEach es X.env) (hpl : (backTo pos (starEach es X.env)).any (·.1) = false) : PE X (.Call (.Name x p) (e :: es) [] pos) (tE M W (app f os)) :=
  PE_imp (pe_callB hc (g.gl hg) (by rw [g.hmg]; exact hm) hv ha hn hdb he hpl) fun σ H Q h => app_run (prim_ok M f) h
theorem e_callTy (g : G M cs W k X) {x : Str} {p pos : Pos} {e : Expr} {es : List Expr} {T : String} {f : List D → Option Rv} {os : List Opd} (hc : CallR X (.type T) (rDs M f)) (hg : cs.sc.names.lookup x = some .globalImplicit) (hm : M.mg x = none) (hv : bootBuiltins x = some (.type T)) (ha : PA X (e :: es) (tOs M W os))
    (hn : x ≠ "__name__") (hdb : (x == ("__debug__" : Str)) = false) (he : starEach (e :: es) X.env = (false, eval e X.env) :: starEach es X.env) (hpl : (backTo pos (starEach es X.env)).any (·.1) = false) : PE X (.Call (.Name x p) (e :: es) [] pos) (tE M W (app f os)) :=
  PE_imp (pe_callTy hc (g.gl hg) (by rw [g.hmg]; exact hm) hv ha hn hdb he hpl) fun σ H Q h => app_run (prim_ok M f) h
/-! slices -/
theorem part_run {F : Addr → Prop} {H : Hp} {σ : St} {ρ : En} (s : SR M F H σ ρ) {o : Opd} {β : Type} {f : Option Int → En → Out β} {Q : β → (Addr → Prop) → Hp → En → Prop} {Q' : Option Int → Hp → Prop} (h : Want M W F H σ ρ ((evI (some o) ρ).bind f) Q)
    (k : ∀ x F1 H1 ρ1, Po M F H σ ρ F1 H1 ρ1 → Want M W F1 H1 σ ρ1 (f x ρ1) (fun b F2 H2 ρ2 => Po M F H σ ρ F2 H2 ρ2 → Q b F2 H2 ρ2) → Q' x H1) : tPart (tO M W o) σ H Q' := by
  have h1 : Want M W F H σ ρ ((o.ev ρ).bind fun x ρ' => (match x.dat ρ' with | some (.int i) => Out.ok (some i) ρ' | _ => .bad).bind f) Q := by
    have e : (evI (some o) ρ).bind f = ((o.ev ρ).bind fun x ρ' => (match x.dat ρ' with | some (.int i) => Out.ok (some i) ρ' | _ => .bad).bind f) := by
      simp only [evI]
      cases o.ev ρ <;> rfl
    rw [← e]
    exact h
  refine op_bind s h1 fun x F1 H1 ρ1 v po rv q => ?_
  cases e : x.dat ρ1 with
  | none => simp only [e] at q; exact q.elim
  | some d =>
    cases d with
    | int i =>
      simp only [e] at q
      exact ⟨i, (rv.od po.sr e).int, k _ F1 H1 ρ1 po q⟩
    | _ => simp only [e] at q; exact q.elim
theorem e_slc (g : G M cs W k X) {a : Expr} {lo hi : Option Expr} {p2 pos : Pos} {oa : Opd} {ol oh : Option Opd} (ha : PE X a (tO M W oa)) (hl : match lo, ol with | some e, some o => PE X e (tO M W o) | none, none => True | _, _ => False)
    (hh : match hi, oh with | some e, some o => PE X e (tO M W o) | none, none => True | _, _ => False) : PE X (.Subscript a (.Slice lo hi none p2) pos) (tE M W (slc oa ol oh)) := by
  have fin : ∀ {F : Addr → Prop} {H : Hp} {σ : St} {ρ : En} {l u : Option Int} {x : Ov} {v : V} {Q : VK} {F0 : Addr → Prop} {H0 : Hp} {ρ0 : En}, SR M F H σ ρ → (∀ a, H a = none → H0 a = none) → Po M F0 H0 σ ρ0 F H ρ → OvR M F H σ x v →
      Want M W F H σ ρ (match x.dat ρ with | some d => (match fSl d l u with | some r => Out.ok r ρ | none => .bad) | none => .bad) (fun r F2 H2 ρ2 => Po M F0 H0 σ ρ0 F2 H2 ρ2 → ∀ v, RvR M H0 F2 H2 r v → Q v H2) → rSlD M v l u H Q := fun {F H σ ρ l u x v Q F0 H0 ρ0} s hd po0 rv q => by
    cases e : x.dat ρ with
    | none => simp only [e] at q; exact q.elim
    | some d =>
      simp only [e] at q
      cases e2 : fSl d l u with
      | none => simp only [e2] at q; exact q.elim
      | some r =>
        simp only [e2] at q
        exact ⟨F, d, r, s.dom, rv.od s e, e2, fun F' H' w n rr => q F' H' (n.po s) (po0.trans (n.po s)) w (rr.from hd)⟩
  cases lo with
  | none =>
    cases ol with
    | some _ => exact hl.elim
    | none =>
      cases hi with
      | none =>
        cases oh with
        | some _ => exact hh.elim
        | none =>
          refine PE_imp (pe_slice (s_slice g.hK) ha po_none po_none) fun σ H Q h => ?_
          obtain ⟨F, ρ, s, h⟩ := h
          exact op_bind s h fun x F1 H1 ρ1 v po rv q => fin po.sr (fun a => po.stp.dom a) po rv q
      | some ei =>
        cases oh with
        | none => exact hh.elim
        | some o2 =>
          refine PE_imp (pe_slice (s_slice g.hK) ha po_none (po_some hh)) fun σ H Q h => ?_
          obtain ⟨F, ρ, s, h⟩ := h
          refine op_bind s h fun x F1 H1 ρ1 v po rv q => ?_
          show tPart (tO M W o2) σ H1 fun u H3 => rSlD M v none u H3 Q
          refine part_run po.sr q fun j F2 H2 ρ2 po2 q2 => ?_
          exact fin po2.sr (fun a z => po.stp.dom a (po2.stp.dom a z)) (po.trans po2) (rv.mono (po2.ext po.sr)) (q2.mono fun r F3 H3 ρ3 po3 z y => z (po2.trans po3) y)
  | some el =>
    cases ol with
    | none => exact hl.elim
    | some o1 =>
      cases hi with
      | none =>
        cases oh with
        | some _ => exact hh.elim
        | none =>
          refine PE_imp (pe_slice (s_slice g.hK) ha (po_some hl) po_none) fun σ H Q h => ?_
          obtain ⟨F, ρ, s, h⟩ := h
          refine op_bind s h fun x F1 H1 ρ1 v po rv q => ?_
          refine part_run po.sr q fun j F2 H2 ρ2 po2 q2 => ?_
          exact fin po2.sr (fun a z => po.stp.dom a (po2.stp.dom a z)) (po.trans po2) (rv.mono (po2.ext po.sr)) (q2.mono fun r F3 H3 ρ3 po3 z y => z (po2.trans po3) y)
      | some ei =>
        cases oh with
        | none => exact hh.elim
        | some o2 =>
          refine PE_imp (pe_slice (s_slice g.hK) ha (po_some hl) (po_some hh)) fun σ H Q h => ?_
          obtain ⟨F, ρ, s, h⟩ := h
          refine op_bind s h fun x F1 H1 ρ1 v po rv q => ?_
          refine part_run po.sr q fun j F2 H2 ρ2 po2 q2 => ?_
          refine part_run po2.sr q2 fun j3 F3 H3 ρ3 po3 q3 => ?_
          exact fin po3.sr (fun a z => po.stp.dom a (po2.stp.dom a (po3.stp.dom a z))) (po.trans (po2.trans po3)) ((rv.mono (po2.ext po.sr)).mono (po3.ext po2.sr)) (q3.mono fun r F4 H4 ρ4 po4 z y => z (po3.trans po4) (po2.trans (po3.trans po4)) y)
end
end VF

namespace VF
open PySem PySem.Spec PyProof.Rows L2

section
variable {M : Md} {W : WX} {cs : Cs} {k : Nat} {X : Cx}
theorem chn_run {f f' : List D → Option Rv} {oa ob oc : Opd} {σ : St} {H : Hp} {Q : VK} (h : tE M W (chn f f' oa ob oc) σ H Q) : tChain (r2D M f) (r2D M f') (tO M W oa) (tO M W ob) (tO M W oc) σ H Q := by
  obtain ⟨F, ρ, s, h⟩ := h
  refine op_bind s h fun x F0 H0 ρ0 v po0 rv q => ?_
  refine op_bind po0.sr q fun y F1 H1 ρ1 w po1 rw' q => ?_
  cases e1 : x.dat ρ1 with
  | none => simp only [e1] at q; exact q.elim
  | some d =>
    cases e2 : y.dat ρ1 with
    | none => simp only [e1, e2] at q; exact q.elim
    | some e =>
      simp only [e1, e2] at q
      cases e3 : f [d, e] with
      | none => simp only [e3] at q; exact q.elim
      | some r =>
        have od1 := (rv.mono (po1.ext po0.sr)).od po1.sr e1
        have od2 := rw'.od po1.sr e2
        refine ⟨F1, [d, e], r, po1.sr.dom, ⟨v, [w], rfl, od1, w, [], rfl, od2, rfl⟩, e3, fun F2 H2 z n rr => ?_⟩
        cases r with
        | own _ => simp only [e3] at q; exact q.elim
        | val dr =>
          cases dr with
          | bl kk =>
            have ez : z = .bl kk := by
              have rr : Rep M F2 H2 (.bl kk) z := rr
              unfold Rep at rr
              exact rr
            refine ⟨kk, ez, ?_⟩
            cases kk with
            | false =>
              simp only [e3] at q
              rw [if_neg (by decide)]
              refine q F2 H2 (n.po po1.sr) (po1.trans (n.po po1.sr)) (po0.trans (po1.trans (n.po po1.sr))) (.bl false) ?_
              show Rep M F2 H2 (.bl false) _
              unfold Rep
              rfl
            | true =>
              simp only [e3] at q
              rw [if_pos rfl]
              have s2 := (n.po po1.sr).sr
              have rw2 := rw'.mono n.ext
              -- from here on over F2 H2
              have q2 : Want M W F2 H2 σ ρ1 ((oc.ev ρ1).bind fun z ρ2 => match y.dat ρ2, z.dat ρ2 with | some e', some k => (match f' [e', k] with | some r => Out.ok r ρ2 | none => .bad) | _, _ => .bad)
                  (fun b F3 H3 ρ3 => ∀ v, RvR M H F3 H3 b v → Q v H3) := by
                have q' : Want M W F1 H1 σ ρ1 ((oc.ev ρ1).bind fun z ρ2 => match y.dat ρ2, z.dat ρ2 with | some e', some k => (match f' [e', k] with | some r => Out.ok r ρ2 | none => .bad) | _, _ => .bad)
                  (fun b F3 H3 ρ3 => Po M F0 H0 σ ρ0 F3 H3 ρ3 → Po M F H σ ρ F3 H3 ρ3 → ∀ v, RvR M H F3 H3 b v → Q v H3) := q
                revert q'
                cases ((oc.ev ρ1).bind fun z ρ2 => match y.dat ρ2, z.dat ρ2 with | some e', some k => (match f' [e', k] with | some r => Out.ok r ρ2 | none => .bad) | _, _ => .bad) with
                | bad => exact id
                | exc xx ρ9 => exact fun q' F3 H3 cls dd po xr => q' F3 H3 cls dd ((n.po po1.sr).trans po) xr
                | ok b ρ9 => exact fun q' F3 H3 po => q' F3 H3 ((n.po po1.sr).trans po) (po1.trans ((n.po po1.sr).trans po)) (po0.trans (po1.trans ((n.po po1.sr).trans po)))
              refine op_bind s2 q2 fun z2 F3 H3 ρ3 v3 po3 rv3 q3 => ?_
              cases e5 : y.dat ρ3 with
              | none => simp only [e5] at q3; exact q3.elim
              | some e' =>
                cases e6 : z2.dat ρ3 with
                | none => simp only [e5, e6] at q3; exact q3.elim
                | some k' =>
                  simp only [e5, e6] at q3
                  cases e7 : f' [e', k'] with
                  | none => simp only [e7] at q3; exact q3.elim
                  | some r' =>
                    simp only [e7] at q3
                    refine ⟨F3, [e', k'], r', po3.sr.dom, ⟨w, [v3], rfl, (rw2.mono (po3.ext s2)).od po3.sr e5, v3, [], rfl, rv3.od po3.sr e6, rfl⟩, e7, fun F4 H4 v4 n4 rr4 => ?_⟩
                    refine q3 F4 H4 (n4.po po3.sr) (po3.trans (n4.po po3.sr)) v4 (rr4.from fun a z => ?_)
                    exact po0.stp.dom a (po1.stp.dom a ((n.po po1.sr).stp.dom a (po3.stp.dom a z)))
          | _ => simp only [e3] at q; exact q.elim

theorem e_chn {a b c : Expr} {op op' : CmpOp} {pos : Pos} {f f' : List D → Option Rv} {oa ob oc : Opd} (ho : OpR X (compareOp op) (r2D M f)) (ho' : OpR X (compareOp op') (r2D M f')) (ha : PE X a (tO M W oa)) (hb : PE X b (tO M W ob)) (hc : PE X c (tO M W oc))
    (hm : lastMarks [op, op'] [b, c] = false) : PE X (.Compare a [op, op'] [b, c] pos) (tE M W (chn f f' oa ob oc)) :=
  PE_imp (pe_chain ho ho' ha hb hc hm) fun σ H Q h => chn_run h
/-! ### displays -/
theorem evs_length : ∀ {os : List Opd} {ρ ρ' : En} {xs : List Ov}, evs os ρ = .ok xs ρ' → xs.length = os.length
  | [], _, _, _, h => by cases h; rfl
  | o :: os, ρ, ρ', xs, h => by
    unfold evs at h
    cases e : o.ev ρ with
    | bad => rw [e] at h; cases h
    | exc x ρ1 => rw [e] at h; cases h
    | ok x ρ1 =>
      rw [e] at h
      have h : (evs os ρ1).bind (fun xs ρ2 => .ok (x :: xs) ρ2) = .ok xs ρ' := h
      cases e2 : evs os ρ1 with
      | bad => rw [e2] at h; cases h
      | exc x ρ1 => rw [e2] at h; cases h
      | ok ys ρ2 =>
        rw [e2] at h
        cases h
        simp [evs_length e2]
theorem vals_rep {F : Addr → Prop} {H : Hp} {σ : St} : ∀ {xs : List Ov} {ds : List D} {vs : List V}, vals xs = some ds → OvRs M F H σ xs vs → RepL M F H ds vs
  | [], ds, vs, e, h => by cases e; rw [show vs = [] from h]; exact .nil
  | .val d :: xs, ds, vs, e, h => by
    obtain ⟨r, e1, rfl⟩ := Option.map_eq_some_iff.mp (show (vals xs).map (d :: ·) = some ds from e)
    obtain ⟨v, w, rfl, p, q⟩ := h
    exact .cons p (vals_rep e1 q)
  | .at i :: xs, ds, vs, e, h => by cases e
theorem disp_run {mk : List D → Rv} {φs : List ES} {σ : St} {H : Hp} {Q : VK} (h : tE M W (disp mk φs) σ H Q) {R : List V → Hp → Prop}
    (k : ∀ (F : Addr → Prop) (ρ : En) (ds : List D) (vs : List V) (H1 : Hp), (∀ a, F a → H1 a ≠ none) → RepL M F H1 ds vs → vs.length = φs.length → (∀ F' H' v, New F H1 F' H' → RvR M H1 F' H' (mk ds) v → Q v H') → R vs H1) : tOs M W (φs.map .ex) σ H R := by
  obtain ⟨F, ρ, s, h⟩ := h
  refine ops_run _ s ?_
  cases e : evs (φs.map .ex) ρ with
  | bad => simp only [disp, e] at h; exact h
  | exc x ρ' => simp only [disp, e] at h; exact h
  | ok xs ρ1 =>
    simp only [disp, e, Out.bind] at h
    intro F1 H1 po1 vs rs
    cases e2 : vals xs with
    | none => simp only [e2] at h; exact h.elim
    | some ds =>
      simp only [e2] at h
      have hl : vs.length = φs.length := by
        have l1 := evs_length e
        have l2 := (vals_rep e2 rs).length
        have l3 : ∀ {xs : List Ov} {ds : List D}, vals xs = some ds → ds.length = xs.length := by
          intro xs
          induction xs with
          | nil => intro ds e; cases e; rfl
          | cons x xs ih =>
            intro ds e
            cases x with
            | val d =>
              obtain ⟨r, e1, rfl⟩ := Option.map_eq_some_iff.mp (show (vals xs).map (d :: ·) = some ds from e)
              simp [ih e1]
            | «at» i => cases e
        have := l3 e2
        simp at l1
        omega
      exact k F1 ρ1 ds vs H1 po1.sr.dom (vals_rep e2 rs) hl fun F' H' v n rr => h F' H' (po1.trans (n.po po1.sr)) v (rr.from fun a z => po1.stp.dom a z)
def mkT (ds : List D) : Rv := .val (.tup ds)
def mkL (ds : List D) : Rv := .own (.lst ds)
theorem e_tup {es : List Expr} {x1 : Nat} {pos : Pos} {φs : List ES} (h : PA X es (tOs M W (φs.map .ex))) (hz : φs.length ≤ sizeLine) : PE X (.Tuple es x1 pos) (tE M W (disp mkT φs)) :=
  PE_imp (pe_tup h) fun σ H Q h => disp_run h fun F ρ ds vs H1 hd l hl q => ⟨by rw [hl]; exact hz, fun p hp => q F _ _ (New.laid hd hp) (rv_tup hd hp l)⟩
theorem e_lst {es : List Expr} {pos : Pos} {φs : List ES} (h : PA X es (tOs M W (φs.map .ex))) (hz : φs.length ≤ sizeLine) : PE X (.List es pos) (tE M W (disp mkL φs)) :=
  PE_imp (pe_lst h) fun σ H Q h => disp_run h fun F ρ ds vs H1 hd l hl q => ⟨by rw [hl]; exact hz, fun p hp => q F _ _ (New.laid hd hp) (rv_list hd hp l)⟩

/-! ### tests -/
theorem t_tru (g : G M cs W k X) {a : Expr} {o : Opd} (h : PE X a (tO M W o)) (he : ∀ whole, isTrue a X.env whole = (do let v ← whole; standAt a.pos; holding [v] (truthy v))) : PT X a (tT M W (tru o)) := by
  refine PT_imp (pt_truth h he) fun σ H Q h => ?_
  obtain ⟨F, ρ, s, h⟩ := h
  refine op_bind s h fun x F1 H1 ρ1 v po rv q => ?_
  cases e : x.dat ρ1 with
  | none => simp only [e] at q; exact q.elim
  | some d =>
    simp only [e] at q
    cases e2 : d.truth with
    | none => simp only [e2] at q; exact q.elim
    | some b =>
      simp only [e2] at q
      exact ⟨b, by rw [g.hK]; exact od_truth (rv.od po.sr e) e2, q F1 H1 (.refl po.sr) po⟩
def tst (φ : ES) : BS := fun ρ => (φ ρ).bind fun r ρ' => match r with
  | .val (.bl b) => .ok b ρ'
  | _ => .bad
theorem tst_run {φ : ES} {σ : St} {H : Hp} {Q : Bool → Hp → Prop} (h : tT M W (tst φ) σ H Q) : tE M W φ σ H fun v H' => ∃ b, v = .bl b ∧ Q b H' := by
  obtain ⟨F, ρ, s, h⟩ := h
  refine tE_of' s h fun r F1 H1 ρ1 v po rv q => ?_
  cases r with
  | own _ => exact q.elim
  | val d =>
    cases d with
    | bl b =>
      have rv : Rep M F1 H1 (.bl b) v := rv
      unfold Rep at rv
      exact ⟨b, rv, q F1 H1 (.refl po.sr) po⟩
    | _ => exact q.elim
theorem t_chn {a b c : Expr} {op op' : CmpOp} {pos : Pos} {f f' : List D → Option Rv} {oa ob oc : Opd} (ho : OpR X (compareOp op) (r2D M f)) (ho' : OpR X (compareOp op') (r2D M f')) (ha : PE X a (tO M W oa)) (hb : PE X b (tO M W ob)) (hc : PE X c (tO M W oc))
    (hm : lastMarks [op, op'] [b, c] = false) : PT X (.Compare a [op, op'] [b, c] pos) (tT M W (tst (chn f f' oa ob oc))) :=
  PT_imp (pt_chain ho ho' ha hb hc hm) fun σ H Q h => chn_run (tst_run h)
theorem t_cmp {a b : Expr} {op : CmpOp} {pos : Pos} {f : List D → Option Rv} {oa ob : Opd} (ho : OpR X (compareOp op) (r2D M f)) (ha : PE X a (tO M W oa)) (hb : PE X b (tO M W ob)) (hm : behindInMarks op b = false) : PT X (.Compare a [op] [b] pos) (tT M W (tst (app f [oa, ob]))) :=
  PT_imp (pt_cmpR ho ha hb hm) fun σ H Q h => app_run (prim_ok M f) (tst_run h)
theorem t_w {a : Expr} {t : BS} (h : PW X a (tT M W t)) : PT X a (tT M W t) := ⟨fun pins s σ H Q I hw => h.run _ pins s σ H Q I hw⟩
theorem t_not {a : Expr} {pos : Pos} {t : BS} (h : PT X a (tT M W t)) : PT X (.UnaryOp .Not a pos) (tT M W (bnot t)) := by
  refine PT_imp (pt_not h) fun σ H Q h => ?_
  obtain ⟨F, ρ, s, h⟩ := h
  exact tT_of s h fun b F1 H1 ρ1 po q => q F1 H1 (.refl po.sr) po
theorem w_and1 {a : Expr} {pos : Pos} {t : BS} (h : PT X a (tT M W t)) : PW X (.BoolOp .And [a] pos) (tT M W t) := pw_and1 h
theorem w_or1 {a : Expr} {pos : Pos} {t : BS} (h : PT X a (tT M W t)) : PW X (.BoolOp .Or [a] pos) (tT M W t) := pw_or1 h
theorem w_and {a b : Expr} {rest : List Expr} {pos : Pos} {t u : BS} (h : PT X a (tT M W t)) (hb : PW X (.BoolOp .And (b :: rest) pos) (tT M W u)) : PW X (.BoolOp .And (a :: b :: rest) pos) (tT M W (band t u)) := by
  refine PW_imp (pw_and h hb) fun σ H Q h => ?_
  obtain ⟨F, ρ, s, h⟩ := h
  refine tT_of s h fun b F1 H1 ρ1 po q => ?_
  cases b with
  | true => exact ⟨F1, ρ1, po.sr, (show Want M W F1 H1 σ ρ1 (u ρ1) _ from q).mono fun b F2 H2 ρ2 po2 z => z (po.trans po2)⟩
  | false => exact q F1 H1 (.refl po.sr) po
theorem w_or {a b : Expr} {rest : List Expr} {pos : Pos} {t u : BS} (h : PT X a (tT M W t)) (hb : PW X (.BoolOp .Or (b :: rest) pos) (tT M W u)) : PW X (.BoolOp .Or (a :: b :: rest) pos) (tT M W (bor t u)) := by
  refine PW_imp (pw_or h hb) fun σ H Q h => ?_
  obtain ⟨F, ρ, s, h⟩ := h
  refine tT_of s h fun b F1 H1 ρ1 po q => ?_
  cases b with
  | false => exact ⟨F1, ρ1, po.sr, (show Want M W F1 H1 σ ρ1 (u ρ1) _ from q).mono fun b F2 H2 ρ2 po2 z => z (po.trans po2)⟩
  | true => exact q F1 H1 (.refl po.sr) po
theorem e_iff {c a b : Expr} {pos : Pos} {t : BS} {φ ψ : ES} (hc : PT X c (tT M W t)) (ha : PE X a (tE M W φ)) (hb : PE X b (tE M W ψ)) : PE X (.IfExp c a b pos) (tE M W (iff t φ ψ)) := by
  refine PE_imp (pe_ifExp hc ha hb) fun σ H Q h => ?_
  obtain ⟨F, ρ, s, h⟩ := h
  refine tT_of s h fun b F1 H1 ρ1 po q => ?_
  cases b with
  | true => exact ⟨F1, ρ1, po.sr, (show Want M W F1 H1 σ ρ1 (φ ρ1) _ from q).mono fun b F2 H2 ρ2 po2 z v rr => z (po.trans po2) v (rr.from fun a y => po.stp.dom a y)⟩
  | false => exact ⟨F1, ρ1, po.sr, (show Want M W F1 H1 σ ρ1 (ψ ρ1) _ from q).mono fun b F2 H2 ρ2 po2 z v rr => z (po.trans po2) v (rr.from fun a y => po.stp.dom a y)⟩
theorem rv_truth {H0 : Hp} {F : Addr → Prop} {H : Hp} {r : Rv} {v : V} {b : Bool} (h : RvR M H0 F H r v) (e : r.d.truth = some b) : TruV M.K v H b := by
  cases r with
  | val d => exact od_truth (.inl h) e
  | own d =>
    obtain ⟨a, rfl, nf, _, c⟩ := h
    exact od_truth (.inr ⟨a, rfl, nf, c.mono (.refl _ _) fun _ h => .inl h⟩) e
theorem e_and1 {a : Expr} {pos : Pos} {φ : ES} (h : PE X a (tE M W φ)) : PE X (.BoolOp .And [a] pos) (tE M W φ) := pe_one h
theorem e_or1 {a : Expr} {pos : Pos} {φ : ES} (h : PE X a (tE M W φ)) : PE X (.BoolOp .Or [a] pos) (tE M W φ) := pe_one h
theorem e_and (g : G M cs W k X) {a b : Expr} {rest : List Expr} {pos : Pos} {φ ψ : ES} (h : PE X a (tE M W φ)) (hb : PE X (.BoolOp .And (b :: rest) pos) (tE M W ψ)) : PE X (.BoolOp .And (a :: b :: rest) pos) (tE M W (andE φ ψ)) := by
  refine PE_imp (pe_andT h hb) fun σ H Q h => ?_
  obtain ⟨F, ρ, s, h⟩ := h
  refine tE_of' s h fun r F1 H1 ρ1 v po rv q => ?_
  cases e : r.d.truth with
  | none => simp only [e] at q; exact q.elim
  | some b =>
    refine ⟨b, by rw [g.hK]; exact rv_truth rv e, ?_⟩
    cases b with
    | true =>
      simp only [e] at q
      rw [if_pos rfl]
      exact ⟨F1, ρ1, po.sr, (show Want M W F1 H1 σ ρ1 (ψ ρ1) _ from q).mono fun b F2 H2 ρ2 po2 z v rr => z (po.trans po2) v (rr.from fun a y => po.stp.dom a y)⟩
    | false =>
      simp only [e] at q
      rw [if_neg (by decide)]
      exact q F1 H1 (.refl po.sr) po v rv
theorem e_or (g : G M cs W k X) {a b : Expr} {rest : List Expr} {pos : Pos} {φ ψ : ES} (h : PE X a (tE M W φ)) (hb : PE X (.BoolOp .Or (b :: rest) pos) (tE M W ψ)) : PE X (.BoolOp .Or (a :: b :: rest) pos) (tE M W (orE φ ψ)) := by
  refine PE_imp (pe_orT h hb) fun σ H Q h => ?_
  obtain ⟨F, ρ, s, h⟩ := h
  refine tE_of' s h fun r F1 H1 ρ1 v po rv q => ?_
  cases e : r.d.truth with
  | none => simp only [e] at q; exact q.elim
  | some b =>
    refine ⟨b, by rw [g.hK]; exact rv_truth rv e, ?_⟩
    cases b with
    | false =>
      simp only [e] at q
      rw [if_neg (by decide)]
      exact ⟨F1, ρ1, po.sr, (show Want M W F1 H1 σ ρ1 (ψ ρ1) _ from q).mono fun b F2 H2 ρ2 po2 z v rr => z (po.trans po2) v (rr.from fun a y => po.stp.dom a y)⟩
    | true =>
      simp only [e] at q
      rw [if_pos rfl]
      exact q F1 H1 (.refl po.sr) po v rv
theorem e_not (g : G M cs W k X) {a : Expr} {pos : Pos} {o : Opd} (h : PE X a (tO M W o)) : PE X (.UnaryOp .Not a pos) (tE M W (notE o)) := by
  refine PE_imp (pe_notT h) fun σ H Q h => ?_
  obtain ⟨F, ρ, s, h⟩ := h
  have h1 : Want M W F H σ ρ ((o.ev ρ).bind fun x ρ' => (match x.dat ρ' with | some d => (match d.truth with | some k => Out.ok k ρ' | none => .bad) | none => .bad).bind fun b ρ' => .ok (.val (.bl (!b))) ρ') (fun r F' H' _ => ∀ v, RvR M H F' H' r v → Q v H') := by
    have e : notE o ρ = ((o.ev ρ).bind fun x ρ' => (match x.dat ρ' with | some d => (match d.truth with | some k => Out.ok k ρ' | none => .bad) | none => .bad).bind fun b ρ' => .ok (.val (.bl (!b))) ρ') := by
      simp only [notE, tru]
      cases o.ev ρ <;> rfl
    rw [← e]
    exact h
  refine op_bind s h1 fun x F1 H1 ρ1 v po rv q => ?_
  cases e : x.dat ρ1 with
  | none => simp only [e] at q; exact q.elim
  | some d =>
    simp only [e] at q
    cases e2 : d.truth with
    | none => simp only [e2] at q; exact q.elim
    | some b =>
      simp only [e2] at q
      exact ⟨b, by rw [g.hK]; exact od_truth (rv.od po.sr e) e2, q F1 H1 (.refl po.sr) po _ (rep_bl _)⟩
end

/-! ### methods of built-in types -/
def D.ty : D → Option String
  | .str _ => some "str"
  | .lst _ => some "list"
  | .dck _ _ => some "dict"
  | .dct _ _ => some "dict"
  | _ => none
def meth (T : String) (f : List D → Option Rv) (o : Opd) (os : List Opd) : ES := fun ρ => (o.ev ρ).bind fun x ρ1 => match x.dat ρ1 with
  | some d => if d.ty = some T then (evs os ρ1).bind fun xs ρ2 => (match x.dat ρ2, dats ρ2 xs with
    | some d', some ds => (match f (d' :: ds) with
      | some r => .ok r ρ2
      | none => .bad)
    | _, _ => .bad) else .bad
  | none => .bad
section
variable {M : Md} {W : WX} {cs : Cs} {k : Nat} {X : Cx}
theorem od_type {pins : List (Addr × Obj)} {σ : St} {H : Hp} {s : Shared} {F : Addr → Prop} {d : D} {v : V} {u : Value} {T : String} (I : Inv X pins σ H s) (hK : X.K = M.K) (h : OdR M F H d v) (r : RelV v u) (e : d.ty = some T) :
    s.TypeIs u T ∧ ∀ a, u = .ref a → ∃ ob, s.heap.get? a = some ob ∧ ob.dict = none := by
  cases d with
  | str z =>
    cases h.str
    obtain ⟨t, rfl⟩ := r
    cases e
    exact ⟨typeIs_str s z t, fun _ e => nomatch e⟩
  | lst ds =>
    obtain ⟨a, vs, rfl, q, l⟩ := h.lst
    cases r
    cases e
    rw [← hK] at q
    obtain ⟨its, _, ⟨o, n, z, z1, z2, _⟩, _⟩ := I.list q
    exact ⟨⟨o, z, z1⟩, fun b e => by cases e; exact ⟨o, z, z2⟩⟩
  | dck ks ds =>
    obtain ⟨a, vs, rfl, q, _, l⟩ := h.dck
    cases r
    cases e
    obtain ⟨_, _, _, _, o, _, _, z, ex, _⟩ := q.ok I.hok
    exact ⟨⟨o, z, ex.1⟩, fun b e => by cases e; exact ⟨o, z, ex.2.1⟩⟩
  | dct ks ds =>
    obtain ⟨a, vs, rfl, q, _, l⟩ := h.dct
    cases r
    cases e
    obtain ⟨_, _, _, _, o, _, _, z, ex, _⟩ := q.ok I.hok
    exact ⟨⟨o, z, ex.1⟩, fun b e => by cases e; exact ⟨o, z, ex.2.1⟩⟩
  | _ => cases e
theorem meth_run {T : String} {f : List D → Option Rv} {oo : Opd} {os : List Opd} {σ : St} {H : Hp} {Q : VK} (h : tE M W (meth T f oo os) σ H Q) :
    tO M W oo σ H fun x H1 => ∃ F d, d.ty = some T ∧ OdR M F H1 d x ∧ tOs M W os σ H1 fun xs H2 => rMD M f x xs H2 Q := by
  obtain ⟨F, ρ, s, h⟩ := h
  refine op_bind s h fun x F1 H1 ρ1 v po rv q => ?_
  cases e : x.dat ρ1 with
  | none => simp only [e] at q; exact q.elim
  | some d =>
    simp only [e] at q
    by_cases ht : d.ty = some T
    · rw [if_pos ht] at q
      refine ⟨F1, d, ht, rv.od po.sr e, ops_run os po.sr ((Want.bind q).mono fun xs F2 H2 ρ2 po2 q2 vs rs => ?_)⟩
      have q2 := q2 po2
      cases e3 : x.dat ρ2 with
      | none => simp only [e3] at q2; exact q2.elim
      | some d' =>
        cases e4 : dats ρ2 xs with
        | none => simp only [e3, e4] at q2; exact q2.elim
        | some ds =>
          simp only [e3, e4] at q2
          cases e5 : f (d' :: ds) with
          | none => simp only [e5] at q2; exact q2.elim
          | some r =>
            simp only [e5] at q2
            exact ⟨F2, d' :: ds, r, po2.sr.dom, ⟨v, vs, rfl, (rv.mono (po2.ext po.sr)).od po2.sr e3, rs.od po2.sr e4⟩, e5, fun F3 H3 w n rr => q2 F3 H3 (n.po po2.sr) (po2.trans (n.po po2.sr)) (po.trans (po2.trans (n.po po2.sr))) w (rr.from fun a z => po.stp.dom a (po2.stp.dom a z))⟩
    · rw [if_neg ht] at q
      exact q.elim
theorem e_meth0 (g : G M cs W k X) {o : Expr} {name : Str} {apos cpos : Pos} {T id : String} {f : List D → Option Rv} {oo : Opd} (pa : PlainAttrs T) (slot : Slot T name id) (hty : typeOf (.builtin id) = pure (.type "method_descriptor")) (hm : MtR X id (rMD M f)) (ho : PE X o (tO M W oo))
    (hbase : attributeBase o name X.env (eval o X.env) = eval o X.env) (hline : (apos.endLine == cpos.line) = true) : PE X (.Call (.Attribute o name apos) [] [] cpos) (tE M W (meth T f oo [])) := by
  refine ⟨fun pins s σ H Q I h => ?_⟩
  refine wpAny_Call_method0_late hbase hline (thn (ho.run pins s σ H _ I (meth_run h)) fun v s1 ⟨x, H1, I1, r1, F, d, ht, od, q1⟩ => ?_)
  obtain ⟨h1, h2⟩ := od_type I1 g.hK od r1 ht
  exact ⟨T, id, pa, slot, hty, h1, h2, Calls.callWith_builtin rfl (PySem.evalArgs_none (hm pins s1 σ H1 x [] v [] Q I1 r1 .nil q1))⟩
theorem e_meth (g : G M cs W k X) {o e : Expr} {es : List Expr} {name : Str} {apos cpos : Pos} {T id : String} {f : List D → Option Rv} {oo : Opd} {os : List Opd} (pa : PlainAttrs T) (slot : Slot T name id) (hty : typeOf (.builtin id) = pure (.type "method_descriptor")) (hm : MtR X id (rMD M f)) (ho : PE X o (tO M W oo)) (ha : PA X (e :: es) (tOs M W os))
    (hbase : attributeBase o name X.env (eval o X.env) = eval o X.env)
    (hfew : ((backTo cpos (starEach (e :: es) X.env)).all (fun x => !x.1) && (backToKw cpos (keywordEach [] X.env)).all (fun x => x.1.isSome)
      && decide ((e :: es).length + ([] : List Keyword).length + (if ([] : List Keyword).isEmpty then 0 else 1) < 30)) = true)
    (hline : (apos.endLine == cpos.line) = true) (hs : starEach (e :: es) X.env = (false, eval e X.env) :: starEach es X.env) (hplain : (backTo cpos (starEach es X.env)).any (·.1) = false) :
    PE X (.Call (.Attribute o name apos) (e :: es) [] cpos) (tE M W (meth T f oo os)) := by
  refine ⟨fun pins s σ H Q I h => ?_⟩
  refine wpAny_Call_method_late hbase hfew hline rfl (thn (ho.run pins s σ H _ I (meth_run h)) fun v s1 ⟨x, H1, I1, r1, F, d, ht, od, q1⟩ => ?_)
  obtain ⟨h1, h2⟩ := od_type I1 g.hK od r1 ht
  refine ⟨T, id, pa, slot, hty, h1, h2, ?_⟩
  have hA := ha.run cpos pins s1 σ H1 _ I1 q1
  rw [hs] at hA ⊢
  refine Calls.callWith_builtin (by show (false || (backTo cpos (starEach es X.env)).any (·.1)) = false; rw [hplain] <;> rfl) (Calls.evalArgs_plain ?_)
  exact thn hA fun us s2 ⟨vs, H2, I2, r2, q2⟩ => hm pins s2 σ H2 x vs v us Q I2 r1 r2 q2
end
end VF

namespace VF
open PySem PySem.Spec PyProof.Rows L2

/-! ### sources -/
/-- J walks the items while the operands stand -/
def Wk (M : Md) (J : It) (ds items : List D) (vs : List V) : Prop := ∀ (i : Nat) (F : Addr → Prop) (H : Hp), (∀ a, F a → H a ≠ none) → OdRs M F H ds vs →
  (items.length ≤ i → J.stop i H) ∧ ∀ d, items[i]? = some d → J.go i H ∧ ∀ x H', J.yld i H x H' → ∃ F', New F H F' H' ∧ Rep M F' H' d x
def rIt (M : Md) (f : List D → Option (List D)) : List V → Hp → (It → Hp → Prop) → Prop := fun vs H R => ∃ F ds items, (∀ a, F a → H a ≠ none) ∧ OdRs M F H ds vs ∧ f ds = some items ∧ ∀ J, Wk M J ds items vs → items.length ≤ sizeLine → R J H
structure Src where
  ops : List Opd
  f : List D → Option (List D)
def tI (M : Md) (W : WX) (src : Src) : TI := fun σ H R => tOs M W src.ops σ H fun vs H1 => rIt M src.f vs H1 R
def sSeq : List D → Option (List D)
  | [.lst ds] => some ds
  | [.tup ds] => some ds
  | [.str z] => if z.length ≤ sizeLine then some (z.cps.toList.map fun c => .str ⟨#[c]⟩) else none
  | _ => none
def sRng1 : List D → Option (List D)
  | [.int n] => if n ≤ 16777216 ∧ -(2 ^ 62) ≤ n then some ((List.range n.toNat).map fun i => .int (i : Nat)) else none
  | _ => none
def sRng2 : List D → Option (List D)
  | [.int a, .int b] => if ((-(2 ^ 62) ≤ a ∧ a < 2 ^ 62) ∧ (-(2 ^ 62) ≤ b ∧ b < 2 ^ 62)) ∧ b - a ≤ 16777216 then some ((List.range (b - a).toNat).map fun i => .int (a + (i : Nat))) else none
  | _ => none
section
variable {M : Md} {X : Cx}
theorem wk_list {K : PySem.W.Frag} {a : Addr} {ds : List D} (hK : K = M.K) : Wk M (Itl K a) [.lst ds] ds [.ref a] := fun i F H hd od => by
  obtain ⟨v, e, r⟩ := od.one
  cases e
  obtain ⟨b, vs, e, p, l⟩ := r.lst
  cases e
  have sq : SqL K H a vs := by rw [hK]; exact p
  refine ⟨fun hi => ⟨vs, sq, by rw [← l.length]; exact hi⟩, fun d hdd => ?_⟩
  obtain ⟨v, h1, h2⟩ := RepL.get l hdd
  refine ⟨⟨vs, v, sq, h1⟩, fun x H' y => ?_⟩
  obtain ⟨rfl, hy⟩ := y
  have z := hy vs sq
  rw [h1] at z
  cases z
  exact ⟨F, .refl hd, h2⟩
theorem wk_tup {K : PySem.W.Frag} {a : Addr} {ds : List D} (hK : K = M.K) : Wk M (Itt K a) [.tup ds] ds [.ref a] := fun i F H hd od => by
  obtain ⟨v, e, r⟩ := od.one
  cases e
  obtain ⟨b, vs, e, p, l⟩ := r.tup
  cases e
  have sq : SqT K H a vs := by rw [hK]; exact p
  refine ⟨fun hi => ⟨vs, sq, by rw [← l.length]; exact hi⟩, fun d hdd => ?_⟩
  obtain ⟨v, h1, h2⟩ := RepL.get l hdd
  refine ⟨⟨vs, v, sq, h1⟩, fun x H' y => ?_⟩
  obtain ⟨rfl, hy⟩ := y
  have z := hy vs sq
  rw [h1] at z
  cases z
  exact ⟨F, .refl hd, h2⟩
theorem wk_str {z : Str} : Wk M (Its z) [.str z] (z.cps.toList.map fun c => .str ⟨#[c]⟩) [.str z] := fun i F H hd od => by
  refine ⟨fun hi => show z.cps.size ≤ i by simpa using hi, fun d hdd => ?_⟩
  rw [List.getElem?_map] at hdd
  obtain ⟨c, h1, rfl⟩ := Option.map_eq_some_iff.mp hdd
  have h2 : z.cps[i]? = some c := by simpa using h1
  refine ⟨(Array.getElem?_eq_some_iff.mp h2).1, fun x H' y => ?_⟩
  obtain ⟨rfl, c', h3, rfl⟩ := y
  rw [h2] at h3
  cases h3
  exact ⟨F, .refl hd, by unfold Rep; rfl⟩
theorem wk_range {lo : Int} {n : Nat} {ds : List D} {vs : List V} : Wk M (Itr lo n) ds ((List.range n).map fun i => .int (lo + (i : Nat))) vs := fun i F H hd od => by
  refine ⟨fun hi => show n ≤ i by simpa using hi, fun d hdd => ?_⟩
  rw [List.getElem?_map] at hdd
  obtain ⟨c, h1, rfl⟩ := Option.map_eq_some_iff.mp hdd
  obtain ⟨h2, h3⟩ := List.getElem?_eq_some_iff.mp h1
  have h4 : i < n := by simpa using h2
  have h5 : c = i := by simpa using h3.symm
  subst h5
  refine ⟨h4, fun x H' y => ?_⟩
  obtain ⟨rfl, rfl⟩ := y
  exact ⟨F, .refl hd, by unfold Rep; rfl⟩
theorem wk_range0 (n : Int) : Wk M (Itr 0 n.toNat) [.int n] ((List.range n.toNat).map fun i => .int (i : Nat)) [.int n] := by
  have z := wk_range (M := M) (lo := 0) (n := n.toNat) (ds := [.int n]) (vs := [.int n])
  simpa using z
/-- a name or expression that is walked -/
theorem pi_seq {tg l : Expr} {tl : TE} (hl : PE X l tl) : PI X tg l (fun σ H R => tl σ H fun x H1 => (∃ a xs, x = .ref a ∧ SqL X.K H1 a xs ∧ (xs.length ≤ sizeLine → R (Itl X.K a) H1)) ∨ (∃ a xs, x = .ref a ∧ SqT X.K H1 a xs ∧ (xs.length ≤ sizeLine → R (Itt X.K a) H1)) ∨ ∃ z, x = .str z ∧ R (Its z) H1) := by
  refine ⟨fun pins s σ H R I h => ?_⟩
  refine thn (hl.run pins s σ H _ I h) fun v s1 ⟨x, H1, I1, r1, q1⟩ => ?_
  rcases q1 with ⟨a, xs, rfl, hq, q⟩ | ⟨a, xs, rfl, hq, q⟩ | ⟨z, rfl, q⟩
  · cases r1
    obtain ⟨its, rv, p, hz⟩ := I1.list hq
    exact wpAny_pyIter_list p.isList (pi_one (tk := s1.toks) I1 _ (turn_list a _) ⟨_, Heap.get?_push_size _ rfl, rfl, rfl⟩ (q hz))
  · cases r1
    obtain ⟨its, rv, p, hz⟩ := I1.tuple hq
    exact wpAny_pyIter_tuple (show s1.heap.IsTuple a its.toArray from p) (pi_one (tk := s1.toks) I1 _ (turn_tuple a _) ⟨_, Heap.get?_push_size _ rfl, rfl, rfl⟩ (q hz))
  · obtain ⟨t, rfl⟩ := r1
    cases ha : z.cps.all (· < 128)
    · exact wpAny_pyIter_wide ha (pi_one (tk := s1.toks) I1 _ (turn_str _ z t "str_iterator" (.inr rfl)) ⟨_, Heap.get?_push_size _ rfl, rfl, rfl⟩ q)
    · exact wpAny_pyIter_ascii ha (pi_one (tk := s1.toks) I1 _ (turn_str _ z t "str_ascii_iterator" (.inl rfl)) ⟨_, Heap.get?_push_size _ rfl, rfl, rfl⟩ q)
theorem PI_imp {tg l : Expr} {w w' : TI} (h : PI X tg l w) (f : ∀ σ H R, w' σ H R → w σ H R) : PI X tg l w' := ⟨fun pins s σ H R I q => h.run pins s σ H R I (f σ H R q)⟩
theorem tO_mono {W : WX} {o : Opd} {σ : St} {H : Hp} {Q Q' : VK} (h : tO M W o σ H Q) (k : ∀ v H', Q v H' → Q' v H') : tO M W o σ H Q' := by
  cases o with
  | sl i =>
    obtain ⟨v, e, q⟩ := h
    exact ⟨v, e, k v H q⟩
  | ex φ =>
    obtain ⟨F, ρ, s, h⟩ := h
    exact ⟨F, ρ, s, h.mono fun r F' H' ρ' po q v rv => k v H' (q v rv)⟩
theorem tOs_mono {W : WX} : ∀ {os : List Opd} {σ : St} {H : Hp} {Q Q' : List V → Hp → Prop}, tOs M W os σ H Q → (∀ v H', Q v H' → Q' v H') → tOs M W os σ H Q'
  | [], _, _, _, _, h, k => k _ _ h
  | o :: os, _, _, _, _, h, k => tO_mono h fun v H' q => tOs_mono (os := os) q fun vs H2 q2 => k (v :: vs) H2 q2
section
variable {cs : Cs} {W : WX} {k : Nat}
theorem i_seq (g : G M cs W k X) {tg l : Expr} {o : Opd} (h : PE X l (tO M W o)) : PI X tg l (tI M W ⟨[o], sSeq⟩) := by
  refine PI_imp (pi_seq h) fun σ H R q => ?_
  have q : tO M W o σ H fun x H1 => rIt M sSeq [x] H1 R := q
  refine tO_mono q fun x H1 ⟨F, ds, items, hd, od, ef, q⟩ => ?_
  unfold sSeq at ef
  split at ef
  · cases ef
    obtain ⟨v, e, r⟩ := od.one
    cases e
    obtain ⟨a, vs, rfl, p, l⟩ := r.lst
    exact .inl ⟨a, vs, rfl, by rw [g.hK]; exact p, fun hz => q _ (wk_list g.hK) (by rw [l.length]; exact hz)⟩
  · cases ef
    obtain ⟨v, e, r⟩ := od.one
    cases e
    obtain ⟨a, vs, rfl, p, l⟩ := r.tup
    exact .inr (.inl ⟨a, vs, rfl, by rw [g.hK]; exact p, fun hz => q _ (wk_tup g.hK) (by rw [l.length]; exact hz)⟩)
  · split at ef
    · rename_i hz
      cases ef
      obtain ⟨v, e, r⟩ := od.one
      cases e
      cases r.str
      exact .inr (.inr ⟨_, rfl, q _ wk_str (by rw [List.length_map, Array.length_toList]; exact hz)⟩)
    · cases ef
  · cases ef
theorem i_rng1 (g : G M cs W k X) {tg a : Expr} {p pos : Pos} {o : Opd} (hg : cs.sc.names.lookup ("range" : Str) = some .globalImplicit) (hm : M.mg "range" = none) (ha : PA X [a] (tOs M W [o])) (hs : starEach [a] X.env = [(false, eval a X.env)]) : PI X tg (.Call (.Name "range" p) [a] [] pos) (tI M W ⟨[o], sRng1⟩) := by
  refine PI_imp (pi_range1 (g.gl hg) (by rw [g.hmg]; exact hm) ha hs) fun σ H R q => ?_
  refine tOs_mono (M := M) (W := W) (os := [o]) q fun vs H1 ⟨F, ds, items, hd, od, ef, q⟩ => ?_
  have ef : sRng1 ds = some items := ef
  unfold sRng1 at ef
  split at ef
  · split at ef
    · rename_i hz
      cases ef
      obtain ⟨v, rfl, r⟩ := od.one
      cases r.int
      exact ⟨_, rfl, hz.2, by omega, q _ (wk_range0 _) (by rw [sizeLine_eq]; simp; omega)⟩
    · cases ef
  · cases ef
theorem i_rng2 (g : G M cs W k X) {tg a b : Expr} {p pos : Pos} {o o' : Opd} (hg : cs.sc.names.lookup ("range" : Str) = some .globalImplicit) (hm : M.mg "range" = none) (ha : PA X [a, b] (tOs M W [o, o'])) (hs : starEach [a, b] X.env = [(false, eval a X.env), (false, eval b X.env)]) (hs2 : starEach [b] X.env = [(false, eval b X.env)]) :
    PI X tg (.Call (.Name "range" p) [a, b] [] pos) (tI M W ⟨[o, o'], sRng2⟩) := by
  refine PI_imp (pi_range2 (g.gl hg) (by rw [g.hmg]; exact hm) ha hs hs2) fun σ H R q => ?_
  refine tOs_mono (M := M) (W := W) (os := [o, o']) q fun vs H1 ⟨F, ds, items, hd, od, ef, q⟩ => ?_
  have ef : sRng2 ds = some items := ef
  unfold sRng2 at ef
  split at ef
  · split at ef
    · rename_i hz
      cases ef
      obtain ⟨v, w, rfl, r, r'⟩ := od.two
      cases r.int
      cases r'.int
      exact ⟨_, _, rfl, ⟨hz.1.1.1, hz.1.1.2, hz.1.2.1, hz.1.2.2⟩, q _ wk_range (by rw [sizeLine_eq]; simp; omega)⟩
    · cases ef
  · cases ef
end
end
end VF

namespace VF
open PySem PySem.Spec PyProof.Rows L2

/-! ### behind a statement -/
/-- a caller's objects stay a caller's, what is read stays as it is -/
def KpT (σ : St) (ρ : En) (σ' : St) (ρ' : En) : Prop := ρ.length = ρ'.length ∧ ∀ i, (∀ d, gt ρ i = some (.ref d) → (∃ d', gt ρ' i = some (.ref d')) ∧ gv σ' i = gv σ i) ∧ (∀ d, gt ρ i = some (.rd d) → gt ρ' i = some (.rd d) ∧ gv σ' i = gv σ i) ∧
  (∀ d, gt ρ' i = some (.ref d) → ∃ d', gt ρ i = some (.ref d')) ∧ ∀ d, gt ρ' i = some (.rd d) → gt ρ i = some (.rd d)
theorem KpT.refl (σ : St) (ρ : En) : KpT σ ρ σ ρ := ⟨rfl, fun i => ⟨fun d h => ⟨⟨d, h⟩, rfl⟩, fun d h => ⟨h, rfl⟩, fun d h => ⟨d, h⟩, fun d h => h⟩⟩
theorem KpT.trans {σ σ1 σ2 : St} {ρ ρ1 ρ2 : En} (a : KpT σ ρ σ1 ρ1) (b : KpT σ1 ρ1 σ2 ρ2) : KpT σ ρ σ2 ρ2 := by
  refine ⟨a.1.trans b.1, fun i => ⟨fun d h => ?_, fun d h => ?_, fun d h => ?_, fun d h => ?_⟩⟩
  · obtain ⟨⟨d1, h1⟩, e1⟩ := (a.2 i).1 d h
    obtain ⟨h2, e2⟩ := (b.2 i).1 d1 h1
    exact ⟨h2, e2.trans e1⟩
  · obtain ⟨h1, e1⟩ := (a.2 i).2.1 d h
    obtain ⟨h2, e2⟩ := (b.2 i).2.1 d h1
    exact ⟨h2, e2.trans e1⟩
  · obtain ⟨d1, h1⟩ := (b.2 i).2.2.1 d h
    exact (a.2 i).2.2.1 d1 h1
  · exact (a.2 i).2.2.2 d ((b.2 i).2.2.2 d h)
theorem Kp.t {σ : St} {ρ ρ' : En} (k : Kp ρ ρ') : KpT σ ρ σ ρ' := by
  refine ⟨k.1, fun i => ?_⟩
  have z := k.2 i
  refine ⟨fun d h => ?_, fun d h => ?_, fun d h => ?_, fun d h => ?_⟩
  · rw [h] at z
    cases e : gt ρ' i with
    | none => rw [e] at z; exact z.elim
    | some t => rw [e] at z; cases t with
      | ref d' => exact ⟨⟨d', rfl⟩, rfl⟩
      | _ => exact z.elim
  · rw [h] at z
    cases e : gt ρ' i with
    | none => rw [e] at z; exact z.elim
    | some t => rw [e] at z; cases t with
      | rd d' => rw [show d = d' from z]; exact ⟨rfl, rfl⟩
      | _ => exact z.elim
  · rw [h] at z
    cases e : gt ρ i with
    | none => rw [e] at z; exact z.elim
    | some t => rw [e] at z; cases t with
      | ref d' => exact ⟨d', rfl⟩
      | _ => exact z.elim
  · rw [h] at z
    cases e : gt ρ i with
    | none => rw [e] at z; exact z.elim
    | some t => rw [e] at z; cases t with
      | rd d' => rw [show d' = d from z]
      | _ => exact z.elim
theorem KpT.ref {σ σ' : St} {ρ ρ' : En} (k : KpT σ ρ σ' ρ') {a : Addr} (h : RefAt σ' ρ' a) : RefAt σ ρ a := by
  obtain ⟨i, d, h1, h2⟩ := h
  obtain ⟨d', h3⟩ := (k.2 i).2.2.1 d h1
  obtain ⟨_, e⟩ := (k.2 i).1 d' h3
  exact ⟨i, d', h3, by rw [← e]; exact h2⟩
structure PoS (M : Md) (F : Addr → Prop) (H : Hp) (σ : St) (ρ : En) (F' : Addr → Prop) (H' : Hp) (σ' : St) (ρ' : En) : Prop where
  stp : Stp F H (OwnAt σ ρ) (RefAt σ ρ) F' H' (OwnAt σ' ρ') (RefAt σ' ρ')
  sr : SR M F' H' σ' ρ'
  kp : KpT σ ρ σ' ρ'
section
variable {M : Md} {F F1 F2 : Addr → Prop} {H H1 H2 : Hp} {σ σ1 σ2 : St} {ρ ρ1 ρ2 : En}
theorem PoS.refl (s : SR M F H σ ρ) : PoS M F H σ ρ F H σ ρ := ⟨.refl _ _ _ _, s, .refl _ _⟩
theorem PoS.trans (a : PoS M F H σ ρ F1 H1 σ1 ρ1) (b : PoS M F1 H1 σ1 ρ1 F2 H2 σ2 ρ2) : PoS M F H σ ρ F2 H2 σ2 ρ2 := ⟨a.stp.trans b.stp, b.sr, a.kp.trans b.kp⟩
theorem Po.s (a : Po M F H σ ρ F1 H1 ρ1) : PoS M F H σ ρ F1 H1 σ ρ1 := ⟨a.stp, a.sr, a.kp.t⟩
theorem PoS.ext (s : SR M F H σ ρ) (a : PoS M F H σ ρ F1 H1 σ1 ρ1) : Ext F H F1 H1 := s.ext a.stp

/-- a slot is set to a value -/
def noRef : Option Sl → Bool
  | some (.ref _) => false
  | some (.rd _) => false
  | _ => true
theorem put_slot (s : SR M F H σ ρ) {i : Nat} {t : Sl} {v : V} (hi : i < ρ.length) (hn : noRef (gt ρ i) = true) (r : SlR M F H t v) (ht : ∀ a, t.top = true → v = .ref a → (∃ d, t = .own d) ∧ ∀ j u, j ≠ i → gt ρ j = some u → u.top = true → gv σ j ≠ some (.ref a)) :
    SR M F H (σ.set i (some v)) (ρ.set i (some t)) ∧ (∀ a, OwnAt (σ.set i (some v)) (ρ.set i (some t)) a → OwnAt σ ρ a ∨ H a = none ∨ ∃ d, t = .own d ∧ v = .ref a) ∧ KpT σ ρ (σ.set i (some v)) (ρ.set i (some t)) := by
  have hi' : i < σ.length := by rw [s.len]; exact hi
  have tn : ∀ d, t ≠ .ref d ∧ t ≠ .rd d := fun d => by
    constructor <;> intro e <;> subst e
    · obtain ⟨a, e, _⟩ := r
      obtain ⟨⟨d', z⟩, _⟩ := ht a rfl e
      cases z
    · obtain ⟨a, e, _⟩ := r
      obtain ⟨⟨d', z⟩, _⟩ := ht a rfl e
      cases z
  refine ⟨⟨by rw [List.length_set, List.length_set]; exact s.len, s.dom, fun j u h => ?_, fun j k u w a h1 h2 h3 h4 h5 h6 => ?_⟩, fun a h => ?_, by rw [List.length_set], fun j => ?_⟩
  · by_cases hj : i = j
    · subst hj
      rw [gt_set_self hi] at h
      cases h
      exact ⟨v, gv_set_self hi', r⟩
    · rw [gt_set_ne hj] at h
      rw [gv_set_ne hj]
      exact s.slot j u h
  · by_cases hj : i = j
    · subst hj
      by_cases hk : i = k
      · exact hk
      · exfalso
        rw [gt_set_self hi] at h1
        rw [gt_set_ne hk] at h2
        rw [gv_set_self hi'] at h5
        rw [gv_set_ne hk] at h6
        cases h1
        cases h5
        exact (ht a h3 rfl).2 k w (Ne.symm hk) h2 h4 h6
    · rw [gt_set_ne hj] at h1
      rw [gv_set_ne hj] at h5
      by_cases hk : i = k
      · subst hk
        exfalso
        rw [gt_set_self hi] at h2
        rw [gv_set_self hi'] at h6
        cases h2
        cases h6
        exact (ht a h4 rfl).2 j u (Ne.symm hj) h1 h3 h5
      · rw [gt_set_ne hk] at h2
        rw [gv_set_ne hk] at h6
        exact s.dist j k u w a h1 h2 h3 h4 h5 h6
  · obtain ⟨j, d, h1, h2⟩ := h
    by_cases hj : i = j
    · subst hj
      rw [gt_set_self hi] at h1
      rw [gv_set_self hi'] at h2
      cases h1
      cases h2
      exact .inr (.inr ⟨d, rfl, rfl⟩)
    · rw [gt_set_ne hj] at h1
      rw [gv_set_ne hj] at h2
      exact .inl ⟨j, d, h1, h2⟩
  · by_cases hj : i = j
    · subst hj
      rw [gt_set_self hi]
      refine ⟨fun d h => ?_, fun d h => ?_, fun d h => ?_, fun d h => ?_⟩
      · rw [h] at hn; cases hn
      · rw [h] at hn; cases hn
      · exact absurd (Option.some.inj h) (tn d).1
      · exact absurd (Option.some.inj h) (tn d).2
    · rw [gt_set_ne hj, gv_set_ne hj]
      exact (KpT.refl σ ρ).2 j
theorem put_val (s : SR M F H σ ρ) {i : Nat} {d : D} {v : V} (hi : i < ρ.length) (hn : noRef (gt ρ i) = true) (r : Rep M F H d v) : PoS M F H σ ρ F H (σ.set i (some v)) (ρ.set i (some (.val d))) := by
  obtain ⟨h1, h2, h3⟩ := put_slot (t := .val d) s hi hn r (fun a z => by cases z)
  refine ⟨⟨fun _ h => h, fun _ _ h _ _ => h, fun _ h => h, fun _ h => .inl h, fun a h => ?_, fun a h => h3.ref h⟩, h1, h3⟩
  rcases h2 a h with z | z | ⟨d, z, _⟩
  · exact .inl z
  · exact .inr z
  · cases z
/-- an object just made is owned -/
theorem put_own (s : SR M F H σ ρ) {F0 : Addr → Prop} {H0 : Hp} {ρ0 : En} (po : Po M F0 H0 σ ρ0 F H ρ) (s0 : SR M F0 H0 σ ρ0) {i : Nat} {d : D} {v : V} (hi : i < ρ.length) (hn : noRef (gt ρ i) = true) (r : RvR M H0 F H (.own d) v) : PoS M F0 H0 σ ρ0 F H (σ.set i (some v)) (ρ.set i (some (.own d))) := by
  obtain ⟨a, rfl, nf, h0, c⟩ := r
  have ne : ∀ j u, gt ρ j = some u → u.top = true → gv σ j ≠ some (.ref a) := fun j u h ht z => by
    obtain ⟨t', h', ht'⟩ := po.kp.top_of h ht
    obtain ⟨b, w, e, _, q⟩ := s0.top_at h' ht'
    rw [z] at e
    cases e
    rw [h0] at q
    cases q
  obtain ⟨h1, h2, h3⟩ := put_slot (t := .own d) (v := .ref a) s hi hn ⟨a, rfl, nf, c⟩ (fun b _ e => ⟨⟨d, rfl⟩, fun j u _ h ht => by cases e; exact ne j u h ht⟩)
  refine ⟨⟨po.stp.fro, po.stp.keep, po.stp.dom, po.stp.new, fun b h => ?_, fun b h => po.stp.ref b (h3.ref h)⟩, h1, po.kp.t.trans h3⟩
  rcases h2 b h with z | z | ⟨d', _, z⟩
  · exact po.stp.own b z
  · exact .inr (po.stp.dom b z)
  · cases z
    exact .inr h0
end

/-! ### targets -/
inductive Tg where
  | nm (i : Nat)
  | tup (ts : List Tg)
mutual
def put : Tg → D → En → Option En
  | .nm i, d, ρ => if noRef (gt ρ i) = true ∧ i < ρ.length then some (ρ.set i (some (.val d))) else none
  | .tup ts, d, ρ => match d with
    | .tup ds => puts ts ds ρ
    | _ => none
def puts : List Tg → List D → En → Option En
  | [], ds, ρ => match ds with
    | [] => some ρ
    | _ => none
  | t :: ts, ds, ρ => match ds with
    | d :: ds => (match put t d ρ with
      | some ρ' => puts ts ds ρ'
      | none => none)
    | [] => none
end
mutual
def tgs : Tg → List Nat
  | .nm i => [i]
  | .tup ts => tgss ts
def tgss : List Tg → List Nat
  | [] => []
  | t :: ts => tgs t ++ tgss ts
end
mutual
def gT (K : PySem.W.Frag) : Tg → TG
  | .nm i => gName i
  | .tup ts => gTup K ts.length (gTs K ts)
def gTs (K : PySem.W.Frag) : List Tg → TGs
  | [] => gNil
  | t :: ts => gCons (gT K t) (gTs K ts)
end
/-- only the slots of S are other ones -/
def Upd (S : List Nat) (σ : St) (ρ : En) (σ' : St) (ρ' : En) : Prop := σ'.length = σ.length ∧ ∀ j, j ∉ S → σ'[j]? = σ[j]? ∧ gt ρ' j = gt ρ j
section
variable {M : Md} {F : Addr → Prop} {H : Hp}
mutual
theorem put_run {K : PySem.W.Frag} (hK : K = M.K) : ∀ (t : Tg) {σ : St} {ρ ρ' : En} {d : D} {v : V} {Q : St → Hp → Prop}, SR M F H σ ρ → Rep M F H d v → put t d ρ = some ρ' → (∀ σ', PoS M F H σ ρ F H σ' ρ' → Upd (tgs t) σ ρ σ' ρ' → (∀ j t, gt ρ' j = some t → t.top = true → gt ρ j = some t) → Q σ' H) → gT K t v σ H Q
  | .nm i, σ, ρ, ρ', d, v, Q, s, r, e, q => by
    unfold put at e
    split at e
    · rename_i h
      cases e
      unfold gT
      refine q _ (put_val s h.2 h.1 r) ⟨by rw [List.length_set], fun j hj => ?_⟩ fun j t h1 h2 => ?_
      · unfold tgs at hj
        have hj : i ≠ j := fun z => hj (by rw [z]; exact List.mem_singleton_self _)
        exact ⟨List.getElem?_set_ne hj, gt_set_ne hj⟩
      · by_cases hj : i = j
        · subst hj
          rw [gt_set_self h.2] at h1
          cases h1
          cases h2
        · rw [gt_set_ne hj] at h1
          exact h1
    · cases e
  | .tup ts, σ, ρ, ρ', d, v, Q, s, r, e, q => by
    unfold put at e
    split at e
    · unfold Rep at r
      obtain ⟨a, vs, rfl, p, l⟩ := r
      unfold gT
      have hl := puts_len ts e
      exact ⟨a, vs, rfl, by rw [hK]; exact p, by rw [← l.length, hl], puts_run hK ts s l e fun σ' h1 h2 h3 => q σ' h1 (by unfold tgs; exact h2) h3⟩
    · cases e
theorem puts_run {K : PySem.W.Frag} (hK : K = M.K) : ∀ (ts : List Tg) {σ : St} {ρ ρ' : En} {ds : List D} {vs : List V} {Q : St → Hp → Prop}, SR M F H σ ρ → RepL M F H ds vs → puts ts ds ρ = some ρ' → (∀ σ', PoS M F H σ ρ F H σ' ρ' → Upd (tgss ts) σ ρ σ' ρ' → (∀ j t, gt ρ' j = some t → t.top = true → gt ρ j = some t) → Q σ' H) → gTs K ts vs σ H Q
  | [], σ, ρ, ρ', ds, vs, Q, s, r, e, q => by
    unfold puts at e
    split at e
    · cases e
      unfold RepL at r
      unfold gTs
      exact ⟨r, q σ (.refl s) ⟨rfl, fun j _ => ⟨rfl, rfl⟩⟩ fun j t h _ => h⟩
    · cases e
  | t :: ts, σ, ρ, ρ', ds, vs, Q, s, r, e, q => by
    unfold puts at e
    split at e
    · split at e
      · rename_i ρ1 e1
        unfold RepL at r
        obtain ⟨v, w, rfl, p, l⟩ := r
        unfold gTs
        refine ⟨v, w, rfl, put_run hK t s p e1 fun σ1 po1 u1 k1 => ?_⟩
        refine puts_run hK ts po1.sr l e fun σ2 po2 u2 k2 => ?_
        refine q σ2 (po1.trans po2) ⟨u2.1.trans u1.1, fun j hj => ?_⟩ fun j t h1 h2 => k1 j t (k2 j t h1 h2) h2
        unfold tgss at hj
        obtain ⟨n1, n2⟩ := not_or.mp (fun z => hj (List.mem_append.mpr z))
        exact ⟨(u2.2 j n2).1.trans (u1.2 j n1).1, (u2.2 j n2).2.trans (u1.2 j n1).2⟩
      · cases e
    · cases e
theorem puts_len : ∀ (ts : List Tg) {ds : List D} {ρ ρ' : En}, puts ts ds ρ = some ρ' → ds.length = ts.length
  | [], ds, ρ, ρ', e => by
    unfold puts at e
    split at e
    · rfl
    · cases e
  | t :: ts, ds, ρ, ρ', e => by
    unfold puts at e
    split at e
    · split at e
      · simp [puts_len ts e]
      · cases e
    · cases e
end
end
section
variable {M : Md} {cs : Cs} {W : WX} {k : Nat} {X : Cx}
theorem p_nm (g : G M cs W k X) {i : Nat} {x : Str} {pos : Pos} (hi : cs.N[i]? = some x) (hx : Loc cs.sc x) (hf : cs.fb x = true ∨ cs.sc.names.lookup x = some .local) : PG X (.Name x pos) (gT X.K (.nm i)) := by
  unfold gT
  exact pg_name (by rw [g.hN]; exact g.nd) (by rw [g.hN]; exact hi) (by rw [g.hsc]; exact hx) (by rw [g.hfn, g.hsc]; exact hf)
theorem p_tup (g : G M cs W k X) {es : List Expr} {kk : Nat} {pos : Pos} {ts : List Tg} (h : PGs X es (gTs X.K ts)) (hn : (assignEach es X.env).length = ts.length) (hst : (assignEach es X.env).findIdx? (·.1) = none) : PG X (.Tuple es kk pos) (gT X.K (.tup ts)) := by
  unfold gT
  exact pg_tup g.calm h hn hst
theorem ps_nil : PGs X [] (gTs X.K []) := by unfold gTs; exact pgs_nil
theorem ps_cons {e : Expr} {es : List Expr} {t : Tg} {ts : List Tg} (h1 : PG X e (gT X.K t)) (h2 : PGs X es (gTs X.K ts)) (hs : (assignEach (e :: es) X.env).map (·.2) = assign e X.env :: (assignEach es X.env).map (·.2)) : PGs X (e :: es) (gTs X.K (t :: ts)) := by
  unfold gTs
  exact pgs_cons h1 h2 hs
end

/-! ### masks -/
/-- some slots are not seen, or only read; t: what the slots seen are -/
def Mask (σ : St) (ρ : En) (σm : St) (ρm : En) : Prop := σm.length = σ.length ∧ ρm.length = ρ.length ∧ ∀ j t, gt ρm j = some t → gv σm j = gv σ j ∧ (gt ρ j = some t ∨ ∃ d, t = .rd d ∧ (gt ρ j = some (.own d) ∨ gt ρ j = some (.ref d)))
section
variable {M : Md} {F F' : Addr → Prop} {H H' : Hp} {σ σm σe : St} {ρ ρm ρe : En}
theorem Mask.own (m : Mask σ ρ σm ρm) {a : Addr} (h : OwnAt σm ρm a) : OwnAt σ ρ a := by
  obtain ⟨i, d, h1, h2⟩ := h
  obtain ⟨e, z⟩ := m.2.2 i _ h1
  rw [e] at h2
  rcases z with z | ⟨d', z, _⟩
  · exact ⟨i, d, z, h2⟩
  · cases z
theorem Mask.ref (m : Mask σ ρ σm ρm) {a : Addr} (h : RefAt σm ρm a) : RefAt σ ρ a := by
  obtain ⟨i, d, h1, h2⟩ := h
  obtain ⟨e, z⟩ := m.2.2 i _ h1
  rw [e] at h2
  rcases z with z | ⟨d', z, _⟩
  · exact ⟨i, d, z, h2⟩
  · cases z
theorem Mask.top (m : Mask σ ρ σm ρm) {i : Nat} {t : Sl} (h : gt ρm i = some t) (ht : t.top = true) : ∃ t', gt ρ i = some t' ∧ t'.top = true := by
  obtain ⟨_, z⟩ := m.2.2 i _ h
  rcases z with z | ⟨d', rfl, z | z⟩
  · exact ⟨t, z, ht⟩
  · exact ⟨_, z, rfl⟩
  · exact ⟨_, z, rfl⟩
theorem SR.mask (s : SR M F H σ ρ) (m : Mask σ ρ σm ρm) : SR M F H σm ρm := by
  refine ⟨by rw [m.1, m.2.1]; exact s.len, s.dom, fun i t h => ?_, fun i j t u a h1 h2 h3 h4 h5 h6 => ?_⟩
  · obtain ⟨e, z⟩ := m.2.2 i _ h
    rw [e]
    rcases z with z | ⟨d', rfl, z | z⟩
    · exact s.slot i t z
    · obtain ⟨v, e1, a, rfl, nf, c⟩ := s.slot i _ z
      exact ⟨_, e1, a, rfl, nf, c.mono (.refl _ _) fun _ h => .inl h⟩
    · obtain ⟨v, e1, a, rfl, nf, c⟩ := s.slot i _ z
      exact ⟨_, e1, a, rfl, nf, c.mono (.refl _ _) fun _ h => .inl h⟩
  · obtain ⟨t', z1, z2⟩ := m.top h1 h3
    obtain ⟨u', y1, y2⟩ := m.top h2 h4
    rw [(m.2.2 i _ h1).1] at h5
    rw [(m.2.2 j _ h2).1] at h6
    exact s.dist i j t' u' a z1 y1 z2 y2 h5 h6
/-- slots taken from another environment -/
def rst (ρ1 : En) : List Nat → En → En
  | [], ρ => ρ
  | i :: S, ρ => rst ρ1 S (ρ.set i (gt ρ1 i))
theorem rst_length {ρ1 : En} : ∀ (S : List Nat) (ρ : En), (rst ρ1 S ρ).length = ρ.length
  | [], _ => rfl
  | i :: S, ρ => by unfold rst; rw [rst_length S, List.length_set]
theorem rst_out {ρ1 : En} {j : Nat} : ∀ (S : List Nat) {ρ : En}, j ∉ S → gt (rst ρ1 S ρ) j = gt ρ j
  | [], _, _ => rfl
  | i :: S, ρ, h => by
    unfold rst
    rw [rst_out S (fun z => h (List.mem_cons_of_mem _ z)), gt_set_ne (fun z => h (by rw [z]; exact List.mem_cons_self))]
theorem rst_in {ρ1 : En} {j : Nat} : ∀ (S : List Nat) {ρ : En}, j ∈ S → j < ρ.length → gt (rst ρ1 S ρ) j = gt ρ1 j
  | [], _, h, _ => by cases h
  | i :: S, ρ, h, hl => by
    unfold rst
    by_cases hj : j ∈ S
    · exact rst_in S hj (by rw [List.length_set]; exact hl)
    · rw [rst_out S hj]
      rcases List.mem_cons.mp h with rfl | h
      · exact gt_set_self hl
      · exact absurd h hj
/-- what was masked stands as it stood -/
theorem SR.unmask (s : SR M F H σ ρ) {S : List Nat} (m : Mask σ ρ σm ρm) (ho : ∀ j, j ∉ S → gt ρm j = gt ρ j ∧ gv σm j = gv σ j) (hi : ∀ j t, j ∈ S → gt ρm j = some t → t.top = true → ∃ d, t = .rd d) (st : Stp F H (OwnAt σm ρm) (RefAt σm ρm) F' H' (OwnAt σm ρe) (RefAt σm ρe)) (s' : SR M F' H' σm ρe) (kp : Kp ρm ρe) :
    Po M F H σ ρ F' H' (rst ρ S ρe) := by
  have x : Ext F H F' H' := (s.mask m).ext st
  have hl : ρe.length = ρ.length := kp.1.symm.trans m.2.1
  -- the objects of the slots in S are kept
  have kept : ∀ j t a u, j ∈ S → gt ρ j = some t → t.top = true → gv σ j = some (.ref a) → H a = some u → ¬ OwnAt σm ρm a ∧ ¬ RefAt σm ρm a ∧ H' a = some u ∧ ¬ F' a := fun j t a u hj h1 h2 h3 h4 => by
    have ne : ∀ i t', gt ρm i = some t' → t'.top = true → gv σm i = some (.ref a) → ∃ d, t' = .rd d := fun i t' k1 k2 k3 => by
      rw [(m.2.2 i _ k1).1] at k3
      obtain ⟨t2, k4, k5⟩ := m.top k1 k2
      have e := s.dist i j t2 t a k4 h1 k5 h2 k3 h3
      subst e
      exact hi i t' hj k1 k2
    have n1 : ¬ OwnAt σm ρm a := fun ⟨i, d, k1, k2⟩ => by
      obtain ⟨d', z⟩ := ne i _ k1 rfl k2
      cases z
    have n2 : ¬ RefAt σm ρm a := fun ⟨i, d, k1, k2⟩ => by
      obtain ⟨d', z⟩ := ne i _ k1 rfl k2
      cases z
    refine ⟨n1, n2, st.keep a u h4 n1 n2, fun z => ?_⟩
    rcases st.new a z with y | y | y
    · obtain ⟨b, w, e, nf, _⟩ := s.top_at h1 h2
      rw [h3] at e
      cases e
      exact nf y
    · rw [h4] at y; cases y
    · exact n1 y
  have kpS : Kp ρ (rst ρ S ρe) := ⟨by rw [rst_length, hl], fun j => by
    by_cases hj : j ∈ S
    · by_cases hlt : j < ρe.length
      · rw [rst_in S hj hlt]; exact .refl _
      · have e1 : gt ρ j = none := by
          unfold gt
          rw [List.getElem?_eq_none (by omega)]
          rfl
        have e2 : gt (rst ρ S ρe) j = none := by
          unfold gt
          rw [List.getElem?_eq_none (by rw [rst_length]; omega)]
          rfl
        rw [e1, e2]
        trivial
    · rw [rst_out S hj, ← (ho j hj).1]
      exact kp.2 j⟩
  refine ⟨⟨st.fro, fun a o h1 h2 h3 => st.keep a o h1 (fun z => h2 (m.own z)) fun z => h3 (m.ref z), st.dom, fun a h => ?_, fun a h => .inl (kpS.own h), fun a h => kpS.ref h⟩, ⟨?_, s'.dom, fun j t h => ?_, fun i j t u a h1 h2 h3 h4 h5 h6 => ?_⟩, kpS⟩
  · rcases st.new a h with z | z | z
    · exact .inl z
    · exact .inr (.inl z)
    · exact .inr (.inr (m.own z))
  · rw [rst_length, hl]; exact s.len
  · by_cases hj : j ∈ S
    · have hlt : j < ρe.length := by
        have := gt_lt h
        rw [rst_length] at this
        exact this
      rw [rst_in S hj hlt] at h
      obtain ⟨v, e, r⟩ := s.slot j t h
      refine ⟨v, e, ?_⟩
      cases t with
      | val d => exact Rep.mono x d r
      | own d =>
        obtain ⟨a, rfl, nf, c⟩ := r
        obtain ⟨u, q, _⟩ := c.some_of
        obtain ⟨_, _, k1, k2⟩ := kept j _ a u hj h rfl e q
        exact ⟨a, rfl, k2, c.mono x fun w (hw : H a = some w) => by rw [q] at hw; cases hw; exact k1⟩
      | ref d =>
        obtain ⟨a, rfl, nf, c⟩ := r
        obtain ⟨u, q, _⟩ := c.some_of
        obtain ⟨_, _, k1, k2⟩ := kept j _ a u hj h rfl e q
        exact ⟨a, rfl, k2, c.mono x fun w (hw : H a = some w) => by rw [q] at hw; cases hw; exact k1⟩
      | rd d =>
        obtain ⟨a, rfl, nf, c⟩ := r
        obtain ⟨b, u, e2, _, q⟩ := s.top_at h rfl
        rw [e] at e2
        cases e2
        obtain ⟨_, _, k1, k2⟩ := kept j _ a u hj h rfl e q
        refine ⟨a, rfl, k2, c.mono x fun w hw => ?_⟩
        rcases hw with hw | ⟨o, hw, z⟩
        · rw [q] at hw; cases hw; exact .inl k1
        · rw [q] at hw; cases hw; exact .inr ⟨o, k1, z⟩
    · rw [rst_out S hj] at h
      obtain ⟨v, e, r⟩ := s'.slot j t h
      rw [(ho j hj).2] at e
      exact ⟨v, e, r⟩
  · obtain ⟨t', k1, k2⟩ := kpS.top_of h1 h3
    obtain ⟨u', k3, k4⟩ := kpS.top_of h2 h4
    exact s.dist i j t' u' a k1 k3 k2 k4 h5 h6
end
end VF

namespace VF
open PySem PySem.Spec PyProof.Rows L2

def wp : List Nat → En → En
  | [], ρ => ρ
  | i :: S, ρ => wp S (ρ.set i none)
def lk : List Ov → En → En
  | [], ρ => ρ
  | .val _ :: xs, ρ => lk xs ρ
  | .at i :: xs, ρ => lk xs (match gt ρ i with
    | some (.own d) => ρ.set i (some (.rd d))
    | some (.ref d) => ρ.set i (some (.rd d))
    | _ => ρ)
def ats : List Ov → List Nat
  | [] => []
  | .val _ :: xs => ats xs
  | .at i :: xs => i :: ats xs
theorem wp_length : ∀ (S : List Nat) (ρ : En), (wp S ρ).length = ρ.length
  | [], _ => rfl
  | i :: S, ρ => by unfold wp; rw [wp_length S, List.length_set]
theorem wp_out {j : Nat} : ∀ (S : List Nat) {ρ : En}, j ∉ S → gt (wp S ρ) j = gt ρ j
  | [], _, _ => rfl
  | i :: S, ρ, h => by
    unfold wp
    rw [wp_out S (fun z => h (List.mem_cons_of_mem _ z)), gt_set_ne (fun z => h (by rw [z]; exact List.mem_cons_self))]
theorem wp_in {j : Nat} : ∀ (S : List Nat) {ρ : En}, j ∈ S → gt (wp S ρ) j = none
  | [], _, h => by cases h
  | i :: S, ρ, h => by
    unfold wp
    by_cases hj : j ∈ S
    · exact wp_in S hj
    · rw [wp_out S hj]
      rcases List.mem_cons.mp h with rfl | h
      · by_cases hl : j < ρ.length
        · exact gt_set_self hl
        · unfold gt
          rw [List.getElem?_eq_none (by rw [List.length_set]; omega)]
          rfl
      · exact absurd h hj
theorem lk_length : ∀ (xs : List Ov) (ρ : En), (lk xs ρ).length = ρ.length
  | [], _ => rfl
  | .val _ :: xs, ρ => lk_length xs ρ
  | .at i :: xs, ρ => by
    unfold lk
    rw [lk_length xs]
    split <;> simp
theorem lk_out {j : Nat} : ∀ (xs : List Ov) {ρ : En}, j ∉ ats xs → gt (lk xs ρ) j = gt ρ j
  | [], _, _ => rfl
  | .val _ :: xs, ρ, h => lk_out xs h
  | .at i :: xs, ρ, h => by
    unfold ats at h
    have hj : i ≠ j := fun z => h (by rw [z]; exact List.mem_cons_self)
    unfold lk
    rw [lk_out xs fun z => h (List.mem_cons_of_mem _ z)]
    split
    · exact gt_set_ne hj
    · exact gt_set_ne hj
    · rfl
/-- what a locked slot is -/
theorem lk_at {j : Nat} {t : Sl} : ∀ (xs : List Ov) {ρ : En}, gt (lk xs ρ) j = some t → gt ρ j = some t ∨ ∃ d, t = .rd d ∧ (gt ρ j = some (.own d) ∨ gt ρ j = some (.ref d))
  | [], _, h => .inl h
  | .val _ :: xs, ρ, h => lk_at xs h
  | .at i :: xs, ρ, h => by
    unfold lk at h
    by_cases hj : i = j
    · subst hj
      cases e : gt ρ i with
      | none =>
        simp only [e] at h
        have z := lk_at xs h
        rw [e] at z
        exact z
      | some s =>
        have hl := gt_lt e
        cases s with
        | val d => simp only [e] at h; have z := lk_at xs h; rw [e] at z; exact z
        | rd d => simp only [e] at h; have z := lk_at xs h; rw [e] at z; exact z
        | own d =>
          simp only [e] at h
          have z := lk_at xs h
          rw [gt_set_self hl] at z
          rcases z with z | ⟨d', _, z | z⟩
          · cases z; exact .inr ⟨d, rfl, .inl rfl⟩
          · cases z
          · cases z
        | ref d =>
          simp only [e] at h
          have z := lk_at xs h
          rw [gt_set_self hl] at z
          rcases z with z | ⟨d', _, z | z⟩
          · cases z; exact .inr ⟨d, rfl, .inr rfl⟩
          · cases z
          · cases z
    · have z := lk_at xs h
      have e : gt (match gt ρ i with | some (.own d) => ρ.set i (some (.rd d)) | some (.ref d) => ρ.set i (some (.rd d)) | _ => ρ) j = gt ρ j := by
        split
        · exact gt_set_ne hj
        · exact gt_set_ne hj
        · rfl
      rw [e] at z
      exact z
/-- a locked slot is no other's, and the data are the same -/
theorem lk_in {j : Nat} : ∀ (xs : List Ov) {ρ : En}, j ∈ ats xs → (gt (lk xs ρ) j).map Sl.d = (gt ρ j).map Sl.d ∧ ∀ t, gt (lk xs ρ) j = some t → t.top = true → ∃ d, t = .rd d
  | [], _, h => by cases h
  | .val _ :: xs, ρ, h => lk_in xs h
  | .at i :: xs, ρ, h => by
    have same : ∀ {ρ1 : En}, gt ρ1 j = gt ρ j ∨ (∃ d, gt ρ1 j = some (.rd d) ∧ (gt ρ j = some (.own d) ∨ gt ρ j = some (.ref d))) → (gt ρ1 j).map Sl.d = (gt ρ j).map Sl.d := fun z => by
      rcases z with z | ⟨d, z, y | y⟩
      · rw [z]
      · rw [z, y]; rfl
      · rw [z, y]; rfl
    unfold lk
    by_cases hm : j ∈ ats xs
    · obtain ⟨h1, h2⟩ := lk_in xs (ρ := match gt ρ i with | some (.own d) => ρ.set i (some (.rd d)) | some (.ref d) => ρ.set i (some (.rd d)) | _ => ρ) hm
      refine ⟨h1.trans (same ?_), h2⟩
      by_cases hj : i = j
      · subst hj
        cases e : gt ρ i with
        | none => simp only [e]; exact .inl trivial
        | some s =>
          have hl := gt_lt e
          cases s with
          | val d => simp only [e]; exact .inl trivial
          | rd d => simp only [e]; exact .inl trivial
          | own d => simp only; exact .inr ⟨d, gt_set_self hl, .inl rfl⟩
          | ref d => simp only; exact .inr ⟨d, gt_set_self hl, .inr rfl⟩
      · refine .inl ?_
        split
        · exact gt_set_ne hj
        · exact gt_set_ne hj
        · rfl
    · rw [lk_out xs hm]
      have hj : i = j := by
        unfold ats at h
        rcases List.mem_cons.mp h with z | z
        · exact z.symm
        · exact absurd z hm
      subst hj
      cases e : gt ρ i with
      | none => simp only [e]; exact ⟨trivial, fun t z => by cases z⟩
      | some s =>
        have hl := gt_lt e
        cases s with
        | val d => simp only [e]; exact ⟨trivial, fun t z y => by cases z; cases y⟩
        | rd d => simp only [e]; exact ⟨trivial, fun t z y => by cases z; exact ⟨d, rfl⟩⟩
        | own d => simp only; rw [gt_set_self hl]; exact ⟨rfl, fun t z y => by cases z; exact ⟨d, rfl⟩⟩
        | ref d => simp only; rw [gt_set_self hl]; exact ⟨rfl, fun t z y => by cases z; exact ⟨d, rfl⟩⟩
theorem wipe_at {σ : St} {j : Nat} : ∀ {S : List Nat}, j ∈ S → gv (wipe σ S) j = none
  | [], h => by cases h
  | i :: S, h => by
    unfold wipe
    by_cases hj : i = j
    · subst hj
      by_cases hl : i < (wipe σ S).length
      · exact gv_set_self hl
      · unfold gv
        rw [List.getElem?_eq_none (by rw [List.length_set]; omega)]
        rfl
    · rw [gv_set_ne hj]
      rcases List.mem_cons.mp h with z | z
      · exact absurd z.symm hj
      · exact wipe_at z
theorem wipe_gv {σ : St} {j : Nat} {S : List Nat} (h : j ∉ S) : gv (wipe σ S) j = gv σ j := by
  unfold gv
  rw [wipe_out h]
theorem wipe_eq {σ σ' : St} {S S' : List Nat} (hl : σ'.length = σ.length) (h : ∀ j, j ∉ S' → σ'[j]? = σ[j]?) (hs : ∀ j, j ∈ S' → j ∈ S) : wipe σ' S = wipe σ S := by
  apply List.ext_getElem?
  intro j
  by_cases hj : j ∈ S
  · have e1 := wipe_at (σ := σ') hj
    have e2 := wipe_at (σ := σ) hj
    have l1 := wipe_length σ' S
    have l2 := wipe_length σ S
    by_cases hlt : j < σ.length
    · unfold gv at e1 e2
      have a1 : j < (wipe σ' S).length := by rw [l1, hl]; exact hlt
      have a2 : j < (wipe σ S).length := by rw [l2]; exact hlt
      rw [List.getElem?_eq_getElem a1] at e1 ⊢
      rw [List.getElem?_eq_getElem a2] at e2 ⊢
      cases h1 : (wipe σ' S)[j] with
      | some v => rw [h1] at e1; cases e1
      | none =>
        cases h2 : (wipe σ S)[j] with
        | some v => rw [h2] at e2; cases e2
        | none => rfl
    · rw [List.getElem?_eq_none (by rw [l1, hl]; omega), List.getElem?_eq_none (by rw [l2]; omega)]
  · rw [wipe_out hj, wipe_out hj]
    exact h j fun z => hj (hs j z)

theorem wipe_wipe {σ : St} {S : List Nat} : wipe (wipe σ S) S = wipe σ S := by
  apply List.ext_getElem?
  intro j
  by_cases hj : j ∈ S
  · have hl1 := wipe_length (wipe σ S) S
    have hl2 := wipe_length σ S
    have e1 := wipe_at (σ := wipe σ S) hj
    have e2 := wipe_at (σ := σ) hj
    by_cases hlt : j < σ.length
    · unfold gv at e1 e2
      have a1 : j < (wipe (wipe σ S) S).length := by omega
      have a2 : j < (wipe σ S).length := by omega
      rw [List.getElem?_eq_getElem a1] at e1 ⊢
      rw [List.getElem?_eq_getElem a2] at e2 ⊢
      cases h1 : (wipe (wipe σ S) S)[j] with
      | some v => rw [h1] at e1; cases e1
      | none =>
        cases h2 : (wipe σ S)[j] with
        | some v => rw [h2] at e2; cases e2
        | none => rfl
    · rw [List.getElem?_eq_none (by omega), List.getElem?_eq_none (by omega)]
  · rw [wipe_out hj]

/-! ### the comprehension -/
def loopC (tg : Tg) (own : List Nat) (t : BS) (φ : ES) : List D → En → List D → Out (List D)
  | [], ρ, acc => .ok acc ρ
  | d :: ds, ρ, acc => match put tg d ρ with
    | none => .bad
    | some ρ1 => (t ρ1).bind fun b ρ2 => if b then (φ ρ2).bind fun r ρ3 => loopC tg own t φ ds (wp own ρ3) (acc ++ [r.d]) else loopC tg own t φ ds (wp own ρ2) acc
/-- nothing is let out -/
def noX {α : Type} : Out α → Out α
  | .ok a ρ => .ok a ρ
  | _ => .bad
def comp (src : Src) (tg : Tg) (own : List Nat) (t : BS) (φ : ES) : ES := fun ρ => (evs src.ops ρ).bind fun xs ρ1 => match dats ρ1 xs with
  | some ds => (match src.f ds with
    | some items => if (own.all fun i => !(ats xs).contains i) = true then (noX (loopC tg own t φ items (wp own (lk xs ρ1)) [])).bind fun out ρ2 => .ok (.own (.lst out)) (rst ρ1 (own ++ ats xs) ρ2) else .bad
    | none => .bad)
  | none => .bad
def yes : BS := fun ρ => .ok true ρ
def WF : WX := fun _ _ _ _ => False
theorem Stp.weak {F F' O R O' R' O2 R2 : Addr → Prop} {H H' : Hp} (x : Stp F H O R F' H' O' R') (ho : ∀ a, O2 a → O' a) (hr : ∀ a, R2 a → R' a) : Stp F H O R F' H' O2 R2 := ⟨x.fro, x.keep, x.dom, x.new, fun a h => x.own a (ho a h), fun a h => x.ref a (hr a h)⟩

section
variable {M : Md}
/-- the state between two turns: the list at D holds acc -/
structure Btw (M : Md) (own : List Nat) (F1 : Addr → Prop) (H1 : Hp) (σw : St) (ρm : En) (D : Addr) (acc : List VF.D) (F : Addr → Prop) (H : Hp) (ρ : En) : Prop where
  stp : Stp F1 H1 (OwnAt σw ρm) (RefAt σw ρm) F H (OwnAt σw ρ) (RefAt σw ρ)
  sr : SR M F H σw ρ
  kp : Kp ρm ρ
  nf : ¬ F D
  list : ∃ vs, H D = some (.lst vs) ∧ RepL M F H acc vs
/-- what is wanted of the loop's outcome -/
def Fin (M : Md) (own : List Nat) (F1 : Addr → Prop) (H1 : Hp) (σw : St) (ρm : En) (D : Addr) (Q : Hp → Prop) : Out (List VF.D) → Prop
  | .ok out ρ' => ∀ F H, Btw M own F1 H1 σw ρm D out F H ρ' → Q H
  | _ => False
theorem lc_turns {own : List Nat} {tg : Tg} {t : BS} {φ : ES} {F1 : Addr → Prop} {H1 : Hp} {σ : St} {ρm : En} {D : Addr} {Q : Hp → Prop} {J : It} {ds items : List VF.D} {vs : List V} {K : PySem.W.Frag} (hK : K = M.K) (hD : H1 D = none) (s1 : SR M F1 H1 (wipe σ own) ρm)
    (hno : ∀ j, j ∈ own → gt ρm j = none) (htg : ∀ j, j ∈ tgs tg → j ∈ own) (wk : Wk M J ds items vs) (hz : items.length ≤ sizeLine) (src : ∀ F H ρ acc, Btw M own F1 H1 (wipe σ own) ρm D acc F H ρ → OdRs M F H ds vs)
    (h : Fin M own F1 H1 (wipe σ own) ρm D Q (loopC tg own t φ items ρm [])) :
    ∃ Wd : Nat → Nat → Hp → Prop, (∃ m, Wd 0 m (upd H1 D (.lst []))) ∧ ∀ i m H, Wd i m H → (J.stop i H ∧ Q H) ∨ (J.go i H ∧ ∃ Nx : Hp → Prop, (∀ H', Nx H' → ∃ m', m' < m ∧ Wd (i + 1) m' H') ∧
      ∀ x H', J.yld i H x H' → gT K tg x (wipe σ own) H' fun σ2 H2 => wipe σ2 own = wipe σ own ∧ tT M WF t σ2 H2 fun b H3 =>
        if b = true then tE M WF φ σ2 H3 fun y H4 => ∃ acc, H4 D = some (.lst acc) ∧ acc.length < sizeLine ∧ Nx (upd H4 D (.lst (acc ++ [y]))) else Nx H3) := by
  let Pv : Nat → Hp → Prop := fun i H => ∃ F ρ acc, Btw M own F1 H1 (wipe σ own) ρm D acc F H ρ ∧ acc.length ≤ i ∧ Fin M own F1 H1 (wipe σ own) ρm D Q (loopC tg own t φ (items.drop i) ρ acc)
  refine ⟨fun i m H => m = items.length - i ∧ i ≤ items.length ∧ Pv i H, ⟨items.length, by simp, Nat.zero_le _, F1, ρm, [], ⟨?_, ?_, .refl _, fun z => s1.dom D z hD, [], upd_same, .nil⟩, Nat.le_refl _, h⟩, ?_⟩
  · exact ⟨fun _ h => h, fun a o e _ _ => by rw [upd_ne (ne_of_none e hD)]; exact e, fun a e => by
      by_cases hb : a = D
      · rw [hb]; exact hD
      · rw [upd_ne hb] at e; exact e, fun _ h => .inl h, fun _ h => .inl h, fun _ h => h⟩
  · exact ((New.laid s1.dom hD).po s1).sr
  rintro i m H ⟨rfl, hi, F, ρ, acc, bt, hacc, fin⟩
  obtain ⟨w1, w2⟩ := wk i F H bt.sr.dom (src F H ρ acc bt)
  by_cases hlt : i < items.length
  · have ed : items[i]? = some items[i] := List.getElem?_eq_getElem hlt
    obtain ⟨go, yl⟩ := w2 _ ed
    refine .inr ⟨go, Pv (i + 1), fun H' p' => ⟨items.length - (i + 1), by omega, rfl, hlt, p'⟩, fun x H' y => ?_⟩
    obtain ⟨F', nw, rx⟩ := yl x H' y
    rw [List.drop_eq_getElem_cons hlt] at fin
    unfold loopC at fin
    cases e1 : put tg items[i] ρ with
    | none => simp only [e1] at fin; exact fin.elim
    | some ρ1 =>
      simp only [e1] at fin
      have pn := nw.po bt.sr
      refine put_run hK tg pn.sr rx e1 fun σ2 po2 up top2 => ?_
      -- tops of an environment behind ρ1 are of the outer one
      have hno' : ∀ j, j ∈ own → gt ρ j = none := fun j hj => by
        have z := bt.kp.2 j
        rw [hno j hj] at z
        cases e : gt ρ j with
        | none => rfl
        | some u => rw [e] at z; exact z.elim
      have gv2 : ∀ j, j ∉ own → gv σ2 j = gv (wipe σ own) j := fun j hj => by
        unfold gv
        rw [(up.2 j fun z => hj (htg j z)).1]
      have tops : ∀ {ρ3 : En} {j : Nat} {u : Sl}, Kp ρ1 ρ3 → gt ρ3 j = some u → u.top = true → j ∉ own ∧ ∃ u', gt ρm j = some u' ∧ u'.top = true := fun {ρ3 j u} k3 h1 h2 => by
        obtain ⟨u1, a1, a2⟩ := k3.top_of h1 h2
        have a3 := top2 j u1 a1 a2
        obtain ⟨u2, a4, a5⟩ := bt.kp.top_of a3 a2
        refine ⟨fun z => ?_, u2, a4, a5⟩
        rw [hno' j z] at a3
        cases a3
      have notD : ∀ {ρ3 : En} {j : Nat} {u : Sl}, Kp ρ1 ρ3 → gt ρ3 j = some u → u.top = true → gv σ2 j ≠ some (.ref D) := fun {ρ3 j u} k3 h1 h2 z => by
        obtain ⟨n1, u', a1, a2⟩ := tops k3 h1 h2
        rw [gv2 j n1] at z
        obtain ⟨b, w, e, _, q⟩ := s1.top_at a1 a2
        rw [z] at e
        cases e
        rw [hD] at q
        cases q
      obtain ⟨vs0, hD0, rep0⟩ := bt.list
      -- behind the turn
      have back : ∀ {F3 : Addr → Prop} {H3 : Hp} {ρ3 : En}, Po M F' H' σ2 ρ1 F3 H3 ρ3 → Btw M own F1 H1 (wipe σ own) ρm D acc F3 H3 (wp own ρ3) := fun {F3 H3 ρ3} po3 => by
        have hD' : H' D = some (.lst vs0) := nw.keep D _ hD0
        have nD : ¬ F' D := fun z => by
          rcases nw.new D z with y | y
          · exact bt.nf y
          · rw [hD0] at y; cases y
        have no : ¬ OwnAt σ2 ρ1 D := fun ⟨j, d, h1, h2⟩ => notD (.refl _) h1 rfl h2
        have nr : ¬ RefAt σ2 ρ1 D := fun ⟨j, d, h1, h2⟩ => notD (.refl _) h1 rfl h2
        have hD3 : H3 D = some (.lst vs0) := po3.stp.keep D _ hD' no nr
        have mk : Mask σ2 ρ3 (wipe σ own) (wp own ρ3) := by
          refine ⟨?_, wp_length _ _, fun j u h => ?_⟩
          · rw [up.1]
          · by_cases hj : j ∈ own
            · rw [wp_in own hj] at h; cases h
            · rw [wp_out own hj] at h
              exact ⟨(gv2 j hj).symm, .inl h⟩
        refine ⟨?_, po3.sr.mask mk, ⟨?_, fun j => ?_⟩, fun z => ?_, vs0, hD3, ?_⟩
        · exact ((bt.stp.trans pn.stp).trans (po2.stp.trans po3.stp)).weak (fun a z => mk.own z) fun a z => mk.ref z
        · rw [wp_length]
          exact bt.kp.1.trans (po2.kp.1.trans po3.kp.1)
        · by_cases hj : j ∈ own
          · rw [wp_in own hj, hno j hj]
            trivial
          · rw [wp_out own hj]
            refine (bt.kp.2 j).trans ?_
            have z := po3.kp.2 j
            rw [(up.2 j fun z => hj (htg j z)).2] at z
            exact z
        · rcases po3.stp.new D z with y | y | y
          · exact nD y
          · rw [hD'] at y; cases y
          · exact no y
        · exact RepL.mono (po3.ext po2.sr) acc (RepL.mono nw.ext acc rep0)
      refine ⟨(wipe_eq (σ := wipe σ own) (σ' := σ2) (S' := tgs tg) (by rw [up.1]) (fun j hj => (up.2 j hj).1) htg).trans wipe_wipe, F', ρ1, po2.sr, ?_⟩
      · cases e2 : t ρ1 with
        | bad => simp only [e2, Out.bind] at fin; exact fin.elim
        | exc xx ρ9 => simp only [e2, Out.bind] at fin; exact fin.elim
        | ok b ρ2 =>
          simp only [e2, Out.bind] at fin
          intro F3 H3 po3
          cases b with
          | false =>
            simp only [Bool.false_eq_true, if_false] at fin ⊢
            exact ⟨F3, wp own ρ2, acc, back po3, by omega, fin⟩
          | true =>
            simp only [if_true] at fin ⊢
            refine ⟨F3, ρ2, po3.sr, ?_⟩
            cases e3 : φ ρ2 with
            | bad => simp only [e3, Out.bind] at fin; exact fin.elim
            | exc xx ρ9 => simp only [e3, Out.bind] at fin; exact fin.elim
            | ok r ρ3 =>
              simp only [e3, Out.bind] at fin
              intro F4 H4 po4 v rv
              obtain ⟨F5, po5, rp, _⟩ := freeze po3.sr po4 rv
              have bk := back (po3.trans po5)
              obtain ⟨vs4, hD4, rep4⟩ := bk.list
              refine ⟨vs4, hD4, by rw [← rep4.length]; omega, F5, wp own ρ3, acc ++ [r.d], ?_, by simp; omega, fin⟩
              -- the list grows
              have x : Ext F5 H4 F5 (upd H4 D (.lst (vs4 ++ [v]))) := by
                refine ⟨fun _ h => h, fun a u f q => ?_, fun a C dx fs f q => ?_, fun a ws q => ?_⟩
                · have ne : a ≠ D := fun z => bk.nf (by rw [← z]; exact f)
                  rcases q with q | ⟨o, q⟩
                  · exact .inl (by rw [upd_ne ne]; exact q)
                  · exact .inr ⟨o, by rw [upd_ne ne]; exact q⟩
                · have ne : a ≠ D := fun z => bk.nf (by rw [← z]; exact f)
                  rw [upd_ne ne]; exact q
                · have ne : a ≠ D := fun z => by
                    subst z
                    rcases q with q | ⟨o, q⟩
                    · rw [hD4] at q; cases q
                    · rw [hD4] at q; cases q
                  rcases q with q | ⟨o, q⟩
                  · exact .inl (by rw [upd_ne ne]; exact q)
                  · exact .inr ⟨o, by rw [upd_ne ne]; exact q⟩
              refine ⟨⟨bk.stp.fro, fun a o e n1 n2 => ?_, fun a e => ?_, bk.stp.new, bk.stp.own, bk.stp.ref⟩, bk.sr.fro x (fun j u a o h1 h2 h3 h4 => ?_) fun a f => ?_, bk.kp, bk.nf, vs4 ++ [v], upd_same, ?_⟩
              · rw [upd_ne (ne_of_none e hD)]
                exact bk.stp.keep a o e n1 n2
              · by_cases hb : a = D
                · rw [hb]; exact hD
                · rw [upd_ne hb] at e
                  exact bk.stp.dom a e
              · have ne : a ≠ D := fun z => by
                  subst z
                  obtain ⟨u', a1, a2⟩ := bk.kp.top_of h1 h2
                  obtain ⟨b, w, e, _, q⟩ := s1.top_at a1 a2
                  rw [h3] at e
                  cases e
                  rw [hD] at q
                  cases q
                obtain ⟨b, w, e, nf, _⟩ := bk.sr.top_at h1 h2
                rw [h3] at e
                cases e
                exact ⟨nf, by rw [upd_ne ne]; exact h4⟩
              · by_cases hb : a = D
                · exact absurd (by rw [← hb]; exact f) bk.nf
                · rw [upd_ne hb]; exact bk.sr.dom a f
              · exact RepL.append (RepL.mono x acc rep4) (.cons (Rep.mono x _ rp) .nil)
  · have e : i = items.length := by omega
    subst e
    refine .inl ⟨w1 (Nat.le_refl _), ?_⟩
    rw [List.drop_length] at fin
    exact fin F H bt
end
end VF

namespace VF
open PySem PySem.Spec PyProof.Rows L2

theorem dats_eq {ρ ρ1 : En} : ∀ {xs : List Ov}, (∀ j, j ∈ ats xs → (gt ρ j).map Sl.d = (gt ρ1 j).map Sl.d) → dats ρ xs = dats ρ1 xs
  | [], _ => rfl
  | .val d :: xs, h => by
    unfold dats
    rw [dats_eq (xs := xs) h]
    rfl
  | .at i :: xs, h => by
    unfold dats
    rw [dats_eq (xs := xs) fun j hj => h j (List.mem_cons_of_mem _ hj)]
    have e : (Ov.at i).dat ρ = (Ov.at i).dat ρ1 := h i List.mem_cons_self
    rw [e]
theorem OvRs.upd {M : Md} {F F' : Addr → Prop} {H H' : Hp} {σ σ' : St} (x : Ext F H F' H') : ∀ {xs : List Ov} {vs : List V}, (∀ j, j ∈ ats xs → gv σ' j = gv σ j) → OvRs M F H σ xs vs → OvRs M F' H' σ' xs vs
  | [], _, _, h => h
  | .val d :: xs, _, k, ⟨v, r, e, p, q⟩ => ⟨v, r, e, Rep.mono x d p, OvRs.upd x (xs := xs) k q⟩
  | .at i :: xs, _, k, ⟨v, r, e, p, q⟩ => ⟨v, r, e, (k i List.mem_cons_self).trans p, OvRs.upd x (xs := xs) (fun j hj => k j (List.mem_cons_of_mem _ hj)) q⟩

section
variable {M : Md} {W : WX} {F : Addr → Prop} {H : Hp} {σ : St} {ρ : En}
/-- the masked environment of a block -/
theorem mask_blk {own : List Nat} {xs : List Ov} : Mask σ ρ (wipe σ own) (wp own (lk xs ρ)) := by
  refine ⟨wipe_length _ _, by rw [wp_length, lk_length], fun j t h => ?_⟩
  by_cases hj : j ∈ own
  · rw [wp_in own hj] at h; cases h
  · rw [wp_out own hj] at h
    exact ⟨wipe_gv hj, lk_at xs h⟩
theorem comp_run {src : Src} {tg : Tg} {own : List Nat} {t : BS} {φ : ES} {K : PySem.W.Frag} (hK : K = M.K) (htg : ∀ j, j ∈ tgs tg → j ∈ own) {Q : VK} (h : tE M W (comp src tg own t φ) σ H Q) :
    tLc (tI M W src) (gT K tg) (tT M WF t) (tE M WF φ) own σ H Q := by
  obtain ⟨F, ρ, s, h⟩ := h
  show tOs M W src.ops σ H fun vs H1 => rIt M src.f vs H1 _
  refine ops_run _ s ((Want.bind h).mono fun xs F1 H1 ρ1 po1 q vs rs => ?_)
  have q := q po1
  cases e1 : dats ρ1 xs with
  | none => simp only [e1] at q; exact q.elim
  | some ds =>
    simp only [e1] at q
    cases e2 : src.f ds with
    | none => simp only [e2] at q; exact q.elim
    | some items =>
      simp only [e2] at q
      by_cases hdis : (own.all fun i => !(ats xs).contains i) = true
      · rw [if_pos hdis] at q
        have dis : ∀ j, j ∈ ats xs → j ∉ own := fun j h1 h2 => by
          have z := List.all_eq_true.mp hdis j h2
          simp at z
          exact z h1
        refine ⟨F1, ds, items, po1.sr.dom, rs.od po1.sr e1, e2, fun J wk hz => fun D hD => ?_⟩
        have mk : Mask σ ρ1 (wipe σ own) (wp own (lk xs ρ1)) := mask_blk
        have sm := po1.sr.mask mk
        refine lc_turns (M := M) (σ := σ) (ρm := wp own (lk xs ρ1)) (Q := fun H => Q (.ref D) H) hK hD sm (fun j hj => wp_in own hj) htg wk hz (fun F2 H2 ρ2 acc bt => ?_) ?_
        · have x : Ext F1 H1 F2 H2 := sm.ext bt.stp
          refine (rs.upd x (σ' := wipe σ own) fun j hj => wipe_gv (dis j hj)).od bt.sr ?_
          rw [← e1]
          refine dats_eq fun j hj => ?_
          obtain ⟨z1, z2⟩ := lk_in xs (ρ := ρ1) hj
          have z3 := bt.kp.2 j
          rw [wp_out own (dis j hj)] at z3
          rw [← z1]
          cases e3 : gt (lk xs ρ1) j with
          | none =>
            rw [e3] at z3
            cases e4 : gt ρ2 j with
            | none => rfl
            | some u => rw [e4] at z3; exact z3.elim
          | some t1 =>
            rw [e3] at z3
            cases t1 with
            | val d => cases e4 : gt ρ2 j with
              | none => rw [e4] at z3; exact z3.elim
              | some u => rw [e4] at z3; cases u with
                | val d' => rw [show d = d' from z3]
                | _ => exact z3.elim
            | rd d => cases e4 : gt ρ2 j with
              | none => rw [e4] at z3; exact z3.elim
              | some u => rw [e4] at z3; cases u with
                | rd d' => rw [show d = d' from z3]
                | _ => exact z3.elim
            | own d => obtain ⟨d', z⟩ := z2 _ e3 rfl; cases z
            | ref d => obtain ⟨d', z⟩ := z2 _ e3 rfl; cases z
        · cases e3 : loopC tg own t φ items (wp own (lk xs ρ1)) [] with
          | bad => simp only [e3, noX, Out.bind] at q; exact q.elim
          | exc x ρ9 => simp only [e3, noX, Out.bind] at q; exact q.elim
          | ok out ρ2 =>
            simp only [e3, noX, Out.bind] at q
            intro F2 H2 bt
            have po2 := po1.sr.unmask (S := own ++ ats xs) mk (fun j hj => ?_) (fun j t1 hj h1 h2 => ?_) bt.stp bt.sr bt.kp
            · obtain ⟨vs2, hD2, rep2⟩ := bt.list
              refine q F2 H2 po2 (po1.trans po2) (.ref D) ⟨D, rfl, bt.nf, po1.stp.dom D hD, vs2, hD2, rep2⟩
            · obtain ⟨n1, n2⟩ := not_or.mp (fun z => hj (List.mem_append.mpr z))
              exact ⟨by rw [wp_out own n1, lk_out xs n2], wipe_gv n1⟩
            · have n1 : j ∉ own := fun z => by rw [wp_in own z] at h1; cases h1
              rw [wp_out own n1] at h1
              rcases List.mem_append.mp hj with z | z
              · exact absurd z n1
              · exact (lk_in xs z).2 t1 h1 h2
      · rw [if_neg hdis] at q
        exact q.elim
end

section
variable {M : Md} {cs : Cs} {W : WX} {k : Nat} {X : Cx}
/-- the context of a block -/
def Cs.blk (cs : Cs) (scope : Scope) : Cs := ⟨cs.N, relS scope cs.sc, fun x => scope.names.lookup x == some .cell⟩
theorem G.blk (g : G M cs W k X) (s : Shared) (H : Hp) (scope : Scope) (cl : List (Str × Addr)) (C : Addr) (fp : List Addr) : G M (cs.blk scope) WF k (X.blk s H scope (compEnvC scope cl C X.env) fp) :=
  ⟨g.hP, g.hw, g.hb, g.hK, g.hmg, g.hN, g.nd, by show relS scope X.env.scope = relS scope cs.sc; rw [g.hsc], rfl, g.calm, takes0, g.room, PassesOwn.never⟩
/-- what is written of a comprehension's parts -/
structure LcOk (M : Md) (cs : Cs) (k : Nat) (scope : Scope) (tg elt : Expr) (ifs : List Expr) (T : Tg) (t : BS) (φ : ES) : Prop where
  hg : ∀ X, G M (cs.blk scope) WF k X → PG X tg (gT X.K T)
  ht : ∀ X, G M (cs.blk scope) WF k X → PTs X ifs (tT M WF t)
  he : ∀ X, G M (cs.blk scope) WF k X → PE X elt (tE M WF φ)
theorem ts_nil {X : Cx} : PTs X [] (tT M W yes) := ⟨fun pins s σ H Q I h => pts_nil.run pins s σ H Q I (by
  obtain ⟨F, ρ, sr, h⟩ := h
  exact h F H (.refl sr))⟩
theorem ts_one {X : Cx} {c : Expr} {t : BS} (h : PT X c (tT M W t)) : PTs X [c] (tT M W t) := pts_one h
theorem e_lc (g : G M cs W k X) {elt tg iter : Expr} {ifs : List Expr} {scope : Scope} {own : List (Str × Nat)} {pos : Pos} {src : Src} {T : Tg} {t : BS} {φ : ES} (hi : PI X tg iter (tI M W src)) (ok : blkC cs.N cs.sc scope own = true) (htg : ((tgs T).all fun j => (own.map (·.2)).contains j) = true) (lc : LcOk M cs k scope tg elt ifs T t φ) (hs : ∀ x, foldedSetIterable iter X.env x = pure x) :
    PE X (.ListComp elt [⟨tg, iter, ifs, 0⟩] scope pos) (tE M W (comp src T (own.map (·.2)) t φ)) := by
  refine PE_imp (pe_lc (g := gT X.K T) (tt := tT M WF t) (te := tE M WF φ) g.calm (by rw [g.hN]; exact g.nd) hi (blkOk_by (by rw [g.hN, g.hsc]; exact ok)) (fun s H C cl fp => lc.hg _ (g.blk s H scope cl C fp)) (fun s H C cl fp => lc.ht _ (g.blk s H scope cl C fp)) (fun s H C cl fp => lc.he _ (g.blk s H scope cl C fp)) hs) fun σ H Q h => ?_
  exact comp_run g.hK (fun j hj => by
    have z := List.all_eq_true.mp htg j hj
    exact List.contains_iff_mem.mp z) h
end
end VF

namespace VF
open PySem PySem.Spec PyProof.Rows L2

inductive SO where
  | nx (ρ : En)
  | rt (r : Rv) (ρ : En)
  | bk (ρ : En)
  | ct (ρ : En)
  | exc (x : Ex) (ρ : En)
  | bad
abbrev SS := En → SO
/-- what is returned: an own object is new since the start, or was owned at it -/
def RtR (M : Md) (O : Addr → Prop) (H0 : Hp) (F : Addr → Prop) (H : Hp) : Rv → V → Prop
  | .val d, v => Rep M F H d v
  | .own d, v => ∃ a, v = .ref a ∧ ¬ F a ∧ (H0 a = none ∨ O a) ∧ Cont M F H (fun u => H a = some u) d
def WantS (M : Md) (W : WX) (F : Addr → Prop) (H : Hp) (σ : St) (ρ : En) (o : SO) (D : Ends) : Prop := match o with
  | .nx ρ' => ∀ F' H' σ', PoS M F H σ ρ F' H' σ' ρ' → D.nx σ' H'
  | .bk ρ' => ∀ F' H' σ', PoS M F H σ ρ F' H' σ' ρ' → D.bk σ' H'
  | .ct ρ' => ∀ F' H' σ', PoS M F H σ ρ F' H' σ' ρ' → D.ct σ' H'
  | .rt r ρ' => ∀ F' H' σ' v, PoS M F H σ ρ F' H' σ' ρ' → RtR M (OwnAt σ ρ) H F' H' r v → D.rt v H'
  | .exc x ρ' => ∀ F' H' σ' cls d, PoS M F H σ ρ F' H' σ' ρ' → ExR M F' H' x cls d → W cls d σ' H'
  | .bad => False
def tS (M : Md) (W : WX) (φ : SS) : TS := fun D σ H => ∃ F ρ, SR M F H σ ρ ∧ WantS M W F H σ ρ (φ ρ) D
def Out.bindS {α : Type} (o : Out α) (f : α → En → SO) : SO := match o with
  | .ok a ρ => f a ρ
  | .exc x ρ => .exc x ρ
  | .bad => .bad
section
variable {M : Md} {W : WX} {F F1 : Addr → Prop} {H H1 : Hp} {σ σ1 : St} {ρ ρ1 : En}
theorem RtR.step {r : Rv} {v : V} {F' : Addr → Prop} {H' : Hp} (st : Stp F H (OwnAt σ ρ) (RefAt σ ρ) F1 H1 (OwnAt σ1 ρ1) (RefAt σ1 ρ1)) (h : RtR M (OwnAt σ1 ρ1) H1 F' H' r v) : RtR M (OwnAt σ ρ) H F' H' r v := by
  cases r with
  | val d => exact h
  | own d =>
    obtain ⟨a, e, nf, z, c⟩ := h
    refine ⟨a, e, nf, ?_, c⟩
    rcases z with z | z
    · exact .inl (st.dom a z)
    · exact (st.own a z).symm
theorem WantS.step {o : SO} {D : Ends} (po : PoS M F H σ ρ F1 H1 σ1 ρ1) (h : WantS M W F H σ ρ o D) : WantS M W F1 H1 σ1 ρ1 o D := by
  cases o with
  | nx ρ' => exact fun F' H' σ' p => h F' H' σ' (po.trans p)
  | bk ρ' => exact fun F' H' σ' p => h F' H' σ' (po.trans p)
  | ct ρ' => exact fun F' H' σ' p => h F' H' σ' (po.trans p)
  | rt r ρ' => exact fun F' H' σ' v p rt => h F' H' σ' v (po.trans p) (rt.step po.stp)
  | exc x ρ' => exact fun F' H' σ' cls d p xr => h F' H' σ' cls d (po.trans p) xr
  | bad => exact h
/-- other ends -/
theorem WantS.ends {o : SO} {D D' : Ends} (h : WantS M W F H σ ρ o D) (h1 : ∀ σ' H', D.nx σ' H' → D'.nx σ' H') (h2 : ∀ σ' H', D.bk σ' H' → D'.bk σ' H') (h3 : ∀ σ' H', D.ct σ' H' → D'.ct σ' H') (h4 : ∀ v H', D.rt v H' → D'.rt v H') : WantS M W F H σ ρ o D' := by
  cases o with
  | nx ρ' => exact fun F' H' σ' p => h1 _ _ (h F' H' σ' p)
  | bk ρ' => exact fun F' H' σ' p => h2 _ _ (h F' H' σ' p)
  | ct ρ' => exact fun F' H' σ' p => h3 _ _ (h F' H' σ' p)
  | rt r ρ' => exact fun F' H' σ' v p rt => h4 _ _ (h F' H' σ' v p rt)
  | exc x ρ' => exact h
  | bad => exact h
/-- an expression, then a statement's rest -/
theorem bindS_want {α : Type} {o : Out α} {f : α → En → SO} {D : Ends} (h : WantS M W F H σ ρ (o.bindS f) D) :
    Want M W F H σ ρ o fun a _ _ ρ1 => WantS M W F H σ ρ (f a ρ1) D := by
  cases o with
  | bad => exact h
  | exc x ρ' => exact fun F' H' cls d po xr => h F' H' σ cls d po.s xr
  | ok a ρ1 => exact fun F1 H1 po => h
end

/-! ### small statements -/
def skip : SS := fun ρ => .nx ρ
def seq (a b : SS) : SS := fun ρ => match a ρ with
  | .nx ρ' => b ρ'
  | o => o
def ifS (t : BS) (a b : SS) : SS := fun ρ => (t ρ).bindS fun c ρ' => if c then a ρ' else b ρ'
def retE (φ : ES) : SS := fun ρ => (φ ρ).bindS fun r ρ' => .rt r ρ'
/-- return of a name: an own object is given away -/
def retI (i : Nat) : SS := fun ρ => match gt ρ i with
  | some (.own d) => .rt (.own d) (ρ.set i none)
  | some (.val d) => .rt (.val d) ρ
  | _ => .bad
def dropE (φ : ES) : SS := fun ρ => (φ ρ).bindS fun _ ρ' => .nx ρ'
def setI (i : Nat) (φ : ES) : SS := fun ρ => (φ ρ).bindS fun r ρ' => if noRef (gt ρ' i) = true ∧ i < ρ'.length then (match r with
  | .val d => .nx (ρ'.set i (some (.val d)))
  | .own d => .nx (ρ'.set i (some (.own d)))) else .bad
def putS (tg : Tg) (φ : ES) : SS := fun ρ => (φ ρ).bindS fun r ρ' => match put tg r.d ρ' with
  | some ρ2 => .nx ρ2
  | none => .bad
/-- a slot is forgotten -/
def kill (i : Nat) (a : SS) : SS := fun ρ => match gt ρ i with
  | some (.ref _) => .bad
  | some (.rd _) => .bad
  | _ => a (ρ.set i none)
section
variable {M : Md} {cs : Cs} {W : WX} {k : Nat} {X : Cx}
theorem s_nil : PSs X [] (tS M W skip) := PSs_imp pss_nil fun D σ H ⟨F, ρ, s, h⟩ => h F H σ (.refl s)
theorem s_pass {pos : Pos} : PS X (.Pass pos) (tS M W skip) := PS_imp ps_pass fun D σ H ⟨F, ρ, s, h⟩ => h F H σ (.refl s)
theorem s_doc {x : Str} {j : Nat} {pos pos' : Pos} : PS X (.Expr (.Constant (.str x) j pos) pos') (tS M W skip) := PS_imp ps_doc fun D σ H ⟨F, ρ, s, h⟩ => h F H σ (.refl s)
theorem s_break {pos : Pos} : PS X (.Break pos) (tS M W .bk) := PS_imp ps_break fun D σ H ⟨F, ρ, s, h⟩ => h F H σ (.refl s)
theorem s_cont {pos : Pos} : PS X (.Continue pos) (tS M W .ct) := PS_imp ps_continue fun D σ H ⟨F, ρ, s, h⟩ => h F H σ (.refl s)
theorem s_cons {st : Stmt} {rest : List Stmt} {a b : SS} (h1 : PS X st (tS M W a)) (h2 : PSs X rest (tS M W b)) : PSs X (st :: rest) (tS M W (seq a b)) := by
  refine PSs_imp (pss_cons h1 h2) fun D σ H ⟨F, ρ, s, h⟩ => ⟨F, ρ, s, ?_⟩
  unfold seq at h
  cases e : a ρ with
  | nx ρ1 =>
    simp only [e] at h
    exact fun F1 H1 σ1 po => ⟨F1, ρ1, po.sr, h.step po⟩
  | bk ρ1 => simp only [e] at h; exact h
  | ct ρ1 => simp only [e] at h; exact h
  | rt r ρ1 => simp only [e] at h; exact h
  | exc x ρ1 => simp only [e] at h; exact h
  | bad => simp only [e] at h; exact h
theorem s_one {st : Stmt} {a : SS} (h1 : PS X st (tS M W a)) : PSs X [st] (tS M W a) := pss_one h1
theorem s_if {c : Expr} {a b : List Stmt} {pos : Pos} {t : BS} {p q : SS} (hc : PT X c (tT M W t)) (ha : PSs X a (tS M W p)) (hb : PSs X b (tS M W q)) : PS X (.If c a b pos) (tS M W (ifS t p q)) := by
  refine PS_imp (ps_if hc ha hb) fun D σ H ⟨F, ρ, s, h⟩ => ⟨F, ρ, s, (bindS_want h).mono fun b F1 H1 ρ1 po z => ?_⟩
  have z := z.step po.s
  cases b with
  | true => exact ⟨F1, ρ1, po.sr, z⟩
  | false => exact ⟨F1, ρ1, po.sr, z⟩
theorem s_ret {e : Expr} {pos : Pos} {φ : ES} (he : PE X e (tE M W φ)) : PS X (.Return (some e) pos) (tS M W (retE φ)) := by
  refine PS_imp (ps_ret he) fun D σ H ⟨F, ρ, s, h⟩ => tE_of s ((bindS_want h).mono fun r F1 H1 ρ1 po z v rv => ?_)
  refine z F1 H1 σ v po.s ?_
  cases r with
  | val d => exact rv
  | own d =>
    obtain ⟨a, e, nf, h0, c⟩ := rv
    exact ⟨a, e, nf, .inl h0, c⟩
theorem s_retN {pos : Pos} : PS X (.Return none pos) (tS M W (retE (cst .non))) := PS_imp ps_retN fun D σ H ⟨F, ρ, s, h⟩ => h F H σ .non (.refl s) (by show Rep M F H .non .non; unfold Rep; rfl)

/-- a slot that is no caller's is forgotten -/
theorem forget {F : Addr → Prop} {H : Hp} {σ : St} {ρ : En} (s : SR M F H σ ρ) {i : Nat} (hn : noRef (gt ρ i) = true) : PoS M F H σ ρ F H σ (ρ.set i none) := by
  have key : ∀ {j : Nat} {t : Sl}, gt (ρ.set i none) j = some t → gt ρ j = some t := fun {j t} h => by
    by_cases hj : i = j
    · subst hj
      have hl := gt_lt h
      rw [List.length_set] at hl
      rw [gt_set_self hl] at h
      cases h
    · rw [gt_set_ne hj] at h
      exact h
  refine ⟨⟨fun _ h => h, fun _ _ h _ _ => h, fun _ h => h, fun _ h => .inl h, fun a ⟨j, d, h1, h2⟩ => .inl ⟨j, d, key h1, h2⟩, fun a ⟨j, d, h1, h2⟩ => ⟨j, d, key h1, h2⟩⟩, ⟨by rw [List.length_set]; exact s.len, s.dom, fun j t h => s.slot j t (key h), fun j l t u a h1 h2 => s.dist j l t u a (key h1) (key h2)⟩, by rw [List.length_set], fun j => ?_⟩
  by_cases hj : i = j
  · subst hj
    have z : ∀ t, gt (ρ.set i none) i ≠ some t := fun t e => by
      have hl := gt_lt e
      rw [List.length_set] at hl
      rw [gt_set_self hl] at e
      cases e
    refine ⟨fun d h => ?_, fun d h => ?_, fun d h => absurd h (z _), fun d h => absurd h (z _)⟩
    · rw [h] at hn; cases hn
    · rw [h] at hn; cases hn
  · rw [gt_set_ne hj]
    exact (KpT.refl σ ρ).2 j
theorem s_retI (g : G M cs W k X) {i : Nat} {x : Str} {pos p2 : Pos} (hi : cs.N[i]? = some x) (hv : Vis cs.sc x) (hd : (x == ("__debug__" : Str)) = false) (hcd : (x == ("__classdict__" : Str)) = false) : PS X (.Return (some (.Name x pos)) p2) (tS M W (retI i)) := by
  refine PS_imp (ps_ret (pe_var (by rw [g.hN]; exact hi) (g.vis hv) hd hcd)) fun D σ H ⟨F, ρ, s, h⟩ => ?_
  unfold retI at h
  cases e : gt ρ i with
  | none => simp only [e] at h; exact h.elim
  | some t =>
    obtain ⟨v, hv, r⟩ := s.slot i t e
    refine ⟨v, gv_some hv, ?_⟩
    cases t with
    | val d => simp only [e] at h; exact h F H σ v (.refl s) r
    | own d =>
      simp only [e] at h
      obtain ⟨a, rfl, nf, c⟩ := r
      exact h F H σ _ (forget s (by rw [e]; rfl)) ⟨a, rfl, nf, .inr ⟨i, d, e, hv⟩, c⟩
    | ref d => simp only [e] at h; exact h.elim
    | rd d => simp only [e] at h; exact h.elim
theorem s_kill {st : List Stmt} {i : Nat} {a : SS} (h : PSs X st (tS M W a)) : PSs X st (tS M W (kill i a)) := by
  refine PSs_imp h fun D σ H ⟨F, ρ, s, h⟩ => ?_
  unfold kill at h
  have go : noRef (gt ρ i) = true → WantS M W F H σ ρ (a (ρ.set i none)) D → tS M W a D σ H := fun hn h => ⟨F, _, (forget s hn).sr, h.step (forget s hn)⟩
  cases e : gt ρ i with
  | none => simp only [e] at h; exact go (by rw [e]; rfl) h
  | some t => cases t with
    | val d => simp only [e] at h; exact go (by rw [e]; rfl) h
    | own d => simp only [e] at h; exact go (by rw [e]; rfl) h
    | ref d => simp only [e] at h; exact h.elim
    | rd d => simp only [e] at h; exact h.elim
theorem s_expr {e : Expr} {pos : Pos} {φ : ES} (he : PE X e (tE M W φ)) (hs : swapsWith e none pos.line X.env = pure false) : PS X (.Expr e pos) (tS M W (dropE φ)) := by
  refine PS_imp (ps_expr he hs) fun D σ H ⟨F, ρ, s, h⟩ => tE_of s ((bindS_want h).mono fun r F1 H1 ρ1 po z v rv => ?_)
  exact z F1 H1 σ po.s
/-- what a value stored to a name needs -/
theorem set_run {i : Nat} {φ : ES} {D : Ends} {σ : St} {H : Hp} (h : tS M W (setI i φ) D σ H) : tAsg (tE M W φ) (gName i) D σ H := by
  obtain ⟨F, ρ, s, h⟩ := h
  refine tE_of s ((bindS_want h).mono fun r F1 H1 ρ1 po z v rv => ?_)
  show D.nx (σ.set i (some v)) H1
  by_cases hc : noRef (gt ρ1 i) = true ∧ i < ρ1.length
  · rw [if_pos hc] at z
    cases r with
    | val d => exact z F1 H1 _ (po.s.trans (put_val po.sr hc.2 hc.1 rv))
    | own d => exact z F1 H1 _ (put_own po.sr po s hc.2 hc.1 rv)
  · rw [if_neg hc] at z
    exact z.elim
theorem s_set (g : G M cs W k X) {i : Nat} {x : Str} {e : Expr} {pos' pos : Pos} {φ : ES} (hi : cs.N[i]? = some x) (hx : Loc cs.sc x) (he : PE X e (tE M W φ)) (hs : swapsWith e (some (.Name x pos')) pos.line X.env = pure false) (hf : cs.fb x = true ∨ cs.sc.names.lookup x = some .local) :
    PS X (.Assign [.Name x pos'] e pos) (tS M W (setI i φ)) :=
  PS_imp (ps_set (by rw [g.hN]; exact g.nd) (by rw [g.hN]; exact hi) (by rw [g.hsc]; exact hx) he hs (by rw [g.hfn, g.hsc]; exact hf)) fun D σ H h => set_run h
theorem s_setLc (g : G M cs W k X) {i : Nat} {y : Str} {py : Pos} {elt tg iter : Expr} {ifs : List Expr} {scope : Scope} {own : List (Str × Nat)} {pos spos : Pos} {src : Src} {T : Tg} {t : BS} {φ : ES} (hy : cs.N[i]? = some y) (hyl : cs.sc.names.lookup y = some .local) (hkind : cs.sc.kind = .function) (hl : (py.line == pos.line) = true) (han : (scope.names.any fun (n, k) => n == y && (k == .local || k == .cell)) = false)
    (hi : PI X tg iter (tI M W src)) (ok : blkC cs.N cs.sc scope own = true) (htg : ((tgs T).all fun j => (own.map (·.2)).contains j) = true) (lc : LcOk M cs k scope tg elt ifs T t φ) (hs : ∀ x, foldedSetIterable iter X.env x = pure x) :
    PS X (.Assign [.Name y py] (.ListComp elt [⟨tg, iter, ifs, 0⟩] scope pos) spos) (tS M W (setI i (comp src T (own.map (·.2)) t φ))) := by
  refine PS_imp (ps_setLc (g := gT X.K T) (tt := tT M WF t) (te := tE M WF φ) g.calm (by rw [g.hN]; exact g.nd) (by rw [g.hN]; exact hy) (by rw [g.hsc]; exact hyl) (sw_true (by rw [g.hsc]; exact hkind) (by rw [g.hsc]; exact hyl) hl han) hi (blkOk_by (by rw [g.hN, g.hsc]; exact ok)) (fun s H C cl fp => lc.hg _ (g.blk s H scope cl C fp)) (fun s H C cl fp => lc.ht _ (g.blk s H scope cl C fp)) (fun s H C cl fp => lc.he _ (g.blk s H scope cl C fp)) hs) fun D σ H h => ?_
  have h1 : tE M W (comp src T (own.map (·.2)) t φ) σ H (fun x H1 => gName i x σ H1 D.nx) := set_run h
  exact comp_run g.hK (fun j hj => List.contains_iff_mem.mp (List.all_eq_true.mp htg j hj)) h1
theorem s_put (g : G M cs W k X) {tg e : Expr} {pos : Pos} {T : Tg} {φ : ES} (he : PE X e (tE M W φ)) (hg : PG X tg (gT X.K T)) (hs : swapsWithSole [tg] e pos.line X.env = pure false) (hw : swappedStores [tg] e X.env = pure none) (h1 : (assignEach [tg] X.env).map (·.2) = [assign tg X.env]) :
    PS X (.Assign [tg] e pos) (tS M W (putS T φ)) := by
  refine PS_imp (ps_asg he hg hs hw h1) fun D σ H ⟨F, ρ, s, h⟩ => tE_of s ((bindS_want h).mono fun r F1 H1 ρ1 po z v rv => ?_)
  obtain ⟨F2, po2, rp, _⟩ := freeze s po rv
  cases e : put T r.d ρ1 with
  | none => simp only [e] at z; exact z.elim
  | some ρ2 =>
    simp only [e] at z
    exact put_run g.hK T po2.sr rp e fun σ2 p2 _ _ => z F2 H1 σ2 (po2.s.trans p2)
end
end VF

namespace VF
open PySem PySem.Spec PyProof.Rows L2

/-- the slots that are locked -/
def lks (ρ : En) (xs : List Ov) : List Nat := (ats xs).filter fun i => match gt ρ i with
  | some (.own _) => true
  | some (.ref _) => true
  | _ => false
def unl (ρ1 : En) (S : List Nat) : SO → SO
  | .nx ρ => .nx (rst ρ1 S ρ)
  | .bk ρ => .bk (rst ρ1 S ρ)
  | .ct ρ => .ct (rst ρ1 S ρ)
  | .rt r ρ => .rt r (rst ρ1 S ρ)
  | .exc x ρ => .exc x (rst ρ1 S ρ)
  | .bad => .bad
def loopS (tg : Tg) (body : SS) : List D → SS
  | [], ρ => .nx ρ
  | d :: ds, ρ => match put tg d ρ with
    | none => .bad
    | some ρ1 => (match body ρ1 with
      | .nx ρ2 => loopS tg body ds ρ2
      | .ct ρ2 => loopS tg body ds ρ2
      | .bk ρ2 => .nx ρ2
      | o => o)
def forS (src : Src) (tg : Tg) (body : SS) : SS := fun ρ => (evs src.ops ρ).bindS fun xs ρ1 => match dats ρ1 xs with
  | some ds => (match src.f ds with
    | some items => unl ρ1 (lks ρ1 xs) (loopS tg body items (lk xs ρ1))
    | none => .bad)
  | none => .bad
def whileS (t : BS) (body : SS) : Nat → SS
  | 0, _ => .bad
  | n + 1, ρ => (t ρ).bindS fun b ρ1 => if b then (match body ρ1 with
      | .nx ρ2 => whileS t body n ρ2
      | .ct ρ2 => whileS t body n ρ2
      | .bk ρ2 => .nx ρ2
      | o => o) else .nx ρ1

theorem lk_rd {j : Nat} {d : D} : ∀ (xs : List Ov) {ρ : En}, gt ρ j = some (.rd d) → gt (lk xs ρ) j = some (.rd d)
  | [], _, h => h
  | .val _ :: xs, ρ, h => lk_rd xs h
  | .at i :: xs, ρ, h => by
    unfold lk
    refine lk_rd xs ?_
    by_cases hj : i = j
    · subst hj
      simp only [h]
    · split
      · rw [gt_set_ne hj]; exact h
      · rw [gt_set_ne hj]; exact h
      · exact h
theorem mem_lks {ρ : En} {xs : List Ov} {j : Nat} : j ∈ lks ρ xs ↔ j ∈ ats xs ∧ ∃ d, gt ρ j = some (.own d) ∨ gt ρ j = some (.ref d) := by
  unfold lks
  rw [List.mem_filter]
  refine and_congr_right fun _ => ?_
  constructor
  · intro h
    split at h
    · rename_i d e; exact ⟨d, .inl e⟩
    · rename_i d e; exact ⟨d, .inr e⟩
    · cases h
  · rintro ⟨d, e | e⟩ <;> simp only [e]
/-- a locked slot is read alone -/
theorem lk_own {ρ : En} {xs : List Ov} {j : Nat} {d : D} (hj : j ∈ ats xs) (h : gt ρ j = some (.own d) ∨ gt ρ j = some (.ref d)) : gt (lk xs ρ) j = some (.rd d) := by
  obtain ⟨h1, h2⟩ := lk_in xs (ρ := ρ) hj
  cases e : gt (lk xs ρ) j with
  | none => rw [e] at h1; rcases h with h | h <;> (rw [h] at h1; cases h1)
  | some t =>
    have ed : t.d = d := by
      rw [e] at h1
      rcases h with h | h <;> (rw [h] at h1; cases h1; rfl)
    cases t with
    | val d' =>
      rcases lk_at xs e with z | ⟨d2, z, _⟩
      · rcases h with h | h <;> (rw [h] at z; cases z)
      · cases z
    | own d' => obtain ⟨d2, z⟩ := h2 _ e rfl; cases z
    | ref d' => obtain ⟨d2, z⟩ := h2 _ e rfl; cases z
    | rd d' => rw [show d' = d from ed]
section
variable {M : Md} {W : WX} {F F' : Addr → Prop} {H H' : Hp} {σ σ' : St} {ρ ρe : En}
theorem mask_lk {xs : List Ov} : Mask σ ρ σ (lk xs ρ) := ⟨rfl, lk_length _ _, fun j t h => ⟨rfl, lk_at xs h⟩⟩
/-- behind the loop the locks fall -/
theorem unlock (s : SR M F H σ ρ) {xs : List Ov} (po : PoS M F H σ (lk xs ρ) F' H' σ' ρe) : PoS M F H σ ρ F' H' σ' (rst ρ (lks ρ xs) ρe) := by
  have mk : Mask σ ρ σ (lk xs ρ) := mask_lk
  have x : Ext F H F' H' := (s.mask mk).ext po.stp
  have hl : ρe.length = ρ.length := po.kp.1.symm.trans (lk_length _ _)
  -- a locked slot
  have lkd : ∀ j, j ∈ lks ρ xs → ∃ d, gt (rst ρ (lks ρ xs) ρe) j = gt ρ j ∧ (gt ρ j = some (.own d) ∨ gt ρ j = some (.ref d)) ∧ gt ρe j = some (.rd d) ∧ gv σ' j = gv σ j := fun j hj => by
    obtain ⟨h1, d, h2⟩ := mem_lks.mp hj
    have h3 := lk_own h1 h2
    obtain ⟨h4, h5⟩ := (po.kp.2 j).2.1 d h3
    exact ⟨d, rst_in _ hj (gt_lt h4), h2, h4, h5⟩
  have out : ∀ j, j ∉ lks ρ xs → gt (rst ρ (lks ρ xs) ρe) j = gt ρe j := fun j hj => rst_out _ hj
  have same : ∀ j d, j ∉ lks ρ xs → gt ρ j = some (.own d) ∨ gt ρ j = some (.ref d) → gt (lk xs ρ) j = gt ρ j := fun j d hj h => by
    refine lk_out xs fun z => hj (mem_lks.mpr ⟨z, d, h⟩)
  refine ⟨⟨x.fro, fun a o h1 h2 h3 => po.stp.keep a o h1 (fun z => h2 (mk.own z)) fun z => h3 (mk.ref z), po.stp.dom, fun a h => ?_, fun a h => ?_, fun a h => ?_⟩, ⟨?_, po.sr.dom, fun j t h => ?_, fun i j t u a h1 h2 h3 h4 h5 h6 => ?_⟩, by rw [rst_length, hl], fun j => ?_⟩
  · rcases po.stp.new a h with z | z | z
    · exact .inl z
    · exact .inr (.inl z)
    · exact .inr (.inr (mk.own z))
  · obtain ⟨j, d, h1, h2⟩ := h
    by_cases hj : j ∈ lks ρ xs
    · obtain ⟨d', e1, _, _, e4⟩ := lkd j hj
      rw [e1] at h1
      rw [e4] at h2
      exact .inl ⟨j, d, h1, h2⟩
    · rw [out j hj] at h1
      rcases po.stp.own a ⟨j, d, h1, h2⟩ with z | z
      · exact .inl (mk.own z)
      · exact .inr z
  · obtain ⟨j, d, h1, h2⟩ := h
    by_cases hj : j ∈ lks ρ xs
    · obtain ⟨d', e1, _, _, e4⟩ := lkd j hj
      rw [e1] at h1
      rw [e4] at h2
      exact ⟨j, d, h1, h2⟩
    · rw [out j hj] at h1
      exact mk.ref (po.stp.ref a ⟨j, d, h1, h2⟩)
  · rw [rst_length]; exact po.sr.len
  · by_cases hj : j ∈ lks ρ xs
    · obtain ⟨d, e1, e2, e3, e4⟩ := lkd j hj
      rw [e1] at h
      obtain ⟨v, ev, r⟩ := s.slot j t h
      rw [e4]
      refine ⟨v, ev, ?_⟩
      have key : ∀ (a : Addr) (u : HO), v = .ref a → H a = some u → H' a = some u ∧ ¬ F' a := fun a u ea hu => by
        subst ea
        have top : t.top = true := by rcases e2 with e2 | e2 <;> (rw [e2] at h; cases h; rfl)
        have ne : ∀ i t', gt (lk xs ρ) i = some t' → t'.top = true → gv σ i = some (.ref a) → ∃ d, t' = .rd d := fun i t' k1 k2 k3 => by
          obtain ⟨t2, k4, k5⟩ := mk.top k1 k2
          have e := s.dist i j t2 t a k4 h k5 top k3 ev
          subst e
          exact (lk_in xs (mem_lks.mp hj).1).2 t' k1 k2
        have n1 : ¬ OwnAt σ (lk xs ρ) a := fun ⟨i, d, k1, k2⟩ => by
          obtain ⟨d', z⟩ := ne i _ k1 rfl k2
          cases z
        have n2 : ¬ RefAt σ (lk xs ρ) a := fun ⟨i, d, k1, k2⟩ => by
          obtain ⟨d', z⟩ := ne i _ k1 rfl k2
          cases z
        obtain ⟨b, w, e5, nf, _⟩ := po.sr.top_at e3 rfl
        rw [e4, ev] at e5
        cases e5
        exact ⟨po.stp.keep a u hu n1 n2, nf⟩
      rcases e2 with e2 | e2
      · rw [e2] at h
        cases h
        obtain ⟨a, rfl, nf, c⟩ := r
        obtain ⟨u, hu, _⟩ := c.some_of
        obtain ⟨k1, k2⟩ := key a u rfl hu
        exact ⟨a, rfl, k2, c.mono x fun w (hw : H a = some w) => (key a w rfl hw).1⟩
      · rw [e2] at h
        cases h
        obtain ⟨a, rfl, nf, c⟩ := r
        obtain ⟨u, hu, _⟩ := c.some_of
        obtain ⟨k1, k2⟩ := key a u rfl hu
        exact ⟨a, rfl, k2, c.mono x fun w (hw : H a = some w) => (key a w rfl hw).1⟩
    · rw [out j hj] at h
      exact po.sr.slot j t h
  · have back : ∀ {i : Nat} {t : Sl}, gt (rst ρ (lks ρ xs) ρe) i = some t → t.top = true → ∃ t', gt ρe i = some t' ∧ t'.top = true := fun {i t} k1 k2 => by
      by_cases hj : i ∈ lks ρ xs
      · obtain ⟨d, _, _, e3, _⟩ := lkd i hj
        exact ⟨_, e3, rfl⟩
      · rw [out i hj] at k1
        exact ⟨t, k1, k2⟩
    obtain ⟨t', k1, k2⟩ := back h1 h3
    obtain ⟨u', k3, k4⟩ := back h2 h4
    exact po.sr.dist i j t' u' a k1 k3 k2 k4 h5 h6
  · by_cases hj : j ∈ lks ρ xs
    · obtain ⟨d, e1, e2, e3, e4⟩ := lkd j hj
      rw [e1, e4]
      exact (KpT.refl σ ρ).2 j
    · rw [out j hj]
      refine ⟨fun d h => ?_, fun d h => ?_, fun d h => ?_, fun d h => ?_⟩
      · exact (po.kp.2 j).1 d ((same j d hj (.inr h)).trans h)
      · exact (po.kp.2 j).2.1 d (lk_rd xs h)
      · obtain ⟨d', z⟩ := (po.kp.2 j).2.2.1 d h
        rcases lk_at xs z with y | ⟨_, y, _⟩
        · exact ⟨d', y⟩
        · cases y
      · have z := (po.kp.2 j).2.2.2 d h
        rcases lk_at xs z with y | ⟨d2, y, y2⟩
        · exact y
        · cases y
          have e := same j _ hj y2
          rw [z] at e
          rcases y2 with y2 | y2 <;> (rw [y2] at e; cases e)
/-- the operands of the loop, later -/
theorem ods_later (s : SR M F H σ ρ) (x : Ext F H F' H') (s' : SR M F' H' σ' ρe) : ∀ {xs : List Ov} {vs : List V} {ds : List D}, OvRs M F H σ xs vs → dats ρ xs = some ds → (∀ j t d, j ∈ ats xs → gt ρ j = some t → t.top = true → t.d = d → gt ρe j = some (.rd d) ∧ gv σ' j = gv σ j) → OdRs M F' H' ds vs
  | [], _, _, h, e, _ => by cases e; exact h
  | x1 :: xs, _, ds, ⟨v, r, e1, p, q⟩, e, k => by
    unfold dats at e
    cases e2 : x1.dat ρ with
    | none => rw [e2] at e; cases e
    | some d =>
      cases e3 : dats ρ xs with
      | none => rw [e2, e3] at e; cases e
      | some ds' =>
        rw [e2, e3] at e
        cases e
        refine ⟨v, r, e1, ?_, ods_later s x s' q e3 fun j t d hj => k j t d ?_⟩
        · cases x1 with
          | val d' =>
            cases e2
            exact .inl (Rep.mono x _ p)
          | «at» i =>
            cases e4 : gt ρ i with
            | none => simp only [Ov.dat, e4] at e2; cases e2
            | some t =>
              simp only [Ov.dat, e4] at e2
              cases e2
              obtain ⟨w, hw, rr⟩ := s.slot i t e4
              have p : gv σ i = some v := p
              rw [p] at hw
              cases hw
              by_cases ht : t.top = true
              · obtain ⟨z1, z2⟩ := k i t _ List.mem_cons_self e4 ht rfl
                obtain ⟨w', hw', rr'⟩ := s'.slot i _ z1
                rw [z2, p] at hw'
                cases hw'
                exact rr'.od
              · cases t with
                | val d => exact .inl (Rep.mono x _ rr)
                | own d => exact absurd rfl ht
                | ref d => exact absurd rfl ht
                | rd d => exact absurd rfl ht
        · cases x1 with
          | val d' => exact hj
          | «at» i => exact List.mem_cons_of_mem _ hj
theorem unl_want (s : SR M F H σ ρ) {xs : List Ov} {o : SO} {D : Ends} (h : WantS M W F H σ ρ (unl ρ (lks ρ xs) o) D) : WantS M W F H σ (lk xs ρ) o D := by
  cases o with
  | nx ρ' => exact fun F' H' σ' p => h F' H' σ' (unlock s p)
  | bk ρ' => exact fun F' H' σ' p => h F' H' σ' (unlock s p)
  | ct ρ' => exact fun F' H' σ' p => h F' H' σ' (unlock s p)
  | rt r ρ' =>
    refine fun F' H' σ' v p rt => h F' H' σ' v (unlock s p) ?_
    cases r with
    | val d => exact rt
    | own d =>
      obtain ⟨a, e, nf, z, c⟩ := rt
      exact ⟨a, e, nf, z.imp id fun z => mask_lk.own z, c⟩
  | exc x ρ' => exact fun F' H' σ' cls d p xr => h F' H' σ' cls d (unlock s p) xr
  | bad => exact h
end

section
variable {M : Md} {cs : Cs} {W : WX} {k : Nat} {X : Cx}
theorem for_run {src : Src} {tg : Tg} {body : SS} {K : PySem.W.Frag} (hK : K = M.K) {D : Ends} {σ : St} {H : Hp} (h : tS M W (forS src tg body) D σ H) : tFor (tI M W src) (gT K tg) (tS M W body) D σ H := by
  obtain ⟨F, ρ, s, h⟩ := h
  show tOs M W src.ops σ H fun vs H1 => rIt M src.f vs H1 _
  refine ops_run _ s ((bindS_want h).mono fun xs F1 H1 ρ1 po1 q vs rs => ?_)
  have q := q.step po1.s
  cases e1 : dats ρ1 xs with
  | none => simp only [e1] at q; exact q.elim
  | some ds =>
    simp only [e1] at q
    cases e2 : src.f ds with
    | none => simp only [e2] at q; exact q.elim
    | some items =>
      simp only [e2] at q
      refine ⟨F1, ds, items, po1.sr.dom, rs.od po1.sr e1, e2, fun J wk hz => ?_⟩
      have sm := po1.sr.mask (mask_lk (xs := xs))
      have q := unl_want po1.sr q
      let Pv : Nat → St → Hp → Prop := fun i σ' H' => ∃ F' ρ', PoS M F1 H1 σ (lk xs ρ1) F' H' σ' ρ' ∧ WantS M W F' H' σ' ρ' (loopS tg body (items.drop i) ρ') D
      refine ⟨fun i m σ' H' => m = items.length - i ∧ i ≤ items.length ∧ Pv i σ' H', ⟨items.length, by simp, Nat.zero_le _, F1, lk xs ρ1, .refl sm, q⟩, ?_⟩
      rintro i m σ2 H2 ⟨rfl, hi, F2, ρ2, po2, w2⟩
      have ods : OdRs M F2 H2 ds vs := ods_later po1.sr (sm.ext po2.stp) po2.sr rs e1 fun j t d hj ht top ed => by
        have z : gt (lk xs ρ1) j = some (.rd d) := by
          cases t with
          | val d' => cases top
          | own d' => cases ed; exact lk_own hj (.inl ht)
          | ref d' => cases ed; exact lk_own hj (.inr ht)
          | rd d' => cases ed; exact lk_rd xs ht
        exact (po2.kp.2 j).2.1 d z
      obtain ⟨w3, w4⟩ := wk i F2 H2 po2.sr.dom ods
      by_cases hlt : i < items.length
      · have ed : items[i]? = some items[i] := List.getElem?_eq_getElem hlt
        obtain ⟨go, yl⟩ := w4 _ ed
        refine .inr ⟨go, Pv (i + 1), fun σ' H' p' => ⟨items.length - (i + 1), by omega, rfl, hlt, p'⟩, fun x H' y => ?_⟩
        obtain ⟨F', nw, rx⟩ := yl x H' y
        rw [List.drop_eq_getElem_cons hlt] at w2
        unfold loopS at w2
        have pn := (nw.po po2.sr).s
        cases e3 : put tg items[i] ρ2 with
        | none => simp only [e3] at w2; exact w2.elim
        | some ρ3 =>
          simp only [e3] at w2
          refine put_run hK tg pn.sr rx e3 fun σ3 po3 _ _ => ⟨F', ρ3, po3.sr, ?_⟩
          have w3 := w2.step (pn.trans po3)
          cases e4 : body ρ3 with
          | nx ρ4 =>
            simp only [e4] at w3
            exact fun F4 H4 σ4 po4 => ⟨F4, ρ4, po2.trans (pn.trans (po3.trans po4)), w3.step po4⟩
          | ct ρ4 =>
            simp only [e4] at w3
            exact fun F4 H4 σ4 po4 => ⟨F4, ρ4, po2.trans (pn.trans (po3.trans po4)), w3.step po4⟩
          | bk ρ4 => simp only [e4] at w3; exact w3
          | rt r ρ4 => simp only [e4] at w3; exact w3
          | exc x ρ4 => simp only [e4] at w3; exact w3
          | bad => simp only [e4] at w3; exact w3
      · have e : i = items.length := by omega
        subst e
        rw [List.drop_length] at w2
        exact .inl ⟨w3 (Nat.le_refl _), w2 F2 H2 σ2 (.refl po2.sr)⟩
theorem s_for (g : G M cs W k X) {tg iter : Expr} {body : List Stmt} {pos : Pos} {src : Src} {T : Tg} {b : SS} (hi : PI X tg iter (tI M W src)) (hg : PG X tg (gT X.K T)) (hb : PSs X body (tS M W b)) (hs : ∀ x, foldedSetIterable iter X.env x = pure x) : PS X (.For tg iter body [] pos) (tS M W (forS src T b)) :=
  PS_imp (ps_for g.pass g.calm hi hg hb hs) fun D σ H h => for_run g.hK h
theorem s_while (g : G M cs W k X) {c : Expr} {body : List Stmt} {pos : Pos} {t : BS} {b : SS} (n : Nat) (hc : PT X c (tT M W t)) (hb : PSs X body (tS M W b)) : PS X (.While c body [] pos) (tS M W (whileS t b n)) := by
  refine PS_imp (ps_while g.pass hc hb) fun D σ H h => ⟨fun m σ' H' => tS M W (whileS t b m) D σ' H', ⟨n, h⟩, ?_⟩
  rintro m σ1 H1 ⟨F, ρ, s, h⟩
  cases m with
  | zero => exact h.elim
  | succ m =>
    unfold whileS at h
    refine ⟨F, ρ, s, (bindS_want h).mono fun c F1 H1 ρ1 po z => ?_⟩
    have z := z.step po.s
    cases c with
    | false =>
      simp only [Bool.false_eq_true, if_false] at z ⊢
      exact z F1 H1 _ (.refl po.sr)
    | true =>
      simp only [if_true] at z ⊢
      refine ⟨fun σ' H' => tS M W (whileS t b m) D σ' H', fun σ' H' p => ⟨m, Nat.lt_succ_self _, p⟩, F1, ρ1, po.sr, ?_⟩
      cases e4 : b ρ1 with
      | nx ρ4 => simp only [e4] at z; exact fun F4 H4 σ4 po4 => ⟨F4, ρ4, po4.sr, z.step po4⟩
      | ct ρ4 => simp only [e4] at z; exact fun F4 H4 σ4 po4 => ⟨F4, ρ4, po4.sr, z.step po4⟩
      | bk ρ4 => simp only [e4] at z; exact z
      | rt r ρ4 => simp only [e4] at z; exact z
      | exc x ρ4 => simp only [e4] at z; exact z
      | bad => simp only [e4] at z; exact z
end
end VF

namespace VF
open PySem PySem.Spec PyProof.Rows L2

def mutS {α : Type} (i : Nat) (f : D → Option (α × D)) (ρ : En) : Option (α × En) := match gt ρ i with
  | some (.own d) => (match f d with
    | some (a, d') => some (a, ρ.set i (some (.own d')))
    | none => none)
  | some (.ref d) => (match f d with
    | some (a, d') => some (a, ρ.set i (some (.ref d')))
    | none => none)
  | _ => none
section
variable {M : Md} {F : Addr → Prop} {H : Hp} {σ : St} {ρ ρ' : En}
theorem mut_core (s : SR M F H σ ρ) {i : Nat} {t t' : Sl} {p : Addr} {u : HO} (e : gt ρ i = some t) (ht : (∃ d d', t = .own d ∧ t' = .own d') ∨ ∃ d d', t = .ref d ∧ t' = .ref d') (hv : gv σ i = some (.ref p)) (c : Cont M F H (fun w => w = u) t'.d) : Po M F H σ ρ F (upd H p u) (ρ.set i (some t')) := by
  have hi := gt_lt e
  have top : t.top = true := by rcases ht with ⟨d, d', rfl, rfl⟩ | ⟨d, d', rfl, rfl⟩ <;> rfl
  obtain ⟨b, u0, e1, nf, hp⟩ := s.top_at e top
  rw [hv] at e1
  cases e1
  have mut0 : Mut (some u0) := by
    obtain ⟨v, e2, r⟩ := s.slot i t e
    rw [hv] at e2
    cases e2
    rcases ht with ⟨d, d', rfl, rfl⟩ | ⟨d, d', rfl, rfl⟩ <;>
    · obtain ⟨a, e3, _, c0⟩ := r
      cases e3
      obtain ⟨w, hw, m⟩ := c0.some_of
      have hw : H p = some w := hw
      rw [hp] at hw
      cases hw
      exact m
  have x : Ext F H F (upd H p u) := by
    have ne : ∀ a, F a → a ≠ p := fun a f z => nf (by rw [← z]; exact f)
    refine ⟨fun _ h => h, fun a w f r => ?_, fun a C dx fs f q => by rw [upd_ne (ne a f)]; exact q, fun a vs r => ?_⟩
    · rcases r with r | ⟨o, r⟩
      · exact .inl (by rw [upd_ne (ne a f)]; exact r)
      · exact .inr ⟨o, by rw [upd_ne (ne a f)]; exact r⟩
    · have ne : a ≠ p := fun z => by
        subst z
        rcases r with r | ⟨o, r⟩
        · rw [r] at hp; cases hp; exact mut0
        · rw [r] at hp; cases hp; exact mut0
      rcases r with r | ⟨o, r⟩
      · exact .inl (by rw [upd_ne ne]; exact r)
      · exact .inr ⟨o, by rw [upd_ne ne]; exact r⟩
  have at_p : (∃ d, t = .own d) ∧ OwnAt σ ρ p ∨ (∃ d, t = .ref d) ∧ RefAt σ ρ p := by
    rcases ht with ⟨d, d', rfl, rfl⟩ | ⟨d, d', rfl, rfl⟩
    · exact .inl ⟨⟨d, rfl⟩, i, d, e, hv⟩
    · exact .inr ⟨⟨d, rfl⟩, i, d, e, hv⟩
  have kp : Kp ρ (ρ.set i (some t')) := ⟨by rw [List.length_set], fun j => by
    by_cases hj : i = j
    · subst hj
      rw [gt_set_self hi, e]
      rcases ht with ⟨d, d', rfl, rfl⟩ | ⟨d, d', rfl, rfl⟩ <;> trivial
    · rw [gt_set_ne hj]; exact .refl _⟩
  refine ⟨⟨fun _ h => h, fun a o h1 h2 h3 => ?_, fun a h => ?_, fun a h => .inl h, fun a h => .inl (kp.own h), fun a h => kp.ref h⟩, ⟨by rw [List.length_set]; exact s.len, fun a h => ?_, fun j w h => ?_, fun j k w y a h1 h2 h3 h4 h5 h6 => ?_⟩, kp⟩
  · have ne : a ≠ p := fun z => by
      subst z
      rcases at_p with ⟨_, z⟩ | ⟨_, z⟩
      · exact h2 z
      · exact h3 z
    rw [upd_ne ne]; exact h1
  · by_cases ha : a = p
    · subst ha; rw [upd_same] at h; cases h
    · rw [upd_ne ha] at h; exact h
  · by_cases ha : a = p
    · subst ha; rw [upd_same]; exact fun z => by cases z
    · rw [upd_ne ha]; exact s.dom a h
  · by_cases hj : i = j
    · subst hj
      rw [gt_set_self hi] at h
      cases h
      refine ⟨.ref p, hv, ?_⟩
      have c' : Cont M F (upd H p u) (fun o => upd H p u p = some o) t'.d := c.mono x fun w (hw : w = u) => by rw [hw]; exact upd_same
      rcases ht with ⟨d, d', rfl, rfl⟩ | ⟨d, d', rfl, rfl⟩
      · exact ⟨p, rfl, nf, c'⟩
      · exact ⟨p, rfl, nf, c'⟩
    · rw [gt_set_ne hj] at h
      obtain ⟨v, ev, r⟩ := s.slot j w h
      refine ⟨v, ev, ?_⟩
      have ne : ∀ a, w.top = true → v = .ref a → a ≠ p := fun a hw ea z => by
        subst ea; subst z
        exact hj (s.dist i j t w a e h top hw hv ev)
      cases w with
      | val d => exact Rep.mono x d r
      | own d =>
        obtain ⟨a, rfl, na, c0⟩ := r
        exact ⟨a, rfl, na, c0.mono x fun o (ho : H a = some o) => by rw [upd_ne (ne a rfl rfl)]; exact ho⟩
      | ref d =>
        obtain ⟨a, rfl, na, c0⟩ := r
        exact ⟨a, rfl, na, c0.mono x fun o (ho : H a = some o) => by rw [upd_ne (ne a rfl rfl)]; exact ho⟩
      | rd d =>
        obtain ⟨a, rfl, na, c0⟩ := r
        exact ⟨a, rfl, na, c0.mono x fun o ho => ho.imp (fun z => by rw [upd_ne (ne a rfl rfl)]; exact z) fun ⟨q, z, y⟩ => ⟨q, by rw [upd_ne (ne a rfl rfl)]; exact z, y⟩⟩
  · obtain ⟨w', k1, k2⟩ := kp.top_of h1 h3
    obtain ⟨y', k3, k4⟩ := kp.top_of h2 h4
    exact s.dist j k w' y' a k1 k3 k2 k4 h5 h6
theorem mut_slot (s : SR M F H σ ρ) {α : Type} {i : Nat} {f : D → Option (α × D)} {a : α} (e : mutS i f ρ = some (a, ρ')) : ∃ p d d', gv σ i = some (.ref p) ∧ ¬ F p ∧ f d = some (a, d') ∧ Cont M F H (fun u => H p = some u) d ∧ ∀ u, Cont M F H (fun w => w = u) d' → Po M F H σ ρ F (upd H p u) ρ' := by
  unfold mutS at e
  split at e
  · rename_i d eq
    split at e
    · rename_i a' d' ef
      cases e
      obtain ⟨v, ev, p, rfl, nf, c⟩ := s.slot i _ eq
      exact ⟨p, d, d', ev, nf, ef, c, fun u cu => mut_core s eq (.inl ⟨d, d', rfl, rfl⟩) ev cu⟩
    · cases e
  · rename_i d eq
    split at e
    · rename_i a' d' ef
      cases e
      obtain ⟨v, ev, p, rfl, nf, c⟩ := s.slot i _ eq
      exact ⟨p, d, d', ev, nf, ef, c, fun u cu => mut_core s eq (.inr ⟨d, d', rfl, rfl⟩) ev cu⟩
    · cases e
  · cases e
end

/-! ### x[i] = v of a list, of a dict -/
def stD (v k : D) : D → Option (Unit × D)
  | .lst ds => match k with
    | .int j => (ixN ds.length j).map fun n => ((), .lst (ds.set n v))
    | _ => none
  | _ => none
def storeI (i : Nat) (ix : Opd) (φ : ES) : SS := fun ρ => (φ ρ).bindS fun r ρ1 => ((Opd.sl i).ev ρ1).bindS fun _ ρ1 => (ix.ev ρ1).bindS fun y ρ2 => match y.dat ρ2 with
  | some k => (match mutS i (stD r.d k) ρ2 with
    | some (_, ρ3) => .nx ρ3
    | none => .bad)
  | none => .bad
section
variable {M : Md} {cs : Cs} {W : WX} {k : Nat} {X : Cx}
theorem bindS_op {F : Addr → Prop} {H : Hp} {σ : St} {ρ : En} (s : SR M F H σ ρ) {o : Opd} {f : Ov → En → SO} {D : Ends} {Q' : VK} (h : WantS M W F H σ ρ ((o.ev ρ).bindS f) D)
    (k : ∀ x F1 H1 ρ1 v, Po M F H σ ρ F1 H1 ρ1 → OvR M F1 H1 σ x v → WantS M W F1 H1 σ ρ1 (f x ρ1) D → Q' v H1) : tO M W o σ H Q' :=
  op_run s ((bindS_want h).mono fun x F1 H1 ρ1 po q v rv => k x F1 H1 ρ1 v po rv (q.step po.s))
/-- a slot's value, then more -/
theorem bindS_sl {F : Addr → Prop} {H : Hp} {σ : St} {ρ : En} (s : SR M F H σ ρ) {i : Nat} {f : Ov → En → SO} {D : Ends} {Q' : VK} (h : WantS M W F H σ ρ (((Opd.sl i).ev ρ).bindS f) D)
    (k : ∀ t v, gt ρ i = some t → gv σ i = some v → SlR M F H t v → WantS M W F H σ ρ (f (.at i) ρ) D → Q' v H) : tVar i σ H Q' := by
  cases e : gt ρ i with
  | none => simp only [Opd.ev, e, Out.bindS] at h; exact h.elim
  | some t =>
    simp only [Opd.ev, e, Out.bindS] at h
    obtain ⟨v, hv, r⟩ := s.slot i t e
    exact ⟨v, gv_some hv, k t v e hv r h⟩
theorem bind_sl {F : Addr → Prop} {H : Hp} {σ : St} {ρ : En} (s : SR M F H σ ρ) {i : Nat} {β : Type} {f : Ov → En → Out β} {Q : β → (Addr → Prop) → Hp → En → Prop} {Q' : VK} (h : Want M W F H σ ρ (((Opd.sl i).ev ρ).bind f) Q)
    (k : ∀ t v, gt ρ i = some t → gv σ i = some v → SlR M F H t v → Want M W F H σ ρ (f (.at i) ρ) Q → Q' v H) : tVar i σ H Q' := by
  cases e : gt ρ i with
  | none => simp only [Opd.ev, e, Out.bind] at h; exact h.elim
  | some t =>
    simp only [Opd.ev, e, Out.bind] at h
    obtain ⟨v, hv, r⟩ := s.slot i t e
    exact ⟨v, gv_some hv, k t v e hv r h⟩
theorem RepL_set {M : Md} {F : Addr → Prop} {H : Hp} {d : D} {v : V} (r : Rep M F H d v) : ∀ {ds : List D} {vs : List V} (n : Nat), RepL M F H ds vs → RepL M F H (ds.set n d) (vs.set n v)
  | [], _, _, h => by unfold RepL at h; subst h; exact .nil
  | _ :: _, _, 0, h => by
    unfold RepL at h
    obtain ⟨w, q, rfl, p, l⟩ := h
    exact .cons r l
  | _ :: _, _, n + 1, h => by
    unfold RepL at h
    obtain ⟨w, q, rfl, p, l⟩ := h
    exact .cons p (RepL_set r n l)
theorem s_store (g : G M cs W k X) {i : Nat} {x : Str} {ie e : Expr} {p1 p2 pos : Pos} {ix : Opd} {φ : ES} (hi : cs.N[i]? = some x) (hv : Vis cs.sc x) (hd : (x == ("__debug__" : Str)) = false) (hcd : (x == ("__classdict__" : Str)) = false) (he : PE X e (tE M W φ)) (hix : PE X ie (tO M W ix))
    (ha : ∀ v, assign (.Subscript (.Name x p1) ie p2) X.env v = (do
      let ov ← holding [v] (eval (.Name x p1) X.env)
      let iv ← holding [v, ov] (eval ie X.env)
      standAt p2
      holding [v, ov, iv] (setItem ov iv v)
      release [v, ov, iv] []))
    (hs : swapsWithSole [.Subscript (.Name x p1) ie p2] e pos.line X.env = pure false) (hw : swappedStores [.Subscript (.Name x p1) ie p2] e X.env = pure none) (h1 : (assignEach [.Subscript (.Name x p1) ie p2] X.env).map (·.2) = [assign (.Subscript (.Name x p1) ie p2) X.env]) :
    PS X (.Assign [.Subscript (.Name x p1) ie p2] e pos) (tS M W (storeI i ix φ)) := by
  refine PS_imp (ps_asg he (pg_sub (pe_var (by rw [g.hN]; exact hi) (g.vis hv) hd hcd) hix set_list ha) hs hw h1) fun D σ H ⟨F, ρ, s, h⟩ => tE_of s ((bindS_want h).mono fun r F1 H1 ρ1 po z v rv => ?_)
  obtain ⟨F2, po2, rp, _⟩ := freeze s po rv
  have z := z.step po2.s
  refine bindS_sl po2.sr z fun t w _ ew _ z => ?_
  refine bindS_op po2.sr z fun y F4 H4 ρ4 kv po4 rk z => ?_
  cases e1 : y.dat ρ4 with
  | none => simp only [e1] at z; exact z.elim
  | some kd =>
    simp only [e1] at z
    cases e2 : mutS i (stD r.d kd) ρ4 with
    | none => simp only [e2] at z; exact z.elim
    | some q =>
      obtain ⟨_, ρ5⟩ := q
      simp only [e2] at z
      obtain ⟨p, d, d', ep, nf, ef, c, put⟩ := mut_slot po4.sr e2
      rw [ew] at ep
      cases ep
      unfold stD at ef
      split at ef
      · split at ef
        · obtain ⟨n, en, e3⟩ := Option.map_eq_some_iff.mp ef
          cases e3
          obtain ⟨vs, hp, l⟩ := c
          cases (rk.od po4.sr e1).int
          refine ⟨p, vs, _, n, rfl, rfl, hp, by rw [← l.length]; exact en, ?_⟩
          exact z F4 _ σ (put _ ⟨_, rfl, RepL_set (Rep.mono (po4.ext po2.sr) _ rp) n l⟩).s
        · cases ef
      · cases ef

/-! ### methods that change their object -/
def mutM (T : String) (f : List D → D → Option (D × D)) (i : Nat) (φs : List ES) : ES := fun ρ => ((Opd.sl i).ev ρ).bind fun x ρ0 => match x.dat ρ0 with
  | some d => if d.ty = some T then (evs (φs.map .ex) ρ0).bind fun xs ρ1 => (match vals xs with
    | some ds => (match mutS i (f ds) ρ1 with
      | some (r, ρ2) => .ok (.val r) ρ2
      | none => .bad)
    | none => .bad) else .bad
  | none => .bad
def rMu (M : Md) (f : List D → D → Option (D × D)) : V → List V → Hp → VK → Prop := fun x xs H Q => ∃ F p d ds r d', x = .ref p ∧ ¬ F p ∧ (∀ a, F a → H a ≠ none) ∧ Cont M F H (fun u => H p = some u) d ∧ RepL M F H ds xs ∧ f ds d = some (r, d') ∧
  ∀ u v, Cont M F H (fun w => w = u) d' → Rep M F H r v → Q v (upd H p u)
theorem mut_ext {F : Addr → Prop} {H : Hp} {p : Addr} {u w : HO} (nf : ¬ F p) (hp : H p = some w) (hm : Mut (some w)) : Ext F H F (upd H p u) := by
  have ne : ∀ a, F a → a ≠ p := fun a f z => nf (by rw [← z]; exact f)
  refine ⟨fun _ h => h, fun a w f r => ?_, fun a C dx fs f q => by rw [upd_ne (ne a f)]; exact q, fun a vs r => ?_⟩
  · rcases r with r | ⟨o, r⟩
    · exact .inl (by rw [upd_ne (ne a f)]; exact r)
    · exact .inr ⟨o, by rw [upd_ne (ne a f)]; exact r⟩
  · have ne : a ≠ p := fun z => by
      subst z
      rcases r with r | ⟨o, r⟩
      · rw [r] at hp; cases hp; exact hm
      · rw [r] at hp; cases hp; exact hm
    rcases r with r | ⟨o, r⟩
    · exact .inl (by rw [upd_ne ne]; exact r)
    · exact .inr ⟨o, by rw [upd_ne ne]; exact r⟩
theorem mutM_run {T : String} {f : List D → D → Option (D × D)} {i : Nat} {φs : List ES} {σ : St} {H : Hp} {Q : VK} (h : tE M W (mutM T f i φs) σ H Q) :
    tVar i σ H fun x H1 => ∃ F d, d.ty = some T ∧ OdR M F H1 d x ∧ tOs M W (φs.map .ex) σ H1 fun xs H2 => rMu M f x xs H2 Q := by
  obtain ⟨F, ρ, s, h⟩ := h
  refine bind_sl s h fun t v et ev r q => ?_
  have ed : Ov.dat ρ (.at i) = some t.d := by simp only [Ov.dat, et]; rfl
  simp only [ed] at q
  by_cases ht : t.d.ty = some T
  · rw [if_pos ht] at q
    refine ⟨F, t.d, ht, r.od, ops_run _ s ((Want.bind q).mono fun xs F1 H1 ρ1 po1 q1 vs rs => ?_)⟩
    have q1 := q1 po1
    cases e1 : vals xs with
    | none => simp only [e1] at q1; exact q1.elim
    | some ds =>
      simp only [e1] at q1
      cases e2 : mutS i (f ds) ρ1 with
      | none => simp only [e2] at q1; exact q1.elim
      | some z =>
        obtain ⟨rd, ρ2⟩ := z
        simp only [e2] at q1
        obtain ⟨p, d, d', ep, nf, ef, c, put⟩ := mut_slot po1.sr e2
        rw [ev] at ep
        cases ep
        refine ⟨F1, p, d, ds, rd, d', rfl, nf, po1.sr.dom, c, vals_rep e1 rs, ef, fun u w cu rw' => ?_⟩
        have po2 := put u cu
        exact q1 F1 _ po2 (po1.trans po2) w (Rep.mono (po2.ext po1.sr) _ rw')
  · rw [if_neg ht] at q
    exact q.elim
theorem e_mut0 (g : G M cs W k X) {i : Nat} {x name : Str} {p1 apos cpos : Pos} {T id : String} {f : List D → D → Option (D × D)} (pa : PlainAttrs T) (slot : Slot T name id) (hty : typeOf (.builtin id) = pure (.type "method_descriptor")) (hm : MtR X id (rMu M f)) (hi : cs.N[i]? = some x) (hv : Vis cs.sc x) (hd : (x == ("__debug__" : Str)) = false) (hcd : (x == ("__classdict__" : Str)) = false)
    (hbase : attributeBase (.Name x p1) name X.env (eval (.Name x p1) X.env) = eval (.Name x p1) X.env) (hline : (apos.endLine == cpos.line) = true) : PE X (.Call (.Attribute (.Name x p1) name apos) [] [] cpos) (tE M W (mutM T f i [])) := by
  refine ⟨fun pins s σ H Q I h => ?_⟩
  refine wpAny_Call_method0_late hbase hline (thn ((pe_var (by rw [g.hN]; exact hi) (g.vis hv) hd hcd).run pins s σ H _ I (mutM_run h)) fun v s1 ⟨x, H1, I1, r1, F, d, ht, od, q1⟩ => ?_)
  obtain ⟨h1, h2⟩ := od_type I1 g.hK od r1 ht
  exact ⟨T, id, pa, slot, hty, h1, h2, Calls.callWith_builtin rfl (PySem.evalArgs_none (hm pins s1 σ H1 x [] v [] Q I1 r1 .nil q1))⟩
theorem e_mut (g : G M cs W k X) {i : Nat} {x name : Str} {e : Expr} {es : List Expr} {p1 apos cpos : Pos} {T id : String} {f : List D → D → Option (D × D)} {φs : List ES} (pa : PlainAttrs T) (slot : Slot T name id) (hty : typeOf (.builtin id) = pure (.type "method_descriptor")) (hm : MtR X id (rMu M f)) (hi : cs.N[i]? = some x) (hv : Vis cs.sc x) (hd : (x == ("__debug__" : Str)) = false) (hcd : (x == ("__classdict__" : Str)) = false) (ha : PA X (e :: es) (tOs M W (φs.map .ex)))
    (hbase : attributeBase (.Name x p1) name X.env (eval (.Name x p1) X.env) = eval (.Name x p1) X.env)
    (hfew : ((backTo cpos (starEach (e :: es) X.env)).all (fun x => !x.1) && (backToKw cpos (keywordEach [] X.env)).all (fun x => x.1.isSome)
      && decide ((e :: es).length + ([] : List Keyword).length + (if ([] : List Keyword).isEmpty then 0 else 1) < 30)) = true)
    (hline : (apos.endLine == cpos.line) = true) (hs : starEach (e :: es) X.env = (false, eval e X.env) :: starEach es X.env) (hplain : (backTo cpos (starEach es X.env)).any (·.1) = false) :
    PE X (.Call (.Attribute (.Name x p1) name apos) (e :: es) [] cpos) (tE M W (mutM T f i φs)) := by
  refine ⟨fun pins s σ H Q I h => ?_⟩
  refine wpAny_Call_method_late hbase hfew hline rfl (thn ((pe_var (by rw [g.hN]; exact hi) (g.vis hv) hd hcd).run pins s σ H _ I (mutM_run h)) fun v s1 ⟨x, H1, I1, r1, F, d, ht, od, q1⟩ => ?_)
  obtain ⟨h1, h2⟩ := od_type I1 g.hK od r1 ht
  refine ⟨T, id, pa, slot, hty, h1, h2, ?_⟩
  have hA := ha.run cpos pins s1 σ H1 _ I1 q1
  rw [hs] at hA ⊢
  refine Calls.callWith_builtin (by show (false || (backTo cpos (starEach es X.env)).any (·.1)) = false; rw [hplain] <;> rfl) (Calls.evalArgs_plain ?_)
  exact thn hA fun us s2 ⟨vs, H2, I2, r2, q2⟩ => hm pins s2 σ H2 x vs v us Q I2 r1 r2 q2
def mAppend : List D → D → Option (D × D)
  | [y], .lst ds => if ds.length < sizeLine then some (.non, .lst (ds ++ [y])) else none
  | _, _ => none
theorem m_append : MtR X "list.append" (rMu M mAppend) := fun pins s σ H x xs v us Q I r1 r2 h => by
  obtain ⟨F, p, d, ds, r, d', rfl, nf, hd, c, l, ef, q⟩ := h
  unfold mAppend at ef
  split at ef
  · split at ef
    · rename_i hz
      cases ef
      obtain ⟨vs, hp, lv⟩ := c
      unfold RepL at l
      obtain ⟨y, w, rfl, ry, l⟩ := l
      unfold RepL at l
      subst l
      refine mt_append pins s σ H _ _ v us Q I r1 r2 ⟨p, vs, y, rfl, rfl, hp, by rw [← lv.length]; exact hz, q _ _ ⟨_, rfl, lv.append (.cons ry .nil)⟩ (by unfold Rep; rfl)⟩
    · cases ef
  · cases ef
def mPop : List D → D → Option (D × D)
  | [], .lst ds => (ds[ds.length - 1]?).map fun y => (y, .lst ds.dropLast)
  | [.int i], .lst ds => if -(2 ^ 63) ≤ i ∧ i < 2 ^ 63 then (match seqIndex? i ds.length with
    | some k => (ds[k]?).map fun y => (y, .lst (ds.eraseIdx k))
    | none => none) else none
  | _, _ => none
theorem RepL.dropLast : ∀ {ds : List D} {vs : List V} {F : Addr → Prop} {H : Hp}, RepL M F H ds vs → RepL M F H ds.dropLast vs.dropLast
  | [], _, _, _, h => by unfold RepL at h; subst h; exact .nil
  | [_], _, _, _, h => by
    unfold RepL at h
    obtain ⟨v, r, rfl, p, l⟩ := h
    unfold RepL at l
    subst l
    exact .nil
  | _ :: e :: ds, _, _, _, h => by
    unfold RepL at h
    obtain ⟨v, r, rfl, p, l⟩ := h
    have l' := l
    unfold RepL at l
    obtain ⟨w, r', rfl, p', l⟩ := l
    exact .cons p (RepL.dropLast l')
theorem RepL.eraseIdx : ∀ (n : Nat) {ds : List D} {vs : List V} {F : Addr → Prop} {H : Hp}, RepL M F H ds vs → RepL M F H (ds.eraseIdx n) (vs.eraseIdx n)
  | _, [], _, _, _, h => by unfold RepL at h; subst h; exact .nil
  | 0, _ :: _, _, _, _, h => by
    unfold RepL at h
    obtain ⟨v, r, rfl, p, l⟩ := h
    exact l
  | n + 1, _ :: _, _, _, _, h => by
    unfold RepL at h
    obtain ⟨v, r, rfl, p, l⟩ := h
    exact .cons p (RepL.eraseIdx n l)
theorem m_pop : MtR X "list.pop" (rMu M mPop) := fun pins s σ H x xs v us Q I r1 r2 h => by
  obtain ⟨F, p, d, ds, r, d', rfl, nf, hd, c, l, ef, q⟩ := h
  unfold mPop at ef
  split at ef
  · obtain ⟨y, ey, e2⟩ := Option.map_eq_some_iff.mp ef
    cases e2
    obtain ⟨vs, hp, lv⟩ := c
    unfold RepL at l
    subst l
    obtain ⟨w, hw, rw'⟩ := RepL.get lv ey
    rw [lv.length] at hw
    exact mt_pop pins s σ H _ _ v us Q I r1 r2 ⟨p, vs, w, rfl, rfl, hp, hw, q _ _ ⟨_, rfl, lv.dropLast⟩ rw'⟩
  · split at ef
    · rename_i hz
      split at ef
      · rename_i kk hk
        obtain ⟨y, ey, e2⟩ := Option.map_eq_some_iff.mp ef
        cases e2
        obtain ⟨vs, hp, lv⟩ := c
        unfold RepL at l
        obtain ⟨z, w, rfl, rz, l⟩ := l
        unfold RepL at l
        subst l
        unfold Rep at rz
        subst rz
        obtain ⟨w, hw, rw'⟩ := RepL.get lv ey
        exact mt_popAt pins s σ H _ _ v us Q I r1 r2 ⟨p, vs, _, kk, w, rfl, rfl, hp, hz.1, hz.2, by rw [← lv.length]; exact hk, hw, q _ _ ⟨_, rfl, lv.eraseIdx kk⟩ rw'⟩
      · cases ef
    · cases ef
  · cases ef
end
end VF

namespace VF
open PySem PySem.Spec PyProof.Rows L2

inductive FO where
  | ok (r : Rv) (outs : List Sl)
  | exc (x : Ex) (outs : List Sl)
  | bad
abbrev FSem := List Sl → FO
def WantF (M : Md) (F : Addr → Prop) (H : Hp) (σ : St) (ρ : En) (o : FO) (Q : VK) (E : XK) : Prop := match o with
  | .ok r outs => ∀ F' H' v, Po M F H σ ρ F' H' (outs.map some) → RvR M H F' H' r v → Q v H'
  | .exc x outs => ∀ F' H' cls d, Po M F H σ ρ F' H' (outs.map some) → ExR M F' H' x cls d → E cls d H'
  | .bad => False
def noOwn : Sl → Bool
  | .own _ => false
  | _ => true
/-- what a def promises -/
def spF (M : Md) (np : Nat) (φ : FSem) : Sp := fun vs H Q E => vs.length = np ∧ ∃ F sls, SR M F H (vs.map some) (sls.map some) ∧ sls.all noOwn = true ∧ WantF M F H (vs.map some) (sls.map some) (φ sls) Q E

/-! ### from the body -/
def finA (sls : List Sl) (ρ : En) : List Sl := sls.mapIdx fun i s => match s with
  | .ref d => (match gt ρ i with
    | some (.ref d') => .ref d'
    | _ => .ref d)
  | s => s
def fnS (n : Nat) (b : SS) : FSem := fun sls => match b (sls.map some ++ List.replicate (n - sls.length) none) with
  | .nx ρ => .ok (.val .non) (finA sls ρ)
  | .rt r ρ => .ok r (finA sls ρ)
  | .exc x ρ => .exc x (finA sls ρ)
  | _ => .bad
theorem gt_map {sls : List Sl} {i : Nat} : gt (sls.map some) i = sls[i]? := by
  unfold gt
  rw [List.getElem?_map]
  cases sls[i]? <;> rfl
theorem gv_map {vs : List V} {i : Nat} : gv (vs.map some) i = vs[i]? := by
  unfold gv
  rw [List.getElem?_map]
  cases vs[i]? <;> rfl
theorem gt_pad {ρ : En} {n i : Nat} : gt (ρ ++ List.replicate n none) i = gt ρ i := by
  unfold gt
  by_cases h : i < ρ.length
  · rw [List.getElem?_append_left h]
  · rw [List.getElem?_append_right (by omega), List.getElem?_eq_none (show ρ.length ≤ i by omega), List.getElem?_replicate]
    split <;> rfl
theorem gv_pad {ρ : St} {n i : Nat} : gv (ρ ++ List.replicate n none) i = gv ρ i := by
  unfold gv
  by_cases h : i < ρ.length
  · rw [List.getElem?_append_left h]
  · rw [List.getElem?_append_right (by omega), List.getElem?_eq_none (show ρ.length ≤ i by omega), List.getElem?_replicate]
    split <;> rfl
section
variable {M : Md} {F F' : Addr → Prop} {H H' : Hp}
theorem noOwn_at {sls : List Sl} (h : sls.all noOwn = true) {i : Nat} {d : D} : sls[i]? ≠ some (.own d) := fun e => by
  have z := List.all_eq_true.mp h _ (List.mem_of_getElem? e)
  cases z
/-- a frame's start -/
theorem SR.pad {σ : St} {ρ : En} (s : SR M F H σ ρ) (n : Nat) : SR M F H (σ ++ List.replicate n none) (ρ ++ List.replicate n none) :=
  ⟨by simp [s.len], s.dom, fun i t h => by rw [gt_pad] at h; rw [gv_pad]; exact s.slot i t h, fun i j t u a h1 h2 h3 h4 h5 h6 => by
    rw [gt_pad] at h1 h2; rw [gv_pad] at h5 h6; exact s.dist i j t u a h1 h2 h3 h4 h5 h6⟩
/-- behind a body, by the arguments -/
theorem fin_po {vs : List V} {sls : List Sl} {n : Nat} {σ' : St} {ρ' : En} (s : SR M F H (vs.map some) (sls.map some)) (hno : sls.all noOwn = true)
    (po : PoS M F H (vs.map some ++ List.replicate n none) (sls.map some ++ List.replicate n none) F' H' σ' ρ') : Po M F H (vs.map some) (sls.map some) F' H' ((finA sls ρ').map some) ∧ ∀ a, ¬ OwnAt (vs.map some ++ List.replicate n none) (sls.map some ++ List.replicate n none) a := by
  have no : ∀ a, ¬ OwnAt (vs.map some ++ List.replicate n none) (sls.map some ++ List.replicate n none) a := fun a ⟨i, d, h1, h2⟩ => by
    rw [gt_pad, gt_map] at h1
    exact noOwn_at hno h1
  have x : Ext F H F' H' := (s.pad n).ext po.stp
  have rf : ∀ {a}, RefAt (vs.map some ++ List.replicate n none) (sls.map some ++ List.replicate n none) a → RefAt (vs.map some) (sls.map some) a := fun ⟨i, d, h1, h2⟩ => by
    rw [gt_pad] at h1; rw [gv_pad] at h2
    exact ⟨i, d, h1, h2⟩
  have rf' : ∀ {a}, RefAt (vs.map some) (sls.map some) a → RefAt (vs.map some ++ List.replicate n none) (sls.map some ++ List.replicate n none) a := fun ⟨i, d, h1, h2⟩ => ⟨i, d, by rw [gt_pad]; exact h1, by rw [gv_pad]; exact h2⟩
  -- slot by slot
  have kp : Kp (sls.map some) ((finA sls ρ').map some) := by
    refine ⟨by simp [finA], fun i => ?_⟩
    rw [gt_map, gt_map]
    unfold finA
    rw [List.getElem?_mapIdx]
    cases e : sls[i]? with
    | none => trivial
    | some t =>
      cases t with
      | val d => exact rfl
      | own d => exact absurd e (noOwn_at hno)
      | rd d => exact rfl
      | ref d =>
        simp only [Option.map_some]
        split <;> trivial
  have noO : ∀ a, ¬ OwnAt (vs.map some) ((finA sls ρ').map some) a := fun a h => by
    obtain ⟨i, d, h1, _⟩ := kp.own h
    rw [gt_map] at h1
    exact noOwn_at hno h1
  refine ⟨⟨⟨x.fro, fun a o h1 h2 h3 => po.stp.keep a o h1 (no a) fun z => h3 (rf z), po.stp.dom, fun a h => ?_, fun a h => absurd h (noO a), fun a h => kp.ref h⟩, ⟨by simp [finA]; simpa using s.len, po.sr.dom, fun i t h => ?_, fun i j t u a h1 h2 h3 h4 h5 h6 => ?_⟩, kp⟩, no⟩
  · rcases po.stp.new a h with z | z | z
    · exact .inl z
    · exact .inr (.inl z)
    · exact absurd z (no a)
  · rw [gt_map] at h
    unfold finA at h
    rw [List.getElem?_mapIdx] at h
    obtain ⟨t0, e0, e1⟩ := Option.map_eq_some_iff.mp h
    have g0 : gt (sls.map some) i = some t0 := by rw [gt_map]; exact e0
    have g0' : gt (sls.map some ++ List.replicate n none) i = some t0 := by rw [gt_pad]; exact g0
    obtain ⟨v, hv, r⟩ := s.slot i t0 g0
    refine ⟨v, hv, ?_⟩
    have hv' : gv (vs.map some ++ List.replicate n none) i = some v := by rw [gv_pad]; exact hv
    cases t0 with
    | val d => cases e1; exact Rep.mono x d r
    | own d => exact absurd e0 (noOwn_at hno)
    | rd d =>
      cases e1
      obtain ⟨k1, k2⟩ := (po.kp.2 i).2.1 d g0'
      obtain ⟨w, hw, rw'⟩ := po.sr.slot i _ k1
      rw [k2, hv'] at hw
      cases hw
      exact rw'
    | ref d =>
      obtain ⟨⟨d', k1⟩, k2⟩ := (po.kp.2 i).1 d g0'
      simp only [k1] at e1
      cases e1
      obtain ⟨w, hw, rw'⟩ := po.sr.slot i _ k1
      rw [k2, hv'] at hw
      cases hw
      exact rw'
  · obtain ⟨t', k1, k2⟩ := kp.top_of h1 h3
    obtain ⟨u', k3, k4⟩ := kp.top_of h2 h4
    exact s.dist i j t' u' a k1 k3 k2 k4 h5 h6
/-- a body that runs keeps the promise -/
theorem body_run {b : SS} {N : List Str} {np : Nat} {vs : List V} {Q : VK} {E : XK} (h : spF M np (fnS N.length b) vs H Q E) : tS M (fun cls d _ H => E cls d H) b { nx := fun _ H' => Q .non H', rt := Q } (start N vs) H := by
  obtain ⟨hl, F, sls, s, hno, w⟩ := h
  have e : sls.length = vs.length := by have := s.len; simpa using this.symm
  refine ⟨F, sls.map some ++ List.replicate (N.length - sls.length) none, by unfold L2.start; rw [e]; exact s.pad _, ?_⟩
  unfold L2.start
  rw [e]
  unfold fnS at w
  rw [e] at w
  cases eb : b (sls.map some ++ List.replicate (N.length - vs.length) none) with
  | nx ρ' =>
    simp only [eb] at w
    intro F' H' σ' po
    obtain ⟨po', _⟩ := fin_po s hno po
    exact w F' H' .non po' (by show Rep M F' H' .non .non; unfold Rep; rfl)
  | rt r ρ' =>
    simp only [eb] at w
    intro F' H' σ' v po rt
    obtain ⟨po', no⟩ := fin_po s hno po
    refine w F' H' v po' ?_
    cases r with
    | val d => exact rt
    | own d =>
      obtain ⟨a, e, nf, z, c⟩ := rt
      exact ⟨a, e, nf, z.elim id fun z => absurd z (no a), c⟩
  | exc x ρ' =>
    simp only [eb] at w
    intro F' H' σ' cls d po xr
    obtain ⟨po', _⟩ := fin_po s hno po
    exact w F' H' cls d po' xr
  | bk ρ' => simp only [eb] at w; exact w.elim
  | ct ρ' => simp only [eb] at w; exact w.elim
  | bad => simp only [eb] at w; exact w.elim
end

/-- a def as its callers see it: np parameters, the written part of the defaults dd behind them -/
structure FnV (M : Md) (k : Nat) (x : Str) (np : Nat) (φ : FSem) : Prop where
  ex : ∃ f fd ps, FnOk M.P M.w M.K M.mg M.base (CX M.P M.w) k f fd ps (spF M np φ) ∧ M.mg x = some (.ref f) ∧ PySem.W.keepIn M.K (.ref f) = true ∧ ps.length = np ∧ Binds M.K fd ps []
/-- the rule of a def -/
theorem fn_ok {M : Md} {k : Nat} {x qual : Str} {params : Arguments} {body : List Stmt} {scope : Scope} {kws : List (Str × V)} {dvs : List V} {f : Addr} {fd : FuncData} {N ps : List Str} {b : SS} (F : FunD M.K x qual params body scope dvs kws f fd) (S : FnScope N ps scope)
    (hb : ∀ X W, G M ⟨N, scope, fun _ => true⟩ W k X → PSs X body (tS M W b)) : FnOk M.P M.w M.K M.mg M.base (CX M.P M.w) (k + 1) f fd ps (spF M ps.length (fnS N.length b)) := by
  refine F.ok S (fun vs H Q E h => h.1) fun cdv A outer s H vs Q E hr hsp => ?_
  refine ⟨_, hb _ (fun cls d _ H => E cls d H) ⟨rfl, rfl, rfl, rfl, rfl, rfl, S.nd, rfl, rfl, rfl, takes_of rfl rfl rfl rfl, hr, passes_of rfl⟩, body_run hsp⟩

/-! ### calls -/
def slO (ρ : En) : Ov → Option Sl
  | .val d => some (.val d)
  | .at i => match gt ρ i with
    | some (.own d) => some (.ref d)
    | t => t
def slOs (ρ : En) : List Ov → Option (List Sl)
  | [] => some []
  | x :: xs => match slO ρ x, slOs ρ xs with
    | some s, some ss => some (s :: ss)
    | _, _ => none
def isTop (ρ : En) (i : Nat) : Bool := match gt ρ i with
  | some t => t.top
  | none => false
def tpI (ρ : En) : List Ov → List Nat
  | [] => []
  | .val _ :: xs => tpI ρ xs
  | .at i :: xs => if isTop ρ i then i :: tpI ρ xs else tpI ρ xs
def ndB : List Nat → Bool
  | [] => true
  | i :: r => !r.contains i && ndB r
def look : List Ov → List Sl → Nat → Option D
  | .at i :: xs, .ref d :: ss, j => if i = j then some d else look xs ss j
  | _ :: xs, _ :: ss, j => look xs ss j
  | _, _, _ => none
def bk1 (xs : List Ov) (outs : List Sl) (j : Nat) : Option Sl → Option Sl
  | some (.own d) => (match look xs outs j with
    | some d' => some (.own d')
    | none => some (.own d))
  | some (.ref d) => (match look xs outs j with
    | some d' => some (.ref d')
    | none => some (.ref d))
  | t => t
def back (xs : List Ov) (outs : List Sl) (ρ : En) : En := ρ.mapIdx (bk1 xs outs)
def callF (φ : FSem) (os : List Opd) (dd : List D) : ES := fun ρ => (evs os ρ).bind fun xs0 ρ1 => match slOs ρ1 (xs0 ++ dd.map .val) with
  | some sls => if ndB (tpI ρ1 (xs0 ++ dd.map .val)) = true then (match φ sls with
    | .ok r outs => .ok r (back (xs0 ++ dd.map .val) outs ρ1)
    | .exc x outs => .exc x (back (xs0 ++ dd.map .val) outs ρ1)
    | .bad => .bad) else .bad
  | none => .bad
theorem slOs_get {ρ : En} : ∀ {xs : List Ov} {sls : List Sl} {i : Nat} {s : Sl}, slOs ρ xs = some sls → sls[i]? = some s → ∃ x, xs[i]? = some x ∧ slO ρ x = some s
  | [], _, _, _, e, h => by cases e; cases h
  | x :: xs, sls, i, s, e, h => by
    unfold slOs at e
    cases e1 : slO ρ x with
    | none => rw [e1] at e; cases e
    | some t =>
      cases e2 : slOs ρ xs with
      | none => rw [e1, e2] at e; cases e
      | some ss =>
        rw [e1, e2] at e
        cases e
        cases i with
        | zero => cases h; exact ⟨x, rfl, e1⟩
        | succ i => exact slOs_get (i := i) e2 h
theorem slOs_get' {ρ : En} : ∀ {xs : List Ov} {sls : List Sl} {i : Nat} {x : Ov}, slOs ρ xs = some sls → xs[i]? = some x → ∃ s, sls[i]? = some s ∧ slO ρ x = some s
  | [], _, _, _, e, h => by cases h
  | y :: xs, sls, i, x, e, h => by
    unfold slOs at e
    cases e1 : slO ρ y with
    | none => rw [e1] at e; cases e
    | some t =>
      cases e2 : slOs ρ xs with
      | none => rw [e1, e2] at e; cases e
      | some ss =>
        rw [e1, e2] at e
        cases e
        cases i with
        | zero => cases h; exact ⟨t, rfl, e1⟩
        | succ i => exact slOs_get' (i := i) e2 h
theorem slOs_length {ρ : En} : ∀ {xs : List Ov} {sls : List Sl}, slOs ρ xs = some sls → sls.length = xs.length
  | [], _, e => by cases e; rfl
  | y :: xs, sls, e => by
    unfold slOs at e
    cases e1 : slO ρ y with
    | none => rw [e1] at e; cases e
    | some t =>
      cases e2 : slOs ρ xs with
      | none => rw [e1, e2] at e; cases e
      | some ss =>
        rw [e1, e2] at e
        cases e
        simp [slOs_length e2]
theorem OvRs.get {M : Md} {F : Addr → Prop} {H : Hp} {σ : St} : ∀ {xs : List Ov} {vs : List V} {i : Nat} {x : Ov}, OvRs M F H σ xs vs → xs[i]? = some x → ∃ v, vs[i]? = some v ∧ OvR M F H σ x v
  | [], _, _, _, _, h => by cases h
  | _ :: _, _, 0, _, ⟨v, r, e, p, q⟩, h => by cases h; subst e; exact ⟨v, rfl, p⟩
  | _ :: xs, _, i + 1, _, ⟨v, r, e, p, q⟩, h => by subst e; exact OvRs.get (i := i) q h
theorem OvRs.length {M : Md} {F : Addr → Prop} {H : Hp} {σ : St} : ∀ {xs : List Ov} {vs : List V}, OvRs M F H σ xs vs → vs.length = xs.length
  | [], _, h => by cases h; rfl
  | _ :: _, _, ⟨v, r, e, p, q⟩ => by subst e; simp [OvRs.length q]
theorem tp_mem {ρ : En} {p : Nat} (ht : isTop ρ p = true) : ∀ {xs : List Ov} {j : Nat}, xs[j]? = some (.at p) → p ∈ tpI ρ xs
  | [], _, h => by cases h
  | .val _ :: xs, 0, h => by cases h
  | .val _ :: xs, j + 1, h => tp_mem ht (xs := xs) (j := j) h
  | .at i :: xs, 0, h => by
    cases h
    unfold tpI
    rw [if_pos ht]
    exact List.mem_cons_self
  | .at i :: xs, j + 1, h => by
    unfold tpI
    have z := tp_mem ht (xs := xs) (j := j) h
    split
    · exact List.mem_cons_of_mem _ z
    · exact z
theorem tp_inj {ρ : En} {p : Nat} (ht : isTop ρ p = true) : ∀ {xs : List Ov} {i j : Nat}, ndB (tpI ρ xs) = true → xs[i]? = some (.at p) → xs[j]? = some (.at p) → i = j
  | [], _, _, _, h, _ => by cases h
  | .val _ :: xs, 0, _, _, h, _ => by cases h
  | .val _ :: xs, _ + 1, 0, _, _, h => by cases h
  | .val _ :: xs, i + 1, j + 1, nd, h, h' => congrArg Nat.succ (tp_inj ht (xs := xs) nd h h')
  | .at q :: xs, 0, 0, _, _, _ => rfl
  | .at q :: xs, 0, j + 1, nd, h, h' => by
    cases h
    unfold tpI at nd
    rw [if_pos ht] at nd
    unfold ndB at nd
    have z := tp_mem ht (xs := xs) (j := j) h'
    simp at nd
    exact absurd z nd.1
  | .at q :: xs, i + 1, 0, nd, h, h' => by
    cases h'
    unfold tpI at nd
    rw [if_pos ht] at nd
    unfold ndB at nd
    have z := tp_mem ht (xs := xs) (j := i) h
    simp at nd
    exact absurd z nd.1
  | .at q :: xs, i + 1, j + 1, nd, h, h' => by
    refine congrArg Nat.succ (tp_inj ht (xs := xs) ?_ h h')
    unfold tpI at nd
    split at nd
    · unfold ndB at nd
      simp at nd
      exact nd.2
    · exact nd
theorem look_some {j : Nat} {d : D} : ∀ {xs : List Ov} {ss : List Sl}, look xs ss j = some d → ∃ i : Nat, xs[i]? = some (Ov.at j) ∧ ss[i]? = some (Sl.ref d)
  | [], _, h => by unfold look at h; cases h
  | x :: xs, [], h => by unfold look at h; cases x <;> cases h
  | .val _ :: xs, s :: ss, h => by
    unfold look at h
    obtain ⟨i, h1, h2⟩ := look_some h
    exact ⟨i + 1, h1, h2⟩
  | .at q :: xs, .val _ :: ss, h => by
    unfold look at h
    obtain ⟨i, h1, h2⟩ := look_some h
    exact ⟨i + 1, h1, h2⟩
  | .at q :: xs, .own _ :: ss, h => by
    unfold look at h
    obtain ⟨i, h1, h2⟩ := look_some h
    exact ⟨i + 1, h1, h2⟩
  | .at q :: xs, .rd _ :: ss, h => by
    unfold look at h
    obtain ⟨i, h1, h2⟩ := look_some h
    exact ⟨i + 1, h1, h2⟩
  | .at q :: xs, .ref d' :: ss, h => by
    unfold look at h
    split at h
    · rename_i e
      cases h
      subst e
      exact ⟨0, rfl, rfl⟩
    · obtain ⟨i, h1, h2⟩ := look_some h
      exact ⟨i + 1, h1, h2⟩
theorem look_none {j : Nat} : ∀ {xs : List Ov} {ss : List Sl} {i : Nat} {d : D}, look xs ss j = none → xs[i]? = some (.at j) → ss[i]? ≠ some (.ref d)
  | [], _, _, _, _, h => by cases h
  | x :: xs, [], _, _, _, _ => by simp
  | x :: xs, s :: ss, 0, d, h, h1 => by
    cases h1
    intro h2
    cases h2
    unfold look at h
    rw [if_pos rfl] at h
    cases h
  | x :: xs, s :: ss, i + 1, d, h, h1 => by
    refine look_none (xs := xs) (ss := ss) (i := i) (d := d) ?_ h1
    cases x with
    | val _ => unfold look at h; exact h
    | «at» q =>
      cases s with
      | ref d' =>
        unfold look at h
        split at h
        · cases h
        · exact h
      | val _ => unfold look at h; exact h
      | own _ => unfold look at h; exact h
      | rd _ => unfold look at h; exact h
section
variable {M : Md} {F F' : Addr → Prop} {H H' : Hp} {σ : St} {ρ : En} {xs : List Ov} {vs : List V} {sls : List Sl}
/-- a top argument is a top slot -/
theorem slO_top {x : Ov} {s : Sl} (e : slO ρ x = some s) (ht : s.top = true) : ∃ p t, x = .at p ∧ gt ρ p = some t ∧ t.top = true ∧ t.d = s.d ∧ ((∃ d, s = .rd d) → t = s) ∧ ((∃ d, s = .ref d) → t = .own s.d ∨ t = .ref s.d) := by
  cases x with
  | val d => cases e; cases ht
  | «at» p =>
    unfold slO at e
    cases e1 : gt ρ p with
    | none => simp only [e1] at e; cases e
    | some t =>
      refine ⟨p, t, rfl, e1, ?_⟩
      cases t with
      | val d => simp only [e1] at e; cases e; cases ht
      | own d => simp only [e1] at e; cases e; exact ⟨rfl, rfl, fun ⟨_, z⟩ => (by cases z), fun _ => .inl rfl⟩
      | ref d => simp only [e1] at e; cases e; exact ⟨rfl, rfl, fun ⟨_, z⟩ => (by cases z), fun _ => .inr rfl⟩
      | rd d => simp only [e1] at e; cases e; exact ⟨rfl, rfl, fun _ => rfl, fun ⟨_, z⟩ => (by cases z)⟩
theorem args_sr (s : SR M F H σ ρ) (rs : OvRs M F H σ xs vs) (e : slOs ρ xs = some sls) (nd : ndB (tpI ρ xs) = true) : SR M F H (vs.map some) (sls.map some) ∧ sls.all noOwn = true := by
  refine ⟨⟨by simp [rs.length, slOs_length e], s.dom, fun i t h => ?_, fun i j t u a h1 h2 h3 h4 h5 h6 => ?_⟩, List.all_eq_true.mpr fun t ht => ?_⟩
  · rw [gt_map] at h
    rw [gv_map]
    obtain ⟨x, h1, h2⟩ := slOs_get e h
    obtain ⟨v, h3, h4⟩ := rs.get h1
    refine ⟨v, h3, ?_⟩
    cases x with
    | val d => cases h2; exact h4
    | «at» p =>
      have h4 : gv σ p = some v := h4
      unfold slO at h2
      cases e1 : gt ρ p with
      | none => simp only [e1] at h2; cases h2
      | some t0 =>
        obtain ⟨w, hw, r⟩ := s.slot p t0 e1
        rw [h4] at hw
        cases hw
        cases t0 with
        | val d => simp only [e1] at h2; cases h2; exact r
        | own d => simp only [e1] at h2; cases h2; exact r
        | ref d => simp only [e1] at h2; cases h2; exact r
        | rd d => simp only [e1] at h2; cases h2; exact r
  · rw [gt_map] at h1 h2
    rw [gv_map] at h5 h6
    obtain ⟨x, k1, k2⟩ := slOs_get e h1
    obtain ⟨y, k3, k4⟩ := slOs_get e h2
    obtain ⟨p, t0, rfl, g1, g2, _⟩ := slO_top k2 h3
    obtain ⟨q, u0, rfl, g3, g4, _⟩ := slO_top k4 h4
    obtain ⟨v, l1, l2⟩ := rs.get k1
    obtain ⟨w, l3, l4⟩ := rs.get k3
    rw [h5] at l1
    rw [h6] at l3
    cases l1
    cases l3
    have epq := s.dist p q t0 u0 a g1 g3 g2 g4 l2 l4
    subst epq
    exact tp_inj (by unfold isTop; rw [g1]; exact g2) nd k1 k3
  · obtain ⟨i, hi⟩ := List.getElem?_of_mem ht
    obtain ⟨x, h1, h2⟩ := slOs_get e hi
    cases x with
    | val d => cases h2; rfl
    | «at» p =>
      unfold slO at h2
      cases e1 : gt ρ p with
      | none => simp only [e1] at h2; cases h2
      | some t0 => cases t0 with
        | val d => simp only [e1] at h2; cases h2; rfl
        | own d => simp only [e1] at h2; cases h2; rfl
        | ref d => simp only [e1] at h2; cases h2; rfl
        | rd d => simp only [e1] at h2; cases h2; rfl
theorem back_po (s : SR M F H σ ρ) (rs : OvRs M F H σ xs vs) (e : slOs ρ xs = some sls) (nd : ndB (tpI ρ xs) = true) {outs : List Sl} (po : Po M F H (vs.map some) (sls.map some) F' H' (outs.map some)) : Po M F H σ ρ F' H' (back xs outs ρ) := by
  obtain ⟨sa, hno⟩ := args_sr s rs e nd
  have x : Ext F H F' H' := sa.ext po.stp
  have no : ∀ a, ¬ OwnAt (vs.map some) (sls.map some) a := fun a ⟨i, d, h1, _⟩ => by
    rw [gt_map] at h1
    exact noOwn_at hno h1
  -- what is passed to be changed is one's own or a caller's
  have rf : ∀ {a}, RefAt (vs.map some) (sls.map some) a → ∃ p t, ∃ i : Nat, xs[i]? = some (Ov.at p) ∧ gt ρ p = some t ∧ (∃ d, t = .own d ∨ t = .ref d) ∧ gv σ p = some (.ref a) := fun {a} ⟨i, d, h1, h2⟩ => by
    rw [gt_map] at h1
    rw [gv_map] at h2
    obtain ⟨y, k1, k2⟩ := slOs_get e h1
    obtain ⟨p, t, rfl, g1, g2, g3, _, g5⟩ := slO_top k2 rfl
    obtain ⟨v, l1, l2⟩ := rs.get k1
    rw [h2] at l1
    cases l1
    exact ⟨p, t, i, k1, g1, ⟨_, g5 ⟨d, rfl⟩⟩, l2⟩
  have gb : ∀ j, gt (back xs outs ρ) j = bk1 xs outs j (gt ρ j) := fun j => by
    unfold gt back
    rw [List.getElem?_mapIdx]
    cases ρ[j]? with
    | none => rfl
    | some t => rfl
  have kp : Kp ρ (back xs outs ρ) := by
    refine ⟨by simp [back], fun j => ?_⟩
    rw [gb]
    cases e1 : gt ρ j with
    | none => trivial
    | some t =>
      cases t with
      | val d => exact rfl
      | rd d => exact rfl
      | own d => unfold bk1; dsimp only; split <;> trivial
      | ref d => unfold bk1; dsimp only; split <;> trivial
  have nr : ∀ j t a, gt ρ j = some t → t.top = true → gv σ j = some (.ref a) → (∀ i : Nat, xs[i]? = some (Ov.at j) → ∃ d, t = .rd d) → ¬ RefAt (vs.map some) (sls.map some) a := fun j t a h1 h2 h3 h4 z => by
    obtain ⟨p, t', i, k1, k2, ⟨d, k3⟩, k4⟩ := rf z
    have top' : t'.top = true := by rcases k3 with rfl | rfl <;> rfl
    have ep := s.dist p j t' t a k2 h1 top' h2 k4 h3
    subst ep
    rw [h1] at k2
    cases k2
    obtain ⟨d', z⟩ := h4 i k1
    rcases k3 with k3 | k3 <;> (rw [z] at k3; cases k3)
  have kept : ∀ j t a u, gt ρ j = some t → t.top = true → gv σ j = some (.ref a) → H a = some u → (∀ i : Nat, xs[i]? = some (Ov.at j) → ∃ d, t = .rd d) → H' a = some u ∧ ¬ F' a := fun j t a u h1 h2 h3 h4 h5 => by
    refine ⟨po.stp.keep a u h4 (no a) (nr j t a h1 h2 h3 h5), fun z => ?_⟩
    rcases po.stp.new a z with y | y | y
    · obtain ⟨b, w, e2, nf, _⟩ := s.top_at h1 h2
      rw [h3] at e2
      cases e2
      exact nf y
    · rw [h4] at y; cases y
    · exact no a y
  refine ⟨⟨x.fro, fun a o h1 h2 h3 => po.stp.keep a o h1 (no a) fun z => ?_, po.stp.dom, fun a h => ?_, fun a h => .inl (kp.own h), fun a h => kp.ref h⟩, ⟨by simp [back, s.len], po.sr.dom, fun j t h => ?_, fun i j t u a h1 h2 h3 h4 h5 h6 => ?_⟩, kp⟩
  · obtain ⟨p, t, i, k1, k2, ⟨d, k3⟩, k4⟩ := rf z
    rcases k3 with rfl | rfl
    · exact h2 ⟨p, d, k2, k4⟩
    · exact h3 ⟨p, d, k2, k4⟩
  · rcases po.stp.new a h with z | z | z
    · exact .inl z
    · exact .inr (.inl z)
    · exact absurd z (no a)
  · rw [gb] at h
    cases e1 : gt ρ j with
    | none => rw [e1] at h; cases h
    | some t0 =>
      rw [e1] at h
      obtain ⟨v, hv, r⟩ := s.slot j t0 e1
      refine ⟨v, hv, ?_⟩
      -- a changed slot
      have chg : ∀ d', look xs outs j = some d' → ∃ a, v = .ref a ∧ ¬ F' a ∧ Cont M F' H' (fun u => H' a = some u) d' := fun d' el => by
        obtain ⟨i, k1, k2⟩ := look_some el
        obtain ⟨w, l1, l2⟩ := rs.get k1
        have l2 : gv σ j = some w := l2
        rw [hv] at l2
        cases l2
        obtain ⟨w2, m1, a, m2, m3, m4⟩ := po.sr.slot i (.ref d') (by rw [gt_map]; exact k2)
        rw [gv_map, l1] at m1
        cases m1
        exact ⟨a, m2, m3, m4⟩
      have unp : look xs outs j = none → (∃ d, t0 = .own d ∨ t0 = .ref d) → ∀ i : Nat, xs[i]? = some (Ov.at j) → ∃ d, t0 = .rd d := fun el ⟨d, ho⟩ i hi => by
        exfalso
        obtain ⟨sl, k1, k2⟩ := slOs_get' e hi
        have es : sl = .ref d := by
          unfold slO at k2
          rcases ho with rfl | rfl
          · simp only [e1] at k2; cases k2; rfl
          · simp only [e1] at k2; cases k2; rfl
        subst es
        have z := po.kp.2 i
        rw [gt_map, gt_map, k1] at z
        cases e3 : outs[i]? with
        | none => rw [e3] at z; exact z
        | some o =>
          rw [e3] at z
          cases o with
          | ref d' => exact look_none el hi e3
          | val _ => exact z
          | own _ => exact z
          | rd _ => exact z
      cases t0 with
      | val d => cases h; exact Rep.mono x d r
      | rd d =>
        cases h
        obtain ⟨a, rfl, nf, c⟩ := r
        obtain ⟨b, u, e2, _, hu⟩ := s.top_at e1 rfl
        rw [hv] at e2
        cases e2
        obtain ⟨k1, k2⟩ := kept j _ a u e1 rfl hv hu fun _ _ => ⟨d, rfl⟩
        refine ⟨a, rfl, k2, c.mono x fun w hw => ?_⟩
        rcases hw with hw | ⟨o, hw, z⟩
        · rw [hu] at hw; cases hw; exact .inl k1
        · rw [hu] at hw; cases hw; exact .inr ⟨o, k1, z⟩
      | own d =>
        unfold bk1 at h
        dsimp only at h
        split at h
        · rename_i d' el
          cases h
          exact chg d' el
        · rename_i el
          cases h
          obtain ⟨a, rfl, nf, c⟩ := r
          obtain ⟨u, hu, _⟩ := c.some_of
          obtain ⟨k1, k2⟩ := kept j _ a u e1 rfl hv hu (unp el ⟨d, .inl rfl⟩)
          exact ⟨a, rfl, k2, c.mono x fun w (hw : H a = some w) => by
            have hu : H a = some u := hu
            rw [hu] at hw; cases hw; exact k1⟩
      | ref d =>
        unfold bk1 at h
        dsimp only at h
        split at h
        · rename_i d' el
          cases h
          exact chg d' el
        · rename_i el
          cases h
          obtain ⟨a, rfl, nf, c⟩ := r
          obtain ⟨u, hu, _⟩ := c.some_of
          obtain ⟨k1, k2⟩ := kept j _ a u e1 rfl hv hu (unp el ⟨d, .inr rfl⟩)
          exact ⟨a, rfl, k2, c.mono x fun w (hw : H a = some w) => by
            have hu : H a = some u := hu
            rw [hu] at hw; cases hw; exact k1⟩
  · obtain ⟨t', k1, k2⟩ := kp.top_of h1 h3
    obtain ⟨u', k3, k4⟩ := kp.top_of h2 h4
    exact s.dist i j t' u' a k1 k3 k2 k4 h5 h6
theorem OvRs.append {xs ys : List Ov} {vs ws : List V} : ∀ {xs : List Ov} {vs : List V}, OvRs M F H σ xs vs → OvRs M F H σ ys ws → OvRs M F H σ (xs ++ ys) (vs ++ ws)
  | [], _, h, q => by cases h; exact q
  | _ :: _, _, ⟨v, r, e, p, q⟩, h => by subst e; exact ⟨v, r ++ ws, rfl, p, OvRs.append (xs := xs) (vs := vs) q h⟩
end
/-- constants, wherever they stand -/
def ConstD (M : Md) : List D → List V → Prop
  | [], vs => vs = []
  | d :: ds, vs => ∃ v r, vs = v :: r ∧ (∀ F H, Rep M F H d v) ∧ ConstD M ds r
theorem ConstD.ov {M : Md} {F : Addr → Prop} {H : Hp} {σ : St} : ∀ {ds : List D} {vs : List V}, ConstD M ds vs → OvRs M F H σ (ds.map .val) vs
  | [], _, h => h
  | _ :: _, _, ⟨v, r, e, p, q⟩ => ⟨v, r, e, p F H, ConstD.ov q⟩
section
variable {M : Md} {cs : Cs} {W : WX} {k : Nat} {X : Cx}
theorem callF_run {np : Nat} {φ : FSem} {os : List Opd} {dd : List D} {dvs : List V} {σ : St} {H : Hp} {Q : VK} (cd : ConstD M dd dvs) (hn : os.length + dd.length = np) (h : tE M W (callF φ os dd) σ H Q) :
    tOs M W os σ H fun vs H1 => spF M np φ (vs ++ dvs) H1 Q fun cls d H' => W cls d σ H' := by
  obtain ⟨F, ρ, s, h⟩ := h
  refine ops_run _ s ?_
  cases ev : evs os ρ with
  | bad => simp only [callF, ev] at h; exact h
  | exc x ρ' => simp only [callF, ev] at h; exact h
  | ok xs ρ1 =>
    simp only [callF, ev, Out.bind] at h
    intro F1 H1 po vs rs
    cases e1 : slOs ρ1 (xs ++ dd.map .val) with
    | none => simp only [e1] at h; exact h.elim
    | some sls =>
      simp only [e1] at h
      by_cases nd : ndB (tpI ρ1 (xs ++ dd.map .val)) = true
      · rw [if_pos nd] at h
        have rs' : OvRs M F1 H1 σ (xs ++ dd.map .val) (vs ++ dvs) := OvRs.append (xs := xs) (vs := vs) rs cd.ov
        obtain ⟨sa, hno⟩ := args_sr po.sr rs' e1 nd
        have hlen : (vs ++ dvs).length = np := by
          rw [rs'.length, List.length_append, List.length_map, evs_length ev]
          exact hn
        refine ⟨hlen, F1, sls, sa, hno, ?_⟩
        cases ef : φ sls with
        | bad => simp only [ef] at h; exact h
        | ok r outs =>
          simp only [ef] at h
          intro F2 H2 v po2 rv
          exact h F2 H2 (po.trans (back_po po.sr rs' e1 nd po2)) v (rv.from fun a z => po.stp.dom a z)
        | exc x outs =>
          simp only [ef] at h
          intro F2 H2 cls d po2 xr
          exact h F2 H2 cls d (po.trans (back_po po.sr rs' e1 nd po2)) xr
      · rw [if_neg nd] at h
        exact h.elim
/-- the callee runs (what it lets out is wanted by the state of the names) -/
theorem run_fnW {CX' : CXT} {f : Addr} {fd : FuncData} {ps : List Str} {sp : Sp} {ds : List Value} {pins : List (Addr × Obj)} {σ : St} {H : Hp} {s : Shared} {Q : VK} {us : List Value} {vs dvs : List V} (F : FnOk X.prog X.w X.K X.mg X.base (CX X.prog X.w) k f fd ps sp) (hr : Room k X.A) (hb : Binds X.K fd ps ds) (hd : Vals dvs ds) (tk : Takes X W)
    (I : Inv X pins σ H s) (r : Vals vs us) (h : sp (vs ++ dvs) H Q fun cls d H' => W cls d σ H') : wpAny (model X.prog X.w) X.A (call (.ref f) us) (EP X pins σ Q) X.xe s := by
  have r2 : Vals (vs ++ dvs) (us ++ ds) := r.append hd
  have hl : (us ++ ds).length = ps.length := by rw [← r2.length]; exact F.len _ _ _ _ h
  refine wpAny_call (codeAny_mono (F.run X.A X.stack s H ⟨us, []⟩ (us ++ ds) (vs ++ dvs) Q _ hr I.env0 (hb s us I.kIn hl) r2 h) fun r s' hq => ?_)
  cases r with
  | error e => exact tk e s' (XE.of_call I (fun cls d H' h => h) hq)
  | ok fl =>
    cases fl with
    | ret u => exact I.after hq
    | next => exact False.elim hq
    | brk => exact False.elim hq
    | cont => exact False.elim hq
theorem e_call (g : G M cs W k X) {j np : Nat} {x : Str} {φ : FSem} {p pos : Pos} {e : Expr} {es : List Expr} {os : List Opd} (fv : FnV M j x np φ) (hj : j ≤ k) (hg : cs.sc.names.lookup x = some .globalImplicit) (ha : PA X (e :: es) (tOs M W os)) (hn : os.length = np) (hdb : (x == ("__debug__" : Str)) = false)
    (he : starEach (e :: es) X.env = (false, eval e X.env) :: starEach es X.env) (hpl : (backTo pos (starEach es X.env)).any (·.1) = false) : PE X (.Call (.Name x p) (e :: es) [] pos) (tE M W (callF φ os [])) := by
  obtain ⟨f, fd, ps, F, hm, hk, hps, hb⟩ := fv.ex
  rw [← g.hP, ← g.hw, ← g.hb, ← g.hK, ← g.hmg] at F
  rw [← g.hmg] at hm
  rw [← g.hK] at hk hb
  refine ⟨fun pins s σ H Q I h => ?_⟩
  refine wpAny_Call_Name_kw (ld_glob I (g.gl hg) hm ?_ hdb)
  refine PySem.W.callWith_K (h₀ := X.base) I.ok.mod.kin hk (thn (ha.run pos pins s σ H _ I (callF_run (np := np) (dd := []) (dvs := []) rfl (by simpa using hn) h)) fun us s1 ⟨vs, H1, I1, r, q⟩ => ⟨I1.kIn, ?_⟩) he hpl
  exact run_fnW (CX' := CX X.prog X.w) (F.mono hj) g.room hb .nil g.tk I1 r q
theorem e_call0 (g : G M cs W k X) {j : Nat} {x : Str} {φ : FSem} {p pos : Pos} (fv : FnV M j x 0 φ) (hj : j ≤ k) (hg : cs.sc.names.lookup x = some .globalImplicit) (hdb : (x == ("__debug__" : Str)) = false) : PE X (.Call (.Name x p) [] [] pos) (tE M W (callF φ [] [])) := by
  obtain ⟨f, fd, ps, F, hm, hk, hps, hb⟩ := fv.ex
  rw [← g.hP, ← g.hw, ← g.hb, ← g.hK, ← g.hmg] at F
  rw [← g.hmg] at hm
  rw [← g.hK] at hk hb
  refine ⟨fun pins s σ H Q I h => ?_⟩
  refine wpAny_Call_Name_kw (ld_glob I (g.gl hg) hm ?_ hdb)
  exact PySem.W.callWith_K0 I.kIn hk (run_fnW (us := []) (CX' := CX X.prog X.w) (F.mono hj) g.room hb .nil g.tk I .nil (callF_run (os := []) (dd := []) (dvs := []) rfl rfl h))
end
end VF

namespace VF
open PySem PySem.Spec PyProof.Rows L2

/-! ### isinstance with a built-in class -/
def D.tyName : D → Option String
  | .non => some "NoneType"
  | .bl _ => some "bool"
  | .int _ => some "int"
  | .str _ => some "str"
  | .tup _ => some "tuple"
  | .lst _ => some "list"
  | .dck _ _ => some "dict"
  | .dct _ _ => none
  | .ins _ _ _ => none
def isB (T : String) (d : D) : Option Bool := match d.tyName with
  | some t => kitB t T
  | none => none
def fIsi (T : String) : List D → Option Rv
  | [d] => (isB T d).map fun b => .val (.bl b)
  | _ => none
section
variable {M : Md} {cs : Cs} {W : WX} {k : Nat} {X : Cx}
theorem od_ty {F : Addr → Prop} {H : Hp} {d : D} {v : V} {t : String} (h : OdR M F H d v) (e : d.tyName = some t) (hK : X.K = M.K) : TyX X.K H v (.type t) := by
  cases d with
  | non => cases h.non; cases e; exact .base .non
  | bl b => cases h.bl; cases e; exact .base (.bl b)
  | int b => cases h.int; cases e; exact .base (.int b)
  | str b => cases h.str; cases e; exact .base (.str b)
  | tup ds =>
    obtain ⟨a, vs, rfl, q, _⟩ := h.tup
    cases e
    rcases q with (q | ⟨o, q⟩) | ⟨o, its, n, q1, q2, _⟩
    · exact .base (.tup q)
    · exact .fTuple q
    · exact .kTuple (by rw [hK]; exact q1) q2
  | lst ds =>
    obtain ⟨a, vs, rfl, q, _⟩ := h.lst
    cases e
    rcases q with (q | ⟨o, q⟩) | ⟨o, its, n, q1, q2, _⟩
    · exact .base (.lst q)
    · exact .base (.frz q)
    · exact .kList (by rw [hK]; exact q1) q2
  | dck ks ds =>
    obtain ⟨a, vs, rfl, q, _, _⟩ := h.dck
    cases e
    rcases q with q | ⟨o, q⟩
    · exact .base (.dK q)
    · exact .fDict q
  | dct ks ds => cases e
  | ins c fs ds => cases e
theorem e_isi (g : G M cs W k X) {c : Str} {T : String} {p p2 pos : Pos} {e : Expr} {o : Opd} (hg : cs.sc.names.lookup ("isinstance" : Str) = some .globalImplicit) (hm : M.mg "isinstance" = none) (hgc : cs.sc.names.lookup c = some .globalImplicit) (hmc : M.mg c = none) (hvc : bootBuiltins c = some (.type T)) (hnc : c ≠ "__name__") (hdc : (c == ("__debug__" : Str)) = false) (ho : PE X e (tO M W o))
    (he : starEach [e, .Name c p2] X.env = (false, eval e X.env) :: starEach [.Name c p2] X.env) : PE X (.Call (.Name "isinstance" p) [e, .Name c p2] [] pos) (tE M W (app (fIsi T) [o])) := by
  refine PE_imp (pe_callB call_isi (g.gl hg) (by rw [g.hmg]; exact hm) boot_isinstance (pa_cons ho (pa_cons (pe_bltn (v := .ty T) (g.gl hgc) (by rw [g.hmg]; exact hmc) hvc rfl hnc hdc) pa_nil rfl) he) (by decide) rfl he rfl) fun σ H Q h => ?_
  obtain ⟨F, ρ, s, h⟩ := h
  have h1 : Want M W F H σ ρ ((o.ev ρ).bind fun x ρ' => match x.dat ρ' with | some d => (match fIsi T [d] with | some r => .ok r ρ' | none => .bad) | none => .bad) (fun r F' H' _ => ∀ v, RvR M H F' H' r v → Q v H') := by
    have e : app (fIsi T) [o] ρ = ((o.ev ρ).bind fun x ρ' => match x.dat ρ' with | some d => (match fIsi T [d] with | some r => .ok r ρ' | none => .bad) | none => .bad) := by
      simp only [app, evs]
      cases o.ev ρ with
      | bad => rfl
      | exc x ρ' => rfl
      | ok x ρ' =>
        simp only [Out.bind, dats]
        cases x.dat ρ' <;> rfl
    rw [← e]
    exact h
  refine op_bind s h1 fun x F1 H1 ρ1 v po rv q => ?_
  cases e1 : x.dat ρ1 with
  | none => simp only [e1] at q; exact q.elim
  | some d =>
    simp only [e1] at q
    cases e2 : fIsi T [d] with
    | none => simp only [e2] at q; exact q.elim
    | some r =>
      simp only [e2] at q
      obtain ⟨b, eb, er⟩ := Option.map_eq_some_iff.mp (show (isB T d).map (fun b => Rv.val (.bl b)) = some r from e2)
      subst er
      unfold isB at eb
      cases et : d.tyName with
      | none => rw [et] at eb; cases eb
      | some t =>
        rw [et] at eb
        exact ⟨v, .ty T, .type t, .type T, b, rfl, .ty T, od_ty (rv.od po.sr e1) et g.hK, kit_ty eb, q F1 H1 (.refl po.sr) po _ (rep_bl _)⟩
/-! ### an empty dict -/
def mkD (_ : List D) : Rv := .own (.dck [] [])
theorem e_dict0 {pos : Pos} : PE X (.Dict [] [] pos) (tE M W (disp mkD [])) :=
  PE_imp pe_dnewK fun σ H Q ⟨F, ρ, s, h⟩ => fun p hp => h F _ ((New.laid s.dom hp).po s) (.ref p) ⟨p, rfl, fun z => s.dom p z hp, hp, [], upd_same, rfl, by unfold RepL; rfl⟩
end
end VF

namespace VF
open PySem PySem.Spec PyProof.Rows L2

theorem RepL_ints {M : Md} {F : Addr → Prop} {H : Hp} : ∀ ns : List Int, RepL M F H (ns.map D.int) (ns.map V.int)
  | [] => .nil
  | n :: ns => .cons (by unfold Rep; rfl) (RepL_ints ns)
/-- the script as the law's def is given it -/
theorem script_sp {M : Md} {φ : FSem} {H : Hp} {a : Addr} {ns : List Int} (hO : Only H) (hS : SqL M.K H a (ns.map V.int)) {outs : List Sl} (e : φ [.val (.lst (ns.map .int))] = .ok (.val (.bl true)) outs) : spF M 1 φ [.ref a] H (fun v _ => v = .bl true) fun _ _ _ => False := by
  refine ⟨rfl, fun b => H b ≠ none, [.val (.lst (ns.map .int))], ⟨rfl, fun b h => h, fun i t h => ?_, fun i j t u b h1 h2 h3 => ?_⟩, rfl, ?_⟩
  · cases i with
    | zero =>
      cases h
      refine ⟨.ref a, rfl, ?_⟩
      show Rep M _ H (.lst (ns.map .int)) (.ref a)
      unfold Rep
      refine ⟨a, ns.map V.int, rfl, ?_, RepL_ints ns⟩
      rcases hS with hS | hS
      · refine .inl ⟨fun z => ?_, hS⟩
        rcases hS with hS | ⟨o, hS⟩ <;> (rw [z] at hS; cases hS)
      · exact .inr hS
    | succ i => cases h
  · cases i with
    | zero => cases h1; cases h3
    | succ i => cases h1
  · rw [e]
    intro F' H' v po rv
    have rv : Rep M F' H' (.bl true) v := rv
    unfold Rep at rv
    exact rv
theorem walk_ofV {l : PySem.W.OpenLaw} {n k : Nat} {q : Program} {loose : List Str} {XP : (Str → Option Value) → Heap → Prop} {YP : World → Heap → Prop} {d : DefRec} {x : Str} {φ : FSem}
    (hn : l.most = some n) (hn2 : n ≤ sizeLine) (hdf : d.params.defaults = []) (hr : Room k callerA)
    (F : ∀ (w : World) (mg : Str → Option Value) (fa : Addr) (h : Heap), YP w h → h.Ns mainGlobals mg → mg d.name = some (.ref fa) →
      ∃ (K : PySem.W.Frag) (fd : FuncData) (cls : List Str), K.In h ∧ (∀ (s : Shared) (u : Value), BindsTo s fd ⟨[u], []⟩ [(x, u)]) ∧
        ∀ base : Heap, K.In base → base.Ns mainGlobals mg → FnOk l.prog w K mg base (CX l.prog w) k fa fd [x] (spF ⟨l.prog, w, base, K, mg, cls⟩ 1 φ))
    (hφ : ∀ ns : List Int, ns.length ≤ n → (∀ z ∈ ns, Builtin.Int.intBits z ≤ 1048576) → ∃ outs, φ [.val (.lst (ns.map .int))] = .ok (.val (.bl true)) outs) :
    PySem.W.WalkO q loose XP YP l.row.toRowW d [] (fun f vs => PySem.call f vs) := by
  refine Att.attach_callB hn hdf fun w s₀ s₁ mg mb fa o pm cd doc a vs ns G Y ho hd hcd hmg hobj hints hlen hbits hg => ?_
  obtain ⟨K, fd, cls, KX, hb, hF⟩ := F w mg fa _ Y G.T.g hmg
  refine law_call (sp := fun vs H Q E => ∀ base : Heap, spF ⟨l.prog, w, base, K, mg, cls⟩ 1 φ vs H Q E) KX G.T.g G.T.b G.T.builtins G.T.nolimit hg hobj hints (Nat.le_trans hlen hn2) hr (fun base h1 h2 => (hF base h1 h2).imp fun vs H Q E h => h base) hb (fun H hO hS base => ?_) fun H e s' z => ?_
  · obtain ⟨outs, e⟩ := hφ ns hlen hbits
    exact script_sp hO hS e
  · obtain ⟨_, _, _, _, _, _, _, _, _, _, _, _, z⟩ := z
    exact z
theorem glob_int {M : Md} {x : Str} {i : Int} (h : ∃ t, M.mg x = some (.int i t)) : GlobOk M x (.int i) := by
  obtain ⟨t, h⟩ := h
  exact ⟨_, .int i, h, ⟨t, rfl⟩, fun F H => by unfold Rep; rfl⟩
theorem glob_str {M : Md} {x z : Str} (h : ∃ t, M.mg x = some (.str z t)) : GlobOk M x (.str z) := by
  obtain ⟨t, h⟩ := h
  exact ⟨_, .str z, h, ⟨t, rfl⟩, fun F H => by unfold Rep; rfl⟩
end VF

namespace VF
open PySem PySem.Spec PyProof.Rows L2

@[simp] theorem gt_zero {t : Option Sl} {ρ : En} : gt (t :: ρ) 0 = t := by cases t <;> rfl
@[simp] theorem gt_succ {t : Option Sl} {ρ : En} {i : Nat} : gt (t :: ρ) (i + 1) = gt ρ i := by simp [gt]
@[simp] theorem gt_nil {i : Nat} : gt [] i = none := rfl
@[simp] theorem bind_ok {α β : Type} {a : α} {ρ : En} {f : α → En → Out β} : (Out.ok a ρ).bind f = f a ρ := rfl
@[simp] theorem bind_exc {α β : Type} {x : Ex} {ρ : En} {f : α → En → Out β} : (Out.exc x ρ : Out α).bind f = .exc x ρ := rfl
@[simp] theorem bind_bad {α β : Type} {f : α → En → Out β} : (Out.bad : Out α).bind f = .bad := rfl
@[simp] theorem bindS_ok {α : Type} {a : α} {ρ : En} {f : α → En → SO} : (Out.ok a ρ).bindS f = f a ρ := rfl
@[simp] theorem bindS_exc {α : Type} {x : Ex} {ρ : En} {f : α → En → SO} : (Out.exc x ρ : Out α).bindS f = .exc x ρ := rfl
@[simp] theorem bindS_bad {α : Type} {f : α → En → SO} : (Out.bad : Out α).bindS f = .bad := rfl
@[simp] theorem cst_eq {d : D} {ρ : En} : cst d ρ = .ok (.val d) ρ := rfl
@[simp] theorem nm_eq {i : Nat} {ρ : En} : nm i ρ = (match gt ρ i with
  | some (.val d) => .ok (.val d) ρ
  | some (.own d) => .ok (.val d) (ρ.set i (some (.val d)))
  | _ => .bad) := rfl
@[simp] theorem ev_ex {φ : ES} {ρ : En} : (Opd.ex φ).ev ρ = (φ ρ).bind fun r ρ' => .ok (.val r.d) ρ' := rfl
@[simp] theorem ev_sl {i : Nat} {ρ : En} : (Opd.sl i).ev ρ = (match gt ρ i with | some _ => .ok (.at i) ρ | none => .bad) := rfl
@[simp] theorem evs_nil {ρ : En} : evs [] ρ = .ok [] ρ := rfl
@[simp] theorem evs_cons {o : Opd} {os : List Opd} {ρ : En} : evs (o :: os) ρ = (o.ev ρ).bind fun x ρ1 => (evs os ρ1).bind fun xs ρ2 => .ok (x :: xs) ρ2 := rfl
@[simp] theorem dat_val {d : D} {ρ : En} : (Ov.val d).dat ρ = some d := rfl
@[simp] theorem dat_at {i : Nat} {ρ : En} : (Ov.at i).dat ρ = (gt ρ i).map Sl.d := rfl
@[simp] theorem dats_nil {ρ : En} : dats ρ [] = some [] := rfl
@[simp] theorem dats_cons {x : Ov} {xs : List Ov} {ρ : En} : dats ρ (x :: xs) = (match x.dat ρ, dats ρ xs with
    | some d, some ds => some (d :: ds)
    | _, _ => none) := rfl
@[simp] theorem d_val {d : D} : (Sl.val d).d = d := rfl
@[simp] theorem d_own {d : D} : (Sl.own d).d = d := rfl
@[simp] theorem d_ref {d : D} : (Sl.ref d).d = d := rfl
@[simp] theorem d_rd {d : D} : (Sl.rd d).d = d := rfl
@[simp] theorem rd_val {d : D} : (Rv.val d).d = d := rfl
@[simp] theorem rd_own {d : D} : (Rv.own d).d = d := rfl
@[simp] theorem app_eq {f : List D → Option Rv} {os : List Opd} {ρ : En} : app f os ρ = (evs os ρ).bind fun xs ρ' => match dats ρ' xs with
  | some ds => (match f ds with
    | some r => .ok r ρ'
    | none => .bad)
  | none => .bad := rfl
@[simp] theorem tst_eq {φ : ES} {ρ : En} : tst φ ρ = (φ ρ).bind fun r ρ' => match r with
  | .val (.bl b) => .ok b ρ'
  | _ => .bad := rfl
@[simp] theorem tru_eq {o : Opd} {ρ : En} : tru o ρ = (o.ev ρ).bind fun x ρ' => match x.dat ρ' with
  | some d => (match d.truth with
    | some k => .ok k ρ'
    | none => .bad)
  | none => .bad := rfl
@[simp] theorem bnot_eq {t : BS} {ρ : En} : bnot t ρ = (t ρ).bind fun b ρ' => .ok (!b) ρ' := rfl
@[simp] theorem band_eq {t u : BS} {ρ : En} : band t u ρ = (t ρ).bind fun b ρ' => if b then u ρ' else .ok false ρ' := rfl
@[simp] theorem bor_eq {t u : BS} {ρ : En} : bor t u ρ = (t ρ).bind fun b ρ' => if b then .ok true ρ' else u ρ' := rfl
@[simp] theorem iff_eq {t : BS} {a b : ES} {ρ : En} : iff t a b ρ = (t ρ).bind fun c ρ' => if c then a ρ' else b ρ' := rfl
@[simp] theorem andE_eq {a b : ES} {ρ : En} : andE a b ρ = (a ρ).bind fun r ρ' => match r.d.truth with
  | some true => b ρ'
  | some false => .ok r ρ'
  | none => .bad := rfl
@[simp] theorem orE_eq {a b : ES} {ρ : En} : orE a b ρ = (a ρ).bind fun r ρ' => match r.d.truth with
  | some false => b ρ'
  | some true => .ok r ρ'
  | none => .bad := rfl
@[simp] theorem notE_eq {o : Opd} {ρ : En} : notE o ρ = (tru o ρ).bind fun b ρ' => .ok (.val (.bl (!b))) ρ' := rfl
@[simp] theorem truth_non : D.non.truth = some false := rfl
@[simp] theorem truth_bl {b : Bool} : (D.bl b).truth = some b := rfl
@[simp] theorem truth_int {i : Int} : (D.int i).truth = some (i != 0) := rfl
@[simp] theorem truth_lst {ds : List D} : (D.lst ds).truth = some (!ds.isEmpty) := rfl
@[simp] theorem truth_tup {ds : List D} : (D.tup ds).truth = some (!ds.isEmpty) := rfl
@[simp] theorem chn_eq {f g : List D → Option Rv} {a b c : Opd} {ρ : En} : chn f g a b c ρ = (a.ev ρ).bind fun x ρ0 => (b.ev ρ0).bind fun y ρ1 => match x.dat ρ1, y.dat ρ1 with
  | some d, some e => (match f [d, e] with
    | some (.val (.bl true)) => (c.ev ρ1).bind fun z ρ2 => (match y.dat ρ2, z.dat ρ2 with
      | some e', some k => (match g [e', k] with
        | some r => .ok r ρ2
        | none => .bad)
      | _, _ => .bad)
    | some (.val (.bl false)) => .ok (.val (.bl false)) ρ1
    | _ => .bad)
  | _, _ => .bad := rfl
@[simp] theorem evI_none {ρ : En} : evI none ρ = .ok none ρ := rfl
@[simp] theorem evI_some {o : Opd} {ρ : En} : evI (some o) ρ = (o.ev ρ).bind fun x ρ' => match x.dat ρ' with
    | some (.int i) => .ok (some i) ρ'
    | _ => .bad := rfl
@[simp] theorem slc_eq {o : Opd} {lo hi : Option Opd} {ρ : En} : slc o lo hi ρ = (o.ev ρ).bind fun x ρ1 => (evI lo ρ1).bind fun l ρ2 => (evI hi ρ2).bind fun u ρ3 => match x.dat ρ3 with
  | some d => (match fSl d l u with
    | some r => .ok r ρ3
    | none => .bad)
  | none => .bad := rfl
@[simp] theorem vals_nil : vals [] = some [] := rfl
@[simp] theorem vals_cons {d : D} {xs : List Ov} : vals (.val d :: xs) = (vals xs).map (d :: ·) := rfl
@[simp] theorem disp_eq {mk : List D → Rv} {φs : List ES} {ρ : En} : disp mk φs ρ = (evs (φs.map .ex) ρ).bind fun xs ρ' => match vals xs with
  | some ds => .ok (mk ds) ρ'
  | none => .bad := rfl
@[simp] theorem mkT_eq {ds : List D} : mkT ds = .val (.tup ds) := rfl
@[simp] theorem mkL_eq {ds : List D} : mkL ds = .own (.lst ds) := rfl
@[simp] theorem mkD_eq {ds : List D} : mkD ds = .own (.dck [] []) := rfl
@[simp] theorem skip_eq {ρ : En} : skip ρ = .nx ρ := rfl
@[simp] theorem seq_eq {a b : SS} {ρ : En} : seq a b ρ = (match a ρ with
  | .nx ρ' => b ρ'
  | o => o) := rfl
@[simp] theorem ifS_eq {t : BS} {a b : SS} {ρ : En} : ifS t a b ρ = (t ρ).bindS fun c ρ' => if c then a ρ' else b ρ' := rfl
@[simp] theorem retE_eq {φ : ES} {ρ : En} : retE φ ρ = (φ ρ).bindS fun r ρ' => .rt r ρ' := rfl
@[simp] theorem retI_eq {i : Nat} {ρ : En} : retI i ρ = (match gt ρ i with
  | some (.own d) => .rt (.own d) (ρ.set i none)
  | some (.val d) => .rt (.val d) ρ
  | _ => .bad) := rfl
@[simp] theorem dropE_eq {φ : ES} {ρ : En} : dropE φ ρ = (φ ρ).bindS fun _ ρ' => .nx ρ' := rfl
@[simp] theorem setI_eq {i : Nat} {φ : ES} {ρ : En} : setI i φ ρ = (φ ρ).bindS fun r ρ' => if noRef (gt ρ' i) = true ∧ i < ρ'.length then (match r with
  | .val d => .nx (ρ'.set i (some (.val d)))
  | .own d => .nx (ρ'.set i (some (.own d)))) else .bad := rfl
@[simp] theorem putS_eq {tg : Tg} {φ : ES} {ρ : En} : putS tg φ ρ = (φ ρ).bindS fun r ρ' => match put tg r.d ρ' with
  | some ρ2 => .nx ρ2
  | none => .bad := rfl
@[simp] theorem noRef_none : noRef none = true := rfl
@[simp] theorem noRef_val {d : D} : noRef (some (.val d)) = true := rfl
@[simp] theorem noRef_own {d : D} : noRef (some (.own d)) = true := rfl
@[simp] theorem put_nm {i : Nat} {d : D} {ρ : En} : put (.nm i) d ρ = if noRef (gt ρ i) = true ∧ i < ρ.length then some (ρ.set i (some (.val d))) else none := by unfold put; rfl
@[simp] theorem put_tup {ts : List Tg} {ds : List D} {ρ : En} : put (.tup ts) (.tup ds) ρ = puts ts ds ρ := by unfold put; rfl
@[simp] theorem puts_nil {ρ : En} : puts [] [] ρ = some ρ := by unfold puts; rfl
@[simp] theorem puts_cons {t : Tg} {ts : List Tg} {d : D} {ds : List D} {ρ : En} : puts (t :: ts) (d :: ds) ρ = (match put t d ρ with
      | some ρ' => puts ts ds ρ'
      | none => none) := by
  rw [puts]
  all_goals (cases put t d ρ <;> rfl)
@[simp] theorem storeI_eq {i : Nat} {ix : Opd} {φ : ES} {ρ : En} : storeI i ix φ ρ = (φ ρ).bindS fun r ρ1 => ((Opd.sl i).ev ρ1).bindS fun _ ρ1 => (ix.ev ρ1).bindS fun y ρ2 => match y.dat ρ2 with
  | some k => (match mutS i (stD r.d k) ρ2 with
    | some (_, ρ3) => .nx ρ3
    | none => .bad)
  | none => .bad := rfl
@[simp] theorem stD_eq {v : D} {j : Int} {ds : List D} : stD v (.int j) (.lst ds) = (ixN ds.length j).map fun n => ((), .lst (ds.set n v)) := rfl
@[simp] theorem mutS_eq {α : Type} {i : Nat} {f : D → Option (α × D)} {ρ : En} : mutS i f ρ = (match gt ρ i with
  | some (.own d) => (match f d with
    | some (a, d') => some (a, ρ.set i (some (.own d')))
    | none => none)
  | some (.ref d) => (match f d with
    | some (a, d') => some (a, ρ.set i (some (.ref d')))
    | none => none)
  | _ => none) := rfl
@[simp] theorem slO_val {d : D} {ρ : En} : slO ρ (.val d) = some (.val d) := rfl
@[simp] theorem slO_at {i : Nat} {ρ : En} : slO ρ (.at i) = (match gt ρ i with
    | some (.own d) => some (.ref d)
    | t => t) := rfl
@[simp] theorem slOs_nil {ρ : En} : slOs ρ [] = some [] := rfl
@[simp] theorem slOs_cons {ρ : En} {x : Ov} {xs : List Ov} : slOs ρ (x :: xs) = (match slO ρ x, slOs ρ xs with
    | some s, some ss => some (s :: ss)
    | _, _ => none) := rfl
@[simp] theorem isTop_eq {ρ : En} {i : Nat} : isTop ρ i = (match gt ρ i with | some t => t.top | none => false) := rfl
@[simp] theorem top_val {d : D} : (Sl.val d).top = false := rfl
@[simp] theorem top_own {d : D} : (Sl.own d).top = true := rfl
@[simp] theorem top_ref {d : D} : (Sl.ref d).top = true := rfl
@[simp] theorem top_rd {d : D} : (Sl.rd d).top = true := rfl
@[simp] theorem tpI_nil {ρ : En} : tpI ρ [] = [] := rfl
@[simp] theorem tpI_val {ρ : En} {d : D} {xs : List Ov} : tpI ρ (.val d :: xs) = tpI ρ xs := rfl
@[simp] theorem tpI_at {ρ : En} {i : Nat} {xs : List Ov} : tpI ρ (.at i :: xs) = if isTop ρ i then i :: tpI ρ xs else tpI ρ xs := rfl
@[simp] theorem ndB_nil : ndB [] = true := rfl
@[simp] theorem ndB_cons {i : Nat} {r : List Nat} : ndB (i :: r) = (!r.contains i && ndB r) := rfl
@[simp] theorem look_nil {ss : List Sl} {j : Nat} : look [] ss j = none := rfl
@[simp] theorem look_at_ref {i j : Nat} {d : D} {xs : List Ov} {ss : List Sl} : look (.at i :: xs) (.ref d :: ss) j = if i = j then some d else look xs ss j := rfl
@[simp] theorem look_val {j : Nat} {d : D} {xs : List Ov} {s : Sl} {ss : List Sl} : look (.val d :: xs) (s :: ss) j = look xs ss j := rfl
@[simp] theorem look_at_val {i j : Nat} {d : D} {xs : List Ov} {ss : List Sl} : look (.at i :: xs) (.val d :: ss) j = look xs ss j := rfl
@[simp] theorem look_at_rd {i j : Nat} {d : D} {xs : List Ov} {ss : List Sl} : look (.at i :: xs) (.rd d :: ss) j = look xs ss j := rfl
@[simp] theorem bk1_none {xs : List Ov} {outs : List Sl} {j : Nat} : bk1 xs outs j none = none := rfl
@[simp] theorem bk1_val {xs : List Ov} {outs : List Sl} {j : Nat} {d : D} : bk1 xs outs j (some (.val d)) = some (.val d) := rfl
@[simp] theorem bk1_rd {xs : List Ov} {outs : List Sl} {j : Nat} {d : D} : bk1 xs outs j (some (.rd d)) = some (.rd d) := rfl
@[simp] theorem bk1_own {xs : List Ov} {outs : List Sl} {j : Nat} {d : D} : bk1 xs outs j (some (.own d)) = (match look xs outs j with
    | some d' => some (.own d')
    | none => some (.own d)) := rfl
@[simp] theorem bk1_ref {xs : List Ov} {outs : List Sl} {j : Nat} {d : D} : bk1 xs outs j (some (.ref d)) = (match look xs outs j with
    | some d' => some (.ref d')
    | none => some (.ref d)) := rfl
/-- nothing that may change was passed -/
theorem look_no {j : Nat} {outs : List Sl} (h : ∀ d, Sl.ref d ∉ outs) : ∀ {xs : List Ov}, look xs outs j = none := by
  intro xs
  cases e : look xs outs j with
  | none => rfl
  | some d =>
    obtain ⟨i, _, h2⟩ := look_some e
    exact absurd (List.mem_of_getElem? h2) (h d)
@[simp] theorem back_vals {ds : List D} {xs : List Ov} {ρ : En} : back xs (ds.map .val) ρ = ρ := by
  unfold back
  have h : ∀ j t, bk1 xs (ds.map Sl.val) j t = t := fun j t => by
    have hl : look xs (ds.map Sl.val) j = none := look_no fun d hd => by simp at hd
    cases t with
    | none => rfl
    | some t => cases t with
      | val d => rfl
      | rd d => rfl
      | own d => simp [hl]
      | ref d => simp [hl]
  apply List.ext_getElem?
  intro i
  rw [List.getElem?_mapIdx]
  cases ρ[i]? with
  | none => rfl
  | some t => simp [h]
@[simp] theorem callF_eq {φ : FSem} {os : List Opd} {dd : List D} {ρ : En} : callF φ os dd ρ = (evs os ρ).bind fun xs0 ρ1 => match slOs ρ1 (xs0 ++ dd.map .val) with
  | some sls => if ndB (tpI ρ1 (xs0 ++ dd.map .val)) = true then (match φ sls with
    | .ok r outs => .ok r (back (xs0 ++ dd.map .val) outs ρ1)
    | .exc x outs => .exc x (back (xs0 ++ dd.map .val) outs ρ1)
    | .bad => .bad) else .bad
  | none => .bad := rfl
@[simp] theorem fAdd_int {i j : Int} : fAdd [.int i, .int j] = some (.val (.int (i + j))) := rfl
@[simp] theorem fSub_int {i j : Int} : fSub [.int i, .int j] = some (.val (.int (i - j))) := rfl
@[simp] theorem fLt_int {i j : Int} : fLt [.int i, .int j] = some (.val (.bl (decide (i < j)))) := rfl
@[simp] theorem fLe_int {i j : Int} : fLe [.int i, .int j] = some (.val (.bl (decide (i ≤ j)))) := rfl
@[simp] theorem fGt_int {i j : Int} : fGt [.int i, .int j] = some (.val (.bl (decide (j < i)))) := rfl
@[simp] theorem fGe_int {i j : Int} : fGe [.int i, .int j] = some (.val (.bl (decide (j ≤ i)))) := rfl
@[simp] theorem fNeg_int {i : Int} : fNeg [.int i] = some (.val (.int (-i))) := rfl
@[simp] theorem fMod_int {i j : Int} : fMod [.int i, .int j] = if j ≠ 0 then some (.val (.int (i.fmod j))) else none := rfl
theorem fFdiv_int {i j : Int} : fFdiv [.int i, .int j] = if j ≠ 0 ∧ j.natAbs.log2 < 9000 then some (.val (.int (i.fdiv j))) else none := rfl
theorem fPow_int {i j : Int} : fPow [.int i, .int j] = if 0 ≤ j ∧ j ≤ 1000000 ∧ i.natAbs < 2 ^ 64 then some (.val (.int (i ^ j.toNat))) else none := rfl
theorem fMul_int {i j : Int} : fMul [.int i, .int j] = if i.natAbs.log2 + j.natAbs.log2 < 1000000 then some (.val (.int (i * j))) else none := rfl
@[simp] theorem fItem_lst {ds : List D} {i : Int} : fItem [.lst ds, .int i] = (atI ds i).map .val := rfl
@[simp] theorem fItem_tup {ds : List D} {i : Int} : fItem [.tup ds, .int i] = (atI ds i).map .val := rfl
@[simp] theorem fLen_lst {ds : List D} : fLen [.lst ds] = some (.val (.int ds.length)) := rfl
@[simp] theorem fLen_tup {ds : List D} : fLen [.tup ds] = some (.val (.int ds.length)) := rfl
@[simp] theorem fLen_str {z : Str} : fLen [.str z] = if z.length ≤ sizeLine then some (.val (.int z.length)) else none := rfl
@[simp] theorem fInt_int {i : Int} : fInt [.int i] = some (.val (.int i)) := rfl
@[simp] theorem fInt_bl {b : Bool} : fInt [.bl b] = some (.val (.int (if b then 1 else 0))) := rfl
@[simp] theorem fIs_bl {a b : Bool} : fIs [.bl a, .bl b] = some (.val (.bl (decide (a = b)))) := rfl
@[simp] theorem fIsNot_bl {a b : Bool} : fIsNot [.bl a, .bl b] = some (.val (.bl (!decide (a = b)))) := rfl

theorem l64 {i : Int} (h : i.natAbs < 2 ^ 64) : i.natAbs.log2 < 64 := by
  by_cases h0 : i.natAbs = 0
  · rw [h0]; decide
  · exact (Nat.log2_lt h0).mpr h
theorem fMul_ok {i j : Int} (h1 : i.natAbs < 2 ^ 64) (h2 : j.natAbs < 2 ^ 64) : fMul [.int i, .int j] = some (.val (.int (i * j))) := by
  have := l64 h1
  have := l64 h2
  rw [fMul_int, if_pos (by omega)]
theorem fFdiv_ok {i j : Int} (h1 : j ≠ 0) (h2 : j.natAbs < 2 ^ 64) : fFdiv [.int i, .int j] = some (.val (.int (i.fdiv j))) := by
  have := l64 h2
  rw [fFdiv_int, if_pos ⟨h1, by omega⟩]
theorem fPow_ok {i j : Int} (h0 : 0 ≤ j) (h1 : j ≤ 1000000) (h2 : i.natAbs < 2 ^ 64) : fPow [.int i, .int j] = some (.val (.int (i ^ j.toNat))) := by
  rw [fPow_int, if_pos ⟨h0, h1, h2⟩]
@[simp] theorem lk_nil' {ρ : En} : lk [] ρ = ρ := rfl
@[simp] theorem lk_val' {d : D} {xs : List Ov} {ρ : En} : lk (.val d :: xs) ρ = lk xs ρ := rfl
@[simp] theorem ats_nil' : ats [] = [] := rfl
@[simp] theorem ats_val' {d : D} {xs : List Ov} : ats (.val d :: xs) = ats xs := rfl
@[simp] theorem ats_at' {i : Nat} {xs : List Ov} : ats (.at i :: xs) = i :: ats xs := rfl
@[simp] theorem lks_eq {ρ : En} {xs : List Ov} : lks ρ xs = (ats xs).filter fun i => match gt ρ i with
  | some (.own _) => true
  | some (.ref _) => true
  | _ => false := rfl
@[simp] theorem rst_nil' {ρ1 ρ : En} : rst ρ1 [] ρ = ρ := rfl
@[simp] theorem rst_cons' {ρ1 ρ : En} {i : Nat} {S : List Nat} : rst ρ1 (i :: S) ρ = rst ρ1 S (ρ.set i (gt ρ1 i)) := rfl
@[simp] theorem unl_nil' {ρ1 : En} {o : SO} : unl ρ1 [] o = o := by cases o <;> rfl
@[simp] theorem wp_nil' {ρ : En} : wp [] ρ = ρ := rfl
@[simp] theorem wp_cons' {ρ : En} {i : Nat} {S : List Nat} : wp (i :: S) ρ = wp S (ρ.set i none) := rfl
@[simp] theorem forS_eq {src : Src} {tg : Tg} {body : SS} {ρ : En} : forS src tg body ρ = (evs src.ops ρ).bindS fun xs ρ1 => match dats ρ1 xs with
  | some ds => (match src.f ds with
    | some items => unl ρ1 (lks ρ1 xs) (loopS tg body items (lk xs ρ1))
    | none => .bad)
  | none => .bad := rfl
@[simp] theorem noX_ok {α : Type} {a : α} {ρ : En} : noX (.ok a ρ) = .ok a ρ := rfl
@[simp] theorem comp_eq {src : Src} {tg : Tg} {own : List Nat} {t : BS} {φ : ES} {ρ : En} : comp src tg own t φ ρ = (evs src.ops ρ).bind fun xs ρ1 => match dats ρ1 xs with
  | some ds => (match src.f ds with
    | some items => if (own.all fun i => !(ats xs).contains i) = true then (noX (loopC tg own t φ items (wp own (lk xs ρ1)) [])).bind fun out ρ2 => .ok (.own (.lst out)) (rst ρ1 (own ++ ats xs) ρ2) else .bad
    | none => .bad)
  | none => .bad := rfl
@[simp] theorem yes_eq {ρ : En} : yes ρ = .ok true ρ := rfl
@[simp] theorem meth_eq {T : String} {f : List D → Option Rv} {o : Opd} {os : List Opd} {ρ : En} : meth T f o os ρ = (o.ev ρ).bind fun x ρ1 => match x.dat ρ1 with
  | some d => if d.ty = some T then (evs os ρ1).bind fun xs ρ2 => (match x.dat ρ2, dats ρ2 xs with
    | some d', some ds => (match f (d' :: ds) with
      | some r => .ok r ρ2
      | none => .bad)
    | _, _ => .bad) else .bad
  | none => .bad := rfl
@[simp] theorem mutM_eq {T : String} {f : List D → D → Option (D × D)} {i : Nat} {φs : List ES} {ρ : En} : mutM T f i φs ρ = ((Opd.sl i).ev ρ).bind fun x ρ0 => match x.dat ρ0 with
  | some d => if d.ty = some T then (evs (φs.map .ex) ρ0).bind fun xs ρ1 => (match vals xs with
    | some ds => (match mutS i (f ds) ρ1 with
      | some (r, ρ2) => .ok (.val r) ρ2
      | none => .bad)
    | none => .bad) else .bad
  | none => .bad := rfl
theorem bk1_look {xs ys : List Ov} {os ps : List Sl} {j : Nat} {t : Option Sl} (h : look xs os j = look ys ps j) : bk1 xs os j t = bk1 ys ps j t := by
  cases t with
  | none => rfl
  | some t => cases t with
    | val d => rfl
    | rd d => rfl
    | own d => simp only [bk1_own, h]
    | ref d => simp only [bk1_ref, h]
@[simp] theorem bk1_nil {outs : List Sl} {j : Nat} {t : Option Sl} : bk1 [] outs j t = t := by
  cases t with
  | none => rfl
  | some t => cases t <;> rfl
@[simp] theorem bk1_cv {d : D} {s : Sl} {xs : List Ov} {outs : List Sl} {j : Nat} {t : Option Sl} : bk1 (.val d :: xs) (s :: outs) j t = bk1 xs outs j t := bk1_look rfl
@[simp] theorem bk1_av {i : Nat} {d : D} {xs : List Ov} {outs : List Sl} {j : Nat} {t : Option Sl} : bk1 (.at i :: xs) (.val d :: outs) j t = bk1 xs outs j t := bk1_look rfl
@[simp] theorem bk1_ar {i : Nat} {d : D} {xs : List Ov} {outs : List Sl} {j : Nat} {t : Option Sl} : bk1 (.at i :: xs) (.rd d :: outs) j t = bk1 xs outs j t := bk1_look rfl
@[simp] theorem bk1_ne {i : Nat} {d : D} {xs : List Ov} {outs : List Sl} {j : Nat} {t : Option Sl} (h : i ≠ j) : bk1 (.at i :: xs) (.ref d :: outs) j t = bk1 xs outs j t := bk1_look (by rw [look_at_ref, if_neg h])
@[simp] theorem back_eq {xs : List Ov} {outs : List Sl} {t : Option Sl} {ρ : En} : back xs outs (t :: ρ) = bk1 xs outs 0 t :: List.mapIdx (fun i => bk1 xs outs (i + 1)) ρ := by
  unfold back
  rw [List.mapIdx_cons]
theorem str_len_app (x y : Str) : (x ++ y).length = x.length + y.length := by
  show (x.cps ++ y.cps).size = _
  simp [Str.length]
theorem fAdd_str {x y : Str} (h : x.length + y.length ≤ 1000000) : fAdd [.str x, .str y] = some (.val (.str (x ++ y))) := by
  show (if x.length + y.length ≤ sizeLine then some (Rv.val (.str (x ++ y))) else none) = _
  rw [if_pos (by rw [sizeLine_eq]; omega)]
theorem fAdd_lst {x y : List D} (h : x.length + y.length ≤ 1000000) : fAdd [.lst x, .lst y] = some (.own (.lst (x ++ y))) := by
  show (if x.length + y.length ≤ sizeLine then some (Rv.own (.lst (x ++ y))) else none) = _
  rw [if_pos (by rw [sizeLine_eq]; omega)]
theorem fSl_str {z : Str} {lo hi : Option Int} (h : z.length ≤ 1000000) : fSl (.str z) lo hi = some (.val (.str (cutS z lo hi))) := by
  show (if z.length ≤ sizeLine then some (Rv.val (.str (cutS z lo hi))) else none) = _
  rw [if_pos (by rw [sizeLine_eq]; omega)]
theorem fEq_ok {d e : D} (h1 : pl 60 d = true) (h2 : pl 60 e = true) : fEq [d, e] = some (.val (.bl (D.eq d e))) := by
  show (if pl 60 d = true ∧ pl 60 e = true then some (Rv.val (.bl (D.eq d e))) else none) = _
  rw [if_pos ⟨h1, h2⟩]
theorem fNe_ok {d e : D} (h1 : pl 60 d = true) (h2 : pl 60 e = true) : fNe [d, e] = some (.val (.bl (!D.eq d e))) := by
  show (if pl 60 d = true ∧ pl 60 e = true then some (Rv.val (.bl (!D.eq d e))) else none) = _
  rw [if_pos ⟨h1, h2⟩]
theorem sSeq_str {z : Str} (h : z.length ≤ 1000000) : sSeq [.str z] = some (z.cps.toList.map fun c => .str ⟨#[c]⟩) := by
  show (if z.length ≤ sizeLine then some (z.cps.toList.map fun c => D.str ⟨#[c]⟩) else none) = _
  rw [if_pos (by rw [sizeLine_eq]; omega)]
@[simp] theorem sSeq_lst {ds : List D} : sSeq [.lst ds] = some ds := rfl
@[simp] theorem sSeq_tup {ds : List D} : sSeq [.tup ds] = some ds := rfl
theorem str_len_one (c : Nat) : (⟨#[c]⟩ : Str).length = 1 := rfl
theorem item_str {z : Str} {i : Int} (h0 : 0 ≤ i) (h1 : i < z.length) (hz : z.length ≤ 1000000) : ∃ c, fItem [.str z, .int i] = some (.val (.str ⟨#[c]⟩)) := by
  have hs : z.length ≤ sizeLine := by rw [sizeLine_eq]; omega
  have hl : z.cps.toList.length = z.length := by simp [Str.length]
  have hi : i.toNat < z.cps.toList.length := by omega
  refine ⟨z.cps.toList[i.toNat], ?_⟩
  show (if z.length ≤ sizeLine then (atI z.cps.toList i).map fun c => Rv.val (.str ⟨#[c]⟩) else none) = _
  rw [if_pos hs]
  unfold atI ixN
  rw [if_pos h0, if_pos (by omega)]
  simp [hi]
/-! ### loops -/
theorem loopC_ok {tg : Tg} {own : List Nat} {t : BS} {φ : ES} (P : Nat → En → List D → Prop) : ∀ {items : List D} {n : Nat} {ρ : En} {acc : List D}, P n ρ acc →
    (∀ d, d ∈ items → ∀ m ρ acc, m < n + items.length → P m ρ acc → ∃ ρ1, put tg d ρ = some ρ1 ∧ ∃ b ρ2, t ρ1 = .ok b ρ2 ∧ (b = true → ∃ r ρ3, φ ρ2 = .ok r ρ3 ∧ P (m + 1) (wp own ρ3) (acc ++ [r.d])) ∧ (b = false → P (m + 1) (wp own ρ2) acc)) →
    ∃ out ρ', loopC tg own t φ items ρ acc = .ok out ρ' ∧ P (n + items.length) ρ' out
  | [], n, ρ, acc, p, _ => ⟨acc, ρ, rfl, p⟩
  | d :: ds, n, ρ, acc, p, h => by
    have en : n + (d :: ds).length = n + 1 + ds.length := by simp; omega
    rw [en]
    obtain ⟨ρ1, e1, b, ρ2, e2, h1, h2⟩ := h d List.mem_cons_self n ρ acc (by simp) p
    have rest : ∀ ρ acc, P (n + 1) ρ acc → ∃ out ρ', loopC tg own t φ ds ρ acc = .ok out ρ' ∧ P (n + 1 + ds.length) ρ' out := fun ρ acc p => loopC_ok P p fun d' hd m ρ acc hm => h d' (List.mem_cons_of_mem _ hd) m ρ acc (by rw [en]; exact hm)
    unfold loopC
    simp only [e1, e2, Out.bind]
    cases b with
    | true =>
      obtain ⟨r, ρ3, e3, p3⟩ := h1 rfl
      simp only [e3, if_true]
      exact rest _ _ p3
    | false =>
      simp only [Bool.false_eq_true, if_false]
      exact rest _ _ (h2 rfl)
theorem loopC_pure {tg : Tg} {own : List Nat} {t : BS} {φ : ES} {f : D → D} {p : D → Bool} {ρ : En} : ∀ {items : List D} {acc : List D},
    (∀ d, d ∈ items → ∃ ρ1, put tg d ρ = some ρ1 ∧ ∃ ρ2, t ρ1 = .ok (p d) ρ2 ∧ (p d = true → ∃ r ρ3, φ ρ2 = .ok r ρ3 ∧ r.d = f d ∧ wp own ρ3 = ρ) ∧ (p d = false → wp own ρ2 = ρ)) →
    loopC tg own t φ items ρ acc = .ok (acc ++ (items.filter p).map f) ρ
  | [], acc, _ => by simp [loopC]
  | d :: ds, acc, h => by
    obtain ⟨ρ1, e1, ρ2, e2, h1, h2⟩ := h d List.mem_cons_self
    have ih := fun acc => loopC_pure (acc := acc) fun d' hd => h d' (List.mem_cons_of_mem _ hd)
    unfold loopC
    simp only [e1, e2, Out.bind]
    cases hp : p d with
    | true =>
      obtain ⟨r, ρ3, e3, e4, e5⟩ := h1 hp
      simp only [e3, if_true, e4, e5, ih, List.filter_cons, hp, List.map_cons, List.append_assoc, List.singleton_append]
    | false =>
      simp only [Bool.false_eq_true, if_false, h2 hp, ih, List.filter_cons, hp]
theorem loop_nx {tg : Tg} {body : SS} (P : En → Prop) : ∀ {items : List D} {ρ : En}, P ρ → (∀ d, d ∈ items → ∀ ρ, P ρ → ∃ ρ1, put tg d ρ = some ρ1 ∧ ∃ ρ2, body ρ1 = .nx ρ2 ∧ P ρ2) → ∃ ρ', loopS tg body items ρ = .nx ρ' ∧ P ρ'
  | [], ρ, p, _ => ⟨ρ, rfl, p⟩
  | d :: ds, ρ, p, h => by
    obtain ⟨ρ1, e1, ρ2, e2, p2⟩ := h d List.mem_cons_self ρ p
    obtain ⟨ρ', e3, p3⟩ := loop_nx P p2 fun d' hd => h d' (List.mem_cons_of_mem _ hd)
    exact ⟨ρ', by unfold loopS; simp [e1, e2, e3], p3⟩
/-- the same with the number of turns that are left -/
theorem loop_nxN {tg : Tg} {body : SS} (P : Nat → En → Prop) : ∀ {items : List D} {ρ : En} {n : Nat}, P n ρ → (∀ d, d ∈ items → ∀ m ρ, m < n + items.length → P m ρ → ∃ ρ1, put tg d ρ = some ρ1 ∧ ∃ ρ2, body ρ1 = .nx ρ2 ∧ P (m + 1) ρ2) → ∃ ρ', loopS tg body items ρ = .nx ρ' ∧ P (n + items.length) ρ'
  | [], ρ, n, p, _ => ⟨ρ, rfl, p⟩
  | d :: ds, ρ, n, p, h => by
    obtain ⟨ρ1, e1, ρ2, e2, p2⟩ := h d List.mem_cons_self n ρ (by simp) p
    obtain ⟨ρ', e3, p3⟩ := loop_nxN P (items := ds) p2 fun d' hd m ρ hm => h d' (List.mem_cons_of_mem _ hd) m ρ (by simp; omega)
    refine ⟨ρ', by unfold loopS; simp [e1, e2, e3], ?_⟩
    have : n + (d :: ds).length = n + 1 + ds.length := by simp; omega
    rw [this]
    exact p3
end VF

namespace K01
open PySem PySem.Spec PyProof.Rows L2 VF
def topS (i : Nat) : Stmt := (PySem.Challenge.pw_voicefold_k01_whole_numbers_and_names).main.body.getD i (.Pass ⟨0, 0, 0, 0⟩)
structure Env (M : Md) : Prop where
  b_all : M.mg "all" = none
  b_bool : M.mg "bool" = none
  b_int : M.mg "int" = none
  b_isinstance : M.mg "isinstance" = none
  b_len : M.mg "len" = none
  b_range : M.mg "range" = none
  b_str : M.mg "str" = none
  c_LETTERS : GlobOk M "LETTERS" (.str "abcdefghijklmnopqrstuvwxyz")
  c_MOST_LETTERS : GlobOk M "MOST_LETTERS" (.int 8)
/-! ### _law_well -/
abbrev xs_l_well : Stmt := topS 7
abbrev xN_l_well : List Str := ["_law_cell"]
abbrev xC_l_well : Cs := ⟨xN_l_well, defScope xs_l_well, fun _ => true⟩
def xb_l_well : SS := retE (disp mkL [app fItem [.ex (disp mkL [cst (.int 0), nm 0]), .ex (app fInt [.ex (app fGe [.sl 0, .ex (app fPow [.ex (cst (.int 10)), .ex (cst (.int 18))])])])], app fMod [.sl 0, .ex (cst (.int 2147483629))], cst (.int 0)])
def xf_l_well : FSem := fnS 1 xb_l_well
section
variable {M : Md} {W : WX} {k : Nat} {X : Cx}
theorem xo_l_well_0 (g : G M xC_l_well W k X) {pos : Pos} : PE X (.Name "_law_cell" pos) (tO M W (.sl 0)) := e_sl g rfl (by first | exact Or.inl (by decide +kernel) | exact Or.inr (Or.inl (by decide +kernel)) | exact Or.inr (Or.inr (by decide +kernel))) (by decide +kernel) (by decide +kernel)
theorem xn_l_well_0 (g : G M xC_l_well W k X) {pos : Pos} : PE X (.Name "_law_cell" pos) (tE M W (nm 0)) := e_nm g rfl (by first | exact Or.inl (by decide +kernel) | exact Or.inr (Or.inl (by decide +kernel)) | exact Or.inr (Or.inr (by decide +kernel))) (by decide +kernel) (by decide +kernel)
theorem xw_l_well (E : Env M)  (hk : 0 ≤ k) (g : G M xC_l_well W k X) : PSs X (defBody xs_l_well) (tS M W xb_l_well) :=
  s_one (s_ret (e_lst (φs := [app fItem [.ex (disp mkL [cst (.int 0), nm 0]), .ex (app fInt [.ex (app fGe [.sl 0, .ex (app fPow [.ex (cst (.int 10)), .ex (cst (.int 18))])])])], app fMod [.sl 0, .ex (cst (.int 2147483629))], cst (.int 0)]) (a_cons (o_ex (e_ix g (o_ex (e_lst (φs := [cst (.int 0), nm 0]) (a_cons (o_ex (e_int)) (a_cons (o_ex (xn_l_well_0 g)) (a_nil) rfl) rfl) (by decide))) (o_ex (e_callTy g (f := fInt) (c_int) (by decide +kernel) E.b_int boot_int (a_cons (o_ex (e_cmp o_ge (xo_l_well_0 g) (o_ex (e_bin o_pow (o_ex (e_int)) (o_ex (e_int)))) rfl)) (a_nil) rfl) (by decide +kernel) (by decide +kernel) rfl rfl)) (by intro _ _; rfl))) (a_cons (o_ex (e_bin o_mod (xo_l_well_0 g) (o_ex (e_int)))) (a_cons (o_ex (e_int)) (a_nil) rfl) rfl) rfl) (by decide)))
theorem xsc_l_well : FnScope xN_l_well ["_law_cell"] (defScope xs_l_well) := ⟨rfl, rfl, rfl, by decide +kernel, rfl, by decide +kernel, by decide +kernel⟩
abbrev xF_l_well (K : PySem.W.Frag) (f : Addr) (fd : FuncData) : Prop := FunD K "_law_well" "_law_well" (defArgs xs_l_well) (defBody xs_l_well) (defScope xs_l_well) [] [] f fd
theorem xv_l_well (E : Env M)  {f : Addr} {fd : FuncData} (F : xF_l_well M.K f fd) (hm : M.mg "_law_well" = some (.ref f)) : FnV M 1 "_law_well" 1 xf_l_well :=
  ⟨f, fd, ["_law_cell"], fn_ok (k := 0) F xsc_l_well (fun X W g => xw_l_well E  (Nat.le_refl _) g), hm, F.kp, rfl, F.bindsN fun _ _ _ _ _ _ us hl => match us, hl with | [_], _ => rfl⟩
end
/-! ### _law_cell_at -/
abbrev xs_l_cell_at : Stmt := topS 6
abbrev xN_l_cell_at : List Str := ["_law_script", "_law_k"]
abbrev xC_l_cell_at : Cs := ⟨xN_l_cell_at, defScope xs_l_cell_at, fun _ => true⟩
def xb_l_cell_at : SS := seq (ifS (tst (app fLt [.sl 1, .ex (app fLen [.sl 0])])) (retE (app fItem [.sl 0, .sl 1])) (skip))
  (retE (cst (.int 0)))
def xf_l_cell_at : FSem := fnS 2 xb_l_cell_at
section
variable {M : Md} {W : WX} {k : Nat} {X : Cx}
theorem xo_l_cell_at_0 (g : G M xC_l_cell_at W k X) {pos : Pos} : PE X (.Name "_law_script" pos) (tO M W (.sl 0)) := e_sl g rfl (by first | exact Or.inl (by decide +kernel) | exact Or.inr (Or.inl (by decide +kernel)) | exact Or.inr (Or.inr (by decide +kernel))) (by decide +kernel) (by decide +kernel)
theorem xo_l_cell_at_1 (g : G M xC_l_cell_at W k X) {pos : Pos} : PE X (.Name "_law_k" pos) (tO M W (.sl 1)) := e_sl g rfl (by first | exact Or.inl (by decide +kernel) | exact Or.inr (Or.inl (by decide +kernel)) | exact Or.inr (Or.inr (by decide +kernel))) (by decide +kernel) (by decide +kernel)
theorem xw_l_cell_at (E : Env M)  (hk : 0 ≤ k) (g : G M xC_l_cell_at W k X) : PSs X (defBody xs_l_cell_at) (tS M W xb_l_cell_at) :=
  s_cons (s_if (t_cmp o_lt (xo_l_cell_at_1 g) (o_ex (e_callB g (f := fLen) (c_len g.hK) (by decide +kernel) E.b_len boot_len (a_cons (xo_l_cell_at_0 g) (a_nil) rfl) (by decide +kernel) (by decide +kernel) rfl rfl)) rfl) (s_one (s_ret (e_ix g (xo_l_cell_at_0 g) (xo_l_cell_at_1 g) (by intro _ _; rfl)))) (s_nil))
  (s_one (s_ret (e_int)))
theorem xsc_l_cell_at : FnScope xN_l_cell_at ["_law_script", "_law_k"] (defScope xs_l_cell_at) := ⟨rfl, rfl, rfl, by decide +kernel, rfl, by decide +kernel, by decide +kernel⟩
abbrev xF_l_cell_at (K : PySem.W.Frag) (f : Addr) (fd : FuncData) : Prop := FunD K "_law_cell_at" "_law_cell_at" (defArgs xs_l_cell_at) (defBody xs_l_cell_at) (defScope xs_l_cell_at) [] [] f fd
theorem xv_l_cell_at (E : Env M)  {f : Addr} {fd : FuncData} (F : xF_l_cell_at M.K f fd) (hm : M.mg "_law_cell_at" = some (.ref f)) : FnV M 1 "_law_cell_at" 2 xf_l_cell_at :=
  ⟨f, fd, ["_law_script", "_law_k"], fn_ok (k := 0) F xsc_l_cell_at (fun X W g => xw_l_cell_at E  (Nat.le_refl _) g), hm, F.kp, rfl, F.bindsN fun _ _ _ _ _ _ us hl => match us, hl with | [_, _], _ => rfl⟩
end
/-! ### _law_draw -/
abbrev xs_l_draw : Stmt := topS 8
abbrev xN_l_draw : List Str := ["_law_well_here", "_law_size", "_law_mix", "_law_digit"]
abbrev xC_l_draw : Cs := ⟨xN_l_draw, defScope xs_l_draw, fun _ => true⟩
def xb_l_draw : SS := seq (ifS (tst (app fGt [.ex (app fItem [.sl 0, .ex (cst (.int 0))]), .ex (cst (.int 0))])) (seq (setI 3 (app fMod [.ex (app fItem [.sl 0, .ex (cst (.int 0))]), .sl 1]))
  (seq (storeI 0 (.ex (cst (.int 0))) (app fFdiv [.ex (app fItem [.sl 0, .ex (cst (.int 0))]), .sl 1]))
  (retI 3))) (skip))
  (seq (storeI 0 (.ex (cst (.int 2))) (app fAdd [.ex (app fItem [.sl 0, .ex (cst (.int 2))]), .ex (cst (.int 1))]))
  (seq (setI 2 (app fMod [.ex (app fPow [.ex (app fAdd [.ex (app fAdd [.ex (app fItem [.sl 0, .ex (cst (.int 1))]), .ex (app fMul [.ex (cst (.int 7919)), .ex (app fItem [.sl 0, .ex (cst (.int 2))])])]), .ex (cst (.int 1))]), .ex (cst (.int 5))]), .ex (cst (.int 2147483647))]))
  (seq (setI 2 (app fMod [.ex (app fMul [.sl 2, .ex (app fAdd [.ex (app fAdd [.ex (app fFdiv [.sl 2, .ex (cst (.int 1009))]), .ex (cst (.int 69621))]), .ex (app fItem [.sl 0, .ex (cst (.int 2))])])]), .ex (cst (.int 2147483629))]))
  (retE (app fMod [.ex (app fMod [.ex (app fMul [.sl 2, .ex (app fAdd [.ex (app fFdiv [.sl 2, .ex (cst (.int 2003))]), .ex (cst (.int 40692))])]), .ex (cst (.int 2147483399))]), .sl 1])))))
def xf_l_draw : FSem := fnS 4 xb_l_draw
section
variable {M : Md} {W : WX} {k : Nat} {X : Cx}
theorem xo_l_draw_0 (g : G M xC_l_draw W k X) {pos : Pos} : PE X (.Name "_law_well_here" pos) (tO M W (.sl 0)) := e_sl g rfl (by first | exact Or.inl (by decide +kernel) | exact Or.inr (Or.inl (by decide +kernel)) | exact Or.inr (Or.inr (by decide +kernel))) (by decide +kernel) (by decide +kernel)
theorem xo_l_draw_1 (g : G M xC_l_draw W k X) {pos : Pos} : PE X (.Name "_law_size" pos) (tO M W (.sl 1)) := e_sl g rfl (by first | exact Or.inl (by decide +kernel) | exact Or.inr (Or.inl (by decide +kernel)) | exact Or.inr (Or.inr (by decide +kernel))) (by decide +kernel) (by decide +kernel)
theorem xo_l_draw_2 (g : G M xC_l_draw W k X) {pos : Pos} : PE X (.Name "_law_mix" pos) (tO M W (.sl 2)) := e_sl g rfl (by first | exact Or.inl (by decide +kernel) | exact Or.inr (Or.inl (by decide +kernel)) | exact Or.inr (Or.inr (by decide +kernel))) (by decide +kernel) (by decide +kernel)
theorem xw_l_draw (E : Env M)  (hk : 0 ≤ k) (g : G M xC_l_draw W k X) : PSs X (defBody xs_l_draw) (tS M W xb_l_draw) :=
  s_cons (s_if (t_cmp o_gt (o_ex (e_ix g (xo_l_draw_0 g) (o_ex (e_int)) (by intro _ _; rfl))) (o_ex (e_int)) rfl) (s_cons (s_set g (i := 3) rfl (by first | exact Or.inl (by decide +kernel) | exact Or.inr (by decide +kernel)) (e_bin o_mod (o_ex (e_ix g (xo_l_draw_0 g) (o_ex (e_int)) (by intro _ _; rfl))) (xo_l_draw_1 g)) rfl (.inl rfl))
  (s_cons (s_store g (i := 0) rfl (by first | exact Or.inl (by decide +kernel) | exact Or.inr (Or.inl (by decide +kernel)) | exact Or.inr (Or.inr (by decide +kernel))) (by decide +kernel) (by decide +kernel) (e_bin o_fdiv (o_ex (e_ix g (xo_l_draw_0 g) (o_ex (e_int)) (by intro _ _; rfl))) (xo_l_draw_1 g)) (o_ex (e_int)) (by intro _; rfl) rfl rfl rfl)
  (s_one (s_retI g (i := 3) rfl (by first | exact Or.inl (by decide +kernel) | exact Or.inr (Or.inl (by decide +kernel)) | exact Or.inr (Or.inr (by decide +kernel))) (by decide +kernel) (by decide +kernel))))) (s_nil))
  (s_cons (s_store g (i := 0) rfl (by first | exact Or.inl (by decide +kernel) | exact Or.inr (Or.inl (by decide +kernel)) | exact Or.inr (Or.inr (by decide +kernel))) (by decide +kernel) (by decide +kernel) (e_bin (o_add g.hK) (o_ex (e_ix g (xo_l_draw_0 g) (o_ex (e_int)) (by intro _ _; rfl))) (o_ex (e_int))) (o_ex (e_int)) (by intro _; rfl) rfl rfl rfl)
  (s_cons (s_set g (i := 2) rfl (by first | exact Or.inl (by decide +kernel) | exact Or.inr (by decide +kernel)) (e_bin o_mod (o_ex (e_bin o_pow (o_ex (e_bin (o_add g.hK) (o_ex (e_bin (o_add g.hK) (o_ex (e_ix g (xo_l_draw_0 g) (o_ex (e_int)) (by intro _ _; rfl))) (o_ex (e_bin o_mul (o_ex (e_int)) (o_ex (e_ix g (xo_l_draw_0 g) (o_ex (e_int)) (by intro _ _; rfl))))))) (o_ex (e_int)))) (o_ex (e_int)))) (o_ex (e_int))) rfl (.inl rfl))
  (s_cons (s_set g (i := 2) rfl (by first | exact Or.inl (by decide +kernel) | exact Or.inr (by decide +kernel)) (e_bin o_mod (o_ex (e_bin o_mul (xo_l_draw_2 g) (o_ex (e_bin (o_add g.hK) (o_ex (e_bin (o_add g.hK) (o_ex (e_bin o_fdiv (xo_l_draw_2 g) (o_ex (e_int)))) (o_ex (e_int)))) (o_ex (e_ix g (xo_l_draw_0 g) (o_ex (e_int)) (by intro _ _; rfl))))))) (o_ex (e_int))) rfl (.inl rfl))
  (s_one (s_ret (e_bin o_mod (o_ex (e_bin o_mod (o_ex (e_bin o_mul (xo_l_draw_2 g) (o_ex (e_bin (o_add g.hK) (o_ex (e_bin o_fdiv (xo_l_draw_2 g) (o_ex (e_int)))) (o_ex (e_int)))))) (o_ex (e_int)))) (xo_l_draw_1 g)))))))
theorem xsc_l_draw : FnScope xN_l_draw ["_law_well_here", "_law_size"] (defScope xs_l_draw) := ⟨rfl, rfl, rfl, by decide +kernel, rfl, by decide +kernel, by decide +kernel⟩
abbrev xF_l_draw (K : PySem.W.Frag) (f : Addr) (fd : FuncData) : Prop := FunD K "_law_draw" "_law_draw" (defArgs xs_l_draw) (defBody xs_l_draw) (defScope xs_l_draw) [] [] f fd
theorem xv_l_draw (E : Env M)  {f : Addr} {fd : FuncData} (F : xF_l_draw M.K f fd) (hm : M.mg "_law_draw" = some (.ref f)) : FnV M 1 "_law_draw" 2 xf_l_draw :=
  ⟨f, fd, ["_law_well_here", "_law_size"], fn_ok (k := 0) F xsc_l_draw (fun X W g => xw_l_draw E  (Nat.le_refl _) g), hm, F.kp, rfl, F.bindsN fun _ _ _ _ _ _ us hl => match us, hl with | [_, _], _ => rfl⟩
end
/-! ### _law_one -/
abbrev xs_l_one : Stmt := topS 9
abbrev xN_l_one : List Str := ["_law_well_here", "_law_some"]
abbrev xC_l_one : Cs := ⟨xN_l_one, defScope xs_l_one, fun _ => true⟩
def xb_l_one : SS := retE (app fItem [.sl 1, .ex (callF xf_l_draw [.sl 0, .ex (app fLen [.sl 1])] [])])
def xf_l_one : FSem := fnS 2 xb_l_one
section
variable {M : Md} {W : WX} {k : Nat} {X : Cx}
theorem xo_l_one_0 (g : G M xC_l_one W k X) {pos : Pos} : PE X (.Name "_law_well_here" pos) (tO M W (.sl 0)) := e_sl g rfl (by first | exact Or.inl (by decide +kernel) | exact Or.inr (Or.inl (by decide +kernel)) | exact Or.inr (Or.inr (by decide +kernel))) (by decide +kernel) (by decide +kernel)
theorem xo_l_one_1 (g : G M xC_l_one W k X) {pos : Pos} : PE X (.Name "_law_some" pos) (tO M W (.sl 1)) := e_sl g rfl (by first | exact Or.inl (by decide +kernel) | exact Or.inr (Or.inl (by decide +kernel)) | exact Or.inr (Or.inr (by decide +kernel))) (by decide +kernel) (by decide +kernel)
theorem xw_l_one (E : Env M) (xh_l_draw : FnV M 1 "_law_draw" 2 xf_l_draw) (hk : 1 ≤ k) (g : G M xC_l_one W k X) : PSs X (defBody xs_l_one) (tS M W xb_l_one) :=
  s_one (s_ret (e_ix g (xo_l_one_1 g) (o_ex (e_call g xh_l_draw (Nat.le_trans (by decide) hk) (by decide +kernel) (a_cons (xo_l_one_0 g) (a_cons (o_ex (e_callB g (f := fLen) (c_len g.hK) (by decide +kernel) E.b_len boot_len (a_cons (xo_l_one_1 g) (a_nil) rfl) (by decide +kernel) (by decide +kernel) rfl rfl)) (a_nil) rfl) rfl) rfl (by decide +kernel) rfl rfl)) (by intro _ _; rfl)))
theorem xsc_l_one : FnScope xN_l_one ["_law_well_here", "_law_some"] (defScope xs_l_one) := ⟨rfl, rfl, rfl, by decide +kernel, rfl, by decide +kernel, by decide +kernel⟩
abbrev xF_l_one (K : PySem.W.Frag) (f : Addr) (fd : FuncData) : Prop := FunD K "_law_one" "_law_one" (defArgs xs_l_one) (defBody xs_l_one) (defScope xs_l_one) [] [] f fd
theorem xv_l_one (E : Env M) (xh_l_draw : FnV M 1 "_law_draw" 2 xf_l_draw) {f : Addr} {fd : FuncData} (F : xF_l_one M.K f fd) (hm : M.mg "_law_one" = some (.ref f)) : FnV M 2 "_law_one" 2 xf_l_one :=
  ⟨f, fd, ["_law_well_here", "_law_some"], fn_ok (k := 1) F xsc_l_one (fun X W g => xw_l_one E xh_l_draw (Nat.le_refl _) g), hm, F.kp, rfl, F.bindsN fun _ _ _ _ _ _ us hl => match us, hl with | [_, _], _ => rfl⟩
end
/-! ### _law_text -/
abbrev xs_l_text : Stmt := topS 10
abbrev xN_l_text : List Str := ["_law_well_here", "_law_signs", "_law_other", "_law_found", "_law_k"]
abbrev xC_l_text : Cs := ⟨xN_l_text, defScope xs_l_text, fun _ => true⟩
def xb_l_text : SS := seq (setI 1 (cst (.str "abcdefghijklmnopqrstuvwxyz")))
  (seq (setI 2 (cst (.str "ABCZ0189 _-.,:=>{}[]()'@\n~!")))
  (seq (setI 3 (cst (.str "")))
  (seq (forS ⟨[.ex (callF xf_l_draw [.sl 0, .ex (cst (.int 11))] [])], sRng1⟩ (.nm 4) (setI 3 (app fAdd [.sl 3, .ex (app fItem [.ex (disp mkL [callF xf_l_one [.sl 0, .ex (nm 1)] [], callF xf_l_one [.sl 0, .ex (nm 1)] [], callF xf_l_one [.sl 0, .ex (nm 2)] []]), .ex (app fFdiv [.ex (callF xf_l_draw [.sl 0, .ex (cst (.int 7))] []), .ex (cst (.int 3))])])])))
  (retI 3))))
def xf_l_text : FSem := fnS 5 xb_l_text
section
variable {M : Md} {W : WX} {k : Nat} {X : Cx}
theorem xo_l_text_0 (g : G M xC_l_text W k X) {pos : Pos} : PE X (.Name "_law_well_here" pos) (tO M W (.sl 0)) := e_sl g rfl (by first | exact Or.inl (by decide +kernel) | exact Or.inr (Or.inl (by decide +kernel)) | exact Or.inr (Or.inr (by decide +kernel))) (by decide +kernel) (by decide +kernel)
theorem xn_l_text_1 (g : G M xC_l_text W k X) {pos : Pos} : PE X (.Name "_law_signs" pos) (tE M W (nm 1)) := e_nm g rfl (by first | exact Or.inl (by decide +kernel) | exact Or.inr (Or.inl (by decide +kernel)) | exact Or.inr (Or.inr (by decide +kernel))) (by decide +kernel) (by decide +kernel)
theorem xn_l_text_2 (g : G M xC_l_text W k X) {pos : Pos} : PE X (.Name "_law_other" pos) (tE M W (nm 2)) := e_nm g rfl (by first | exact Or.inl (by decide +kernel) | exact Or.inr (Or.inl (by decide +kernel)) | exact Or.inr (Or.inr (by decide +kernel))) (by decide +kernel) (by decide +kernel)
theorem xo_l_text_3 (g : G M xC_l_text W k X) {pos : Pos} : PE X (.Name "_law_found" pos) (tO M W (.sl 3)) := e_sl g rfl (by first | exact Or.inl (by decide +kernel) | exact Or.inr (Or.inl (by decide +kernel)) | exact Or.inr (Or.inr (by decide +kernel))) (by decide +kernel) (by decide +kernel)
theorem xw_l_text (E : Env M) (xh_l_draw : FnV M 1 "_law_draw" 2 xf_l_draw) (xh_l_one : FnV M 2 "_law_one" 2 xf_l_one) (hk : 2 ≤ k) (g : G M xC_l_text W k X) : PSs X (defBody xs_l_text) (tS M W xb_l_text) :=
  s_cons (s_set g (i := 1) rfl (by first | exact Or.inl (by decide +kernel) | exact Or.inr (by decide +kernel)) (e_str) rfl (.inl rfl))
  (s_cons (s_set g (i := 2) rfl (by first | exact Or.inl (by decide +kernel) | exact Or.inr (by decide +kernel)) (e_str) rfl (.inl rfl))
  (s_cons (s_set g (i := 3) rfl (by first | exact Or.inl (by decide +kernel) | exact Or.inr (by decide +kernel)) (e_str) rfl (.inl rfl))
  (s_cons (s_for g (i_rng1 g (by decide +kernel) E.b_range (a_cons (o_ex (e_call g xh_l_draw (Nat.le_trans (by decide) hk) (by decide +kernel) (a_cons (xo_l_text_0 g) (a_cons (o_ex (e_int)) (a_nil) rfl) rfl) rfl (by decide +kernel) rfl rfl)) (a_nil) rfl) rfl) (p_nm g (i := 4) rfl (by first | exact Or.inl (by decide +kernel) | exact Or.inr (by decide +kernel)) (.inl rfl)) (s_one (s_set g (i := 3) rfl (by first | exact Or.inl (by decide +kernel) | exact Or.inr (by decide +kernel)) (e_bin (o_add g.hK) (xo_l_text_3 g) (o_ex (e_ix g (o_ex (e_lst (φs := [callF xf_l_one [.sl 0, .ex (nm 1)] [], callF xf_l_one [.sl 0, .ex (nm 1)] [], callF xf_l_one [.sl 0, .ex (nm 2)] []]) (a_cons (o_ex (e_call g xh_l_one (Nat.le_trans (by decide) hk) (by decide +kernel) (a_cons (xo_l_text_0 g) (a_cons (o_ex (xn_l_text_1 g)) (a_nil) rfl) rfl) rfl (by decide +kernel) rfl rfl)) (a_cons (o_ex (e_call g xh_l_one (Nat.le_trans (by decide) hk) (by decide +kernel) (a_cons (xo_l_text_0 g) (a_cons (o_ex (xn_l_text_1 g)) (a_nil) rfl) rfl) rfl (by decide +kernel) rfl rfl)) (a_cons (o_ex (e_call g xh_l_one (Nat.le_trans (by decide) hk) (by decide +kernel) (a_cons (xo_l_text_0 g) (a_cons (o_ex (xn_l_text_2 g)) (a_nil) rfl) rfl) rfl (by decide +kernel) rfl rfl)) (a_nil) rfl) rfl) rfl) (by decide))) (o_ex (e_bin o_fdiv (o_ex (e_call g xh_l_draw (Nat.le_trans (by decide) hk) (by decide +kernel) (a_cons (xo_l_text_0 g) (a_cons (o_ex (e_int)) (a_nil) rfl) rfl) rfl (by decide +kernel) rfl rfl)) (o_ex (e_int)))) (by intro _ _; rfl)))) rfl (.inl rfl))) (by intro _; rfl))
  (s_one (s_retI g (i := 3) rfl (by first | exact Or.inl (by decide +kernel) | exact Or.inr (Or.inl (by decide +kernel)) | exact Or.inr (Or.inr (by decide +kernel))) (by decide +kernel) (by decide +kernel))))))
theorem xsc_l_text : FnScope xN_l_text ["_law_well_here"] (defScope xs_l_text) := ⟨rfl, rfl, rfl, by decide +kernel, rfl, by decide +kernel, by decide +kernel⟩
abbrev xF_l_text (K : PySem.W.Frag) (f : Addr) (fd : FuncData) : Prop := FunD K "_law_text" "_law_text" (defArgs xs_l_text) (defBody xs_l_text) (defScope xs_l_text) [] [] f fd
theorem xv_l_text (E : Env M) (xh_l_draw : FnV M 1 "_law_draw" 2 xf_l_draw) (xh_l_one : FnV M 2 "_law_one" 2 xf_l_one) {f : Addr} {fd : FuncData} (F : xF_l_text M.K f fd) (hm : M.mg "_law_text" = some (.ref f)) : FnV M 3 "_law_text" 1 xf_l_text :=
  ⟨f, fd, ["_law_well_here"], fn_ok (k := 2) F xsc_l_text (fun X W g => xw_l_text E xh_l_draw xh_l_one (Nat.le_refl _) g), hm, F.kp, rfl, F.bindsN fun _ _ _ _ _ _ us hl => match us, hl with | [_], _ => rfl⟩
end
/-! ### _law_good -/
abbrev xs_l_good : Stmt := topS 11
abbrev xN_l_good : List Str := ["_law_well_here", "_law_letters", "_law_found", "_law_at", "_law_k"]
abbrev xC_l_good : Cs := ⟨xN_l_good, defScope xs_l_good, fun _ => true⟩
def xb_l_good : SS := seq (setI 1 (cst (.str "abcdefghijklmnopqrstuvwxyz")))
  (seq (setI 2 (meth "str" fJoin (.ex (cst (.str ""))) [.ex (comp ⟨[.ex (app fAdd [.ex (cst (.int 1)), .ex (callF xf_l_draw [.sl 0, .ex (cst (.int 9))] [])])], sRng1⟩ (.nm 4) [4] (yes) (callF xf_l_one [.sl 0, .ex (nm 1)] []))]))
  (seq (ifS (tst (app fEq [.ex (callF xf_l_draw [.sl 0, .ex (cst (.int 2))] []), .ex (cst (.int 0))])) (seq (setI 3 (callF xf_l_draw [.sl 0, .ex (app fLen [.sl 2])] []))
  (setI 2 (app fAdd [.ex (app fAdd [.ex (slc (.sl 2) none (some (.sl 3))), .ex (callF xf_l_one [.sl 0, .ex (app fAdd [.sl 1, .ex (cst (.str "AZ0 _~"))])] [])]), .ex (slc (.sl 2) (some (.ex (app fAdd [.sl 3, .ex (cst (.int 1))]))) none)]))) (skip))
  (retI 2)))
def xf_l_good : FSem := fnS 5 xb_l_good
section
variable {M : Md} {W : WX} {k : Nat} {X : Cx}
theorem xo_l_good_0 (g : G M xC_l_good W k X) {pos : Pos} : PE X (.Name "_law_well_here" pos) (tO M W (.sl 0)) := e_sl g rfl (by first | exact Or.inl (by decide +kernel) | exact Or.inr (Or.inl (by decide +kernel)) | exact Or.inr (Or.inr (by decide +kernel))) (by decide +kernel) (by decide +kernel)
theorem xo_l_good_1 (g : G M xC_l_good W k X) {pos : Pos} : PE X (.Name "_law_letters" pos) (tO M W (.sl 1)) := e_sl g rfl (by first | exact Or.inl (by decide +kernel) | exact Or.inr (Or.inl (by decide +kernel)) | exact Or.inr (Or.inr (by decide +kernel))) (by decide +kernel) (by decide +kernel)
theorem xo_l_good_2 (g : G M xC_l_good W k X) {pos : Pos} : PE X (.Name "_law_found" pos) (tO M W (.sl 2)) := e_sl g rfl (by first | exact Or.inl (by decide +kernel) | exact Or.inr (Or.inl (by decide +kernel)) | exact Or.inr (Or.inr (by decide +kernel))) (by decide +kernel) (by decide +kernel)
theorem xo_l_good_3 (g : G M xC_l_good W k X) {pos : Pos} : PE X (.Name "_law_at" pos) (tO M W (.sl 3)) := e_sl g rfl (by first | exact Or.inl (by decide +kernel) | exact Or.inr (Or.inl (by decide +kernel)) | exact Or.inr (Or.inr (by decide +kernel))) (by decide +kernel) (by decide +kernel)
theorem xw_l_good (E : Env M) (xh_l_draw : FnV M 1 "_law_draw" 2 xf_l_draw) (xh_l_one : FnV M 2 "_law_one" 2 xf_l_one) (hk : 2 ≤ k) (g : G M xC_l_good W k X) : PSs X (defBody xs_l_good) (tS M W xb_l_good) :=
  s_cons (s_set g (i := 1) rfl (by first | exact Or.inl (by decide +kernel) | exact Or.inr (by decide +kernel)) (e_str) rfl (.inl rfl))
  (s_cons (s_set g (i := 2) rfl (by first | exact Or.inl (by decide +kernel) | exact Or.inr (by decide +kernel)) (e_meth g PySem.F.plainAttrs_str PySem.F.slot_str_join PySem.F.type_str_join (m_join g.hK) (o_ex (e_str)) (a_cons (o_ex (e_lc g (own := [("_law_k", 4)]) (i_rng1 g (by decide +kernel) E.b_range (a_cons (o_ex (e_bin (o_add g.hK) (o_ex (e_int)) (o_ex (e_call g xh_l_draw (Nat.le_trans (by decide) hk) (by decide +kernel) (a_cons (xo_l_good_0 g) (a_cons (o_ex (e_int)) (a_nil) rfl) rfl) rfl (by decide +kernel) rfl rfl)))) (a_nil) rfl) rfl) (by decide +kernel) rfl ⟨fun X g => p_nm g (i := 4) rfl (by first | exact Or.inl (by decide +kernel) | exact Or.inr (by decide +kernel)) (by first | exact .inr (by decide +kernel) | exact .inl (by decide +kernel)), fun X g => ts_nil, fun X g => e_call g xh_l_one (Nat.le_trans (by decide) hk) (by decide +kernel) (a_cons (e_sl g (i := 0) (x := "_law_well_here") rfl (by first | exact Or.inl (by decide +kernel) | exact Or.inr (Or.inl (by decide +kernel)) | exact Or.inr (Or.inr (by decide +kernel))) (by decide +kernel) (by decide +kernel)) (a_cons (o_ex (e_nm g (i := 1) (x := "_law_letters") rfl (by first | exact Or.inl (by decide +kernel) | exact Or.inr (Or.inl (by decide +kernel)) | exact Or.inr (Or.inr (by decide +kernel))) (by decide +kernel) (by decide +kernel))) (a_nil) rfl) rfl) rfl (by decide +kernel) rfl rfl⟩ (by intro _; rfl))) (a_nil) rfl) rfl rfl rfl rfl rfl) rfl (.inl rfl))
  (s_cons (s_if (t_cmp (o_eq g.hK g.hu) (o_ex (e_call g xh_l_draw (Nat.le_trans (by decide) hk) (by decide +kernel) (a_cons (xo_l_good_0 g) (a_cons (o_ex (e_int)) (a_nil) rfl) rfl) rfl (by decide +kernel) rfl rfl)) (o_ex (e_int)) rfl) (s_cons (s_set g (i := 3) rfl (by first | exact Or.inl (by decide +kernel) | exact Or.inr (by decide +kernel)) (e_call g xh_l_draw (Nat.le_trans (by decide) hk) (by decide +kernel) (a_cons (xo_l_good_0 g) (a_cons (o_ex (e_callB g (f := fLen) (c_len g.hK) (by decide +kernel) E.b_len boot_len (a_cons (xo_l_good_2 g) (a_nil) rfl) (by decide +kernel) (by decide +kernel) rfl rfl)) (a_nil) rfl) rfl) rfl (by decide +kernel) rfl rfl) rfl (.inl rfl))
  (s_one (s_set g (i := 2) rfl (by first | exact Or.inl (by decide +kernel) | exact Or.inr (by decide +kernel)) (e_bin (o_add g.hK) (o_ex (e_bin (o_add g.hK) (o_ex (e_slc g (ol := none) (oh := (some (.sl 3))) (xo_l_good_2 g) trivial (xo_l_good_3 g))) (o_ex (e_call g xh_l_one (Nat.le_trans (by decide) hk) (by decide +kernel) (a_cons (xo_l_good_0 g) (a_cons (o_ex (e_bin (o_add g.hK) (xo_l_good_1 g) (o_ex (e_str)))) (a_nil) rfl) rfl) rfl (by decide +kernel) rfl rfl)))) (o_ex (e_slc g (ol := (some (.ex (app fAdd [.sl 3, .ex (cst (.int 1))])))) (oh := none) (xo_l_good_2 g) (o_ex (e_bin (o_add g.hK) (xo_l_good_3 g) (o_ex (e_int)))) trivial))) rfl (.inl rfl)))) (s_nil))
  (s_one (s_retI g (i := 2) rfl (by first | exact Or.inl (by decide +kernel) | exact Or.inr (Or.inl (by decide +kernel)) | exact Or.inr (Or.inr (by decide +kernel))) (by decide +kernel) (by decide +kernel)))))
theorem xsc_l_good : FnScope xN_l_good ["_law_well_here"] (defScope xs_l_good) := ⟨rfl, rfl, rfl, by decide +kernel, rfl, by decide +kernel, by decide +kernel⟩
abbrev xF_l_good (K : PySem.W.Frag) (f : Addr) (fd : FuncData) : Prop := FunD K "_law_good" "_law_good" (defArgs xs_l_good) (defBody xs_l_good) (defScope xs_l_good) [] [] f fd
theorem xv_l_good (E : Env M) (xh_l_draw : FnV M 1 "_law_draw" 2 xf_l_draw) (xh_l_one : FnV M 2 "_law_one" 2 xf_l_one) {f : Addr} {fd : FuncData} (F : xF_l_good M.K f fd) (hm : M.mg "_law_good" = some (.ref f)) : FnV M 3 "_law_good" 1 xf_l_good :=
  ⟨f, fd, ["_law_well_here"], fn_ok (k := 2) F xsc_l_good (fun X W g => xw_l_good E xh_l_draw xh_l_one (Nat.le_refl _) g), hm, F.kp, rfl, F.bindsN fun _ _ _ _ _ _ us hl => match us, hl with | [_], _ => rfl⟩
end
/-! ### is_name -/
abbrev xs_is_name : Stmt := topS 4
abbrev xN_is_name : List Str := ["thing", "sign"]
abbrev xC_is_name : Cs := ⟨xN_is_name, defScope xs_is_name, fun _ => true⟩
def xb_is_name : SS := seq (ifS (bor (bnot (tru (.ex (app (fIsi "str") [.sl 0])))) (bnot (tst (chn fLe fLe (.ex (cst (.int 1))) (.ex (app fLen [.sl 0])) (.ex (cst (.int 8))))))) (retE (cst (.bl false))) (skip))
  (retE (app fAll [.ex (comp ⟨[.ex (nm 0)], sSeq⟩ (.nm 1) [1] (yes) (app fIn [.sl 1, .ex (cst (.str "abcdefghijklmnopqrstuvwxyz"))]))]))
def xf_is_name : FSem := fnS 2 xb_is_name
section
variable {M : Md} {W : WX} {k : Nat} {X : Cx}
theorem xo_is_name_0 (g : G M xC_is_name W k X) {pos : Pos} : PE X (.Name "thing" pos) (tO M W (.sl 0)) := e_sl g rfl (by first | exact Or.inl (by decide +kernel) | exact Or.inr (Or.inl (by decide +kernel)) | exact Or.inr (Or.inr (by decide +kernel))) (by decide +kernel) (by decide +kernel)
theorem xn_is_name_0 (g : G M xC_is_name W k X) {pos : Pos} : PE X (.Name "thing" pos) (tE M W (nm 0)) := e_nm g rfl (by first | exact Or.inl (by decide +kernel) | exact Or.inr (Or.inl (by decide +kernel)) | exact Or.inr (Or.inr (by decide +kernel))) (by decide +kernel) (by decide +kernel)
theorem xw_is_name (E : Env M)  (hk : 0 ≤ k) (g : G M xC_is_name W k X) : PSs X (defBody xs_is_name) (tS M W xb_is_name) :=
  s_cons (s_if (t_w (w_or (t_not (t_tru g (o_ex (e_isi g (by decide +kernel) E.b_isinstance (by decide +kernel) E.b_str boot_str (by decide +kernel) (by decide +kernel) (xo_is_name_0 g) rfl)) (by intro _; rfl))) (w_or1 (t_not (t_chn o_le o_le (o_ex (e_int)) (o_ex (e_callB g (f := fLen) (c_len g.hK) (by decide +kernel) E.b_len boot_len (a_cons (xo_is_name_0 g) (a_nil) rfl) (by decide +kernel) (by decide +kernel) rfl rfl)) (o_ex (e_glob g E.c_MOST_LETTERS (by decide +kernel) (by decide +kernel))) (by with_unfolding_all rfl)))))) (s_one (s_ret (e_bl))) (s_nil))
  (s_one (s_ret (e_callB g (f := fAll) ((c_all g.hK g.calm)) (by decide +kernel) E.b_all boot_all (a_cons (o_ex (e_lc g (own := [("sign", 1)]) (i_seq g (o_ex (xn_is_name_0 g))) (by decide +kernel) rfl ⟨fun X g => p_nm g (i := 1) rfl (by first | exact Or.inl (by decide +kernel) | exact Or.inr (by decide +kernel)) (by first | exact .inr (by decide +kernel) | exact .inl (by decide +kernel)), fun X g => ts_nil, fun X g => e_cmp (o_in g.hK g.hu) (e_sl g (i := 1) (x := "sign") rfl (by first | exact Or.inl (by decide +kernel) | exact Or.inr (Or.inl (by decide +kernel)) | exact Or.inr (Or.inr (by decide +kernel))) (by decide +kernel) (by decide +kernel)) (o_ex (e_glob g E.c_LETTERS (by decide +kernel) (by decide +kernel))) rfl⟩ (by intro _; rfl))) (a_nil) rfl) (by decide +kernel) (by decide +kernel) rfl rfl)))
theorem xsc_is_name : FnScope xN_is_name ["thing"] (defScope xs_is_name) := ⟨rfl, rfl, rfl, by decide +kernel, rfl, by decide +kernel, by decide +kernel⟩
abbrev xF_is_name (K : PySem.W.Frag) (f : Addr) (fd : FuncData) : Prop := FunD K "is_name" "is_name" (defArgs xs_is_name) (defBody xs_is_name) (defScope xs_is_name) [] [] f fd
theorem xv_is_name (E : Env M)  {f : Addr} {fd : FuncData} (F : xF_is_name M.K f fd) (hm : M.mg "is_name" = some (.ref f)) : FnV M 1 "is_name" 1 xf_is_name :=
  ⟨f, fd, ["thing"], fn_ok (k := 0) F xsc_is_name (fun X W g => xw_is_name E  (Nat.le_refl _) g), hm, F.kp, rfl, F.bindsN fun _ _ _ _ _ _ us hl => match us, hl with | [_], _ => rfl⟩
end
/-! ### is_whole -/
abbrev xs_is_whole : Stmt := topS 3
abbrev xN_is_whole : List Str := ["thing"]
abbrev xC_is_whole : Cs := ⟨xN_is_whole, defScope xs_is_whole, fun _ => true⟩
def xb_is_whole : SS := retE (andE (app (fIsi "int") [.sl 0]) (notE (.ex (app (fIsi "bool") [.sl 0]))))
def xf_is_whole : FSem := fnS 1 xb_is_whole
section
variable {M : Md} {W : WX} {k : Nat} {X : Cx}
theorem xo_is_whole_0 (g : G M xC_is_whole W k X) {pos : Pos} : PE X (.Name "thing" pos) (tO M W (.sl 0)) := e_sl g rfl (by first | exact Or.inl (by decide +kernel) | exact Or.inr (Or.inl (by decide +kernel)) | exact Or.inr (Or.inr (by decide +kernel))) (by decide +kernel) (by decide +kernel)
theorem xw_is_whole (E : Env M)  (hk : 0 ≤ k) (g : G M xC_is_whole W k X) : PSs X (defBody xs_is_whole) (tS M W xb_is_whole) :=
  s_one (s_ret (e_and g (e_isi g (by decide +kernel) E.b_isinstance (by decide +kernel) E.b_int boot_int (by decide +kernel) (by decide +kernel) (xo_is_whole_0 g) rfl) (e_and1 (e_not g (o_ex (e_isi g (by decide +kernel) E.b_isinstance (by decide +kernel) E.b_bool boot_bool (by decide +kernel) (by decide +kernel) (xo_is_whole_0 g) rfl))))))
theorem xsc_is_whole : FnScope xN_is_whole ["thing"] (defScope xs_is_whole) := ⟨rfl, rfl, rfl, by decide +kernel, rfl, by decide +kernel, by decide +kernel⟩
abbrev xF_is_whole (K : PySem.W.Frag) (f : Addr) (fd : FuncData) : Prop := FunD K "is_whole" "is_whole" (defArgs xs_is_whole) (defBody xs_is_whole) (defScope xs_is_whole) [] [] f fd
theorem xv_is_whole (E : Env M)  {f : Addr} {fd : FuncData} (F : xF_is_whole M.K f fd) (hm : M.mg "is_whole" = some (.ref f)) : FnV M 1 "is_whole" 1 xf_is_whole :=
  ⟨f, fd, ["thing"], fn_ok (k := 0) F xsc_is_whole (fun X W g => xw_is_whole E  (Nat.le_refl _) g), hm, F.kp, rfl, F.bindsN fun _ _ _ _ _ _ us hl => match us, hl with | [_], _ => rfl⟩
end
/-! ### _law_is_name -/
abbrev xs_l_is_name : Stmt := topS 12
abbrev xN_l_is_name : List Str := ["_law_text_here", "_law_strange", "_law_sign"]
abbrev xC_l_is_name : Cs := ⟨xN_l_is_name, defScope xs_l_is_name, fun _ => true⟩
def xb_l_is_name : SS := seq (setI 1 (comp ⟨[.ex (nm 0)], sSeq⟩ (.nm 2) [2] (bnot (tst (chn fLe fLe (.ex (cst (.str "a"))) (.sl 2) (.ex (cst (.str "z")))))) (nm 2)))
  (retE (andE (app fEq [.sl 1, .ex (disp mkL [])]) (chn fLe fLe (.ex (cst (.int 1))) (.ex (app fLen [.sl 0])) (.ex (cst (.int 8))))))
def xf_l_is_name : FSem := fnS 3 xb_l_is_name
section
variable {M : Md} {W : WX} {k : Nat} {X : Cx}
theorem xo_l_is_name_0 (g : G M xC_l_is_name W k X) {pos : Pos} : PE X (.Name "_law_text_here" pos) (tO M W (.sl 0)) := e_sl g rfl (by first | exact Or.inl (by decide +kernel) | exact Or.inr (Or.inl (by decide +kernel)) | exact Or.inr (Or.inr (by decide +kernel))) (by decide +kernel) (by decide +kernel)
theorem xn_l_is_name_0 (g : G M xC_l_is_name W k X) {pos : Pos} : PE X (.Name "_law_text_here" pos) (tE M W (nm 0)) := e_nm g rfl (by first | exact Or.inl (by decide +kernel) | exact Or.inr (Or.inl (by decide +kernel)) | exact Or.inr (Or.inr (by decide +kernel))) (by decide +kernel) (by decide +kernel)
theorem xo_l_is_name_1 (g : G M xC_l_is_name W k X) {pos : Pos} : PE X (.Name "_law_strange" pos) (tO M W (.sl 1)) := e_sl g rfl (by first | exact Or.inl (by decide +kernel) | exact Or.inr (Or.inl (by decide +kernel)) | exact Or.inr (Or.inr (by decide +kernel))) (by decide +kernel) (by decide +kernel)
theorem xw_l_is_name (E : Env M)  (hk : 0 ≤ k) (g : G M xC_l_is_name W k X) : PSs X (defBody xs_l_is_name) (tS M W xb_l_is_name) :=
  s_cons (s_setLc g (i := 1) (own := [("_law_sign", 2)]) rfl (by decide +kernel) rfl rfl (by decide +kernel) (i_seq g (o_ex (xn_l_is_name_0 g))) (by decide +kernel) rfl ⟨fun X g => p_nm g (i := 2) rfl (by first | exact Or.inl (by decide +kernel) | exact Or.inr (by decide +kernel)) (by first | exact .inr (by decide +kernel) | exact .inl (by decide +kernel)), fun X g => ts_one (t_not (t_chn o_le o_le (o_ex (e_str)) (e_sl g (i := 2) (x := "_law_sign") rfl (by first | exact Or.inl (by decide +kernel) | exact Or.inr (Or.inl (by decide +kernel)) | exact Or.inr (Or.inr (by decide +kernel))) (by decide +kernel) (by decide +kernel)) (o_ex (e_str)) (by with_unfolding_all rfl))), fun X g => e_nm g (i := 2) (x := "_law_sign") rfl (by first | exact Or.inl (by decide +kernel) | exact Or.inr (Or.inl (by decide +kernel)) | exact Or.inr (Or.inr (by decide +kernel))) (by decide +kernel) (by decide +kernel)⟩ (by intro _; rfl))
  (s_one (s_ret (e_and g (e_cmp (o_eq g.hK g.hu) (xo_l_is_name_1 g) (o_ex (e_lst (φs := []) (a_nil) (by decide))) rfl) (e_and1 (e_chn o_le o_le (o_ex (e_int)) (o_ex (e_callB g (f := fLen) (c_len g.hK) (by decide +kernel) E.b_len boot_len (a_cons (xo_l_is_name_0 g) (a_nil) rfl) (by decide +kernel) (by decide +kernel) rfl rfl)) (o_ex (e_int)) (by with_unfolding_all rfl))))))
theorem xsc_l_is_name : FnScope xN_l_is_name ["_law_text_here"] (defScope xs_l_is_name) := ⟨rfl, rfl, rfl, by decide +kernel, rfl, by decide +kernel, by decide +kernel⟩
abbrev xF_l_is_name (K : PySem.W.Frag) (f : Addr) (fd : FuncData) : Prop := FunD K "_law_is_name" "_law_is_name" (defArgs xs_l_is_name) (defBody xs_l_is_name) (defScope xs_l_is_name) [] [] f fd
theorem xv_l_is_name (E : Env M)  {f : Addr} {fd : FuncData} (F : xF_l_is_name M.K f fd) (hm : M.mg "_law_is_name" = some (.ref f)) : FnV M 1 "_law_is_name" 1 xf_l_is_name :=
  ⟨f, fd, ["_law_text_here"], fn_ok (k := 0) F xsc_l_is_name (fun X W g => xw_l_is_name E  (Nat.le_refl _) g), hm, F.kp, rfl, F.bindsN fun _ _ _ _ _ _ us hl => match us, hl with | [_], _ => rfl⟩
end
/-! ### law -/
abbrev xs_law : Stmt := topS 13
abbrev xN_law : List Str := ["_law_script", "_law_cell", "_law_well_here", "_law_text_here", "_law_far", "_law_whole", "_law_odd"]
abbrev xC_law : Cs := ⟨xN_law, defScope xs_law, fun _ => true⟩
def xb_law : SS := seq (forS ⟨[.ex (app fAdd [.ex (disp mkL [callF xf_l_cell_at [.ex (nm 0), .ex (cst (.int 0))] []]), .ex (slc (.sl 0) (some (.ex (cst (.int 1)))) (some (.ex (cst (.int 30)))))])], sSeq⟩ (.nm 1) (seq (setI 2 (callF xf_l_well [.ex (nm 1)] []))
  (seq (forS ⟨[.ex (disp mkL [callF xf_l_text [.sl 2] [], callF xf_l_good [.sl 2] []])], sSeq⟩ (.nm 3) (ifS (bor (tst (app fNe [.ex (callF xf_is_name [.ex (nm 3)] []), .ex (callF xf_l_is_name [.ex (nm 3)] [])])) (bor (bnot (tru (.ex (app (fIsi "bool") [.ex (callF xf_is_name [.ex (nm 3)] [])])))) (tru (.ex (callF xf_is_whole [.ex (nm 3)] []))))) (retE (cst (.bl false))) (skip)))
  (seq (setI 4 (app fSub [.ex (app fMod [.sl 1, .ex (app fPow [.ex (cst (.int 10)), .ex (cst (.int 60))])]), .ex (app fPow [.ex (cst (.int 10)), .ex (cst (.int 59))])]))
  (seq (setI 5 (app fItem [.ex (disp mkL [app fSub [.ex (callF xf_l_draw [.sl 2, .ex (cst (.int 9))] []), .ex (cst (.int 4))], app fSub [.ex (callF xf_l_draw [.sl 2, .ex (app fMul [.ex (cst (.int 2)), .ex (app fPow [.ex (cst (.int 10)), .ex (cst (.int 40))])])] []), .ex (app fPow [.ex (cst (.int 10)), .ex (cst (.int 40))])], nm 4]), .ex (callF xf_l_draw [.sl 2, .ex (cst (.int 3))] [])]))
  (seq (ifS (bor (tst (app fIsNot [.ex (callF xf_is_whole [.ex (nm 5)] []), .ex (cst (.bl true))])) (tru (.ex (callF xf_is_name [.ex (nm 5)] [])))) (retE (cst (.bl false))) (skip))
  (forS ⟨[.ex (disp mkL [cst (.bl true), cst (.bl false), cst .non, disp mkT [], disp mkT [cst (.str "a")], disp mkL [cst (.str "a")], disp mkD [], disp mkT [cst (.int 1)], disp mkL [nm 5], disp mkT [nm 5], app fStr [.sl 5]])], sSeq⟩ (.nm 6) (ifS (bor (tst (app fIsNot [.ex (callF xf_is_whole [.ex (nm 6)] []), .ex (cst (.bl false))])) (band (tru (.ex (callF xf_is_name [.ex (nm 6)] []))) (bnot (tru (.ex (app (fIsi "str") [.sl 6])))))) (retE (cst (.bl false))) (skip)))))))))
  (retE (cst (.bl true)))
def xf_law : FSem := fnS 7 xb_law
section
variable {M : Md} {W : WX} {k : Nat} {X : Cx}
theorem xo_law_0 (g : G M xC_law W k X) {pos : Pos} : PE X (.Name "_law_script" pos) (tO M W (.sl 0)) := e_sl g rfl (by first | exact Or.inl (by decide +kernel) | exact Or.inr (Or.inl (by decide +kernel)) | exact Or.inr (Or.inr (by decide +kernel))) (by decide +kernel) (by decide +kernel)
theorem xn_law_0 (g : G M xC_law W k X) {pos : Pos} : PE X (.Name "_law_script" pos) (tE M W (nm 0)) := e_nm g rfl (by first | exact Or.inl (by decide +kernel) | exact Or.inr (Or.inl (by decide +kernel)) | exact Or.inr (Or.inr (by decide +kernel))) (by decide +kernel) (by decide +kernel)
theorem xo_law_1 (g : G M xC_law W k X) {pos : Pos} : PE X (.Name "_law_cell" pos) (tO M W (.sl 1)) := e_sl g rfl (by first | exact Or.inl (by decide +kernel) | exact Or.inr (Or.inl (by decide +kernel)) | exact Or.inr (Or.inr (by decide +kernel))) (by decide +kernel) (by decide +kernel)
theorem xn_law_1 (g : G M xC_law W k X) {pos : Pos} : PE X (.Name "_law_cell" pos) (tE M W (nm 1)) := e_nm g rfl (by first | exact Or.inl (by decide +kernel) | exact Or.inr (Or.inl (by decide +kernel)) | exact Or.inr (Or.inr (by decide +kernel))) (by decide +kernel) (by decide +kernel)
theorem xo_law_2 (g : G M xC_law W k X) {pos : Pos} : PE X (.Name "_law_well_here" pos) (tO M W (.sl 2)) := e_sl g rfl (by first | exact Or.inl (by decide +kernel) | exact Or.inr (Or.inl (by decide +kernel)) | exact Or.inr (Or.inr (by decide +kernel))) (by decide +kernel) (by decide +kernel)
theorem xn_law_3 (g : G M xC_law W k X) {pos : Pos} : PE X (.Name "_law_text_here" pos) (tE M W (nm 3)) := e_nm g rfl (by first | exact Or.inl (by decide +kernel) | exact Or.inr (Or.inl (by decide +kernel)) | exact Or.inr (Or.inr (by decide +kernel))) (by decide +kernel) (by decide +kernel)
theorem xn_law_4 (g : G M xC_law W k X) {pos : Pos} : PE X (.Name "_law_far" pos) (tE M W (nm 4)) := e_nm g rfl (by first | exact Or.inl (by decide +kernel) | exact Or.inr (Or.inl (by decide +kernel)) | exact Or.inr (Or.inr (by decide +kernel))) (by decide +kernel) (by decide +kernel)
theorem xo_law_5 (g : G M xC_law W k X) {pos : Pos} : PE X (.Name "_law_whole" pos) (tO M W (.sl 5)) := e_sl g rfl (by first | exact Or.inl (by decide +kernel) | exact Or.inr (Or.inl (by decide +kernel)) | exact Or.inr (Or.inr (by decide +kernel))) (by decide +kernel) (by decide +kernel)
theorem xn_law_5 (g : G M xC_law W k X) {pos : Pos} : PE X (.Name "_law_whole" pos) (tE M W (nm 5)) := e_nm g rfl (by first | exact Or.inl (by decide +kernel) | exact Or.inr (Or.inl (by decide +kernel)) | exact Or.inr (Or.inr (by decide +kernel))) (by decide +kernel) (by decide +kernel)
theorem xo_law_6 (g : G M xC_law W k X) {pos : Pos} : PE X (.Name "_law_odd" pos) (tO M W (.sl 6)) := e_sl g rfl (by first | exact Or.inl (by decide +kernel) | exact Or.inr (Or.inl (by decide +kernel)) | exact Or.inr (Or.inr (by decide +kernel))) (by decide +kernel) (by decide +kernel)
theorem xn_law_6 (g : G M xC_law W k X) {pos : Pos} : PE X (.Name "_law_odd" pos) (tE M W (nm 6)) := e_nm g rfl (by first | exact Or.inl (by decide +kernel) | exact Or.inr (Or.inl (by decide +kernel)) | exact Or.inr (Or.inr (by decide +kernel))) (by decide +kernel) (by decide +kernel)
theorem xw_law (E : Env M) (xh_l_cell_at : FnV M 1 "_law_cell_at" 2 xf_l_cell_at) (xh_l_well : FnV M 1 "_law_well" 1 xf_l_well) (xh_l_text : FnV M 3 "_law_text" 1 xf_l_text) (xh_l_good : FnV M 3 "_law_good" 1 xf_l_good) (xh_is_name : FnV M 1 "is_name" 1 xf_is_name) (xh_l_is_name : FnV M 1 "_law_is_name" 1 xf_l_is_name) (xh_is_whole : FnV M 1 "is_whole" 1 xf_is_whole) (xh_l_draw : FnV M 1 "_law_draw" 2 xf_l_draw) (hk : 3 ≤ k) (g : G M xC_law W k X) : PSs X (defBody xs_law) (tS M W xb_law) :=
  s_cons (s_for g (i_seq g (o_ex (e_bin (o_add g.hK) (o_ex (e_lst (φs := [callF xf_l_cell_at [.ex (nm 0), .ex (cst (.int 0))] []]) (a_cons (o_ex (e_call g xh_l_cell_at (Nat.le_trans (by decide) hk) (by decide +kernel) (a_cons (o_ex (xn_law_0 g)) (a_cons (o_ex (e_int)) (a_nil) rfl) rfl) rfl (by decide +kernel) rfl rfl)) (a_nil) rfl) (by decide))) (o_ex (e_slc g (ol := (some (.ex (cst (.int 1))))) (oh := (some (.ex (cst (.int 30))))) (xo_law_0 g) (o_ex (e_int)) (o_ex (e_int))))))) (p_nm g (i := 1) rfl (by first | exact Or.inl (by decide +kernel) | exact Or.inr (by decide +kernel)) (.inl rfl)) (s_cons (s_set g (i := 2) rfl (by first | exact Or.inl (by decide +kernel) | exact Or.inr (by decide +kernel)) (e_call g xh_l_well (Nat.le_trans (by decide) hk) (by decide +kernel) (a_cons (o_ex (xn_law_1 g)) (a_nil) rfl) rfl (by decide +kernel) rfl rfl) rfl (.inl rfl))
  (s_cons (s_for g (i_seq g (o_ex (e_lst (φs := [callF xf_l_text [.sl 2] [], callF xf_l_good [.sl 2] []]) (a_cons (o_ex (e_call g xh_l_text (Nat.le_trans (by decide) hk) (by decide +kernel) (a_cons (xo_law_2 g) (a_nil) rfl) rfl (by decide +kernel) rfl rfl)) (a_cons (o_ex (e_call g xh_l_good (Nat.le_trans (by decide) hk) (by decide +kernel) (a_cons (xo_law_2 g) (a_nil) rfl) rfl (by decide +kernel) rfl rfl)) (a_nil) rfl) rfl) (by decide)))) (p_nm g (i := 3) rfl (by first | exact Or.inl (by decide +kernel) | exact Or.inr (by decide +kernel)) (.inl rfl)) (s_one (s_if (t_w (w_or (t_cmp (o_ne g.hK g.hu) (o_ex (e_call g xh_is_name (Nat.le_trans (by decide) hk) (by decide +kernel) (a_cons (o_ex (xn_law_3 g)) (a_nil) rfl) rfl (by decide +kernel) rfl rfl)) (o_ex (e_call g xh_l_is_name (Nat.le_trans (by decide) hk) (by decide +kernel) (a_cons (o_ex (xn_law_3 g)) (a_nil) rfl) rfl (by decide +kernel) rfl rfl)) rfl) (w_or (t_not (t_tru g (o_ex (e_isi g (by decide +kernel) E.b_isinstance (by decide +kernel) E.b_bool boot_bool (by decide +kernel) (by decide +kernel) (o_ex (e_call g xh_is_name (Nat.le_trans (by decide) hk) (by decide +kernel) (a_cons (o_ex (xn_law_3 g)) (a_nil) rfl) rfl (by decide +kernel) rfl rfl)) rfl)) (by intro _; rfl))) (w_or1 (t_tru g (o_ex (e_call g xh_is_whole (Nat.le_trans (by decide) hk) (by decide +kernel) (a_cons (o_ex (xn_law_3 g)) (a_nil) rfl) rfl (by decide +kernel) rfl rfl)) (by intro _; rfl)))))) (s_one (s_ret (e_bl))) (s_nil))) (by intro _; rfl))
  (s_cons (s_set g (i := 4) rfl (by first | exact Or.inl (by decide +kernel) | exact Or.inr (by decide +kernel)) (e_bin o_sub (o_ex (e_bin o_mod (xo_law_1 g) (o_ex (e_bin o_pow (o_ex (e_int)) (o_ex (e_int)))))) (o_ex (e_bin o_pow (o_ex (e_int)) (o_ex (e_int))))) rfl (.inl rfl))
  (s_cons (s_set g (i := 5) rfl (by first | exact Or.inl (by decide +kernel) | exact Or.inr (by decide +kernel)) (e_ix g (o_ex (e_lst (φs := [app fSub [.ex (callF xf_l_draw [.sl 2, .ex (cst (.int 9))] []), .ex (cst (.int 4))], app fSub [.ex (callF xf_l_draw [.sl 2, .ex (app fMul [.ex (cst (.int 2)), .ex (app fPow [.ex (cst (.int 10)), .ex (cst (.int 40))])])] []), .ex (app fPow [.ex (cst (.int 10)), .ex (cst (.int 40))])], nm 4]) (a_cons (o_ex (e_bin o_sub (o_ex (e_call g xh_l_draw (Nat.le_trans (by decide) hk) (by decide +kernel) (a_cons (xo_law_2 g) (a_cons (o_ex (e_int)) (a_nil) rfl) rfl) rfl (by decide +kernel) rfl rfl)) (o_ex (e_int)))) (a_cons (o_ex (e_bin o_sub (o_ex (e_call g xh_l_draw (Nat.le_trans (by decide) hk) (by decide +kernel) (a_cons (xo_law_2 g) (a_cons (o_ex (e_bin o_mul (o_ex (e_int)) (o_ex (e_bin o_pow (o_ex (e_int)) (o_ex (e_int)))))) (a_nil) rfl) rfl) rfl (by decide +kernel) rfl rfl)) (o_ex (e_bin o_pow (o_ex (e_int)) (o_ex (e_int)))))) (a_cons (o_ex (xn_law_4 g)) (a_nil) rfl) rfl) rfl) (by decide))) (o_ex (e_call g xh_l_draw (Nat.le_trans (by decide) hk) (by decide +kernel) (a_cons (xo_law_2 g) (a_cons (o_ex (e_int)) (a_nil) rfl) rfl) rfl (by decide +kernel) rfl rfl)) (by intro _ _; rfl)) rfl (.inl rfl))
  (s_cons (s_if (t_w (w_or (t_cmp o_isnot (o_ex (e_call g xh_is_whole (Nat.le_trans (by decide) hk) (by decide +kernel) (a_cons (o_ex (xn_law_5 g)) (a_nil) rfl) rfl (by decide +kernel) rfl rfl)) (o_ex (e_bl)) rfl) (w_or1 (t_tru g (o_ex (e_call g xh_is_name (Nat.le_trans (by decide) hk) (by decide +kernel) (a_cons (o_ex (xn_law_5 g)) (a_nil) rfl) rfl (by decide +kernel) rfl rfl)) (by intro _; rfl))))) (s_one (s_ret (e_bl))) (s_nil))
  (s_one (s_for g (i_seq g (o_ex (e_lst (φs := [cst (.bl true), cst (.bl false), cst .non, disp mkT [], disp mkT [cst (.str "a")], disp mkL [cst (.str "a")], disp mkD [], disp mkT [cst (.int 1)], disp mkL [nm 5], disp mkT [nm 5], app fStr [.sl 5]]) (a_cons (o_ex (e_bl)) (a_cons (o_ex (e_bl)) (a_cons (o_ex (e_non)) (a_cons (o_ex (e_tup (φs := []) (a_nil) (by decide))) (a_cons (o_ex (e_tup (φs := [cst (.str "a")]) (a_cons (o_ex (e_str)) (a_nil) rfl) (by decide))) (a_cons (o_ex (e_lst (φs := [cst (.str "a")]) (a_cons (o_ex (e_str)) (a_nil) rfl) (by decide))) (a_cons (o_ex (e_dict0)) (a_cons (o_ex (e_tup (φs := [cst (.int 1)]) (a_cons (o_ex (e_int)) (a_nil) rfl) (by decide))) (a_cons (o_ex (e_lst (φs := [nm 5]) (a_cons (o_ex (xn_law_5 g)) (a_nil) rfl) (by decide))) (a_cons (o_ex (e_tup (φs := [nm 5]) (a_cons (o_ex (xn_law_5 g)) (a_nil) rfl) (by decide))) (a_cons (o_ex (e_callTy g (f := fStr) (c_str) (by decide +kernel) E.b_str boot_str (a_cons (xo_law_5 g) (a_nil) rfl) (by decide +kernel) (by decide +kernel) rfl rfl)) (a_nil) rfl) rfl) rfl) rfl) rfl) rfl) rfl) rfl) rfl) rfl) rfl) (by decide)))) (p_nm g (i := 6) rfl (by first | exact Or.inl (by decide +kernel) | exact Or.inr (by decide +kernel)) (.inl rfl)) (s_one (s_if (t_w (w_or (t_cmp o_isnot (o_ex (e_call g xh_is_whole (Nat.le_trans (by decide) hk) (by decide +kernel) (a_cons (o_ex (xn_law_6 g)) (a_nil) rfl) rfl (by decide +kernel) rfl rfl)) (o_ex (e_bl)) rfl) (w_or1 (t_w (w_and (t_tru g (o_ex (e_call g xh_is_name (Nat.le_trans (by decide) hk) (by decide +kernel) (a_cons (o_ex (xn_law_6 g)) (a_nil) rfl) rfl (by decide +kernel) rfl rfl)) (by intro _; rfl)) (w_and1 (t_not (t_tru g (o_ex (e_isi g (by decide +kernel) E.b_isinstance (by decide +kernel) E.b_str boot_str (by decide +kernel) (by decide +kernel) (xo_law_6 g) rfl)) (by intro _; rfl))))))))) (s_one (s_ret (e_bl))) (s_nil))) (by intro _; rfl)))))))) (by intro _; rfl))
  (s_one (s_ret (e_bl)))
theorem xsc_law : FnScope xN_law ["_law_script"] (defScope xs_law) := ⟨rfl, rfl, rfl, by decide +kernel, rfl, by decide +kernel, by decide +kernel⟩
abbrev xF_law (K : PySem.W.Frag) (f : Addr) (fd : FuncData) : Prop := FunD K "law" "law" (defArgs xs_law) (defBody xs_law) (defScope xs_law) [] [] f fd
theorem xv_law (E : Env M) (xh_l_cell_at : FnV M 1 "_law_cell_at" 2 xf_l_cell_at) (xh_l_well : FnV M 1 "_law_well" 1 xf_l_well) (xh_l_text : FnV M 3 "_law_text" 1 xf_l_text) (xh_l_good : FnV M 3 "_law_good" 1 xf_l_good) (xh_is_name : FnV M 1 "is_name" 1 xf_is_name) (xh_l_is_name : FnV M 1 "_law_is_name" 1 xf_l_is_name) (xh_is_whole : FnV M 1 "is_whole" 1 xf_is_whole) (xh_l_draw : FnV M 1 "_law_draw" 2 xf_l_draw) {f : Addr} {fd : FuncData} (F : xF_law M.K f fd) (hm : M.mg "law" = some (.ref f)) : FnV M 4 "law" 1 xf_law :=
  ⟨f, fd, ["_law_script"], fn_ok (k := 3) F xsc_law (fun X W g => xw_law E xh_l_cell_at xh_l_well xh_l_text xh_l_good xh_is_name xh_l_is_name xh_is_whole xh_l_draw (Nat.le_refl _) g), hm, F.kp, rfl, F.bindsN fun _ _ _ _ _ _ us hl => match us, hl with | [_], _ => rfl⟩
end
/-! ### the head -/
def xd_l_well : He.DefD := ⟨("_law_well", none), "_law_well", "_law_well", defArgs xs_l_well, defBody xs_l_well, defScope xs_l_well, [], []⟩
def xd_l_cell_at : He.DefD := ⟨("_law_cell_at", none), "_law_cell_at", "_law_cell_at", defArgs xs_l_cell_at, defBody xs_l_cell_at, defScope xs_l_cell_at, [], []⟩
def xd_l_draw : He.DefD := ⟨("_law_draw", none), "_law_draw", "_law_draw", defArgs xs_l_draw, defBody xs_l_draw, defScope xs_l_draw, [], []⟩
def xd_l_one : He.DefD := ⟨("_law_one", none), "_law_one", "_law_one", defArgs xs_l_one, defBody xs_l_one, defScope xs_l_one, [], []⟩
def xd_l_text : He.DefD := ⟨("_law_text", none), "_law_text", "_law_text", defArgs xs_l_text, defBody xs_l_text, defScope xs_l_text, [], []⟩
def xd_l_good : He.DefD := ⟨("_law_good", none), "_law_good", "_law_good", defArgs xs_l_good, defBody xs_l_good, defScope xs_l_good, [], []⟩
def xd_is_name : He.DefD := ⟨("is_name", none), "is_name", "is_name", defArgs xs_is_name, defBody xs_is_name, defScope xs_is_name, [], []⟩
def xd_is_whole : He.DefD := ⟨("is_whole", none), "is_whole", "is_whole", defArgs xs_is_whole, defBody xs_is_whole, defScope xs_is_whole, [], []⟩
def xd_l_is_name : He.DefD := ⟨("_law_is_name", none), "_law_is_name", "_law_is_name", defArgs xs_l_is_name, defBody xs_l_is_name, defScope xs_l_is_name, [], []⟩
def xd_law : He.DefD := ⟨("law", none), "law", "law", defArgs xs_law, defBody xs_law, defScope xs_law, [], []⟩
def fnL : List He.DefD := [xd_l_well, xd_l_cell_at, xd_l_draw, xd_l_one, xd_l_text, xd_l_good, xd_is_name, xd_is_whole, xd_l_is_name, xd_law]
def faL : List He.Fa := [.glo "_law_well", .glo "_law_cell_at", .glo "_law_draw", .glo "_law_one", .glo "_law_text", .glo "_law_good", .glo "is_name", .glo "is_whole", .glo "_law_is_name", .glo "law", .free "all", .free "bool", .free "int", .free "isinstance", .free "len", .free "range", .free "str", .str "LETTERS" "abcdefghijklmnopqrstuvwxyz", .int "MOST_LETTERS" 8]
abbrev Rw : PySem.W.OpenRow := PySem.W.OpenLaw.row PySem.Challenge.rw_voicefold_k01_whole_numbers_and_names
abbrev hkX : PySem.W.Hook := He.hookD 4 faL fnL
def obX (s : PySem.W.SharedT) : He.AlD := He.obsDG 4 faL fnL (HandSHeadRun.getT s)
theorem obX_eq (s : PySem.W.SharedT) : obX s = hkX.obs s.abs := He.obsDG_eq (HandSHeadRun.getT_eq s)
def nmX : List Str := (["LETTERS", "MOST_LETTERS", "is_whole", "is_name", "_law_cell_at", "_law_well", "_law_draw", "_law_one", "_law_text", "_law_good", "_law_is_name"] : List Str)
theorem runX (w : World) : HandSHeadRun.RunEq Rw (PySem.W.view Rw.prog [13]) hkX obX 3000 nmX w := by
  intro os
  kernel_rfl
theorem factsX {P : Program} {w : World} {K : PySem.W.Frag} {h : Heap} {mg : Str → Option Value} {f : Addr} (Y : K.In h) (N : h.Ns mainGlobals mg) (hfa : mg ("law" : Str) = some (.ref f)) (c : He.SaysD faL fnL K) :
    ∃ fd : FuncData, (∀ (s : Shared) (v : Value), BindsTo s fd ⟨[v], []⟩ [("_law_script", v)]) ∧ ∀ base : Heap, K.In base → base.Ns mainGlobals mg → FnOk P w K mg base (CX P w) 4 f fd ["_law_script"] (spF ⟨P, w, base, K, mg, []⟩ 1 xf_law) := by
  obtain ⟨fd0, F0⟩ := c.def_ 0 (d := xd_l_well) rfl
  obtain ⟨fd1, F1⟩ := c.def_ 1 (d := xd_l_cell_at) rfl
  obtain ⟨fd2, F2⟩ := c.def_ 2 (d := xd_l_draw) rfl
  obtain ⟨fd3, F3⟩ := c.def_ 3 (d := xd_l_one) rfl
  obtain ⟨fd4, F4⟩ := c.def_ 4 (d := xd_l_text) rfl
  obtain ⟨fd5, F5⟩ := c.def_ 5 (d := xd_l_good) rfl
  obtain ⟨fd6, F6⟩ := c.def_ 6 (d := xd_is_name) rfl
  obtain ⟨fd7, F7⟩ := c.def_ 7 (d := xd_is_whole) rfl
  obtain ⟨fd8, F8⟩ := c.def_ 8 (d := xd_l_is_name) rfl
  obtain ⟨fd9, F9⟩ := c.def_ 9 (d := xd_law) rfl
  have g0 := He.glo_ok Y N (c.fact 0 (f := .glo "_law_well") rfl)
  have g1 := He.glo_ok Y N (c.fact 1 (f := .glo "_law_cell_at") rfl)
  have g2 := He.glo_ok Y N (c.fact 2 (f := .glo "_law_draw") rfl)
  have g3 := He.glo_ok Y N (c.fact 3 (f := .glo "_law_one") rfl)
  have g4 := He.glo_ok Y N (c.fact 4 (f := .glo "_law_text") rfl)
  have g5 := He.glo_ok Y N (c.fact 5 (f := .glo "_law_good") rfl)
  have g6 := He.glo_ok Y N (c.fact 6 (f := .glo "is_name") rfl)
  have g7 := He.glo_ok Y N (c.fact 7 (f := .glo "is_whole") rfl)
  have g8 := He.glo_ok Y N (c.fact 8 (f := .glo "_law_is_name") rfl)
  have g9 := He.glo_ok Y N (c.fact 9 (f := .glo "law") rfl)
  have g10 := He.free_ok Y N (c.fact 10 (f := .free "all") rfl)
  have g11 := He.free_ok Y N (c.fact 11 (f := .free "bool") rfl)
  have g12 := He.free_ok Y N (c.fact 12 (f := .free "int") rfl)
  have g13 := He.free_ok Y N (c.fact 13 (f := .free "isinstance") rfl)
  have g14 := He.free_ok Y N (c.fact 14 (f := .free "len") rfl)
  have g15 := He.free_ok Y N (c.fact 15 (f := .free "range") rfl)
  have g16 := He.free_ok Y N (c.fact 16 (f := .free "str") rfl)
  have g17 := He.str_ok Y N (c.fact 17 (f := .str "LETTERS" "abcdefghijklmnopqrstuvwxyz") rfl)
  have g18 := He.int_ok Y N (c.fact 18 (f := .int "MOST_LETTERS" 8) rfl)
  have e := hfa.symm.trans g9
  cases e
  have b := FunD.bindsA (ps := ["_law_script"]) F9 fun _ _ _ _ _ _ us hl => match us, hl with | [_], _ => rfl
  refine ⟨fd9, fun s v => b s [v] rfl, fun base _ _ => ?_⟩
  have E : Env ⟨P, w, base, K, mg, []⟩ := ⟨g10, g11, g12, g13, g14, g15, g16, glob_str g17, glob_int g18⟩
  have v0 := xv_l_well (M := ⟨P, w, base, K, mg, []⟩) E  F0 g0
  have v1 := xv_l_cell_at (M := ⟨P, w, base, K, mg, []⟩) E  F1 g1
  have v2 := xv_l_draw (M := ⟨P, w, base, K, mg, []⟩) E  F2 g2
  have v3 := xv_l_one (M := ⟨P, w, base, K, mg, []⟩) E v2 F3 g3
  have v4 := xv_l_text (M := ⟨P, w, base, K, mg, []⟩) E v2 v3 F4 g4
  have v5 := xv_l_good (M := ⟨P, w, base, K, mg, []⟩) E v2 v3 F5 g5
  have v6 := xv_is_name (M := ⟨P, w, base, K, mg, []⟩) E  F6 g6
  have v7 := xv_is_whole (M := ⟨P, w, base, K, mg, []⟩) E  F7 g7
  have v8 := xv_l_is_name (M := ⟨P, w, base, K, mg, []⟩) E  F8 g8
  exact fn_ok (M := ⟨P, w, base, K, mg, []⟩) (k := 3) F9 xsc_law (fun X W g => xw_law E v1 v0 v4 v5 v6 v8 v7 v2 (Nat.le_refl _) g)
end K01

namespace K01
open PySem PySem.Spec PyProof.Rows L2 VF
/-- a well after at most n draws -/
def Well (n : Nat) (d : D) : Prop := ∃ a b c : Int, d = .lst [.int a, .int b, .int c] ∧ 0 ≤ a ∧ 0 ≤ b ∧ b < 2147483629 ∧ 0 ≤ c ∧ c ≤ n
theorem well_ok (cell : Int) : ∃ d, xf_l_well [.val (.int cell)] = .ok (.own d) [.val (.int cell)] ∧ Well 0 d := by
  have h1 := Int.fmod_nonneg_of_pos cell (b := 2147483629) (by decide)
  have h2 := Int.fmod_lt_of_pos cell (b := 2147483629) (by decide)
  by_cases h : (1000000000000000000 : Int) ≤ cell
  · refine ⟨.lst [.int cell, .int (cell.fmod 2147483629), .int 0], ?_, cell, _, 0, rfl, by omega, h1, h2, by decide, by decide⟩
    simp [xf_l_well, fnS, xb_l_well, finA, h, atI, ixN, fPow_int]
  · refine ⟨.lst [.int 0, .int (cell.fmod 2147483629), .int 0], ?_, 0, _, 0, rfl, by omega, h1, h2, by decide, by decide⟩
    simp [xf_l_well, fnS, xb_l_well, finA, h, atI, ixN, fPow_int]
theorem draw_ok {n : Nat} {d : D} {s : Int} (w : Well n d) (hn : n ≤ 1000000) (hs : 0 < s) (hl : s.natAbs.log2 < 9000) :
    ∃ r d', xf_l_draw [.ref d, .val (.int s)] = .ok (.val (.int r)) [.ref d', .val (.int s)] ∧ Well (n + 1) d' ∧ 0 ≤ r ∧ r < s := by
  obtain ⟨a, b, c, rfl, h1, h2, h3, h4, h5⟩ := w
  have s0 : s ≠ 0 := by omega
  by_cases ha : 0 < a
  · refine ⟨a.fmod s, .lst [.int (a.fdiv s), .int b, .int c], ?_, ⟨_, _, _, rfl, Int.fdiv_nonneg h1 (by omega), h2, h3, h4, by push_cast; omega⟩, Int.fmod_nonneg_of_pos a hs, Int.fmod_lt_of_pos a hs⟩
    simp [xf_l_draw, fnS, xb_l_draw, finA, ha, atI, ixN, s0, hl, fFdiv_int]
  · have p1 := fMul_ok (i := 7919) (j := c + 1) (by decide) (by omega)
    have p2 := fPow_ok (i := b + 7919 * (c + 1) + 1) (j := 5) (by decide) (by decide) (by omega)
    rw [show (5 : Int).toNat = 5 from rfl] at p2
    generalize hm : ((b + 7919 * (c + 1) + 1) ^ 5).fmod 2147483647 = m
    have m1 : 0 ≤ m := by rw [← hm]; exact Int.fmod_nonneg_of_pos _ (by decide)
    have m2 : m < 2147483647 := by rw [← hm]; exact Int.fmod_lt_of_pos _ (by decide)
    have q1 : 0 ≤ m.fdiv 1009 := Int.fdiv_nonneg m1 (by decide)
    have q2 : m.fdiv 1009 ≤ m := by rw [Int.fdiv_eq_ediv_of_nonneg _ (by decide)]; omega
    have p3 := fMul_ok (i := m) (j := m.fdiv 1009 + 69621 + (c + 1)) (by omega) (by omega)
    generalize hk : (m * (m.fdiv 1009 + 69621 + (c + 1))).fmod 2147483629 = k
    have k1 : 0 ≤ k := by rw [← hk]; exact Int.fmod_nonneg_of_pos _ (by decide)
    have k2 : k < 2147483629 := by rw [← hk]; exact Int.fmod_lt_of_pos _ (by decide)
    have r1 : 0 ≤ k.fdiv 2003 := Int.fdiv_nonneg k1 (by decide)
    have r2 : k.fdiv 2003 ≤ k := by rw [Int.fdiv_eq_ediv_of_nonneg _ (by decide)]; omega
    have p4 := fMul_ok (i := k) (j := k.fdiv 2003 + 40692) (by omega) (by omega)
    refine ⟨((k * (k.fdiv 2003 + 40692)).fmod 2147483399).fmod s, .lst [.int a, .int b, .int (c + 1)], ?_, ⟨_, _, _, rfl, h1, h2, h3, by omega, by push_cast; omega⟩, Int.fmod_nonneg_of_pos _ hs, Int.fmod_lt_of_pos _ hs⟩
    have l1 := fFdiv_ok (i := m) (j := 1009) (by decide) (by decide)
    have l2 := fFdiv_ok (i := k) (j := 2003) (by decide) (by decide)
    simp [xf_l_draw, fnS, xb_l_draw, finA, ha, atI, ixN, s0, p1, p2, hm, p3, hk, p4, l1, l2]
theorem one_ok {n : Nat} {d : D} {z : Str} (w : Well n d) (hn : n ≤ 1000000) (h0 : 0 < z.length) (h1 : z.length ≤ 1000) :
    ∃ c d', xf_l_one [.ref d, .val (.str z)] = .ok (.val (.str ⟨#[c]⟩)) [.ref d', .val (.str z)] ∧ Well (n + 1) d' := by
  obtain ⟨r, d', e, w', r0, r1⟩ := draw_ok (s := (z.length : Int)) w hn (by omega) (by have := l64 (i := (z.length : Int)) (by omega); omega)
  obtain ⟨c, ec⟩ := item_str (z := z) r0 r1 (by omega)
  have hs : z.length ≤ sizeLine := by rw [sizeLine_eq]; omega
  exact ⟨c, d', by simp [xf_l_one, fnS, xb_l_one, finA, e, ec, hs], w'⟩
abbrev az : Str := "abcdefghijklmnopqrstuvwxyz"
abbrev oth : Str := "ABCZ0189 _-.,:=>{}[]()'@\n~!"
theorem az_len : az.length = 26 := by decide +kernel
theorem oth_len : oth.length = 27 := by decide +kernel
theorem rng_ok {r : Int} (h0 : 0 ≤ r) (h1 : r ≤ 1000) : sRng1 [.int r] = some ((List.range r.toNat).map fun i => .int (i : Nat)) := by
  show (if r ≤ 16777216 ∧ -(2 ^ 62) ≤ r then some ((List.range r.toNat).map fun i => D.int (i : Nat)) else none) = _
  rw [if_pos (by omega)]
theorem text_ok {n : Nat} {d : D} (w : Well n d) (hn : n ≤ 1000) : ∃ z d', xf_l_text [.ref d] = .ok (.val (.str z)) [.ref d'] ∧ Well (n + 41) d' ∧ z.length ≤ 10 := by
  obtain ⟨r, d1, e, w1, r0, r1⟩ := draw_ok (s := 11) w (by omega) (by decide) (by decide)
  have er := rng_ok (r := r) r0 (by omega)
  let P : Nat → En → Prop := fun m ρ => ∃ d z x, ρ = [some (.ref d), some (.val (.str az)), some (.val (.str oth)), some (.val (.str z)), x] ∧ Well (n + 1 + 4 * m) d ∧ z.length ≤ m ∧ noRef x = true
  have lp := loop_nxN (tg := .nm 4) (body := setI 3 (app fAdd [.sl 3, .ex (app fItem [.ex (disp mkL [callF xf_l_one [.sl 0, .ex (nm 1)] [], callF xf_l_one [.sl 0, .ex (nm 1)] [], callF xf_l_one [.sl 0, .ex (nm 2)] []]), .ex (app fFdiv [.ex (callF xf_l_draw [.sl 0, .ex (cst (.int 7))] []), .ex (cst (.int 3))])])])) P
    (items := (List.range r.toNat).map fun i => .int (i : Nat)) (n := 0) (ρ := [some (.ref d1), some (.val (.str az)), some (.val (.str oth)), some (.val (.str "")), none]) ⟨d1, "", none, rfl, by simpa using w1, by decide, rfl⟩ ?_
  · obtain ⟨ρ', e2, d2, z, x, rfl, w2, hz, _⟩ := lp
    simp only [List.length_map, List.length_range, Nat.zero_add] at w2 hz
    refine ⟨z, d2, ?_, ?_, by omega⟩
    · simp [xf_l_text, fnS, xb_l_text, finA, e, er, e2]
    · obtain ⟨a, b, c, h1, h2, h3, h4, h5, h6⟩ := w2
      exact ⟨a, b, c, h1, h2, h3, h4, h5, by push_cast at h6 ⊢; omega⟩
  · rintro dd hd m ρ hm ⟨d, z, x, rfl, w2, hz, hx⟩
    simp only [List.length_map, List.length_range, Nat.zero_add] at hm
    obtain ⟨c1, d3, e3, w3⟩ := one_ok (z := az) w2 (by omega) (by rw [az_len]; decide) (by rw [az_len]; decide)
    obtain ⟨c2, d4, e4, w4⟩ := one_ok (z := az) w3 (by omega) (by rw [az_len]; decide) (by rw [az_len]; decide)
    obtain ⟨c3, d5, e5, w5⟩ := one_ok (z := oth) w4 (by omega) (by rw [oth_len]; decide) (by rw [oth_len]; decide)
    obtain ⟨q, d6, e6, w6, q0, q1⟩ := draw_ok (s := 7) w5 (by omega) (by decide) (by decide)
    have eq3 := fFdiv_ok (i := q) (j := 3) (by decide) (by decide)
    have ei : ∃ c, atI [D.str ⟨#[c1]⟩, .str ⟨#[c2]⟩, .str ⟨#[c3]⟩] (q.fdiv 3) = some (.str ⟨#[c]⟩) := by
      rw [Int.fdiv_eq_ediv_of_nonneg _ (by decide)]
      have h3 : q / 3 = 0 ∨ q / 3 = 1 ∨ q / 3 = 2 := by omega
      rcases h3 with h3 | h3 | h3
      · exact ⟨c1, by rw [h3]; rfl⟩
      · exact ⟨c2, by rw [h3]; rfl⟩
      · exact ⟨c3, by rw [h3]; rfl⟩
    obtain ⟨c, ei⟩ := ei
    have ea : fAdd [.str z, .str ⟨#[c]⟩] = some (.val (.str (z ++ ⟨#[c]⟩))) := fAdd_str (by rw [str_len_one]; omega)
    refine ⟨[some (.ref d), some (.val (.str az)), some (.val (.str oth)), some (.val (.str z)), some (.val dd)], by simp [hx], [some (.ref d6), some (.val (.str az)), some (.val (.str oth)), some (.val (.str (z ++ ⟨#[c]⟩))), some (.val dd)], ?_, d6, z ++ ⟨#[c]⟩, some (.val dd), rfl, ?_, by rw [str_len_app, str_len_one]; omega, rfl⟩
    · simp [e3, e4, e5, e6, eq3, ei, ea]
    · obtain ⟨a, b, c, h1, h2, h3, h4, h5, h6⟩ := w6
      exact ⟨a, b, c, h1, h2, h3, h4, h5, by push_cast at h6 ⊢; omega⟩
theorem Well.mono {n m : Nat} {d : D} (h : Well n d) (l : n ≤ m) : Well m d := by
  obtain ⟨a, b, c, h1, h2, h3, h4, h5, h6⟩ := h
  exact ⟨a, b, c, h1, h2, h3, h4, h5, by omega⟩
theorem join_ok (ys : List Nat) (h : ys.length ≤ 100) : fJoin [.str "", .lst (ys.map fun c => .str ⟨#[c]⟩)] = some (.val (.str (Txt.join "" (ys.map fun c => ⟨#[c]⟩)))) ∧ (Txt.join "" (ys.map fun c => (⟨#[c]⟩ : Str))).length = ys.length := by
  have e0 : (("" : Str)).length = 0 := by decide
  have es : ((ys.map fun c => (⟨#[c]⟩ : Str)).map (·.length)).sum = ys.length := by
    induction ys with
    | nil => rfl
    | cons y ys ih => simp only [List.map_cons, List.sum_cons, List.length_cons]; rw [ih (by simp at h; omega), str_len_one]; omega
  refine ⟨?_, ?_⟩
  · have ea := allOf_map (g := D.str?) (c := D.str) (fun a => rfl) (ys.map fun c => (⟨#[c]⟩ : Str))
    rw [List.map_map] at ea
    show (match allOf D.str? (ys.map fun c => D.str ⟨#[c]⟩) with | some zs => _ | none => _) = _
    rw [show (ys.map fun c => D.str ⟨#[c]⟩) = ys.map (D.str ∘ fun c => ⟨#[c]⟩) from rfl, ea]
    show (if _ then _ else _) = _
    rw [if_pos (by rw [es, e0, List.length_map]; omega)]
  · show (Builtin.Str.glued "" (ys.map fun c => (⟨#[c]⟩ : Str))).length = _
    rw [PySem.size_glued, es, e0]
    omega
theorem good_ok {n : Nat} {d : D} (w : Well n d) (hn : n ≤ 1000) : ∃ z d', xf_l_good [.ref d] = .ok (.val (.str z)) [.ref d'] ∧ Well (n + 13) d' ∧ z.length ≤ 20 := by
  obtain ⟨r, d1, e, w1, r0, r1⟩ := draw_ok (s := 9) w (by omega) (by decide) (by decide)
  have er := rng_ok (r := 1 + r) (by omega) (by omega)
  let P : Nat → En → List D → Prop := fun m ρ acc => ∃ (d : D) (ys : List Nat), ρ = [some (.ref d), some (.val (.str az)), none, none, none] ∧ Well (n + 1 + m) d ∧ acc = ys.map (fun c => .str ⟨#[c]⟩) ∧ ys.length = m
  have lp := loopC_ok (tg := .nm 4) (own := [4]) (t := yes) (φ := callF xf_l_one [.sl 0, .ex (nm 1)] []) P (items := (List.range (1 + r).toNat).map fun i => .int (i : Nat)) (n := 0) (ρ := [some (.ref d1), some (.val (.str az)), none, none, none]) (acc := []) ⟨d1, [], rfl, by simpa using w1, rfl, rfl⟩ ?_
  · obtain ⟨out, ρ', e2, d2, ys, rfl, w2, rfl, hy⟩ := lp
    simp only [List.length_map, List.length_range, Nat.zero_add] at w2 hy
    obtain ⟨ej, el⟩ := join_ok ys (by omega)
    generalize Txt.join "" (ys.map fun c => (⟨#[c]⟩ : Str)) = z at ej el
    obtain ⟨q, d3, e3, w3, q0, q1⟩ := draw_ok (s := 2) w2 (by omega) (by decide) (by decide)
    have eq0 : fEq [.int q, .int 0] = some (.val (.bl (q == 0))) := fEq_ok rfl rfl
    by_cases hq : q = 0
    · subst hq
      obtain ⟨p, d4, e4, w4, p0, p1⟩ := draw_ok (s := (z.length : Int)) w3 (by omega) (by omega) (by have := l64 (i := (z.length : Int)) (by omega); omega)
      have hzs : z.length ≤ sizeLine := by rw [sizeLine_eq]; omega
      have el2 : (("AZ0 _~" : Str)).length = 6 := by decide +kernel
      have ea : fAdd [.str az, .str "AZ0 _~"] = some (.val (.str (az ++ "AZ0 _~"))) := fAdd_str (by rw [az_len, el2]; decide)
      obtain ⟨c, d5, e5, w5⟩ := one_ok (z := az ++ "AZ0 _~") w4 (by omega) (by rw [str_len_app, az_len, el2]; decide) (by rw [str_len_app, az_len, el2]; decide)
      have hc1 : ∀ lo hi, (cutS z lo hi).length ≤ 9 := fun lo hi => by
        unfold cutS
        simp only [Str.length, List.size_toArray, List.length_take, List.length_drop, Array.length_toList] at el ⊢
        omega
      have s1 : fSl (.str z) none (some p) = some (.val (.str (cutS z none (some p)))) := fSl_str (by omega)
      have s2 : fSl (.str z) (some (p + 1)) none = some (.val (.str (cutS z (some (p + 1)) none))) := fSl_str (by omega)
      have a1 : fAdd [.str (cutS z none (some p)), .str ⟨#[c]⟩] = some (.val (.str (cutS z none (some p) ++ ⟨#[c]⟩))) := fAdd_str (by rw [str_len_one]; have := hc1 none (some p); omega)
      have a2 : fAdd [.str (cutS z none (some p) ++ ⟨#[c]⟩), .str (cutS z (some (p + 1)) none)] = some (.val (.str (cutS z none (some p) ++ ⟨#[c]⟩ ++ cutS z (some (p + 1)) none))) :=
        fAdd_str (by rw [str_len_app, str_len_one]; have := hc1 none (some p); have := hc1 (some (p + 1)) none; omega)
      refine ⟨cutS z none (some p) ++ ⟨#[c]⟩ ++ cutS z (some (p + 1)) none, d5, ?_, w5.mono (by omega), ?_⟩
      · simp [xf_l_good, fnS, xb_l_good, finA, e, er, e2, ej, D.ty, e3, eq0, e4, hzs, s1, ea, e5, a1, s2, a2]
      · rw [str_len_app, str_len_app, str_len_one]
        have := hc1 none (some p)
        have := hc1 (some (p + 1)) none
        omega
    · refine ⟨z, d3, ?_, w3.mono (by omega), by omega⟩
      have hq' : (q == 0) = false := by simpa using hq
      simp [xf_l_good, fnS, xb_l_good, finA, e, er, e2, ej, D.ty, e3, eq0, hq', hq]
  · rintro dd hd m ρ acc hm ⟨d, ys, rfl, w2, rfl, hy⟩
    simp only [List.length_map, List.length_range, Nat.zero_add] at hm
    obtain ⟨c, d3, e3, w3⟩ := one_ok (z := az) w2 (by omega) (by rw [az_len]; decide) (by rw [az_len]; decide)
    refine ⟨[some (.ref d), some (.val (.str az)), none, none, some (.val dd)], by simp, true, _, rfl, fun _ => ⟨.val (.str ⟨#[c]⟩), [some (.ref d3), some (.val (.str az)), none, none, some (.val dd)], by simp [e3], d3, ys ++ [c], by simp, w3.mono (by omega), by simp, by simp [hy]⟩, fun h => by cases h⟩
/-! ### names -/
theorem kss : kitB "str" "str" = some true := by decide +kernel
theorem az_list : az.cps.toList = List.range' 97 26 := by decide +kernel
theorem az_mem (c : Nat) : (c ∈ az.cps.toList) ↔ 97 ≤ c ∧ c ≤ 122 := by
  rw [az_list, List.mem_range'_1]
  omega
def fine (z : Str) : Bool := z.cps.toList.all fun c => decide (97 ≤ c ∧ c ≤ 122)
def nameOk (z : Str) : Bool := decide (1 ≤ z.length ∧ z.length ≤ 8) && fine z
theorem is_str {z : Str} : isB "str" (.str z) = some true := kss
theorem fIsi_no {d : D} {T : String} (h : isB T d = some false) : fIsi T [d] = some (.val (.bl false)) := by
  show (isB T d).map _ = _
  rw [h]; rfl
theorem fIsi_yes {d : D} {T : String} (h : isB T d = some true) : fIsi T [d] = some (.val (.bl true)) := by
  show (isB T d).map _ = _
  rw [h]; rfl
theorem fIsi_str {z : Str} : fIsi "str" [.str z] = some (.val (.bl true)) := fIsi_yes is_str
theorem name_no {d : D} (h : isB "str" d = some false) : xf_is_name [.val d] = .ok (.val (.bl false)) [.val d] := by
  have e := fIsi_no h
  simp [xf_is_name, fnS, xb_is_name, finA, e]
theorem fIn_one (c : Nat) : fIn [.str ⟨#[c]⟩, .str az] = some (.val (.bl (decide (97 ≤ c ∧ c ≤ 122)))) := by
  show some (Rv.val (.bl (!(Builtin.Str.occurrences az ⟨#[c]⟩ 0 az.length 1).isEmpty))) = _
  rw [PySem.StrLaws.found_one]
  congr 3
  exact decide_eq_decide.mpr (az_mem c)
theorem name_ok {z : Str} (hz : z.length ≤ 1000) : xf_is_name [.val (.str z)] = .ok (.val (.bl (nameOk z))) [.val (.str z)] := by
  have hs : z.length ≤ sizeLine := by rw [sizeLine_eq]; omega
  have es := sSeq_str (z := z) (by omega)
  have lp := loopC_pure (tg := .nm 1) (own := [1]) (t := yes) (φ := app fIn [.sl 1, .ex (cst (.str az))]) (p := fun _ => true) (ρ := [some (.val (.str z)), none])
    (f := fun d => match d with | .str ⟨⟨[c]⟩⟩ => .bl (decide (97 ≤ c ∧ c ≤ 122)) | _ => .non) (items := z.cps.toList.map fun c => .str ⟨#[c]⟩) (acc := []) fun d hd => ?_
  · have ea := allOf_map (g := D.bl?) (c := D.bl) (fun a => rfl) (z.cps.toList.map fun c => decide (97 ≤ c ∧ c ≤ 122))
    have el : ((z.cps.toList.map fun c => D.str ⟨#[c]⟩).filter fun _ => true).map (fun d => match d with | .str ⟨⟨[c]⟩⟩ => D.bl (decide (97 ≤ c ∧ c ≤ 122)) | _ => .non) = (z.cps.toList.map fun c => decide (97 ≤ c ∧ c ≤ 122)).map D.bl := by
      rw [List.filter_eq_self.mpr (fun _ _ => rfl), List.map_map, List.map_map]
      rfl
    rw [el, List.nil_append] at lp
    have fa : fAll [.lst ((z.cps.toList.map fun c => decide (97 ≤ c ∧ c ≤ 122)).map D.bl)] = some (.val (.bl (fine z))) := by
      show (match allOf D.bl? _ with | some bs => _ | none => _) = _
      rw [ea]
      simp [fine, List.all_map, Function.comp_def]
    generalize (z.cps.toList.map fun c => decide (97 ≤ c ∧ c ≤ 122)).map D.bl = L at lp fa
    by_cases h1 : 1 ≤ z.length
    · by_cases h2 : z.length ≤ 8
      · have h1' : (1 : Int) ≤ (z.length : Int) := by omega
        have h2' : (z.length : Int) ≤ 8 := by omega
        have en : nameOk z = fine z := by simp [nameOk, h1, h2]
        rw [en]
        simp [xf_is_name, fnS, xb_is_name, finA, fIsi_str, hs, h1', h2', es, lp, fa]
      · have h1' : (1 : Int) ≤ (z.length : Int) := by omega
        have h2' : ¬ (z.length : Int) ≤ 8 := by omega
        have en : nameOk z = false := by simp [nameOk, h1, h2]
        rw [en]
        simp [xf_is_name, fnS, xb_is_name, finA, fIsi_str, hs, h1', h2']
    · have h1' : ¬ (1 : Int) ≤ (z.length : Int) := by omega
      have en : nameOk z = false := by simp [nameOk, h1]
      rw [en]
      simp [xf_is_name, fnS, xb_is_name, finA, fIsi_str, hs, h1']
  · obtain ⟨c, hc, rfl⟩ := List.mem_map.mp hd
    exact ⟨[some (.val (.str z)), some (.val (.str ⟨#[c]⟩))], by simp, _, rfl, fun _ => ⟨.val (.bl (decide (97 ≤ c ∧ c ≤ 122))), [some (.val (.str z)), some (.val (.str ⟨#[c]⟩))], by simp [fIn_one], rfl, by simp⟩, fun h => by cases h⟩
abbrev sa : Str := "a"
abbrev sz : Str := "z"
theorem sa_l : sa.cps.toList = [97] := by decide +kernel
theorem sz_l : sz.cps.toList = [122] := by decide +kernel
theorem le_a (c : Nat) : fLe [.str sa, .str ⟨#[c]⟩] = some (.val (.bl (decide (97 ≤ c)))) := by
  show some (Rv.val (.bl (!decide ((⟨#[c]⟩ : Str).cps.toList < sa.cps.toList)))) = _
  rw [sa_l]
  congr 3
  show (!decide ([c] < [97])) = _
  have e : decide ([c] < [97]) = decide (c < 97) := by
    refine decide_eq_decide.mpr ⟨fun h => ?_, fun h => List.Lex.rel h⟩
    cases h with
    | rel h => exact h
    | cons h => cases h
  rw [e]
  by_cases h : c < 97
  · have h2 : ¬ 97 ≤ c := by omega
    simp [h, h2]
  · have h2 : 97 ≤ c := by omega
    simp [h, h2]
theorem le_z (c : Nat) : fLe [.str ⟨#[c]⟩, .str sz] = some (.val (.bl (decide (c ≤ 122)))) := by
  show some (Rv.val (.bl (!decide (sz.cps.toList < (⟨#[c]⟩ : Str).cps.toList)))) = _
  rw [sz_l]
  congr 3
  show (!decide ([122] < [c])) = _
  have e : decide ([122] < [c]) = decide (122 < c) := by
    refine decide_eq_decide.mpr ⟨fun h => ?_, fun h => List.Lex.rel h⟩
    cases h with
    | rel h => exact h
    | cons h => cases h
  rw [e]
  by_cases h : 122 < c
  · have h2 : ¬ c ≤ 122 := by omega
    simp [h, h2]
  · have h2 : c ≤ 122 := by omega
    simp [h, h2]
def odd (d : D) : Bool := match d with
  | .str ⟨⟨[c]⟩⟩ => !decide (97 ≤ c ∧ c ≤ 122)
  | _ => false
theorem lname_ok {z : Str} (hz : z.length ≤ 1000) : xf_l_is_name [.val (.str z)] = .ok (.val (.bl (nameOk z))) [.val (.str z)] := by
  have hs : z.length ≤ sizeLine := by rw [sizeLine_eq]; omega
  have es := sSeq_str (z := z) (by omega)
  have lp := loopC_pure (tg := .nm 2) (own := [2]) (t := bnot (tst (chn fLe fLe (.ex (cst (.str sa))) (.sl 2) (.ex (cst (.str sz)))))) (φ := nm 2) (p := odd) (f := id) (ρ := [some (.val (.str z)), none, none])
    (items := z.cps.toList.map fun c => .str ⟨#[c]⟩) (acc := []) fun d hd => ?_
  · rw [List.nil_append, List.map_id] at lp
    have ee : fEq [.lst ((z.cps.toList.map fun c => .str ⟨#[c]⟩).filter odd), .lst []] = some (.val (.bl (fine z))) := by
      rw [fEq_ok ?_ rfl]
      · have e1 : ∀ ds : List D, D.eq (.lst ds) (.lst []) = ds.isEmpty := fun ds => by cases ds <;> simp [D.eq, D.eqs]
        rw [e1]
        congr 3
        unfold fine
        generalize z.cps.toList = l
        induction l with
        | nil => rfl
        | cons c l ih =>
          by_cases hc : 97 ≤ c ∧ c ≤ 122
          · rw [List.map_cons, List.filter_cons_of_neg (by simp [odd, hc]), ih, List.all_cons]
            simp [hc]
          · rw [List.map_cons, List.filter_cons_of_pos (by simp only [odd, hc]; rfl), List.all_cons]
            simp [hc]
      · show (List.all _ (pl 59)) = true
        refine List.all_eq_true.mpr fun d hd => ?_
        obtain ⟨c, _, rfl⟩ := List.mem_map.mp (List.mem_filter.mp hd).1
        rfl
    generalize ((z.cps.toList.map fun c => D.str ⟨#[c]⟩).filter odd) = L at lp ee
    cases hf : fine z with
    | false =>
      have en : nameOk z = false := by simp [nameOk, hf]
      rw [en]
      rw [hf] at ee
      simp [xf_l_is_name, fnS, xb_l_is_name, finA, es, lp, ee]
    | true =>
      rw [hf] at ee
      by_cases h1 : 1 ≤ z.length
      · have h1' : (1 : Int) ≤ (z.length : Int) := by omega
        by_cases h2 : z.length ≤ 8
        · have h2' : (z.length : Int) ≤ 8 := by omega
          have en : nameOk z = true := by simp [nameOk, h1, h2, hf]
          rw [en]
          simp [xf_l_is_name, fnS, xb_l_is_name, finA, es, lp, ee, hs, h1', h2']
        · have h2' : ¬ (z.length : Int) ≤ 8 := by omega
          have en : nameOk z = false := by simp [nameOk, h1, h2]
          rw [en]
          simp [xf_l_is_name, fnS, xb_l_is_name, finA, es, lp, ee, hs, h1', h2']
      · have h1' : ¬ (1 : Int) ≤ (z.length : Int) := by omega
        have en : nameOk z = false := by simp [nameOk, h1]
        rw [en]
        simp [xf_l_is_name, fnS, xb_l_is_name, finA, es, lp, ee, hs, h1']
  · obtain ⟨c, hc, rfl⟩ := List.mem_map.mp hd
    refine ⟨[some (.val (.str z)), none, some (.val (.str ⟨#[c]⟩))], by simp, [some (.val (.str z)), none, some (.val (.str ⟨#[c]⟩))], ?_, fun _ => ⟨.val (.str ⟨#[c]⟩), _, by simp; rfl, rfl, by simp⟩, fun _ => by simp⟩
    by_cases h1 : 97 ≤ c
    · by_cases h2 : c ≤ 122
      · simp [le_a, le_z, h1, h2, odd]
      · simp [le_a, le_z, h1, h2, odd]
    · simp [le_a, le_z, h1, odd]
/-! ### whole numbers -/
theorem whole_no {d : D} (h : isB "int" d = some false) : xf_is_whole [.val d] = .ok (.val (.bl false)) [.val d] := by
  have e := fIsi_no h
  simp [xf_is_whole, fnS, xb_is_whole, finA, e]
theorem whole_bl {b : Bool} : xf_is_whole [.val (.bl b)] = .ok (.val (.bl false)) [.val (.bl b)] := by
  have e1 : fIsi "int" [.bl b] = some (.val (.bl true)) := fIsi_yes (show kitB "bool" "int" = _ by decide +kernel)
  have e2 : fIsi "bool" [.bl b] = some (.val (.bl true)) := fIsi_yes (show kitB "bool" "bool" = _ by decide +kernel)
  simp [xf_is_whole, fnS, xb_is_whole, finA, e1, e2]
theorem whole_int {i : Int} : xf_is_whole [.val (.int i)] = .ok (.val (.bl true)) [.val (.int i)] := by
  have e1 : fIsi "int" [.int i] = some (.val (.bl true)) := fIsi_yes (show kitB "int" "int" = _ by decide +kernel)
  have e2 : fIsi "bool" [.int i] = some (.val (.bl false)) := fIsi_no (show kitB "int" "bool" = _ by decide +kernel)
  simp [xf_is_whole, fnS, xb_is_whole, finA, e1, e2]
/-! ### the law -/
theorem cell_ok (ns : List Int) : ∃ i : Int, xf_l_cell_at [.val (.lst (ns.map .int)), .val (.int 0)] = .ok (.val (.int i)) [.val (.lst (ns.map .int)), .val (.int 0)] := by
  cases ns with
  | nil => exact ⟨0, by simp [xf_l_cell_at, fnS, xb_l_cell_at, finA]⟩
  | cons n ns =>
    have h : (0 : Int) < (ns.length : Int) + 1 := by omega
    exact ⟨n, by simp [xf_l_cell_at, fnS, xb_l_cell_at, finA, h, atI, ixN]⟩
theorem cut_ints (ns : List Int) (lo hi : Option Int) : ∃ ms : List Int, VF.cutD (ns.map .int) lo hi = ms.map .int ∧ ms.length ≤ ns.length := by
  unfold VF.cutD
  refine ⟨(ns.drop (HT.sIx (ns.map D.int).length 0 lo)).take (HT.sIx (ns.map D.int).length (ns.map D.int).length hi - HT.sIx (ns.map D.int).length 0 lo), by rw [List.map_take, List.map_drop], by simp; omega⟩
def body1 : SS := ifS (bor (tst (app fNe [.ex (callF xf_is_name [.ex (nm 3)] []), .ex (callF xf_l_is_name [.ex (nm 3)] [])])) (bor (bnot (tru (.ex (app (fIsi "bool") [.ex (callF xf_is_name [.ex (nm 3)] [])])))) (tru (.ex (callF xf_is_whole [.ex (nm 3)] []))))) (retE (cst (.bl false))) (skip)
def body2 : SS := ifS (bor (tst (app fIsNot [.ex (callF xf_is_whole [.ex (nm 6)] []), .ex (cst (.bl false))])) (band (tru (.ex (callF xf_is_name [.ex (nm 6)] []))) (bnot (tru (.ex (app (fIsi "str") [.sl 6])))))) (retE (cst (.bl false))) (skip)
theorem bool_bl {b : Bool} : fIsi "bool" [.bl b] = some (.val (.bl true)) := fIsi_yes (show kitB "bool" "bool" = _ by decide +kernel)
theorem body1_ok {z : Str} (hz : z.length ≤ 1000) {a b c e f g : Option Sl} : body1 [a, b, c, some (.val (.str z)), e, f, g] = .nx [a, b, c, some (.val (.str z)), e, f, g] := by
  have h1 := name_ok hz
  have h2 := lname_ok hz
  have h3 : xf_is_whole [.val (.str z)] = .ok (.val (.bl false)) [.val (.str z)] := whole_no (show kitB "str" "int" = _ by decide +kernel)
  have h4 : fNe [.bl (nameOk z), .bl (nameOk z)] = some (.val (.bl false)) := by
    rw [fNe_ok rfl rfl]
    simp [D.eq]
  simp [body1, h1, h2, h3, h4, bool_bl]
theorem body2_ok {d : D} {k : Bool} (hw : xf_is_whole [.val d] = .ok (.val (.bl false)) [.val d]) (hn : xf_is_name [.val d] = .ok (.val (.bl k)) [.val d]) (hk : k = true → fIsi "str" [d] = some (.val (.bl true))) {a b c e f g : Option Sl} :
    body2 [a, b, c, e, f, g, some (.val d)] = .nx [a, b, c, e, f, g, some (.val d)] := by
  cases k with
  | false => simp [body2, hw, hn]
  | true => simp [body2, hw, hn, hk rfl]
def bodyC : SS := (seq (setI 2 (callF xf_l_well [.ex (nm 1)] []))
  (seq (forS ⟨[.ex (disp mkL [callF xf_l_text [.sl 2] [], callF xf_l_good [.sl 2] []])], sSeq⟩ (.nm 3) (ifS (bor (tst (app fNe [.ex (callF xf_is_name [.ex (nm 3)] []), .ex (callF xf_l_is_name [.ex (nm 3)] [])])) (bor (bnot (tru (.ex (app (fIsi "bool") [.ex (callF xf_is_name [.ex (nm 3)] [])])))) (tru (.ex (callF xf_is_whole [.ex (nm 3)] []))))) (retE (cst (.bl false))) (skip)))
  (seq (setI 4 (app fSub [.ex (app fMod [.sl 1, .ex (app fPow [.ex (cst (.int 10)), .ex (cst (.int 60))])]), .ex (app fPow [.ex (cst (.int 10)), .ex (cst (.int 59))])]))
  (seq (setI 5 (app fItem [.ex (disp mkL [app fSub [.ex (callF xf_l_draw [.sl 2, .ex (cst (.int 9))] []), .ex (cst (.int 4))], app fSub [.ex (callF xf_l_draw [.sl 2, .ex (app fMul [.ex (cst (.int 2)), .ex (app fPow [.ex (cst (.int 10)), .ex (cst (.int 40))])])] []), .ex (app fPow [.ex (cst (.int 10)), .ex (cst (.int 40))])], nm 4]), .ex (callF xf_l_draw [.sl 2, .ex (cst (.int 3))] [])]))
  (seq (ifS (bor (tst (app fIsNot [.ex (callF xf_is_whole [.ex (nm 5)] []), .ex (cst (.bl true))])) (tru (.ex (callF xf_is_name [.ex (nm 5)] [])))) (retE (cst (.bl false))) (skip))
  (forS ⟨[.ex (disp mkL [cst (.bl true), cst (.bl false), cst .non, disp mkT [], disp mkT [cst (.str "a")], disp mkL [cst (.str "a")], disp mkD [], disp mkT [cst (.int 1)], disp mkL [nm 5], disp mkT [nm 5], app fStr [.sl 5]])], sSeq⟩ (.nm 6) (ifS (bor (tst (app fIsNot [.ex (callF xf_is_whole [.ex (nm 6)] []), .ex (cst (.bl false))])) (band (tru (.ex (callF xf_is_name [.ex (nm 6)] []))) (bnot (tru (.ex (app (fIsi "str") [.sl 6])))))) (retE (cst (.bl false))) (skip))))))))
theorem p60 : fPow [.int 10, .int 60] = some (.val (.int (10 ^ 60))) := fPow_ok (i := 10) (j := 60) (by decide) (by decide) (by decide)
theorem p59 : fPow [.int 10, .int 59] = some (.val (.int (10 ^ 59))) := fPow_ok (i := 10) (j := 59) (by decide) (by decide) (by decide)
theorem p40 : fPow [.int 10, .int 40] = some (.val (.int (10 ^ 40))) := fPow_ok (i := 10) (j := 40) (by decide) (by decide) (by decide)
theorem m40 : fMul [.int 2, .int (10 ^ 40)] = some (.val (.int (2 * 10 ^ 40))) := by
  rw [fMul_int, if_pos (by decide +kernel)]
theorem l40 : (2 * 10 ^ 40 : Int).natAbs.log2 < 9000 := by decide +kernel
theorem bodyC_ok {S : D} {cell : Int} {b c e f g : Option Sl} (hb : noRef b = true) (hc : noRef c = true) (he : noRef e = true) (hf : noRef f = true) (hg : noRef g = true) :
    ∃ b' c' e' f' g', bodyC [some (.val S), some (.val (.int cell)), b, c, e, f, g] = .nx [some (.val S), some (.val (.int cell)), b', c', e', f', g'] ∧ noRef b' = true ∧ noRef c' = true ∧ noRef e' = true ∧ noRef f' = true ∧ noRef g' = true := by
  obtain ⟨d0, e0, w0⟩ := well_ok cell
  obtain ⟨z1, d1, e1, w1, hz1⟩ := text_ok w0 (by decide)
  obtain ⟨z2, d2, e2, w2, hz2⟩ := good_ok w1 (by decide)
  have lp1 : ∀ {b e f g : Option Sl} {c : Option Sl}, noRef c = true → loopS (.nm 3) body1 [.str z1, .str z2] [some (.val S), some (.val (.int cell)), b, c, e, f, g] = .nx [some (.val S), some (.val (.int cell)), b, some (.val (.str z2)), e, f, g] := fun {b e f g c} hc => by
    simp [loopS, hc, body1_ok (show z1.length ≤ 1000 by omega), body1_ok (show z2.length ≤ 1000 by omega)]
  obtain ⟨r1, d3, e3, w3, r10, r11⟩ := draw_ok (s := 9) w2 (by decide) (by decide) (by decide)
  obtain ⟨P60, h60⟩ : ∃ x : Int, x = 10 ^ 60 := ⟨_, rfl⟩
  obtain ⟨P59, h59⟩ : ∃ x : Int, x = 10 ^ 59 := ⟨_, rfl⟩
  obtain ⟨P40, h40⟩ : ∃ x : Int, x = 10 ^ 40 := ⟨_, rfl⟩
  obtain ⟨Q40, k40⟩ : ∃ x : Int, x = 2 * 10 ^ 40 := ⟨_, rfl⟩
  have p60 : fPow [.int 10, .int 60] = some (.val (.int P60)) := by rw [h60]; exact p60
  have p59 : fPow [.int 10, .int 59] = some (.val (.int P59)) := by rw [h59]; exact p59
  have p40 : fPow [.int 10, .int 40] = some (.val (.int P40)) := by rw [h40]; exact p40
  have m40 : fMul [.int 2, .int P40] = some (.val (.int Q40)) := by rw [h40, k40]; exact m40
  have n60 : P60 ≠ 0 := by rw [h60]; decide
  obtain ⟨r2, d4, e4, w4, r20, r21⟩ := draw_ok (s := Q40) w3 (by decide) (by rw [k40]; decide) (by rw [k40]; exact l40)
  obtain ⟨r3, d5, e5, w5, r30, r31⟩ := draw_ok (s := 3) w4 (by decide) (by decide) (by decide)
  generalize hF : cell.fmod P60 - P59 = far
  have f1 := Int.fmod_nonneg_of_pos cell (b := P60) (by rw [h60]; decide)
  have f2 := Int.fmod_lt_of_pos cell (b := P60) (by rw [h60]; decide)
  have ew : ∃ wh : Int, atI [D.int (r1 - 4), .int (r2 - P40), .int far] r3 = some (.int wh) ∧ wh.natAbs < 10 ^ 61 := by
    have h3 : r3 = 0 ∨ r3 = 1 ∨ r3 = 2 := by omega
    rcases h3 with rfl | rfl | rfl
    · exact ⟨_, rfl, by omega⟩
    · exact ⟨_, rfl, by omega⟩
    · exact ⟨_, rfl, by omega⟩
  obtain ⟨wh, ew, hwh⟩ := ew
  have hlog : wh.natAbs.log2 < 1920 := by
    by_cases h0 : wh.natAbs = 0
    · rw [h0]; decide
    · exact (Nat.log2_lt h0).mpr (Nat.lt_trans hwh (by decide +kernel))
  have es : fStr [.int wh] = some (.val (.str (toString wh : String))) := if_pos hlog
  have hsl : (Str.ofString (toString wh)).length ≤ 1000 := by
    have := PySem.int_text_length_le10 (a := wh) (k := 61) (by decide) hwh
    rw [PySem.ofString_length]
    omega
  have hw1 : xf_is_whole [.val (.int wh)] = .ok (.val (.bl true)) [.val (.int wh)] := whole_int
  have hn1 : xf_is_name [.val (.int wh)] = .ok (.val (.bl false)) [.val (.int wh)] := name_no (show kitB "int" "str" = _ by decide +kernel)
  let odds : List D := [.bl true, .bl false, .non, .tup [], .tup [.str "a"], .lst [.str "a"], .dck [] [], .tup [.int 1], .lst [.int wh], .tup [.int wh], .str (toString wh : String)]
  have stp : ∀ d, d ∈ odds → ∀ a b c e f g : Option Sl, body2 [a, b, c, e, f, g, some (.val d)] = .nx [a, b, c, e, f, g, some (.val d)] := fun d hd a b c e f g => by
    have nb : kitB "bool" "str" = some false := by decide +kernel
    have nn : kitB "NoneType" "str" = some false := by decide +kernel
    have nt : kitB "tuple" "str" = some false := by decide +kernel
    have nl : kitB "list" "str" = some false := by decide +kernel
    have nd : kitB "dict" "str" = some false := by decide +kernel
    have wn : kitB "NoneType" "int" = some false := by decide +kernel
    have wt : kitB "tuple" "int" = some false := by decide +kernel
    have wl : kitB "list" "int" = some false := by decide +kernel
    have wd : kitB "dict" "int" = some false := by decide +kernel
    have ws : kitB "str" "int" = some false := by decide +kernel
    simp only [odds, List.mem_cons, List.not_mem_nil, or_false] at hd
    rcases hd with rfl | rfl | rfl | rfl | rfl | rfl | rfl | rfl | rfl | rfl | rfl
    · exact body2_ok (d := .bl true) whole_bl (name_no nb) (fun h => by cases h)
    · exact body2_ok (d := .bl false) whole_bl (name_no nb) (fun h => by cases h)
    · exact body2_ok (d := .non) (whole_no wn) (name_no nn) (fun h => by cases h)
    · exact body2_ok (d := .tup []) (whole_no wt) (name_no nt) (fun h => by cases h)
    · exact body2_ok (d := .tup [.str "a"]) (whole_no wt) (name_no nt) (fun h => by cases h)
    · exact body2_ok (d := .lst [.str "a"]) (whole_no wl) (name_no nl) (fun h => by cases h)
    · exact body2_ok (d := .dck [] []) (whole_no wd) (name_no nd) (fun h => by cases h)
    · exact body2_ok (d := .tup [.int 1]) (whole_no wt) (name_no nt) (fun h => by cases h)
    · exact body2_ok (d := .lst [.int wh]) (whole_no wl) (name_no nl) (fun h => by cases h)
    · exact body2_ok (d := .tup [.int wh]) (whole_no wt) (name_no nt) (fun h => by cases h)
    · exact body2_ok (d := .str (toString wh : String)) (whole_no ws) (name_ok hsl) (fun _ => fIsi_str)
  have lp3 : ∀ {a b c e f h g : Option Sl}, noRef g = true → ∃ ρ', loopS (.nm 6) body2 odds [a, b, c, e, f, h, g] = .nx ρ' ∧ ∃ g', ρ' = [a, b, c, e, f, h, g'] ∧ noRef g' = true := fun {a b c e f h g} hg =>
    loop_nx (fun ρ => ∃ g', ρ = [a, b, c, e, f, h, g'] ∧ noRef g' = true) ⟨g, rfl, hg⟩ fun d hd ρ ⟨g', hr, hg'⟩ => by
      subst hr
      exact ⟨[a, b, c, e, f, h, some (.val d)], by simp [hg'], _, stp d hd a b c e f h, some (.val d), rfl, rfl⟩
  obtain ⟨ρ', l3, g', rfl, hg'⟩ := lp3 (a := some (.val S)) (b := some (.val (.int cell))) (c := some (.own d5)) (e := some (.val (.str z2))) (f := some (.val (.int far))) (h := some (.val (.int wh))) hg
  refine ⟨some (.own d5), some (.val (.str z2)), some (.val (.int far)), some (.val (.int wh)), g', ?_, rfl, rfl, rfl, rfl, hg'⟩
  have lp1' := lp1 (b := some (.own d2)) (e := e) (f := f) (g := g) hc
  simp only [odds] at l3
  unfold body1 at lp1'
  unfold body2 at l3
  simp [bodyC, hb, e0, e1, e2, lp1', he, hf, p60, p59, p40, m40, n60, hF, e3, e4, e5, ew, hw1, hn1, es]
  exact l3
theorem answer (ns : List Int) (h1 : ns.length ≤ 63) (h2 : ∀ z ∈ ns, Builtin.Int.intBits z ≤ 1048576) : ∃ outs, xf_law [.val (.lst (ns.map .int))] = .ok (.val (.bl true)) outs := by
  obtain ⟨i, e1⟩ := cell_ok ns
  obtain ⟨ms, e2, l2⟩ := cut_ints ns (some 1) (some 30)
  have e3 : fSl (.lst (ns.map .int)) (some 1) (some 30) = some (.own (.lst (ms.map .int))) := by
    show some (Rv.own (.lst (VF.cutD (ns.map .int) (some 1) (some 30)))) = _
    rw [e2]
  have e4 : fAdd [.lst [.int i], .lst (ms.map .int)] = some (.own (.lst ((i :: ms).map .int))) := fAdd_lst (by simp; omega)
  let P : En → Prop := fun ρ => ∃ a b c e f g, ρ = [some (.val (.lst (ns.map .int))), a, b, c, e, f, g] ∧ noRef a = true ∧ noRef b = true ∧ noRef c = true ∧ noRef e = true ∧ noRef f = true ∧ noRef g = true
  have lp := loop_nx (tg := .nm 1) (body := bodyC) P (items := (i :: ms).map .int) (ρ := [some (.val (.lst (ns.map .int))), none, none, none, none, none, none]) ⟨none, none, none, none, none, none, rfl, rfl, rfl, rfl, rfl, rfl, rfl⟩ ?_
  · obtain ⟨ρ', e5, a, b, c, e, f, g, rfl, _⟩ := lp
    refine ⟨[.val (.lst (ns.map .int))], ?_⟩
    unfold bodyC at e5
    simp only [List.map_cons] at e4 e5
    simp [xf_law, fnS, xb_law, finA, e1, e3, e4, e5]
  · rintro d hd ρ ⟨a, b, c, e, f, g, rfl, ha, hb, hc, he, hf, hg⟩
    obtain ⟨cell, _, rfl⟩ := List.mem_map.mp hd
    obtain ⟨b', c', e', f', g', e5, hb', hc', he', hf', hg'⟩ := bodyC_ok (S := .lst (ns.map .int)) (cell := cell) hb hc he hf hg
    exact ⟨_, by simp [ha], _, e5, _, _, _, _, _, _, rfl, rfl, hb', hc', he', hf', hg'⟩
end K01

open PySem PySem.W PySem.Calls PyProof.Rows
theorem PySem.Challenge.cw_voicefold_k01_whole_numbers_and_names_holds : PySem.Challenge.rw_voicefold_k01_whole_numbers_and_names.Holds := by
  w_on; o_law
  refine HandSHeadRun.head_any (r := (PySem.W.OpenLaw.row PySem.Challenge.rw_voicefold_k01_whole_numbers_and_names)) (q := view (PySem.W.OpenLaw.row PySem.Challenge.rw_voicefold_k01_whole_numbers_and_names).prog [13]) (H := K01.hkX) (ob := K01.obX) (M := 3000) (loose := K01.nmX) (d := HandSHeadRun.topDef (PySem.W.OpenLaw.row PySem.Challenge.rw_voicefold_k01_whole_numbers_and_names).prog 13) (kwd := []) K01.obX_eq
    (by kernel_rfl) (fun s => by kernel_rfl) K01.runX (by kernel_rfl) (by kernel_rfl) (by kernel_rfl) (by rfl) (by first | assumption | decide +kernel) (by decide +kernel) ⟨rfl, rfl, rfl, rfl, rfl, by decide +kernel⟩ ?hw ?hc
  case hw => w_witness2
  case hc =>
    refine VF.walk_ofV (l := PySem.Challenge.rw_voicefold_k01_whole_numbers_and_names) (n := 63) (k := 4) (x := "_law_script") (φ := K01.xf_law) rfl (by decide) (by kernel_rfl) ⟨rfl, by decide, by decide⟩ ?F K01.answer
    intro w mg fa h Y N hmg0
    obtain ⟨K, KX, c⟩ := Y
    have hmg : mg ("law" : PySem.Str) = some (.ref fa) := by
      have e : (HandSHeadRun.topDef (PySem.W.OpenLaw.row PySem.Challenge.rw_voicefold_k01_whole_numbers_and_names).prog 13).name = ("law" : PySem.Str) := by kernel_rfl
      rw [← e]
      exact hmg0
    obtain ⟨fd, hb, hF⟩ := K01.factsX (P := (PySem.Challenge.rw_voicefold_k01_whole_numbers_and_names).prog) (w := w) KX N hmg c
    exact ⟨K, fd, [], KX, hb, hF⟩
